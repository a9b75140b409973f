import PyProof.Rows.All
import Wide.All
import OpenK.AllK
import Wide.FinOn
import HandS.ForMost
import HandS.Walk
import HandS.Exc
import HandS.ExcInit
import HandS.TryOnly
import HandS.WordsExc
import HandS.TupAny
import HandS.Wide
import HandS.WideBits
import HandS.IsInst
import HandS.ExcField
import HandS.TupMul
import HandS.TupLe
import HandS.Style
import HandS.CallSlots
import KE.KTupSum
import HandS.Defaults
import HandS.Text
import HandS.More
import HandS.Iter
import HandS.Zip
import HandS.Comp
import HandS.Conv
import HandS.TryMany
import HandS.HotCalls
import KE.KExcIs
import HandS.EndBits
import HandS.HeadEnd
import HandS.HeadHook1
import HandS.HeadHook2
import KE.KStateDown
import Lean
import HandS.Head0
import HandS.Head1
import HandS.Head2
import PySem.Challenge.RW_giftspared_k04_lots_told
set_option linter.all false
set_option Elab.async false
set_option autoImplicit false
set_option maxRecDepth 100000
set_option maxHeartbeats 4000000
set_option exponentiation.threshold 20000
/-! GsSem: plain values, a small store of mutable objects, and combinators: what the supported part of Python means over them. -/
namespace Gs
open PySem

/-- a name as a number -/
def nidL : List Nat → Nat
  | [] => 0
  | c :: r => nidL r * 2097152 + (c + 1)
def nid (s : Str) : Nat := nidL s.cps.toList
/-- a name that a program may have -/
def okN (s : Str) : Bool := s.cps.toList.all (fun c => Nat.blt c 1114112) && !(s == ("__debug__" : Str)) && !(s == ("__classdict__" : Str)) && !(s == ("__name__" : Str))
theorem nidL_inj : ∀ {l k : List Nat}, (l.all fun c => Nat.blt c 1114112) = true → (k.all fun c => Nat.blt c 1114112) = true → nidL l = nidL k → l = k
  | [], [], _, _, _ => rfl
  | [], c :: r, _, _, e => by simp only [nidL] at e; omega
  | c :: r, [], _, _, e => by simp only [nidL] at e; omega
  | c :: r, d :: q, h, g, e => by
    simp only [List.all_cons, Bool.and_eq_true, Nat.blt_eq] at h g
    simp only [nidL] at e
    have e1 : c = d := by omega
    have e2 : nidL r = nidL q := by omega
    rw [e1, nidL_inj h.2 g.2 e2]
theorem okN_all {s : Str} (h : okN s = true) : (s.cps.toList.all fun c => Nat.blt c 1114112) = true := by
  unfold okN at h
  simp only [Bool.and_eq_true] at h
  exact h.1.1.1
theorem nid_inj {s t : Str} (h : okN s = true) (g : okN t = true) (e : nid s = nid t) : s = t := by
  have := nidL_inj (okN_all h) (okN_all g) e
  obtain ⟨a⟩ := s
  obtain ⟨b⟩ := t
  simp only [Array.toList_inj] at this
  rw [this]
theorem okN_debug {s : Str} (h : okN s = true) : (s == ("__debug__" : Str)) = false := by
  unfold okN at h
  simp only [Bool.and_eq_true, Bool.not_eq_true'] at h
  exact h.1.1.2
theorem okN_classdict {s : Str} (h : okN s = true) : (s == ("__classdict__" : Str)) = false := by
  unfold okN at h
  simp only [Bool.and_eq_true, Bool.not_eq_true'] at h
  exact h.1.2
theorem okN_name {s : Str} (h : okN s = true) : s ≠ "__name__" := by
  unfold okN at h
  simp only [Bool.and_eq_true, Bool.not_eq_true'] at h
  intro e
  rw [e] at h
  have : (("__name__" : Str) == ("__name__" : Str)) = true := by simp
  rw [this] at h
  exact absurd h.2 (by simp)

/-- a value: tuples, frozen lists, frozen instances, errors are trees; ref n: a mutable object of the store; rol: a list that is only read; fn: a def -/
inductive D where
  | non | bl (b : Bool) | int (i : Int) | str (s : Str)
  | tup (xs : List D) | lst (xs : List D) | rol (xs : List D)
  | obj (c : Nat) (fs : List (Nat × D))
  | exc (c : Nat) (fs : List (Nat × D))
  | ref (n : Nat)
  | fn (f : Nat)
  deriving Inhabited, Repr

inductive Cell where
  | lst (xs : List D)
  | lck (xs : List D)
  | ins (c : Nat) (fs : List (Nat × D))
  | dct (kvs : List (D × D))
  | frz (d : D)
  deriving Inhabited, Repr

structure Mu where
  nx : Nat
  cs : List (Nat × Cell)
  deriving Inhabited, Repr

inductive R (α : Type) where
  | ok (a : α) (m : Mu)
  | exc (c : Nat) (fs : List (Nat × D)) (m : Mu)
  | stuck

abbrev M (α : Type) := Mu → R α
abbrev Env := List (Option D)
abbrev Ex := Env → M D
abbrev Exs := Env → M (List D)
abbrev Run := Nat → Nat → List D → M D

def M.ret {α : Type} (a : α) : M α := fun m => .ok a m
def M.stuck {α : Type} : M α := fun _ => .stuck
def M.bind {α β : Type} (x : M α) (f : α → M β) : M β := fun m => match x m with
  | .ok a m' => f a m'
  | .exc c fs m' => .exc c fs m'
  | .stuck => .stuck
def M.opt {α : Type} (o : Option α) : M α := fun m => match o with
  | some a => .ok a m
  | none => .stuck
/-- an error within is not let out (a comprehension's step) -/
def M.nox {α : Type} (x : M α) : M α := fun m => match x m with
  | .ok a m' => .ok a m'
  | _ => .stuck

/-! ### the store -/
def Mu.get (m : Mu) (n : Nat) : Option Cell := m.cs.lookup n
def setL (n : Nat) (c : Cell) : List (Nat × Cell) → List (Nat × Cell)
  | [] => []
  | p :: r => if p.1 = n then (n, c) :: r else p :: setL n c r
def Mu.put (m : Mu) (n : Nat) (c : Cell) : Mu := ⟨m.nx, setL n c m.cs⟩
def Mu.new (m : Mu) (c : Cell) : Mu := ⟨m.nx + 1, (m.nx, c) :: m.cs⟩
/-- what was made from n on is let go -/
def Mu.drop (m : Mu) (n : Nat) : Mu := ⟨m.nx, m.cs.dropWhile fun p => Nat.ble n p.1⟩
/-- a reference to a frozen object is what it was frozen as -/
def rs (m : Mu) : D → D
  | .ref n => match m.get n with
    | some (.frz d) => d
    | _ => .ref n
  | d => d
/-- a value as it is read now -/
def vw (m : Mu) : D → D
  | .ref n => match m.get n with
    | some (.lst xs) => .lst xs
    | some (.lck xs) => .lst xs
    | some (.frz d) => d
    | _ => .ref n
  | d => d
/-- the items of a list or a tuple as it is read now -/
def sq (m : Mu) (d : D) : Option (List D) := match vw m d with
  | .tup xs => some xs
  | .lst xs => some xs
  | .rol xs => some xs
  | _ => none

/-! ### expressions -/
def eC (d : D) : Ex := fun _ => M.ret d
def eV (i : Nat) : Ex := fun ρ m => match ρ[i]? with
  | some (some d) => .ok (rs m d) m
  | _ => .stuck
def eNo : Ex := fun _ => M.stuck
def esNil : Exs := fun _ => M.ret []
def esCons (e : Ex) (es : Exs) : Exs := fun ρ => (e ρ).bind fun d => (es ρ).bind fun ds => M.ret (d :: ds)
/-- an operation on two values as they are read -/
def e2 (f : Mu → D → D → Option D) (a b : Ex) : Ex := fun ρ => (a ρ).bind fun x => (b ρ).bind fun y m => M.opt (f m x y) m
def e1 (f : Mu → D → Option D) (a : Ex) : Ex := fun ρ => (a ρ).bind fun x m => M.opt (f m x) m

def lineOk (n : Nat) : Bool := Nat.ble n 16777216
def mkTup (xs : List D) : Option D := if lineOk xs.length then some (.tup xs) else none
def mkLst (xs : List D) : Option D := if lineOk xs.length then some (.lst xs) else none

def bitsOf (i : Int) : Nat := Builtin.Int.intBits i
def mulOk (i j : Int) : Bool := Nat.ble (bitsOf i + bitsOf j) 134217728
def oAdd (m : Mu) (x y : D) : Option D := match vw m x, vw m y with
  | .int i, .int j => some (.int (i + j))
  | .str s, .str t => if lineOk (s.length + t.length) then some (.str (s ++ t)) else none
  | .tup xs, .tup ys => if lineOk (xs.length + ys.length) then some (.tup (xs ++ ys)) else none
  | .lst xs, .lst ys => if lineOk (xs.length + ys.length) then some (.lst (xs ++ ys)) else none
  | _, _ => none
def oSub (_ : Mu) (x y : D) : Option D := match x, y with
  | .int i, .int j => some (.int (i - j))
  | _, _ => none
def reps (k : Nat) (xs : List D) : List D := (List.replicate k xs).flatten
def oMul (m : Mu) (x y : D) : Option D := match vw m x, y with
  | .int i, .int j => if mulOk i j then some (.int (i * j)) else none
  | .lst xs, .int k => if decide (-(2 ^ 63) ≤ k) && decide (k < 2 ^ 63) && lineOk (xs.length * k.toNat) then some (.lst (reps k.toNat xs)) else none
  | .str s, .int k => if decide (1 ≤ k) && decide (k ≤ 1000) && Nat.ble s.length 1000 then some (.str (Txt.mul s k)) else none
  | .tup xs, .int k => if decide (2 ≤ k) && decide (k ≤ 1000) && Nat.ble 1 xs.length && Nat.ble xs.length 1000 then some (.tup (reps k.toNat xs)) else none
  | _, _ => none
def oFdiv (_ : Mu) (x y : D) : Option D := match x, y with
  | .int i, .int j => if decide (0 < j) && Nat.blt j.natAbs.log2 9000 then some (.int (i / j)) else none
  | _, _ => none
def oMod (_ : Mu) (x y : D) : Option D := match x, y with
  | .int i, .int j => if decide (0 < j) then some (.int (i % j)) else none
  | _, _ => none
def oPow (_ : Mu) (x y : D) : Option D := match x, y with
  | .int i, .int j => if decide (0 ≤ j) && decide (j ≤ 1000000) && Nat.blt i.natAbs 18446744073709551616 then some (.int (i ^ j.toNat)) else none
  | _, _ => none
def oShl (_ : Mu) (x y : D) : Option D := match x, y with
  | .int i, .int j => if decide (0 ≤ j) && decide ((bitsOf i : Int) + j ≤ 134217728) then some (.int (i * 2 ^ j.toNat)) else none
  | _, _ => none
def oShr (_ : Mu) (x y : D) : Option D := match x, y with
  | .int i, .int j => if decide (0 ≤ j) then some (.int (i / 2 ^ j.toNat)) else none
  | _, _ => none
def oAnd (_ : Mu) (x y : D) : Option D := match x, y with
  | .int i, .int j => some (.int (Builtin.bitAnd i j))
  | _, _ => none
def oOr (_ : Mu) (x y : D) : Option D := match x, y with
  | .int i, .int j => some (.int (Builtin.bitOr i j))
  | _, _ => none
def oXor (_ : Mu) (x y : D) : Option D := match x, y with
  | .int i, .int j => some (.int (Builtin.bitXor i j))
  | _, _ => none
def oNeg (_ : Mu) (x : D) : Option D := match x with
  | .int i => some (.int (-i))
  | _ => none
def oInv (_ : Mu) (x : D) : Option D := match x with
  | .int i => some (.int (Builtin.bitNot i))
  | _ => none

/-! ### comparisons -/
mutual
/-- plain data, as the library's own equality takes it -/
def pyOf (m : Mu) : D → Option PyData
  | .non => some .none
  | .bl b => some (.bool b)
  | .int i => some (.int i)
  | .str s => some (.str s)
  | .tup xs => (pyAll m xs).map PyData.tuple
  | .lst xs => (pyAll m xs).map PyData.list
  | .rol xs => (pyAll m xs).map PyData.list
  | _ => none
def pyAll (m : Mu) : List D → Option (List PyData)
  | [] => some []
  | x :: xs => match pyOf m x, pyAll m xs with
    | some d, some ds => some (d :: ds)
    | _, _ => none
end
/-- == of plain data -/
def eqD (m : Mu) (x y : D) : Option Bool := match pyOf m (vw m x), pyOf m (vw m y) with
  | some d, some e => if SeqAt.shaped d && SeqAt.shaped e then some (PyData.eqv d e) else none
  | _, _ => none
def cEq (m : Mu) (x y : D) : Option D := (eqD m x y).map D.bl
def cNe (m : Mu) (x y : D) : Option D := (eqD m x y).map fun b => D.bl (!b)
def intsOf : List D → Option (List Int)
  | [] => some []
  | .int i :: r => (intsOf r).map (i :: ·)
  | _ => none
def cLt (_ : Mu) (x y : D) : Option D := match x, y with
  | .int i, .int j => some (.bl (decide (i < j)))
  | .str s, .str t => some (.bl (decide (s.cps.toList < t.cps.toList)))
  | .tup xs, .tup ys => match intsOf xs, intsOf ys with
    | some ns, some ms => some (.bl (HT.lexLt ns ms))
    | _, _ => none
  | _, _ => none
def cLe (_ : Mu) (x y : D) : Option D := match x, y with
  | .int i, .int j => some (.bl (decide (i ≤ j)))
  | .tup xs, .tup ys => match intsOf xs, intsOf ys with
    | some ns, some ms => some (.bl (!HT.lexLt ms ns))
    | _, _ => none
  | _, _ => none
def cGt (_ : Mu) (x y : D) : Option D := match x, y with
  | .int i, .int j => some (.bl (decide (j < i)))
  | .tup xs, .tup ys => match intsOf xs, intsOf ys with
    | some ns, some ms => some (.bl (HT.lexLt ms ns))
    | _, _ => none
  | _, _ => none
def cGe (_ : Mu) (x y : D) : Option D := match x, y with
  | .int i, .int j => some (.bl (decide (j ≤ i)))
  | _, _ => none
def isN (d : D) : Bool := match d with
  | .non => true
  | _ => false
def cIs (_ : Mu) (x y : D) : Option D := match y with
  | .non => some (.bl (isN x))
  | _ => none
def cIsNot (_ : Mu) (x y : D) : Option D := match y with
  | .non => some (.bl (!isN x))
  | _ => none
/-- flat values, and == of them -/
def flatD : D → Bool
  | .non => true
  | .bl _ => true
  | .int _ => true
  | .str _ => true
  | _ => false
def eqF : D → D → Bool
  | .non, .non => true
  | .bl a, .bl b => a == b
  | .bl a, .int b => (if a then 1 else 0) == b
  | .int a, .bl b => a == (if b then 1 else 0)
  | .int a, .int b => a == b
  | .str a, .str b => a == b
  | _, _ => false
def inF (x : D) (xs : List D) : Bool := xs.any fun y => eqF y x
def inD (m : Mu) (x y : D) : Option Bool := match x, vw m y with
  | .str s, .str t => some (!(Builtin.Str.occurrences t s 0 t.length 1).isEmpty)
  | x, .tup xs => if flatD x && xs.all flatD then some (inF x xs) else none
  | x, .lst xs => if flatD x && xs.all flatD then some (inF x xs) else none
  | _, _ => none
def cIn (m : Mu) (x y : D) : Option D := (inD m x y).map D.bl
def cNotIn (m : Mu) (x y : D) : Option D := (inD m x y).map fun b => D.bl (!b)

/-! ### tests, and, or, not -/
/-- truth -/
def tru (m : Mu) (d : D) : Option Bool := match vw m d with
  | .non => some false
  | .bl b => some b
  | .int i => some (i != 0)
  | .str s => if lineOk s.length then some (s.length != 0) else none
  | .tup xs => some (!xs.isEmpty)
  | .lst xs => some (!xs.isEmpty)
  | _ => none
abbrev Tst := Env → M Bool
def tE (e : Ex) : Tst := fun ρ => (e ρ).bind fun d m => M.opt (tru m d) m
def tAnd (a b : Tst) : Tst := fun ρ => (a ρ).bind fun c => if c then b ρ else M.ret false
def tOr (a b : Tst) : Tst := fun ρ => (a ρ).bind fun c => if c then M.ret true else b ρ
def tNot (a : Tst) : Tst := fun ρ => (a ρ).bind fun c => M.ret (!c)
def asBl : D → Option Bool
  | .bl b => some b
  | _ => none
/-- and, or as values: the first parts give truth values -/
def eAnd (a b : Ex) : Ex := fun ρ => (a ρ).bind fun x => (M.opt (asBl x)).bind fun c => if c then b ρ else M.ret (.bl false)
def eOr (a b : Ex) : Ex := fun ρ => (a ρ).bind fun x => (M.opt (asBl x)).bind fun c => if c then M.ret (.bl true) else b ρ
def eNot (a : Ex) : Ex := fun ρ => (a ρ).bind fun x => (M.opt (asBl x)).bind fun c => M.ret (.bl (!c))
def eIf (t : Tst) (a b : Ex) : Ex := fun ρ => (t ρ).bind fun c => if c then a ρ else b ρ
/-- a < b < c -/
def eChain (f g : Mu → D → D → Option D) (a b c : Ex) : Ex := fun ρ => (a ρ).bind fun x => (b ρ).bind fun y m => (M.opt ((f m x y).bind asBl)).bind (fun k => if k then (c ρ).bind fun z m => M.opt (g m y z) m else M.ret (.bl false)) m

/-! ### displays, items, slices, fields -/
def eTup (es : Exs) : Ex := fun ρ => (es ρ).bind fun ds => M.opt (mkTup ds)
def eLst (es : Exs) : Ex := fun ρ => (es ρ).bind fun ds => M.opt (mkLst ds)
/-- a value made anew is a mutable list of the store -/
def eMut (e : Ex) : Ex := fun ρ => (e ρ).bind fun d m => match d with
  | .lst xs => .ok (.ref m.nx) (m.new (.lst xs))
  | _ => .stuck
/-- the list is frozen -/
def eFrz (e : Ex) : Ex := fun ρ => (e ρ).bind fun d m => match d with
  | .ref n => match m.get n with
    | some (.lst xs) => .ok (.lst xs) (m.put n (.frz (.lst xs)))
    | some (.ins c fs) => .ok (.obj c fs) (m.put n (.frz (.obj c fs)))
    | _ => .ok d m
  | _ => .ok d m
def oItem (m : Mu) (x y : D) : Option D := match vw m x, y with
  | .tup xs, .int i => (L2.atI xs i).map (rs m)
  | .lst xs, .int i => (L2.atI xs i).map (rs m)
  | .rol xs, .int i => (L2.atI xs i).map (rs m)
  | .str s, .int i => if lineOk s.length then (L2.atI s.cps.toList i).map fun c => D.str ⟨#[c]⟩ else none
  | _, _ => none
def cutD (xs : List D) (lo hi : Option Int) : List D := (xs.drop (HT.sIx xs.length 0 lo)).take (HT.sIx xs.length xs.length hi - HT.sIx xs.length 0 lo)
def cutC (xs : List Nat) (lo hi : Option Int) : List Nat := (xs.drop (HT.sIx xs.length 0 lo)).take (HT.sIx xs.length xs.length hi - HT.sIx xs.length 0 lo)
def oCut (m : Mu) (x : D) (lo hi : Option Int) : Option D := match vw m x with
  | .tup xs => some (.tup (cutD xs lo hi))
  | .lst xs => some (.lst (cutD xs lo hi))
  | .rol xs => some (.lst (cutD xs lo hi))
  | .str s => if lineOk s.length then some (.str ⟨(cutC s.cps.toList lo hi).toArray⟩) else none
  | _ => none
abbrev Prt := Env → M (Option Int)
def pNo : Prt := fun _ => M.ret none
def asInt : D → Option Int
  | .int i => some i
  | _ => none
def pE (e : Ex) : Prt := fun ρ => (e ρ).bind fun d => (M.opt (asInt d)).bind fun i => M.ret (some i)
def eCut (e : Ex) (lo hi : Prt) : Ex := fun ρ => (e ρ).bind fun x => (lo ρ).bind fun l => (hi ρ).bind fun h m => M.opt (oCut m x l h) m
/-- xs[::-1] -/
def oBack (m : Mu) (x : D) : Option D := match vw m x with
  | .lst xs => some (.lst xs.reverse)
  | .tup xs => some (.tup xs.reverse)
  | _ => none
def oFld (f : Nat) (m : Mu) (x : D) : Option D := match x with
  | .obj _ fs => (fs.lookup f).map (rs m)
  | .exc _ fs => (fs.lookup f).map (rs m)
  | .ref n => match m.get n with
    | some (.ins _ fs) => (fs.lookup f).map (rs m)
    | _ => none
  | _ => none

/-! ### classes -/
inductive Ty where
  | bool | int | str | tuple | list | own (c : Nat)
  deriving DecidableEq, Repr, Inhabited
/-- what the classes are: bs c, all classes that c is or is under -/
abbrev Bases := Nat → List Nat
def clsOf (m : Mu) : D → Option Nat
  | .obj c _ => some c
  | .exc c _ => some c
  | .ref n => match m.get n with
    | some (.ins c _) => some c
    | some (.frz (.obj c _)) => some c
    | _ => none
  | _ => none
def isA (bs : Bases) (m : Mu) (d : D) (t : Ty) : Bool := match t with
  | .bool => match d with
    | .bl _ => true
    | _ => false
  | .int => match d with
    | .bl _ => true
    | .int _ => true
    | _ => false
  | .str => match d with
    | .str _ => true
    | _ => false
  | .tuple => match d with
    | .tup _ => true
    | _ => false
  | .list => match vw m d with
    | .lst _ => true
    | .rol _ => true
    | _ => false
  | .own c => match clsOf m d with
    | some k => (bs k).contains c
    | none => false
def known (m : Mu) (d : D) : Bool := match d with
  | .fn _ => false
  | .ref n => match m.get n with
    | some (.lst _) => true
    | some (.lck _) => true
    | some (.ins _ _) => true
    | _ => false
  | _ => true
def eIsi (bs : Bases) (ts : List Ty) (e : Ex) : Ex := fun ρ => (e ρ).bind fun d m => if known m d then .ok (.bl (ts.any fun t => isA bs m d t)) m else .stuck

/-! ### built-ins -/
def oLen (m : Mu) (x : D) : Option D := match vw m x with
  | .tup xs => some (.int xs.length)
  | .lst xs => some (.int xs.length)
  | .rol xs => some (.int xs.length)
  | .str s => if lineOk s.length then some (.int s.length) else none
  | .ref n => match m.get n with
    | some (.dct kvs) => some (.int kvs.length)
    | _ => none
  | _ => none
def oInt (_ : Mu) (x : D) : Option D := match x with
  | .int i => some (.int i)
  | .bl b => some (.int (if b then 1 else 0))
  | .str s => if Nat.ble s.length 640 then (PySem.intText? s).map D.int else none
  | _ => none
def oAbs (_ : Mu) (x : D) : Option D := match x with
  | .int i => some (.int (if i < 0 then -i else i))
  | _ => none
def oStr (_ : Mu) (x : D) : Option D := match x with
  | .int i => if Nat.blt i.natAbs.log2 1920 then some (.str (Str.ofString (toString i))) else none
  | _ => none
def oTuple (m : Mu) (x : D) : Option D := match vw m x with
  | .tup xs => some (.tup xs)
  | .lst xs => some (.tup xs)
  | .rol xs => some (.tup xs)
  | _ => none
def oList (m : Mu) (x : D) : Option D := match vw m x with
  | .tup xs => some (.lst xs)
  | .lst xs => some (.lst xs)
  | .rol xs => some (.lst xs)
  | _ => none
def oSum (m : Mu) (x : D) : Option D := match sq m x with
  | some xs => (intsOf xs).map fun ns => .int ns.sum
  | none => none
def blsOf : List D → Option (List Bool)
  | [] => some []
  | .bl b :: r => (blsOf r).map (b :: ·)
  | _ => none
def oAny (m : Mu) (x : D) : Option D := match vw m x with
  | .lst xs => (blsOf xs).map fun bs => .bl (bs.any id)
  | _ => none
def oAll (m : Mu) (x : D) : Option D := match vw m x with
  | .lst xs => (blsOf xs).map fun bs => .bl (bs.all id)
  | _ => none
def maxL : List Int → Option Int
  | [] => none
  | x :: xs => some (xs.foldl max x)
def minL : List Int → Option Int
  | [] => none
  | x :: xs => some (xs.foldl min x)
def oMax1 (m : Mu) (x : D) : Option D := match vw m x with
  | .lst xs => ((intsOf xs).bind maxL).map D.int
  | _ => none
def oMin1 (m : Mu) (x : D) : Option D := match vw m x with
  | .lst xs => ((intsOf xs).bind minL).map D.int
  | _ => none
def oMax2 (_ : Mu) (x y : D) : Option D := match x, y with
  | .int i, .int j => some (.int (if j > i then j else i))
  | _, _ => none
def oMin2 (_ : Mu) (x y : D) : Option D := match x, y with
  | .int i, .int j => some (.int (if j < i then j else i))
  | _, _ => none

/-! ### iteration: the items that a for or a comprehension goes through -/
/-- what is walked: how many turns, whether it is still as long, the item of a turn -/
structure Wk where
  len : Nat
  ok : Mu → Bool
  at_ : Nat → Mu → Option D
abbrev Itr := Env → M Wk
def wkL (xs : List D) : Wk := ⟨xs.length, fun _ => true, fun i m => (xs[i]?).map (rs m)⟩
def wkRef (n len : Nat) : Wk := ⟨len, fun m => (match m.get n with
    | some (.lst ys) => Nat.beq ys.length len
    | _ => false), fun i m => match m.get n with
    | some (.lst ys) => (ys[i]?).map (rs m)
    | _ => none⟩
def wkRng (lo : Int) (n : Nat) : Wk := ⟨n, fun _ => true, fun i _ => some (.int (lo + (i : Nat)))⟩
def wkStr (s : Str) : Wk := ⟨s.cps.size, fun _ => true, fun i _ => (s.cps[i]?).map fun c => D.str ⟨#[c]⟩⟩
/-- a list or a tuple that is walked -/
def wkSq (m : Mu) (d : D) : Option Wk := match rs m d with
  | .tup xs => some (wkL xs)
  | .lst xs => some (wkL xs)
  | .rol xs => some (wkL xs)
  | .ref n => match m.get n with
    | some (.lst xs) => some (wkRef n xs.length)
    | _ => none
  | _ => none
def wkOf (m : Mu) (d : D) : Option Wk := match rs m d with
  | .str s => some (wkStr s)
  | _ => wkSq m d
def tupD (m : Mu) (d : D) : Bool := match rs m d with
  | .tup _ => true
  | _ => false
def wkEnum (w : Wk) : Wk := ⟨w.len, w.ok, fun i m => (w.at_ i m).map fun x => D.tup [.int (i : Nat), x]⟩
def wkZip (w v : Wk) : Wk := ⟨min w.len v.len, fun m => w.ok m && v.ok m, fun i m => match w.at_ i m, v.at_ i m with
  | some x, some y => some (.tup [x, y])
  | _, _ => none⟩
def rngOk (i : Int) : Bool := decide (-(2 ^ 62) ≤ i) && decide (i < 2 ^ 62)
def iRange1 (e : Ex) : Itr := fun ρ => (e ρ).bind fun d => match d with
  | .int j => if rngOk j then M.ret (wkRng 0 j.toNat) else M.stuck
  | _ => M.stuck
def iRange2 (a b : Ex) : Itr := fun ρ => (a ρ).bind fun x => (b ρ).bind fun y => match x, y with
  | .int i, .int j => if rngOk i && rngOk j then M.ret (wkRng i (j - i).toNat) else M.stuck
  | _, _ => M.stuck
def iSeq (e : Ex) : Itr := fun ρ => (e ρ).bind fun d m => M.opt (wkOf m d) m
def iEnum (e : Ex) : Itr := fun ρ => (e ρ).bind fun d m => M.opt ((wkSq m d).map wkEnum) m
def iZip (a b : Ex) : Itr := fun ρ => (a ρ).bind fun x => (b ρ).bind fun y m => M.opt (match wkSq m x, wkSq m y with
  | some w, some v => if tupD m x == tupD m y then some (wkZip w v) else none
  | _, _ => none) m

/-! ### targets -/
abbrev Tgt := D → Env → Option Env
def gV (i : Nat) : Tgt := fun d ρ => some (ρ.set i (some d))
def gsGo : List Tgt → List D → Env → Option Env
  | [], [], ρ => some ρ
  | g :: gs, d :: ds, ρ => (g d ρ).bind fun ρ' => gsGo gs ds ρ'
  | _, _, _ => none
def gTup (gs : List Tgt) : Tgt := fun d ρ => match d with
  | .tup ds => gsGo gs ds ρ
  | _ => none

/-! ### comprehensions -/
def wipeE (ρ : Env) : List Nat → Env
  | [] => ρ
  | v :: vs => (wipeE ρ vs).set v none
def compGo (g : Tgt) (t : Tst) (e : Ex) (ρ : Env) (w : Wk) : Nat → Nat → List D → M (List D)
  | 0, _, acc => fun m => if w.ok m then .ok acc m else .stuck
  | k + 1, i, acc => fun m => if w.ok m then ((M.opt (w.at_ i m)).bind fun x => (M.opt (g x ρ)).bind fun ρ2 => (t ρ2).bind fun b =>
    if b then (e ρ2).bind fun y => if Nat.blt acc.length 16777216 then compGo g t e ρ w k (i + 1) (acc ++ [y]) else M.stuck else compGo g t e ρ w k (i + 1) acc) m else .stuck
def eComp (own : List Nat) (i : Itr) (g : Tgt) (t : Tst) (e : Ex) : Ex := fun ρ => (i ρ).bind fun w => ((compGo g t e (wipeE ρ own) w w.len 0 []).nox).bind fun ys => M.ret (.lst ys)
def tYes : Tst := fun _ => M.ret true

/-! ### calls -/
/-- what a def made and doesn't hand back is let go -/
def leave (keep : Bool) (n : Nat) (m : Mu) : Mu := if keep then m else m.drop n
def eCall (run : Run) (c f : Nat) (es : Exs) : Ex := fun ρ => (es ρ).bind fun ds => run c f ds
/-- keywords: the arguments in the order of the parameters -/
def pick (ds : List D) : List Nat → Option (List D)
  | [] => some []
  | i :: r => match ds[i]?, pick ds r with
    | some d, some rest => some (d :: rest)
    | _, _ => none
def eCallK (run : Run) (c f : Nat) (perm : List Nat) (es : Exs) : Ex := fun ρ => (es ρ).bind fun ds => (M.opt (pick ds perm)).bind fun vs => run c f vs

/-! ### statements -/
inductive O where
  | nx (ρ : Env) | rt (d : D) | bk (ρ : Env) | ct (ρ : Env)
inductive RS where
  | ok (o : O) (m : Mu)
  | exc (c : Nat) (fs : List (Nat × D)) (ρ : Env) (m : Mu)
  | stuck
abbrev Stm := Env → Mu → RS
/-- an expression, then what follows -/
def sB {α : Type} (ρ : Env) (x : M α) (k : α → Mu → RS) : Mu → RS := fun m => match x m with
  | .ok a m' => k a m'
  | .exc c fs m' => .exc c fs ρ m'
  | .stuck => .stuck
def sNx : Stm := fun ρ m => .ok (.nx ρ) m
def sNo : Stm := fun _ _ => .stuck
def sSeq (a b : Stm) : Stm := fun ρ m => match a ρ m with
  | .ok (.nx ρ') m' => b ρ' m'
  | r => r
def sEx (e : Ex) : Stm := fun ρ => sB ρ (e ρ) fun _ m => .ok (.nx ρ) m
def sRet (e : Ex) : Stm := fun ρ => sB ρ (e ρ) fun d m => .ok (.rt d) m
def sRetN : Stm := fun _ m => .ok (.rt .non) m
def sAsg (e : Ex) (g : Tgt) : Stm := fun ρ => sB ρ (e ρ) fun d m => match g d ρ with
  | some ρ' => .ok (.nx ρ') m
  | none => .stuck
def sAug (i : Nat) (f : Mu → D → D → Option D) (e : Ex) : Stm := fun ρ => sB ρ (eV i ρ) fun x => sB ρ (e ρ) fun y m => match f m x y with
  | some z => .ok (.nx (ρ.set i (some z))) m
  | none => .stuck
def sIf (t : Tst) (a b : Stm) : Stm := fun ρ => sB ρ (t ρ) fun c => if c then a ρ else b ρ
def sBk : Stm := fun ρ m => .ok (.bk ρ) m
def sCt : Stm := fun ρ m => .ok (.ct ρ) m
/-- o[i] = v, by values -/
def putItem (o i v : D) (m : Mu) : Option Mu := match o with
  | .ref n => match m.get n, i with
    | some (.lst xs), .int k => (L2.ixN xs.length k).map fun j => m.put n (.lst (xs.set j v))
    | _, _ => none
  | _ => none
def sSetItem (o i e : Ex) : Stm := fun ρ => sB ρ (e ρ) fun v => sB ρ (o ρ) fun x => sB ρ (i ρ) fun k m => match putItem x k v m with
  | some m' => .ok (.nx ρ) m'
  | none => .stuck
def putFld (f : Nat) (v : D) : List (Nat × D) → List (Nat × D)
  | [] => [(f, v)]
  | p :: r => if p.1 = f then (f, v) :: r else p :: putFld f v r
def setFld (fl : Nat → List Nat) (o : D) (f : Nat) (v : D) (m : Mu) : Option Mu := match o with
  | .ref n => match m.get n with
    | some (.ins c fs) => if Nat.blt fs.length 900 && (fl c).contains f then some (m.put n (.ins c (putFld f v fs))) else none
    | _ => none
  | _ => none
def sSetFld (fl : Nat → List Nat) (o : Ex) (f : Nat) (e : Ex) : Stm := fun ρ => sB ρ (e ρ) fun v => sB ρ (o ρ) fun x m => match setFld fl x f v m with
  | some m' => .ok (.nx ρ) m'
  | none => .stuck
/-- list methods that change it -/
def oAppend (o v : D) (m : Mu) : Option Mu := match o with
  | .ref n => match m.get n with
    | some (.lst xs) => if Nat.blt xs.length 16777216 then some (m.put n (.lst (xs ++ [v]))) else none
    | _ => none
  | _ => none
def eAppend (o e : Ex) : Ex := fun ρ => (o ρ).bind fun x => (e ρ).bind fun v m => match oAppend x v m with
  | some m' => .ok .non m'
  | none => .stuck
def ePop (o : Ex) : Ex := fun ρ => (o ρ).bind fun x m => match x with
  | .ref n => match m.get n with
    | some (.lst xs) => match xs.getLast? with
      | some y => .ok y (m.put n (.lst xs.dropLast))
      | none => .stuck
    | _ => .stuck
  | _ => .stuck
/-- for: the items one by one -/
def forGo (g : Tgt) (b : Stm) (w : Wk) : Nat → Nat → Stm
  | 0, _, ρ, m => if w.ok m then .ok (.nx ρ) m else .stuck
  | k + 1, i, ρ, m => if w.ok m then (match w.at_ i m with
    | some x => match g x ρ with
      | some ρ1 => match b ρ1 m with
        | .ok (.nx ρ2) m2 => forGo g b w k (i + 1) ρ2 m2
        | .ok (.ct ρ2) m2 => forGo g b w k (i + 1) ρ2 m2
        | .ok (.bk ρ2) m2 => .ok (.nx ρ2) m2
        | r => r
      | none => .stuck
    | none => .stuck) else .stuck
def sFor (i : Itr) (g : Tgt) (b : Stm) : Stm := fun ρ => sB ρ (i ρ) fun w => forGo g b w w.len 0 ρ
/-- while, at most n turns -/
def whileGo (t : Tst) (b : Stm) : Nat → Stm
  | 0, _, _ => .stuck
  | n + 1, ρ, m => match t ρ m with
    | .ok true m1 => match b ρ m1 with
      | .ok (.nx ρ2) m2 => whileGo t b n ρ2 m2
      | .ok (.ct ρ2) m2 => whileGo t b n ρ2 m2
      | .ok (.bk ρ2) m2 => .ok (.nx ρ2) m2
      | r => r
    | .ok false m1 => .ok (.nx ρ) m1
    | .exc c fs m1 => .exc c fs ρ m1
    | .stuck => .stuck
def turns : Nat := 1000000000000000000000000
def sWhile (t : Tst) (b : Stm) : Stm := whileGo t b turns
def sRaise (c : Nat) (fs : List Nat) (es : Exs) : Stm := fun ρ => sB ρ (es ρ) fun ds m => if ds.length = fs.length then .exc c (fs.zip ds).reverse ρ m else .stuck
/-- an except clause: the classes, the name's place, the suite -/
structure Hd where
  cs : List Nat
  at_ : Option Nat
  suite : Stm
def hdGo (bs : Bases) (c : Nat) (fs : List (Nat × D)) : List Hd → Stm
  | [], ρ, m => .exc c fs ρ m
  | h :: hs, ρ, m => if h.cs.any fun k => (bs c).contains k then
      match h.at_ with
      | none => match h.suite ρ m with
        | .ok o m2 => .ok o m2
        | _ => .stuck
      | some i => match h.suite (ρ.set i (some (.exc c fs))) m with
        | .ok (.nx ρ2) m2 => .ok (.nx (ρ2.set i none)) m2
        | .ok (.bk ρ2) m2 => .ok (.bk (ρ2.set i none)) m2
        | .ok (.ct ρ2) m2 => .ok (.ct (ρ2.set i none)) m2
        | .ok (.rt d) m2 => .ok (.rt d) m2
        | _ => .stuck
    else hdGo bs c fs hs ρ m
def sTry (bs : Bases) (b : Stm) (hs : List Hd) : Stm := fun ρ m => match b ρ m with
  | .exc c fs ρ' m' => hdGo bs c fs hs ρ' m'
  | r => r

/-! ### defs -/
structure Def where
  np : Nat
  ns : Nat
  keep : Bool
  body : Run → Stm
/-- a def called -/
def Def.run (d : Def) (run : Run) (ds : List D) : M D := fun m => if ds.length = d.np then
    match d.body run (ds.map some ++ List.replicate (d.ns - d.np) none) m with
    | .ok (.rt v) m' => .ok (rs m' v) (leave d.keep m.nx m')
    | .ok (.nx _) m' => .ok .non (leave d.keep m.nx m')
    | .exc c fs _ m' => .exc c fs (leave d.keep m.nx m')
    | _ => .stuck
  else .stuck
/-- all defs at a depth of calls -/
def runs (tab : Nat → Nat → Option Def) : Nat → Run
  | 0 => fun _ _ _ => M.stuck
  | n + 1 => fun c f ds => match tab c f with
    | some d => d.run (runs tab n) ds
    | none => M.stuck
end Gs
/-! GsShw: a def that tells a caught error: its shape, what it hands back. -/
namespace Gs
open PySem
/-- one such if -/
structure ShwI where
  cls : Str
  tag : Str
  fl : List Str
def shwF (ev : Str) : List Expr → Option (List Str)
  | [] => some []
  | .Attribute (.Name v _) f _ :: r => if v = ev ∧ okN f = true then (shwF ev r).map (f :: ·) else none
  | _ => none
def shwI (sh ev : Str) : Stmt → Option ShwI
  | .If (.Call (.Name i _) [.Name v _, .Name c _] [] _) [.Expr (.Call (.Attribute (.Name s _) a ap) [.List (.Constant (.str tag) _ _ :: fs) _] [] p) _] [] _ =>
    if i = "isinstance" ∧ v = ev ∧ s = sh ∧ a = "append" ∧ okN c = true ∧ ap.endLine = p.line ∧ fs.length < 900 then (shwF ev fs).map fun fl => ⟨c, tag, fl⟩ else none
  | _ => none
def shwG (sh ev : Str) : List Stmt → Option (List ShwI)
  | [.Return (some (.Name s _)) _] => if s = sh then some [] else none
  | st :: r => match shwI sh ev st, shwG sh ev r with
    | some i, some l => some (i :: l)
    | _, _ => none
  | [] => none
def shwB (ev : Str) : List Stmt → Option (Str × List ShwI)
  | .Assign [.Name sh _] (.List [] _) _ :: r => (shwG sh ev r).map (sh, ·)
  | _ => none
def getF (fs : List (Nat × D)) : List Str → Option (List D)
  | [] => some []
  | f :: r => match fs.lookup (nid f), getF fs r with
    | some d, some ds => some (d :: ds)
    | _, _ => none
/-- what it hands back for an error -/
def shwD (bs : Bases) (c : Nat) (fs : List (Nat × D)) : List ShwI → Option (List D)
  | [] => some []
  | i :: r => match shwD bs c fs r with
    | some ds => if (bs c).contains (nid i.cls) then (getF fs i.fl).map fun vs => .lst (.str i.tag :: vs) :: ds else some ds
    | none => none
/-- such a def called with the error in slot i -/
def eShw (bs : Bases) (l : List ShwI) (i : Nat) : Ex := fun ρ m => match ρ[i]? with
  | some (some (.exc c fs)) => match shwD bs c fs l with
    | some ds => .ok (.lst ds) m
    | none => .stuck
  | _ => .stuck
end Gs
/-! GsComp: from the model's syntax to combinators. -/
namespace Gs
open PySem

/-! ### names of built-ins -/
def k_len : Nat := 488183376642157
def k_int : Nat := 514571674583146
def k_abs : Nat := 510173602906210
def k_str : Nat := 505775594143860
def k_tuple : Nat := 1972967942959123809794261109
def k_list : Nat := 1079135038485626355821
def k_sum : Nat := 483785363685492
def k_any : Nat := 536561907138658
def k_all : Nat := 479387298300002
def k_max : Nat := 532163833364590
def k_min : Nat := 488183385030766
def k_range : Nat := 1972967896842254829385416819
def k_enumerate : Nat := 38162751627490379747452398003482574466029863143735398
def k_isinstance : Nat := 80033084540641898480094239089228231436665003453574281166954
def k_sorted : Nat := 4097048712905654171746245472682100
def k_zip : Nat := 496979478052987
def k_reversed : Nat := 18019010797617805503544150316766110177615151219
def k_set : Nat := 514571655708788
def k_bool : Nat := 1005348044598614687843
def m_append : Nat := 4097048886990833845663497717809250
def m_pop : Nat := 496979490635889
def m_insert : Nat := 4746086071678939754579271075496042
def m_extend : Nat := 4097048886990833845681089920630886
def m_clear : Nat := 2224424411981825894200115300
def m_reverse : Nat := 8677205062005183289952466234080782975091
def m_join : Nat := 1023794762284045172843
def m_split : Nat := 2263110111996501108962885748
def m_bit_length : Nat := 82387004051865780589996959514492198820619527364716196266083
def m_init : Nat := 17126980479253070761120148459124897020144255072
def m_index : Nat := 2340481327558314044348694634
def m_count : Nat := 2263110158113400875653267556
def m_upper : Nat := 2224424448875362420139229302
def m_get : Nat := 514571655708776
def m_setdefault : Nat := 91802653661792946164417784946020646843673666288009024110708
def m_key : Nat := 536561888264300

/-- what a name of the module is -/
inductive G where
  | con (d : D)
  | fn (ps : List Nat) (dfl : List D)
  | cls (ps : List Nat) (dfl : List D) (frozen : Bool)
  | err (ps : List Nat)
  | bare
  | blt
structure Cxt where
  N : List Str
  sc : Scope
  glob : List (Nat × G)
  marks : List (Nat × Nat × Nat)
  run : Run
  bs : Bases
  flds : Nat → List Nat
  mp : Nat → Nat → Option (List Nat × List D)
  fn : Str → Bool
  shw : Nat → Option (List ShwI)

def ixOf (x : Str) : List Str → Option Nat
  | [] => none
  | y :: r => if x = y then some 0 else (ixOf x r).map (· + 1)
def marked (l : List (Nat × Nat × Nat)) (p : Pos) : Bool := l.any fun q => Nat.beq q.1 p.line && Nat.beq q.2.1 p.col && Nat.beq q.2.2 p.endCol
def Cxt.kind (C : Cxt) (x : Str) : Option NameKind := if okN x then C.sc.names.lookup x else none
def Cxt.slot (C : Cxt) (x : Str) : Option Nat := match C.kind x with
  | some .local => ixOf x C.N
  | some .cell => ixOf x C.N
  | some .free => ixOf x C.N
  | _ => none
/-- a name that may be set -/
def Cxt.loc (C : Cxt) (x : Str) : Option Nat := match C.kind x with
  | some .local => ixOf x C.N
  | some .cell => if C.fn x then ixOf x C.N else none
  | _ => none
def gOf : G → Option G
  | .blt => none
  | .con d => some (.con d)
  | .fn ps dfl => some (.fn ps dfl)
  | .cls ps dfl fr => some (.cls ps dfl fr)
  | .err ps => some (.err ps)
  | .bare => some .bare
def Cxt.gl (C : Cxt) (x : Str) : Option (Option G) := match C.kind x with
  | some .globalImplicit => (C.glob.lookup (nid x)).map gOf
  | _ => none
def Cxt.mut (C : Cxt) (p : Pos) (e : Ex) : Ex := if marked C.marks p then eMut e else e
/-- a name's list that is frozen where it is handed on -/
def Cxt.fz (C : Cxt) (e : Expr) (x : Ex) : Ex := match e with
  | .Name _ p => if marked C.marks p then eFrz x else x
  | _ => x

def cName (C : Cxt) (x : Str) : Ex := match C.kind x with
  | some .globalImplicit => match C.glob.lookup (nid x) with
    | some (.con d) => eC d
    | _ => eNo
  | _ => match C.slot x with
    | some i => eV i
    | none => eNo
def binOf : Operator → Option (Mu → D → D → Option D)
  | .Add => some oAdd
  | .Sub => some oSub
  | .Mult => some oMul
  | .FloorDiv => some oFdiv
  | .Mod => some oMod
  | .Pow => some oPow
  | .LShift => some oShl
  | .RShift => some oShr
  | .BitAnd => some oAnd
  | .BitOr => some oOr
  | .BitXor => some oXor
  | _ => none
def cmpOf : CmpOp → Option (Mu → D → D → Option D)
  | .Eq => some cEq
  | .NotEq => some cNe
  | .Lt => some cLt
  | .LtE => some cLe
  | .Gt => some cGt
  | .GtE => some cGe
  | .Is => some cIs
  | .IsNot => some cIsNot
  | .In => some cIn
  | .NotIn => some cNotIn
def b1 (k : Nat) : Option (Mu → D → Option D) :=
  if k = k_len then some oLen else if k = k_int then some oInt else if k = k_abs then some oAbs else if k = k_str then some oStr else
  if k = k_tuple then some oTuple else if k = k_list then some oList else if k = k_sum then some oSum else if k = k_any then some oAny else
  if k = k_all then some oAll else if k = k_max then some oMax1 else if k = k_min then some oMin1 else none
def b2 (k : Nat) : Option (Mu → D → D → Option D) :=
  if k = k_max then some oMax2 else if k = k_min then some oMin2 else none
/-- the ints i .. j - 1 -/
def rgD (i j : Int) : List D := (List.range (j - i).toNat).map fun k => D.int (i + (k : Nat))
def rgB (i j : Int) : Bool := decide (-(2 ^ 62) ≤ i) && decide (i < 2 ^ 62) && decide (-(2 ^ 62) ≤ j) && decide (j < 2 ^ 62) && decide ((j - i).toNat ≤ 16777216)
def oRg1 (mk : List D → D) (_ : Mu) (x : D) : Option D := match x with
  | .int j => if rgB 0 j then some (mk (rgD 0 j)) else none
  | _ => none
def oRg2 (mk : List D → D) (_ : Mu) (x y : D) : Option D := match x, y with
  | .int i, .int j => if rgB i j then some (mk (rgD i j)) else none
  | _, _ => none
def rngK (f : Nat) : Option (List D → D) := if f = k_tuple then some D.tup else if f = k_list then some D.lst else none
/-- the types that a class's expression names -/
def tyN (C : Cxt) (x : Str) : Option Ty := match C.kind x with
  | some .globalImplicit => match C.glob.lookup (nid x) with
    | some (.cls _ _ _) => some (.own (nid x))
    | some (.err _) => some (.own (nid x))
    | some .bare => some (.own (nid x))
    | some .blt => if nid x = k_bool then some .bool else if nid x = k_int then some .int else if nid x = k_str then some .str else if nid x = k_tuple then some .tuple else if nid x = k_list then some .list else none
    | _ => none
  | _ => none
def tysN (C : Cxt) : List Expr → Option (List Ty)
  | [] => some []
  | .Name x _ :: r => match tyN C x, tysN C r with
    | some t, some ts => some (t :: ts)
    | _, _ => none
  | _ => none
def tysOf (C : Cxt) : Expr → Option (List Ty)
  | .Name x _ => (tyN C x).map fun t => [t]
  | .Tuple es _ _ => if Nat.blt es.length 100 then tysN C es else none
  | _ => none
def ixN (p : Nat) : List Nat → Option Nat
  | [] => none
  | y :: r => if Nat.beq p y then some 0 else (ixN p r).map (· + 1)
/-- where a parameter's value comes from: a written one, a default -/
def plan1 (na nd np : Nat) (ks : List Nat) (j p : Nat) : Option (Nat ⊕ Nat) :=
  if Nat.blt j na then some (.inl j) else match ixN p ks with
    | some i => some (.inl (na + i))
    | none => if Nat.ble np (j + nd) then some (.inr (j + nd - np)) else none
def planGo (na nd np : Nat) (ks : List Nat) : Nat → List Nat → Option (List (Nat ⊕ Nat))
  | _, [] => some []
  | j, p :: r => match plan1 na nd np ks j p, planGo na nd np ks (j + 1) r with
    | some q, some qs => some (q :: qs)
    | _, _ => none
def nodupB : List Nat → Bool
  | [] => true
  | x :: r => !r.contains x && nodupB r
def plan (ps : List Nat) (nd na : Nat) (ks : List Nat) : Option (List (Nat ⊕ Nat)) :=
  if Nat.ble na ps.length && Nat.ble nd ps.length && nodupB ps && nodupB ks && ks.all (fun k => (ps.drop na).contains k) then planGo na nd ps.length ks 0 ps else none
def kwNames : List Keyword → Option (List Nat)
  | [] => some []
  | k :: r => match k.arg, kwNames r with
    | some a, some ks => if okN a then some (nid a :: ks) else none
    | _, _ => none
def pickG {α : Type} (xs ds : List α) : List (Nat ⊕ Nat) → Option (List α)
  | [] => some []
  | q :: r => match (match q with
    | .inl i => xs[i]?
    | .inr i => ds[i]?), pickG xs ds r with
    | some x, some rest => some (x :: rest)
    | _, _ => none
/-- the arguments of a call, by a plan -/
def esP (pl : List (Nat ⊕ Nat)) (dfl : List D) (a b : Exs) : Exs := fun ρ => (a ρ).bind fun ds => (b ρ).bind fun es => M.opt (pickG (ds ++ es) dfl pl)
/-- a new instance: ds, es the written values -/
def newK (run : Run) (c : Nat) (pl : List (Nat ⊕ Nat)) (dfl : List D) (ds es : List D) : M D := fun m => match pickG (.ref m.nx :: ds ++ es) dfl pl with
  | some vs => match run c m_init vs (m.new (.ins c [])) with
    | .ok .non m' => .ok (.ref m.nx) m'
    | .exc k fs m' => .exc k fs m'
    | _ => .stuck
  | none => .stuck
def eNew (run : Run) (c : Nat) (pl : List (Nat ⊕ Nat)) (dfl : List D) (a b : Exs) : Ex := fun ρ => (a ρ).bind fun ds => (b ρ).bind fun es => newK run c pl dfl ds es
/-- methods of built-in types, by values -/
def oExtend (o v : D) (m : Mu) : Option Mu := match o with
  | .ref n => match m.get n, vw m v with
    | some (.lst xs), .lst ys => if lineOk (xs.length + ys.length) then some (m.put n (.lst (xs ++ ys))) else none
    | _, _ => none
  | _ => none
def oInsert (o i v : D) (m : Mu) : Option Mu := match o, i with
  | .ref n, .int i => match m.get n with
    | some (.lst xs) => if Nat.blt xs.length 16777216 && decide (0 ≤ i) && decide (i < 2 ^ 63) then some (m.put n (.lst (xs.take i.toNat ++ [v] ++ xs.drop i.toNat))) else none
    | _ => none
  | _, _ => none
def oReverse (o : D) (m : Mu) : Option Mu := match o with
  | .ref n => match m.get n with
    | some (.lst xs) => some (m.put n (.lst xs.reverse))
    | _ => none
  | _ => none
def oClear (o : D) (m : Mu) : Option Mu := match o with
  | .ref n => match m.get n with
    | some (.lst _) => some (m.put n (.lst []))
    | _ => none
  | _ => none
def retN (o : Mu → Option Mu) : M D := fun m => match o m with
  | some m' => .ok .non m'
  | none => .stuck
def mPop (x : D) : M D := fun m => match x with
  | .ref n => match m.get n with
    | some (.lst xs) => match xs[xs.length - 1]? with
      | some y => .ok (rs m y) (m.put n (.lst xs.dropLast))
      | none => .stuck
    | _ => .stuck
  | _ => .stuck
def mPopAt (x i : D) : M D := fun m => match x, i with
  | .ref n, .int i => match m.get n with
    | some (.lst xs) => if decide (-(2 ^ 63) ≤ i) && decide (i < 2 ^ 63) then (match seqIndex? i xs.length with
      | some k => match xs[k]? with
        | some y => .ok (rs m y) (m.put n (.lst (xs.eraseIdx k)))
        | none => .stuck
      | none => .stuck) else .stuck
    | _ => .stuck
  | _, _ => .stuck
def idxF (x : D) : List D → Option Nat
  | [] => none
  | y :: r => if eqF y x then some 0 else (idxF x r).map (· + 1)
def oIndex (m : Mu) (o v : D) : Option D := match vw m o with
  | .lst xs => if flatD v && xs.all flatD then (idxF v xs).map fun (j : Nat) => D.int j else none
  | _ => none
def oBits (o : D) : Option D := match o with
  | .int i => some (.int (Builtin.Int.intBits i))
  | _ => none
def strsOf : List D → Option (List Str)
  | [] => some []
  | .str x :: r => (strsOf r).map (x :: ·)
  | _ => none
def joinB (a : Str) (ss : List Str) : Bool := Nat.ble ((ss.map (·.length)).sum + ss.length * a.length) 16777216
def oJoin (m : Mu) (o v : D) : Option D := match o, vw m v with
  | .str a, .lst ys => (strsOf ys).bind fun ss => if joinB a ss then some (.str (Txt.join a ss)) else none
  | .str a, .tup ys => (strsOf ys).bind fun ss => if joinB a ss then some (.str (Txt.join a ss)) else none
  | _, _ => none
def lstM (k : Nat) : Bool := Nat.beq k m_append || Nat.beq k m_pop || Nat.beq k m_extend || Nat.beq k m_insert || Nat.beq k m_reverse || Nat.beq k m_clear || Nat.beq k m_index
def bTy (m : Mu) (k : Nat) (x : D) : Bool := match vw m x with
  | .lst _ => lstM k
  | .int _ => Nat.beq k m_bit_length
  | .str _ => Nat.beq k m_join
  | _ => false
def bMeth (k : Nat) (x : D) (ds : List D) : M D := match ds with
  | [] => if Nat.beq k m_pop then mPop x else if Nat.beq k m_reverse then retN (oReverse x) else if Nat.beq k m_clear then retN (oClear x) else if Nat.beq k m_bit_length then M.opt (oBits x) else M.stuck
  | [v] => if Nat.beq k m_append then retN (oAppend x v) else if Nat.beq k m_pop then mPopAt x v else if Nat.beq k m_extend then retN (oExtend x v) else if Nat.beq k m_index then (fun m => M.opt (oIndex m x v) m) else if Nat.beq k m_join then (fun m => M.opt (oJoin m x v) m) else M.stuck
  | [v, w] => if Nat.beq k m_insert then retN (oInsert x v w) else M.stuck
  | _ => M.stuck
def fldsOf (m : Mu) : D → List (Nat × D)
  | .obj _ fs => fs
  | .exc _ fs => fs
  | .ref n => match m.get n with
    | some (.ins _ fs) => fs
    | some (.frz (.obj _ fs)) => fs
    | _ => []
  | _ => []
def methK (run : Run) (mp : Nat → Nat → Option (List Nat × List D)) (k na : Nat) (ks : List Nat) (a b : M (List D)) (x : D) : M D := fun m => match clsOf m x with
  | some c => if ((fldsOf m x).lookup k).isSome then .stuck else match mp c k with
    | some (ps, dfl) => match plan ps dfl.length (na + 1) ks with
      | some pl => (a.bind fun ds => b.bind fun es => (M.opt (pickG (x :: ds ++ es) dfl pl)).bind fun vs => run c k vs) m
      | none => .stuck
    | none => .stuck
  | none => if ks.isEmpty && bTy m k x then (a.bind fun ds => bMeth k x ds) m else .stuck
def eMeth (run : Run) (mp : Nat → Nat → Option (List Nat × List D)) (k : Nat) (o : Ex) (na : Nat) (ks : List Nat) (a b : Exs) : Ex := fun ρ => (o ρ).bind (methK run mp k na ks (a ρ) (b ρ))
def andL : List Ex → Ex
  | [] => eNo
  | [e] => e
  | e :: r => eAnd e (andL r)
def orL : List Ex → Ex
  | [] => eNo
  | [e] => e
  | e :: r => eOr e (orL r)
def tAndL : List Tst → Tst
  | [] => fun _ => M.stuck
  | [e] => e
  | e :: r => tAnd e (tAndL r)
def tOrL : List Tst → Tst
  | [] => fun _ => M.stuck
  | [e] => e
  | e :: r => tOr e (tOrL r)
def esL : List Ex → Exs
  | [] => esNil
  | e :: r => esCons e (esL r)
/-- the scope within a comprehension -/
def inSc (scope sc : Scope) : Scope := L2.relS scope sc
def Cxt.inner (C : Cxt) (scope : Scope) : Cxt := { C with sc := inSc scope C.sc, fn := fun x => scope.names.lookup x == some .cell }
def ownOf (N : List Str) : List (Str × NameKind) → List (Str × Nat)
  | [] => []
  | (x, k) :: r => match k with
    | .local => match ixOf x N with
      | some i => (x, i) :: ownOf N r
      | none => ownOf N r
    | .cell => match ixOf x N with
      | some i => (x, i) :: ownOf N r
      | none => ownOf N r
    | _ => ownOf N r
mutual
def cTgt (C : Cxt) : Expr → Option Tgt
  | .Name x _ => (C.loc x).map gV
  | .Tuple es _ _ => (tgts C es).map gTup
  | _ => none
def tgts (C : Cxt) : List Expr → Option (List Tgt)
  | [] => some []
  | e :: r => match cTgt C e, tgts C r with
    | some g, some gs => some (g :: gs)
    | _, _ => none
end
mutual
/-- the slots of a target -/
def tgtIx (C : Cxt) : Expr → List Nat
  | .Name x _ => match C.loc x with
    | some i => [i]
    | none => []
  | .Tuple es _ _ => tgtsIx C es
  | _ => []
def tgtsIx (C : Cxt) : List Expr → List Nat
  | [] => []
  | e :: r => tgtIx C e ++ tgtsIx C r
end
/-- x.f where x is no call without arguments of a name (super is one) -/
def baseOk : Expr → Bool
  | .Call (.Name _ _) [] [] _ => false
  | _ => true
def isStar : Expr → Bool
  | .Starred _ _ => true
  | _ => false

/-- a written range, as an argument -/
def rngOf (C : Cxt) : Expr → Option (List Expr)
  | .Call (.Name g _) ra [] _ => match C.gl g with
    | some none => if nid g = k_range && !ra.any isStar then some ra else none
    | _ => none
  | _ => none
def notSlice : Expr → Bool
  | .Slice _ _ _ _ => false
  | _ => true
def isTup : Expr → Bool
  | .Tuple _ _ _ => true
  | _ => false
/-- a written set is asked of otherwise -/
def noSet : Expr → Bool
  | .Set _ _ _ => false
  | _ => true

mutual
def cE (C : Cxt) : Nat → Expr → Ex
  | 0, _ => eNo
  | _ + 1, .Constant (.int i) _ _ => eC (.int i)
  | _ + 1, .Constant (.bool b) _ _ => eC (.bl b)
  | _ + 1, .Constant .none _ _ => eC .non
  | _ + 1, .Constant (.str s) _ _ => eC (.str s)
  | _ + 1, .Name x _ => cName C x
  | n + 1, .BinOp a op b p => match binOf op with
    | some f => C.mut p (e2 f (cE C n a) (cE C n b))
    | none => eNo
  | n + 1, .UnaryOp .Not a _ => eNot (cE C n a)
  | n + 1, .UnaryOp .USub a _ => e1 oNeg (cE C n a)
  | n + 1, .UnaryOp .Invert a _ => e1 oInv (cE C n a)
  | n + 1, .BoolOp .And es _ => andL (es.map (cE C n))
  | n + 1, .BoolOp .Or es _ => orL (es.map (cE C n))
  | n + 1, .Compare a [op] [b] _ => if noSet b then (match cmpOf op with
    | some f => e2 f (cE C n a) (cE C n b)
    | none => eNo) else eNo
  | n + 1, .Compare a [op, op2] [b, c] _ => if noSet c then (match cmpOf op, cmpOf op2 with
    | some f, some g => eChain f g (cE C n a) (cE C n b) (cE C n c)
    | _, _ => eNo) else eNo
  | n + 1, .IfExp t a b _ => eIf (cT C n t) (cE C n a) (cE C n b)
  | n + 1, .Tuple es _ _ => if es.any isStar then eNo else eTup (esL (es.map fun e => C.fz e (cE C n e)))
  | n + 1, .List es p => if es.any isStar then eNo else C.mut p (eLst (esL (es.map fun e => C.fz e (cE C n e))))
  | n + 1, .Subscript a (.Slice lo hi st _) p => match lo, hi, st with
    | none, none, none => C.mut p (eCut (cE C n a) pNo pNo)
    | some l, none, none => C.mut p (eCut (cE C n a) (pE (cE C n l)) pNo)
    | none, some h, none => C.mut p (eCut (cE C n a) pNo (pE (cE C n h)))
    | some l, some h, none => C.mut p (eCut (cE C n a) (pE (cE C n l)) (pE (cE C n h)))
    | _, _, _ => eNo
  | n + 1, .Subscript a i _ => e2 oItem (cE C n a) (cE C n i)
  | n + 1, .Attribute o f _ => if okN f && baseOk o then e1 (oFld (nid f)) (cE C n o) else eNo
  | n + 1, .ListComp elt [⟨tg, iter, ifs, 0⟩] scope p =>
    if noSet iter && L2.blkC C.N C.sc scope (ownOf C.N scope.names) && (tgtIx (C.inner scope) tg).all (fun i => ((ownOf C.N scope.names).map (·.2)).contains i) then
      let C2 : Cxt := C.inner scope
      match cTgt C2 tg, ifs with
      | some g, [] => C.mut p (eComp ((ownOf C.N scope.names).map (·.2)) (cI C tg n iter) g tYes (cE C2 n elt))
      | some g, [t] => C.mut p (eComp ((ownOf C.N scope.names).map (·.2)) (cI C tg n iter) g (cT C2 n t) (cE C2 n elt))
      | _, _ => eNo
    else eNo
  | n + 1, .Call (.Name f _) args kws p =>
    if args.any isStar then eNo else
    match C.gl f with
    | none => eNo
    | some none => match args, kws with
      | [a], [] => match rngK (nid f), rngOf C a with
        | some mk, some [x] => C.mut p (e1 (oRg1 mk) (cE C n x))
        | some mk, some [x, y] => C.mut p (e2 (oRg2 mk) (cE C n x) (cE C n y))
        | some _, some _ => eNo
        | _, _ => match b1 (nid f) with
          | some g => C.mut p (e1 g (cE C n a))
          | none => eNo
      | [a, b], [] => if nid f = k_isinstance then (match tysOf C b with
          | some ts => eIsi C.bs ts (cE C n a)
          | none => eNo) else match b2 (nid f) with
        | some g => e2 g (cE C n a) (cE C n b)
        | none => eNo
      | _, _ => eNo
    | some (some (.fn ps dfl)) => match kwNames kws with
      | some ks => match plan ps dfl.length args.length ks with
        | some pl => eCall C.run 0 (nid f) (esP pl dfl (esL (args.map fun e => C.fz e (cE C n e))) (esL (kws.map fun k => cE C n k.value)))
        | none => eNo
      | none => eNo
    | some (some (.cls ps dfl frozen)) => match kwNames kws with
      | some ks => match plan ps dfl.length (args.length + 1) ks with
        | some pl => if frozen then eFrz (eNew C.run (nid f) pl dfl (esL (args.map fun e => C.fz e (cE C n e))) (esL (kws.map fun k => cE C n k.value))) else eNew C.run (nid f) pl dfl (esL (args.map fun e => C.fz e (cE C n e))) (esL (kws.map fun k => cE C n k.value))
        | none => eNo
      | none => eNo
    | _ => eNo
  | n + 1, .Call (.Attribute o k ap) args kws p => if args.any isStar || !okN k || !baseOk o || !Nat.beq ap.endLine p.line || !Nat.blt args.length 20 || !Nat.blt kws.length 9 then eNo else match kwNames kws with
    | some ks => eMeth C.run C.mp (nid k) (cE C n o) args.length ks (esL (args.map fun e => C.fz e (cE C n e))) (esL (kws.map fun k => cE C n k.value))
    | none => eNo
  | _ + 1, _ => eNo
def cT (C : Cxt) : Nat → Expr → Tst
  | 0, _ => fun _ => M.stuck
  | n + 1, .BoolOp .And es _ => tAndL (es.map (cT C n))
  | n + 1, .BoolOp .Or es _ => tOrL (es.map (cT C n))
  | n + 1, .UnaryOp .Not a _ => tNot (cT C n a)
  | n + 1, .IfExp t a b _ => fun ρ => (cT C n t ρ).bind fun c => if c then cT C n a ρ else cT C n b ρ
  | n + 1, e => tE (cE C n e)
/-- what is walked -/
def cI (C : Cxt) (tg : Expr) : Nat → Expr → Itr
  | 0, _ => fun _ => M.stuck
  | n + 1, .Call (.Name f p1) args [] p => if args.any isStar then fun _ => M.stuck else match C.gl f with
    | some none => if nid f = k_range then (match args with
        | [a] => iRange1 (cE C n a)
        | [a, b] => iRange2 (cE C n a) (cE C n b)
        | _ => fun _ => M.stuck)
      else if nid f = k_enumerate && isTup tg then (match args with
        | [a] => iEnum (cE C n a)
        | _ => fun _ => M.stuck)
      else if nid f = k_zip && isTup tg then (match args with
        | [a, b] => iZip (cE C n a) (cE C n b)
        | _ => fun _ => M.stuck)
      else iSeq (cE C n (.Call (.Name f p1) args [] p))
    | _ => iSeq (cE C n (.Call (.Name f p1) args [] p))
  | n + 1, e => iSeq (C.fz e (cE C n e))
end

def depthE : Nat := 40
def cHd (C : Cxt) (cs : List Expr) : Option (List Nat) := match cs with
  | [] => some []
  | .Name x _ :: r => match C.gl x, cHd C r with
    | some (some (.err _)), some ks => some (nid x :: ks)
    | some (some .bare), some ks => some (nid x :: ks)
    | _, _ => none
  | _ => none
def hdCs (C : Cxt) : Option Expr → Option (List Nat)
  | some (.Name x p) => cHd C [.Name x p]
  | some (.Tuple es _ _) => cHd C es
  | _ => none
/-- an item of a list of the store -/
def oItemL (m : Mu) (x y : D) : Option D := match x, y with
  | .ref n, .int i => match m.get n with
    | some (.lst xs) => (L2.atI xs i).map (rs m)
    | _ => none
  | _, _ => none
def sAugItem (o i : Ex) (f : Mu → D → D → Option D) (e : Ex) : Stm := fun ρ => sB ρ (o ρ) fun x => sB ρ (i ρ) fun k m => match oItemL m x k with
  | some y => sB ρ (e ρ) (fun v m => match f m y v with
    | some z => match putItem x k z m with
      | some m' => .ok (.nx ρ) m'
      | none => .stuck
    | none => .stuck) m
  | none => .stuck
def sAugFld (fl : Nat → List Nat) (o : Ex) (g : Nat) (f : Mu → D → D → Option D) (e : Ex) : Stm := fun ρ => sB ρ (o ρ) fun x m => match oFld g m x with
  | some y => sB ρ (e ρ) (fun v m2 => if clsOf m2 x = clsOf m x then (match f m2 y v with
    | some z => match setFld fl x g z m2 with
      | some m' => .ok (.nx ρ) m'
      | none => .stuck
    | none => .stuck) else .stuck) m
  | none => .stuck
/-- x op= y on ints -/
def iopOf : Operator → Option (Mu → D → D → Option D)
  | .Add => some fun _ x y => match x, y with
    | .int i, .int j => some (.int (i + j))
    | _, _ => none
  | .Sub => some fun _ x y => match x, y with
    | .int i, .int j => some (.int (i - j))
    | _, _ => none
  | _ => none
def notComp : Expr → Bool
  | .ListComp _ _ _ _ => false
  | .SetComp _ _ _ _ => false
  | .DictComp _ _ _ _ _ => false
  | _ => true
/-- how = with a comprehension stores in a local of a def -/
def swapC (C : Cxt) (e : Expr) (t : Str) (p : Pos) : Bool := match e with
  | .ListComp _ [⟨_, _, _, 0⟩] scope pos => decide (C.sc.names.lookup t = some .local) && Nat.beq p.line pos.line && !(scope.names.any fun q => q.1 == t && (q.2 == .local || q.2 == .cell))
  | _ => false
def stmL : List Stm → Stm
  | [] => sNx
  | [s] => s
  | s :: r => sSeq s (stmL r)
/-- what an except suite may return; nm: the clause's name -/
def hotE (nm : Option Str) : Nat → Expr → Bool
  | _, .Constant (.int _) _ _ => true
  | _, .Constant (.bool _) _ _ => true
  | _, .Constant .none _ _ => true
  | _, .Constant (.str _) _ _ => true
  | _, .Name x _ => match nm with
    | some y => !(x == y)
    | none => true
  | _, .Attribute (.Name x _) f _ => okN f && (match nm with
    | some y => x == y
    | none => false)
  | n + 1, .Call (.Name f _) [.Name x _] [] _ => okN f && (match nm with
    | some y => x == y
    | none => false)
  | n + 1, .List es _ => !es.any isStar && es.all (hotE nm n)
  | n + 1, .Tuple es _ _ => !es.any isStar && es.all (hotE nm n)
  | _, _ => false
def hotS (C : Cxt) (nm : Option Str) : List Stmt → Option Expr
  | [.Return (some e) p] => if hotE nm 5 e && !marked C.marks p then some e else none
  | _ => none
/-- what a suite hands back -/
def cH (C : Cxt) : Nat → Expr → Ex
  | n + 1, .Call (.Name f _) [.Name x _] [] _ => match C.kind f with
    | some .globalImplicit => (match C.shw (nid f), C.slot x with
      | some l, some i => eShw C.bs l i
      | _, _ => eNo)
    | _ => eNo
  | n + 1, .List es p => if es.any isStar then eNo else C.mut p (eLst (esL (es.map (cH C n))))
  | n + 1, .Tuple es _ _ => if es.any isStar then eNo else eTup (esL (es.map (cH C n)))
  | n, e => cE C n e
def hdOf (C : Cxt) : ExceptHandler → Option Hd
  | .ExceptHandler (some (.Name x q)) nm body _ => match hdCs C (some (.Name x q)), hotS C nm body with
    | some cs, some e => match nm with
      | none => some ⟨cs, none, sRet (cH C depthE e)⟩
      | some y => if C.kind y = some .local then (match ixOf y C.N with
        | some i => some ⟨cs, some i, sRet (cH C depthE e)⟩
        | none => none) else none
    | _, _ => none
  | _ => none
def hdsOf (C : Cxt) : List ExceptHandler → Option (List Hd)
  | [] => some []
  | h :: r => match hdOf C h, hdsOf C r with
    | some a, some as => some (a :: as)
    | _, _ => none
def cS (C : Cxt) : Nat → Stmt → Stm
  | 0, _ => sNo
  | _ + 1, .Pass _ => sNx
  | _ + 1, .Break _ => sBk
  | _ + 1, .Continue _ => sCt
  | _ + 1, .Expr (.Constant (.str _) _ _) _ => sNx
  | _ + 1, .Expr e _ => if notComp e then sEx (cE C depthE e) else sNo
  | _ + 1, .Return none _ => sRetN
  | _ + 1, .Return (some e) p => if marked C.marks p then sRet (eFrz (cE C depthE e)) else sRet (cE C depthE e)
  | _ + 1, .Assign [.Subscript o i _] e _ => if notSlice i && notComp e then sSetItem (cE C depthE o) (cE C depthE i) (cE C depthE e) else sNo
  | _ + 1, .Assign [.Attribute o f _] e _ => if okN f && notComp e then sSetFld C.flds (cE C depthE o) (nid f) (cE C depthE e) else sNo
  | _ + 1, .Assign [.Name x q] e _ => match C.loc x with
    | some i => if notComp e || swapC C e x q then sAsg (cE C depthE e) (gV i) else sNo
    | none => sNo
  | _ + 1, .Assign [.Tuple es k q] e _ => if notComp e && !isTup e then (match cTgt C (.Tuple es k q) with
    | some g => sAsg (cE C depthE e) g
    | none => sNo) else sNo
  | _ + 1, .AugAssign (.Name x _) op e _ => match C.loc x, iopOf op with
    | some i, some f => sAug i f (cE C depthE e)
    | _, _ => sNo
  | _ + 1, .AugAssign (.Subscript o i _) op e _ => match iopOf op with
    | some f => if notSlice i then sAugItem (cE C depthE o) (cE C depthE i) f (cE C depthE e) else sNo
    | none => sNo
  | _ + 1, .AugAssign (.Attribute o g _) op e _ => match iopOf op with
    | some f => if okN g then sAugFld C.flds (cE C depthE o) (nid g) f (cE C depthE e) else sNo
    | none => sNo
  | n + 1, .If t a b _ => sIf (cT C depthE t) (stmL (a.map (cS C n))) (stmL (b.map (cS C n)))
  | n + 1, .For t i b [] _ => if noSet i then (match cTgt C t with
    | some g => sFor (cI C t depthE i) g (stmL (b.map (cS C n)))
    | none => sNo) else sNo
  | n + 1, .While t b [] _ => sWhile (cT C depthE t) (stmL (b.map (cS C n)))
  | _ + 1, .Raise (some (.Call (.Name x _) args [] _)) none _ => if args.any isStar || args.isEmpty || !Nat.blt args.length 900 then sNo else match C.gl x with
    | some (some (.err ps)) => sRaise (nid x) ps (esL (args.map (cE C depthE)))
    | _ => sNo
  | n + 1, .Try b hs [] [] _ => if hs.isEmpty then sNo else match hdsOf C hs with
    | some l => sTry C.bs (stmL (b.map (cS C n))) l
    | none => sNo
  | _ + 1, _ => sNo
def cBody (C : Cxt) (b : List Stmt) : Stm := stmL (b.map (cS C depthE))
end Gs
/-! GsRel: when a value of the model's layer stands for a plain one; when a tracked heap stands for a store. -/
namespace Gs
open PySem PySem.Spec L2

abbrev At := Nat → Option Addr
/-- the written part, where the classes are, the errors that are held: class and own dict -/
structure Tb where
  K : PySem.W.Frag
  cl : At
  z : Addr → Option (Addr × Addr)
  p : Hp

/-- an instance's class is plain, its fields are no attributes of the class -/
structure InsC (K : PySem.W.Frag) (C : Addr) : Prop where
  cls : Cls K C
  ha : PySem.W.findIn K (.ref C) "__class__" = some (some (.builtin "object.__class__"))
  hn : PySem.W.specialIn K (.builtin "object.__class__") "__get__" = some (some (.builtin "getset_descriptor.__get__"))
  htk : PySem.W.takesIn K (.builtin "object.__class__") = some true
  hm : PySem.W.mroIn K C (.type "object") = some true
structure InsOk (K : PySem.W.Frag) (C : Addr) (fvs : List (Str × V)) : Prop where
  c : InsC K C
  no : ∀ p ∈ fvs, NoAttr K C p.1
/-- an error's class; the fields are no attributes of it -/
structure Xf (K : PySem.W.Frag) (C : Addr) (fvs : List (Str × V)) : Prop where
  c : XfC K C
  no : ∀ p ∈ fvs, PySem.W.findIn K (.ref C) p.1 = some none
mutual
/-- v stands for d: K the written part, cl where the classes are, F what is frozen, m where the store's objects are -/
inductive Rep (T : Tb) (F : Hp) (m : At) : V → D → Prop
  | non : Rep T F m .non .non
  | bl (b : Bool) : Rep T F m (.bl b) (.bl b)
  | int (i : Int) : Rep T F m (.int i) (.int i)
  | str (s : Str) : Rep T F m (.str s) (.str s)
  | tup {a : Addr} {vs : List V} {ds : List D} : SqT T.K F a vs → Reps T F m vs ds → Rep T F m (.ref a) (.tup ds)
  | lst {a : Addr} {vs : List V} {ds : List D} : F a = some (.lst vs) → Reps T F m vs ds → Rep T F m (.ref a) (.lst ds)
  | rol {a : Addr} {vs : List V} {ds : List D} : SqL T.K F a vs → Reps T F m vs ds → Rep T F m (.ref a) (.rol ds)
  | obj {a C dx : Addr} {c : Nat} {fvs : List (Str × V)} {fs : List (Nat × D)} : T.cl c = some C → F a = some (.ins C dx fvs) → InsOk T.K C fvs → RepF T F m fvs fs → Rep T F m (.ref a) (.obj c fs)
  | exc {a C d : Addr} {c : Nat} {fvs : List (Str × V)} {fs : List (Nat × D)} : T.cl c = some C → T.z a = some (C, d) → F d = some (.xd fvs) → Xf T.K C fvs → RepF T F m fvs fs → Rep T F m (.ref a) (.exc c fs)
  | ref {a : Addr} {n : Nat} : m n = some a → Rep T F m (.ref a) (.ref n)
inductive Reps (T : Tb) (F : Hp) (m : At) : List V → List D → Prop
  | nil : Reps T F m [] []
  | cons {v : V} {d : D} {vs : List V} {ds : List D} : Rep T F m v d → Reps T F m vs ds → Reps T F m (v :: vs) (d :: ds)
inductive RepF (T : Tb) (F : Hp) (m : At) : List (Str × V) → List (Nat × D) → Prop
  | nil : RepF T F m [] []
  | cons {x : Str} {v : V} {d : D} {fvs : List (Str × V)} {fs : List (Nat × D)} : okN x = true → Rep T F m v d → RepF T F m fvs fs → RepF T F m ((x, v) :: fvs) ((nid x, d) :: fs)
end

structure Sub (F : Hp) (m : At) (F' : Hp) (m' : At) : Prop where
  h : ∀ a o, F a = some o → F' a = some o
  m : ∀ n a, m n = some a → m' n = some a

section
variable {T : Tb} {F F' F2 : Hp} {m m' m2 : At}
theorem Sub.refl : Sub F m F m := ⟨fun _ _ h => h, fun _ _ h => h⟩
theorem Sub.trans (a : Sub F m F' m') (b : Sub F' m' F2 m2) : Sub F m F2 m2 := ⟨fun x o h => b.h x o (a.h x o h), fun n x h => b.m n x (a.m n x h)⟩
theorem SqT.up {K : PySem.W.Frag} {a : Addr} {xs : List V} (e : ∀ a o, F a = some o → F' a = some o) (h : SqT K F a xs) : SqT K F' a xs := by
  rcases h with (h | ⟨o, h⟩) | h
  · exact .inl (.inl (e _ _ h))
  · exact .inl (.inr ⟨o, e _ _ h⟩)
  · exact .inr h
theorem SqL.up {K : PySem.W.Frag} {a : Addr} {xs : List V} (e : ∀ a o, F a = some o → F' a = some o) (h : SqL K F a xs) : SqL K F' a xs := by
  rcases h with (h | ⟨o, h⟩) | h
  · exact .inl (.inl (e _ _ h))
  · exact .inl (.inr ⟨o, e _ _ h⟩)
  · exact .inr h
mutual
theorem Rep.up (s : Sub F m F' m') : ∀ {v : V} {d : D}, Rep T F m v d → Rep T F' m' v d
  | _, _, .non => .non
  | _, _, .bl b => .bl b
  | _, _, .int i => .int i
  | _, _, .str x => .str x
  | _, _, .tup h r => .tup (SqT.up s.h h) (Reps.up s r)
  | _, _, .lst h r => .lst (s.h _ _ h) (Reps.up s r)
  | _, _, .rol h r => .rol (SqL.up s.h h) (Reps.up s r)
  | _, _, .obj c h n r => .obj c (s.h _ _ h) n (RepF.up s r)
  | _, _, .exc c h1 h2 x r => .exc c h1 (s.h _ _ h2) x (RepF.up s r)
  | _, _, .ref h => .ref (s.m _ _ h)
theorem Reps.up (s : Sub F m F' m') : ∀ {vs : List V} {ds : List D}, Reps T F m vs ds → Reps T F' m' vs ds
  | _, _, .nil => .nil
  | _, _, .cons r t => .cons (Rep.up s r) (Reps.up s t)
theorem RepF.up (s : Sub F m F' m') : ∀ {vs : List (Str × V)} {ds : List (Nat × D)}, RepF T F m vs ds → RepF T F' m' vs ds
  | _, _, .nil => .nil
  | _, _, .cons k r t => .cons k (Rep.up s r) (RepF.up s t)
end
theorem Reps.length : ∀ {vs : List V} {ds : List D}, Reps T F m vs ds → vs.length = ds.length
  | _, _, .nil => rfl
  | _, _, .cons _ t => by simp [Reps.length t]
theorem Reps.get : ∀ {vs : List V} {ds : List D} {i : Nat} {d : D}, Reps T F m vs ds → ds[i]? = some d → ∃ v, vs[i]? = some v ∧ Rep T F m v d
  | _, _, _, _, .nil, e => by simp at e
  | _, _, 0, _, .cons r _, e => by simp at e; subst e; exact ⟨_, rfl, r⟩
  | _, _, i + 1, _, .cons _ t, e => by
    obtain ⟨v, h1, h2⟩ := Reps.get (i := i) t (by simpa using e)
    exact ⟨v, by simpa using h1, h2⟩
theorem Reps.getV : ∀ {vs : List V} {ds : List D} {i : Nat} {v : V}, Reps T F m vs ds → vs[i]? = some v → ∃ d, ds[i]? = some d ∧ Rep T F m v d
  | _, _, _, _, .nil, e => by simp at e
  | _, _, 0, _, .cons r _, e => by simp at e; subst e; exact ⟨_, rfl, r⟩
  | _, _, i + 1, _, .cons _ t, e => by
    obtain ⟨v, h1, h2⟩ := Reps.getV (i := i) t (by simpa using e)
    exact ⟨v, by simpa using h1, h2⟩
theorem Reps.append : ∀ {vs ws : List V} {ds es : List D}, Reps T F m vs ds → Reps T F m ws es → Reps T F m (vs ++ ws) (ds ++ es)
  | _, _, _, _, .nil, s => s
  | _, _, _, _, .cons r t, s => .cons r (Reps.append t s)
theorem Reps.set {v : V} {d : D} (r : Rep T F m v d) : ∀ {vs : List V} {ds : List D} (i : Nat), Reps T F m vs ds → Reps T F m (vs.set i v) (ds.set i d)
  | _, _, _, .nil => .nil
  | _, _, 0, .cons _ t => .cons r t
  | _, _, i + 1, .cons q t => .cons q (Reps.set r i t)
theorem Reps.take : ∀ {vs : List V} {ds : List D} (n : Nat), Reps T F m vs ds → Reps T F m (vs.take n) (ds.take n)
  | _, _, 0, _ => .nil
  | _, _, _ + 1, .nil => .nil
  | _, _, n + 1, .cons r t => .cons r (Reps.take n t)
theorem Reps.drop : ∀ {vs : List V} {ds : List D} (n : Nat), Reps T F m vs ds → Reps T F m (vs.drop n) (ds.drop n)
  | _, _, 0, r => r
  | _, _, _ + 1, .nil => .nil
  | _, _, n + 1, .cons _ t => Reps.drop n t
theorem Reps.reverse {vs : List V} {ds : List D} (h : Reps T F m vs ds) : Reps T F m vs.reverse ds.reverse := by
  induction h using Reps.rec (motive_1 := fun _ _ _ => True) (motive_3 := fun _ _ _ => True) with
  | nil => exact .nil
  | cons r t _ ih => simp only [List.reverse_cons]; exact Reps.append ih (.cons r .nil)
  | _ => trivial
end

/-- an object of the store -/
inductive CellR (T : Tb) (F : Hp) (m : At) (H : Hp) (a : Addr) : Cell → Prop
  | lst {vs : List V} {ds : List D} : F a = none → H a = some (.lst vs) → Reps T F m vs ds → CellR T F m H a (.lst ds)
  | lck {vs : List V} {ds : List D} : F a = none → H a = some (.lst vs) → Reps T F m vs ds → CellR T F m H a (.lck ds)
  | ins {c : Nat} {C dx : Addr} {fvs : List (Str × V)} {fs : List (Nat × D)} : F a = none → T.cl c = some C → H a = some (.ins C dx fvs) → InsOk T.K C fvs → RepF T F m fvs fs → CellR T F m H a (.ins c fs)
  | frz {d : D} : Rep T F m (.ref a) d → CellR T F m H a (.frz d)

structure Rel (T : Tb) (F : Hp) (m : At) (μ : Mu) (H : Hp) : Prop where
  sub : ∀ a o, F a = some o → H a = some o
  cell : ∀ n c, μ.get n = some c → ∃ a, m n = some a ∧ CellR T F m H a c
  inj : ∀ n n' a, m n = some a → m n' = some a → n = n'
  old : ∀ n a, m n = some a → ∃ o, H a = some o
  fresh : ∀ n, μ.nx ≤ n → m n = none
  nd : (μ.cs.map (·.1)).Nodup
  pin : ∀ a o, T.p a = some o → H a = some o ∧ F a = none ∧ ∀ n, m n ≠ some a

/-- slots -/
structure EnvR (T : Tb) (F : Hp) (m : At) (σ : St) (ρ : Env) : Prop where
  len : σ.length = ρ.length
  get : ∀ (i : Nat) (d : D), ρ[i]? = some (some d) → ∃ v, σ[i]? = some (some v) ∧ Rep T F m v d

section
variable {T : Tb} {F F' F2 : Hp} {m m' m2 : At} {σ : St} {ρ : Env}
theorem EnvR.up (s : Sub F m F' m') (e : EnvR T F m σ ρ) : EnvR T F' m' σ ρ := ⟨e.len, fun i d h => by
  obtain ⟨v, h1, h2⟩ := e.get i d h
  exact ⟨v, h1, h2.up s⟩⟩
theorem EnvR.set {v : V} {d : D} {i : Nat} (e : EnvR T F m σ ρ) (r : Rep T F m v d) : EnvR T F m (σ.set i (some v)) (ρ.set i (some d)) := by
  refine ⟨by simp [e.len], fun j d' h => ?_⟩
  by_cases hj : i = j
  · subst hj
    by_cases hl : i < ρ.length
    · rw [List.getElem?_set_self hl] at h
      cases h
      exact ⟨v, by rw [List.getElem?_set_self (by rw [e.len]; exact hl)], r⟩
    · rw [List.getElem?_eq_none (by simpa using hl)] at h
      cases h
  · rw [List.getElem?_set_ne hj] at h ⊢
    exact e.get j d' h
theorem EnvR.unset {i : Nat} (e : EnvR T F m σ ρ) : EnvR T F m (σ.set i none) (ρ.set i none) := by
  refine ⟨by simp [e.len], fun j d' h => ?_⟩
  by_cases hj : i = j
  · subst hj
    by_cases hl : i < ρ.length
    · rw [List.getElem?_set_self hl] at h
      cases h
    · rw [List.getElem?_eq_none (by simpa using hl)] at h
      cases h
  · rw [List.getElem?_set_ne hj] at h ⊢
    exact e.get j d' h
theorem EnvR.wipe (e : EnvR T F m σ ρ) : ∀ l : List Nat, EnvR T F m (wipe σ l) (wipeE ρ l)
  | [] => e
  | i :: l => by
    unfold L2.wipe wipeE
    exact (EnvR.wipe e l).unset
end

/-! ### what follows -/
/-- the wish for an error: at its class, its own dict, the slots, the heap -/
abbrev WK := Addr → Addr → Hp → Prop
/-- x has come to an end: what follows holds whatever stands for its value -/
def Post {α β : Type} (T : Tb) (RA : Hp → At → Hp → β → α → Prop) (F : Hp) (m : At) (x : R α) (Q : β → Hp → Prop) (E : WK) : Prop := match x with
  | .ok a μ => ∀ b H' F' m', Sub F m F' m' → Rel T F' m' μ H' → RA F' m' H' b a → Q b H'
  | .exc c fs μ => ∀ C dx fvs H' F' m', Sub F m F' m' → Rel T F' m' μ H' → T.cl c = some C → H' dx = some (.xd fvs) → F' dx = some (.xd fvs) → RepF T F' m' fvs fs → Xf T.K C fvs → E C dx H'
  | .stuck => False
section
variable {α α' β β' : Type} {T : Tb} {RA : Hp → At → Hp → β → α → Prop} {RB : Hp → At → Hp → β' → α' → Prop} {F F' : Hp} {m m' : At} {Q Q' : β → Hp → Prop} {E : WK} {x : R α}
theorem Post.up (s : Sub F m F' m') (h : Post T RA F m x Q E) : Post T RA F' m' x Q E := by
  cases x with
  | ok a μ => exact fun b H' F2 m2 s2 r ra => h b H' F2 m2 (s.trans s2) r ra
  | exc c fs μ => exact fun C dx fvs H' F2 m2 s2 r hc hd hf rf xf => h C dx fvs H' F2 m2 (s.trans s2) r hc hd hf rf xf
  | stuck => exact h
theorem Post.imp (h : Post T RA F m x Q E) (k : ∀ b H, Q b H → Q' b H) : Post T RA F m x Q' E := by
  cases x with
  | ok a μ => exact fun b H' F2 m2 s2 r ra => k _ _ (h b H' F2 m2 s2 r ra)
  | exc c fs μ => exact h
  | stuck => exact h
/-- a part, then the rest -/
theorem Post.bind {y : M α} {f : α → M α'} {Q2 : β' → Hp → Prop} {μ : Mu} (h : Post T RB F m (M.bind y f μ) Q2 E)
    (k : ∀ b H' F' m' a μ', Sub F m F' m' → Rel T F' m' μ' H' → RA F' m' H' b a → Post T RB F' m' (f a μ') Q2 E → Q b H') : Post T RA F m (y μ) Q E := by
  unfold M.bind at h
  cases e : y μ with
  | ok a μ' =>
    rw [e] at h
    exact fun b H' F2 m2 s r ra => k b H' F2 m2 a μ' s r ra (Post.up s h)
  | exc c fs μ' =>
    rw [e] at h
    exact h
  | stuck =>
    rw [e] at h
    exact h
end

abbrev RD (T : Tb) : Hp → At → Hp → V → D → Prop := fun F m _ v d => Rep T F m v d
abbrev RDs (T : Tb) : Hp → At → Hp → List V → List D → Prop := fun F m _ v d => Reps T F m v d
abbrev RId (α : Type) : Hp → At → Hp → α → α → Prop := fun _ _ _ b a => b = a
/-- a list is one just made, known to nobody yet -/
def RN (T : Tb) : Hp → At → Hp → V → D → Prop := fun F m H v d => match d with
  | .lst ds => ∃ p vs, v = .ref p ∧ F p = none ∧ H p = some (.lst vs) ∧ Reps T F m vs ds ∧ (∀ n, m n ≠ some p) ∧ T.p p = none
  | d => Rep T F m v d

/-- the reading of an expression: W the wish for an error -/
def rdE (T : Tb) (W : WX) (f : Ex) : TE := fun σ H Q => ∃ F m μ ρ, Rel T F m μ H ∧ EnvR T F m σ ρ ∧ Post T (RD T) F m (f ρ μ) Q (fun C dx H' => W (.ref C) (some dx) σ H')
def rdT (T : Tb) (W : WX) (f : Tst) : TT := fun σ H Q => ∃ F m μ ρ, Rel T F m μ H ∧ EnvR T F m σ ρ ∧ Post T (RId Bool) F m (f ρ μ) Q (fun C dx H' => W (.ref C) (some dx) σ H')
def rdA (T : Tb) (W : WX) (f : Exs) : TA := fun σ H Q => ∃ F m μ ρ, Rel T F m μ H ∧ EnvR T F m σ ρ ∧ Post T (RDs T) F m (f ρ μ) Q (fun C dx H' => W (.ref C) (some dx) σ H')
def rdN (T : Tb) (W : WX) (f : Ex) : TE := fun σ H Q => ∃ F m μ ρ, Rel T F m μ H ∧ EnvR T F m σ ρ ∧ Post T (RN T) F m (f ρ μ) Q (fun C dx H' => W (.ref C) (some dx) σ H')
theorem _root_.L2.PE.imp {X : Cx} {e : Expr} {t t' : TE} (h : PE X e t) (k : ∀ σ H Q, t' σ H Q → t σ H Q) : PE X e t' := ⟨fun pins s σ H Q I hw => h.run pins s σ H Q I (k σ H Q hw)⟩
theorem _root_.L2.PT.imp {X : Cx} {e : Expr} {t t' : TT} (h : PT X e t) (k : ∀ σ H Q, t' σ H Q → t σ H Q) : PT X e t' := ⟨fun pins s σ H Q I hw => h.run pins s σ H Q I (k σ H Q hw)⟩
theorem _root_.L2.PW.imp {X : Cx} {e : Expr} {t t' : TT} (h : PW X e t) (k : ∀ σ H Q, t' σ H Q → t σ H Q) : PW X e t' := ⟨fun wh pins s σ H Q I hw => h.run wh pins s σ H Q I (k σ H Q hw)⟩
theorem _root_.L2.PA.imp {X : Cx} {e : List Expr} {t t' : TA} (h : PA X e t) (k : ∀ σ H Q, t' σ H Q → t σ H Q) : PA X e t' := ⟨fun pos pins s σ H Q I hw => h.run pos pins s σ H Q I (k σ H Q hw)⟩
theorem _root_.L2.PS.imp {X : Cx} {e : Stmt} {t t' : TS} (h : PS X e t) (k : ∀ D σ H, t' D σ H → t D σ H) : PS X e t' := ⟨fun pins s σ H D I hw => h.run pins s σ H D I (k D σ H hw)⟩
theorem _root_.L2.PSs.imp {X : Cx} {e : List Stmt} {t t' : TS} (h : PSs X e t) (k : ∀ D σ H, t' D σ H → t D σ H) : PSs X e t' := ⟨fun pins s σ H D I hw => h.run pins s σ H D I (k D σ H hw)⟩
/-! ### the store changes -/
theorem lookup_setL (n k : Nat) (c : Cell) : ∀ l : List (Nat × Cell), (setL n c l).lookup k = if k = n then (l.lookup n).map fun _ => c else l.lookup k
  | [] => by by_cases h : k = n <;> simp [setL, h]
  | (i, d) :: r => by
    unfold setL
    by_cases hi : i = n
    · subst hi
      by_cases hk : k = i
      · subst hk; simp [List.lookup]
      · have : (k == i) = false := by simpa using hk
        simp [List.lookup, hk, this]
    · have ih := lookup_setL n k c r
      by_cases hk : k = i
      · subst hk
        simp [List.lookup, hi]
      · have h1 : (k == i) = false := by simpa using hk
        have h2 : (n == i) = false := by simpa using (Ne.symm hi)
        simp only [hi, if_false, List.lookup, h1, h2]
        exact ih
theorem keys_setL (n : Nat) (c : Cell) : ∀ l : List (Nat × Cell), (setL n c l).map (·.1) = l.map (·.1)
  | [] => rfl
  | (i, d) :: r => by
    unfold setL
    by_cases hi : i = n
    · simp [hi]
    · simp [hi, keys_setL n c r]
theorem Mu.get_put {μ : Mu} {n k : Nat} {c c0 : Cell} (h : μ.get n = some c0) : (μ.put n c).get k = if k = n then some c else μ.get k := by
  unfold Mu.get Mu.put at *
  rw [lookup_setL, h]
  rfl
theorem Mu.get_new {μ : Mu} {k : Nat} {c : Cell} : (μ.new c).get k = if k = μ.nx then some c else μ.get k := by
  unfold Mu.get Mu.new
  by_cases h : k = μ.nx
  · subst h; simp [List.lookup]
  · have : (k == μ.nx) = false := by simpa using h
    simp [List.lookup, this, h]
theorem lookup_dropWhile {q : Nat × Cell → Bool} {k : Nat} {c : Cell} : ∀ {l : List (Nat × Cell)}, (l.map (·.1)).Nodup → (l.dropWhile q).lookup k = some c → l.lookup k = some c
  | [], _, h => by simp at h
  | (i, d) :: r, nd, h => by
    simp only [List.map_cons, List.nodup_cons] at nd
    by_cases hq : q (i, d) = true
    · rw [List.dropWhile_cons_of_pos hq] at h
      have h2 := lookup_dropWhile nd.2 h
      have hk : k ≠ i := fun e => by
        subst e
        have : k ∈ r.map (·.1) := by
          have : ∃ c', (k, c') ∈ r := by
            clear h nd hq
            induction r with
            | nil => simp at h2
            | cons p r ih =>
              obtain ⟨j, e⟩ := p
              by_cases hj : k = j
              · subst hj; exact ⟨e, by simp⟩
              · have : (k == j) = false := by simpa using hj
                rw [List.lookup, this] at h2
                obtain ⟨c', hc⟩ := ih h2
                exact ⟨c', List.mem_cons_of_mem _ hc⟩
          obtain ⟨c', hc⟩ := this
          exact List.mem_map.mpr ⟨_, hc, rfl⟩
        exact nd.1 this
      have : (k == i) = false := by simpa using hk
      rw [List.lookup, this]
      exact h2
    · rw [List.dropWhile_cons_of_neg hq] at h
      exact h
theorem keys_dropWhile {q : Nat × Cell → Bool} {l : List (Nat × Cell)} (nd : (l.map (·.1)).Nodup) : ((l.dropWhile q).map (·.1)).Nodup :=
  nd.sublist ((List.dropWhile_sublist q).map _)
theorem mem_of_lookupC {k : Nat} {c : Cell} : ∀ {l : List (Nat × Cell)}, l.lookup k = some c → k ∈ l.map (·.1)
  | [], h => by simp at h
  | (j, e) :: r, h => by
    by_cases hj : k = j
    · subst hj; simp
    · have : (k == j) = false := by simpa using hj
      rw [List.lookup, this] at h
      exact List.mem_cons_of_mem _ (mem_of_lookupC h)
theorem lookup_of_memC {k : Nat} : ∀ {l : List (Nat × Cell)}, k ∈ l.map (·.1) → ∃ c, l.lookup k = some c
  | [], h => by simp at h
  | (j, e) :: r, h => by
    by_cases hj : k = j
    · subst hj; exact ⟨e, by simp [List.lookup]⟩
    · have q : (k == j) = false := by simpa using hj
      simp only [List.map_cons, List.mem_cons] at h
      obtain ⟨c, hc⟩ := lookup_of_memC (h.resolve_left hj)
      exact ⟨c, by rw [List.lookup, q]; exact hc⟩
theorem updM_same {m : At} {n : Nat} {p : Addr} : (fun k => if k = n then some p else m k) n = some p := if_pos rfl

section
variable {T : Tb} {F F' : Hp} {m m' : At} {μ : Mu} {H H' : Hp} {p a : Addr} {o : HO} {c : Cell} {n : Nat}
theorem CellR.upF (s : Sub F m F' m') (hf : F' a = none ∨ F' = F) (h : CellR T F m H a c) : CellR T F' m' H a c := by
  cases h with
  | lst f h r => exact .lst (by rcases hf with q | q; exact q; rw [q]; exact f) h (r.up s)
  | lck f h r => exact .lck (by rcases hf with q | q; exact q; rw [q]; exact f) h (r.up s)
  | ins f c h n r => exact .ins (by rcases hf with q | q; exact q; rw [q]; exact f) c h n (r.up s)
  | frz r => exact .frz (r.up s)
theorem CellR.upH (k : ∀ o, F a = none → H a = some o → H' a = some o) (h : CellR T F m H a c) : CellR T F m H' a c := by
  cases h with
  | lst f h r => exact .lst f (k _ f h) r
  | lck f h r => exact .lck f (k _ f h) r
  | ins f c h n r => exact .ins f c (k _ f h) n r
  | frz r => exact .frz r
theorem Rel.addH (r : Rel T F m μ H) (hp : H p = none) : Rel T F m μ (upd H p o) := by
  refine ⟨fun a u e => ?_, fun n c e => ?_, r.inj, fun n a e => ?_, r.fresh, r.nd, fun a u e => ⟨by rw [upd_ne (ne_of_none (r.pin a u e).1 hp)]; exact (r.pin a u e).1, (r.pin a u e).2⟩⟩
  · rw [upd_ne (ne_of_none (r.sub a u e) hp)]; exact r.sub a u e
  · obtain ⟨a, h1, h2⟩ := r.cell n c e
    exact ⟨a, h1, h2.upH fun u _ q => by rw [upd_ne (ne_of_none q hp)]; exact q⟩
  · obtain ⟨u, h⟩ := r.old n a e
    exact ⟨u, by rw [upd_ne (ne_of_none h hp)]; exact h⟩
theorem Rel.noF (r : Rel T F m μ H) (hp : H p = none) : F p = none := by
  cases e : F p with
  | none => rfl
  | some o => rw [r.sub p o e] at hp; cases hp
theorem Rel.noM (r : Rel T F m μ H) (hp : H p = none) : ∀ n, m n ≠ some p := fun n e => by
  obtain ⟨o, h⟩ := r.old n p e
  rw [hp] at h; cases h
theorem Rel.noP (r : Rel T F m μ H) (hp : H p = none) : T.p p = none := by
  cases e : T.p p with
  | none => rfl
  | some o => rw [(r.pin p o e).1] at hp; cases hp
theorem Sub.addF (hp : F p = none) : Sub F m (upd F p o) m := ⟨fun a u e => by rw [upd_ne (ne_of_none e hp)]; exact e, fun _ _ h => h⟩
theorem Rel.addF (r : Rel T F m μ H) (hp : F p = none) (ho : H p = some o) (hm : ∀ n, m n ≠ some p) (hP : T.p p = none) : Rel T (upd F p o) m μ H := by
  refine ⟨fun a u e => ?_, fun n c e => ?_, r.inj, r.old, r.fresh, r.nd, fun a u e => ⟨(r.pin a u e).1, by rw [upd_ne (fun q => by rw [q, hP] at e; cases e)]; exact (r.pin a u e).2.1, (r.pin a u e).2.2⟩⟩
  · by_cases h : a = p
    · subst h; rw [upd_same] at e; cases e; exact ho
    · rw [upd_ne h] at e; exact r.sub a u e
  · obtain ⟨a, h1, h2⟩ := r.cell n c e
    have hne : a ≠ p := fun q => hm n (q ▸ h1)
    refine ⟨a, h1, ?_⟩
    cases h2 with
    | lst f h t => exact .lst (by rw [upd_ne hne]; exact f) h (t.up (Sub.addF hp))
    | lck f h t => exact .lck (by rw [upd_ne hne]; exact f) h (t.up (Sub.addF hp))
    | ins f c h n t => exact .ins (by rw [upd_ne hne]; exact f) c h n (t.up (Sub.addF hp))
    | frz t => exact .frz (t.up (Sub.addF hp))
/-- the address of a new object of the store -/
def addM (m : At) (n : Nat) (p : Addr) : At := fun k => if k = n then some p else m k
theorem Sub.addM (r : Rel T F m μ H) : Sub F m F (addM m μ.nx p) := ⟨fun _ _ h => h, fun k a h => by
  unfold Gs.addM
  by_cases hk : k = μ.nx
  · subst hk; rw [r.fresh _ (Nat.le_refl _)] at h; cases h
  · rw [if_neg hk]; exact h⟩
theorem Rel.newC (r : Rel T F m μ H) (ho : H p = some o) (hm : ∀ n, m n ≠ some p) (hP : T.p p = none) (hc : CellR T F m H p c) : Rel T F (addM m μ.nx p) (μ.new c) H := by
  have s : Sub F m F (Gs.addM m μ.nx p) := Sub.addM r
  refine ⟨r.sub, fun n d e => ?_, fun n n' a h h' => ?_, fun n a h => ?_, fun n h => ?_, ?_, fun a u e => ⟨(r.pin a u e).1, (r.pin a u e).2.1, fun n h => ?_⟩⟩
  · rw [Mu.get_new] at e
    by_cases hn : n = μ.nx
    · rw [if_pos hn] at e; cases e
      exact ⟨p, by unfold addM; rw [if_pos hn], hc.upF s (.inr rfl)⟩
    · rw [if_neg hn] at e
      obtain ⟨a, h1, h2⟩ := r.cell n d e
      exact ⟨a, s.m _ _ h1, h2.upF s (.inr rfl)⟩
  · unfold addM at h h'
    by_cases hn : n = μ.nx
    · by_cases hn' : n' = μ.nx
      · rw [hn, hn']
      · rw [if_pos hn] at h; rw [if_neg hn'] at h'; cases h; exact absurd h' (hm n')
    · by_cases hn' : n' = μ.nx
      · rw [if_neg hn] at h; rw [if_pos hn'] at h'; cases h'; exact absurd h (hm n)
      · rw [if_neg hn] at h; rw [if_neg hn'] at h'; exact r.inj _ _ _ h h'
  · unfold addM at h
    by_cases hn : n = μ.nx
    · rw [if_pos hn] at h; cases h; exact ⟨o, ho⟩
    · rw [if_neg hn] at h; exact r.old n a h
  · have h2 : μ.nx + 1 ≤ n := h
    unfold addM
    rw [if_neg (by omega)]
    exact r.fresh n (by omega)
  · show ((μ.nx :: μ.cs.map (·.1))).Nodup
    refine List.nodup_cons.mpr ⟨fun hmem => ?_, r.nd⟩
    obtain ⟨c', h'⟩ := lookup_of_memC hmem
    obtain ⟨a, h1, _⟩ := r.cell _ _ (show μ.get μ.nx = some c' from h')
    rw [r.fresh _ (Nat.le_refl _)] at h1; cases h1
  · unfold addM at h
    by_cases hn : n = μ.nx
    · rw [if_pos hn] at h; cases h; rw [hP] at e; cases e
    · rw [if_neg hn] at h; exact (r.pin a u e).2.2 n h
/-- an object that is not frozen is written -/
theorem Rel.write {c0 : Cell} (r : Rel T F m μ H) (h0 : μ.get n = some c0) (hn : m n = some a) (hF : F a = none) (hc : CellR T F m (upd H a o) a c) : Rel T F m (μ.put n c) (upd H a o) := by
  refine ⟨fun b u e => ?_, fun k d e => ?_, r.inj, fun k b e => ?_, r.fresh, ?_, fun b u e => ⟨by rw [upd_ne (fun q => (r.pin b u e).2.2 n (by rw [q]; exact hn))]; exact (r.pin b u e).1, (r.pin b u e).2⟩⟩
  · have : b ≠ a := fun q => by rw [q, hF] at e; cases e
    rw [upd_ne this]; exact r.sub b u e
  · rw [Mu.get_put h0] at e
    by_cases hk : k = n
    · rw [if_pos hk] at e; cases e
      exact ⟨a, by rw [hk]; exact hn, hc⟩
    · rw [if_neg hk] at e
      obtain ⟨b, h1, h2⟩ := r.cell k d e
      have : b ≠ a := fun q => hk (r.inj _ _ _ (q ▸ h1) hn)
      exact ⟨b, h1, h2.upH fun u _ q => by rw [upd_ne this]; exact q⟩
  · by_cases hb : b = a
    · exact ⟨o, by rw [hb, upd_same]⟩
    · rw [upd_ne hb]; exact r.old k b e
  · show ((setL n c μ.cs).map (·.1)).Nodup
    rw [keys_setL]; exact r.nd
/-- only what the store says of it changes -/
theorem Rel.re {c0 : Cell} (r : Rel T F m μ H) (h0 : μ.get n = some c0) (hn : m n = some a) (hc : CellR T F m H a c) : Rel T F m (μ.put n c) H := by
  refine ⟨r.sub, fun k d e => ?_, r.inj, r.old, r.fresh, ?_, r.pin⟩
  · rw [Mu.get_put h0] at e
    by_cases hk : k = n
    · rw [if_pos hk] at e; cases e
      exact ⟨a, by rw [hk]; exact hn, hc⟩
    · rw [if_neg hk] at e; exact r.cell k d e
  · show ((setL n c μ.cs).map (·.1)).Nodup
    rw [keys_setL]; exact r.nd
/-- an object of the store is frozen -/
theorem Rel.freeze {c0 : Cell} {d : D} (r : Rel T F m μ H) (h0 : μ.get n = some c0) (hn : m n = some a) (hF : F a = none) (ho : H a = some o) (hd : Rep T (upd F a o) m (.ref a) d) : Rel T (upd F a o) m (μ.put n (.frz d)) H := by
  refine ⟨fun b u e => ?_, fun k d' e => ?_, r.inj, r.old, r.fresh, ?_, fun b u e => ⟨(r.pin b u e).1, by rw [upd_ne (fun q => (r.pin b u e).2.2 n (by rw [q]; exact hn))]; exact (r.pin b u e).2.1, (r.pin b u e).2.2⟩⟩
  · by_cases hb : b = a
    · subst hb; rw [upd_same] at e; cases e; exact ho
    · rw [upd_ne hb] at e; exact r.sub b u e
  · rw [Mu.get_put h0] at e
    by_cases hk : k = n
    · rw [if_pos hk] at e; cases e
      exact ⟨a, by rw [hk]; exact hn, .frz hd⟩
    · rw [if_neg hk] at e
      obtain ⟨b, h1, h2⟩ := r.cell k d' e
      have hne : b ≠ a := fun q => hk (r.inj _ _ _ (q ▸ h1) hn)
      refine ⟨b, h1, ?_⟩
      cases h2 with
      | lst f h t => exact .lst (by rw [upd_ne hne]; exact f) h (t.up (Sub.addF hF))
      | lck f h t => exact .lck (by rw [upd_ne hne]; exact f) h (t.up (Sub.addF hF))
      | ins f c h n t => exact .ins (by rw [upd_ne hne]; exact f) c h n (t.up (Sub.addF hF))
      | frz t => exact .frz (t.up (Sub.addF hF))
  · show ((setL n (.frz d) μ.cs).map (·.1)).Nodup
    rw [keys_setL]; exact r.nd
theorem Rel.drop (r : Rel T F m μ H) (k : Nat) : Rel T F m (μ.drop k) H :=
  ⟨r.sub, fun n c e => r.cell n c (lookup_dropWhile r.nd e), r.inj, r.old, r.fresh, keys_dropWhile r.nd, r.pin⟩
theorem Rel.leave (r : Rel T F m μ H) (b : Bool) (k : Nat) : Rel T F m (leave b k μ) H := by
  unfold Gs.leave
  cases b
  · exact r.drop k
  · exact r

/-! ### values as they are read -/
theorem Rel.rs (r : Rel T F m μ H) {v : V} {d : D} (h : Rep T F m v d) : Rep T F m v (rs μ d) := by
  cases h with
  | @ref a n e =>
    show Rep T F m (.ref a) (match μ.get n with
      | some (.frz d) => d
      | _ => .ref n)
    cases q : μ.get n with
    | none => exact .ref e
    | some c =>
      obtain ⟨b, h1, h2⟩ := r.cell n c q
      rw [e] at h1; cases h1
      cases h2 with
      | frz t => exact t
      | _ => exact .ref e
  | non => exact .non
  | bl b => exact .bl b
  | int i => exact .int i
  | str s => exact .str s
  | tup h t => exact .tup h t
  | lst h t => exact .lst h t
  | rol h t => exact .rol h t
  | obj c h n t => exact .obj c h n t
  | exc c h1 h2 x t => exact .exc c h1 h2 x t
/-- v as a list | tuple | other that is read now: over H -/
inductive Vw (T : Tb) (F : Hp) (m : At) (H : Hp) : V → D → Prop
  | of {v : V} {d : D} : (∀ n, d ≠ .ref n) → Rep T F m v d → Vw T F m H v d
  | lst {a : Addr} {vs : List V} {ds : List D} : H a = some (.lst vs) → Reps T F m vs ds → Vw T F m H (.ref a) (.lst ds)
  | ref {a : Addr} {n : Nat} : m n = some a → Vw T F m H (.ref a) (.ref n)
theorem Rel.vw (r : Rel T F m μ H) {v : V} {d : D} (h : Rep T F m v d) : Vw T F m H v (vw μ d) := by
  cases h with
  | @ref a n e =>
    show Vw T F m H (.ref a) (match μ.get n with
      | some (.lst xs) => .lst xs
      | some (.lck xs) => .lst xs
      | some (.frz d) => d
      | _ => .ref n)
    cases q : μ.get n with
    | none => exact .ref e
    | some c =>
      obtain ⟨b, h1, h2⟩ := r.cell n c q
      rw [e] at h1; cases h1
      cases h2 with
      | lst f h t => exact .lst h t
      | lck f h t => exact .lst h t
      | ins f c h n t => exact .ref e
      | frz t =>
        cases t with
        | ref e2 => exact .ref e2
        | tup h t => exact .of (fun n => by simp) (.tup h t)
        | lst h t => exact .of (fun n => by simp) (.lst h t)
        | rol h t => exact .of (fun n => by simp) (.rol h t)
        | obj c h n t => exact .of (fun n => by simp) (.obj c h n t)
        | exc c h1 h2 x t => exact .of (fun n => by simp) (.exc c h1 h2 x t)
  | non => exact .of (fun n => by simp [Gs.vw]) .non
  | bl b => exact .of (fun n => by simp [Gs.vw]) (.bl b)
  | int i => exact .of (fun n => by simp [Gs.vw]) (.int i)
  | str s => exact .of (fun n => by simp [Gs.vw]) (.str s)
  | tup h t => exact .of (fun n => by simp [Gs.vw]) (.tup h t)
  | lst h t => exact .of (fun n => by simp [Gs.vw]) (.lst h t)
  | rol h t => exact .of (fun n => by simp [Gs.vw]) (.rol h t)
  | obj c h n t => exact .of (fun n => by simp [Gs.vw]) (.obj c h n t)
  | exc c h1 h2 x t => exact .of (fun n => by simp [Gs.vw]) (.exc c h1 h2 x t)
end
/-- other pinned parts -/
def Tb.wp (T : Tb) (P : Hp) : Tb := { T with p := P }
mutual
theorem Rep.wp {T : Tb} {F : Hp} {m : At} (P : Hp) : ∀ {v : V} {d : D}, Rep T F m v d → Rep (T.wp P) F m v d
  | _, _, .non => .non
  | _, _, .bl b => .bl b
  | _, _, .int i => .int i
  | _, _, .str x => .str x
  | _, _, .tup h r => .tup h (Reps.wp P r)
  | _, _, .lst h r => .lst h (Reps.wp P r)
  | _, _, .rol h r => .rol h (Reps.wp P r)
  | _, _, .obj c h n r => .obj c h n (RepF.wp P r)
  | _, _, .exc c h1 h2 x r => .exc c h1 h2 x (RepF.wp P r)
  | _, _, .ref h => .ref h
theorem Reps.wp {T : Tb} {F : Hp} {m : At} (P : Hp) : ∀ {vs : List V} {ds : List D}, Reps T F m vs ds → Reps (T.wp P) F m vs ds
  | _, _, .nil => .nil
  | _, _, .cons r t => .cons (Rep.wp P r) (Reps.wp P t)
theorem RepF.wp {T : Tb} {F : Hp} {m : At} (P : Hp) : ∀ {vs : List (Str × V)} {ds : List (Nat × D)}, RepF T F m vs ds → RepF (T.wp P) F m vs ds
  | _, _, .nil => .nil
  | _, _, .cons k r t => .cons k (Rep.wp P r) (RepF.wp P t)
end
theorem Rep.unwp {T : Tb} {F : Hp} {m : At} {P : Hp} {v : V} {d : D} (h : Rep (T.wp P) F m v d) : Rep T F m v d := Rep.wp (T := T.wp P) T.p h
theorem Reps.unwp {T : Tb} {F : Hp} {m : At} {P : Hp} {v : List V} {d : List D} (h : Reps (T.wp P) F m v d) : Reps T F m v d := Reps.wp (T := T.wp P) T.p h
theorem EnvR.wp {T : Tb} {F : Hp} {m : At} (P : Hp) {σ : L2.St} {ρ : Env} (h : EnvR T F m σ ρ) : EnvR (T.wp P) F m σ ρ := ⟨h.len, fun i d e => by
  obtain ⟨v, h1, h2⟩ := h.get i d e
  exact ⟨v, h1, h2.wp P⟩⟩
theorem EnvR.unwp {T : Tb} {F : Hp} {m : At} {P : Hp} {σ : L2.St} {ρ : Env} (h : EnvR (T.wp P) F m σ ρ) : EnvR T F m σ ρ := EnvR.wp (T := T.wp P) T.p h
theorem CellR.wp {T : Tb} {F : Hp} {m : At} {H : Hp} {a : Addr} {c : Cell} (P : Hp) (h : CellR T F m H a c) : CellR (T.wp P) F m H a c := by
  cases h with
  | lst f h t => exact .lst f h (t.wp P)
  | lck f h t => exact .lck f h (t.wp P)
  | ins f c h n t => exact .ins f c h n (t.wp P)
  | frz t => exact .frz (t.wp P)
theorem Rel.wp {T : Tb} {F : Hp} {m : At} {μ : Mu} {H : Hp} {P : Hp} (r : Rel T F m μ H) (hp : ∀ a o, P a = some o → H a = some o ∧ F a = none ∧ ∀ n, m n ≠ some a) : Rel (T.wp P) F m μ H :=
  ⟨r.sub, fun n c e => by
    obtain ⟨a, h1, h2⟩ := r.cell n c e
    exact ⟨a, h1, h2.wp P⟩, r.inj, r.old, r.fresh, r.nd, hp⟩

end Gs
/-! GsS1: expressions: names, operators, comparisons, tests. -/
namespace Gs
open PySem PySem.Spec L2

/-! ### what a value is, from what it stands for -/
section
variable {T : Tb} {F : Hp} {m : At} {μ : Mu} {H : Hp} {v : V}
theorem Vw.non (h : Vw T F m H v .non) : v = .non := by
  cases h with | of _ h => cases h; rfl
theorem Vw.bl {b : Bool} (h : Vw T F m H v (.bl b)) : v = .bl b := by
  cases h with | of _ h => cases h; rfl
theorem Vw.int {i : Int} (h : Vw T F m H v (.int i)) : v = .int i := by
  cases h with | of _ h => cases h; rfl
theorem Vw.str {x : Str} (h : Vw T F m H v (.str x)) : v = .str x := by
  cases h with | of _ h => cases h; rfl
theorem Vw.tup {ds : List D} (h : Vw T F m H v (.tup ds)) : ∃ a vs, v = .ref a ∧ SqT T.K F a vs ∧ Reps T F m vs ds := by
  cases h with | of _ h => cases h with | tup h r => exact ⟨_, _, rfl, h, r⟩
theorem Vw.rol {ds : List D} (h : Vw T F m H v (.rol ds)) : ∃ a vs, v = .ref a ∧ SqL T.K F a vs ∧ Reps T F m vs ds := by
  cases h with | of _ h => cases h with | rol h r => exact ⟨_, _, rfl, h, r⟩
theorem Vw.list (rl : Rel T F m μ H) {ds : List D} (h : Vw T F m H v (.lst ds)) : ∃ a vs, v = .ref a ∧ H a = some (.lst vs) ∧ Reps T F m vs ds := by
  cases h with
  | of _ h => cases h with | lst h r => exact ⟨_, _, rfl, rl.sub _ _ h, r⟩
  | lst h r => exact ⟨_, _, rfl, h, r⟩
theorem Rep.vInt {i : Int} (h : Rep T F m v (.int i)) : v = .int i := by cases h; rfl
theorem Rep.vBl {b : Bool} (h : Rep T F m v (.bl b)) : v = .bl b := by cases h; rfl
theorem Rep.vStr {x : Str} (h : Rep T F m v (.str x)) : v = .str x := by cases h; rfl
theorem Rep.vNon (h : Rep T F m v .non) : v = .non := by cases h; rfl
theorem Rep.vTup {ds : List D} (h : Rep T F m v (.tup ds)) : ∃ a vs, v = .ref a ∧ SqT T.K F a vs ∧ Reps T F m vs ds := by cases h with | tup h r => exact ⟨_, _, rfl, h, r⟩
theorem Rep.vLst {ds : List D} (h : Rep T F m v (.lst ds)) : ∃ a vs, v = .ref a ∧ F a = some (.lst vs) ∧ Reps T F m vs ds := by cases h with | lst h r => exact ⟨_, _, rfl, h, r⟩
theorem Rep.vRef {n : Nat} (h : Rep T F m v (.ref n)) : ∃ a, v = .ref a ∧ m n = some a := by cases h with | ref h => exact ⟨_, rfl, h⟩
theorem Reps.ints : ∀ {vs : List V} {ds : List D} {ns : List Int}, Reps T F m vs ds → intsOf ds = some ns → vs = ns.map V.int
  | _, _, _, .nil, h => by simp [intsOf] at h; subst h; rfl
  | _, _, _, .cons (d := d) r t, h => by
    cases d with
    | int i =>
      cases r
      simp only [intsOf, Option.map_eq_some_iff] at h
      obtain ⟨ns, h1, rfl⟩ := h
      rw [Reps.ints t h1]; rfl
    | _ => simp [intsOf] at h
end

/-! ### the context -/
/-- what isinstance tells of classes -/
structure Kit (K : PySem.W.Frag) (cl : At) (bs : Bases) : Prop where
  no : ∀ d D, cl d = some D → ∀ n ∈ (["NoneType", "bool", "int", "str", "tuple", "list"] : List String), PySem.W.kitOne K (.type n) (.ref D) = some false
  ins : ∀ c C, cl c = some C → InsC K C → (∀ n ∈ (["bool", "int", "str", "tuple", "list"] : List String), PySem.W.kitOne K (.ref C) (.type n) = some false) ∧ ∀ d D, cl d = some D → PySem.W.kitOne K (.ref C) (.ref D) = some ((bs c).contains d)
/-- what the module holds, as the context says it -/
structure Mdl (C : Cxt) (K : PySem.W.Frag) (mg : Str → Option Value) (T : Tb) : Prop where
  con : ∀ x d, okN x = true → C.glob.lookup (nid x) = some (.con d) → ∃ v u, mg x = some u ∧ RelV v u ∧ ∀ F m, Rep T F m v d
  blt : ∀ x, okN x = true → C.glob.lookup (nid x) = some .blt → mg x = none
  cls : ∀ x g, okN x = true → C.glob.lookup (nid x) = some g → (∀ d, g ≠ .con d) → (∀ ps dfl, g ≠ .fn ps dfl) → g ≠ .blt → ∃ D, T.cl (nid x) = some D ∧ mg x = some (.ref D)
  kit : Kit K T.cl C.bs
  exm : ∀ c Ca d Da, T.cl c = some Ca → T.cl d = some Da → PySem.W.subIn K (.ref Ca) (.type "BaseException") = some true → PySem.W.subIn K (.ref Da) (.type "BaseException") = some true → PySem.W.exmOne K (.ref Ca) (.ref Da) = some ((C.bs c).contains d)
  exs : ∀ x g, okN x = true → C.glob.lookup (nid x) = some g → ((∃ ps, g = .err ps) ∨ g = .bare) → ∀ D, T.cl (nid x) = some D → PySem.W.subIn K (.ref D) (.type "BaseException") = some true
structure Good (C : Cxt) (X : Cx) (W : WX) (T : Tb) (n : Nat) : Prop where
  N : X.N = C.N
  nd : C.N.Nodup
  sc : X.env.scope = C.sc
  fn : ∀ x, C.fn x = true → X.fn x = true
  tk : Takes X W
  own : PassesOwn (model X.prog X.w) X.A X.env X.xe
  calm : X.calm = true
  room : Room n X.A
  K : X.K = T.K
  z : ∀ a, T.z a = none
  mdl : Mdl C X.K X.mg T

/-! ### operators by values -/
section
variable {X : Cx} {T : Tb}
/-- fo does with two values what f does with what they stand for -/
def Op2 (X : Cx) (T : Tb) (f : Mu → D → D → Option D) (fo : Value → Value → Sem Value) : Prop :=
  ∀ (pins : List (Addr × Obj)) (s : Shared) (σ : L2.St) (F : Hp) (m : At) (μ : Mu) (H : Hp) (v1 v2 : V) (u1 u2 : Value) (x y d : D) (Q : VK), Inv X pins σ H s → RelV v1 u1 → RelV v2 u2 → Rel T F m μ H → Rep T F m v1 x → Rep T F m v2 y → f μ x y = some d →
    (∀ v H' F' m', Sub F m F' m' → Rel T F' m' μ H' → RN T F' m' H' v d → Q v H') → wpAny (model X.prog X.w) X.A (fo u1 u2) (EP X pins σ Q) X.xe s
def Op1 (X : Cx) (T : Tb) (f : Mu → D → Option D) (fo : Value → Sem Value) : Prop :=
  ∀ (pins : List (Addr × Obj)) (s : Shared) (σ : L2.St) (F : Hp) (m : At) (μ : Mu) (H : Hp) (v1 : V) (u1 : Value) (x d : D) (Q : VK), Inv X pins σ H s → RelV v1 u1 → Rel T F m μ H → Rep T F m v1 x → f μ x = some d →
    (∀ v H' F' m', Sub F m F' m' → Rel T F' m' μ H' → RN T F' m' H' v d → Q v H') → wpAny (model X.prog X.w) X.A (fo u1) (EP X pins σ Q) X.xe s
/-- a value that is no list, nothing changed -/
theorem rn_of {F : Hp} {m : At} {H : Hp} {v : V} {d : D} (h : Rep T F m v d) (hd : ∀ xs, d ≠ .lst xs) : RN T F m H v d := by
  cases d with
  | lst xs => exact absurd rfl (hd xs)
  | _ => exact h
theorem RN.int {F : Hp} {m : At} {H : Hp} (i : Int) : RN T F m H (.int i) (.int i) := Rep.int i
theorem RN.bl {F : Hp} {m : At} {H : Hp} (i : Bool) : RN T F m H (.bl i) (.bl i) := Rep.bl i
theorem RN.str {F : Hp} {m : At} {H : Hp} (i : Str) : RN T F m H (.str i) (.str i) := Rep.str i
/-- a new list at p -/
theorem rn_new {F : Hp} {m : At} {μ : Mu} {H : Hp} {vs : List V} {ds : List D} (rl : Rel T F m μ H) (r : Reps T F m vs ds) {p : Addr} (hp : H p = none) : Rel T F m μ (upd H p (.lst vs)) ∧ RN T F m (upd H p (.lst vs)) (.ref p) (.lst ds) :=
  ⟨rl.addH hp, p, vs, rfl, rl.noF hp, upd_same, r, rl.noM hp, rl.noP hp⟩
/-- a new tuple at p -/
theorem rn_tup {F : Hp} {m : At} {μ : Mu} {H : Hp} {vs : List V} {ds : List D} (rl : Rel T F m μ H) (r : Reps T F m vs ds) {p : Addr} (hp : H p = none) :
    Sub F m (upd F p (.tup vs)) m ∧ Rel T (upd F p (.tup vs)) m μ (upd H p (.tup vs)) ∧ Rep T (upd F p (.tup vs)) m (.ref p) (.tup ds) := by
  have s : Sub F m (upd F p (.tup vs)) m := Sub.addF (rl.noF hp)
  exact ⟨s, (rl.addH hp).addF (rl.noF hp) upd_same (rl.noM hp) (rl.noP hp), .tup (SqT.of upd_same) (r.up s)⟩
theorem line_le {n : Nat} (h : lineOk n = true) : n ≤ sizeLine := by
  unfold lineOk at h
  have := Nat.le_of_ble_eq_true h
  rw [sizeLine_eq]; exact this
theorem Reps.flat {F : Hp} {m : At} {vs : List V} {ds : List D} (r : Reps T F m vs ds) : ∀ k : Nat, Reps T F m (List.replicate k vs).flatten (List.replicate k ds).flatten
  | 0 => .nil
  | k + 1 => by
    rw [List.replicate_succ, List.replicate_succ, List.flatten_cons, List.flatten_cons]
    exact r.append (Reps.flat r k)
theorem intBits_eq (i : Int) : bitsOf i = Builtin.Int.intBits i := rfl
theorem mulx {i j : Int} (h : mulOk i j = true) : CMulX i j := by
  have := Nat.le_of_ble_eq_true h
  unfold CMulX
  unfold bitsOf at this
  omega

theorem o_add (hk : X.K = T.K) : Op2 X T oAdd (binaryOp .Add) := by
  intro pins s σ F m μ H v1 v2 u1 u2 x y d Q I r1 r2 rl h1 h2 e hQ
  have w1 := rl.vw h1
  have w2 := rl.vw h2
  unfold oAdd at e
  split at e
  · rename_i i j e1 e2
    rw [e1] at w1; rw [e2] at w2
    cases e
    exact op_add pins s σ H v1 v2 u1 u2 Q I r1 r2 ⟨i, j, w1.int, w2.int, hQ _ _ _ _ Sub.refl rl (RN.int _)⟩
  · rename_i i j e1 e2
    rw [e1] at w1; rw [e2] at w2
    split at e
    · rename_i hl
      cases e
      exact op_add_str pins s σ H v1 v2 u1 u2 Q I r1 r2 ⟨i, j, w1.str, w2.str, line_le hl, hQ _ _ _ _ Sub.refl rl (RN.str _)⟩
    · cases e
  · rename_i xs ys e1 e2
    rw [e1] at w1; rw [e2] at w2
    split at e
    · rename_i hl
      cases e
      obtain ⟨a, vs, ev, q1, t1⟩ := w1.tup
      obtain ⟨b, ws, ew, q2, t2⟩ := w2.tup
      subst ev ew
      · refine op_catA pins s σ H _ _ u1 u2 Q I r1 r2 ⟨a, b, vs, ws, rfl, rfl, by rw [hk]; exact SqT.up rl.sub q1, by rw [hk]; exact SqT.up rl.sub q2, by rw [t1.length, t2.length]; exact line_le hl, fun z => ?_, fun _ z => ?_, fun _ _ p hp => ?_⟩
        · subst z
          cases t1
          exact hQ _ _ _ _ Sub.refl rl (.tup q2 t2)
        · subst z
          cases t2
          rw [List.append_nil] at hQ
          exact hQ _ _ _ _ Sub.refl rl (.tup q1 t1)
        · obtain ⟨s1, r3, r4⟩ := rn_tup rl (t1.append t2) hp
          exact hQ _ _ _ _ s1 r3 r4
    · cases e
  · rename_i xs ys e1 e2
    rw [e1] at w1; rw [e2] at w2
    split at e
    · rename_i hl
      cases e
      obtain ⟨a, vs, ev, q1, t1⟩ := w1.list rl
      obtain ⟨b, ws, ew, q2, t2⟩ := w2.list rl
      subst ev ew
      refine op_cat pins s σ H _ _ u1 u2 Q I r1 r2 ⟨a, b, vs, ws, rfl, rfl, q1, q2, by rw [t1.length, t2.length]; exact line_le hl, fun p hp => ?_⟩
      obtain ⟨r3, r4⟩ := rn_new rl (t1.append t2) hp
      exact hQ _ _ _ _ Sub.refl r3 r4
    · cases e
  · cases e
/-- two ints -/
theorem o_int {f : Mu → D → D → Option D} {fo : Value → Value → Sem Value} {C : Int → Int → Prop} {g : Int → Int → Int} (op : OpR X fo (rI C fun i j => .int (g i j)))
    (hf : ∀ (μ : Mu) (x y d : D), f μ x y = some d → ∃ i j, x = .int i ∧ y = .int j ∧ C i j ∧ d = .int (g i j)) : Op2 X T f fo := by
  intro pins s σ F m μ H v1 v2 u1 u2 x y d Q I r1 r2 rl h1 h2 e hQ
  obtain ⟨i, j, rfl, rfl, hc, rfl⟩ := hf μ x y d e
  exact op pins s σ H v1 v2 u1 u2 Q I r1 r2 ⟨i, j, h1.vInt, h2.vInt, hc, hQ _ _ _ _ Sub.refl rl (RN.int _)⟩
theorem o_int0 {f : Mu → D → D → Option D} {fo : Value → Value → Sem Value} {g : Int → Int → Int} (op : OpR X fo (rI0 fun i j => .int (g i j)))
    (hf : ∀ (μ : Mu) (x y d : D), f μ x y = some d → ∃ i j, x = .int i ∧ y = .int j ∧ d = .int (g i j)) : Op2 X T f fo := by
  intro pins s σ F m μ H v1 v2 u1 u2 x y d Q I r1 r2 rl h1 h2 e hQ
  obtain ⟨i, j, rfl, rfl, rfl⟩ := hf μ x y d e
  exact op pins s σ H v1 v2 u1 u2 Q I r1 r2 ⟨i, j, h1.vInt, h2.vInt, hQ _ _ _ _ Sub.refl rl (RN.int _)⟩
theorem o_sub : Op2 X T oSub (binaryOp .Sub) := o_int0 op_sub fun μ x y d e => by
  unfold oSub at e
  split at e
  · cases e; exact ⟨_, _, rfl, rfl, rfl⟩
  · cases e
theorem o_and : Op2 X T oAnd (binaryOp .BitAnd) := o_int0 op_and fun μ x y d e => by
  unfold oAnd at e
  split at e
  · cases e; exact ⟨_, _, rfl, rfl, rfl⟩
  · cases e
theorem o_or : Op2 X T oOr (binaryOp .BitOr) := o_int0 op_or fun μ x y d e => by
  unfold oOr at e
  split at e
  · cases e; exact ⟨_, _, rfl, rfl, rfl⟩
  · cases e
theorem o_xor : Op2 X T oXor (binaryOp .BitXor) := o_int0 op_xor fun μ x y d e => by
  unfold oXor at e
  split at e
  · cases e; exact ⟨_, _, rfl, rfl, rfl⟩
  · cases e
theorem o_fdiv : Op2 X T oFdiv (binaryOp .FloorDiv) := o_int op_fdivW fun μ x y d e => by
  unfold oFdiv at e
  split at e
  · split at e
    · rename_i h
      cases e
      simp only [Bool.and_eq_true, decide_eq_true_eq, Nat.blt_eq] at h
      exact ⟨_, _, rfl, rfl, h, rfl⟩
    · cases e
  · cases e
theorem o_mod : Op2 X T oMod (binaryOp .Mod) := o_int op_mod fun μ x y d e => by
  unfold oMod at e
  split at e
  · split at e
    · rename_i h
      cases e
      exact ⟨_, _, rfl, rfl, of_decide_eq_true h, rfl⟩
    · cases e
  · cases e
theorem o_pow : Op2 X T oPow (binaryOp .Pow) := o_int op_pow fun μ x y d e => by
  unfold oPow at e
  split at e
  · split at e
    · rename_i h
      cases e
      simp only [Bool.and_eq_true, decide_eq_true_eq, Nat.blt_eq] at h
      exact ⟨_, _, rfl, rfl, ⟨h.1.1, h.1.2, h.2⟩, rfl⟩
    · cases e
  · cases e
theorem o_shl : Op2 X T oShl (binaryOp .LShift) := o_int op_shlW fun μ x y d e => by
  unfold oShl at e
  split at e
  · split at e
    · rename_i h
      cases e
      simp only [Bool.and_eq_true, decide_eq_true_eq] at h
      exact ⟨_, _, rfl, rfl, ⟨h.1, by simpa [bitsOf] using h.2⟩, rfl⟩
    · cases e
  · cases e
theorem o_shr : Op2 X T oShr (binaryOp .RShift) := o_int op_shr fun μ x y d e => by
  unfold oShr at e
  split at e
  · split at e
    · rename_i h
      cases e
      exact ⟨_, _, rfl, rfl, of_decide_eq_true h, rfl⟩
    · cases e
  · cases e
theorem o_mul (hk : X.K = T.K) : Op2 X T oMul (binaryOp .Mult) := by
  intro pins s σ F m μ H v1 v2 u1 u2 x y d Q I r1 r2 rl h1 h2 e hQ
  have w1 := rl.vw h1
  unfold oMul at e
  split at e
  · rename_i i j e1
    rw [e1] at w1
    split at e
    · rename_i hl
      cases e
      exact op_mulX pins s σ H v1 v2 u1 u2 Q I r1 r2 ⟨i, j, w1.int, h2.vInt, mulx hl, hQ _ _ _ _ Sub.refl rl (RN.int _)⟩
    · cases e
  · rename_i xs k e1
    rw [e1] at w1
    split at e
    · rename_i hl
      cases e
      simp only [Bool.and_eq_true, decide_eq_true_eq] at hl
      obtain ⟨a, vs, ev, q1, t1⟩ := w1.list rl
      subst ev
      refine op_rep pins s σ H _ _ u1 u2 Q I r1 r2 ⟨a, k, vs, rfl, h2.vInt, q1, hl.1.1, hl.1.2, by rw [t1.length]; exact line_le hl.2, fun p hp => ?_⟩
      obtain ⟨r3, r4⟩ := rn_new rl (t1.flat k.toNat) hp
      exact hQ _ _ _ _ Sub.refl r3 r4
    · cases e
  · rename_i xs k e1
    rw [e1] at w1
    split at e
    · rename_i hl
      cases e
      simp only [Bool.and_eq_true, decide_eq_true_eq] at hl
      obtain rfl := w1.str
      obtain rfl := h2.vInt
      obtain ⟨t, rfl⟩ := _root_.id r1
      obtain ⟨t', rfl⟩ := _root_.id r2
      have l1 := Nat.le_of_ble_eq_true hl.2
      refine SB.mul ⟨by simp; omega, fun _ _ => ?_, fun _ _ => ?_⟩ fun t2 kk => ⟨.str _, H, I.tok kk, ⟨t2, rfl⟩, hQ _ _ _ _ Sub.refl rl (RN.str _)⟩
      · have h5 : (1000 : Int) * k ≤ 2 ^ 63 - 1 := by omega
        have h6 : (1000 : Int) ≤ (2 ^ 63 - 1) / k := Int.le_ediv_of_mul_le (by omega) h5
        omega
      · have h7 : xs.length * k.toNat ≤ 1000 * 1000 := Nat.mul_le_mul l1 (by omega)
        simp only [Builtin.Str.tooLong, sizeLine_eq]
        simp; omega
    · cases e
  · rename_i xs k e1
    rw [e1] at w1
    split at e
    · rename_i hl
      cases e
      simp only [Bool.and_eq_true, decide_eq_true_eq] at hl
      obtain ⟨a, vs, ev, q1, t1⟩ := w1.tup
      subst ev
      have hn : vs ≠ [] := fun z => by
        have h3 := t1.length
        rw [z] at h3
        have := Nat.le_of_ble_eq_true hl.1.2
        simp at h3
        omega
      refine op_repT pins s σ H _ _ u1 u2 Q I r1 r2 ⟨a, k, vs, rfl, h2.vInt, by rw [hk]; exact SqT.up rl.sub q1, hn, hl.1.1.1, hl.1.1.2, by rw [t1.length]; exact Nat.le_of_ble_eq_true hl.2, fun p hp => ?_⟩
      obtain ⟨s1, r3, r4⟩ := rn_tup rl (t1.flat k.toNat) hp
      exact hQ _ _ _ _ s1 r3 r4
    · cases e
  · cases e
theorem o_neg : Op1 X T oNeg (unaryOp .USub) := by
  intro pins s σ F m μ H v1 u1 x d Q I r1 rl h1 e hQ
  unfold oNeg at e
  split at e
  · cases e
    exact un_neg pins s σ H v1 u1 Q I r1 ⟨_, h1.vInt, hQ _ _ _ _ Sub.refl rl (RN.int _)⟩
  · cases e
theorem o_inv : Op1 X T oInv (unaryOp .Invert) := by
  intro pins s σ F m μ H v1 u1 x d Q I r1 rl h1 e hQ
  unfold oInv at e
  split at e
  · cases e
    exact un_inv pins s σ H v1 u1 Q I r1 ⟨_, h1.vInt, hQ _ _ _ _ Sub.refl rl (RN.int _)⟩
  · cases e

/-! ### comparisons -/
mutual
theorem dp_of {F : Hp} {m : At} {μ : Mu} {H : Hp} (hk : X.K = T.K) (rl : Rel T F m μ H) : ∀ (x : D) {v : V} {d : PyData}, Rep T F m v x → pyOf μ x = some d → Dp X.K H v d
  | .non, _, _, r, e => by cases r; simp only [pyOf, Option.some.injEq] at e; subst e; exact .non
  | .bl b, _, _, r, e => by cases r; simp only [pyOf, Option.some.injEq] at e; subst e; exact .bl b
  | .int i, _, _, r, e => by cases r; simp only [pyOf, Option.some.injEq] at e; subst e; exact .int i
  | .str x, _, _, r, e => by cases r; simp only [pyOf, Option.some.injEq] at e; subst e; exact .str x
  | .tup xs, _, _, r, e => by
    simp only [pyOf, Option.map_eq_some_iff] at e
    obtain ⟨ds, h, rfl⟩ := e
    cases r with | tup q t => exact .tup (by rw [hk]; exact SqT.up rl.sub q) (dp_all hk rl xs t h)
  | .lst xs, _, _, r, e => by
    simp only [pyOf, Option.map_eq_some_iff] at e
    obtain ⟨ds, h, rfl⟩ := e
    cases r with | lst q t => exact .lst (SqL.of (rl.sub _ _ q)) (dp_all hk rl xs t h)
  | .rol xs, _, _, r, e => by
    simp only [pyOf, Option.map_eq_some_iff] at e
    obtain ⟨ds, h, rfl⟩ := e
    cases r with | rol q t => exact .lst (by rw [hk]; exact SqL.up rl.sub q) (dp_all hk rl xs t h)
  | .obj _ _, _, _, _, e => by simp [pyOf] at e
  | .exc _ _, _, _, _, e => by simp [pyOf] at e
  | .ref _, _, _, _, e => by simp [pyOf] at e
  | .fn _, _, _, _, e => by simp [pyOf] at e
theorem dp_all {F : Hp} {m : At} {μ : Mu} {H : Hp} (hk : X.K = T.K) (rl : Rel T F m μ H) : ∀ (xs : List D) {vs : List V} {ds : List PyData}, Reps T F m vs xs → pyAll μ xs = some ds → DpAll X.K H vs ds
  | [], _, _, r, e => by cases r; simp only [pyAll, Option.some.injEq] at e; subst e; exact .nil
  | x :: xs, _, _, r, e => by
    cases r with
    | cons r t =>
      simp only [pyAll] at e
      split at e
      · rename_i d ds h1 h2
        cases e
        exact .cons (dp_of hk rl x r h1) (dp_all hk rl xs t h2)
      · cases e
end
theorem dp_vw {F : Hp} {m : At} {μ : Mu} {H : Hp} (hk : X.K = T.K) (rl : Rel T F m μ H) {x : D} {v : V} {d : PyData} (w : Vw T F m H v x) (e : pyOf μ x = some d) : Dp X.K H v d := by
  cases w with
  | of _ r => exact dp_of hk rl x r e
  | lst h t =>
    simp only [pyOf, Option.map_eq_some_iff] at e
    obtain ⟨ds, h2, rfl⟩ := e
    exact .lst (SqL.of h) (dp_all hk rl _ t h2)
  | ref h => simp [pyOf] at e
theorem o_eq (hk : X.K = T.K) (hu : X.A.units + 64 < cLine) : Op2 X T cEq (compareOp .Eq) := by
  intro pins s σ F m μ H v1 v2 u1 u2 x y d Q I r1 r2 rl h1 h2 e hQ
  unfold cEq eqD at e
  split at e
  · rename_i d1 d2 e1 e2
    split at e
    · rename_i hs
      simp only [Bool.and_eq_true] at hs
      simp only [Option.map_some, Option.some.injEq] at e
      subst e
      exact op_eqD hu pins s σ H v1 v2 u1 u2 Q I r1 r2 ⟨d1, d2, dp_vw hk rl (rl.vw h1) e1, dp_vw hk rl (rl.vw h2) e2, hs.1, hs.2, hQ _ _ _ _ Sub.refl rl (RN.bl _)⟩
    · simp at e
  · simp at e
theorem o_ne (hk : X.K = T.K) (hu : X.A.units + 64 < cLine) : Op2 X T cNe (compareOp .NotEq) := by
  intro pins s σ F m μ H v1 v2 u1 u2 x y d Q I r1 r2 rl h1 h2 e hQ
  unfold cNe eqD at e
  split at e
  · rename_i d1 d2 e1 e2
    split at e
    · rename_i hs
      simp only [Bool.and_eq_true] at hs
      simp only [Option.map_some, Option.some.injEq] at e
      subst e
      exact op_neD hu pins s σ H v1 v2 u1 u2 Q I r1 r2 ⟨d1, d2, dp_vw hk rl (rl.vw h1) e1, dp_vw hk rl (rl.vw h2) e2, hs.1, hs.2, hQ _ _ _ _ Sub.refl rl (RN.bl _)⟩
    · simp at e
  · simp at e
theorem isN_iff {F : Hp} {m : At} {v : V} {x : D} (r : Rep T F m v x) : decide (v = .non) = isN x := by
  cases r <;> simp [isN]
theorem o_is : Op2 X T cIs (compareOp .Is) := by
  intro pins s σ F m μ H v1 v2 u1 u2 x y d Q I r1 r2 rl h1 h2 e hQ
  unfold cIs at e
  split at e
  · cases e
    refine op_isN pins s σ H v1 v2 u1 u2 Q I r1 r2 ⟨h2.vNon, ?_⟩
    rw [isN_iff h1]
    exact hQ _ _ _ _ Sub.refl rl (RN.bl _)
  · cases e
theorem o_isNot : Op2 X T cIsNot (compareOp .IsNot) := by
  intro pins s σ F m μ H v1 v2 u1 u2 x y d Q I r1 r2 rl h1 h2 e hQ
  unfold cIsNot at e
  split at e
  · cases e
    refine op_notN pins s σ H v1 v2 u1 u2 Q I r1 r2 ⟨h2.vNon, ?_⟩
    rw [isN_iff h1]
    exact hQ _ _ _ _ Sub.refl rl (RN.bl _)
  · cases e
theorem flat_of {F : Hp} {m : At} {v : V} {x : D} (r : Rep T F m v x) (h : flatD x = true) : flatV v = true := by
  cases r <;> first | rfl | simp [flatD] at h
theorem flats_of {F : Hp} {m : At} : ∀ {vs : List V} {xs : List D}, Reps T F m vs xs → xs.all flatD = true → vs.all flatV = true
  | _, _, .nil, _ => rfl
  | _, _, .cons r t, h => by
    simp only [List.all_cons, Bool.and_eq_true] at h ⊢
    exact ⟨flat_of r h.1, flats_of t h.2⟩
theorem eqF_of {F : Hp} {m : At} {v w : V} {x y : D} (r : Rep T F m v x) (q : Rep T F m w y) (h : flatD x = true) (g : flatD y = true) : eqV v w = eqF x y := by
  cases r <;> first | (simp [flatD] at h; done) | (cases q <;> first | (simp [flatD] at g; done) | rfl)
theorem inF_of {F : Hp} {m : At} {v : V} {x : D} (r : Rep T F m v x) (h : flatD x = true) : ∀ {vs : List V} {xs : List D}, Reps T F m vs xs → xs.all flatD = true → inV v vs = inF x xs
  | _, _, .nil, _ => rfl
  | _, _, .cons q t, g => by
    simp only [List.all_cons, Bool.and_eq_true] at g
    have ih := inF_of r h t g.2
    unfold inV inF at *
    simp only [List.any_cons, ih, eqF_of q r g.1 h]
/-- x in y, by inD -/
theorem in_both {F : Hp} {m : At} {μ : Mu} {H : Hp} (hk : X.K = T.K) (rl : Rel T F m μ H) {v1 v2 : V} {x y : D} {b : Bool} (h1 : Rep T F m v1 x) (h2 : Rep T F m v2 y) (e : inD μ x y = some b) :
    (∃ i j, v1 = .str i ∧ v2 = .str j ∧ b = !(Builtin.Str.occurrences j i 0 j.length 1).isEmpty) ∨
    (∃ p xs, v2 = .ref p ∧ (SqL X.K H p xs ∨ SqT X.K H p xs) ∧ flatV v1 = true ∧ xs.all flatV = true ∧ b = inV v1 xs) := by
  have w2 := rl.vw h2
  unfold inD at e
  split at e
  · rename_i i j e2
    rw [e2] at w2
    cases e
    exact .inl ⟨i, j, h1.vStr, w2.str, rfl⟩
  · rename_i xs e2
    rw [e2] at w2
    split at e
    · rename_i hl
      simp only [Bool.and_eq_true] at hl
      cases e
      obtain ⟨a, vs, ev, q1, t1⟩ := w2.tup
      exact .inr ⟨a, vs, ev, .inr (by rw [hk]; exact SqT.up rl.sub q1), flat_of h1 hl.1, flats_of t1 hl.2, (inF_of h1 hl.1 t1 hl.2).symm⟩
    · cases e
  · rename_i xs e2
    rw [e2] at w2
    split at e
    · rename_i hl
      simp only [Bool.and_eq_true] at hl
      cases e
      obtain ⟨a, vs, ev, q1, t1⟩ := w2.list rl
      exact .inr ⟨a, vs, ev, .inl (SqL.of q1), flat_of h1 hl.1, flats_of t1 hl.2, (inF_of h1 hl.1 t1 hl.2).symm⟩
    · cases e
  · cases e
theorem o_in (hk : X.K = T.K) : Op2 X T cIn (compareOp .In) := by
  intro pins s σ F m μ H v1 v2 u1 u2 x y d Q I r1 r2 rl h1 h2 e hQ
  simp only [cIn, Option.map_eq_some_iff] at e
  obtain ⟨b, e, rfl⟩ := e
  rcases in_both hk rl h1 h2 e with ⟨i, j, e1, e2, rfl⟩ | ⟨p, xs, e2, hs, f1, f2, rfl⟩
  · exact op_in_str pins s σ H v1 v2 u1 u2 Q I r1 r2 ⟨i, j, e1, e2, hQ _ _ _ _ Sub.refl rl (RN.bl _)⟩
  · exact op_in_seq pins s σ H v1 v2 u1 u2 Q I r1 r2 ⟨p, xs, e2, hs, f1, f2, hQ _ _ _ _ Sub.refl rl (RN.bl _)⟩
theorem o_notIn (hk : X.K = T.K) : Op2 X T cNotIn (compareOp .NotIn) := by
  intro pins s σ F m μ H v1 v2 u1 u2 x y d Q I r1 r2 rl h1 h2 e hQ
  simp only [cNotIn, Option.map_eq_some_iff] at e
  obtain ⟨b, e, rfl⟩ := e
  rcases in_both hk rl h1 h2 e with ⟨i, j, e1, e2, rfl⟩ | ⟨p, xs, e2, hs, f1, f2, rfl⟩
  · exact op_notin_str pins s σ H v1 v2 u1 u2 Q I r1 r2 ⟨i, j, e1, e2, hQ _ _ _ _ Sub.refl rl (RN.bl _)⟩
  · exact op_notIn_seq pins s σ H v1 v2 u1 u2 Q I r1 r2 ⟨p, xs, e2, hs, f1, f2, hQ _ _ _ _ Sub.refl rl (RN.bl _)⟩
theorem o_lt (hk : X.K = T.K) (hu : X.A.units < cLine) : Op2 X T cLt (compareOp .Lt) := by
  intro pins s σ F m μ H v1 v2 u1 u2 x y d Q I r1 r2 rl h1 h2 e hQ
  unfold cLt at e
  split at e
  · cases e
    exact op_lt pins s σ H v1 v2 u1 u2 Q I r1 r2 ⟨_, _, h1.vInt, h2.vInt, hQ _ _ _ _ Sub.refl rl (RN.bl _)⟩
  · cases e
    exact op_lt_str pins s σ H v1 v2 u1 u2 Q I r1 r2 ⟨_, _, h1.vStr, h2.vStr, hQ _ _ _ _ Sub.refl rl (RN.bl _)⟩
  · split at e
    · rename_i ns ms e1 e2
      cases e
      obtain ⟨a, vs, ev, q1, t1⟩ := h1.vTup
      obtain ⟨b, ws, ew, q2, t2⟩ := h2.vTup
      have z1 := t1.ints e1
      have z2 := t2.ints e2
      subst z1 z2
      exact op_ltT hu pins s σ H v1 v2 u1 u2 Q I r1 r2 ⟨a, b, ns, ms, ev, ew, by rw [hk]; exact SqT.up rl.sub q1, by rw [hk]; exact SqT.up rl.sub q2, hQ _ _ _ _ Sub.refl rl (RN.bl _)⟩
    · cases e
  · cases e
theorem lexAt_shift (e r : Nat → Bool) (z : Bool) : ∀ k i, Ob.lexAt e r z (i + 1) k = Ob.lexAt (fun j => e (j + 1)) (fun j => r (j + 1)) z i k
  | 0, _ => rfl
  | k + 1, i => by
    rw [Ob.lexAt_succ, Ob.lexAt_succ, lexAt_shift e r z k (i + 1)]
theorem lexAt_le : ∀ ns ms : List Int, Ob.lexAt (fun j => decide (ns.getD j 0 = ms.getD j 0)) (fun j => decide (ns.getD j 0 ≤ ms.getD j 0)) (decide (ns.length ≤ ms.length)) 0 (min ns.length ms.length) = !HT.lexLt ms ns
  | [], [] => rfl
  | [], y :: ys => by simp [Ob.lexAt_zero, HT.lexLt]
  | x :: xs, [] => by simp [Ob.lexAt_zero, HT.lexLt]
  | x :: xs, y :: ys => by
    have ih := lexAt_le xs ys
    have hm : min (x :: xs).length (y :: ys).length = min xs.length ys.length + 1 := by simp only [List.length_cons]; omega
    rw [hm, Ob.lexAt_succ, lexAt_shift]
    simp only [List.getD_cons_zero, List.getD_cons_succ, List.length_cons, Nat.add_le_add_iff_right, HT.lexLt_cons, decide_eq_true_eq]
    by_cases h : x = y
    · rw [if_pos h, if_pos h.symm]; exact ih
    · rw [if_neg h, if_neg (Ne.symm h)]
      by_cases h2 : x ≤ y
      · rw [decide_eq_true h2, decide_eq_false (by omega)]; rfl
      · rw [decide_eq_false h2, decide_eq_true (by omega)]; rfl
theorem lexAt_gt : ∀ ns ms : List Int, Ob.lexAt (fun j => decide (ns.getD j 0 = ms.getD j 0)) (fun j => decide (ms.getD j 0 < ns.getD j 0)) (decide (ns.length > ms.length)) 0 (min ns.length ms.length) = HT.lexLt ms ns
  | [], [] => rfl
  | [], y :: ys => by simp [Ob.lexAt_zero, HT.lexLt]
  | x :: xs, [] => by simp [Ob.lexAt_zero, HT.lexLt]
  | x :: xs, y :: ys => by
    have ih := lexAt_gt xs ys
    have hm : min (x :: xs).length (y :: ys).length = min xs.length ys.length + 1 := by simp only [List.length_cons]; omega
    rw [hm, Ob.lexAt_succ, lexAt_shift]
    simp only [List.getD_cons_zero, List.getD_cons_succ, List.length_cons, gt_iff_lt, Nat.add_lt_add_iff_right, HT.lexLt_cons, decide_eq_true_eq]
    by_cases h : x = y
    · rw [if_pos h, if_pos h.symm]; exact ih
    · rw [if_neg h, if_neg (Ne.symm h)]
/-- tuples of ints, the first greater -/
theorem tup_gt (hu : X.A.units < cLine) : OpR X (compareOp .Gt) (fun x y H Q => ∃ (a b : Addr) (ns ms : List Int), x = .ref a ∧ y = .ref b ∧ SqT X.K H a (ns.map V.int) ∧ SqT X.K H b (ms.map V.int) ∧ Q (.bl (HT.lexLt ms ns)) H) := by
  intro pins s σ H x y u1 u2 Q I rx ry h
  obtain ⟨a, b, ns, ms, rfl, rfl, ha, hb, q⟩ := h
  obtain rfl : u1 = Value.ref a := rx
  obtain rfl : u2 = Value.ref b := ry
  obtain ⟨l1, r1, p1, _⟩ := I.tuple ha
  obtain ⟨l2, r2, p2, _⟩ := I.tuple hb
  have i1 := Vals.ints r1
  have i2 := Vals.ints r2
  have z1 : l1.toArray.size = ns.length := by rw [List.size_toArray]; exact i1.length
  have z2 : l2.toArray.size = ms.length := by rw [List.size_toArray]; exact i2.length
  have g1 : ∀ j (h1 : j < l1.toArray.size), ∃ t, l1.toArray[j] = .int (ns.getD j 0) t := fun j h1 => PyProof.Rows.IntsAre.int_at i1 _ _ (by simp at h1; simp [h1])
  have g2 : ∀ j (h1 : j < l2.toArray.size), ∃ t, l2.toArray[j] = .int (ms.getD j 0) t := fun j h1 => PyProof.Rows.IntsAre.int_at i2 _ _ (by simp at h1; simp [h1])
  have Z := Ob.RcOp.tuples_gt (A := X.A) (s := s) (e := fun j => decide (ns.getD j 0 = ms.getD j 0)) (r := fun j => decide (ms.getD j 0 < ns.getD j 0)) p1 p2 hu (fun j h1 h2 => by
    obtain ⟨t, e1⟩ := g1 j h1
    obtain ⟨t', e2⟩ := g2 j h2
    rw [e1, e2, ← Bool.beq_eq_decide_eq]
    exact SeqAt.EqAt.int_int _ _ _ _) (fun j h1 h2 _ => by
    obtain ⟨t, e1⟩ := g1 j h1
    obtain ⟨t', e2⟩ := g2 j h2
    rw [e1, e2]
    exact Ob.RcOp.gt_int _ _ _ _)
  rw [z1, z2, lexAt_gt] at Z
  exact Z X.prog X.w X.xe (EP X pins σ Q) ⟨.bl _, H, I, rfl, q⟩
theorem o_gt (hk : X.K = T.K) (hu : X.A.units < cLine) : Op2 X T cGt (compareOp .Gt) := by
  intro pins s σ F m μ H v1 v2 u1 u2 x y d Q I r1 r2 rl h1 h2 e hQ
  unfold cGt at e
  split at e
  · cases e
    exact op_gt pins s σ H v1 v2 u1 u2 Q I r1 r2 ⟨_, _, h1.vInt, h2.vInt, hQ _ _ _ _ Sub.refl rl (RN.bl _)⟩
  · split at e
    · rename_i ns ms e1 e2
      cases e
      obtain ⟨a, vs, ev, q1, t1⟩ := h1.vTup
      obtain ⟨b, ws, ew, q2, t2⟩ := h2.vTup
      have z1 := t1.ints e1
      have z2 := t2.ints e2
      subst z1 z2
      exact tup_gt hu pins s σ H v1 v2 u1 u2 Q I r1 r2 ⟨a, b, ns, ms, ev, ew, by rw [hk]; exact SqT.up rl.sub q1, by rw [hk]; exact SqT.up rl.sub q2, hQ _ _ _ _ Sub.refl rl (RN.bl _)⟩
    · cases e
  · cases e
theorem o_le (hk : X.K = T.K) (hu : X.A.units < cLine) : Op2 X T cLe (compareOp .LtE) := by
  intro pins s σ F m μ H v1 v2 u1 u2 x y d Q I r1 r2 rl h1 h2 e hQ
  unfold cLe at e
  split at e
  · cases e
    exact op_le pins s σ H v1 v2 u1 u2 Q I r1 r2 ⟨_, _, h1.vInt, h2.vInt, hQ _ _ _ _ Sub.refl rl (RN.bl _)⟩
  · split at e
    · rename_i ns ms e1 e2
      cases e
      obtain ⟨a, vs, ev, q1, t1⟩ := h1.vTup
      obtain ⟨b, ws, ew, q2, t2⟩ := h2.vTup
      have z1 := t1.ints e1
      have z2 := t2.ints e2
      subst z1 z2
      refine op_leT hu pins s σ H v1 v2 u1 u2 Q I r1 r2 ⟨a, b, ns, ms, ev, ew, by rw [hk]; exact SqT.up rl.sub q1, by rw [hk]; exact SqT.up rl.sub q2, ?_⟩
      rw [lexAt_le]
      exact hQ _ _ _ _ Sub.refl rl (RN.bl _)
    · cases e
  · cases e
theorem o_ge : Op2 X T cGe (compareOp .GtE) := by
  intro pins s σ F m μ H v1 v2 u1 u2 x y d Q I r1 r2 rl h1 h2 e hQ
  unfold cGe at e
  split at e
  · cases e
    exact op_ge pins s σ H v1 v2 u1 u2 Q I r1 r2 ⟨_, _, h1.vInt, h2.vInt, hQ _ _ _ _ Sub.refl rl (RN.bl _)⟩
  · cases e
theorem binOf_ok {op : Operator} {f : Mu → D → D → Option D} (hk : X.K = T.K) (h : binOf op = some f) : Op2 X T f (binaryOp op) := by
  cases op <;> simp only [binOf, Option.some.injEq, reduceCtorEq] at h <;> subst h
  · exact o_add hk
  · exact o_sub
  · exact o_mul hk
  · exact o_mod
  · exact o_pow
  · exact o_shl
  · exact o_shr
  · exact o_or
  · exact o_xor
  · exact o_and
  · exact o_fdiv
theorem cmpOf_ok {op : CmpOp} {f : Mu → D → D → Option D} (hk : X.K = T.K) (hu : X.A.units + 64 < cLine) (h : cmpOf op = some f) : Op2 X T f (compareOp op) := by
  have hu0 : X.A.units < cLine := by omega
  cases op <;> simp only [cmpOf, Option.some.injEq, reduceCtorEq] at h <;> subst h
  · exact o_eq hk hu
  · exact o_ne hk hu
  · exact o_lt hk hu0
  · exact o_le hk hu0
  · exact o_gt hk hu0
  · exact o_ge
  · exact o_is
  · exact o_isNot
  · exact o_in hk
  · exact o_notIn hk

/-! ### expressions -/
variable {W : WX} {a b c e : Expr} {fa fb fc : Ex} {pos : Pos}
/-- the two readings of a part that hands on its value -/
theorem rdE_bind {f : D → M D} {σ : L2.St} {H : Hp} {Q : VK} {R : VK} {RB : Hp → At → Hp → V → D → Prop}
    (h : ∃ F m μ ρ, Rel T F m μ H ∧ EnvR T F m σ ρ ∧ Post T RB F m (M.bind (fa ρ) f μ) Q (fun C dx H' => W (.ref C) (some dx) σ H'))
    (k : ∀ v H' F' m' d μ' ρ, Rel T F' m' μ' H' → EnvR T F' m' σ ρ → Rep T F' m' v d → Post T RB F' m' (f d μ') Q (fun C dx H' => W (.ref C) (some dx) σ H') → R v H') : rdE T W fa σ H R := by
  obtain ⟨F, m, μ, ρ, rl, en, p⟩ := h
  exact ⟨F, m, μ, ρ, rl, en, Post.bind p fun v H' F' m' d μ' s r rv p2 => k v H' F' m' d μ' ρ r (en.up s) rv p2⟩
theorem Post.opt {F : Hp} {m : At} {μ : Mu} {o : Option D} {RB : Hp → At → Hp → V → D → Prop} {Q : VK} {E : WK} (p : Post T RB F m (M.opt o μ) Q E) : ∃ d, o = some d ∧ ∀ v H' F' m', Sub F m F' m' → Rel T F' m' μ H' → RB F' m' H' v d → Q v H' := by
  cases o with
  | none => exact p.elim
  | some d => exact ⟨d, rfl, p⟩
theorem s_bin {op : Operator} {f : Mu → D → D → Option D} (ho : Op2 X T f (binaryOp op)) (ha : PE X a (rdE T W fa)) (hb : PE X b (rdE T W fb)) : PE X (.BinOp a op b pos) (rdN T W (e2 f fa fb)) := by
  refine (pe_op (r := fun v1 v2 H Q => ∃ F m μ x y d, Rel T F m μ H ∧ Rep T F m v1 x ∧ Rep T F m v2 y ∧ f μ x y = some d ∧ ∀ v H' F' m', Sub F m F' m' → Rel T F' m' μ H' → RN T F' m' H' v d → Q v H')
    (fun pins s σ H v1 v2 u1 u2 Q I r1 r2 ⟨F, m, μ, x, y, d, rl, h1, h2, e, hQ⟩ => ho pins s σ F m μ H v1 v2 u1 u2 x y d Q I r1 r2 rl h1 h2 e hQ) ha hb).imp fun σ H Q h => ?_
  obtain ⟨F, m, μ, ρ, rl, en, p⟩ := h
  refine ⟨F, m, μ, ρ, rl, en, Post.bind p fun v1 H1 F1 m1 x μ1 s1 r1 h1 p1 => ⟨F1, m1, μ1, ρ, r1, en.up s1, Post.bind p1 fun v2 H2 F2 m2 y μ2 s2 r2 h2 p2 => ?_⟩⟩
  obtain ⟨d, e, hQ⟩ := Post.opt p2
  exact ⟨F2, m2, μ2, x, y, d, r2, h1.up s2, h2, e, hQ⟩
theorem s_un {op : UnaryOp} {f : Mu → D → Option D} (ho : Op1 X T f (unaryOp op)) (ha : PE X a (rdE T W fa)) : PE X (.UnaryOp op a pos) (rdN T W (e1 f fa)) := by
  refine (pe_un (r := fun v1 H Q => ∃ F m μ x d, Rel T F m μ H ∧ Rep T F m v1 x ∧ f μ x = some d ∧ ∀ v H' F' m', Sub F m F' m' → Rel T F' m' μ H' → RN T F' m' H' v d → Q v H')
    (fun pins s σ H v1 u1 Q I r1 ⟨F, m, μ, x, d, rl, h1, e, hQ⟩ => ho pins s σ F m μ H v1 u1 x d Q I r1 rl h1 e hQ) ha).imp fun σ H Q h => ?_
  obtain ⟨F, m, μ, ρ, rl, en, p⟩ := h
  refine ⟨F, m, μ, ρ, rl, en, Post.bind p fun v1 H1 F1 m1 x μ1 s1 r1 h1 p1 => ?_⟩
  obtain ⟨d, e, hQ⟩ := Post.opt p1
  exact ⟨F1, m1, μ1, x, d, r1, h1, e, hQ⟩
theorem marks_no {op : CmpOp} (h : noSet b = true) : behindInMarks op b = false := by
  cases b <;> first | rfl | (simp [noSet] at h)
theorem s_cmp {op : CmpOp} {f : Mu → D → D → Option D} (ho : Op2 X T f (compareOp op)) (ha : PE X a (rdE T W fa)) (hb : PE X b (rdE T W fb)) (hm : noSet b = true) : PE X (.Compare a [op] [b] pos) (rdN T W (e2 f fa fb)) := by
  refine (pe_cmpR (r := fun v1 v2 H Q => ∃ F m μ x y d, Rel T F m μ H ∧ Rep T F m v1 x ∧ Rep T F m v2 y ∧ f μ x y = some d ∧ ∀ v H' F' m', Sub F m F' m' → Rel T F' m' μ H' → RN T F' m' H' v d → Q v H')
    (fun pins s σ H v1 v2 u1 u2 Q I r1 r2 ⟨F, m, μ, x, y, d, rl, h1, h2, e, hQ⟩ => ho pins s σ F m μ H v1 v2 u1 u2 x y d Q I r1 r2 rl h1 h2 e hQ) ha hb (marks_no hm)).imp fun σ H Q h => ?_
  obtain ⟨F, m, μ, ρ, rl, en, p⟩ := h
  refine ⟨F, m, μ, ρ, rl, en, Post.bind p fun v1 H1 F1 m1 x μ1 s1 r1 h1 p1 => ⟨F1, m1, μ1, ρ, r1, en.up s1, Post.bind p1 fun v2 H2 F2 m2 y μ2 s2 r2 h2 p2 => ?_⟩⟩
  obtain ⟨d, e, hQ⟩ := Post.opt p2
  exact ⟨F2, m2, μ2, x, y, d, r2, h1.up s2, h2, e, hQ⟩
/-- a new list is frozen -/
theorem rd_frz {f : Ex} {σ : L2.St} {H : Hp} {Q : VK} : rdE T W f σ H Q → rdN T W f σ H Q := fun ⟨F, m, μ, ρ, rl, en, p⟩ => by
  refine ⟨F, m, μ, ρ, rl, en, ?_⟩
  cases q : f ρ μ with
  | exc c fs μ' => rw [q] at p; exact p
  | stuck => rw [q] at p; exact p
  | ok d μ' =>
    rw [q] at p
    intro v H' F' m' s r rn
    cases d with
    | lst ds =>
      obtain ⟨a, vs, rfl, hF, hH, t, hm, hP⟩ := rn
      have s1 : Sub F' m' (upd F' a (.lst vs)) m' := Sub.addF hF
      exact p _ _ _ _ (s.trans s1) (r.addF hF hH hm hP) (.lst upd_same (t.up s1))
    | _ => exact p _ _ _ _ s r rn
/-- a new list is an object of the store -/
theorem rd_mut {f : Ex} {σ : L2.St} {H : Hp} {Q : VK} : rdE T W (eMut f) σ H Q → rdN T W f σ H Q := fun ⟨F, m, μ, ρ, rl, en, p⟩ => by
  refine ⟨F, m, μ, ρ, rl, en, ?_⟩
  unfold eMut M.bind at p
  cases q : f ρ μ with
  | exc c fs μ' => rw [q] at p; exact p
  | stuck => rw [q] at p; exact p
  | ok d μ' =>
    rw [q] at p
    intro v H' F' m' s r rn
    cases d with
    | lst ds =>
      obtain ⟨a, vs, rfl, hF, hH, t, hm, hP⟩ := rn
      exact p _ _ _ _ (s.trans (Sub.addM r)) (r.newC hH hm hP (.lst hF hH t)) (.ref updM_same)
    | _ => exact p.elim
theorem rd_mutC {C : Cxt} {f : Ex} {σ : L2.St} {H : Hp} {Q : VK} (h : rdE T W (C.mut pos f) σ H Q) : rdN T W f σ H Q := by
  unfold Cxt.mut at h
  split at h
  · exact rd_mut h
  · exact rd_frz h
theorem _root_.L2.PE.frz {f : Ex} (h : PE X e (rdN T W f)) : PE X e (rdE T W f) := h.imp fun _ _ _ => rd_frz
theorem _root_.L2.PE.mut {f : Ex} (h : PE X e (rdN T W f)) : PE X e (rdE T W (eMut f)) := h.imp fun _ _ _ => rd_mut
theorem _root_.L2.PE.mutC {C : Cxt} {f : Ex} (h : PE X e (rdN T W f)) : PE X e (rdE T W (C.mut pos f)) := h.imp fun _ _ _ => rd_mutC
/-- a value that changes nothing -/
theorem s_val {v : V} {d : D} (h : PE X e (tC v)) (hd : ∀ F m, Rep T F m v d) : PE X e (rdE T W (eC d)) := h.imp fun σ H Q ⟨F, m, μ, ρ, rl, en, p⟩ => p _ _ _ _ Sub.refl rl (hd F m)
theorem s_var {i : Nat} (h : PE X e (tVar i)) : PE X e (rdE T W (eV i)) := h.imp fun σ H Q ⟨F, m, μ, ρ, rl, en, p⟩ => by
  unfold eV at p
  split at p
  · rename_i d hd
    obtain ⟨v, h1, h2⟩ := en.get i d hd
    exact ⟨v, h1, p _ _ _ _ Sub.refl rl (rl.rs h2)⟩
  · exact p.elim
theorem s_none : PE X e (rdE T W eNo) := ⟨fun _ _ _ _ _ _ ⟨_, _, _, _, _, _, p⟩ => p.elim⟩
end
end Gs
/-! GsS2: tests, chains, and or not, displays, items, slices, fields. -/
namespace Gs
open PySem PySem.Spec L2
section
variable {X : Cx} {T : Tb} {W : WX} {a b c e : Expr} {fa fb fc f : Ex} {ta tb tc : Tst} {pos : Pos}

/-! ### tests -/
theorem t_none : PT X e (rdT T W fun _ => M.stuck) := ⟨fun _ _ _ _ _ _ ⟨_, _, _, _, _, _, p⟩ => p.elim⟩
theorem tw_none : PW X e (rdT T W fun _ => M.stuck) := ⟨fun _ _ _ _ _ _ _ ⟨_, _, _, _, _, _, p⟩ => p.elim⟩
theorem Post.optB {F : Hp} {m : At} {μ : Mu} {α β : Type} {o : Option α} {RB : Hp → At → Hp → β → α → Prop} {Q : β → Hp → Prop} {E : WK} (p : Post T RB F m (M.opt o μ) Q E) : ∃ d, o = some d ∧ ∀ v H' F' m', Sub F m F' m' → Rel T F' m' μ H' → RB F' m' H' v d → Q v H' := by
  cases o with
  | none => exact p.elim
  | some d => exact ⟨d, rfl, p⟩
theorem Post.optBind {F : Hp} {m : At} {μ : Mu} {α α' β : Type} {o : Option α} {g : α → M α'} {RB : Hp → At → Hp → β → α' → Prop} {Q : β → Hp → Prop} {E : WK} (p : Post T RB F m ((M.opt o).bind g μ) Q E) : ∃ d, o = some d ∧ Post T RB F m (g d μ) Q E := by
  cases o with
  | none => exact p.elim
  | some d => exact ⟨d, rfl, p⟩
theorem t_not (h : PT X a (rdT T W ta)) : PT X (.UnaryOp .Not a pos) (rdT T W (tNot ta)) := (pt_not h).imp fun σ H Q ⟨F, m, μ, ρ, rl, en, p⟩ =>
  ⟨F, m, μ, ρ, rl, en, Post.bind p fun k H1 F1 m1 c μ1 s1 r1 h1 p1 => by
    cases h1
    exact p1 _ _ _ _ Sub.refl r1 rfl⟩
theorem tw_and1 (h : PT X a (rdT T W ta)) : PW X (.BoolOp .And [a] pos) (rdT T W ta) := pw_and1 h
theorem tw_or1 (h : PT X a (rdT T W ta)) : PW X (.BoolOp .Or [a] pos) (rdT T W ta) := pw_or1 h
theorem tw_and {rest : List Expr} (h : PT X a (rdT T W ta)) (h2 : PW X (.BoolOp .And (b :: rest) pos) (rdT T W tb)) : PW X (.BoolOp .And (a :: b :: rest) pos) (rdT T W (tAnd ta tb)) := (pw_and h h2).imp fun σ H Q ⟨F, m, μ, ρ, rl, en, p⟩ =>
  ⟨F, m, μ, ρ, rl, en, Post.bind p fun k H1 F1 m1 c μ1 s1 r1 h1 p1 => by
    cases h1
    cases k with
    | true => exact iteT ⟨F1, m1, μ1, ρ, r1, en.up s1, p1⟩
    | false => exact iteF (p1 _ _ _ _ Sub.refl r1 rfl)⟩
theorem tw_or {rest : List Expr} (h : PT X a (rdT T W ta)) (h2 : PW X (.BoolOp .Or (b :: rest) pos) (rdT T W tb)) : PW X (.BoolOp .Or (a :: b :: rest) pos) (rdT T W (tOr ta tb)) := (pw_or h h2).imp fun σ H Q ⟨F, m, μ, ρ, rl, en, p⟩ =>
  ⟨F, m, μ, ρ, rl, en, Post.bind p fun k H1 F1 m1 c μ1 s1 r1 h1 p1 => by
    cases h1
    cases k with
    | true => exact iteT (p1 _ _ _ _ Sub.refl r1 rfl)
    | false => exact iteF ⟨F1, m1, μ1, ρ, r1, en.up s1, p1⟩⟩
theorem tw_ands {g : Expr → Tst} : ∀ {es : List Expr}, es ≠ [] → (∀ e ∈ es, PT X e (rdT T W (g e))) → PW X (.BoolOp .And es pos) (rdT T W (tAndL (es.map g)))
  | [], h, _ => absurd rfl h
  | [a], _, h => tw_and1 (h a (by simp))
  | a :: b :: r, _, h => tw_and (h a (by simp)) (tw_ands (es := b :: r) (by simp) fun e he => h e (List.mem_cons_of_mem _ he))
theorem tw_ors {g : Expr → Tst} : ∀ {es : List Expr}, es ≠ [] → (∀ e ∈ es, PT X e (rdT T W (g e))) → PW X (.BoolOp .Or es pos) (rdT T W (tOrL (es.map g)))
  | [], h, _ => absurd rfl h
  | [a], _, h => tw_or1 (h a (by simp))
  | a :: b :: r, _, h => tw_or (h a (by simp)) (tw_ors (es := b :: r) (by simp) fun e he => h e (List.mem_cons_of_mem _ he))
theorem t_ands {g : Expr → Tst} {es : List Expr} (h : ∀ e ∈ es, PT X e (rdT T W (g e))) : PT X (.BoolOp .And es pos) (rdT T W (tAndL (es.map g))) := by
  cases es with
  | nil => exact t_none
  | cons a r => exact (tw_ands (by simp) h).pt
theorem t_ors {g : Expr → Tst} {es : List Expr} (h : ∀ e ∈ es, PT X e (rdT T W (g e))) : PT X (.BoolOp .Or es pos) (rdT T W (tOrL (es.map g))) := by
  cases es with
  | nil => exact t_none
  | cons a r => exact (tw_ors (by simp) h).pt
theorem isTrue_if {t : Expr} {env : PySem.Env} {whole : Sem Value} {Q : Bool → Shared → Prop} {s : Shared} (h : wpAny (model X.prog X.w) X.A (PySem.isTrue t env (eval t env)) (fun k s1 => wpAny (model X.prog X.w) X.A (if k = true then PySem.isTrue a env (eval a env) else PySem.isTrue b env (eval b env)) Q X.xe s1) X.xe s) :
    wpAny (model X.prog X.w) X.A (PySem.isTrue (.IfExp t a b pos) env whole) Q X.xe s := by
  show wpAny _ _ (do
    if ← PySem.isTrue t env (eval t env) then PySem.isTrue a env (eval a env) else PySem.isTrue b env (eval b env)) _ _ _
  exact wpAny_bind h
theorem t_if {t : Expr} (h : PT X t (rdT T W tc)) (ha : PT X a (rdT T W ta)) (hb : PT X b (rdT T W tb)) : PT X (.IfExp t a b pos) (rdT T W fun ρ => (tc ρ).bind fun c => if c then ta ρ else tb ρ) := by
  refine ⟨fun pins s σ H Q I ⟨F, m, μ, ρ, rl, en, p⟩ => ?_⟩
  refine isTrue_if (thn (h.run pins s σ H (fun k H1 => if k = true then rdT T W ta σ H1 Q else rdT T W tb σ H1 Q) I ⟨F, m, μ, ρ, rl, en, Post.bind p fun k H1 F1 m1 c μ1 s1 r1 h1 p1 => ?_⟩) fun k s1 ⟨H1, I1, q⟩ => ?_)
  · cases h1
    cases k with
    | true => exact iteT ⟨F1, m1, μ1, ρ, r1, en.up s1, p1⟩
    | false => exact iteF ⟨F1, m1, μ1, ρ, r1, en.up s1, p1⟩
  · cases k with
    | true => exact ha.run pins s1 σ H1 Q I1 q
    | false => exact hb.run pins s1 σ H1 Q I1 q
/-- truth of a value -/
theorem tru_of {F : Hp} {m : At} {μ : Mu} {H : Hp} (hk : X.K = T.K) (rl : Rel T F m μ H) {v : V} {d : D} (r : Rep T F m v d) {k : Bool} (e : tru μ d = some k) : TruV X.K v H k := by
  have w := rl.vw r
  unfold tru at e
  split at e
  · rename_i q; rw [q] at w; cases e; rw [w.non]; rfl
  · rename_i q; rw [q] at w; cases e; rw [w.bl]; rfl
  · rename_i q; rw [q] at w; cases e; rw [w.int]; rfl
  · rename_i s q
    rw [q] at w
    split at e
    · rename_i hl
      cases e
      rw [w.str]
      refine ⟨line_le hl, ?_⟩
      by_cases h : s.length = 0
      · rw [h]; rfl
      · have h2 : ¬ (s.length : Int) = 0 := by omega
        have e1 : (s.length == 0) = false := by simpa using h
        have e2 : ((s.length : Int) == 0) = false := by simpa using h2
        simp only [bne, e1, e2]
    · cases e
  · rename_i xs q
    rw [q] at w
    cases e
    obtain ⟨p, vs, rfl, q1, t⟩ := w.tup
    refine .inr (.inl ⟨vs, by rw [hk]; exact SqT.up rl.sub q1, ?_⟩)
    cases t <;> rfl
  · rename_i xs q
    rw [q] at w
    cases e
    obtain ⟨p, vs, rfl, q1, t⟩ := w.list rl
    refine .inl ⟨vs, SqL.of q1, ?_⟩
    cases t <;> rfl
  · cases e
/-- tests whose whole is their value's truth -/
def plainT : Expr → Bool
  | .UnaryOp .Not _ _ => false
  | .BoolOp _ _ _ => false
  | .IfExp _ _ _ _ => false
  | .Compare _ _ _ _ => false
  | _ => true
theorem plainT_eq {env : PySem.Env} (h : plainT e = true) (whole : Sem Value) : PySem.isTrue e env whole = (do let v ← whole; standAt e.pos; holding [v] (truthy v)) := by
  cases e with
  | UnaryOp op x p => cases op <;> first | rfl | (simp [plainT] at h)
  | BoolOp _ _ _ => simp [plainT] at h
  | IfExp _ _ _ _ => simp [plainT] at h
  | Compare _ _ _ _ => simp [plainT] at h
  | _ => rfl
theorem t_val (hk : X.K = T.K) (h : PE X e (rdE T W f)) (he : plainT e = true) : PT X e (rdT T W (tE f)) := (pt_truth h (plainT_eq he)).imp fun σ H Q ⟨F, m, μ, ρ, rl, en, p⟩ =>
  ⟨F, m, μ, ρ, rl, en, Post.bind p fun v H1 F1 m1 d μ1 s1 r1 h1 p1 => by
    obtain ⟨k, ek, q⟩ := Post.optB p1
    exact ⟨k, tru_of hk r1 h1 ek, q _ _ _ _ Sub.refl r1 rfl⟩⟩
/-- a comparison gives a truth value -/
theorem cmpOf_bl {op : CmpOp} {g : Mu → D → D → Option D} (h : cmpOf op = some g) {μ : Mu} {x y d : D} (e : g μ x y = some d) : ∃ k, d = .bl k := by
  cases op <;> simp only [cmpOf, Option.some.injEq] at h <;> subst h
  · simp only [cEq, Option.map_eq_some_iff] at e; obtain ⟨k, _, rfl⟩ := e; exact ⟨k, rfl⟩
  · simp only [cNe, Option.map_eq_some_iff] at e; obtain ⟨k, _, rfl⟩ := e; exact ⟨_, rfl⟩
  · unfold cLt at e
    split at e
    · cases e; exact ⟨_, rfl⟩
    · cases e; exact ⟨_, rfl⟩
    · split at e <;> cases e; exact ⟨_, rfl⟩
    · cases e
  · unfold cLe at e
    split at e
    · cases e; exact ⟨_, rfl⟩
    · split at e <;> cases e; exact ⟨_, rfl⟩
    · cases e
  · unfold cGt at e
    split at e
    · cases e; exact ⟨_, rfl⟩
    · split at e <;> cases e; exact ⟨_, rfl⟩
    · cases e
  · unfold cGe at e
    split at e <;> cases e; exact ⟨_, rfl⟩
  · unfold cIs at e
    split at e <;> cases e; exact ⟨_, rfl⟩
  · unfold cIsNot at e
    split at e <;> cases e; exact ⟨_, rfl⟩
  · simp only [cIn, Option.map_eq_some_iff] at e; obtain ⟨k, _, rfl⟩ := e; exact ⟨k, rfl⟩
  · simp only [cNotIn, Option.map_eq_some_iff] at e; obtain ⟨k, _, rfl⟩ := e; exact ⟨_, rfl⟩
/-- a comparison by values, for the layer's rules: its answer is a truth value -/
def rC (X : Cx) (T : Tb) (g : Mu → D → D → Option D) : R2 := fun v1 v2 H Q => ∃ F m μ x y d, Rel T F m μ H ∧ Rep T F m v1 x ∧ Rep T F m v2 y ∧ g μ x y = some d ∧ ∀ v H' F' m', Sub F m F' m' → Rel T F' m' μ H' → RN T F' m' H' v d → Q v H'
theorem rC_ok {op : CmpOp} {g : Mu → D → D → Option D} (ho : Op2 X T g (compareOp op)) : OpR X (compareOp op) (rC X T g) :=
  fun pins s σ H v1 v2 u1 u2 Q I r1 r2 ⟨F, m, μ, x, y, d, rl, h1, h2, e, hQ⟩ => ho pins s σ F m μ H v1 v2 u1 u2 x y d Q I r1 r2 rl h1 h2 e hQ
theorem t_cmp {op : CmpOp} {g : Mu → D → D → Option D} (hop : cmpOf op = some g) (ho : Op2 X T g (compareOp op)) (ha : PE X a (rdE T W fa)) (hb : PE X b (rdE T W fb)) (hm : noSet b = true) : PT X (.Compare a [op] [b] pos) (rdT T W (tE (e2 g fa fb))) := by
  refine (pt_cmpR (rC_ok ho) ha hb (marks_no hm)).imp fun σ H Q ⟨F, m, μ, ρ, rl, en, p⟩ => ?_
  have e0 : tE (e2 g fa fb) ρ = (fa ρ).bind fun x => (fb ρ).bind fun y m => (M.opt (g m x y)).bind (fun d m => M.opt (tru m d) m) m := by
    funext μ'
    unfold tE e2 M.bind
    cases fa ρ μ' with
    | ok x m1 =>
      dsimp only
      cases fb ρ m1 with
      | ok y m2 =>
        dsimp only
      | _ => rfl
    | _ => rfl
  rw [e0] at p
  refine ⟨F, m, μ, ρ, rl, en, Post.bind p fun v1 H1 F1 m1 x μ1 s1 r1 h1 p1 => ⟨F1, m1, μ1, ρ, r1, en.up s1, Post.bind p1 fun v2 H2 F2 m2 y μ2 s2 r2 h2 p2 => ?_⟩⟩
  obtain ⟨d, ed, p3⟩ := Post.optBind p2
  obtain ⟨k, rfl⟩ := cmpOf_bl hop ed
  refine ⟨F2, m2, μ2, x, y, _, r2, h1.up s2, h2, ed, fun v H' F' m' s r rn => ?_⟩
  cases rn
  obtain ⟨k', ek, q⟩ := Post.optB p3
  cases ek
  exact ⟨k, rfl, q _ _ _ _ s r rfl⟩
theorem chain_rd {op op2 : CmpOp} {g g2 : Mu → D → D → Option D} (hop : cmpOf op = some g) {σ : L2.St} {H : Hp} {Q : VK}
    (h : ∃ F m μ ρ, Rel T F m μ H ∧ EnvR T F m σ ρ ∧ Post T (RN T) F m (eChain g g2 fa fb fc ρ μ) Q (fun C dx H' => W (.ref C) (some dx) σ H')) : tChain (rC X T g) (rC X T g2) (rdE T W fa) (rdE T W fb) (rdE T W fc) σ H Q := by
  obtain ⟨F, m, μ, ρ, rl, en, p⟩ := h
  refine ⟨F, m, μ, ρ, rl, en, Post.bind p fun v1 H1 F1 m1 x μ1 s1 r1 h1 p1 => ⟨F1, m1, μ1, ρ, r1, en.up s1, Post.bind p1 fun v2 H2 F2 m2 y μ2 s2 r2 h2 p2 => ?_⟩⟩
  obtain ⟨k, ek, p3⟩ := Post.optBind p2
  obtain ⟨d, ed, ek⟩ := Option.bind_eq_some_iff.mp ek
  obtain ⟨k', rfl⟩ := cmpOf_bl hop ed
  cases ek
  refine ⟨F2, m2, μ2, x, y, _, r2, h1.up s2, h2, ed, fun v H' F' m' s r rn => ?_⟩
  cases rn
  refine ⟨k, rfl, ?_⟩
  cases k with
  | false => exact iteF (p3 _ _ _ _ s r (RN.bl _))
  | true =>
    refine iteT ⟨F', m', μ2, ρ, r, (en.up s1).up (s2.trans s), Post.bind (Post.up s p3) fun v3 H3 F3 m3 z μ3 s3 r3 h3 p4 => ?_⟩
    obtain ⟨d3, e3, q⟩ := Post.opt p4
    exact ⟨F3, m3, μ3, y, z, d3, r3, h2.up (s.trans s3), h3, e3, q⟩
theorem marks2 {op op2 : CmpOp} (h : noSet c = true) : lastMarks [op, op2] [b, c] = false := marks_no h
theorem s_chain {op op2 : CmpOp} {g g2 : Mu → D → D → Option D} (hop : cmpOf op = some g) (ho : Op2 X T g (compareOp op)) (ho2 : Op2 X T g2 (compareOp op2)) (ha : PE X a (rdE T W fa)) (hb : PE X b (rdE T W fb)) (hc : PE X c (rdE T W fc)) (hm : noSet c = true) :
    PE X (.Compare a [op, op2] [b, c] pos) (rdN T W (eChain g g2 fa fb fc)) := (pe_chain (rC_ok ho) (rC_ok ho2) ha hb hc (marks2 hm)).imp fun _ _ _ h => chain_rd (op2 := op2) hop h
theorem t_chain {op op2 : CmpOp} {g g2 : Mu → D → D → Option D} (hop : cmpOf op = some g) (hop2 : cmpOf op2 = some g2) (ho : Op2 X T g (compareOp op)) (ho2 : Op2 X T g2 (compareOp op2)) (ha : PE X a (rdE T W fa)) (hb : PE X b (rdE T W fb)) (hc : PE X c (rdE T W fc)) (hm : noSet c = true) :
    PT X (.Compare a [op, op2] [b, c] pos) (rdT T W (tE (eChain g g2 fa fb fc))) := (pt_chain (rC_ok ho) (rC_ok ho2) ha hb hc (marks2 hm)).imp fun σ H Q ⟨F, m, μ, ρ, rl, en, p⟩ => by
  refine chain_rd (op2 := op2) hop ⟨F, m, μ, ρ, rl, en, ?_⟩
  unfold tE M.bind at p
  cases e : eChain g g2 fa fb fc ρ μ with
  | exc c fs μ' => rw [e] at p; exact p
  | stuck => rw [e] at p; exact p
  | ok d μ' =>
    rw [e] at p
    have hd : ∃ k, d = .bl k := by
      unfold eChain M.bind at e
      cases ea : fa ρ μ with
      | ok x μ1 =>
        rw [ea] at e
        dsimp only at e
        cases eb : fb ρ μ1 with
        | ok y μ2 =>
          rw [eb] at e
          dsimp only at e
          cases ek : (g μ2 x y).bind asBl with
          | none => rw [ek] at e; cases e
          | some k =>
            rw [ek] at e
            cases k with
            | false => cases e; exact ⟨_, rfl⟩
            | true =>
              dsimp only [M.opt, if_true] at e
              rw [if_pos rfl] at e
              cases ec : fc ρ μ2 with
              | ok z μ3 =>
                rw [ec] at e
                dsimp only at e
                cases e3 : g2 μ3 y z with
                | none => rw [e3] at e; cases e
                | some d3 =>
                  rw [e3] at e
                  cases e
                  exact cmpOf_bl hop2 e3
              | _ => rw [ec] at e; cases e
        | _ => rw [eb] at e; cases e
      | _ => rw [ea] at e; cases e
    obtain ⟨k, rfl⟩ := hd
    intro v H' F' m' s r rn
    cases rn
    exact ⟨k, rfl, p _ _ _ _ s r rfl⟩
end
end Gs
/-! GsS3: and or not as values, displays, items, slices, fields. -/
namespace Gs
open PySem PySem.Spec L2
section
variable {X : Cx} {T : Tb} {W : WX} {a b c e : Expr} {fa fb fc f : Ex} {ta tb tc : Tst} {pos : Pos}
theorem rep_asBl {F : Hp} {m : At} {v : V} {d : D} {k : Bool} (r : Rep T F m v d) (e : asBl d = some k) : v = .bl k := by
  cases d with
  | bl b => cases e; exact r.vBl
  | _ => cases e
theorem s_and {rest : List Expr} (h : PE X a (rdE T W fa)) (h2 : PE X (.BoolOp .And (b :: rest) pos) (rdE T W fb)) : PE X (.BoolOp .And (a :: b :: rest) pos) (rdE T W (eAnd fa fb)) := (pe_and h h2).imp fun σ H Q ⟨F, m, μ, ρ, rl, en, p⟩ =>
  ⟨F, m, μ, ρ, rl, en, Post.bind p fun v H1 F1 m1 x μ1 s1 r1 h1 p1 => by
    obtain ⟨k, ek, p2⟩ := Post.optBind p1
    refine ⟨k, rep_asBl h1 ek, ?_⟩
    cases k with
    | true => exact iteT ⟨F1, m1, μ1, ρ, r1, en.up s1, p2⟩
    | false => exact iteF (p2 _ _ _ _ Sub.refl r1 (.bl false))⟩
theorem s_or {rest : List Expr} (h : PE X a (rdE T W fa)) (h2 : PE X (.BoolOp .Or (b :: rest) pos) (rdE T W fb)) : PE X (.BoolOp .Or (a :: b :: rest) pos) (rdE T W (eOr fa fb)) := (pe_or h h2).imp fun σ H Q ⟨F, m, μ, ρ, rl, en, p⟩ =>
  ⟨F, m, μ, ρ, rl, en, Post.bind p fun v H1 F1 m1 x μ1 s1 r1 h1 p1 => by
    obtain ⟨k, ek, p2⟩ := Post.optBind p1
    refine ⟨k, rep_asBl h1 ek, ?_⟩
    cases k with
    | true => exact iteT (p2 _ _ _ _ Sub.refl r1 (.bl true))
    | false => exact iteF ⟨F1, m1, μ1, ρ, r1, en.up s1, p2⟩⟩
theorem s_ands {g : Expr → Ex} : ∀ {es : List Expr}, (∀ e ∈ es, PE X e (rdE T W (g e))) → PE X (.BoolOp .And es pos) (rdE T W (andL (es.map g)))
  | [], _ => s_none
  | [a], h => pe_one (h a (by simp))
  | a :: b :: r, h => s_and (h a (by simp)) (s_ands (es := b :: r) fun e he => h e (List.mem_cons_of_mem _ he))
theorem s_ors {g : Expr → Ex} : ∀ {es : List Expr}, (∀ e ∈ es, PE X e (rdE T W (g e))) → PE X (.BoolOp .Or es pos) (rdE T W (orL (es.map g)))
  | [], _ => s_none
  | [a], h => pe_one (h a (by simp))
  | a :: b :: r, h => s_or (h a (by simp)) (s_ors (es := b :: r) fun e he => h e (List.mem_cons_of_mem _ he))
theorem s_not (h : PE X a (rdE T W fa)) : PE X (.UnaryOp .Not a pos) (rdE T W (eNot fa)) := (pe_not h).imp fun σ H Q ⟨F, m, μ, ρ, rl, en, p⟩ =>
  ⟨F, m, μ, ρ, rl, en, Post.bind p fun v H1 F1 m1 x μ1 s1 r1 h1 p1 => by
    obtain ⟨k, ek, p2⟩ := Post.optBind p1
    exact ⟨k, rep_asBl h1 ek, p2 _ _ _ _ Sub.refl r1 (.bl _)⟩⟩
theorem s_if {t : Expr} (h : PT X t (rdT T W tc)) (ha : PE X a (rdE T W fa)) (hb : PE X b (rdE T W fb)) : PE X (.IfExp t a b pos) (rdE T W (eIf tc fa fb)) := (pe_ifExp h ha hb).imp fun σ H Q ⟨F, m, μ, ρ, rl, en, p⟩ =>
  ⟨F, m, μ, ρ, rl, en, Post.bind p fun k H1 F1 m1 c μ1 s1 r1 h1 p1 => by
    cases h1
    cases k with
    | true => exact iteT ⟨F1, m1, μ1, ρ, r1, en.up s1, p1⟩
    | false => exact iteF ⟨F1, m1, μ1, ρ, r1, en.up s1, p1⟩⟩

/-! ### several expressions -/
theorem star_eq {env : PySem.Env} {es : List Expr} (h : isStar e = false) : starEach (e :: es) env = (false, eval e env) :: starEach es env := by
  cases e <;> first | rfl | (simp [isStar] at h)
theorem star_any {env : PySem.Env} {p : Pos} : ∀ {es : List Expr}, es.any isStar = false → (backTo p (starEach es env)).any (·.1) = false
  | [], _ => rfl
  | a :: r, h => by
    simp only [List.any_cons, Bool.or_eq_false_iff] at h
    rw [star_eq h.1]
    have ih := star_any (env := env) (p := p) h.2
    unfold backTo at *
    simpa using ih
theorem a_nil : PA X [] (rdA T W esNil) := pa_nil.imp fun σ H Q ⟨F, m, μ, ρ, rl, en, p⟩ => p _ _ _ _ Sub.refl rl .nil
theorem a_cons {es : List Expr} {g : Exs} (h : PE X a (rdE T W fa)) (h2 : PA X es (rdA T W g)) (hs : isStar a = false) : PA X (a :: es) (rdA T W (esCons fa g)) := (pa_cons h h2 (star_eq hs)).imp fun σ H Q ⟨F, m, μ, ρ, rl, en, p⟩ =>
  ⟨F, m, μ, ρ, rl, en, Post.bind p fun v H1 F1 m1 x μ1 s1 r1 h1 p1 => ⟨F1, m1, μ1, ρ, r1, en.up s1, Post.bind p1 fun vs H2 F2 m2 xs μ2 s2 r2 h2 p2 => p2 _ _ _ _ Sub.refl r2 (.cons (h1.up s2) h2)⟩⟩
theorem a_all {g : Expr → Ex} : ∀ {es : List Expr}, es.any isStar = false → (∀ e ∈ es, PE X e (rdE T W (g e))) → PA X es (rdA T W (esL (es.map g)))
  | [], _, _ => a_nil
  | a :: r, hs, h => by
    simp only [List.any_cons, Bool.or_eq_false_iff] at hs
    exact a_cons (h a (by simp)) (a_all hs.2 fun e he => h e (List.mem_cons_of_mem _ he)) hs.1
theorem s_tup {es : List Expr} {g : Exs} {k : Nat} (h : PA X es (rdA T W g)) : PE X (.Tuple es k pos) (rdE T W (eTup g)) := (pe_tup h).imp fun σ H Q ⟨F, m, μ, ρ, rl, en, p⟩ =>
  ⟨F, m, μ, ρ, rl, en, Post.bind p fun vs H1 F1 m1 xs μ1 s1 r1 h1 p1 => by
    obtain ⟨d, ed, q⟩ := Post.opt p1
    unfold mkTup at ed
    split at ed
    · rename_i hl
      cases ed
      refine ⟨by rw [h1.length]; exact line_le hl, fun pp hp => ?_⟩
      obtain ⟨s2, r3, r4⟩ := rn_tup r1 h1 hp
      exact q _ _ _ _ s2 r3 r4
    · cases ed⟩
theorem s_lst {es : List Expr} {g : Exs} (h : PA X es (rdA T W g)) : PE X (.List es pos) (rdN T W (eLst g)) := (pe_lst h).imp fun σ H Q ⟨F, m, μ, ρ, rl, en, p⟩ =>
  ⟨F, m, μ, ρ, rl, en, Post.bind p fun vs H1 F1 m1 xs μ1 s1 r1 h1 p1 => by
    obtain ⟨d, ed, q⟩ := Post.opt p1
    unfold mkLst at ed
    split at ed
    · rename_i hl
      cases ed
      refine ⟨by rw [h1.length]; exact line_le hl, fun pp hp => ?_⟩
      obtain ⟨r3, r4⟩ := rn_new r1 h1 hp
      exact q _ _ _ _ Sub.refl r3 r4
    · cases ed⟩

/-! ### items -/
theorem reps_ixN {F : Hp} {m : At} {vs : List V} {ds : List D} (t : Reps T F m vs ds) {i : Int} {d : D} (e : atI ds i = some d) : ∃ v, atI vs i = some v ∧ Rep T F m v d := by
  unfold atI at *
  rw [t.length]
  obtain ⟨j, h1, h2⟩ := Option.bind_eq_some_iff.mp e
  obtain ⟨v, h3, h4⟩ := t.get h2
  exact ⟨v, by rw [h1]; exact h3, h4⟩
def notSl : Expr → Bool
  | .Slice _ _ _ _ => false
  | _ => true
theorem plainIx (h : notSl b = true) : PlainIx b := fun o i => by
  cases b <;> first | rfl | (simp [notSl] at h)
/-- an item by values, for the layer's rule -/
theorem ix_ok (hk : X.K = T.K) : IxR X (fun v1 v2 H Q => ∃ F m μ x y d, Rel T F m μ H ∧ Rep T F m v1 x ∧ Rep T F m v2 y ∧ oItem μ x y = some d ∧ ∀ v, Rep T F m v d → Q v H) := by
  intro vl sl pins s σ H v1 v2 u1 u2 Q I r1 r2 ⟨F, m, μ, x, y, d, rl, h1, h2, e, hQ⟩ hs
  have w1 := rl.vw h1
  unfold oItem at e
  split at e
  · rename_i xs i q
    rw [q] at w1
    obtain ⟨d0, e0, rfl⟩ := Option.map_eq_some_iff.mp e
    obtain ⟨p, vs, rfl, q1, t⟩ := w1.tup
    obtain ⟨v, e1, rv⟩ := reps_ixN t e0
    exact ix_tup vl sl pins s σ H _ v2 u1 u2 Q I r1 r2 ⟨p, vs, i, v, rfl, h2.vInt, by rw [hk]; exact SqT.up rl.sub q1, e1, hQ v (rl.rs rv)⟩ hs
  · rename_i xs i q
    rw [q] at w1
    obtain ⟨d0, e0, rfl⟩ := Option.map_eq_some_iff.mp e
    obtain ⟨p, vs, rfl, q1, t⟩ := w1.list rl
    obtain ⟨v, e1, rv⟩ := reps_ixN t e0
    exact ix_list vl sl pins s σ H _ v2 u1 u2 Q I r1 r2 ⟨p, vs, i, v, rfl, h2.vInt, SqL.of q1, e1, hQ v (rl.rs rv)⟩ hs
  · rename_i xs i q
    rw [q] at w1
    obtain ⟨d0, e0, rfl⟩ := Option.map_eq_some_iff.mp e
    obtain ⟨p, vs, rfl, q1, t⟩ := w1.rol
    obtain ⟨v, e1, rv⟩ := reps_ixN t e0
    exact ix_list vl sl pins s σ H _ v2 u1 u2 Q I r1 r2 ⟨p, vs, i, v, rfl, h2.vInt, by rw [hk]; exact SqL.up rl.sub q1, e1, hQ v (rl.rs rv)⟩ hs
  · rename_i z i q
    rw [q] at w1
    split at e
    · rename_i hl
      obtain ⟨ch, e0, rfl⟩ := Option.map_eq_some_iff.mp e
      exact ix_str vl sl pins s σ H v1 v2 u1 u2 Q I r1 r2 ⟨z, i, ch, w1.str, h2.vInt, line_le hl, e0, hQ _ (.str _)⟩ hs
    · cases e
  · cases e
theorem s_item (hk : X.K = T.K) (ha : PE X a (rdE T W fa)) (hb : PE X b (rdE T W fb)) (hs : notSl b = true) : PE X (.Subscript a b pos) (rdE T W (e2 oItem fa fb)) := (pe_ix (ix_ok hk) ha hb (plainIx hs)).imp fun σ H Q ⟨F, m, μ, ρ, rl, en, p⟩ =>
  ⟨F, m, μ, ρ, rl, en, Post.bind p fun v1 H1 F1 m1 x μ1 s1 r1 h1 p1 => ⟨F1, m1, μ1, ρ, r1, en.up s1, Post.bind p1 fun v2 H2 F2 m2 y μ2 s2 r2 h2 p2 => by
    obtain ⟨d, ed, q⟩ := Post.opt p2
    exact ⟨F2, m2, μ2, x, y, d, r2, h1.up s2, h2, ed, fun v rv => q _ _ _ _ Sub.refl r2 rv⟩⟩⟩

/-! ### slices -/
theorem cut_reps {F : Hp} {m : At} {vs : List V} {ds : List D} (t : Reps T F m vs ds) (lo hi : Option Int) : Reps T F m (cutV vs lo hi) (cutD ds lo hi) := by
  unfold cutV cutD
  rw [t.length]
  exact (t.drop _).take _
def rdP (T : Tb) (W : WX) (f : Prt) : TO := fun σ H Q => ∃ F m μ ρ, Rel T F m μ H ∧ EnvR T F m σ ρ ∧ Post T (RId (Option Int)) F m (f ρ μ) Q (fun C dx H' => W (.ref C) (some dx) σ H')
theorem _root_.L2.PO.imp {X : Cx} {e : Option Expr} {t t' : TO} (h : PO X e t) (k : ∀ σ H Q, t' σ H Q → t σ H Q) : PO X e t' := ⟨fun pins s σ H Q I hw => h.run pins s σ H Q I (k σ H Q hw)⟩
theorem p_none : PO X none (rdP T W pNo) := po_none.imp fun σ H Q ⟨F, m, μ, ρ, rl, en, p⟩ => p _ _ _ _ Sub.refl rl rfl
theorem p_some (h : PE X a (rdE T W fa)) : PO X (some a) (rdP T W (pE fa)) := (po_some h).imp fun σ H Q ⟨F, m, μ, ρ, rl, en, p⟩ =>
  ⟨F, m, μ, ρ, rl, en, Post.bind p fun v H1 F1 m1 x μ1 s1 r1 h1 p1 => by
    obtain ⟨i, ei, p2⟩ := Post.optBind p1
    cases x with
    | int j => cases ei; exact ⟨_, h1.vInt, p2 _ _ _ _ Sub.refl r1 rfl⟩
    | _ => cases ei⟩
/-- a slice by values -/
theorem sl_ok (hk : X.K = T.K) : SlR X (fun v1 lo hi H Q => ∃ F m μ x d, Rel T F m μ H ∧ Rep T F m v1 x ∧ oCut μ x lo hi = some d ∧ ∀ v H' F' m', Sub F m F' m' → Rel T F' m' μ H' → RN T F' m' H' v d → Q v H') := by
  intro pins s σ H v1 u1 vl vu lo hi sl Q I r1 hsl p1 p2 ⟨F, m, μ, x, d, rl, h1, e, hQ⟩
  have w1 := rl.vw h1
  unfold oCut at e
  split at e
  · rename_i xs q
    rw [q] at w1
    cases e
    obtain ⟨p, vs, rfl, q1, t⟩ := w1.tup
    refine sl_tupA pins s σ H _ u1 vl vu lo hi sl Q I r1 hsl p1 p2 ⟨p, vs, rfl, by rw [hk]; exact SqT.up rl.sub q1, fun z => ?_, fun _ pp hp => ?_⟩
    · have e2 : cutD xs lo hi = xs := by
        unfold cutD
        rw [← t.length, z.1, z.2]
        simp [t.length]
      exact hQ _ _ _ _ Sub.refl rl (by rw [e2]; exact Rep.tup q1 t)
    · obtain ⟨s2, r3, r4⟩ := rn_tup rl (cut_reps t lo hi) hp
      exact hQ _ _ _ _ s2 r3 r4
  · rename_i xs q
    rw [q] at w1
    cases e
    obtain ⟨p, vs, rfl, q1, t⟩ := w1.list rl
    refine sl_list pins s σ H _ u1 vl vu lo hi sl Q I r1 hsl p1 p2 ⟨p, vs, rfl, SqL.of q1, fun pp hp => ?_⟩
    obtain ⟨r3, r4⟩ := rn_new rl (cut_reps t lo hi) hp
    exact hQ _ _ _ _ Sub.refl r3 r4
  · rename_i xs q
    rw [q] at w1
    cases e
    obtain ⟨p, vs, rfl, q1, t⟩ := w1.rol
    refine sl_list pins s σ H _ u1 vl vu lo hi sl Q I r1 hsl p1 p2 ⟨p, vs, rfl, by rw [hk]; exact SqL.up rl.sub q1, fun pp hp => ?_⟩
    obtain ⟨r3, r4⟩ := rn_new rl (cut_reps t lo hi) hp
    exact hQ _ _ _ _ Sub.refl r3 r4
  · rename_i z q
    rw [q] at w1
    split at e
    · rename_i hl
      cases e
      exact sl_str pins s σ H v1 u1 vl vu lo hi sl Q I r1 hsl p1 p2 ⟨z, w1.str, line_le hl, hQ _ _ _ _ Sub.refl rl (RN.str _)⟩
    · cases e
  · cases e
theorem s_cut {lo hi : Option Expr} {g h : Prt} {p2 : Pos} (hk : X.K = T.K) (ha : PE X a (rdE T W fa)) (hl : PO X lo (rdP T W g)) (hh : PO X hi (rdP T W h)) : PE X (.Subscript a (.Slice lo hi none p2) pos) (rdN T W (eCut fa g h)) :=
  (pe_slice (sl_ok hk) ha hl hh).imp fun σ H Q ⟨F, m, μ, ρ, rl, en, p⟩ =>
    ⟨F, m, μ, ρ, rl, en, Post.bind p fun v1 H1 F1 m1 x μ1 s1 r1 h1 p1 => ⟨F1, m1, μ1, ρ, r1, en.up s1, Post.bind p1 fun i H2 F2 m2 i' μ2 s2 r2 h2 p2 => ⟨F2, m2, μ2, ρ, r2, (en.up s1).up s2, Post.bind p2 fun j H3 F3 m3 j' μ3 s3 r3 h3 p3 => by
      cases h2
      cases h3
      obtain ⟨d, ed, q⟩ := Post.opt p3
      exact ⟨F3, m3, μ3, x, d, r3, (h1.up s2).up s3, ed, q⟩⟩⟩⟩

/-! ### fields -/
theorem repF_get {F : Hp} {m : At} {x : Str} (hx : okN x = true) : ∀ {fvs : List (Str × V)} {fs : List (Nat × D)} {d : D}, RepF T F m fvs fs → fs.lookup (nid x) = some d → ∃ v, fvs.lookup x = some v ∧ Rep T F m v d
  | _, _, _, .nil, e => by simp at e
  | _, _, _, .cons (x := y) (v := v) (d := d0) (fvs := fvs) (fs := fs) ok r t, e => by
    by_cases h : x = y
    · subst h
      simp [List.lookup] at e
      subst e
      exact ⟨v, by simp [List.lookup], r⟩
    · have h1 : (nid x == nid y) = false := by simpa using fun q => h (nid_inj hx ok q)
      have h2 : (x == y) = false := by simpa using h
      rw [List.lookup, h1] at e
      obtain ⟨w, q1, q2⟩ := repF_get hx t e
      exact ⟨w, by rw [List.lookup, h2]; exact q1, q2⟩
theorem repF_none {F : Hp} {m : At} {x : Str} (hx : okN x = true) : ∀ {fvs : List (Str × V)} {fs : List (Nat × D)}, RepF T F m fvs fs → fs.lookup (nid x) = none → fvs.lookup x = none
  | _, _, .nil, _ => rfl
  | _, _, .cons (x := y) ok r t, e => by
    by_cases h : x = y
    · subst h
      simp [List.lookup] at e
    · have h1 : (nid x == nid y) = false := by simpa using fun q => h (nid_inj hx ok q)
      have h2 : (x == y) = false := by simpa using h
      rw [List.lookup, h1] at e
      rw [List.lookup, h2]
      exact repF_none hx t e
theorem mem_of_lookupV {x : Str} {v : V} : ∀ {l : List (Str × V)}, l.lookup x = some v → (x, v) ∈ l
  | [], h => by simp at h
  | (y, w) :: r, h => by
    by_cases e : x = y
    · subst e
      simp [List.lookup] at h
      subst h
      simp
    · have h2 : (x == y) = false := by simpa using e
      rw [List.lookup, h2] at h
      exact List.mem_cons_of_mem _ (mem_of_lookupV h)
theorem base_eq {env : PySem.Env} {x : Str} (h : baseOk e = true) : attributeBase e x env (eval e env) = eval e env := by
  cases e with
  | Call g args kws p =>
    cases g with
    | Name y q =>
      cases args with
      | nil =>
        cases kws with
        | nil => simp [baseOk] at h
        | cons k r => rfl
      | cons k r => rfl
    | _ => rfl
  | _ => rfl
theorem fldsOf_ref {μ : Mu} {n : Nat} : fldsOf μ (.ref n) = (match μ.get n with | some (.ins _ fs) => fs | some (.frz (.obj _ fs)) => fs | _ => []) := rfl
theorem clsOf_ref {μ : Mu} {n : Nat} : clsOf μ (.ref n) = (match μ.get n with | some (.ins c _) => some c | some (.frz (.obj c _)) => some c | _ => none) := rfl
/-- where an instance stands, its fields as they are now -/
theorem inst_of {F : Hp} {m : At} {μ : Mu} {H : Hp} (rl : Rel T F m μ H) (hz : ∀ a, T.z a = none) {v : V} {x : D} (r : Rep T F m v x) {c : Nat} (hc : clsOf μ x = some c) :
    ∃ a C dx fvs, v = .ref a ∧ T.cl c = some C ∧ H a = some (.ins C dx fvs) ∧ InsOk T.K C fvs ∧ RepF T F m fvs (fldsOf μ x) := by
  cases r with
  | obj c' h n t =>
    cases hc
    exact ⟨_, _, _, _, rfl, c', rl.sub _ _ h, n, t⟩
  | @ref a n e =>
    rw [clsOf_ref] at hc
    rw [fldsOf_ref]
    cases q2 : μ.get n with
    | none => rw [q2] at hc; cases hc
    | some cc =>
      obtain ⟨a', h1, h2⟩ := rl.cell _ _ q2
      rw [e] at h1; cases h1
      rw [q2] at hc
      cases h2 with
      | ins f c' h n t => cases hc; exact ⟨_, _, _, _, rfl, c', h, n, t⟩
      | frz t =>
        cases t with
        | obj c' h n t => cases hc; exact ⟨_, _, _, _, rfl, c', rl.sub _ _ h, n, t⟩
        | _ => cases hc
      | _ => cases hc
  | exc _ h _ _ _ => rw [hz] at h; cases h
  | _ => cases hc
/-- o.x of an instance -/
theorem s_fld {x : Str} (hk : X.K = T.K) (hz : ∀ a, T.z a = none) (hx : okN x = true) (ha : PE X a (rdE T W fa)) (hb : baseOk a = true) : PE X (.Attribute a x pos) (rdE T W (e1 (oFld (nid x)) fa)) := (pe_fld ha (base_eq hb)).imp fun σ H Q ⟨F, m, μ, ρ, rl, en, p⟩ =>
  ⟨F, m, μ, ρ, rl, en, Post.bind p fun v H' F' m' d μ' s r rv p2 => by
    obtain ⟨d2, e2, hQ⟩ := Post.opt p2
    have key : ∃ c, clsOf μ' d = some c ∧ ∃ d0, (fldsOf μ' d).lookup (nid x) = some d0 ∧ d2 = rs μ' d0 := by
      unfold oFld at e2
      split at e2
      · obtain ⟨d0, h1, h2⟩ := Option.map_eq_some_iff.mp e2
        exact ⟨_, rfl, d0, h1, h2.symm⟩
      · obtain ⟨d0, h1, h2⟩ := Option.map_eq_some_iff.mp e2
        exact ⟨_, rfl, d0, h1, h2.symm⟩
      · rename_i n
        split at e2
        · rename_i c fs q2
          obtain ⟨d0, h1, h2⟩ := Option.map_eq_some_iff.mp e2
          exact ⟨c, by rw [clsOf_ref, q2], d0, by rw [fldsOf_ref, q2]; exact h1, h2.symm⟩
        · cases e2
      · cases e2
    obtain ⟨c, hc, d0, h0, rfl⟩ := key
    obtain ⟨a', C, dx, fvs, rfl, _, hH, ok, t⟩ := inst_of r hz rv hc
    obtain ⟨w, hw, rw'⟩ := repF_get hx t h0
    exact ⟨a', C, dx, fvs, w, rfl, hH, by rw [hk]; exact ok.c.cls, by rw [hk]; exact ok.no _ (mem_of_lookupV hw), hw, hQ _ _ _ _ Sub.refl r (r.rs rw')⟩⟩
end
end Gs
/-! GsS4: built-ins by name. -/
namespace Gs
open PySem PySem.Spec L2
section
variable {X : Cx} {T : Tb} {W : WX} {a b c e : Expr} {fa fb fc f : Ex} {ta tb tc : Tst} {p pos : Pos}
/-- a built-in of one argument, by values -/
def rB1 (T : Tb) (g : Mu → D → Option D) : List V → Hp → VK → Prop := fun vs H Q => ∃ F m μ v x d, vs = [v] ∧ Rel T F m μ H ∧ Rep T F m v x ∧ g μ x = some d ∧ ∀ v H' F' m', Sub F m F' m' → Rel T F' m' μ H' → RN T F' m' H' v d → Q v H'
def rB2 (T : Tb) (g : Mu → D → D → Option D) : List V → Hp → VK → Prop := fun vs H Q => ∃ F m μ v1 v2 x y d, vs = [v1, v2] ∧ Rel T F m μ H ∧ Rep T F m v1 x ∧ Rep T F m v2 y ∧ g μ x y = some d ∧ ∀ v H' F' m', Sub F m F' m' → Rel T F' m' μ H' → RN T F' m' H' v d → Q v H'
theorem c_len (hk : X.K = T.K) : CallR X (.builtin "len") (rB1 T oLen) := by
  intro pins s σ H vs us Q I r ⟨F, m, μ, v, x, d, ev, rl, h1, e, hQ⟩
  subst ev
  have w := rl.vw h1
  unfold oLen at e
  split at e
  · rename_i xs q
    rw [q] at w; cases e
    obtain ⟨a, vs, rfl, q1, t⟩ := w.tup
    exact call_len_seq pins s σ H _ us Q I r ⟨a, vs, rfl, .inr (by rw [hk]; exact SqT.up rl.sub q1), by rw [t.length]; exact hQ _ _ _ _ Sub.refl rl (RN.int _)⟩
  · rename_i xs q
    rw [q] at w; cases e
    obtain ⟨a, vs, rfl, q1, t⟩ := w.list rl
    exact call_len_seq pins s σ H _ us Q I r ⟨a, vs, rfl, .inl (SqL.of q1), by rw [t.length]; exact hQ _ _ _ _ Sub.refl rl (RN.int _)⟩
  · rename_i xs q
    rw [q] at w; cases e
    obtain ⟨a, vs, rfl, q1, t⟩ := w.rol
    exact call_len_seq pins s σ H _ us Q I r ⟨a, vs, rfl, .inl (by rw [hk]; exact SqL.up rl.sub q1), by rw [t.length]; exact hQ _ _ _ _ Sub.refl rl (RN.int _)⟩
  · rename_i z q
    rw [q] at w
    split at e
    · rename_i hl
      cases e
      exact call_len_str pins s σ H _ us Q I r ⟨z, by rw [w.str], line_le hl, hQ _ _ _ _ Sub.refl rl (RN.int _)⟩
    · cases e
  · rename_i n q
    rw [q] at w
    split at e
    · rename_i kvs q2
      obtain ⟨a, _, h2⟩ := rl.cell _ _ q2
      cases h2
    · cases e
  · cases e
theorem c_int : CallR X (.type "int") (rB1 T oInt) := by
  intro pins s σ H vs us Q I r ⟨F, m, μ, v, x, d, ev, rl, h1, e, hQ⟩
  subst ev
  unfold oInt at e
  split at e
  · cases e
    exact call_int1 pins s σ H _ us Q I r (.inl ⟨_, by rw [h1.vInt], hQ _ _ _ _ Sub.refl rl (RN.int _)⟩)
  · cases e
    exact call_int1 pins s σ H _ us Q I r (.inr ⟨_, by rw [h1.vBl], hQ _ _ _ _ Sub.refl rl (RN.int _)⟩)
  · split at e
    · rename_i hl
      obtain ⟨n, e1, rfl⟩ := Option.map_eq_some_iff.mp e
      exact call_int_str pins s σ H _ us Q I r ⟨_, n, by rw [h1.vStr], e1, Nat.le_of_ble_eq_true hl, hQ _ _ _ _ Sub.refl rl (RN.int _)⟩
    · cases e
  · cases e
theorem c_abs : CallR X (.builtin "abs") (rB1 T oAbs) := by
  intro pins s σ H vs us Q I r ⟨F, m, μ, v, x, d, ev, rl, h1, e, hQ⟩
  subst ev
  unfold oAbs at e
  split at e
  · cases e
    exact call_abs pins s σ H _ us Q I r ⟨_, by rw [h1.vInt], hQ _ _ _ _ Sub.refl rl (RN.int _)⟩
  · cases e
theorem c_str : CallR X (.type "str") (rB1 T oStr) := by
  intro pins s σ H vs us Q I r ⟨F, m, μ, v, x, d, ev, rl, h1, e, hQ⟩
  subst ev
  unfold oStr at e
  split at e
  · split at e
    · rename_i hl
      cases e
      exact call_str_int pins s σ H _ us Q I r ⟨_, by rw [h1.vInt], by simpa using hl, hQ _ _ _ _ Sub.refl rl (RN.str _)⟩
    · cases e
  · cases e
theorem c_tuple (hk : X.K = T.K) : CallR X (.type "tuple") (rB1 T oTuple) := by
  intro pins s σ H vs us Q I r ⟨F, m, μ, v, x, d, ev, rl, h1, e, hQ⟩
  subst ev
  have w := rl.vw h1
  unfold oTuple at e
  split at e
  · rename_i xs q
    rw [q] at w; cases e
    obtain ⟨a, vs, rfl, q1, t⟩ := w.tup
    exact call_tuple_of pins s σ H _ us Q I r ⟨a, vs, rfl, .inr ⟨by rw [hk]; exact SqT.up rl.sub q1, hQ _ _ _ _ Sub.refl rl (.tup q1 t)⟩⟩
  · rename_i xs q
    rw [q] at w; cases e
    obtain ⟨a, vs, rfl, q1, t⟩ := w.list rl
    exact call_tuple_of pins s σ H _ us Q I r ⟨a, vs, rfl, .inl ⟨SqL.of q1, fun pp hp => by
      obtain ⟨s2, r3, r4⟩ := rn_tup rl t hp
      exact hQ _ _ _ _ s2 r3 r4⟩⟩
  · rename_i xs q
    rw [q] at w; cases e
    obtain ⟨a, vs, rfl, q1, t⟩ := w.rol
    exact call_tuple_of pins s σ H _ us Q I r ⟨a, vs, rfl, .inl ⟨by rw [hk]; exact SqL.up rl.sub q1, fun pp hp => by
      obtain ⟨s2, r3, r4⟩ := rn_tup rl t hp
      exact hQ _ _ _ _ s2 r3 r4⟩⟩
  · cases e
theorem c_list (hk : X.K = T.K) : CallR X (.type "list") (rB1 T oList) := by
  intro pins s σ H vs us Q I r ⟨F, m, μ, v, x, d, ev, rl, h1, e, hQ⟩
  subst ev
  have w := rl.vw h1
  have fin : ∀ {a : Addr} {vs : List V} {xs : List D}, (SqL X.K H a vs ∨ SqT X.K H a vs) → Reps T F m vs xs → d = .lst xs → Vals [V.ref a] us → wpAny (model X.prog X.w) X.A (call (.type "list") us) (EP X pins σ Q) X.xe s := fun {a vs xs} hs t ed r => by
    subst ed
    exact call_list_of pins s σ H _ us Q I r ⟨a, vs, rfl, hs, fun pp hp => by
      obtain ⟨r3, r4⟩ := rn_new rl t hp
      exact hQ _ _ _ _ Sub.refl r3 r4⟩
  unfold oList at e
  split at e
  · rename_i xs q
    rw [q] at w; cases e
    obtain ⟨a, vs, rfl, q1, t⟩ := w.tup
    exact fin (.inr (by rw [hk]; exact SqT.up rl.sub q1)) t rfl r
  · rename_i xs q
    rw [q] at w; cases e
    obtain ⟨a, vs, rfl, q1, t⟩ := w.list rl
    exact fin (.inl (SqL.of q1)) t rfl r
  · rename_i xs q
    rw [q] at w; cases e
    obtain ⟨a, vs, rfl, q1, t⟩ := w.rol
    exact fin (.inl (by rw [hk]; exact SqL.up rl.sub q1)) t rfl r
  · cases e
theorem sum_tup {pins : List (Addr × Obj)} {σ : L2.St} {H : Hp} {s : Shared} {a : Addr} {ns : List Int} {us : List Value} {Q : VK} (hc : X.calm = true) (I : Inv X pins σ H s) (r : Vals [V.ref a] us) (h : SqT X.K H a (ns.map V.int)) (q : Q (.int ns.sum) H) :
    wpAny (model X.prog X.w) X.A (call (.builtin "sum") us) (EP X pins σ Q) X.xe s := by
  obtain ⟨its, rv, ht, _⟩ := I.tuple h
  have hi : PyProof.Rows.IntsAre its ns := Vals.ints rv
  rw [Vals.ref1 r]
  obtain ⟨xs, e⟩ := hi.allInts.items
  have hn : numsOf (intItems xs).toList = ns := by rw [← e]; exact hi.numsOf
  rw [nums_intItems] at hn
  have ht2 : s.heap.IsTuple a (intItems xs) := by rw [← e]; exact ht
  refine PySem.W.ktm_sumG (I.ok.hd hc) ht2 fun h' tk t' hk => ⟨.int ns.sum, H, I.kept hk, ⟨t', ?_⟩, q⟩
  rw [preSum_eq, List.take_of_length_le (by simp), hn]
theorem c_sum (hk : X.K = T.K) (hc : X.calm = true) : CallR X (.builtin "sum") (rB1 T oSum) := by
  intro pins s σ H vs us Q I r ⟨F, m, μ, v, x, d, ev, rl, h1, e, hQ⟩
  subst ev
  have w := rl.vw h1
  unfold oSum sq at e
  split at e
  · rename_i xs q0
    obtain ⟨ns, en, rfl⟩ := Option.map_eq_some_iff.mp e
    split at q0
    · rename_i ys q
      rw [q] at w; cases q0
      obtain ⟨a, vs, rfl, q1, t⟩ := w.tup
      have z := t.ints en
      subst z
      exact sum_tup hc I r (by rw [hk]; exact SqT.up rl.sub q1) (hQ _ _ _ _ Sub.refl rl (RN.int _))
    · rename_i ys q
      rw [q] at w; cases q0
      obtain ⟨a, vs, rfl, q1, t⟩ := w.list rl
      have z := t.ints en
      subst z
      exact cr_sum hc pins s σ H _ us Q I r ⟨a, ns, rfl, SqL.of q1, hQ _ _ _ _ Sub.refl rl (RN.int _)⟩
    · rename_i ys q
      rw [q] at w; cases q0
      obtain ⟨a, vs, rfl, q1, t⟩ := w.rol
      have z := t.ints en
      subst z
      exact cr_sum hc pins s σ H _ us Q I r ⟨a, ns, rfl, by rw [hk]; exact SqL.up rl.sub q1, hQ _ _ _ _ Sub.refl rl (RN.int _)⟩
    · cases q0
  · cases e
theorem Reps.bls {F : Hp} {m : At} : ∀ {vs : List V} {ds : List D} {ns : List Bool}, Reps T F m vs ds → blsOf ds = some ns → vs = ns.map V.bl
  | _, _, _, .nil, h => by simp [blsOf] at h; subst h; rfl
  | _, _, _, .cons (d := d) r t, h => by
    cases d with
    | bl i =>
      cases r
      simp only [blsOf, Option.map_eq_some_iff] at h
      obtain ⟨ns, h1, rfl⟩ := h
      rw [Reps.bls t h1]; rfl
    | _ => simp [blsOf] at h
theorem c_any (hk : X.K = T.K) (hc : X.calm = true) : CallR X (.builtin "any") (rB1 T oAny) := by
  intro pins s σ H vs us Q I r ⟨F, m, μ, v, x, d, ev, rl, h1, e, hQ⟩
  subst ev
  have w := rl.vw h1
  unfold oAny at e
  split at e
  · rename_i xs q
    rw [q] at w
    obtain ⟨ns, en, rfl⟩ := Option.map_eq_some_iff.mp e
    obtain ⟨a, vs, rfl, q1, t⟩ := w.list rl
    have z := t.bls en
    subst z
    exact cr_any hc pins s σ H _ us Q I r ⟨a, ns, rfl, SqL.of q1, hQ _ _ _ _ Sub.refl rl (RN.bl _)⟩
  · cases e
theorem c_all (hk : X.K = T.K) (hc : X.calm = true) : CallR X (.builtin "all") (rB1 T oAll) := by
  intro pins s σ H vs us Q I r ⟨F, m, μ, v, x, d, ev, rl, h1, e, hQ⟩
  subst ev
  have w := rl.vw h1
  unfold oAll at e
  split at e
  · rename_i xs q
    rw [q] at w
    obtain ⟨ns, en, rfl⟩ := Option.map_eq_some_iff.mp e
    obtain ⟨a, vs, rfl, q1, t⟩ := w.list rl
    have z := t.bls en
    subst z
    exact cr_all hc pins s σ H _ us Q I r ⟨a, ns, rfl, SqL.of q1, hQ _ _ _ _ Sub.refl rl (RN.bl _)⟩
  · cases e
theorem foldl_max : ∀ (xs : List Int) (x : Int), (xs.foldl max x = x ∨ xs.foldl max x ∈ xs) ∧ x ≤ xs.foldl max x ∧ ∀ y ∈ xs, y ≤ xs.foldl max x
  | [], x => ⟨.inl rfl, Int.le_refl _, fun y h => by simp at h⟩
  | z :: xs, x => by
    obtain ⟨h1, h2, h3⟩ := foldl_max xs (max x z)
    simp only [List.foldl_cons, List.mem_cons]
    refine ⟨?_, by omega, fun y hy => ?_⟩
    · rcases h1 with h1 | h1
      · rw [h1]
        by_cases q : x ≤ z
        · right; left; omega
        · left; omega
      · right; right; exact h1
    · rcases hy with rfl | hy
      · omega
      · exact h3 y hy
theorem foldl_min : ∀ (xs : List Int) (x : Int), (xs.foldl min x = x ∨ xs.foldl min x ∈ xs) ∧ xs.foldl min x ≤ x ∧ ∀ y ∈ xs, xs.foldl min x ≤ y
  | [], x => ⟨.inl rfl, Int.le_refl _, fun y h => by simp at h⟩
  | z :: xs, x => by
    obtain ⟨h1, h2, h3⟩ := foldl_min xs (min x z)
    simp only [List.foldl_cons, List.mem_cons]
    refine ⟨?_, by omega, fun y hy => ?_⟩
    · rcases h1 with h1 | h1
      · rw [h1]
        by_cases q : x ≤ z
        · left; omega
        · right; left; omega
      · right; right; exact h1
    · rcases hy with rfl | hy
      · omega
      · exact h3 y hy
theorem maxL_uniq {ns : List Int} {k m : Int} (h : maxL ns = some k) (h1 : m ∈ ns) (h2 : ∀ y, y ∈ ns → y ≤ m) : m = k := by
  cases ns with
  | nil => cases h
  | cons x xs =>
    cases h
    obtain ⟨q1, q2, q3⟩ := foldl_max xs x
    have a1 : m ≤ xs.foldl max x := by
      rcases List.mem_cons.mp h1 with rfl | h
      · exact q2
      · exact q3 _ h
    have a2 : xs.foldl max x ≤ m := by
      rcases q1 with q1 | q1
      · rw [q1]; exact h2 x (by simp)
      · exact h2 _ (List.mem_cons_of_mem _ q1)
    omega
theorem minL_uniq {ns : List Int} {k m : Int} (h : minL ns = some k) (h1 : m ∈ ns) (h2 : ∀ y, y ∈ ns → m ≤ y) : m = k := by
  cases ns with
  | nil => cases h
  | cons x xs =>
    cases h
    obtain ⟨q1, q2, q3⟩ := foldl_min xs x
    have a1 : xs.foldl min x ≤ m := by
      rcases List.mem_cons.mp h1 with rfl | h
      · exact q2
      · exact q3 _ h
    have a2 : m ≤ xs.foldl min x := by
      rcases q1 with q1 | q1
      · rw [q1]; exact h2 x (by simp)
      · exact h2 _ (List.mem_cons_of_mem _ q1)
    omega
theorem c_max (hk : X.K = T.K) (hc : X.calm = true) : CallR X (.builtin "max") (rB1 T oMax1) := by
  intro pins s σ H vs us Q I r ⟨F, m, μ, v, x, d, ev, rl, h1, e, hQ⟩
  subst ev
  have w := rl.vw h1
  unfold oMax1 at e
  split at e
  · rename_i xs q
    rw [q] at w
    obtain ⟨k, e1, rfl⟩ := Option.map_eq_some_iff.mp e
    obtain ⟨ns, en, ek⟩ := Option.bind_eq_some_iff.mp e1
    obtain ⟨a, vs, rfl, q1, t⟩ := w.list rl
    have z := t.ints en
    subst z
    refine cr_max hc pins s σ H _ us Q I r ⟨a, ns, rfl, SqL.of q1, ?_, fun mm h1 h2 => ?_⟩
    · cases ns with
      | nil => cases ek
      | cons => simp
    · rw [maxL_uniq ek h1 h2]
      exact hQ _ _ _ _ Sub.refl rl (RN.int _)
  · cases e
theorem c_min (hk : X.K = T.K) (hc : X.calm = true) : CallR X (.builtin "min") (rB1 T oMin1) := by
  intro pins s σ H vs us Q I r ⟨F, m, μ, v, x, d, ev, rl, h1, e, hQ⟩
  subst ev
  have w := rl.vw h1
  unfold oMin1 at e
  split at e
  · rename_i xs q
    rw [q] at w
    obtain ⟨k, e1, rfl⟩ := Option.map_eq_some_iff.mp e
    obtain ⟨ns, en, ek⟩ := Option.bind_eq_some_iff.mp e1
    obtain ⟨a, vs, rfl, q1, t⟩ := w.list rl
    have z := t.ints en
    subst z
    refine cr_min hc pins s σ H _ us Q I r ⟨a, ns, rfl, SqL.of q1, ?_, fun mm h1 h2 => ?_⟩
    · cases ns with
      | nil => cases ek
      | cons => simp
    · rw [minL_uniq ek h1 h2]
      exact hQ _ _ _ _ Sub.refl rl (RN.int _)
  · cases e
theorem c_max2 (hc : X.calm = true) : CallR X (.builtin "max") (rB2 T oMax2) := by
  intro pins s σ H vs us Q I r ⟨F, m, μ, v1, v2, x, y, d, ev, rl, h1, h2, e, hQ⟩
  subst ev
  unfold oMax2 at e
  split at e
  · cases e
    exact call_max2 hc pins s σ H _ us Q I r ⟨_, _, by rw [h1.vInt, h2.vInt], hQ _ _ _ _ Sub.refl rl (RN.int _)⟩
  · cases e
theorem c_min2 (hc : X.calm = true) : CallR X (.builtin "min") (rB2 T oMin2) := by
  intro pins s σ H vs us Q I r ⟨F, m, μ, v1, v2, x, y, d, ev, rl, h1, h2, e, hQ⟩
  subst ev
  unfold oMin2 at e
  split at e
  · cases e
    exact call_min2 hc pins s σ H _ us Q I r ⟨_, _, by rw [h1.vInt, h2.vInt], hQ _ _ _ _ Sub.refl rl (RN.int _)⟩
  · cases e

/-! ### called by name -/
theorem b1_rd {g : Mu → D → Option D} {r : List V → Hp → VK → Prop} (er : r = rB1 T g) : ∀ σ H Q, rdN T W (e1 g fa) σ H Q → tCB r (tCons (rdE T W fa) tNil) σ H Q := fun σ H Q ⟨F, m, μ, ρ, rl, en, p⟩ => by
  subst er
  exact ⟨F, m, μ, ρ, rl, en, Post.bind p fun v H1 F1 m1 x μ1 s1 r1 h1 p1 => by
    obtain ⟨d, ed, hQ⟩ := Post.opt p1
    exact ⟨F1, m1, μ1, v, x, d, rfl, r1, h1, ed, hQ⟩⟩
theorem b2_rd {g : Mu → D → D → Option D} {r : List V → Hp → VK → Prop} (er : r = rB2 T g) : ∀ σ H Q, rdN T W (e2 g fa fb) σ H Q → tCB r (tCons (rdE T W fa) (tCons (rdE T W fb) tNil)) σ H Q := fun σ H Q ⟨F, m, μ, ρ, rl, en, p⟩ => by
  subst er
  exact ⟨F, m, μ, ρ, rl, en, Post.bind p fun v H1 F1 m1 x μ1 s1 r1 h1 p1 => ⟨F1, m1, μ1, ρ, r1, en.up s1, Post.bind p1 fun v2 H2 F2 m2 y μ2 s2 r2 h2 p2 => by
    obtain ⟨d, ed, hQ⟩ := Post.opt p2
    exact ⟨F2, m2, μ2, v, v2, x, y, d, rfl, r2, h1.up s2, h2, ed, hQ⟩⟩⟩
theorem name_is {x : Str} {y : Str} {k : Nat} (hx : okN x = true) (e : nid x = k) (hy : okN y = true) (ey : nid y = k) : x = y := nid_inj hx hy (e.trans ey.symm)
theorem s_b1 {x : Str} {g : Mu → D → Option D} (hk : X.K = T.K) (hc : X.calm = true) (hx : okN x = true) (hg : Gl X x) (hm : X.mg x = none) (h : b1 (nid x) = some g) (ha : PE X a (rdE T W fa)) (hs : isStar a = false) : PE X (.Call (.Name x p) [a] [] pos) (rdN T W (e1 g fa)) := by
  have pa : PA X [a] (tCons (rdE T W fa) tNil) := pa_cons ha pa_nil (star_eq hs)
  have st : ∀ env, starEach [a] env = (false, eval a env) :: starEach [] env := fun env => star_eq hs
  unfold b1 at h
  split at h
  · rename_i q; cases h
    obtain rfl := name_is (y := "len") hx q (by decide +kernel) (by decide +kernel)
    exact (pe_callB (c_len hk) hg hm PySem.boot_len pa (he := st _)).imp (b1_rd rfl)
  split at h
  · rename_i q; cases h
    obtain rfl := name_is (y := "int") hx q (by decide +kernel) (by decide +kernel)
    exact (pe_callTy c_int hg hm PyProof.Rows.boot_int pa (he := st _)).imp (b1_rd rfl)
  split at h
  · rename_i q; cases h
    obtain rfl := name_is (y := "abs") hx q (by decide +kernel) (by decide +kernel)
    exact (pe_callB c_abs hg hm (by decide +kernel) pa (he := st _)).imp (b1_rd rfl)
  split at h
  · rename_i q; cases h
    obtain rfl := name_is (y := "str") hx q (by decide +kernel) (by decide +kernel)
    exact (pe_callTy c_str hg hm PyProof.Rows.boot_str pa (he := st _)).imp (b1_rd rfl)
  split at h
  · rename_i q; cases h
    obtain rfl := name_is (y := "tuple") hx q (by decide +kernel) (by decide +kernel)
    exact (pe_callTy (c_tuple hk) hg hm PyProof.Rows.boot_tuple pa (he := st _)).imp (b1_rd rfl)
  split at h
  · rename_i q; cases h
    obtain rfl := name_is (y := "list") hx q (by decide +kernel) (by decide +kernel)
    exact (pe_callTy (c_list hk) hg hm PyProof.Rows.boot_list pa (he := st _)).imp (b1_rd rfl)
  split at h
  · rename_i q; cases h
    obtain rfl := name_is (y := "sum") hx q (by decide +kernel) (by decide +kernel)
    exact (pe_callB (c_sum hk hc) hg hm PyProof.Rows.boot_sum pa (he := st _)).imp (b1_rd rfl)
  split at h
  · rename_i q; cases h
    obtain rfl := name_is (y := "any") hx q (by decide +kernel) (by decide +kernel)
    exact (pe_callB (c_any hk hc) hg hm (by decide +kernel) pa (he := st _)).imp (b1_rd rfl)
  split at h
  · rename_i q; cases h
    obtain rfl := name_is (y := "all") hx q (by decide +kernel) (by decide +kernel)
    exact (pe_callB (c_all hk hc) hg hm (by decide +kernel) pa (he := st _)).imp (b1_rd rfl)
  split at h
  · rename_i q; cases h
    obtain rfl := name_is (y := "max") hx q (by decide +kernel) (by decide +kernel)
    exact (pe_callB (c_max hk hc) hg hm PyProof.Rows.boot_max pa (he := st _)).imp (b1_rd rfl)
  split at h
  · rename_i q; cases h
    obtain rfl := name_is (y := "min") hx q (by decide +kernel) (by decide +kernel)
    exact (pe_callB (c_min hk hc) hg hm PyProof.Rows.boot_min pa (he := st _)).imp (b1_rd rfl)
  · cases h
theorem s_b2 {x : Str} {g : Mu → D → D → Option D} (hc : X.calm = true) (hx : okN x = true) (hg : Gl X x) (hm : X.mg x = none) (h : b2 (nid x) = some g) (ha : PE X a (rdE T W fa)) (hb : PE X b (rdE T W fb)) (hs : isStar a = false) (hs2 : isStar b = false) :
    PE X (.Call (.Name x p) [a, b] [] pos) (rdN T W (e2 g fa fb)) := by
  have pa : PA X [a, b] (tCons (rdE T W fa) (tCons (rdE T W fb) tNil)) := pa_cons ha (pa_cons hb pa_nil (star_eq hs2)) (star_eq hs)
  have st : ∀ env, starEach [a, b] env = (false, eval a env) :: starEach [b] env := fun env => star_eq hs
  have sp : ∀ env, (backTo pos (starEach [b] env)).any (·.1) = false := fun env => star_any (by simp [hs2])
  unfold b2 at h
  split at h
  · rename_i q; cases h
    obtain rfl := name_is (y := "max") hx q (by decide +kernel) (by decide +kernel)
    exact (pe_callB (c_max2 hc) hg hm PyProof.Rows.boot_max pa (he := st _) (hpl := sp _)).imp (b2_rd rfl)
  split at h
  · rename_i q; cases h
    obtain rfl := name_is (y := "min") hx q (by decide +kernel) (by decide +kernel)
    exact (pe_callB (c_min2 hc) hg hm PyProof.Rows.boot_min pa (he := st _) (hpl := sp _)).imp (b2_rd rfl)
  · cases h
end
end Gs
/-! GsS5: isinstance. -/
namespace Gs
open PySem PySem.Spec L2
section
variable {X : Cx} {T : Tb} {W : WX} {a b c e : Expr} {fa fb fc f : Ex} {p pos : Pos}
/-- the type that the model's isinstance goes by -/
inductive TyIs (T : Tb) (μ : Mu) : D → Value → Prop
  | non : TyIs T μ .non (.type "NoneType")
  | bl (b : Bool) : TyIs T μ (.bl b) (.type "bool")
  | int (i : Int) : TyIs T μ (.int i) (.type "int")
  | str (s : Str) : TyIs T μ (.str s) (.type "str")
  | tup (xs : List D) : TyIs T μ (.tup xs) (.type "tuple")
  | list {x : D} {xs : List D} : (vw μ x = .lst xs ∨ vw μ x = .rol xs) → clsOf μ x = none → TyIs T μ x (.type "list")
  | ins {x : D} {c : Nat} {C : Addr} : clsOf μ x = some c → (∀ xs, vw μ x ≠ .lst xs ∧ vw μ x ≠ .rol xs) → T.cl c = some C → InsC T.K C → TyIs T μ x (.ref C)
theorem tyx_of {F : Hp} {m : At} {μ : Mu} {H : Hp} (hk : X.K = T.K) (hz : ∀ a, T.z a = none) (rl : Rel T F m μ H) {v : V} {x : D} (r : Rep T F m v x) (kn : known μ x = true) : ∃ t, TyX X.K H v t ∧ TyIs T μ x t := by
  have ty_tup : ∀ {a : Addr} {vs : List V}, SqT T.K F a vs → TyX X.K H (.ref a) (.type "tuple") := fun {a vs} h => by
    rcases h with (h | ⟨o, h⟩) | ⟨o, its, n, h1, h2, _⟩
    · exact .base (.tup (rl.sub _ _ h))
    · exact .fTuple (rl.sub _ _ h)
    · exact .kTuple (by rw [hk]; exact h1) h2
  have ty_list : ∀ {a : Addr} {vs : List V}, SqL T.K F a vs → TyX X.K H (.ref a) (.type "list") := fun {a vs} h => by
    rcases h with (h | ⟨o, h⟩) | ⟨o, its, n, h1, h2, _⟩
    · exact .base (.lst (rl.sub _ _ h))
    · exact .base (.frz (rl.sub _ _ h))
    · exact .kList (by rw [hk]; exact h1) h2
  have ty_ins : ∀ {a C dx : Addr} {fvs : List (Str × V)}, H a = some (.ins C dx fvs) → InsC T.K C → TyX X.K H (.ref a) (.ref C) := fun {a C dx fvs} h ok =>
    .base (.ins h (by rw [hk]; exact ok.cls) (by rw [hk]; exact ok.ha) (by rw [hk]; exact ok.hn) (by rw [hk]; exact ok.htk) (by rw [hk]; exact ok.hm))
  cases r with
  | non => exact ⟨_, .base .non, .non⟩
  | bl b => exact ⟨_, .base (.bl b), .bl b⟩
  | int i => exact ⟨_, .base (.int i), .int i⟩
  | str s => exact ⟨_, .base (.str s), .str s⟩
  | tup h t => exact ⟨_, ty_tup h, .tup _⟩
  | lst h t => exact ⟨_, .base (.lst (rl.sub _ _ h)), .list (.inl rfl) rfl⟩
  | rol h t => exact ⟨_, ty_list h, .list (.inr rfl) rfl⟩
  | obj c h n t => exact ⟨_, ty_ins (rl.sub _ _ h) n.c, .ins rfl (fun xs => ⟨by simp [vw], by simp [vw]⟩) c n.c⟩
  | exc _ h _ _ _ => rw [hz] at h; cases h
  | @ref a n e =>
    have vr : ∀ {d : D}, vw μ (.ref n) = d ↔ (match μ.get n with | some (.lst xs) => .lst xs | some (.lck xs) => .lst xs | some (.frz d) => d | _ => .ref n) = d := fun {d} => Iff.rfl
    cases q : μ.get n with
    | none => simp [known, q] at kn
    | some cc =>
      obtain ⟨a', h1, h2⟩ := rl.cell _ _ q
      rw [e] at h1; cases h1
      cases h2 with
      | lst f h t => exact ⟨_, .base (.lst h), .list (.inl (vr.mpr (by rw [q]))) (by rw [clsOf_ref, q])⟩
      | lck f h t => exact ⟨_, .base (.lst h), .list (.inl (vr.mpr (by rw [q]))) (by rw [clsOf_ref, q])⟩
      | ins f c' h n' t =>
        have e1 : ∀ {d : D}, vw μ (.ref n) = d → d = .ref n := fun {d} z => by
          rw [vr, q] at z
          exact z.symm
        exact ⟨_, ty_ins h n'.c, .ins (by rw [clsOf_ref, q]) (fun xs => ⟨fun z => (by have := e1 z; cases this), fun z => (by have := e1 z; cases this)⟩) c' n'.c⟩
      | frz t => simp [known, q] at kn
/-- a type as a value -/
inductive TyV (T : Tb) : Ty → V → Value → Prop
  | bool : TyV T .bool (.ty "bool") (.type "bool")
  | int : TyV T .int (.ty "int") (.type "int")
  | str : TyV T .str (.ty "str") (.type "str")
  | tuple : TyV T .tuple (.ty "tuple") (.type "tuple")
  | list : TyV T .list (.ty "list") (.type "list")
  | own {c : Nat} {D : Addr} : T.cl c = some D → TyV T (.own c) (.ref D) (.ref D)
theorem TyV.cls {ty : Ty} {v : V} {u : Value} (h : TyV T ty v u) : ClsV v u := by
  cases h <;> first | exact .ty _ | exact .own _
theorem isA_list {μ : Mu} {bs : Bases} {x : D} : isA bs μ x .list = (match vw μ x with | .lst _ => true | .rol _ => true | _ => false) := rfl
theorem isA_own {μ : Mu} {bs : Bases} {x : D} {c : Nat} : isA bs μ x (.own c) = (match clsOf μ x with | some k => (bs k).contains c | none => false) := rfl
/-- the answer for one class -/
theorem kit_ans {μ : Mu} {x : D} {t u : Value} {v : V} {bs : Bases} {ty : Ty} (hk : X.K = T.K) (kit : Kit X.K T.cl bs) (h : TyIs T μ x t) (hv : TyV T ty v u) : PySem.W.kitOne X.K t u = some (isA bs μ x ty) := by
  cases h with
  | non => cases hv with
    | own hd => exact kit.no _ _ hd _ (by simp)
    | bool => exact (kit_ty (r := false) (by decide +kernel))
    | int => exact (kit_ty (r := false) (by decide +kernel))
    | str => exact (kit_ty (r := false) (by decide +kernel))
    | tuple => exact (kit_ty (r := false) (by decide +kernel))
    | list => exact (kit_ty (r := false) (by decide +kernel))
  | bl b => cases hv with
    | own hd => exact kit.no _ _ hd _ (by simp)
    | bool => exact (kit_ty (r := true) (by decide +kernel))
    | int => exact (kit_ty (r := true) (by decide +kernel))
    | str => exact (kit_ty (r := false) (by decide +kernel))
    | tuple => exact (kit_ty (r := false) (by decide +kernel))
    | list => exact (kit_ty (r := false) (by decide +kernel))
  | int i => cases hv with
    | own hd => exact kit.no _ _ hd _ (by simp)
    | bool => exact (kit_ty (r := false) (by decide +kernel))
    | int => exact (kit_ty (r := true) (by decide +kernel))
    | str => exact (kit_ty (r := false) (by decide +kernel))
    | tuple => exact (kit_ty (r := false) (by decide +kernel))
    | list => exact (kit_ty (r := false) (by decide +kernel))
  | str s => cases hv with
    | own hd => exact kit.no _ _ hd _ (by simp)
    | bool => exact (kit_ty (r := false) (by decide +kernel))
    | int => exact (kit_ty (r := false) (by decide +kernel))
    | str => exact (kit_ty (r := true) (by decide +kernel))
    | tuple => exact (kit_ty (r := false) (by decide +kernel))
    | list => exact (kit_ty (r := false) (by decide +kernel))
  | tup xs => cases hv with
    | own hd => exact kit.no _ _ hd _ (by simp)
    | bool => exact (kit_ty (r := false) (by decide +kernel))
    | int => exact (kit_ty (r := false) (by decide +kernel))
    | str => exact (kit_ty (r := false) (by decide +kernel))
    | tuple => exact (kit_ty (r := true) (by decide +kernel))
    | list => exact (kit_ty (r := false) (by decide +kernel))
  | @list x xs h1 h2 =>
    have hx : ∀ {b : Bool}, isA bs μ x .bool = b ∨ True := fun {b} => .inr trivial
    cases hv with
    | list =>
      rw [isA_list]
      rcases h1 with h1 | h1 <;> rw [h1] <;> exact kit_ty (r := true) (by decide +kernel)
    | own hd =>
      rw [isA_own, h2]
      exact kit.no _ _ hd _ (by simp)
    | bool =>
      have : isA bs μ x .bool = false := by
        cases x <;> first | rfl | (simp [vw] at h1)
      rw [this]; exact kit_ty (by decide +kernel)
    | int =>
      have : isA bs μ x .int = false := by
        cases x <;> first | rfl | (simp [vw] at h1)
      rw [this]; exact kit_ty (by decide +kernel)
    | str =>
      have : isA bs μ x .str = false := by
        cases x <;> first | rfl | (simp [vw] at h1)
      rw [this]; exact kit_ty (by decide +kernel)
    | tuple =>
      have : isA bs μ x .tuple = false := by
        cases x <;> first | rfl | (simp [vw] at h1)
      rw [this]; exact kit_ty (by decide +kernel)
  | @ins x c C h1 h2 h3 h4 =>
    obtain ⟨k1, k2⟩ := kit.ins c C h3 (by rw [hk]; exact h4)
    cases hv with
    | own hd =>
      rw [isA_own, h1]
      exact k2 _ _ hd
    | list =>
      have : isA bs μ x .list = false := by
        rw [isA_list]
        split
        · rename_i xs q; exact absurd q (h2 xs).1
        · rename_i xs q; exact absurd q (h2 xs).2
        · rfl
      rw [this]; exact k1 _ (by simp)
    | bool =>
      have : isA bs μ x .bool = false := by
        cases x <;> first | rfl | (simp [clsOf] at h1)
      rw [this]; exact k1 _ (by simp)
    | int =>
      have : isA bs μ x .int = false := by
        cases x <;> first | rfl | (simp [clsOf] at h1)
      rw [this]; exact k1 _ (by simp)
    | str =>
      have : isA bs μ x .str = false := by
        cases x <;> first | rfl | (simp [clsOf] at h1)
      rw [this]; exact k1 _ (by simp)
    | tuple =>
      have : isA bs μ x .tuple = false := by
        cases x <;> first | rfl | (simp [clsOf] at h1)
      rw [this]; exact k1 _ (by simp)
/-- the answer for several -/
theorem kit_any {μ : Mu} {x : D} {t : Value} {bs : Bases} (hk : X.K = T.K) (kit : Kit X.K T.cl bs) (h : TyIs T μ x t) : ∀ {ts : List Ty} {vs : List V} {us : List Value}, vs.length = ts.length → us.length = ts.length → (∀ (i : Nat) (ty : Ty), ts[i]? = some ty → ∃ v u, vs[i]? = some v ∧ us[i]? = some u ∧ TyV T ty v u) →
    PySem.W.kitAny X.K t us = some (ts.any fun ty => isA bs μ x ty) ∧ Paired ClsV vs us
  | [], [], [], _, _, _ => ⟨rfl, .nil⟩
  | ty :: ts, v :: vs, u :: us, l1, l2, hh => by
    obtain ⟨v', u', e1, e2, tv⟩ := hh 0 ty rfl
    cases e1
    cases e2
    obtain ⟨a1, a2⟩ := kit_any hk kit h (ts := ts) (vs := vs) (us := us) (by simpa using l1) (by simpa using l2) fun i ty e => hh (i + 1) ty (by simpa using e)
    refine ⟨kitAny_cons (kit_ans hk kit h tv) (fun q => ?_) (fun q => ?_), .cons tv.cls a2⟩
    · rw [a1, List.any_cons, q]; rfl
    · rw [List.any_cons, q]; rfl

/-! ### the class's expression -/
theorem kind_ok {C : Cxt} {x : Str} {k : NameKind} (h : C.kind x = some k) : okN x = true ∧ C.sc.names.lookup x = some k := by
  unfold Cxt.kind at h
  split at h
  · rename_i q; exact ⟨q, h⟩
  · cases h
theorem gl_of {C : Cxt} {n : Nat} {x : Str} (G : Good C X W T n) (h : C.kind x = some .globalImplicit) : Gl X x := by
  show X.env.scope.names.lookup x = _
  rw [G.sc]
  exact (kind_ok h).2
theorem ty_name {C : Cxt} {n : Nat} {x : Str} {ty : Ty} (G : Good C X W T n) (h : tyN C x = some ty) : ∃ v u, PE X (.Name x p) (tC v) ∧ TyV T ty v u := by
  unfold tyN at h
  split at h
  · rename_i hk
    obtain ⟨hx, _⟩ := kind_ok hk
    have hg := gl_of G hk
    have own : ∀ {g : Gs.G}, C.glob.lookup (nid x) = some g → (∀ d, g ≠ .con d) → (∀ ps dfl, g ≠ .fn ps dfl) → g ≠ .blt → ty = .own (nid x) → ∃ v u, PE X (.Name x p) (tC v) ∧ TyV T ty v u := fun {g} q h1 h2 h3 e => by
      subst e
      obtain ⟨D, hd, hm⟩ := G.mdl.cls x g hx q h1 h2 h3
      exact ⟨_, _, pe_glob hg hm (v := .ref D) rfl (okN_debug hx), .own hd⟩
    split at h
    · rename_i q; cases h; exact own q (by simp) (by simp) (by simp) rfl
    · rename_i q; cases h; exact own q (by simp) (by simp) (by simp) rfl
    · rename_i q; cases h; exact own q (by simp) (by simp) (by simp) rfl
    · rename_i q
      have hm := G.mdl.blt x hx q
      split at h
      · rename_i e; cases h
        obtain rfl := name_is (y := "bool") hx e (by decide +kernel) (by decide +kernel)
        exact ⟨_, _, pe_bltn hg hm PyProof.Rows.boot_bool (v := .ty "bool") rfl, .bool⟩
      split at h
      · rename_i e; cases h
        obtain rfl := name_is (y := "int") hx e (by decide +kernel) (by decide +kernel)
        exact ⟨_, _, pe_bltn hg hm PyProof.Rows.boot_int (v := .ty "int") rfl, .int⟩
      split at h
      · rename_i e; cases h
        obtain rfl := name_is (y := "str") hx e (by decide +kernel) (by decide +kernel)
        exact ⟨_, _, pe_bltn hg hm PyProof.Rows.boot_str (v := .ty "str") rfl, .str⟩
      split at h
      · rename_i e; cases h
        obtain rfl := name_is (y := "tuple") hx e (by decide +kernel) (by decide +kernel)
        exact ⟨_, _, pe_bltn hg hm PyProof.Rows.boot_tuple (v := .ty "tuple") rfl, .tuple⟩
      split at h
      · rename_i e; cases h
        obtain rfl := name_is (y := "list") hx e (by decide +kernel) (by decide +kernel)
        exact ⟨_, _, pe_bltn hg hm PyProof.Rows.boot_list (v := .ty "list") rfl, .list⟩
      · cases h
    · cases h
  · cases h
theorem ty_names {C : Cxt} {n : Nat} (G : Good C X W T n) : ∀ {es : List Expr} {ts : List Ty}, tysN C es = some ts → es.any isStar = false ∧ ∃ (vs : List V) (us : List Value), PA X es (fun _ H Q => Q vs H) ∧ vs.length = ts.length ∧ us.length = ts.length ∧ ∀ (i : Nat) ty, ts[i]? = some ty → ∃ v u, vs[i]? = some v ∧ us[i]? = some u ∧ TyV T ty v u
  | [], ts, h => by
    simp only [tysN, Option.some.injEq] at h
    subst h
    exact ⟨rfl, [], [], pa_nil.imp fun _ _ _ h => h, rfl, rfl, fun i ty e => by simp at e⟩
  | e :: r, ts, h => by
    cases e with
    | Name x q =>
      simp only [tysN] at h
      split at h
      · rename_i t ts' h1 h2
        cases h
        obtain ⟨v, u, hp, tv⟩ := ty_name (p := q) G h1
        obtain ⟨s1, vs, us, hps, l1, l2, hh⟩ := ty_names G h2
        refine ⟨by simpa [isStar] using s1, v :: vs, u :: us, (pa_cons hp hps rfl).imp fun _ _ _ h => h, by simp [l1], by simp [l2], fun i ty e => ?_⟩
        cases i with
        | zero => simp at e; subst e; exact ⟨v, u, rfl, rfl, tv⟩
        | succ i => simpa using hh i ty (by simpa using e)
      · cases h
    | _ => simp [tysN] at h
theorem tysN_len {C : Cxt} : ∀ {es : List Expr} {ts : List Ty}, tysN C es = some ts → es.length = ts.length
  | [], ts, h => by simp only [tysN, Option.some.injEq] at h; subst h; rfl
  | e :: r, ts, h => by
    cases e with
    | Name x q =>
      simp only [tysN] at h
      split at h
      · rename_i t ts' h1 h2
        cases h
        simp [tysN_len h2]
      · cases h
    | _ => simp [tysN] at h
theorem s_isi {C : Cxt} {n : Nat} {x : Str} {ts : List Ty} (G : Good C X W T n) (hx : nid x = k_isinstance) (hkd : C.kind x = some .globalImplicit) (hgn : C.glob.lookup (nid x) = some .blt) (h : tysOf C b = some ts) (ha : PE X a (rdE T W fa)) (hs : isStar a = false) :
    PE X (.Call (.Name x p) [a, b] [] pos) (rdE T W (eIsi C.bs ts fa)) := by
  obtain ⟨ok, _⟩ := kind_ok hkd
  have hg := gl_of G hkd
  have hm := G.mdl.blt x ok hgn
  obtain rfl := name_is (y := "isinstance") ok hx (by decide +kernel) (by decide +kernel)
  have st : ∀ env, starEach [a, b] env = (false, eval a env) :: starEach [b] env := fun env => star_eq hs
  have bt : bootBuiltins "isinstance" = some (.builtin "isinstance") := by decide +kernel
  -- what is left to be told, from the reading
  have key : ∀ {σ : L2.St} {H : Hp} {Q : VK} {R : VK}, rdE T W (eIsi C.bs ts fa) σ H Q → (∀ F m μ H1 v x, Rel T F m μ H1 → Rep T F m v x → known μ x = true → (∀ H' F' m', Sub F m F' m' → Rel T F' m' μ H' → Q (.bl (ts.any fun t => isA C.bs μ x t)) H') → R v H1) → rdE T W fa σ H R := fun ⟨F, m, μ, ρ, rl, en, p⟩ k =>
    ⟨F, m, μ, ρ, rl, en, Post.bind p fun v H1 F1 m1 x μ1 s1 r1 h1 p1 => by
      split at p1
      · rename_i kn
        exact k F1 m1 μ1 H1 v x r1 h1 kn fun H' F' m' s r => p1 _ _ _ _ s r (.bl _)
      · exact p1.elim⟩
  cases b with
  | Name y q =>
    simp only [tysOf, Option.map_eq_some_iff] at h
    obtain ⟨ty, h, rfl⟩ := h
    obtain ⟨w, u, hp, tv⟩ := ty_name (p := q) G h
    have pa : PA X [a, .Name y q] (tCons (rdE T W fa) (tCons (tC w) tNil)) := pa_cons ha (pa_cons hp pa_nil rfl) (star_eq hs)
    refine (pe_callB call_isi hg hm bt pa (he := st _) (hpl := rfl)).imp fun σ H Q hr => key hr fun F m μ H1 v x rl rv kn hQ => ?_
    obtain ⟨t, t1, t2⟩ := tyx_of G.K G.z rl rv kn
    refine ⟨v, w, t, u, isA C.bs μ x ty, rfl, tv.cls, t1, kit_ans G.K G.mdl.kit t2 tv, ?_⟩
    have := hQ H1 F m Sub.refl rl
    simpa using this
  | Tuple es k q =>
    simp only [tysOf] at h
    split at h
    · rename_i hl
      have hl := Nat.blt_eq.mp hl
      obtain ⟨s1, vs, us, hps, l1, l2, hh⟩ := ty_names G h
      have l3 := tysN_len h
      have pa : PA X [a, .Tuple es k q] (tCons (rdE T W fa) (tCons (tTup fun _ H Q => Q vs H) tNil)) := pa_cons ha (pa_cons (pe_tup hps) pa_nil rfl) (star_eq hs)
      refine (pe_callB call_isiT hg hm bt pa (he := st _) (hpl := rfl)).imp fun σ H Q hr => key hr fun F m μ H1 v x rl rv kn hQ => ?_
      refine ⟨by rw [l1, ← l3, sizeLine_eq]; omega, fun tp htp => ?_⟩
      have rl2 := rl.addH (o := .tup vs) htp
      obtain ⟨t, t1, t2⟩ := tyx_of G.K G.z rl2 rv kn
      obtain ⟨k1, k2⟩ := kit_any (x := x) G.K G.mdl.kit t2 l1 l2 hh
      exact ⟨v, tp, vs, t, us, _, rfl, upd_same, k2, t1, k1, hQ _ F m Sub.refl rl2⟩
    · cases h
  | _ => simp [tysOf] at h
end
end Gs
/-! GsBind: how a def with plain parameters binds values, keywords and defaults. -/
namespace Gs
open PySem PySem.Spec L2
structure Simple (p : Arguments) (ps : List Str) : Prop where
  po : p.posonlyargs = []
  ko : p.kwonlyargs = []
  va : p.vararg = none
  kw : p.kwarg = none
  as : p.args.map (·.arg) = ps
def fillD (slots : List (Str × Value)) : List (Str × Value) → List (Str × Value)
  | [] => slots
  | q :: r => if (slots.lookup q.1).isNone then fillD (slots ++ [(q.1, q.2)]) r else fillD slots r
theorem loopK {f : Str × Value → List (Str × Value) × List (Str × Value) → Sem (ForInStep (List (Str × Value) × List (Str × Value)))} {ps : List Str} (ex : List (Str × Value))
    (hf : ∀ x slots, ps.contains x.1 = true → slots.lookup x.1 = none → f x (slots, ex) = pure (.yield (slots ++ [(x.1, x.2)], ex))) :
    ∀ (kw slots : List (Str × Value)), (∀ x ∈ kw, ps.contains x.1 = true) → (kw.map (·.1)).Nodup → (∀ x ∈ kw, slots.lookup x.1 = none) → forIn kw (slots, ex) f = pure (slots ++ kw, ex)
  | [], slots, _, _, _ => by simp
  | x :: r, slots, h1, h2, h3 => by
    rw [List.forIn_cons, hf x slots (h1 x (by simp)) (h3 x (by simp)), pure_bind]
    simp only [List.map_cons, List.nodup_cons] at h2
    have := loopK ex hf r (slots ++ [(x.1, x.2)]) (fun y hy => h1 y (List.mem_cons_of_mem _ hy)) h2.2 (fun y hy => by
      have hne : y.1 ≠ x.1 := fun e => h2.1 (by rw [← e]; exact List.mem_map.mpr ⟨y, hy, rfl⟩)
      have hb : (y.1 == x.1) = false := by simpa using hne
      rw [List.lookup_append, h3 y (List.mem_cons_of_mem _ hy)]
      simp [List.lookup, hb])
    simpa using this
theorem loopD {f : Str × Value → List (Str × Value) → Sem (ForInStep (List (Str × Value)))}
    (hf : ∀ x slots, f x slots = pure (.yield (if (slots.lookup x.1).isNone then slots ++ [(x.1, x.2)] else slots))) :
    ∀ (l slots : List (Str × Value)), forIn l slots f = pure (fillD slots l)
  | [], slots => by simp [fillD]
  | x :: r, slots => by
    rw [List.forIn_cons, hf x slots, pure_bind]
    show forIn r _ f = _
    rw [loopD hf r, show fillD slots (x :: r) = if (slots.lookup x.1).isNone then fillD (slots ++ [(x.1, x.2)]) r else fillD slots r from rfl]
    split <;> rfl
theorem fillD_lookup (x : Str) : ∀ (l slots : List (Str × Value)), (fillD slots l).lookup x = (slots.lookup x).or (l.lookup x)
  | [], slots => by simp [fillD]
  | (y, v) :: r, slots => by
    unfold fillD
    split
    · rename_i h
      rw [fillD_lookup x r, List.lookup_append]
      by_cases e : x = y
      · subst e
        have h' : slots.lookup x = none := by simpa using h
        simp [List.lookup, h']
      · have hb : (x == y) = false := by simpa using e
        simp [List.lookup, hb]
    · rename_i h
      rw [fillD_lookup x r]
      by_cases e : x = y
      · subst e
        have h' : (slots.lookup x).isSome = true := by simpa using h
        obtain ⟨w, hw⟩ := Option.isSome_iff_exists.mp h'
        simp [hw]
      · have hb : (x == y) = false := by simpa using e
        simp [List.lookup, hb]
theorem bind_simple {fd : FuncData} {ps : List Str} (S : Simple fd.params ps) {us : List Value} {kw : List (Str × Value)} (hl : us.length ≤ ps.length) (h1 : ∀ x ∈ kw, ps.contains x.1 = true) (h2 : (kw.map (·.1)).Nodup) (h3 : ∀ x ∈ kw, (ps.zip us).lookup x.1 = none)
    {its : List Value} (hd : its.length ≤ ps.length) (hm : ∀ n ∈ ps.take (ps.length - its.length), (ps.zip us ++ kw).lookup n ≠ none) :
    ∃ k, bindArgs fd ⟨us, kw⟩ = seqItems? fd.defaults >>= k ∧ ∀ o, (o.getD #[]).toList = its → k o = pure (ps.filterMap fun n => ((fillD (ps.zip us ++ kw) ((ps.drop (ps.length - its.length)).zip its)).lookup n).map (n, ·)) := by
  unfold bindArgs
  simp only [S.po, S.ko, S.va, S.kw, S.as, List.map_nil, List.nil_append, List.append_nil, List.forIn_nil, List.isEmpty_nil, Bool.not_true, Bool.false_eq_true, if_false, pure_bind]
  rw [loopK (ps := ps) [] (fun x slots hx hs => by simp only [hx, hs, Bool.true_or, if_true, Option.isSome_none, Bool.false_eq_true, if_false]) kw (ps.zip us) h1 h2 h3, pure_bind]
  refine ⟨_, rfl, fun o ho => ?_⟩
  simp only [ho]
  have e0 : its.length - ps.length = 0 := by omega
  have e1 : (decide (us.length > ps.length) && (none : Option Arg).isNone) = false := by simp; omega
  have e2 : (List.filter (fun n => (List.lookup n (ps.zip us ++ kw)).isNone) (List.take (ps.length - its.length) ps)).isEmpty = true := by
    rw [List.isEmpty_iff, List.filter_eq_nil_iff]
    intro n hn
    have := hm n hn
    simpa using this
  simp only [e0, e1, e2, List.drop_zero, Bool.false_eq_true, if_false, Bool.not_true]
  rw [loopD (fun x slots => by split <;> simp_all)]
  simp
end Gs
/-! GsBind2: a plan's arguments are what the model binds. -/
namespace Gs
open PySem PySem.Spec L2
theorem nodupB_nodup : ∀ {l : List Nat}, nodupB l = true → l.Nodup
  | [], _ => List.nodup_nil
  | x :: r, h => by
    simp only [nodupB, Bool.and_eq_true, Bool.not_eq_true'] at h
    exact List.nodup_cons.mpr ⟨by simpa using h.1, nodupB_nodup h.2⟩
theorem ixN_some {p i : Nat} : ∀ {l : List Nat}, ixN p l = some i → l[i]? = some p
  | [], h => by simp [ixN] at h
  | y :: r, h => by
    unfold ixN at h
    split at h
    · rename_i e
      cases h
      simp [Nat.eq_of_beq_eq_true e]
    · obtain ⟨j, h1, rfl⟩ := Option.map_eq_some_iff.mp h
      simpa using ixN_some h1
theorem ixN_none {p : Nat} : ∀ {l : List Nat}, ixN p l = none → p ∉ l
  | [], _ => by simp
  | y :: r, h => by
    unfold ixN at h
    split at h
    · cases h
    · rename_i e
      have h1 : ixN p r = none := by simpa using h
      have h2 : p ≠ y := fun q => e (by rw [q]; exact Nat.beq_refl y)
      simp [h2, ixN_none h1]
theorem zip_lookup {α : Type} {p : Str} : ∀ {ps : List Str} {xs : List α} {j : Nat}, ps.Nodup → ps[j]? = some p → (ps.zip xs).lookup p = xs[j]?
  | [], _, _, _, h => by simp at h
  | q :: r, [], j, _, _ => by simp
  | q :: r, x :: xs, 0, _, h => by simp at h; subst h; simp [List.lookup]
  | q :: r, x :: xs, j + 1, nd, h => by
    simp only [List.nodup_cons] at nd
    have h' : r[j]? = some p := by simpa using h
    have hne : p ≠ q := fun e => nd.1 (e ▸ List.mem_of_getElem? h')
    have hb : (p == q) = false := by simpa using hne
    rw [List.zip_cons_cons, List.lookup, hb]
    simpa using zip_lookup nd.2 h'
theorem zip_lookup_none {α : Type} {p : Str} : ∀ {ps : List Str} {xs : List α}, p ∉ ps → (ps.zip xs).lookup p = none
  | [], _, _ => by simp
  | q :: r, [], _ => by simp
  | q :: r, x :: xs, h => by
    simp only [List.mem_cons, not_or] at h
    have hb : (p == q) = false := by simpa using h.1
    rw [List.zip_cons_cons, List.lookup, hb]
    exact zip_lookup_none h.2
theorem planGo_get {na nd np : Nat} {ks : List Nat} : ∀ {ps : List Nat} {j : Nat} {pl : List (Nat ⊕ Nat)}, planGo na nd np ks j ps = some pl → pl.length = ps.length ∧ ∀ i p, ps[i]? = some p → ∃ q, pl[i]? = some q ∧ plan1 na nd np ks (j + i) p = some q
  | [], j, pl, h => by
    simp only [planGo, Option.some.injEq] at h
    subst h
    exact ⟨rfl, fun i p e => by simp at e⟩
  | p0 :: r, j, pl, h => by
    unfold planGo at h
    split at h
    · rename_i q qs h1 h2
      cases h
      obtain ⟨l, g⟩ := planGo_get h2
      refine ⟨by simp [l], fun i p e => ?_⟩
      cases i with
      | zero => simp at e; subst e; exact ⟨q, rfl, h1⟩
      | succ i =>
        obtain ⟨q', g1, g2⟩ := g i p (by simpa using e)
        exact ⟨q', by simpa using g1, by rw [show j + (i + 1) = j + 1 + i by omega]; exact g2⟩
    · cases h
theorem pickG_get {α : Type} {xs ds : List α} : ∀ {pl : List (Nat ⊕ Nat)} {as : List α}, pickG xs ds pl = some as → as.length = pl.length ∧ ∀ (i : Nat) (q : Nat ⊕ Nat), pl[i]? = some q → ∃ x, as[i]? = some x ∧ (match q with | .inl j => xs[j]? | .inr j => ds[j]?) = some x
  | [], as, h => by
    simp only [pickG, Option.some.injEq] at h
    subst h
    exact ⟨rfl, fun i q e => by simp at e⟩
  | q0 :: r, as, h => by
    unfold pickG at h
    split at h
    · rename_i x rest h1 h2
      cases h
      obtain ⟨l, g⟩ := pickG_get h2
      refine ⟨by simp [l], fun i q e => ?_⟩
      cases i with
      | zero => simp at e; subst e; exact ⟨x, rfl, h1⟩
      | succ i =>
        obtain ⟨x', g1, g2⟩ := g i q (by simpa using e)
        exact ⟨x', by simpa using g1, g2⟩
    · cases h
theorem pickG_rel {α β : Type} {R : α → β → Prop} {xs ds : List α} {ys es : List β} (h1 : ∀ (i : Nat) x, xs[i]? = some x → ∃ y, ys[i]? = some y ∧ R x y) (h2 : ∀ (i : Nat) x, ds[i]? = some x → ∃ y, es[i]? = some y ∧ R x y) :
    ∀ {pl : List (Nat ⊕ Nat)} {as : List α}, pickG xs ds pl = some as → ∃ bs, pickG ys es pl = some bs ∧ bs.length = as.length ∧ ∀ (i : Nat) x, as[i]? = some x → ∃ y, bs[i]? = some y ∧ R x y
  | [], as, h => by
    simp only [pickG, Option.some.injEq] at h
    subst h
    exact ⟨[], rfl, rfl, fun i x e => by simp at e⟩
  | q0 :: r, as, h => by
    unfold pickG at h
    split at h
    · rename_i x rest g1 g2
      cases h
      obtain ⟨bs, b1, b2, b3⟩ := pickG_rel h1 h2 g2
      obtain ⟨y, y1, y2⟩ : ∃ y, (match q0 with | .inl i => ys[i]? | .inr i => es[i]?) = some y ∧ R x y := by
        cases q0 with
        | inl i => exact h1 i x g1
        | inr i => exact h2 i x g1
      refine ⟨y :: bs, by cases q0 <;> (dsimp only at y1; unfold pickG; dsimp only; rw [y1, b1]), by simp [b2], fun i x' e => ?_⟩
      cases i with
      | zero => simp at e; subst e; exact ⟨y, rfl, y2⟩
      | succ i =>
        obtain ⟨y', z1, z2⟩ := b3 i x' (by simpa using e)
        exact ⟨y', by simpa using z1, z2⟩
    · cases h
theorem vals_of : ∀ {vs : List V} {us : List Value}, us.length = vs.length → (∀ (i : Nat) v, vs[i]? = some v → ∃ u, us[i]? = some u ∧ RelV v u) → Vals vs us
  | [], [], _, _ => .nil
  | [], _ :: _, h, _ => by simp at h
  | _ :: _, [], h, _ => by simp at h
  | v :: vs, u :: us, h, g => by
    obtain ⟨u', e, r⟩ := g 0 v rfl
    cases e
    exact .cons r (vals_of (by simpa using h) fun i v e => by simpa using g (i + 1) v (by simpa using e))
theorem reps_of {T : Tb} {F : Hp} {m : At} : ∀ {ds : List D} {vs : List V}, vs.length = ds.length → (∀ (i : Nat) d, ds[i]? = some d → ∃ v, vs[i]? = some v ∧ Rep T F m v d) → Reps T F m vs ds
  | [], [], _, _ => .nil
  | [], _ :: _, h, _ => by simp at h
  | _ :: _, [], h, _ => by simp at h
  | v :: vs, u :: us, h, g => by
    obtain ⟨u', e, r⟩ := g 0 v rfl
    cases e
    exact .cons r (reps_of (by simpa using h) fun i v e => by simpa using g (i + 1) v (by simpa using e))
theorem filterMap_zip {L : Str → Option Value} : ∀ {ps : List Str} {as : List Value}, as.length = ps.length → (∀ (j : Nat) p, ps[j]? = some p → L p = as[j]?) → (ps.filterMap fun n => (L n).map (n, ·)) = ps.zip as
  | [], [], _, _ => rfl
  | [], _ :: _, h, _ => by simp at h
  | _ :: _, [], h, _ => by simp at h
  | p :: ps, a :: as, h, g => by
    have h0 : L p = some a := g 0 p rfl
    rw [List.filterMap_cons, h0]
    show (p, a) :: _ = _
    rw [filterMap_zip (by simpa using h) fun j q e => by simpa using g (j + 1) q (by simpa using e)]
    rfl
theorem nodup_of_nid {l : List Str} (h : (l.map nid).Nodup) : l.Nodup := by
  rw [List.Nodup, List.pairwise_map] at h
  exact h.imp fun h e => h (by rw [e])
theorem mem_nid {l : List Str} {x : Str} (hl : ∀ y ∈ l, okN y = true) (hx : okN x = true) (h : nid x ∈ l.map nid) : x ∈ l := by
  obtain ⟨y, hy, e⟩ := List.mem_map.mp h
  rw [nid_inj hx (hl y hy) e.symm]; exact hy
/-- how such a def binds -/
theorem binds_plan {K : PySem.W.Frag} {fd : FuncData} {ps ks : List Str} {its : List Value} (S : Simple fd.params ps) (okp : ∀ x ∈ ps, okN x = true) (okk : ∀ x ∈ ks, okN x = true)
    (hd : (its = [] ∧ fd.defaults = .none) ∨ ∃ (Ta : Addr) (o : Obj) (n : Nat), fd.defaults = .ref Ta ∧ K.lookup Ta = some o ∧ o.data = .seq its.toArray n)
    {us ws as : List Value} (hw : ws.length = ks.length) {pl : List (Nat ⊕ Nat)} (hp : plan (ps.map nid) its.length us.length (ks.map nid) = some pl) (ha : pickG (us ++ ws) its pl = some as) {s : Shared} (X : K.In s.heap) :
    BindsTo s fd ⟨us, ks.zip ws⟩ (ps.zip as) ∧ as.length = ps.length := by
  unfold plan at hp
  split at hp
  · rename_i hg
    simp only [Bool.and_eq_true, List.length_map] at hg
    obtain ⟨⟨⟨⟨g1, g2⟩, g3⟩, g4⟩, g5⟩ := hg
    have g1 := Nat.le_of_ble_eq_true g1
    have g2 := Nat.le_of_ble_eq_true g2
    have ndp := nodup_of_nid (nodupB_nodup g3)
    have ndk := nodup_of_nid (nodupB_nodup g4)
    rw [List.length_map] at hp
    obtain ⟨l1, hpl⟩ := planGo_get hp
    obtain ⟨l2, hpk⟩ := pickG_get ha
    rw [List.length_map] at l1
    have hin : ∀ k ∈ ks, k ∈ ps.drop us.length := fun k hk => by
      have := List.all_eq_true.mp g5 (nid k) (List.mem_map.mpr ⟨k, hk, rfl⟩)
      rw [← List.map_drop] at this
      exact mem_nid (fun y hy => okp y (List.mem_of_mem_drop hy)) (okk k hk) (by simpa using this)
    have hout : ∀ k ∈ ks, (ps.zip us).lookup k = none := fun k hk => by
      obtain ⟨j, hj⟩ := List.getElem?_of_mem (hin k hk)
      rw [List.getElem?_drop] at hj
      rw [zip_lookup ndp hj]
      simp
    have hks : (ks.zip ws).map (·.1) = ks := by rw [List.map_fst_zip]; omega
    -- what each parameter gets
    have each : ∀ (j : Nat) p, ps[j]? = some p → ∃ a, as[j]? = some a ∧ ((ps.zip us ++ ks.zip ws).lookup p).or (((ps.drop (ps.length - its.length)).zip its).lookup p) = some a ∧ (j < ps.length - its.length → (ps.zip us ++ ks.zip ws).lookup p ≠ none) := fun j p e => by
      obtain ⟨q, q1, q2⟩ := hpl j (nid p) (by rw [List.getElem?_map, e]; rfl)
      obtain ⟨a, a1, a2⟩ := hpk j q q1
      rw [Nat.zero_add] at q2
      refine ⟨a, a1, ?_⟩
      rw [List.lookup_append, zip_lookup ndp e]
      have hlt : j < ps.length := by
        rcases Nat.lt_or_ge j ps.length with h | h
        · exact h
        · rw [List.getElem?_eq_none h] at e; cases e
      unfold plan1 at q2
      split at q2
      · rename_i hj
        have hj := Nat.blt_eq.mp hj
        cases q2
        dsimp only at a2
        rw [List.getElem?_append_left hj] at a2
        rw [a2]
        exact ⟨rfl, fun _ => by simp⟩
      · rename_i hj
        have hj : us.length ≤ j := by
          rcases Nat.lt_or_ge j us.length with h | h
          · exact absurd (Nat.blt_eq.mpr h) hj
          · exact h
        rw [List.getElem?_eq_none hj]
        split at q2
        · rename_i i hi
          cases q2
          dsimp only at a2
          have hk := ixN_some hi
          rw [List.getElem?_map] at hk
          obtain ⟨k, k1, k2⟩ := Option.map_eq_some_iff.mp hk
          obtain rfl : k = p := nid_inj (okk k (List.mem_of_getElem? k1)) (okp p (List.mem_of_getElem? e)) k2
          rw [List.getElem?_append_right (by omega), show us.length + i - us.length = i by omega] at a2
          rw [zip_lookup ndk k1, a2]
          exact ⟨rfl, fun _ => by simp⟩
        · rename_i hi
          split at q2
          · rename_i hle
            have hle := Nat.le_of_ble_eq_true hle
            cases q2
            dsimp only at a2
            have hnot : p ∉ ks := fun hm => ixN_none hi (List.mem_map.mpr ⟨p, hm, rfl⟩)
            rw [zip_lookup_none hnot]
            have e2 : (ps.drop (ps.length - its.length))[j + its.length - ps.length]? = some p := by
              rw [List.getElem?_drop, show ps.length - its.length + (j + its.length - ps.length) = j by omega]; exact e
            rw [zip_lookup (ndp.sublist (List.drop_sublist _ _)) e2, a2]
            exact ⟨rfl, fun h => by omega⟩
          · cases q2
    obtain ⟨k, e1, e2⟩ := bind_simple S (us := us) (kw := ks.zip ws) (its := its) g1
      (fun x hx => by
        have hx1 : x.1 ∈ ks := by rw [← hks]; exact List.mem_map.mpr ⟨x, hx, rfl⟩
        simpa using List.mem_of_mem_drop (hin x.1 hx1))
      (by rw [hks]; exact ndk)
      (fun x hx => hout x.1 (by rw [← hks]; exact List.mem_map.mpr ⟨x, hx, rfl⟩)) g2
      (fun n hn => by
        obtain ⟨j, hj⟩ := List.getElem?_of_mem hn
        have hlt : j < ps.length - its.length := by
          rcases Nat.lt_or_ge j (ps.take (ps.length - its.length)).length with h | h
          · rw [List.length_take] at h; omega
          · rw [List.getElem?_eq_none h] at hj; cases hj
        rw [List.getElem?_take_of_lt hlt] at hj
        obtain ⟨a, _, _, h⟩ := each j n hj
        exact h hlt)
    have fin : (ps.filterMap fun n => ((fillD (ps.zip us ++ ks.zip ws) ((ps.drop (ps.length - its.length)).zip its)).lookup n).map (n, ·)) = ps.zip as :=
      filterMap_zip (by omega) fun j p e => by
        obtain ⟨a, a1, a2, _⟩ := each j p e
        rw [fillD_lookup, a2, a1]
    refine ⟨?_, by omega⟩
    refine BindsTo.of_looks fun M => ?_
    rw [e1]
    rcases hd with ⟨rfl, h0⟩ | ⟨Ta, o, n, h0, h1, h2⟩
    · rw [h0]
      have : seqItems? .none >>= k = k none := rfl
      rw [this]
      exact PySem.W.Looks.of_pure ((e2 none rfl).trans (congrArg _ fin))
    · rw [h0]
      exact looks_items X h1 h2 (.of_pure ((e2 (some its.toArray) rfl).trans (congrArg _ fin)))
  · cases hp
end Gs
/-! GsS6: calls of defs, methods, classes. -/
namespace Gs
open PySem PySem.Spec L2
section
variable {X : Cx} {T : Tb} {W : WX} {a b c e o : Expr} {fa fb fc f : Ex} {p pos apos : Pos} {es : List Expr} {kws : List Keyword}
/-- what a def promises -/
def spD (T : Tb) (np : Nat) (g : List D → M D) : Sp := fun vs H Q E => vs.length = np ∧ ∃ P F m μ ds, Rel (T.wp P) F m μ H ∧ Reps (T.wp P) F m vs ds ∧ Post (T.wp P) (RD (T.wp P)) F m (g ds μ) Q (fun C dx H' => E (.ref C) (some dx) H')
/-- a def of the text that keeps its promise -/
structure FnX (X : Cx) (T : Tb) (k : Nat) (g : List D → M D) (fa : Addr) (ps : List Nat) (dfl : List D) : Prop where
  ex : ∃ (fd : FuncData) (ps' : List Str) (its : List Value) (dvs : List V), ps'.map nid = ps ∧ (∀ x ∈ ps', okN x = true) ∧ Simple fd.params ps' ∧ FnOk X.prog X.w X.K X.mg X.base (L2.CX X.prog X.w) k fa fd ps' (spD T ps.length g) ∧
    ((its = [] ∧ fd.defaults = .none) ∨ ∃ (Ta : Addr) (o : Obj) (n : Nat), fd.defaults = .ref Ta ∧ X.K.lookup Ta = some o ∧ o.data = .seq its.toArray n) ∧ Vals dvs its ∧ ∀ F m, Reps T F m dvs dfl
  kp : PySem.W.keepIn X.K (.ref fa) = true

/-! ### argument lists with keywords -/
def rdK (T : Tb) (W : WX) (f : Exs) : TA := rdA T W f
theorem _root_.L2.PK.imp {X : Cx} {kws : List Keyword} {t t' : TA} (h : PK X kws t) (k : ∀ σ H Q, t' σ H Q → t σ H Q) : PK X kws t' := ⟨fun pos pins s σ H Q I hw => h.run pos pins s σ H Q I (k σ H Q hw)⟩
theorem k_nil : PK X [] (rdA T W esNil) := pk_nil.imp fun σ H Q ⟨F, m, μ, ρ, rl, en, p⟩ => p _ _ _ _ Sub.refl rl .nil
theorem k_cons {nm : Option Str} {kpos : Pos} {g : Exs} (h : PE X a (rdE T W fa)) (h2 : PK X kws (rdA T W g)) : PK X (⟨nm, a, kpos⟩ :: kws) (rdA T W (esCons fa g)) := (pk_cons h h2).imp fun σ H Q ⟨F, m, μ, ρ, rl, en, p⟩ =>
  ⟨F, m, μ, ρ, rl, en, Post.bind p fun v H1 F1 m1 x μ1 s1 r1 h1 p1 => ⟨F1, m1, μ1, ρ, r1, en.up s1, Post.bind p1 fun vs H2 F2 m2 xs μ2 s2 r2 h2 p2 => p2 _ _ _ _ Sub.refl r2 (.cons (h1.up s2) h2)⟩⟩
theorem kw_all {g : Expr → Ex} : ∀ {kws : List Keyword}, (∀ k ∈ kws, PE X k.value (rdE T W (g k.value))) → PK X kws (rdA T W (esL (kws.map fun k => g k.value)))
  | [], _ => k_nil
  | ⟨nm, v, kp⟩ :: r, h => k_cons (h ⟨nm, v, kp⟩ (by simp)) (kw_all fun k hk => h k (List.mem_cons_of_mem _ hk))
/-- the keywords' names -/
theorem kw_names : ∀ {kws : List Keyword} {ks : List Nat}, kwNames kws = some ks → ∃ ks' : List Str, kws.map (·.arg) = ks'.map some ∧ ks'.map nid = ks ∧ ∀ x ∈ ks', okN x = true
  | [], ks, h => by
    simp only [kwNames, Option.some.injEq] at h
    subst h
    exact ⟨[], rfl, rfl, by simp⟩
  | k :: r, ks, h => by
    unfold kwNames at h
    split at h
    · rename_i a ks0 h1 h2
      split at h
      · rename_i ho
        cases h
        obtain ⟨ks', e1, e2, e3⟩ := kw_names h2
        refine ⟨a :: ks', by simp [h1, e1], by simp [e2], fun x hx => ?_⟩
        rcases List.mem_cons.mp hx with rfl | hx
        · exact ho
        · exact e3 x hx
      · cases h
    · cases h
theorem kw_each {env : PySem.Env} : ∀ {kws : List Keyword} {ks' : List Str}, kws.map (·.arg) = ks'.map some → (backToKw pos (keywordEach kws env)).all (·.1.isSome) = true ∧ (backToKw pos (keywordEach kws env)).filterMap (·.1) = ks' ∧ (backToKw pos (keywordEach kws env)).any (·.1.isNone) = false
  | [], ks', h => by
    cases ks' with
    | nil => exact ⟨rfl, rfl, rfl⟩
    | cons _ _ => simp at h
  | ⟨nm, v, kp⟩ :: r, ks', h => by
    cases ks' with
    | nil => simp at h
    | cons k ks' =>
      simp only [List.map_cons, List.cons.injEq] at h
      obtain ⟨h1, h2⟩ := h
      subst h1
      obtain ⟨e1, e2, e3⟩ := kw_each (env := env) h2
      have : backToKw pos (keywordEach (⟨some k, v, kp⟩ :: r) env) = (some k, do let v ← eval v env; standAt pos; pure v) :: backToKw pos (keywordEach r env) := rfl
      rw [this]
      refine ⟨by simpa using e1, by simpa using e2, by simpa using e3⟩
theorem Post.bindE {α α' β β' : Type} {RA : Hp → At → Hp → β → α → Prop} {RB : Hp → At → Hp → β' → α' → Prop} {F : Hp} {m : At} {Q : β → Hp → Prop} {E : WK} {y : M α} {f : α → M α'} {Q2 : β' → Hp → Prop} {μ : Mu} (h : Post T RB F m (M.bind y f μ) Q2 E)
    (k : ∀ b H' F' m' a μ', y μ = .ok a μ' → Sub F m F' m' → Rel T F' m' μ' H' → RA F' m' H' b a → Post T RB F' m' (f a μ') Q2 E → Q b H') : Post T RA F m (y μ) Q E := by
  unfold M.bind at h
  cases e : y μ with
  | ok a μ' =>
    rw [e] at h
    exact fun b H' F2 m2 s r ra => k b H' F2 m2 a μ' e s r ra (Post.up s h)
  | exc c fs μ' =>
    rw [e] at h
    exact h
  | stuck =>
    rw [e] at h
    exact h
/-- as many values as expressions -/
def LenIs (A : Exs) (n : Nat) : Prop := ∀ ρ μ ds μ', A ρ μ = .ok ds μ' → ds.length = n
theorem len_esL : ∀ l : List Ex, LenIs (esL l) l.length
  | [], ρ, μ, ds, μ', h => by cases h; rfl
  | e :: r, ρ, μ, ds, μ', h => by
    unfold esL esCons M.bind at h
    split at h
    · rename_i a m1 h1
      dsimp only at h
      split at h
      · rename_i as m2 h2
        cases h
        simp [len_esL r _ _ _ _ h2]
      · cases h
      · cases h
    · cases h
    · cases h
/-- a call's arguments, then the call -/
theorem call_go {α β : Type} {RB : Hp → At → Hp → β → α → Prop} {fv : Value} {first : List Value} {A B : Exs} {ks' : List Str} {k : List D → List D → M α} {pins : List (Addr × Obj)} {σ : L2.St} {H : Hp} {s : Shared} {F : Hp} {m : At} {μ : Mu} {ρ : Env} {Q : VK} {Q' : β → Hp → Prop}
    (hk : PySem.W.keepIn X.K fv = true) (ha : PA X es (rdA T W A)) (hs : es.any isStar = false) (hA : es = [] → A = esNil) (hb : PK X kws (rdA T W B)) (hn : kws.map (·.arg) = ks'.map some) (lA : LenIs A es.length) (lB : LenIs B kws.length)
    (I : Inv X pins σ H s) (rl : Rel T F m μ H) (en : EnvR T F m σ ρ) (pp : Post T RB F m (((A ρ).bind fun ds => (B ρ).bind fun es => k ds es) μ) Q' (fun C dx H' => W (.ref C) (some dx) σ H'))
    (hf : ∀ s2 H2 F2 m2 μ2 us ws vs zs ds es', ds.length = es.length → es'.length = kws.length → Inv X pins σ H2 s2 → Vals vs us → Vals zs ws → Rel T F2 m2 μ2 H2 → Reps T F2 m2 vs ds → Reps T F2 m2 zs es' → Sub F m F2 m2 → EnvR T F2 m2 σ ρ → Post T RB F2 m2 (k ds es' μ2) Q' (fun C dx H' => W (.ref C) (some dx) σ H') →
      wpAny (model X.prog X.w) X.A (call fv (first ++ us) (ks'.zip ws)) (EP X pins σ Q) X.xe s2) :
    wpAny (model X.prog X.w) X.A (callWith pos fv first (backTo pos (starEach es X.env)) (backToKw pos (keywordEach kws X.env))) (EP X pins σ Q) X.xe s := by
  obtain ⟨k1, k2, k3⟩ := kw_each (pos := pos) (env := X.env) hn
  have pl : ((backTo pos (starEach es X.env)).any (·.1) || (backToKw pos (keywordEach kws X.env)).any (·.1.isNone)) = false := by rw [star_any hs, k3]; rfl
  have inner : ∀ {H1 : Hp} {s1 : Shared} {F1 : Hp} {m1 : At} {μ1 : Mu} {us : List Value} {vs : List V} {ds : List D}, ds.length = es.length → Inv X pins σ H1 s1 → Vals vs us → Rel T F1 m1 μ1 H1 → Reps T F1 m1 vs ds → Sub F m F1 m1 → Post T RB F1 m1 (((B ρ).bind fun es => k ds es) μ1) Q' (fun C dx H' => W (.ref C) (some dx) σ H') →
      wpAny (model X.prog X.w) X.A (evalAll ((backToKw pos (keywordEach kws X.env)).map (·.2))) (fun ws s2 => X.K.In s2.heap ∧ wpAny (model X.prog X.w) X.A (call fv (first ++ us) (((backToKw pos (keywordEach kws X.env)).filterMap (·.1)).zip ws)) (EP X pins σ Q) X.xe s2) X.xe s1 :=
    fun {H1 s1 F1 m1 μ1 us vs ds} ld I1 rv r1 t1 s1' p1 => by
      refine thn (hb.run pos pins s1 σ H1 (fun zs H2 => ∃ F2 m2 μ2 es, es.length = kws.length ∧ Rel T F2 m2 μ2 H2 ∧ Reps T F2 m2 vs ds ∧ Reps T F2 m2 zs es ∧ Sub F m F2 m2 ∧ Post T RB F2 m2 (k ds es μ2) Q' (fun C dx H' => W (.ref C) (some dx) σ H')) I1
        ⟨F1, m1, μ1, ρ, r1, en.up s1', Post.bindE p1 fun zs H2 F2 m2 es μ2 ee s2 r2 h2 p2 => ⟨F2, m2, μ2, es, lB _ _ _ _ ee, r2, t1.up s2, h2, s1'.trans s2, p2⟩⟩) fun ws s2 ⟨zs, H2, I2, rz, F2, m2, μ2, es', le, r2, t2, h2, sb, p2⟩ => ⟨I2.kIn, ?_⟩
      rw [k2]
      exact hf s2 H2 F2 m2 μ2 us ws vs zs ds es' ld le I2 rv rz r2 t2 h2 sb (en.up sb) p2
  cases es with
  | nil =>
    refine PySem.W.callWith_KW0 (h₀ := X.base) I.ok.mod.kin hk k1 ?_ pl
    rw [hA rfl] at pp
    exact inner (us := []) (vs := []) (ds := []) rfl I .nil rl .nil Sub.refl pp
  | cons e r =>
    have hs' := hs
    simp only [List.any_cons, Bool.or_eq_false_iff] at hs'
    refine PySem.W.callWith_KW (h₀ := X.base) I.ok.mod.kin hk k1 (thn (ha.run pos pins s σ H (fun vs H1 => ∃ F1 m1 μ1 ds, ds.length = (e :: r).length ∧ Rel T F1 m1 μ1 H1 ∧ Reps T F1 m1 vs ds ∧ Sub F m F1 m1 ∧ Post T RB F1 m1 (((B ρ).bind fun es => k ds es) μ1) Q' (fun C dx H' => W (.ref C) (some dx) σ H')) I
      ⟨F, m, μ, ρ, rl, en, Post.bindE pp fun vs H1 F1 m1 ds μ1 ee s1 r1 h1 p1 => ⟨F1, m1, μ1, ds, lA _ _ _ _ ee, r1, h1, s1, p1⟩⟩) fun us s1 ⟨vs, H1, I1, rv, F1, m1, μ1, ds, ld, r1, t1, sb, p1⟩ => inner ld I1 rv r1 t1 sb p1) pl (star_eq hs'.1)
/-- the callee runs -/
theorem run_any {g : List D → M D} {fa : Addr} {fd : FuncData} {ps : List Str} {np k : Nat} {pins : List (Addr × Obj)} {σ : L2.St} {H : Hp} {s : Shared} {Q : VK} {us as : List Value} {kw : List (Str × Value)} {zs : List V} {F : Hp} {m : At} {μ : Mu} {ds : List D}
    (Fo : FnOk X.prog X.w X.K X.mg X.base (L2.CX X.prog X.w) k fa fd ps (spD T np g)) (hr : Room k X.A) (tk : Takes X W) (I : Inv X pins σ H s) (hb : BindsTo s fd ⟨us, kw⟩ (ps.zip as)) (rv : Vals zs as) (hl : zs.length = np)
    (rl : Rel T F m μ H) (r : Reps T F m zs ds) (pp : Post T (RD T) F m (g ds μ) Q (fun C dx H' => W (.ref C) (some dx) σ H')) : wpAny (model X.prog X.w) X.A (call (.ref fa) us kw) (EP X pins σ Q) X.xe s := by
  refine wpAny_call (codeAny_mono (Fo.run X.A X.stack s H ⟨us, kw⟩ as zs Q (WE W σ) hr I.env0 hb rv ⟨hl, T.p, F, m, μ, ds, rl, r, pp⟩) fun r s' hq => ?_)
  cases r with
  | error e => exact passAt tk σ pins H s e s' I hq
  | ok fl =>
    cases fl with
    | ret u => exact I.after hq
    | next => exact False.elim hq
    | brk => exact False.elim hq
    | cont => exact False.elim hq
/-- the arguments by a plan -/
theorem plan_run {g : List D → M D} {fa : Addr} {ps ks : List Nat} {dfl : List D} {ks' : List Str} {k : Nat} {pins : List (Addr × Obj)} {σ : L2.St} {H : Hp} {s : Shared} {Q : VK} {us ws : List Value} {vs zs : List V} {F : Hp} {m : At} {μ : Mu} {ds es : List D} {pl : List (Nat ⊕ Nat)}
    (Fx : FnX X T k g fa ps dfl) (hr : Room k X.A) (tk : Takes X W) (I : Inv X pins σ H s) (rv : Vals vs us) (rz : Vals zs ws) (rl : Rel T F m μ H) (r1 : Reps T F m vs ds) (r2 : Reps T F m zs es)
    (hk : ks'.map nid = ks) (okk : ∀ x ∈ ks', okN x = true) (hz : zs.length = ks.length) (hp : plan ps dfl.length vs.length ks = some pl)
    (pp : Post T (RD T) F m (((M.opt (pickG (ds ++ es) dfl pl)).bind g) μ) Q (fun C dx H' => W (.ref C) (some dx) σ H')) : wpAny (model X.prog X.w) X.A (call (.ref fa) us (ks'.zip ws)) (EP X pins σ Q) X.xe s := by
  obtain ⟨fd, ps', its, dvs, e1, okp, S, Fo, hd, rd, rr⟩ := Fx.ex
  obtain ⟨bs, eb, pp⟩ := Post.optBind pp
  have lw : ws.length = ks'.length := by rw [← rz.length, hz, ← hk, List.length_map]
  have li : its.length = dfl.length := by rw [← rd.length, (rr F m).length]
  obtain ⟨zs', f1, f2, f3⟩ := pickG_rel (R := fun d v => Rep T F m v d) (ys := vs ++ zs) (es := dvs) (fun i d e => (r1.append r2).get e) (fun i d e => (rr F m).get e) eb
  obtain ⟨as, g1, g2, g3⟩ := pickG_rel (R := fun v u => RelV v u) (ys := us ++ ws) (es := its) (fun i v e => (rv.append rz).get e) (fun i v e => rd.get e) f1
  subst e1 hk
  obtain ⟨b1, b2⟩ := binds_plan S okp okk hd lw (by rw [li, ← rv.length]; exact hp) g1 I.kIn
  exact run_any Fo hr tk I b1 (vals_of g2 g3) (by rw [← g2, b2, List.length_map]) rl (reps_of f2 f3) pp
theorem plan_bind {α : Type} {pl : List (Nat ⊕ Nat)} {dfl : List D} {A B : Exs} {ρ : Env} {g : List D → M α} : (esP pl dfl A B ρ).bind g = (A ρ).bind fun ds => (B ρ).bind fun es => (M.opt (pickG (ds ++ es) dfl pl)).bind g := by
  funext μ
  unfold esP M.bind
  cases A ρ μ with
  | ok ds m1 =>
    dsimp only
    cases B ρ m1 <;> rfl
  | exc c fs m1 => rfl
  | stuck => rfl
/-- f(e, .., k = v, ..) -/
theorem s_call {x : Str} {g : List D → M D} {fa : Addr} {ps ks : List Nat} {dfl : List D} {k : Nat} {A B : Exs} {pl : List (Nat ⊕ Nat)} (hx : okN x = true) (hg : Gl X x) (hm : X.mg x = some (.ref fa)) (Fx : FnX X T k g fa ps dfl) (hr : Room k X.A) (tk : Takes X W)
    (ha : PA X es (rdA T W A)) (hs : es.any isStar = false) (hA : es = [] → A = esNil) (hb : PK X kws (rdA T W B)) (hn : kwNames kws = some ks) (lA : LenIs A es.length) (lB : LenIs B kws.length)
    (hp : plan ps dfl.length es.length ks = some pl) : PE X (.Call (.Name x p) es kws pos) (rdE T W (fun ρ => (esP pl dfl A B ρ).bind g)) := by
  refine ⟨fun pins s σ H Q I ⟨F, m, μ, ρ, rl, en, pp⟩ => ?_⟩
  obtain ⟨ks', n1, n2, n3⟩ := kw_names hn
  refine wpAny_Call_Name_kw (ld_glob I hg hm ?_ (okN_debug hx))
  dsimp only at pp
  rw [plan_bind] at pp
  refine call_go (first := []) Fx.kp ha hs hA hb n1 lA lB I rl en pp fun s2 H2 F2 m2 μ2 us ws vs zs ds es' ld le I2 rv rz r2 t1 t2 sb en2 p2 => ?_
  have hk : ks.length = kws.length := by
    have h1 := congrArg List.length n1
    have h2 := congrArg List.length n2
    simp only [List.length_map] at h1 h2
    omega
  exact plan_run Fx hr tk I2 rv rz r2 t1 t2 n2 n3 (by rw [t2.length, le, hk]) (by rw [t1.length, ld]; exact hp) p2
/-- an instance, new -/
theorem make_run {run : Run} {c k : Nat} {Ca fi : Addr} {ps ks : List Nat} {dfl : List D} {ks' : List Str} {pins : List (Addr × Obj)} {σ : L2.St} {H : Hp} {s : Shared} {Q : VK} {us ws : List Value} {vs zs : List V} {F : Hp} {m : At} {μ : Mu} {ds es : List D} {pl : List (Nat ⊕ Nat)}
    (hK : X.K = T.K) (M : Mk X.K Ca fi) (hc : T.cl c = some Ca) (ok : InsC T.K Ca) (Fx : FnX X T k (run c m_init) fi ps dfl) (hr : Room (k + 1) X.A) (tk : Takes X W) (I : Inv X pins σ H s) (rv : Vals vs us) (rz : Vals zs ws) (rl : Rel T F m μ H) (r1 : Reps T F m vs ds) (r2 : Reps T F m zs es)
    (hk : ks'.map nid = ks) (okk : ∀ x ∈ ks', okN x = true) (hz : zs.length = ks.length) (hp : plan ps dfl.length (vs.length + 1) ks = some pl)
    (pp : Post T (RD T) F m (newK run c pl dfl ds es μ) Q (fun C dx H' => W (.ref C) (some dx) σ H')) : wpAny (model X.prog X.w) X.A (call (.ref Ca) us (ks'.zip ws)) (EP X pins σ Q) X.xe s := by
  obtain ⟨fd, ps', its, dvs, e1, okp, S, Fo, hd, rd, rr⟩ := Fx.ex
  have h1 : H s.heap.objs.size = none := I.hok.fresh (Nat.le_refl _)
  have h2 : H (s.heap.objs.size + 1) = none := I.hok.fresh (Nat.le_succ _)
  have hne : s.heap.objs.size + 1 ≠ s.heap.objs.size := Nat.succ_ne_self _
  have I2 := Inv.made (C := Ca) I
  have rla := rl.addH (o := .own (s.heap.objs.size + 1)) h1
  have h2' : upd H s.heap.objs.size (.own (s.heap.objs.size + 1)) (s.heap.objs.size + 1) = none := by rw [upd_ne hne]; exact h2
  have rlb := rla.addH (o := .ins Ca s.heap.objs.size []) h2'
  have rlc := rlb.newC (c := .ins c []) upd_same (rl.noM h2) (rl.noP h2) (.ins (rl.noF h2) hc upd_same ⟨ok, by simp⟩ .nil)
  have sb : Sub F m F (addM m μ.nx (s.heap.objs.size + 1)) := Sub.addM rl
  unfold newK at pp
  split at pp
  · rename_i bs eb
    have lw : ws.length = ks'.length := by rw [← rz.length, hz, ← hk, List.length_map]
    have li : its.length = dfl.length := by rw [← rd.length, (rr F m).length]
    have rs1 : Reps T F (addM m μ.nx (s.heap.objs.size + 1)) (.ref (s.heap.objs.size + 1) :: vs ++ zs) (.ref μ.nx :: ds ++ es) := Reps.append (.cons (.ref updM_same) (r1.up sb)) (r2.up sb)
    have rv1 : Vals (.ref (s.heap.objs.size + 1) :: vs) (.ref (s.heap.objs.size + 1) :: us) := .cons rfl rv
    obtain ⟨zs', f1, f2, f3⟩ := pickG_rel (R := fun d v => Rep T F (addM m μ.nx (s.heap.objs.size + 1)) v d) (ys := .ref (s.heap.objs.size + 1) :: vs ++ zs) (es := dvs) (fun i d e => rs1.get e) (fun i d e => (rr _ _).get e) eb
    obtain ⟨as, g1, g2, g3⟩ := pickG_rel (R := fun v u => RelV v u) (ys := .ref (s.heap.objs.size + 1) :: us ++ ws) (es := its) (fun i v e => (rv1.append rz).get e) (fun i v e => rd.get e) f1
    subst e1 hk
    obtain ⟨b1, b2⟩ := binds_plan S okp okk hd lw (by rw [li, ← rv1.length]; exact hp) g1 I2.kIn
    have hq : spD T (ps'.map nid).length (run c m_init) zs' (upd (upd H s.heap.objs.size (.own (s.heap.objs.size + 1))) (s.heap.objs.size + 1) (.ins Ca s.heap.objs.size [])) (fun v H2 => v = .non ∧ Q (.ref (s.heap.objs.size + 1)) H2) (WE W σ) := by
      refine ⟨by rw [← g2, b2, List.length_map], T.p, F, _, _, bs, rlc, reps_of f2 f3, ?_⟩
      cases q : run c m_init bs (μ.new (.ins c [])) with
      | ok d μ' =>
        rw [q] at pp
        cases d with
        | non => exact fun v H' F' m' s' r' rv' => ⟨rv'.vNon, pp _ _ _ _ (sb.trans s') r' (.ref (s'.m _ _ updM_same))⟩
        | _ => exact pp.elim
      | exc c' fs μ' =>
        rw [q] at pp
        exact fun C dx fvs H' F' m' s' r' a b c d e => pp C dx fvs H' F' m' (sb.trans s') r' a b c d e
      | stuck => rw [q] at pp; exact pp.elim
    refine wpAny_call (make_map (f := fi) I.kIn M.makes M.init (beq_iff_eq.mp M.fn) (codeAny_mono (Fo.run _ X.stack _ _ ⟨Value.ref (s.heap.objs.size + 1) :: us, ks'.zip ws⟩ as zs' _ (WE W σ) (hr.make Ca us (ks'.zip ws))
      (I2.env0.make Ca us (ks'.zip ws)) b1 (vals_of g2 g3) hq) fun r s' hq' => ?_))
    cases r with
    | error e => exact passAt tk σ pins _ _ e s' I2 hq'
    | ok fl =>
      cases fl with
      | ret u =>
        obtain ⟨v, H', I3, rv, ev, q3⟩ := I2.after hq'
        subst ev
        exact ⟨rv, ⟨V.ref (s.heap.objs.size + 1), H', I3, rfl, q3⟩⟩
      | next => exact False.elim hq'
      | brk => exact False.elim hq'
      | cont => exact False.elim hq'
  · exact pp.elim
/-- C(e, .., k = v, ..) -/
theorem s_make {x : Str} {run : Run} {c k : Nat} {Ca fi : Addr} {ps ks : List Nat} {dfl : List D} {A B : Exs} {pl : List (Nat ⊕ Nat)} (hx : okN x = true) (hg : Gl X x) (hm : X.mg x = some (.ref Ca)) (hK : X.K = T.K) (M : Mk X.K Ca fi) (hc : T.cl c = some Ca) (ok : InsC T.K Ca)
    (Fx : FnX X T k (run c m_init) fi ps dfl) (hr : Room (k + 1) X.A) (tk : Takes X W)
    (ha : PA X es (rdA T W A)) (hs : es.any isStar = false) (hA : es = [] → A = esNil) (hb : PK X kws (rdA T W B)) (hn : kwNames kws = some ks) (lA : LenIs A es.length) (lB : LenIs B kws.length)
    (hp : plan ps dfl.length (es.length + 1) ks = some pl) : PE X (.Call (.Name x p) es kws pos) (rdE T W (eNew run c pl dfl A B)) := by
  refine ⟨fun pins s σ H Q I ⟨F, m, μ, ρ, rl, en, pp⟩ => ?_⟩
  obtain ⟨ks', n1, n2, n3⟩ := kw_names hn
  refine wpAny_Call_Name_kw (ld_glob I hg hm ?_ (okN_debug hx))
  refine call_go (first := []) M.kp ha hs hA hb n1 lA lB I rl en pp fun s2 H2 F2 m2 μ2 us ws vs zs ds es' ld le I2 rv rz r2 t1 t2 sb en2 p2 => ?_
  have hk : ks.length = kws.length := by
    have h1 := congrArg List.length n1
    have h2 := congrArg List.length n2
    simp only [List.length_map] at h1 h2
    omega
  exact make_run hK M hc ok Fx hr tk I2 rv rz r2 t1 t2 n2 n3 (by rw [t2.length, le, hk]) (by rw [t1.length, ld]; exact hp) p2
/-- what was made is frozen -/
theorem _root_.L2.PE.freeze {f : Ex} (h : PE X e (rdE T W f)) : PE X e (rdE T W (eFrz f)) := h.imp fun σ H Q ⟨F, m, μ, ρ, rl, en, p⟩ =>
  ⟨F, m, μ, ρ, rl, en, Post.bind p fun v H1 F1 m1 d μ1 s1 r1 h1 p1 => by
    cases d with
    | ref n =>
      obtain ⟨a, rfl, hm⟩ := h1.vRef
      dsimp only at p1
      split at p1
      · rename_i xs q
        obtain ⟨a', e1, e2⟩ := r1.cell _ _ q
        rw [hm] at e1; cases e1
        cases e2 with
        | @lst vs _ hF hH t =>
          have sb : Sub F1 m1 (upd F1 a (.lst vs)) m1 := Sub.addF hF
          have rp : Rep T (upd F1 a (.lst vs)) m1 (.ref a) (.lst xs) := .lst upd_same (t.up sb)
          exact p1 _ _ _ _ sb (r1.freeze q hm hF hH rp) rp
      · rename_i c fs q
        obtain ⟨a', e1, e2⟩ := r1.cell _ _ q
        rw [hm] at e1; cases e1
        cases e2 with
        | @ins _ Ca dx fvs _ hF hc hH ok t =>
          have sb : Sub F1 m1 (upd F1 a (.ins Ca dx fvs)) m1 := Sub.addF hF
          have rp : Rep T (upd F1 a (.ins Ca dx fvs)) m1 (.ref a) (.obj c fs) := .obj hc upd_same ok (t.up sb)
          exact p1 _ _ _ _ sb (r1.freeze q hm hF hH rp) rp
      · exact p1 _ _ _ _ Sub.refl r1 h1
    | _ => exact p1 _ _ _ _ Sub.refl r1 h1⟩
end
end Gs
/-! GsS7: methods of built-in types, methods of own classes. -/
namespace Gs
open PySem PySem.Spec L2
section
variable {X : Cx} {T : Tb} {W : WX} {a b c e o : Expr} {fa fb fc f fo : Ex} {p pos apos : Pos} {es : List Expr} {kws : List Keyword}
/-- a built-in's method by values -/
def MtX (X : Cx) (T : Tb) (id : String) (g : D → List D → M D) : Prop :=
  ∀ (pins : List (Addr × Obj)) (s : Shared) (σ : L2.St) (F : Hp) (m : At) (μ : Mu) (H : Hp) (v : V) (vs : List V) (u : Value) (us : List Value) (x : D) (ds : List D) (Q : VK) (E : WK), Inv X pins σ H s → RelV v u → Vals vs us → Rel T F m μ H → Rep T F m v x → Reps T F m vs ds →
    Post T (RD T) F m (g x ds μ) Q E → wpAny (model X.prog X.w) X.A (call (.builtin id) (u :: us)) (EP X pins σ Q) X.xe s
/-- the list that a reference is -/
theorem ref_lst {F : Hp} {m : At} {μ : Mu} {H : Hp} (rl : Rel T F m μ H) {v : V} {n : Nat} {xs : List D} (r : Rep T F m v (.ref n)) (q : μ.get n = some (.lst xs)) : ∃ a vs, v = .ref a ∧ m n = some a ∧ F a = none ∧ H a = some (.lst vs) ∧ Reps T F m vs xs := by
  obtain ⟨a, rfl, hm⟩ := r.vRef
  obtain ⟨a', e1, e2⟩ := rl.cell _ _ q
  rw [hm] at e1; cases e1
  cases e2 with | lst hF hH t => exact ⟨a, _, rfl, hm, hF, hH, t⟩
theorem put_lst {F : Hp} {m : At} {μ : Mu} {H : Hp} {n : Nat} {a : Addr} {xs ys : List D} {vs : List V} (rl : Rel T F m μ H) (q : μ.get n = some (.lst xs)) (hm : m n = some a) (hF : F a = none) (t : Reps T F m vs ys) : Rel T F m (μ.put n (.lst ys)) (upd H a (.lst vs)) :=
  rl.write q hm hF (.lst hF upd_same t)
theorem Reps.one {F : Hp} {m : At} {vs : List V} {d : D} (t : Reps T F m vs [d]) : ∃ v, vs = [v] ∧ Rep T F m v d := by
  cases t with | cons r t => cases t; exact ⟨_, rfl, r⟩
theorem Reps.two {F : Hp} {m : At} {vs : List V} {d d2 : D} (t : Reps T F m vs [d, d2]) : ∃ v v2, vs = [v, v2] ∧ Rep T F m v d ∧ Rep T F m v2 d2 := by
  cases t with | cons r t => cases t with | cons r2 t => cases t; exact ⟨_, _, rfl, r, r2⟩
theorem Reps.dropLast {F : Hp} {m : At} : ∀ {vs : List V} {ds : List D}, Reps T F m vs ds → Reps T F m vs.dropLast ds.dropLast
  | _, _, .nil => .nil
  | _, _, .cons r .nil => .nil
  | _, _, .cons r (.cons r2 t) => .cons r (Reps.dropLast (.cons r2 t))
theorem Reps.eraseIdx {F : Hp} {m : At} : ∀ {vs : List V} {ds : List D} (k : Nat), Reps T F m vs ds → Reps T F m (vs.eraseIdx k) (ds.eraseIdx k)
  | _, _, _, .nil => .nil
  | _, _, 0, .cons r t => t
  | _, _, k + 1, .cons r t => .cons r (Reps.eraseIdx k t)
theorem m_app : MtX X T "list.append" fun x ds => match ds with
    | [v] => retN (oAppend x v)
    | _ => M.stuck := by
  intro pins s σ F m μ H v vs u us x ds Q E I ru rus rl rv rvs pp
  dsimp only at pp
  split at pp
  · rename_i d
    obtain ⟨w, rfl, rw_⟩ := rvs.one
    unfold retN oAppend at pp
    split at pp
    · rename_i μ' eq
      split at eq
      · rename_i n
        split at eq
        · rename_i xs q
          split at eq
          · rename_i hl
            cases eq
            obtain ⟨a, ws, rfl, hm, hF, hH, t⟩ := ref_lst rl rv q
            have hl := Nat.blt_eq.mp hl
            exact mt_append pins s σ H _ _ u us Q I ru rus ⟨a, ws, w, rfl, rfl, hH, by rw [t.length, sizeLine_eq]; omega, pp _ _ _ _ Sub.refl (put_lst rl q hm hF (t.append (.cons rw_ .nil))) .non⟩
          · cases eq
        · cases eq
      · cases eq
    · exact pp.elim
  · exact pp.elim
theorem m_ext : MtX X T "list.extend" fun x ds => match ds with
    | [v] => retN (oExtend x v)
    | _ => M.stuck := by
  intro pins s σ F m μ H v vs u us x ds Q E I ru rus rl rv rvs pp
  dsimp only at pp
  split at pp
  · rename_i d
    obtain ⟨w, rfl, rw_⟩ := rvs.one
    unfold retN oExtend at pp
    split at pp
    · rename_i μ' eq
      split at eq
      · rename_i n
        split at eq
        · rename_i xs ys q q2
          split at eq
          · rename_i hl
            cases eq
            obtain ⟨a, ws, rfl, hm, hF, hH, t⟩ := ref_lst rl rv q
            have w2 := rl.vw rw_
            rw [q2] at w2
            obtain ⟨b, zs, rfl, hH2, t2⟩ := w2.list rl
            exact mt_extend pins s σ H _ _ u us Q I ru rus ⟨a, b, ws, zs, rfl, rfl, hH, hH2, by rw [t.length, t2.length]; exact line_le hl, pp _ _ _ _ Sub.refl (put_lst rl q hm hF (t.append t2)) .non⟩
          · cases eq
        · cases eq
      · cases eq
    · exact pp.elim
  · exact pp.elim
theorem m_pop_ : MtX X T "list.pop" fun x ds => match ds with
    | [] => mPop x
    | [v] => mPopAt x v
    | _ => M.stuck := by
  intro pins s σ F m μ H v vs u us x ds Q E I ru rus rl rv rvs pp
  dsimp only at pp
  split at pp
  · cases rvs
    unfold mPop at pp
    split at pp
    · rename_i n
      split at pp
      · rename_i xs q
        split at pp
        · rename_i y hy
          obtain ⟨a, ws, rfl, hm, hF, hH, t⟩ := ref_lst rl rv q
          obtain ⟨w, hw, rw_⟩ := t.get hy
          refine mt_pop pins s σ H _ _ u us Q I ru rus ⟨a, ws, w, rfl, rfl, hH, by rw [t.length]; exact hw, pp _ _ _ _ Sub.refl (put_lst rl q hm hF t.dropLast) (rl.rs rw_)⟩
        · exact pp.elim
      · exact pp.elim
    · exact pp.elim
  · rename_i d
    obtain ⟨w, rfl, rw_⟩ := rvs.one
    unfold mPopAt at pp
    split at pp
    · rename_i n i
      split at pp
      · rename_i xs q
        split at pp
        · rename_i hi
          simp only [Bool.and_eq_true, decide_eq_true_eq] at hi
          split at pp
          · rename_i k hk
            split at pp
            · rename_i y hy
              obtain ⟨a, ws, rfl, hm, hF, hH, t⟩ := ref_lst rl rv q
              obtain ⟨w', hw, rw'⟩ := t.get hy
              obtain rfl := rw_.vInt
              exact mt_popAt pins s σ H _ _ u us Q I ru rus ⟨a, ws, i, k, w', rfl, rfl, hH, hi.1, hi.2, by rw [t.length]; exact hk, hw, pp _ _ _ _ Sub.refl (put_lst rl q hm hF (t.eraseIdx k)) (rl.rs rw')⟩
            · exact pp.elim
          · exact pp.elim
        · exact pp.elim
      · exact pp.elim
    · exact pp.elim
  · exact pp.elim
theorem m_ins : MtX X T "list.insert" fun x ds => match ds with
    | [v, w] => retN (oInsert x v w)
    | _ => M.stuck := by
  intro pins s σ F m μ H v vs u us x ds Q E I ru rus rl rv rvs pp
  dsimp only at pp
  split at pp
  · rename_i d d2
    obtain ⟨w, w2, rfl, rw_, rw2⟩ := rvs.two
    unfold retN oInsert at pp
    split at pp
    · rename_i μ' eq
      split at eq
      · rename_i n i
        split at eq
        · rename_i xs q
          split at eq
          · rename_i hl
            simp only [Bool.and_eq_true, decide_eq_true_eq, Nat.blt_eq] at hl
            cases eq
            obtain ⟨a, ws, rfl, hm, hF, hH, t⟩ := ref_lst rl rv q
            obtain rfl := rw_.vInt
            exact mt_insert pins s σ H _ _ u us Q I ru rus ⟨a, ws, i, w2, rfl, rfl, hH, by rw [t.length, sizeLine_eq]; omega, hl.1.2, hl.2, pp _ _ _ _ Sub.refl (put_lst rl q hm hF (((t.take _).append (.cons rw2 .nil)).append (t.drop _))) .non⟩
          · cases eq
        · cases eq
      · cases eq
    · exact pp.elim
  · exact pp.elim
theorem m_rev : MtX X T "list.reverse" fun x ds => match ds with
    | [] => retN (oReverse x)
    | _ => M.stuck := by
  intro pins s σ F m μ H v vs u us x ds Q E I ru rus rl rv rvs pp
  dsimp only at pp
  split at pp
  · cases rvs
    unfold retN oReverse at pp
    split at pp
    · rename_i μ' eq
      split at eq
      · rename_i n
        split at eq
        · rename_i xs q
          cases eq
          obtain ⟨a, ws, rfl, hm, hF, hH, t⟩ := ref_lst rl rv q
          exact mt_reverse pins s σ H _ _ u us Q I ru rus ⟨a, ws, rfl, rfl, hH, pp _ _ _ _ Sub.refl (put_lst rl q hm hF t.reverse) .non⟩
        · cases eq
      · cases eq
    · exact pp.elim
  · exact pp.elim
theorem m_clr : MtX X T "list.clear" fun x ds => match ds with
    | [] => retN (oClear x)
    | _ => M.stuck := by
  intro pins s σ F m μ H v vs u us x ds Q E I ru rus rl rv rvs pp
  dsimp only at pp
  split at pp
  · cases rvs
    unfold retN oClear at pp
    split at pp
    · rename_i μ' eq
      split at eq
      · rename_i n
        split at eq
        · rename_i xs q
          cases eq
          obtain ⟨a, ws, rfl, hm, hF, hH, t⟩ := ref_lst rl rv q
          exact mt_clear pins s σ H _ _ u us Q I ru rus ⟨a, ws, rfl, rfl, hH, pp _ _ _ _ Sub.refl (put_lst rl q hm hF .nil) .non⟩
        · cases eq
      · cases eq
    · exact pp.elim
  · exact pp.elim
theorem idxF_get {F : Hp} {m : At} {w : V} {x : D} (r : Rep T F m w x) (h : flatD x = true) : ∀ {vs : List V} {xs : List D} {j : Nat}, Reps T F m vs xs → xs.all flatD = true → idxF x xs = some j → (∃ z, vs[j]? = some z ∧ eqV z w = true) ∧ ∀ (k : Nat) (z : V), k < j → vs[k]? = some z → eqV z w = false
  | _, _, _, .nil, _, e => by simp [idxF] at e
  | _, _, j, .cons q t, g, e => by
    simp only [List.all_cons, Bool.and_eq_true] at g
    have he := eqF_of q r g.1 h
    unfold idxF at e
    split at e
    · rename_i h1
      cases e
      exact ⟨⟨_, rfl, he.trans h1⟩, fun k z hk => absurd hk (Nat.not_lt_zero _)⟩
    · rename_i h1
      obtain ⟨i, e1, rfl⟩ := Option.map_eq_some_iff.mp e
      obtain ⟨⟨z, z1, z2⟩, z3⟩ := idxF_get r h t g.2 e1
      refine ⟨⟨z, by simpa using z1, z2⟩, fun k z hk hz => ?_⟩
      cases k with
      | zero => simp at hz; subst hz; rw [he]; simpa using h1
      | succ k => exact z3 k z (by omega) (by simpa using hz)
theorem m_idx : MtX X T "list.index" fun x ds => match ds with
    | [v] => fun m => M.opt (oIndex m x v) m
    | _ => M.stuck := by
  intro pins s σ F m μ H v vs u us x ds Q E I ru rus rl rv rvs pp
  dsimp only at pp
  split at pp
  · rename_i d
    obtain ⟨w, rfl, rw_⟩ := rvs.one
    obtain ⟨d2, ed, hQ⟩ := Post.opt pp
    unfold oIndex at ed
    split at ed
    · rename_i xs q
      have w1 := rl.vw rv
      rw [q] at w1
      obtain ⟨a, ws, rfl, hH, t⟩ := w1.list rl
      split at ed
      · rename_i hf
        simp only [Bool.and_eq_true] at hf
        obtain ⟨j, ej, rfl⟩ := Option.map_eq_some_iff.mp ed
        obtain ⟨⟨z, z1, z2⟩, z3⟩ := idxF_get rw_ hf.1 t hf.2 ej
        exact mt_index pins s σ H _ _ u us Q I ru rus ⟨a, ws, w, j, z, rfl, rfl, SqL.of hH, flat_of rw_ hf.1, flats_of t hf.2, z1, z2, z3, hQ _ _ _ _ Sub.refl rl (.int _)⟩
      · cases ed
    · cases ed
  · exact pp.elim
theorem strs_of {F : Hp} {m : At} : ∀ {vs : List V} {ds : List D} {ss : List Str}, Reps T F m vs ds → strsOf ds = some ss → vs = ss.map V.str
  | [], [], ss, _, e => by
    simp only [strsOf, Option.some.injEq] at e
    subst e; rfl
  | v :: vs, d :: ds, ss, .cons r t, e => by
    cases d with
    | str x =>
      obtain ⟨ss', h1, rfl⟩ := Option.map_eq_some_iff.mp (show (strsOf ds).map (x :: ·) = some ss from e)
      rw [strs_of t h1, r.vStr]; rfl
    | _ => simp [strsOf] at e
theorem m_jn (hK : X.K = T.K) : MtX X T "str.join" fun x ds => match ds with
    | [v] => fun m => M.opt (oJoin m x v) m
    | _ => M.stuck := by
  intro pins s σ F m μ H v vs u us x ds Q E I ru rus rl rv rvs pp
  dsimp only at pp
  split at pp
  · rename_i d
    obtain ⟨w, rfl, rw_⟩ := rvs.one
    obtain ⟨d2, ed, hQ⟩ := Post.opt pp
    have w1 := rl.vw rw_
    unfold oJoin at ed
    split at ed
    · rename_i a ys q
      rw [q] at w1
      obtain ⟨ss, h1, h2⟩ := Option.bind_eq_some_iff.mp ed
      split at h2
      · rename_i hj
        cases h2
        obtain ⟨p, ws, rfl, hH, t⟩ := w1.list rl
        obtain rfl := strs_of t h1
        exact mt_join pins s σ H v _ u us Q I ru rus ⟨a, p, ss, rv.vStr, rfl, .inl (SqL.of hH), Nat.le_of_ble_eq_true hj, hQ _ _ _ _ Sub.refl rl (.str _)⟩
      · cases h2
    · rename_i a ys q
      rw [q] at w1
      obtain ⟨ss, h1, h2⟩ := Option.bind_eq_some_iff.mp ed
      split at h2
      · rename_i hj
        cases h2
        obtain ⟨p, ws, rfl, hH, t⟩ := w1.tup
        obtain rfl := strs_of t h1
        exact mt_join pins s σ H v _ u us Q I ru rus ⟨a, p, ss, rv.vStr, rfl, .inr (by rw [hK]; exact SqT.up rl.sub hH), Nat.le_of_ble_eq_true hj, hQ _ _ _ _ Sub.refl rl (.str _)⟩
      · cases h2
    · cases ed
  · exact pp.elim
theorem m_bits : MtX X T "int.bit_length" fun x ds => match ds with
    | [] => M.opt (oBits x)
    | _ => M.stuck := by
  intro pins s σ F m μ H v vs u us x ds Q E I ru rus rl rv rvs pp
  dsimp only at pp
  split at pp
  · cases rvs
    obtain ⟨d2, ed, hQ⟩ := Post.opt pp
    unfold oBits at ed
    split at ed
    · cases ed
      obtain rfl := rv.vInt
      obtain ⟨t, rfl⟩ := _root_.id ru
      cases rus
      exact PyProof.Rows.call_int_bit_length ⟨.int _, H, I.tok _, ⟨_, rfl⟩, hQ _ _ _ _ Sub.refl rl (.int _)⟩
    · cases ed
  · exact pp.elim
/-! ### o.m(..) -/
theorem meth_eq {k : Str} {ks' : List Str} {env : PySem.Env} (hb : baseOk o = true) (hs : es.any isStar = false) (hn : kws.map (·.arg) = ks'.map some) (l1 : es.length < 20) (l2 : kws.length < 9) (hl : apos.endLine = pos.line) :
    eval (.Call (.Attribute o k apos) es kws pos) env = (do
      let ov ← eval o env
      standAt apos.atName
      let (f, first) ← holding [ov] (getMethod ov k (do return (← importBound o env).getD true))
      callWith pos f first (backTo pos (starEach es env)) (backToKw pos (keywordEach kws env))) := by
  obtain ⟨k1, k2, k3⟩ := kw_each (pos := pos) (env := env) hn
  have hst : (backTo pos (starEach es env)).all (fun x => !x.1) = true := by
    have := star_any (p := pos) (env := env) hs
    rw [List.all_eq_true]
    intro x hx
    have h2 := List.any_eq_false.mp this x hx
    simpa using h2
  have hform : methodCallForm (es.length + kws.length) (backTo pos (starEach es env)) (backToKw pos (keywordEach kws env)) = true := by
    unfold methodCallForm
    rw [hst, k1]
    simp only [Bool.true_and, decide_eq_true_eq]
    split <;> omega
  have hpos : methodCallPos true o env apos pos = pure pos := by unfold methodCallPos; simp [hl]
  rw [arm_eval_Call, base_eq hb]
  unfold methodCall
  rw [hform]
  show (do let ov ← eval o env; standAt apos.atName; (holding [ov] (getMethod ov k (do return (← importBound o env).getD true)) >>= fun x => match x with | (f, first) => methodCallPos true o env apos pos >>= fun cp => callWith cp f first _ _)) = _
  rw [hpos]
  rfl
/-- by run-time dispatch -/
theorem meth_wp {k : Str} {ks' : List Str} {s : Shared} {Q : Value → Shared → Prop} (hb : baseOk o = true) (hs : es.any isStar = false) (hn : kws.map (·.arg) = ks'.map some) (l1 : es.length < 20) (l2 : kws.length < 9) (hl : apos.endLine = pos.line)
    (h : wpAny (model X.prog X.w) X.A (eval o X.env) (fun ov s₁ => ∀ pl, wpAny (model X.prog X.w) X.A (getMethod ov k pl) (fun fx s₂ => wpAny (model X.prog X.w) X.A (callWith pos fx.1 fx.2 (backTo pos (starEach es X.env)) (backToKw pos (keywordEach kws X.env))) Q X.xe s₂) X.xe s₁) X.xe s) :
    wpAny (model X.prog X.w) X.A (eval (.Call (.Attribute o k apos) es kws pos) X.env) Q X.xe s :=
  PySem.W.methodCall_KW (wpAny_mono h (fun ov s₁ q => q _) fun _ _ x => x) (meth_eq hb hs hn l1 l2 hl)
/-- a built-in's method -/
theorem bm_go {id ty : String} {g : D → List D → M D} {A : Exs} {name : Str} {pl : Sem Bool} {pins : List (Addr × Obj)} {σ : L2.St} {H : Hp} {s : Shared} {F : Hp} {m : At} {μ : Mu} {ρ : Env} {Q : VK} {v : V} {u : Value} {x : D}
    (pa : PlainAttrs ty) (slot : Slot ty name id) (hty : typeOf (.builtin id) = pure (.type "method_descriptor")) (hm : MtX X T id g) (tv : tyV X.K ty v H) (ha : PA X es (rdA T W A)) (hs : es.any isStar = false) (hA : es = [] → A = esNil)
    (I : Inv X pins σ H s) (ru : RelV v u) (rl : Rel T F m μ H) (rv : Rep T F m v x) (en : EnvR T F m σ ρ) (pp : Post T (RD T) F m (((A ρ).bind fun ds => g x ds) μ) Q (fun C dx H' => W (.ref C) (some dx) σ H')) :
    wpAny (model X.prog X.w) X.A (getMethod u name pl) (fun fx s₂ => wpAny (model X.prog X.w) X.A (callWith pos fx.1 fx.2 (backTo pos (starEach es X.env)) (backToKw pos (keywordEach [] X.env))) (EP X pins σ Q) X.xe s₂) X.xe s := by
  obtain ⟨h1, h2⟩ := tyV_is I ru tv
  refine getMethod_builtin h1 pa slot hty h2 ?_
  cases es with
  | nil =>
    rw [hA rfl] at pp
    exact Calls.callWith_builtin rfl (PySem.evalArgs_none (hm pins s σ F m μ H v [] u [] x [] Q _ I ru .nil rl rv .nil pp))
  | cons e r =>
    have hs' := hs
    simp only [List.any_cons, Bool.or_eq_false_iff] at hs'
    have hh := ha.run pos pins s σ H (fun vs H1 => ∃ F1 m1 μ1 ds, Rel T F1 m1 μ1 H1 ∧ Reps T F1 m1 vs ds ∧ Sub F m F1 m1 ∧ Post T (RD T) F1 m1 (g x ds μ1) Q (fun C dx H' => W (.ref C) (some dx) σ H')) I
      ⟨F, m, μ, ρ, rl, en, Post.bind pp fun vs H1 F1 m1 ds μ1 s1 r1 h1 p1 => ⟨F1, m1, μ1, ds, r1, h1, s1, p1⟩⟩
    have hst := star_any (p := pos) (env := X.env) hs
    rw [star_eq hs'.1] at hh hst ⊢
    exact Calls.callWith_builtin hst (Calls.evalArgs_plain (thn hh fun us s1 ⟨vs, H1, I1, r2, F1, m1, μ1, ds, rl1, t1, sb, p1⟩ => hm pins s1 σ F1 m1 μ1 H1 v vs u us x ds Q _ I1 ru r2 rl1 (rv.up sb) t1 p1))
theorem bm_all {A : Exs} {name : Str} {pl : Sem Bool} {pins : List (Addr × Obj)} {σ : L2.St} {H : Hp} {s : Shared} {F : Hp} {m : At} {μ : Mu} {ρ : Env} {Q : VK} {v : V} {u : Value} {x : D}
    (hx : okN name = true) (bt : bTy μ (nid name) x = true) (ha : PA X es (rdA T W A)) (hs : es.any isStar = false) (hA : es = [] → A = esNil) (hK : X.K = T.K)
    (I : Inv X pins σ H s) (ru : RelV v u) (rl : Rel T F m μ H) (rv : Rep T F m v x) (en : EnvR T F m σ ρ) (pp : Post T (RD T) F m (((A ρ).bind fun ds => bMeth (nid name) x ds) μ) Q (fun C dx H' => W (.ref C) (some dx) σ H')) :
    wpAny (model X.prog X.w) X.A (getMethod u name pl) (fun fx s₂ => wpAny (model X.prog X.w) X.A (callWith pos fx.1 fx.2 (backTo pos (starEach es X.env)) (backToKw pos (keywordEach [] X.env))) (EP X pins σ Q) X.xe s₂) X.xe s := by
  have w1 := rl.vw rv
  unfold bTy at bt
  split at bt
  · rename_i xs q
    rw [q] at w1
    obtain ⟨a, vs, rfl, hH, t⟩ := w1.list rl
    have tv : tyV X.K "list" (.ref a) H := .inl ⟨rfl, vs, SqL.of hH⟩
    unfold lstM at bt
    simp only [Bool.or_eq_true] at bt
    have key : ∀ {y : Str} {k : Nat} {id : String} {g : D → List D → M D}, Nat.beq (nid name) k = true → okN y = true → nid y = k → PlainAttrs "list" → Slot "list" y id → typeOf (.builtin id) = pure (.type "method_descriptor") → MtX X T id g → (∀ ds, bMeth k x ds = g x ds ∨ g x ds = bMeth k x ds) →
        wpAny (model X.prog X.w) X.A (getMethod u name pl) (fun fx s₂ => wpAny (model X.prog X.w) X.A (callWith pos fx.1 fx.2 (backTo pos (starEach es X.env)) (backToKw pos (keywordEach [] X.env))) (EP X pins σ Q) X.xe s₂) X.xe s := fun {y k id g} e hy ey pa sl hty hm hg => by
      have e := Nat.eq_of_beq_eq_true e
      obtain rfl := name_is hx e hy ey
      rw [ey] at pp
      refine bm_go pa sl hty hm tv ha hs hA I ru rl rv en ?_
      have : (fun ds => bMeth k x ds) = fun ds => g x ds := funext fun ds => (hg ds).elim (fun h => h) fun h => h.symm
      rw [← this]; exact pp
    rcases bt with (((((bt | bt) | bt) | bt) | bt) | bt) | bt
    · refine key (y := "append") bt (by decide +kernel) (by decide +kernel) PySem.F.plainAttrs_list PySem.F.slot_list_append PySem.F.type_list_append m_app fun ds => .inl ?_
      rcases ds with _ | ⟨d, _ | ⟨d2, _ | ⟨d3, r⟩⟩⟩ <;> rfl
    · refine key (y := "pop") bt (by decide +kernel) (by decide +kernel) PySem.F.plainAttrs_list PySem.F.slot_list_pop PySem.F.type_list_pop m_pop_ fun ds => .inl ?_
      rcases ds with _ | ⟨d, _ | ⟨d2, _ | ⟨d3, r⟩⟩⟩ <;> rfl
    · refine key (y := "extend") bt (by decide +kernel) (by decide +kernel) PySem.F.plainAttrs_list PySem.F.slot_list_extend PySem.F.type_list_extend m_ext fun ds => .inl ?_
      rcases ds with _ | ⟨d, _ | ⟨d2, _ | ⟨d3, r⟩⟩⟩ <;> rfl
    · refine key (y := "insert") bt (by decide +kernel) (by decide +kernel) PySem.F.plainAttrs_list PySem.F.slot_list_insert PySem.F.type_list_insert m_ins fun ds => .inl ?_
      rcases ds with _ | ⟨d, _ | ⟨d2, _ | ⟨d3, r⟩⟩⟩ <;> rfl
    · refine key (y := "reverse") bt (by decide +kernel) (by decide +kernel) PySem.F.plainAttrs_list PySem.F.slot_list_reverse PySem.F.type_list_reverse m_rev fun ds => .inl ?_
      rcases ds with _ | ⟨d, _ | ⟨d2, _ | ⟨d3, r⟩⟩⟩ <;> rfl
    · refine key (y := "clear") bt (by decide +kernel) (by decide +kernel) PySem.F.plainAttrs_list PySem.F.slot_list_clear PySem.F.type_list_clear m_clr fun ds => .inl ?_
      rcases ds with _ | ⟨d, _ | ⟨d2, _ | ⟨d3, r⟩⟩⟩ <;> rfl
    · refine key (y := "index") bt (by decide +kernel) (by decide +kernel) PySem.F.plainAttrs_list PySem.F.slot_list_index PySem.F.type_list_index m_idx fun ds => .inl ?_
      rcases ds with _ | ⟨d, _ | ⟨d2, _ | ⟨d3, r⟩⟩⟩ <;> rfl
  · rename_i i q
    rw [q] at w1
    obtain rfl := w1.int
    have e := Nat.eq_of_beq_eq_true bt
    obtain rfl := name_is (y := "bit_length") hx e (by decide +kernel) (by decide +kernel)
    refine bm_go PySem.F.plainAttrs_int PyProof.Rows.slot_int_bit_length PyProof.Rows.type_int_bit_length m_bits (show tyV X.K "int" (.int i) H from rfl) ha hs hA I ru rl rv en ?_
    have : (fun ds => bMeth (nid "bit_length") x ds) = fun ds => (match ds with | [] => M.opt (oBits x) | _ => M.stuck) := funext fun ds => by
      rw [e]
      rcases ds with _ | ⟨d, _ | ⟨d2, _ | ⟨d3, r⟩⟩⟩ <;> rfl
    rw [← this]; exact pp
  · rename_i i q
    rw [q] at w1
    obtain rfl := w1.str
    have e := Nat.eq_of_beq_eq_true bt
    obtain rfl := name_is (y := "join") hx e (by decide +kernel) (by decide +kernel)
    refine bm_go PySem.F.plainAttrs_str PySem.F.slot_str_join PySem.F.type_str_join (m_jn hK) (show tyV X.K "str" (.str i) H from rfl) ha hs hA I ru rl rv en ?_
    have : (fun ds => bMeth (nid "join") x ds) = fun ds => (match ds with | [v] => fun m => M.opt (oJoin m x v) m | _ => M.stuck) := funext fun ds => by
      rw [e]
      rcases ds with _ | ⟨d, _ | ⟨d2, _ | ⟨d3, r⟩⟩⟩ <;> rfl
    rw [← this]; exact pp
  · cases bt
/-- o.m(..) -/
theorem s_meth {C : Cxt} {n : Nat} {k : Str} {ks : List Nat} {A B : Exs} {lv : Nat} (hK : X.K = T.K) (hz : ∀ a, T.z a = none) (hk : okN k = true) (tk : Takes X W) (hr : Room lv X.A)
    (hM : ∀ c Ca ps dfl, C.mp c (nid k) = some (ps, dfl) → T.cl c = some Ca → ∃ fa, Meth X.K Ca k fa ∧ FnX X T lv (C.run c (nid k)) fa ps dfl)
    (ho : PE X o (rdE T W fo)) (hb : baseOk o = true) (ha : PA X es (rdA T W A)) (hs : es.any isStar = false) (hA : es = [] → A = esNil) (hB : PK X kws (rdA T W B)) (hB0 : kws = [] → B = esNil) (hn : kwNames kws = some ks) (lA : LenIs A es.length) (lB : LenIs B kws.length) (l1 : es.length < 20) (l2 : kws.length < 9) (hl : apos.endLine = pos.line) :
    PE X (.Call (.Attribute o k apos) es kws pos) (rdE T W (eMeth C.run C.mp (nid k) fo es.length ks A B)) := by
  refine ⟨fun pins s σ H Q I ⟨F, m, μ, ρ, rl, en, pp⟩ => ?_⟩
  obtain ⟨ks', n1, n2, n3⟩ := kw_names hn
  have hkl : ks.length = kws.length := by
    have h1 := congrArg List.length n1
    have h2 := congrArg List.length n2
    simp only [List.length_map] at h1 h2
    omega
  refine meth_wp hb hs n1 l1 l2 hl (thn (ho.run pins s σ H (fun v H1 => ∃ F1 m1 μ1 x, Rel T F1 m1 μ1 H1 ∧ Rep T F1 m1 v x ∧ EnvR T F1 m1 σ ρ ∧ Post T (RD T) F1 m1 (methK C.run C.mp (nid k) es.length ks (A ρ) (B ρ) x μ1) Q (fun C dx H' => W (.ref C) (some dx) σ H')) I ⟨F, m, μ, ρ, rl, en, Post.bind pp fun v H1 F1 m1 x μ1 s1 r1 h1 p1 => ⟨F1, m1, μ1, x, r1, h1, en.up s1, p1⟩⟩)
    fun u s1 ⟨v, H1, I1, ru, F1, m1, μ1, x, r1, rx, en1, p1⟩ pl => ?_)
  unfold methK at p1
  cases hc : clsOf μ1 x with
  | some c =>
    rw [hc] at p1
    dsimp only at p1
    split at p1
    · exact p1.elim
    · rename_i hf
      split at p1
      · rename_i ps dfl hmp
        split at p1
        · rename_i plq hpl
          obtain ⟨a, Ca, dx, fvs, rfl, hcl, hH, ok, t⟩ := inst_of r1 hz rx hc
          obtain ⟨fa, hm, Fx⟩ := hM c Ca ps dfl hmp hcl
          obtain rfl : u = Value.ref a := ru
          have hf2 : (fldsOf μ1 x).lookup (nid k) = none := by
            cases q : (fldsOf μ1 x).lookup (nid k) with
            | none => rfl
            | some d => rw [q] at hf; exact absurd rfl hf
          refine getmeth_ok I1 hH (by rw [hK]; exact ok.c.cls) hm (repF_none hk t hf2) ?_
          refine call_go (first := [.ref a]) hm.kp ha hs hA hB n1 lA lB I1 r1 en1 p1 fun s2 H2 F2 m2 μ2 us ws vs zs ds es' ld le I2 rv rz r2 t1 t2 sb en2 p2 => ?_
          have rv1 : Vals (.ref a :: vs) ([Value.ref a] ++ us) := .cons rfl rv
          exact plan_run (vs := .ref a :: vs) (ds := x :: ds) Fx hr tk I2 rv1 rz r2 (.cons (rx.up sb) t1) t2 n2 n3 (by rw [t2.length, le, hkl]) (by rw [List.length_cons, t1.length, ld]; exact hpl) p2
        · exact p1.elim
      · exact p1.elim
  | none =>
    rw [hc] at p1
    dsimp only at p1
    split at p1
    · rename_i hkn
      simp only [Bool.and_eq_true, List.isEmpty_iff] at hkn
      cases kws with
      | cons _ _ => rw [hkn.1] at hkl; simp at hkl
      | nil => exact bm_all hk hkn.2 ha hs hA hK I1 ru r1 rx en1 p1
    · exact p1.elim
end
end Gs
/-! GsS8: names, targets, what is walked. -/
namespace Gs
open PySem PySem.Spec L2
section
variable {X : Cx} {T : Tb} {W : WX} {C : Cxt} {n : Nat} {a b c e : Expr} {fa fb fc f : Ex} {p pos : Pos}
theorem ixOf_get {x : Str} : ∀ {l : List Str} {i : Nat}, ixOf x l = some i → l[i]? = some x
  | [], _, h => by simp [ixOf] at h
  | y :: r, i, h => by
    unfold ixOf at h
    split at h
    · rename_i e; cases h; simp [e]
    · obtain ⟨j, h1, rfl⟩ := Option.map_eq_some_iff.mp h
      simpa using ixOf_get h1
theorem slot_ok {x : Str} {i : Nat} (G : Good C X W T n) (h : C.slot x = some i) : okN x = true ∧ X.N[i]? = some x ∧ Vis X.env.scope x := by
  unfold Cxt.slot at h
  split at h
  · rename_i hk
    exact ⟨(kind_ok hk).1, by rw [G.N]; exact ixOf_get h, by rw [G.sc]; exact .inl (kind_ok hk).2⟩
  · rename_i hk
    exact ⟨(kind_ok hk).1, by rw [G.N]; exact ixOf_get h, by rw [G.sc]; exact .inr (.inl (kind_ok hk).2)⟩
  · rename_i hk
    exact ⟨(kind_ok hk).1, by rw [G.N]; exact ixOf_get h, by rw [G.sc]; exact .inr (.inr (kind_ok hk).2)⟩
  · cases h
theorem loc_ok {x : Str} {i : Nat} (G : Good C X W T n) (h : C.loc x = some i) : okN x = true ∧ X.N[i]? = some x ∧ Loc X.env.scope x ∧ (X.fn x = true ∨ X.env.scope.names.lookup x = some .local) := by
  unfold Cxt.loc at h
  split at h
  · rename_i hk
    exact ⟨(kind_ok hk).1, by rw [G.N]; exact ixOf_get h, by rw [G.sc]; exact .inl (kind_ok hk).2, .inr (by rw [G.sc]; exact (kind_ok hk).2)⟩
  · rename_i hk
    split at h
    · rename_i hf
      exact ⟨(kind_ok hk).1, by rw [G.N]; exact ixOf_get h, by rw [G.sc]; exact .inr (kind_ok hk).2, .inl (G.fn x hf)⟩
    · cases h
  · cases h
theorem s_name {x : Str} (G : Good C X W T n) : PE X (.Name x pos) (rdE T W (cName C x)) := by
  unfold cName
  split
  · rename_i hk
    obtain ⟨hx, _⟩ := kind_ok hk
    split
    · rename_i d hd
      obtain ⟨v, u, h1, h2, h3⟩ := G.mdl.con x d hx hd
      exact s_val (pe_glob (gl_of G hk) h1 h2 (okN_debug hx)) h3
    · exact s_none
  · split
    · rename_i i hi
      obtain ⟨hx, h1, h2⟩ := slot_ok G hi
      exact s_var (pe_var h1 h2 (okN_debug hx) (okN_classdict hx))
    · exact s_none

/-! ### targets -/
/-- the reading of a target whose slots are ix -/
def rdG (T : Tb) (g : Tgt) (ix : List Nat) : TG := fun v σ H Q => ∃ F m μ ρ d ρ', Rel T F m μ H ∧ EnvR T F m σ ρ ∧ Rep T F m v d ∧ g d ρ = some ρ' ∧ ∀ σ', EnvR T F m σ' ρ' → σ'.length = σ.length → (∀ i, i ∉ ix → σ'[i]? = σ[i]?) → Q σ' H
def rdGs (T : Tb) (gs : List Tgt) (ix : List Nat) : TGs := fun vs σ H Q => ∃ F m μ ρ ds ρ', Rel T F m μ H ∧ EnvR T F m σ ρ ∧ Reps T F m vs ds ∧ gsGo gs ds ρ = some ρ' ∧ ∀ σ', EnvR T F m σ' ρ' → σ'.length = σ.length → (∀ i, i ∉ ix → σ'[i]? = σ[i]?) → Q σ' H
theorem _root_.L2.PG.imp {X : Cx} {e : Expr} {t t' : TG} (h : PG X e t) (k : ∀ v σ H Q, t' v σ H Q → t v σ H Q) : PG X e t' := ⟨fun pins s σ H v u Q I r hw => h.run pins s σ H v u Q I r (k v σ H Q hw)⟩
theorem _root_.L2.PGs.imp {X : Cx} {e : List Expr} {t t' : TGs} (h : PGs X e t) (k : ∀ v σ H Q, t' v σ H Q → t v σ H Q) : PGs X e t' := ⟨fun pins s σ H v u Q I r hw => h.run pins s σ H v u Q I r (k v σ H Q hw)⟩
theorem gsGo_len : ∀ {gs : List Tgt} {ds : List D} {ρ ρ' : Env}, gsGo gs ds ρ = some ρ' → ds.length = gs.length
  | [], [], _, _, _ => rfl
  | [], _ :: _, _, _, h => by simp [gsGo] at h
  | _ :: _, [], _, _, h => by simp [gsGo] at h
  | g :: gs, d :: ds, ρ, ρ', h => by
    simp only [gsGo, Option.bind_eq_some_iff] at h
    obtain ⟨ρ1, _, h2⟩ := h
    simp [gsGo_len h2]
theorem assign_len {env : PySem.Env} : ∀ es : List Expr, (∀ e ∈ es, isStar e = false) → (assignEach es env).length = es.length ∧ (assignEach es env).findIdx? (·.1) = none
  | [], _ => ⟨rfl, rfl⟩
  | e :: r, h => by
    obtain ⟨l1, l2⟩ := assign_len (env := env) r fun x hx => h x (List.mem_cons_of_mem _ hx)
    have : assignEach (e :: r) env = (false, assign e env) :: assignEach r env := by
      have h0 := h e (by simp)
      cases e <;> first | rfl | (simp [isStar] at h0)
    rw [this]
    refine ⟨by simp [l1], ?_⟩
    rw [List.findIdx?_cons]
    simp [l2]
theorem assign_eq {env : PySem.Env} {es : List Expr} (h : isStar e = false) : (assignEach (e :: es) env).map (·.2) = assign e env :: (assignEach es env).map (·.2) := by
  cases e <;> first | rfl | (simp [isStar] at h)
theorem tgt_star : ∀ {e : Expr} {g : Tgt}, cTgt C e = some g → isStar e = false
  | .Name _ _, _, _ => rfl
  | .Tuple _ _ _, _, _ => rfl
  | .Starred _ _, _, h => by simp [cTgt] at h
  | .Constant _ _ _, _, h => by simp [cTgt] at h
  | .List _ _, _, h => by simp [cTgt] at h
  | e, _, h => by cases e <;> first | rfl | (simp [cTgt] at h)
theorem tgts_star : ∀ {es : List Expr} {gs : List Tgt}, tgts C es = some gs → gs.length = es.length ∧ ∀ e ∈ es, isStar e = false
  | [], gs, h => by simp only [tgts, Option.some.injEq] at h; subst h; exact ⟨rfl, by simp⟩
  | e :: r, gs, h => by
    unfold tgts at h
    split at h
    · rename_i g gs' h1 h2
      cases h
      obtain ⟨l, hs⟩ := tgts_star h2
      refine ⟨by simp [l], fun x hx => ?_⟩
      rcases List.mem_cons.mp hx with rfl | hx
      · exact tgt_star h1
      · exact hs x hx
    · cases h
theorem xN_nodup (G : Good C X W T n) : X.N.Nodup := by rw [G.N]; exact G.nd
mutual
theorem g_ok (G : Good C X W T n) : ∀ {e : Expr} {g : Tgt}, cTgt C e = some g → PG X e (rdG T g (tgtIx C e))
  | .Name x p, g, h => by
    simp only [cTgt, Option.map_eq_some_iff] at h
    obtain ⟨i, hi, rfl⟩ := h
    obtain ⟨_, h1, h2, h3⟩ := loc_ok G hi
    refine (pg_name (xN_nodup G) h1 h2 h3).imp fun v σ H Q ⟨F, m, μ, ρ, d, ρ', rl, en, r, e, q⟩ => ?_
    cases e
    refine q _ (en.set r) (by simp) fun j hj => ?_
    have : tgtIx C (.Name x p) = [i] := by simp [tgtIx, hi]
    rw [this] at hj
    rw [List.getElem?_set_ne (fun q => hj (by simp [q]))]
  | .Tuple es k p, g, h => by
    simp only [cTgt, Option.map_eq_some_iff] at h
    obtain ⟨gs, hgs, rfl⟩ := h
    obtain ⟨l, hst⟩ := tgts_star hgs
    obtain ⟨a1, a2⟩ := assign_len (env := X.env) es hst
    refine (pg_tup G.calm (gs_ok G hgs) a1 a2).imp fun v σ H Q ⟨F, m, μ, ρ, d, ρ', rl, en, r, e, q⟩ => ?_
    unfold Gs.gTup at e
    split at e
    · rename_i ds
      obtain ⟨a, vs, rfl, hq, t⟩ := r.vTup
      refine ⟨a, vs, rfl, by rw [G.K]; exact SqT.up rl.sub hq, by rw [t.length, gsGo_len e, l], F, m, μ, ρ, ds, ρ', rl, en, t, e, q⟩
    · cases e
  | .BoolOp _ _ _, _, h => by simp [cTgt] at h
  | .NamedExpr _ _ _, _, h => by simp [cTgt] at h
  | .BinOp _ _ _ _, _, h => by simp [cTgt] at h
  | .UnaryOp _ _ _, _, h => by simp [cTgt] at h
  | .Lambda _ _ _ _, _, h => by simp [cTgt] at h
  | .IfExp _ _ _ _, _, h => by simp [cTgt] at h
  | .Dict _ _ _, _, h => by simp [cTgt] at h
  | .Set _ _ _, _, h => by simp [cTgt] at h
  | .ListComp _ _ _ _, _, h => by simp [cTgt] at h
  | .SetComp _ _ _ _, _, h => by simp [cTgt] at h
  | .DictComp _ _ _ _ _, _, h => by simp [cTgt] at h
  | .GeneratorExp _ _ _ _, _, h => by simp [cTgt] at h
  | .Await _ _, _, h => by simp [cTgt] at h
  | .Yield _ _, _, h => by simp [cTgt] at h
  | .YieldFrom _ _, _, h => by simp [cTgt] at h
  | .Compare _ _ _ _, _, h => by simp [cTgt] at h
  | .Call _ _ _ _, _, h => by simp [cTgt] at h
  | .FormattedValue _ _ _ _, _, h => by simp [cTgt] at h
  | .JoinedStr _ _, _, h => by simp [cTgt] at h
  | .Constant _ _ _, _, h => by simp [cTgt] at h
  | .Attribute _ _ _, _, h => by simp [cTgt] at h
  | .Subscript _ _ _, _, h => by simp [cTgt] at h
  | .Starred _ _, _, h => by simp [cTgt] at h
  | .List _ _, _, h => by simp [cTgt] at h
  | .Slice _ _ _ _, _, h => by simp [cTgt] at h
theorem gs_ok (G : Good C X W T n) : ∀ {es : List Expr} {gs : List Tgt}, tgts C es = some gs → PGs X es (rdGs T gs (tgtsIx C es))
  | [], gs, h => by
    simp only [tgts, Option.some.injEq] at h
    subst h
    refine pgs_nil.imp fun vs σ H Q ⟨F, m, μ, ρ, ds, ρ', rl, en, r, e, q⟩ => ?_
    have hl := gsGo_len e
    cases r with
    | nil => cases e; exact ⟨rfl, q _ en rfl fun _ _ => rfl⟩
    | cons _ _ => simp at hl
  | e :: r, gs, h => by
    unfold tgts at h
    split at h
    · rename_i g gs' h1 h2
      cases h
      refine (pgs_cons (g_ok G h1) (gs_ok G h2) (assign_eq (tgt_star h1))).imp fun vs σ H Q ⟨F, m, μ, ρ, ds, ρ', rl, en, t, e', q⟩ => ?_
      cases t with
      | nil => simp [gsGo] at e'
      | cons r0 t =>
        simp only [gsGo, Option.bind_eq_some_iff] at e'
        obtain ⟨ρ1, e1, e2⟩ := e'
        refine ⟨_, _, rfl, F, m, μ, ρ, _, ρ1, rl, en, r0, e1, fun σ1 en1 l1 o1 => ⟨F, m, μ, ρ1, _, ρ', rl, en1, t, e2, fun σ2 en2 l2 o2 => q σ2 en2 (l2.trans l1) fun i hi => ?_⟩⟩
        simp only [tgtsIx, List.mem_append, not_or] at hi
        rw [o2 i hi.2, o1 i hi.1]
    · cases h
end
end
end Gs
/-! GsEnum: enumerate over a tuple. -/
namespace PySem
open Sem (wp)
open AutoSeq1 (wpAny_loadPart')
theorem gs_meets_enumT (l : Addr) (items : Array Value) :
    Meets (Builtin.«enumerate.__new__» ⟨[.type "enumerate", .ref l], []⟩) (fun _ R s => s.heap.IsTuple l items ∧
      R (.ok (.ret (.ref (s.heap.push { cls := .type "tuple_iterator", data := .fields #[.ref l, .int 0 0] }).objs.size)))
        { s with heap := (s.heap.push { cls := .type "tuple_iterator", data := .fields #[.ref l, .int 0 0] }).push { cls := .type "enumerate", data := .fields #[.none, .bool false, .ref s.heap.objs.size, rawInt 0, .none, .none] } }) :=
  .of_wp fun prog w A R s h => by
    obtain ⟨hp, g, d, tk, os⟩ := s; obtain ⟨hl, h⟩ := h
    have hsub := sub_enumerate
    have hL : Heap.IsTuple (Shared.heap ⟨hp, g, d, tk, os⟩) l items := hl
    wp_walk
    refine wpAny_stack_any fun st => wpAny_pure ?_
    split
    · rename_i c _ _ _ _ _
      cases (c == Value.type "enumerate")
      · wp_walk using wpAny_pyIter_tuple hL
        exact ⟨_, rfl, h⟩
      · wp_walk using wpAny_pyIter_tuple hL
        exact ⟨_, rfl, h⟩
    · wp_walk using wpAny_pyIter_tuple hL
      exact ⟨_, rfl, h⟩
section
variable {prog : Program} {w : World} {A : Around} {E : Value → Shared → Prop} {s : Shared}
theorem gs_call_enumT {l : Addr} {items : Array Value} {Q : Value → Shared → Prop} (hL : s.heap.IsTuple l items)
    (h : ∀ h', IsEnum h' (s.heap.objs.size + 1) s.heap.objs.size 0 .none → h'.IsTupleIter s.heap.objs.size l 0 → h'.objs.size = s.heap.objs.size + 2 →
      (∀ b o, s.heap.get? b = some o → h'.get? b = some o) → Q (.ref (s.heap.objs.size + 1)) { s with heap := h' }) :
    wpAny (model prog w) A (call (.type "enumerate") [.ref l]) Q E s := by
  refine callType_new F.called_enumerate (by decide) (F.typeCall_enumerate_1 _) (F.newCall_enumerate_1 _) (fun obj => F.args_object_init_2 obj _) F.entry_enumerate_new
    (gs_meets_enumT l items) ⟨hL, ?_⟩
  have hz : (s.heap.push { cls := .type "tuple_iterator", data := .fields #[.ref l, .int 0 0] }).objs.size = s.heap.objs.size + 1 := Heap.size_push ..
  show _ ∧ _
  rw [hz]
  have he : IsEnum ((s.heap.push { cls := .type "tuple_iterator", data := .fields #[.ref l, .int 0 0] }).push
      { cls := .type "enumerate", data := .fields #[.none, .bool false, .ref s.heap.objs.size, rawInt 0, .none, .none] }) (s.heap.objs.size + 1) s.heap.objs.size 0 .none := by
    have := Heap.get?_push_size (s.heap.push { cls := .type "tuple_iterator", data := .fields #[.ref l, .int 0 0] })
      (o := { cls := .type "enumerate", data := .fields #[.none, .bool false, .ref s.heap.objs.size, rawInt 0, .none, .none] }) rfl
    rw [hz] at this; exact this
  refine ⟨⟨_, he, rfl⟩, h _ he ⟨_, Heap.get?_push_of_some _ (Heap.get?_push_size _ rfl), rfl, rfl⟩ (by rw [Heap.size_push, hz]) fun b o x => Heap.get?_push_of_some _ (Heap.get?_push_of_some _ x)⟩
theorem gs_drawsT (hh : A.handled = none) (it l : Addr) (hne : l ≠ it) (items : Array Value) :
    Draws prog w A it [it, l] items.size (fun i v => items[i]? = some v) (fun i h => h.IsTupleIter it l i ∧ h.IsTuple l items) where
  live := fun _ _ st => let ⟨o, ho, _⟩ := st.1; ⟨o, ho⟩
  frame := fun _ _ _ st hk => ⟨st.1.at fun o e => hk it (by simp) o e, st.2.at fun o e => hk l (by simp) o e⟩
  item := fun i s Q E hi st hQ => by
    refine RZ.nextOf_tuple_item st.1 st.2 (x := items[i]) (by simp [hi]) fun h' hit' hs' => ?_
    exact hQ _ h' s.toks (by simp [hi]) ⟨hit', st.2.extBut hs'.extBut hne⟩ hs'
  done := fun s Q E st hE => RZ.nextOf_tuple_end hh st.1 st.2 (by simp) hE
end
end PySem
namespace L2
open PySem PySem.Spec PyProof.Rows
/-- the tuple at a, each item in a new pair -/
def IteT (K : PySem.W.Frag) (a : Addr) : It :=
  ⟨fun i H => ∃ (xs : List V) (x : V), SqT K H a xs ∧ xs[i]? = some x, fun i H v H' => ∃ T x, v = .ref T ∧ H T = none ∧ H' = upd H T (.tup [.int (i : Nat), x]) ∧ ∀ xs, SqT K H a xs → xs[i]? = some x, fun i H => ∃ xs : List V, SqT K H a xs ∧ xs.length ≤ i⟩
theorem turn_enumT {P : Program} {w : World} {K : PySem.W.Frag} {elts : List Expr} {kk : Nat} {tpos : Pos} (a e it : Addr) (hai : a ≠ it) (hae : a ≠ e) :
    Turn P w K (.Tuple elts kk tpos) (IteT K a) [e, it] e (fun i h => (∃ old, IsEnum h e it ((i : Nat) : Int) old) ∧ h.IsTupleIter it a i ∧ e ≠ it) where
  mem := by simp
  obj := fun i h st b hb => by
    obtain ⟨⟨old, he⟩, ⟨o, ho, hc, hd⟩, _⟩ := st
    have e' : b = e ∨ b = it := by simpa using hb
    rcases e' with z | z
    · rw [z]; exact ⟨_, he, fun v q => nomatch q⟩
    · rw [z]; exact ⟨o, ho, fun v q => by rw [hd] at q; cases q⟩
  keep := fun i h h' st k => let ⟨⟨old, he⟩, hi, hne⟩ := st; ⟨⟨old, k e (by simp) _ he⟩, hi.at fun o q => k it (by simp) o q, hne⟩
  item := by
    intro X hP hw hK hc i pins s σ H E I hf st hg
    subst hP hw hK
    obtain ⟨⟨old, he⟩, hit, hne⟩ := st
    obtain ⟨xs, x, hq, hx⟩ := hg
    obtain ⟨its, rv, p, hz⟩ := I.tuple hq
    obtain ⟨u, hu, ru⟩ := rv.get hx
    have hel : e < s.heap.objs.size := Heap.lt_size he
    have hil : it < s.heap.objs.size := by obtain ⟨_, q, _⟩ := hit; exact Heap.lt_size q
    have hlt : i < its.toArray.size := by
      have := List.getElem?_eq_some_iff.mp hu
      obtain ⟨h, _⟩ := this
      simpa using h
    refine wpAny_pyNext_enum_itemD (gs_drawsT (A := X.A.in1) (I.ok.hd hc) it a hai its.toArray) he ⟨hit, (show s.heap.IsTuple a its.toArray from p)⟩ hlt hne (by simp [hne, hae.symm]) fun y h' tk hy ho hit' hT hsz hk => ?_
    have hyu : y = u := by
      have h1 : its[i]? = some y := by simpa using hy
      rw [hu] at h1; exact (Option.some.inj h1).symm
    subst hyu
    refine ⟨_, rfl, wpAny_letOwnedTupleGo_enum (s := { s with heap := h', toks := tk + 1 }) ho fun h'' he' sb => ?_⟩
    have hT2 : h''.get? s.heap.objs.size = some { cls := .type "tuple", data := .seq #[.int i tk, y] } := (sb.2 _ (Nat.ne_of_gt hel)).trans hT
    have new : ObjOk X.prog X.w (upd H s.heap.objs.size (.tup [.int (i : Nat), x])) h'' s.heap.objs.size (.tup [.int (i : Nat), x]) :=
      ⟨by show 2 ≤ sizeLine; decide, [.int i tk, y], .cons ⟨_, rfl⟩ (.cons ru .nil), ⟨_, hT2, rfl, _, rfl⟩⟩
    have I1 : Inv X pins σ (upd H s.heap.objs.size (.tup [.int (i : Nat), x])) { s with heap := h'', toks := tk + 1 } :=
      I.turnedNew (ch := [e, it]) (fun b ob hb q => (sb.2 b (fun z => hb (by simp [z]))).trans (hk b ob (fun z => hb (by simp [z])) (fun z => hb (by simp [z])) q)) hf (Nat.le_refl _) new
    refine ⟨.ref s.heap.objs.size, _, I1, rfl, ⟨_, x, rfl, I.hok.fresh (Nat.le_refl _), rfl, fun ys hy => by rw [I.tuple_inj hy hq]; exact hx⟩, ⟨⟨y, ?_⟩, hit'.1.at fun o q => (sb.2 it (Ne.symm hne)).trans q, hne⟩, fun b hb => ?_⟩
    · have e1 : ((i + 1 : Nat) : Int) = (i : Int) + 1 := by omega
      rw [e1]; exact he'
    · have hb' : b < s.heap.objs.size := by
        have e' : b = e ∨ b = it := by simpa using hb
        rcases e' with z | z
        · rw [z]; exact hel
        · rw [z]; exact hil
      rw [upd_ne (Nat.ne_of_lt hb')]
      exact (hf b hb).1
  done := by
    intro X hP hw hK hc i pins s σ H E I hf st hg
    subst hP hw hK
    obtain ⟨⟨old, he⟩, hit, hne⟩ := st
    obtain ⟨xs, hq, hx⟩ := hg
    obtain ⟨its, rv, p, hz⟩ := I.tuple hq
    obtain ⟨f0, f1, f2, f3, f4, f5⟩ := hf it (by simp)
    have hl := rv.length
    have hT : s.TypeIs (.ref e) "enumerate" := ⟨_, he, rfl⟩
    unfold pyNext
    refine wpAny_bind (wpAny_attempt (wpAny_callSpecial?_slot (name := Str.ofString "__next__") hT F.slot_enumerate_next
      (wpAny_call_entry F.slot_enumerate_next hT F.entry_enumerate_next ?_ (F.args_enumerate_next_1 _))))
    show wpAny _ _ (field (.ref e) 2 >>= _) _ _ _
    refine wpAny_bind (wpAny_field he rfl (x := .ref it) rfl ?_)
    refine wpAny_bind (RZ.nextOf_tuple_end (I.ok.hd hc) hit (show s.heap.IsTuple a its.toArray from p) (by simp; omega) fun h' x he' hx' => ?_)
    obtain ⟨o, ho, hcl⟩ := hx'
    refine wpAny_bind (wpAny_isInstance (T := "StopIteration") (b := true) ⟨o, ho, hcl⟩ isSubtype_stop ?_)
    exact wpAny_pure ⟨rfl, I.turned (t' := s.toks) (fun b o hb q => he' b o hb q) f0 f1 f3 f4 f5⟩
  self := fun A i s Q E st h => let ⟨⟨_, he⟩, _⟩ := st; wpAny_pyIter_enum he h
def iEnumT (K : PySem.W.Frag) (ta : TA) : TI := fun σ H R => ta σ H fun vs H1 => ∃ a, vs = [.ref a] ∧ ((∃ xs, SqL K H1 a xs) ∧ R (Ite K a) H1 ∨ (∃ xs, SqT K H1 a xs) ∧ R (IteT K a) H1)
theorem pi_enumT {X : Cx} {e : Expr} {ta : TA} {p pos tpos : Pos} {elts : List Expr} {kk : Nat} (hg : Gl X "enumerate") (hm : X.mg "enumerate" = none) (ha : PA X [e] ta) (hs : starEach [e] X.env = [(false, eval e X.env)] := by rfl) :
    PI X (.Tuple elts kk tpos) (.Call (.Name "enumerate" p) [e] [] pos) (iEnumT X.K ta) := by
  refine ⟨fun pins s σ H R I h => ?_⟩
  refine Call_ (ld_blt I hg hm boot_enumerate (PyProof.Rows.callWith_type1 (thn (ha.run pos pins s σ H _ I h) fun us s1 ⟨vs, H1, I1, r1, q1⟩ => ?_) hs rfl))
  obtain ⟨a, ex, q⟩ := q1
  subst ex
  have fr : ∀ b ∈ [s1.heap.objs.size + 1, s1.heap.objs.size], FpOk X pins H1 b := fun b hb => by
    have e' : b = s1.heap.objs.size + 1 ∨ b = s1.heap.objs.size := by simpa using hb
    have hle : s1.heap.objs.size ≤ b := by
      rcases e' with z | z
      · rw [z]; exact Nat.le_add_right _ _
      · rw [z]; exact Nat.le_refl _
    exact I1.fpOk hle (I1.hok.fresh hle)
  cases r1 with
  | cons r rr =>
    cases rr
    cases r
    rcases q with ⟨⟨xs, hq⟩, q⟩ | ⟨⟨xs, hq⟩, q⟩
    · obtain ⟨its, rv, p', hz⟩ := I1.list hq
      refine call_enumerate_list p'.isList fun h' he hit hsz hk => wpAny_pyIter_enum he ?_
      have I2 : Inv X pins σ H1 { s1 with heap := h' } := I1.kept (t' := s1.toks) hk
      exact ⟨s1.heap.objs.size + 1, [s1.heap.objs.size + 1, s1.heap.objs.size], _, _, H1, rfl, I2, turn_enum a (s1.heap.objs.size + 1) s1.heap.objs.size, ⟨⟨.none, he⟩, hit, Nat.succ_ne_self _⟩, fr, q⟩
    · obtain ⟨its, rv, p', hz⟩ := I1.tuple hq
      have pt : s1.heap.IsTuple a its.toArray := p'
      have hlt : a < s1.heap.objs.size := by obtain ⟨o, ho, _⟩ := id pt; exact Heap.lt_size ho
      refine gs_call_enumT pt fun h' he hit hsz hk => wpAny_pyIter_enum he ?_
      have I2 : Inv X pins σ H1 { s1 with heap := h' } := I1.kept (t' := s1.toks) hk
      exact ⟨s1.heap.objs.size + 1, [s1.heap.objs.size + 1, s1.heap.objs.size], _, _, H1, rfl, I2, turn_enumT a (s1.heap.objs.size + 1) s1.heap.objs.size (Nat.ne_of_lt hlt) (Nat.ne_of_lt (Nat.lt_succ_of_lt hlt)), ⟨⟨.none, he⟩, hit, Nat.succ_ne_self _⟩, fr, q⟩
end L2
/-! GsS9: what is walked. -/
namespace Gs
open PySem PySem.Spec L2
section
variable {X : Cx} {T : Tb} {W : WX} {C : Cxt} {n : Nat} {a b c e : Expr} {fa fb fc f : Ex} {p pos : Pos} {tg : Expr}
/-- an iterator that goes through w -/
def RI (T : Tb) (F : Hp) (m : At) (_ : Hp) (J : It) (w : Wk) : Prop := ∃ G Y, Walk J w.len G Y ∧ (∀ P F' m' μ' H', Sub F m F' m' → Rel (T.wp P) F' m' μ' H' → w.ok μ' = true → G H') ∧
  ∀ i P F' m' μ' H0 x H1 d, i < w.len → Sub F m F' m' → Rel (T.wp P) F' m' μ' H0 → w.ok μ' = true → Y i H0 x H1 → w.at_ i μ' = some d → ∃ F2, Sub F' m' F2 m' ∧ Rel (T.wp P) F2 m' μ' H1 ∧ Rep (T.wp P) F2 m' x d
def rdI (T : Tb) (W : WX) (f : Itr) : TI := fun σ H R => ∃ F m μ ρ, Rel T F m μ H ∧ EnvR T F m σ ρ ∧ Post T (RI T) F m (f ρ μ) R (fun C dx H' => W (.ref C) (some dx) σ H')
theorem _root_.L2.PI.imp {X : Cx} {tg e : Expr} {t t' : TI} (h : PI X tg e t) (k : ∀ σ H Q, t' σ H Q → t σ H Q) : PI X tg e t' := ⟨fun pins s σ H Q I hw => h.run pins s σ H Q I (k σ H Q hw)⟩
theorem RI.up {F F' : Hp} {m m' : At} {H H' : Hp} {J : It} {w : Wk} (s : Sub F m F' m') (h : RI T F m H J w) : RI T F' m' H' J w := by
  obtain ⟨G, Y, h1, h2, h3⟩ := h
  exact ⟨G, Y, h1, fun P F2 m2 μ2 H2 s2 => h2 P F2 m2 μ2 H2 (s.trans s2), fun i P F2 m2 μ2 H0 x H1 d hi s2 => h3 i P F2 m2 μ2 H0 x H1 d hi (s.trans s2)⟩
/-- a list, a tuple at a whose items are w's -/
def LsOf (T : Tb) (F : Hp) (m : At) (a : Addr) (w : Wk) : Prop := ∀ P F' m' μ' H', Sub F m F' m' → Rel (T.wp P) F' m' μ' H' → w.ok μ' = true → ∃ vs, SqL T.K H' a vs ∧ vs.length = w.len ∧ ∀ i d, w.at_ i μ' = some d → ∃ v, vs[i]? = some v ∧ Rep (T.wp P) F' m' v d
def TsOf (T : Tb) (F : Hp) (m : At) (a : Addr) (w : Wk) : Prop := ∀ P F' m' μ' H', Sub F m F' m' → Rel (T.wp P) F' m' μ' H' → w.ok μ' = true → ∃ vs, SqT T.K H' a vs ∧ vs.length = w.len ∧ ∀ i d, w.at_ i μ' = some d → ∃ v, vs[i]? = some v ∧ Rep (T.wp P) F' m' v d
theorem of_wkL {F : Hp} {m : At} {vs : List V} {xs : List D} (t : Reps T F m vs xs) {P : Hp} {F' : Hp} {m' : At} {μ' : Mu} {H' : Hp} (s : Sub F m F' m') (rl : Rel (T.wp P) F' m' μ' H') {i : Nat} {d : D} (e : (wkL xs).at_ i μ' = some d) : ∃ v, vs[i]? = some v ∧ Rep (T.wp P) F' m' v d := by
  obtain ⟨d0, h1, rfl⟩ := Option.map_eq_some_iff.mp e
  obtain ⟨v, h2, h3⟩ := t.get h1
  exact ⟨v, h2, rl.rs ((h3.up s).wp P)⟩
/-- what wkSq walks -/
theorem sq_src {F : Hp} {m : At} {μ : Mu} {H : Hp} {v : V} {d : D} {w : Wk} (rl : Rel T F m μ H) (r : Rep T F m v d) (e : wkSq μ d = some w) : ∃ a, v = .ref a ∧ ((tupD μ d = false ∧ LsOf T F m a w ∧ ∃ xs, SqL T.K H a xs) ∨ (tupD μ d = true ∧ TsOf T F m a w ∧ ∃ xs, SqT T.K H a xs)) := by
  have r1 := rl.rs r
  unfold wkSq at e
  unfold tupD
  split at e
  · rename_i xs q
    rw [q] at r1 ⊢
    cases e
    obtain ⟨a, vs, rfl, hq, t⟩ := r1.vTup
    exact ⟨a, rfl, .inr ⟨rfl, fun P F' m' μ' H' s rl' _ => ⟨vs, SqT.up (fun a o h => rl'.sub a o (s.h a o h)) hq, t.length, fun i d e => of_wkL t s rl' e⟩, vs, SqT.up rl.sub hq⟩⟩
  · rename_i xs q
    rw [q] at r1 ⊢
    cases e
    obtain ⟨a, vs, rfl, hq, t⟩ := r1.vLst
    exact ⟨a, rfl, .inl ⟨rfl, fun P F' m' μ' H' s rl' _ => ⟨vs, SqL.of (rl'.sub _ _ (s.h _ _ hq)), t.length, fun i d e => of_wkL t s rl' e⟩, vs, SqL.of (rl.sub _ _ hq)⟩⟩
  · rename_i xs q
    rw [q] at r1 ⊢
    cases e
    cases r1 with
    | rol hq t =>
      exact ⟨_, rfl, .inl ⟨rfl, fun P F' m' μ' H' s rl' _ => ⟨_, SqL.up (fun a o h => rl'.sub a o (s.h a o h)) hq, t.length, fun i d e => of_wkL t s rl' e⟩, _, SqL.up rl.sub hq⟩⟩
  · rename_i k q
    rw [q] at r1 ⊢
    split at e
    · rename_i xs q2
      cases e
      obtain ⟨a, vs, rfl, hm, hF, hH, t⟩ := ref_lst rl r1 q2
      refine ⟨a, rfl, .inl ⟨rfl, fun P F' m' μ' H' s rl' hok => ?_, vs, SqL.of hH⟩⟩
      simp only [wkRef] at hok
      split at hok
      · rename_i ys q3
        obtain ⟨a', ws, e1, hm', hF', hH', t'⟩ := ref_lst rl' (.ref (s.m _ _ hm)) q3
        cases e1
        refine ⟨ws, SqL.of hH', by rw [t'.length]; exact Nat.eq_of_beq_eq_true hok, fun i d e => ?_⟩
        simp only [wkRef, q3] at e
        obtain ⟨d0, h1, rfl⟩ := Option.map_eq_some_iff.mp e
        obtain ⟨v, h2, h3⟩ := t'.get h1
        exact ⟨v, h2, rl'.rs h3⟩
      · cases hok
    · cases e
  · cases e
theorem ri_list {F : Hp} {m : At} {H : Hp} {a : Addr} {w : Wk} (h : LsOf T F m a w) : RI T F m H (Itl T.K a) w := by
  refine ⟨fun H => ∃ vs, SqL T.K H a vs ∧ vs.length = w.len, fun i H x H' => H' = H ∧ ∀ vs, SqL T.K H a vs → vs[i]? = some x, ⟨fun i H hi ⟨vs, q, l⟩ => ⟨vs, vs[i]'(by omega), q, by simp [l, hi]⟩, fun H ⟨vs, q, l⟩ => ⟨vs, q, by omega⟩, fun i H x H' _ _ y => y⟩, fun P F' m' μ' H' s rl hok => ?_, fun i P F' m' μ' H0 x H1 d hi s rl hok y e => ?_⟩
  · obtain ⟨vs, h1, h2, _⟩ := h P F' m' μ' H' s rl hok
    exact ⟨vs, h1, h2⟩
  · obtain ⟨vs, h1, h2, h3⟩ := h P F' m' μ' H0 s rl hok
    obtain ⟨rfl, y⟩ := y
    obtain ⟨v, v1, v2⟩ := h3 i d e
    have := y vs h1
    rw [v1] at this
    cases this
    exact ⟨F', Sub.refl, rl, v2⟩
theorem ri_tup {F : Hp} {m : At} {H : Hp} {a : Addr} {w : Wk} (h : TsOf T F m a w) : RI T F m H (Itt T.K a) w := by
  refine ⟨fun H => ∃ vs, SqT T.K H a vs ∧ vs.length = w.len, fun i H x H' => H' = H ∧ ∀ vs, SqT T.K H a vs → vs[i]? = some x, ⟨fun i H hi ⟨vs, q, l⟩ => ⟨vs, vs[i]'(by omega), q, by simp [l, hi]⟩, fun H ⟨vs, q, l⟩ => ⟨vs, q, by omega⟩, fun i H x H' _ _ y => y⟩, fun P F' m' μ' H' s rl hok => ?_, fun i P F' m' μ' H0 x H1 d hi s rl hok y e => ?_⟩
  · obtain ⟨vs, h1, h2, _⟩ := h P F' m' μ' H' s rl hok
    exact ⟨vs, h1, h2⟩
  · obtain ⟨vs, h1, h2, h3⟩ := h P F' m' μ' H0 s rl hok
    obtain ⟨rfl, y⟩ := y
    obtain ⟨v, v1, v2⟩ := h3 i d e
    have := y vs h1
    rw [v1] at this
    cases this
    exact ⟨F', Sub.refl, rl, v2⟩
/-- a new pair -/
theorem pair_up {F : Hp} {m : At} {μ : Mu} {H : Hp} {Ta : Addr} {x y : V} {dx dy : D} (rl : Rel T F m μ H) (hT : H Ta = none) (r1 : Rep T F m x dx) (r2 : Rep T F m y dy) : ∃ F2, Sub F m F2 m ∧ Rel T F2 m μ (upd H Ta (.tup [x, y])) ∧ Rep T F2 m (.ref Ta) (.tup [dx, dy]) :=
  ⟨_, rn_tup rl (.cons r1 (.cons r2 .nil)) hT⟩
theorem ri_enumL {F : Hp} {m : At} {H : Hp} {a : Addr} {w : Wk} (h : LsOf T F m a w) : RI T F m H (Ite T.K a) (wkEnum w) := by
  refine ⟨fun H => ∃ vs, SqL T.K H a vs ∧ vs.length = w.len, fun i H v H' => ∃ T' x, v = .ref T' ∧ H T' = none ∧ H' = upd H T' (.tup [.int (i : Nat), x]) ∧ ∀ xs, SqL T.K H a xs → xs[i]? = some x,
    ⟨fun i H hi ⟨vs, q, l⟩ => ⟨vs, vs[i]'(by have : i < w.len := hi; omega), q, by have : i < w.len := hi; simp [l, this]⟩, fun H ⟨vs, q, l⟩ => ⟨vs, q, by show vs.length ≤ w.len; omega⟩, fun i H x H' _ _ y => y⟩, fun P F' m' μ' H' s rl hok => ?_, fun i P F' m' μ' H0 x H1 d hi s rl hok y e => ?_⟩
  · obtain ⟨vs, h1, h2, _⟩ := h P F' m' μ' H' s rl hok
    exact ⟨vs, h1, h2⟩
  · obtain ⟨vs, h1, h2, h3⟩ := h P F' m' μ' H0 s rl hok
    obtain ⟨T', x', rfl, hT, rfl, y⟩ := y
    obtain ⟨d0, e0, rfl⟩ := Option.map_eq_some_iff.mp e
    obtain ⟨v, v1, v2⟩ := h3 i d0 e0
    have := y vs h1
    rw [v1] at this
    cases this
    exact pair_up rl hT (.int _) v2
theorem ri_enumT {F : Hp} {m : At} {H : Hp} {a : Addr} {w : Wk} (h : TsOf T F m a w) : RI T F m H (IteT T.K a) (wkEnum w) := by
  refine ⟨fun H => ∃ vs, SqT T.K H a vs ∧ vs.length = w.len, fun i H v H' => ∃ T' x, v = .ref T' ∧ H T' = none ∧ H' = upd H T' (.tup [.int (i : Nat), x]) ∧ ∀ xs, SqT T.K H a xs → xs[i]? = some x,
    ⟨fun i H hi ⟨vs, q, l⟩ => ⟨vs, vs[i]'(by have : i < w.len := hi; omega), q, by have : i < w.len := hi; simp [l, this]⟩, fun H ⟨vs, q, l⟩ => ⟨vs, q, by show vs.length ≤ w.len; omega⟩, fun i H x H' _ _ y => y⟩, fun P F' m' μ' H' s rl hok => ?_, fun i P F' m' μ' H0 x H1 d hi s rl hok y e => ?_⟩
  · obtain ⟨vs, h1, h2, _⟩ := h P F' m' μ' H' s rl hok
    exact ⟨vs, h1, h2⟩
  · obtain ⟨vs, h1, h2, h3⟩ := h P F' m' μ' H0 s rl hok
    obtain ⟨T', x', rfl, hT, rfl, y⟩ := y
    obtain ⟨d0, e0, rfl⟩ := Option.map_eq_some_iff.mp e
    obtain ⟨v, v1, v2⟩ := h3 i d0 e0
    have := y vs h1
    rw [v1] at this
    cases this
    exact pair_up rl hT (.int _) v2
theorem ri_zipL {F : Hp} {m : At} {H : Hp} {a b : Addr} {w v : Wk} (h : LsOf T F m a w) (g : LsOf T F m b v) : RI T F m H (Itz T.K a b) (wkZip w v) := by
  refine ⟨fun H => ∃ xs ys, SqL T.K H a xs ∧ SqL T.K H b ys ∧ xs.length = w.len ∧ ys.length = v.len, fun i H u H' => ∃ T' x y, u = .ref T' ∧ H T' = none ∧ H' = upd H T' (.tup [x, y]) ∧ (∀ xs, SqL T.K H a xs → xs[i]? = some x) ∧ ∀ ys, SqL T.K H b ys → ys[i]? = some y,
    ⟨fun i H hi ⟨xs, ys, q1, q2, l1, l2⟩ => ?_, fun H ⟨xs, ys, q1, q2, l1, l2⟩ => ⟨xs, ys, q1, q2, ?_⟩, fun i H x H' _ _ y => y⟩, fun P F' m' μ' H' s rl hok => ?_, fun i P F' m' μ' H0 x H1 d hi s rl hok y e => ?_⟩
  · have hi : i < min w.len v.len := hi
    have h1 : i < xs.length := by omega
    have h2 : i < ys.length := by omega
    exact ⟨xs, ys, xs[i], ys[i], q1, q2, by simp [h1], by simp [h2]⟩
  · show xs.length ≤ min w.len v.len ∨ ys.length ≤ min w.len v.len
    omega
  · have hok : (w.ok μ' && v.ok μ') = true := hok
    simp only [Bool.and_eq_true] at hok
    obtain ⟨xs, h1, h2, _⟩ := h P F' m' μ' H' s rl hok.1
    obtain ⟨ys, g1, g2, _⟩ := g P F' m' μ' H' s rl hok.2
    exact ⟨xs, ys, h1, g1, h2, g2⟩
  · have hok : (w.ok μ' && v.ok μ') = true := hok
    simp only [Bool.and_eq_true] at hok
    obtain ⟨xs, h1, h2, h3⟩ := h P F' m' μ' H0 s rl hok.1
    obtain ⟨ys, g1, g2, g3⟩ := g P F' m' μ' H0 s rl hok.2
    obtain ⟨T', x', y', rfl, hT, rfl, y1, y2⟩ := y
    simp only [wkZip] at e
    split at e
    · rename_i dx dy e1 e2
      cases e
      obtain ⟨u1, a1, a2⟩ := h3 i dx e1
      obtain ⟨u2, b1, b2⟩ := g3 i dy e2
      have t1 := y1 xs h1
      have t2 := y2 ys g1
      rw [a1] at t1
      rw [b1] at t2
      cases t1
      cases t2
      exact pair_up rl hT a2 b2
    · cases e
theorem ri_zipT {F : Hp} {m : At} {H : Hp} {a b : Addr} {w v : Wk} (h : TsOf T F m a w) (g : TsOf T F m b v) : RI T F m H (RZ.ItzT T.K a b) (wkZip w v) := by
  refine ⟨fun H => ∃ xs ys, SqT T.K H a xs ∧ SqT T.K H b ys ∧ xs.length = w.len ∧ ys.length = v.len, fun i H u H' => ∃ T' x y, u = .ref T' ∧ H T' = none ∧ H' = upd H T' (.tup [x, y]) ∧ (∀ xs, SqT T.K H a xs → xs[i]? = some x) ∧ ∀ ys, SqT T.K H b ys → ys[i]? = some y,
    ⟨fun i H hi ⟨xs, ys, q1, q2, l1, l2⟩ => ?_, fun H ⟨xs, ys, q1, q2, l1, l2⟩ => ⟨xs, ys, q1, q2, ?_⟩, fun i H x H' _ _ y => y⟩, fun P F' m' μ' H' s rl hok => ?_, fun i P F' m' μ' H0 x H1 d hi s rl hok y e => ?_⟩
  · have hi : i < min w.len v.len := hi
    have h1 : i < xs.length := by omega
    have h2 : i < ys.length := by omega
    exact ⟨xs, ys, xs[i], ys[i], q1, q2, by simp [h1], by simp [h2]⟩
  · show xs.length ≤ min w.len v.len ∨ ys.length ≤ min w.len v.len
    omega
  · have hok : (w.ok μ' && v.ok μ') = true := hok
    simp only [Bool.and_eq_true] at hok
    obtain ⟨xs, h1, h2, _⟩ := h P F' m' μ' H' s rl hok.1
    obtain ⟨ys, g1, g2, _⟩ := g P F' m' μ' H' s rl hok.2
    exact ⟨xs, ys, h1, g1, h2, g2⟩
  · have hok : (w.ok μ' && v.ok μ') = true := hok
    simp only [Bool.and_eq_true] at hok
    obtain ⟨xs, h1, h2, h3⟩ := h P F' m' μ' H0 s rl hok.1
    obtain ⟨ys, g1, g2, g3⟩ := g P F' m' μ' H0 s rl hok.2
    obtain ⟨T', x', y', rfl, hT, rfl, y1, y2⟩ := y
    simp only [wkZip] at e
    split at e
    · rename_i dx dy e1 e2
      cases e
      obtain ⟨u1, a1, a2⟩ := h3 i dx e1
      obtain ⟨u2, b1, b2⟩ := g3 i dy e2
      have t1 := y1 xs h1
      have t2 := y2 ys g1
      rw [a1] at t1
      rw [b1] at t2
      cases t1
      cases t2
      exact pair_up rl hT a2 b2
    · cases e
theorem ri_range {F : Hp} {m : At} {H : Hp} {lo : Int} {k : Nat} : RI T F m H (L2.Itr lo k) (wkRng lo k) :=
  ⟨_, _, walk_range, fun _ _ _ _ _ _ _ _ => trivial, fun i P F' m' μ' H0 x H1 d hi s rl hok y e => by
    obtain ⟨rfl, rfl⟩ := y
    cases e
    exact ⟨F', Sub.refl, rl, .int _⟩⟩
theorem ri_str {F : Hp} {m : At} {H : Hp} {z : Str} : RI T F m H (Its z) (wkStr z) :=
  ⟨_, _, walk_str, fun _ _ _ _ _ _ _ _ => trivial, fun i P F' m' μ' H0 x H1 d hi s rl hok y e => by
    obtain ⟨rfl, c, hc, rfl⟩ := y
    simp only [wkStr, hc] at e
    cases e
    exact ⟨F', Sub.refl, rl, .str _⟩⟩
/-! ### the walked expression -/
theorem pi_choose {t1 t2 t3 : TI} {e : Expr} (h1 : PI X tg e t1) (h2 : PI X tg e t2) (h3 : PI X tg e t3) : PI X tg e fun σ H R => t1 σ H R ∨ t2 σ H R ∨ t3 σ H R :=
  ⟨fun pins s σ H R I h => h.elim (h1.run pins s σ H R I) fun h => h.elim (h2.run pins s σ H R I) (h3.run pins s σ H R I)⟩
/-- a value's iterator: by what the value is -/
def iVal (K : PySem.W.Frag) (te : TE) : TI := fun σ H R => te σ H fun v H1 => (∃ a, v = .ref a ∧ (∃ xs, SqL K H1 a xs) ∧ R (Itl K a) H1) ∨ (∃ a, v = .ref a ∧ (∃ xs, SqT K H1 a xs) ∧ R (Itt K a) H1) ∨ ∃ x, v = .str x ∧ R (Its x) H1
theorem pi_val {e : Expr} {te : TE} (he : PE X e te) : PI X tg e (iVal X.K te) := by
  refine ⟨fun pins s σ H R I h => ?_⟩
  refine thn (he.run pins s σ H _ I h) fun v s1 ⟨y, H1, I1, r1, q⟩ => ?_
  rcases q with ⟨a, ex, ⟨xs, hq⟩, q⟩ | ⟨a, ex, ⟨xs, hq⟩, q⟩ | ⟨x, ex, q⟩
  · subst ex
    cases r1
    obtain ⟨its, rv, p, hz⟩ := I1.list hq
    refine wpAny_pyIter_list p.isList ?_
    refine ⟨s1.heap.objs.size, [s1.heap.objs.size], _, _, H1, rfl, I1.kept (t' := s1.toks) fun b o e => Heap.get?_push_of_some _ e, turn_list a _, ⟨_, Heap.get?_push_size _ rfl, rfl, rfl⟩, fun b hb => ?_, q⟩
    have e : b = s1.heap.objs.size := by simpa using hb
    subst e
    exact I1.fpOk (Nat.le_refl _) (I1.hok.fresh (Nat.le_refl _))
  · subst ex
    cases r1
    obtain ⟨its, rv, p, hz⟩ := I1.tuple hq
    refine wpAny_pyIter_tuple (show s1.heap.IsTuple a its.toArray from p) ?_
    refine ⟨s1.heap.objs.size, [s1.heap.objs.size], _, _, H1, rfl, I1.kept (t' := s1.toks) fun b o e => Heap.get?_push_of_some _ e, turn_tuple a _, ⟨_, Heap.get?_push_size _ rfl, rfl, rfl⟩, fun b hb => ?_, q⟩
    have e : b = s1.heap.objs.size := by simpa using hb
    subst e
    exact I1.fpOk (Nat.le_refl _) (I1.hok.fresh (Nat.le_refl _))
  · subst ex
    obtain ⟨t, rfl⟩ := r1
    cases ha : x.cps.all (· < 128)
    · exact wpAny_pyIter_wide ha (pi_one (tk := s1.toks) I1 _ (turn_str _ x t "str_iterator" (.inr rfl)) ⟨_, Heap.get?_push_size _ rfl, rfl, rfl⟩ q)
    · exact wpAny_pyIter_ascii ha (pi_one (tk := s1.toks) I1 _ (turn_str _ x t "str_ascii_iterator" (.inl rfl)) ⟨_, Heap.get?_push_size _ rfl, rfl, rfl⟩ q)
theorem i_seq (hK : X.K = T.K) (h : PE X e (rdE T W f)) : PI X tg e (rdI T W (iSeq f)) := (pi_val h).imp fun σ H R ⟨F, m, μ, ρ, rl, en, pp⟩ =>
  ⟨F, m, μ, ρ, rl, en, Post.bind pp fun v H1 F1 m1 d μ1 s1 r1 h1 p1 => by
    obtain ⟨w, ew, hQ⟩ := Post.optB p1
    unfold wkOf at ew
    split at ew
    · rename_i z q
      cases ew
      have h2 := r1.rs h1
      rw [q] at h2
      exact .inr (.inr ⟨z, h2.vStr, hQ _ _ _ _ Sub.refl r1 ri_str⟩)
    · rename_i q
      obtain ⟨a, rfl, hh⟩ := sq_src r1 h1 ew
      rcases hh with ⟨_, hl, hx⟩ | ⟨_, hl, hx⟩
      · exact .inl ⟨a, rfl, by rw [hK]; exact hx, by rw [hK]; exact hQ _ _ _ _ Sub.refl r1 (ri_list hl)⟩
      · exact .inr (.inl ⟨a, rfl, by rw [hK]; exact hx, by rw [hK]; exact hQ _ _ _ _ Sub.refl r1 (ri_tup hl)⟩)⟩
theorem range_name {x : Str} (G : Good C X W T n) (hx : okN x = true) (hk : C.kind x = some .globalImplicit) (hg : C.glob.lookup (nid x) = some .blt) : Gl X x ∧ X.mg x = none := ⟨gl_of G hk, G.mdl.blt x hx hg⟩
theorem i_rng1 {x : Str} (G : Good C X W T n) (hk : C.kind x = some .globalImplicit) (hg : C.glob.lookup (nid x) = some .blt) (hx : nid x = k_range) (h : PE X a (rdE T W fa)) (hs : isStar a = false) : PI X tg (.Call (.Name x p) [a] [] pos) (rdI T W (iRange1 fa)) := by
  obtain ⟨ok, _⟩ := kind_ok hk
  obtain ⟨h1, h2⟩ := range_name G ok hk hg
  obtain rfl := name_is (y := "range") ok hx (by decide +kernel) (by decide +kernel)
  refine (pi_range1 h1 h2 (pa_cons h pa_nil (star_eq hs)) (star_eq hs)).imp fun σ H R ⟨F, m, μ, ρ, rl, en, pp⟩ => ?_
  refine ⟨F, m, μ, ρ, rl, en, Post.bind pp fun v H1 F1 m1 d μ1 s1 r1 h1 p1 => ?_⟩
  split at p1
  · rename_i j
    split at p1
    · rename_i hj
      simp only [rngOk, Bool.and_eq_true, decide_eq_true_eq] at hj
      obtain rfl := h1.vInt
      exact ⟨j, rfl, hj.1, hj.2, p1 _ _ _ _ Sub.refl r1 ri_range⟩
    · exact p1.elim
  · exact p1.elim
theorem i_rng2 {x : Str} (G : Good C X W T n) (hk : C.kind x = some .globalImplicit) (hg : C.glob.lookup (nid x) = some .blt) (hx : nid x = k_range) (h : PE X a (rdE T W fa)) (g : PE X b (rdE T W fb)) (hs : isStar a = false) (hs2 : isStar b = false) : PI X tg (.Call (.Name x p) [a, b] [] pos) (rdI T W (iRange2 fa fb)) := by
  obtain ⟨ok, _⟩ := kind_ok hk
  obtain ⟨h1, h2⟩ := range_name G ok hk hg
  obtain rfl := name_is (y := "range") ok hx (by decide +kernel) (by decide +kernel)
  have e1 : starEach [b] X.env = [(false, eval b X.env)] := star_eq hs2
  have e2 : starEach [a, b] X.env = [(false, eval a X.env), (false, eval b X.env)] := by rw [star_eq hs, e1]
  refine (pi_range2 h1 h2 (pa_cons h (pa_cons g pa_nil (star_eq hs2)) (star_eq hs)) e2 e1).imp fun σ H R ⟨F, m, μ, ρ, rl, en, pp⟩ => ?_
  refine ⟨F, m, μ, ρ, rl, en, Post.bind pp fun v H1 F1 m1 d μ1 s1 r1 h1 p1 => ⟨F1, m1, μ1, ρ, r1, en.up s1, Post.bind p1 fun v2 H2 F2 m2 d2 μ2 s2 r2 h2 p2 => ?_⟩⟩
  split at p2
  · rename_i i j
    split at p2
    · rename_i hj
      simp only [rngOk, Bool.and_eq_true, decide_eq_true_eq] at hj
      obtain rfl := h1.vInt
      obtain rfl := h2.vInt
      exact ⟨i, j, rfl, ⟨hj.1.1, hj.1.2, hj.2.1, hj.2.2⟩, p2 _ _ _ _ Sub.refl r2 ri_range⟩
    · exact p2.elim
  · exact p2.elim
theorem i_enum {x : Str} {elts : List Expr} {kk : Nat} {tpos : Pos} (G : Good C X W T n) (hk : C.kind x = some .globalImplicit) (hg : C.glob.lookup (nid x) = some .blt) (hx : nid x = k_enumerate) (h : PE X a (rdE T W fa)) (hs : isStar a = false) : PI X (.Tuple elts kk tpos) (.Call (.Name x p) [a] [] pos) (rdI T W (Gs.iEnum fa)) := by
  obtain ⟨ok, _⟩ := kind_ok hk
  obtain ⟨h1, h2⟩ := range_name G ok hk hg
  obtain rfl := name_is (y := "enumerate") ok hx (by decide +kernel) (by decide +kernel)
  refine (pi_enumT h1 h2 (pa_cons h pa_nil (star_eq hs)) (star_eq hs)).imp fun σ H R ⟨F, m, μ, ρ, rl, en, pp⟩ => ?_
  refine ⟨F, m, μ, ρ, rl, en, Post.bind pp fun v H1 F1 m1 d μ1 s1 r1 h1 p1 => ?_⟩
  obtain ⟨w, ew, hQ⟩ := Post.optB p1
  obtain ⟨w', ew', rfl⟩ := Option.map_eq_some_iff.mp ew
  obtain ⟨a', rfl, hh⟩ := sq_src r1 h1 ew'
  refine ⟨a', rfl, ?_⟩
  rcases hh with ⟨_, hl, hx⟩ | ⟨_, hl, hx⟩
  · exact .inl ⟨by rw [G.K]; exact hx, by rw [G.K]; exact hQ _ _ _ _ Sub.refl r1 (ri_enumL hl)⟩
  · exact .inr ⟨by rw [G.K]; exact hx, by rw [G.K]; exact hQ _ _ _ _ Sub.refl r1 (ri_enumT hl)⟩
theorem i_zip {x : Str} {elts : List Expr} {kk : Nat} {tpos : Pos} (G : Good C X W T n) (hk : C.kind x = some .globalImplicit) (hg : C.glob.lookup (nid x) = some .blt) (hx : nid x = k_zip) (h : PE X a (rdE T W fa)) (g : PE X b (rdE T W fb)) (hs : isStar a = false) (hs2 : isStar b = false) : PI X (.Tuple elts kk tpos) (.Call (.Name x p) [a, b] [] pos) (rdI T W (Gs.iZip fa fb)) := by
  obtain ⟨ok, _⟩ := kind_ok hk
  obtain ⟨h1, h2⟩ := range_name G ok hk hg
  obtain rfl := name_is (y := "zip") ok hx (by decide +kernel) (by decide +kernel)
  refine (RZ.pi_zipA h1 h2 (pa_cons h (pa_cons g pa_nil (star_eq hs2)) (star_eq hs)) (star_eq hs) (star_any (by simp [hs2]))).imp fun σ H R ⟨F, m, μ, ρ, rl, en, pp⟩ => ?_
  refine ⟨F, m, μ, ρ, rl, en, Post.bind pp fun v H1 F1 m1 d μ1 s1 r1 h1 p1 => ⟨F1, m1, μ1, ρ, r1, en.up s1, Post.bind p1 fun v2 H2 F2 m2 d2 μ2 s2 r2 h2 p2 => ?_⟩⟩
  obtain ⟨w, ew, hQ⟩ := Post.optB p2
  split at ew
  · rename_i w1 w2 e1 e2
    split at ew
    · rename_i hb
      cases ew
      obtain ⟨a', rfl, hh⟩ := sq_src r2 (h1.up s2) e1
      obtain ⟨b', rfl, gg⟩ := sq_src r2 h2 e2
      rcases hh with ⟨t1, hl, ⟨xs, hx⟩⟩ | ⟨t1, hl, ⟨xs, hx⟩⟩
      · rcases gg with ⟨t2, gl, ⟨ys, gx⟩⟩ | ⟨t2, gl, ⟨ys, gx⟩⟩
        · exact ⟨a', b', xs, ys, rfl, .inl ⟨by rw [G.K]; exact hx, by rw [G.K]; exact gx, by rw [G.K]; exact hQ _ _ _ _ Sub.refl r2 (ri_zipL hl gl)⟩⟩
        · rw [t1, t2] at hb; cases hb
      · rcases gg with ⟨t2, gl, ⟨ys, gx⟩⟩ | ⟨t2, gl, ⟨ys, gx⟩⟩
        · rw [t1, t2] at hb; cases hb
        · exact ⟨a', b', xs, ys, rfl, .inr ⟨by rw [G.K]; exact hx, by rw [G.K]; exact gx, by rw [G.K]; exact hQ _ _ _ _ Sub.refl r2 (ri_zipT hl gl)⟩⟩
    · cases ew
  · cases ew
end
end Gs
/-! GsS10: comprehensions. -/
namespace Gs
open PySem PySem.Spec L2
/-- what the context's defs, classes, methods promise -/
structure Cal (C : Cxt) (X : Cx) (T : Tb) (n : Nat) : Prop where
  fns : ∀ x ps dfl, okN x = true → C.glob.lookup (nid x) = some (.fn ps dfl) → ∃ fa, X.mg x = some (.ref fa) ∧ FnX X T n (C.run 0 (nid x)) fa ps dfl
  mks : ∀ x ps dfl fr, okN x = true → C.glob.lookup (nid x) = some (.cls ps dfl fr) → ∃ Ca fi, X.mg x = some (.ref Ca) ∧ T.cl (nid x) = some Ca ∧ Mk X.K Ca fi ∧ InsC T.K Ca ∧ FnX X T n (C.run (nid x) m_init) fi ps dfl
  mts : ∀ k c Ca ps dfl, okN k = true → C.mp c (nid k) = some (ps, dfl) → T.cl c = some Ca → ∃ fa, Meth X.K Ca k fa ∧ FnX X T n (C.run c (nid k)) fa ps dfl
abbrev Wno : WX := fun _ _ _ _ => False
section
variable {X : Cx} {T : Tb} {W : WX} {C : Cxt} {n k : Nat} {a b c e : Expr} {fa fb fc f : Ex} {p pos : Pos} {tg : Expr}
theorem FnX.wp {g : List D → M D} {fa : Addr} {ps : List Nat} {dfl : List D} (P : Hp) (h : FnX X T k g fa ps dfl) : FnX X (T.wp P) k g fa ps dfl := by
  obtain ⟨fd, ps', its, dvs, h1, h2, h3, h4, h5, h6, h7⟩ := h.ex
  exact ⟨⟨fd, ps', its, dvs, h1, h2, h3, h4, h5, h6, fun F m => (h7 F m).wp P⟩, h.kp⟩
theorem FnX.blk {g : List D → M D} {fa : Addr} {ps : List Nat} {dfl : List D} {s : Shared} {H : Hp} {scope : Scope} {ce : PySem.Env} {fp : List Addr} (h : FnX X T k g fa ps dfl) : FnX (X.blk s H scope ce fp) T k g fa ps dfl := ⟨h.ex, h.kp⟩
theorem relS_eq {scope : Scope} {env : PySem.Env} : relabel scope env = relS scope env.scope := rfl
/-- the context within a comprehension -/
theorem Good.blk (G : Good C X W T n) {s : Shared} {H : Hp} {scope : Scope} {cl : List (Str × Addr)} {Ca : Addr} {fp : List Addr} (P : Hp) : Good (C.inner scope) (X.blk s H scope (compEnvC scope cl Ca X.env) fp) Wno (T.wp P) n where
  N := G.N
  nd := G.nd
  sc := by
    show relabel scope X.env = relS scope C.sc
    rw [relS_eq, G.sc]
  fn := fun x h => h
  tk := fun u s' ⟨_, _, _, _, _, _, _, _, _, _, _, _, _, _, _, _, w⟩ => w.elim
  own := PassesOwn.never
  calm := G.calm
  room := G.room
  K := G.K
  z := G.z
  mdl := ⟨fun x d hx hd => by
    obtain ⟨v, u, h1, h2, h3⟩ := G.mdl.con x d hx hd
    exact ⟨v, u, h1, h2, fun F m => (h3 F m).wp P⟩, G.mdl.blt, G.mdl.cls, G.mdl.kit, G.mdl.exm, G.mdl.exs⟩
theorem Cal.blk (G : Cal C X T n) {s : Shared} {H : Hp} {scope : Scope} {cl : List (Str × Addr)} {Ca : Addr} {fp : List Addr} (P : Hp) : Cal (C.inner scope) (X.blk s H scope (compEnvC scope cl Ca X.env) fp) (T.wp P) n where
  fns := fun x ps dfl hx h => by
    obtain ⟨fa, h1, h2⟩ := G.fns x ps dfl hx h
    exact ⟨fa, h1, (h2.wp P).blk⟩
  mks := fun x ps dfl fr hx h => by
    obtain ⟨Ca, fi, h1, h2, h3, h4, h5⟩ := G.mks x ps dfl fr hx h
    exact ⟨Ca, fi, h1, h2, h3, h4, (h5.wp P).blk⟩
  mts := fun k c Ca ps dfl hk h hc => by
    obtain ⟨fa, h1, h2⟩ := G.mts k c Ca ps dfl hk h hc
    exact ⟨fa, h1, (h2.wp P).blk⟩
/-! ### a step may not raise -/
theorem nox_ok {α β γ δ : Type} {RB : Hp → At → Hp → δ → γ → Prop} {F : Hp} {m : At} {μ : Mu} {y : M α} {f : α → M β} {k : β → M γ} {Q : δ → Hp → Prop} {E : WK} (h : Post T RB F m ((((M.bind y f).nox).bind k) μ) Q E) : ∃ a μ', y μ = .ok a μ' ∧ Post T RB F m ((((f a).nox).bind k) μ') Q E := by
  cases e : y μ with
  | ok a μ' =>
    refine ⟨a, μ', rfl, ?_⟩
    have : (((M.bind y f).nox).bind k) μ = (((f a).nox).bind k) μ' := by
      unfold M.bind M.nox
      simp only [e]
    rw [this] at h
    exact h
  | exc c fs μ' =>
    have : (((M.bind y f).nox).bind k) μ = .stuck := by
      unfold M.bind M.nox
      simp only [e]
    rw [this] at h
    exact h.elim
  | stuck =>
    have : (((M.bind y f).nox).bind k) μ = .stuck := by
      unfold M.bind M.nox
      simp only [e]
    rw [this] at h
    exact h.elim
theorem nox_congr {β γ : Type} {x y : M β} {k : β → M γ} {μ : Mu} (h : x μ = y μ) : (((x.nox).bind k) μ) = (((y.nox).bind k) μ) := by
  unfold M.bind M.nox
  rw [h]
theorem post_ok {α β : Type} {RA : Hp → At → Hp → β → α → Prop} {F : Hp} {m : At} {r : R α} {a : α} {μ' : Mu} {Q : β → Hp → Prop} {E : WK} (e : r = .ok a μ') (h : ∀ b H' F' m', Sub F m F' m' → Rel T F' m' μ' H' → RA F' m' H' b a → Q b H') : Post T RA F m r Q E := by
  rw [e]; exact h
/-! ### the list that grows -/
theorem Rel.repin {F : Hp} {m : At} {μ : Mu} {H : Hp} {P : Hp} {D : Addr} {o o2 : HO} (r : Rel (T.wp (upd P D o)) F m μ H) : Rel (T.wp (upd P D o2)) F m μ (upd H D o2) := by
  obtain ⟨hD1, hD2, hD3⟩ := r.pin D o upd_same
  refine ⟨fun a u e => ?_, fun n c e => ?_, r.inj, fun n a e => ?_, r.fresh, r.nd, fun a u e => ?_⟩
  · rw [upd_ne (fun q => by rw [q, hD2] at e; cases e)]; exact r.sub a u e
  · obtain ⟨a, h1, h2⟩ := r.cell n c e
    have hne : a ≠ D := fun q => hD3 n (q ▸ h1)
    exact ⟨a, h1, (CellR.wp (upd P D o2) h2).upH fun u _ q => by rw [upd_ne hne]; exact q⟩
  · obtain ⟨u, h⟩ := r.old n a e
    exact ⟨u, by rw [upd_ne (fun q => hD3 n (by rw [← q]; exact e))]; exact h⟩
  · by_cases h : a = D
    · subst h
      have e : upd P a o2 a = some u := e
      rw [upd_same] at e
      cases e
      exact ⟨upd_same, hD2, hD3⟩
    · have e : upd P D o2 a = some u := e
      rw [upd_ne h] at e ⊢
      exact r.pin a u (by show upd P D o a = some u; rw [upd_ne h]; exact e)
theorem Rel.pinNew {F : Hp} {m : At} {μ : Mu} {H : Hp} {D : Addr} {o : HO} (r : Rel T F m μ H) (hD : H D = none) : Rel (T.wp (upd T.p D o)) F m μ (upd H D o) :=
  (r.addH hD).wp fun a u e => by
    by_cases h : a = D
    · subst h
      rw [upd_same] at e
      cases e
      exact ⟨upd_same, r.noF hD, r.noM hD⟩
    · rw [upd_ne h] at e ⊢
      exact r.pin a u e
theorem Rel.unpin {F : Hp} {m : At} {μ : Mu} {H : Hp} {D : Addr} {o : HO} (r : Rel (T.wp (upd T.p D o)) F m μ H) (hD : T.p D = none) : Rel T F m μ H :=
  Rel.wp (T := T.wp (upd T.p D o)) (P := T.p) r fun a u e => by
    have h : a ≠ D := fun q => by rw [q, hD] at e; cases e
    exact r.pin a u (by show upd T.p D o a = some u; rw [upd_ne h]; exact e)
/-! ### slots -/
theorem wipe_in {σ : L2.St} {i : Nat} : ∀ {vs : List Nat}, i ∈ vs → (wipe σ vs)[i]? = if i < σ.length then some none else none
  | [], h => by simp at h
  | v :: vs, h => by
    unfold wipe
    by_cases e : i = v
    · subst e
      by_cases hl : i < σ.length
      · rw [if_pos hl, List.getElem?_set_self (by rw [wipe_length]; exact hl)]
      · rw [if_neg hl, List.getElem?_eq_none (by simp [wipe_length]; omega)]
    · rw [List.getElem?_set_ne (Ne.symm e)]
      rcases List.mem_cons.mp h with q | q
      · exact absurd q e
      · exact wipe_in q
theorem wipe_same {σ σ' : L2.St} {vs ix : List Nat} (hl : σ'.length = (wipe σ vs).length) (hx : ∀ i ∈ ix, i ∈ vs) (h : ∀ i, i ∉ ix → σ'[i]? = (wipe σ vs)[i]?) : wipe σ' vs = wipe σ vs := by
  apply List.ext_getElem?
  intro i
  by_cases hi : i ∈ vs
  · rw [wipe_in hi, wipe_in hi, hl, wipe_length]
  · rw [wipe_out hi, h i (fun q => hi (hx i q))]
/-! ### [e for tg in it if t] -/
def exG (T : Tb) (g : Tgt) (ix : List Nat) : TG := fun v σ H Q => ∃ P, rdG (T.wp P) g ix v σ H Q
def exE (T : Tb) (f : Ex) : TE := fun σ H Q => ∃ P, rdE (T.wp P) Wno f σ H Q
def exT (T : Tb) (f : Tst) : TT := fun σ H Q => ∃ P, rdT (T.wp P) Wno f σ H Q
theorem compGo_ok {g : Tgt} {t : Tst} {el : Ex} {ρ : Env} {w : Wk} {j i : Nat} {acc : List D} {RB : Hp → At → Hp → V → D → Prop} {F : Hp} {m : At} {μ : Mu} {Q : VK} {E : WK} {kk : List D → M D} (h : Post T RB F m ((((compGo g t el ρ w j i acc).nox).bind kk) μ) Q E) : w.ok μ = true := by
  cases e : w.ok μ with
  | true => rfl
  | false =>
    have : (((compGo g t el ρ w j i acc).nox).bind kk) μ = .stuck := by
      unfold M.bind M.nox
      cases j <;> (unfold compGo; simp [e])
    rw [this] at h
    exact h.elim
theorem comp_rd {own ix : List Nat} {i : Itr} {g : Tgt} {t : Tst} {el : Ex} {tt : TT} (hix : ∀ j ∈ ix, j ∈ own)
    (htt : ∀ P F m μ ρ σ H Q, Rel (T.wp P) F m μ H → EnvR (T.wp P) F m σ ρ → Post (T.wp P) (RId Bool) F m (t ρ μ) Q (fun _ _ _ => False) → tt σ H Q) :
    ∀ σ H Q, rdN T W (eComp own i g t el) σ H Q → tLc (rdI T W i) (exG T g ix) tt (exE T el) own σ H Q := fun σ H Q ⟨F, m, μ, ρ, rl, en, pp⟩ =>
  ⟨F, m, μ, ρ, rl, en, Post.bind pp fun J H1 F1 m1 w μ1 s1 r1 ri p1 => by
    obtain ⟨Gw, Y, wk, hG, hY⟩ := ri
    intro D hD
    have nP : T.p D = none := r1.noP hD
    refine lc_it wk (fun i H => ∃ F' m' μ' accV accD, Sub F1 m1 F' m' ∧ Rel (T.wp (upd T.p D (.lst accV))) F' m' μ' H ∧ Reps T F' m' accV accD ∧ i ≤ w.len ∧ Post T (RN T) F' m' ((((compGo g t el (wipeE ρ own) w (w.len - i) i accD).nox).bind fun ys => M.ret (Gs.D.lst ys)) μ') Q (fun C dx H' => W (.ref C) (some dx) σ H'))
      ⟨F1, m1, μ1, [], [], Sub.refl, r1.pinNew hD, .nil, Nat.zero_le _, p1⟩ (fun i H hi ⟨F', m', μ', accV, accD, sb, rl', ra, _, pp'⟩ => hG _ F' m' μ' H sb rl' (compGo_ok pp')) (fun i x H H' hi ⟨F', m', μ', accV, accD, sb, rl', ra, _, pp'⟩ hy => ?_) (fun H ⟨F', m', μ', accV, accD, sb, rl', ra, _, pp'⟩ => ?_)
    · have hok := compGo_ok pp'
      obtain ⟨j, hj⟩ : ∃ j, w.len - i = j + 1 := ⟨w.len - i - 1, by omega⟩
      have hj2 : w.len - (i + 1) = j := by omega
      rw [hj] at pp'
      have e1 : (((compGo g t el (wipeE ρ own) w (j + 1) i accD).nox).bind fun ys => M.ret (Gs.D.lst ys)) μ' = (((((M.opt (w.at_ i μ')).bind fun x => (M.opt (g x (wipeE ρ own))).bind fun ρ2 => (t ρ2).bind fun b =>
          if b then (el ρ2).bind fun y => if Nat.blt accD.length 16777216 then compGo g t el (wipeE ρ own) w j (i + 1) (accD ++ [y]) else M.stuck else compGo g t el (wipeE ρ own) w j (i + 1) accD)).nox).bind fun ys => M.ret (Gs.D.lst ys)) μ' := by
        refine nox_congr ?_
        rw [compGo]
        exact if_pos hok
      rw [e1] at pp'
      obtain ⟨dx, μa, ea, pp'⟩ := nox_ok pp'
      obtain ⟨d, hd, ea⟩ : ∃ d, w.at_ i μ' = some d ∧ R.ok d μ' = R.ok dx μa := by
        unfold M.opt at ea
        cases q : w.at_ i μ' with
        | none => rw [q] at ea; cases ea
        | some d => rw [q] at ea; exact ⟨d, rfl, ea⟩
      cases ea
      obtain ⟨ρ2, μb, eb, pp'⟩ := nox_ok pp'
      obtain ⟨ρ2', hg2, eb⟩ : ∃ r, g dx (wipeE ρ own) = some r ∧ R.ok r μ' = R.ok ρ2 μb := by
        unfold M.opt at eb
        cases q : g dx (wipeE ρ own) with
        | none => rw [q] at eb; cases eb
        | some d => rw [q] at eb; exact ⟨d, rfl, eb⟩
      cases eb
      obtain ⟨b, μt, et, pp'⟩ := nox_ok pp'
      obtain ⟨F2, sb2, rl2, rx⟩ := hY i _ F' m' μ' H x H' dx hi sb rl' hok hy hd
      have en2 : EnvR (T.wp (upd T.p D (.lst accV))) F2 m' (wipe σ own) (wipeE ρ own) := ((((en.up s1).up sb).up sb2).wipe own).wp _
      refine ⟨_, F2, m', μ', wipeE ρ own, dx, ρ2, rl2, en2, rx, hg2, fun σ' en' hl ho => ⟨wipe_same hl hix ho, ?_⟩⟩
      refine htt _ F2 m' μ' ρ2 σ' H' _ rl2 en' (post_ok et fun b' H3 F3 m3 s3 rl3 hb => ?_)
      have hb : b' = b := hb
      subst hb
      cases b' with
      | false =>
        rw [if_neg Bool.false_ne_true]
        rw [if_neg Bool.false_ne_true] at pp'
        exact ⟨F3, m3, μt, accV, accD, (sb.trans sb2).trans s3, rl3, (ra.up sb2).up s3, by omega, by rw [hj2]; exact (pp'.up sb2).up s3⟩
      | true =>
        rw [if_pos rfl]
        rw [if_pos rfl] at pp'
        obtain ⟨y, μy, ey, pp'⟩ := nox_ok pp'
        refine ⟨_, F3, m3, μt, ρ2, rl3, en'.up s3, post_ok ey fun yv H4 F4 m4 s4 rl4 ry => ?_⟩
        have hz : accD.length < 16777216 := by
          cases q : Nat.blt accD.length 16777216 with
          | true => exact Nat.blt_eq.mp q
          | false =>
            rw [q] at pp'
            exact pp'.elim
        rw [if_pos (Nat.blt_eq.mpr hz)] at pp'
        have ra4 := ((ra.up sb2).up s3).up s4
        refine ⟨accV, (rl4.pin D (.lst accV) upd_same).1, by rw [ra4.length, sizeLine_eq]; omega, F4, m4, μy, accV ++ [yv], accD ++ [y], ((sb.trans sb2).trans s3).trans s4, rl4.repin, ra4.append (.cons (Rep.unwp ry) .nil), by omega, by rw [hj2]; exact ((pp'.up sb2).up s3).up s4⟩
    · have hok := compGo_ok pp'
      rw [Nat.sub_self] at pp'
      have e1 : (((compGo g t el (wipeE ρ own) w 0 w.len accD).nox).bind fun ys => M.ret (Gs.D.lst ys)) μ' = .ok (.lst accD) μ' := by
        refine (nox_congr (y := M.ret accD) ?_).trans rfl
        rw [compGo]
        exact if_pos hok
      rw [e1] at pp'
      obtain ⟨q1, q2, q3⟩ := rl'.pin D (.lst accV) upd_same
      exact pp' _ _ _ _ Sub.refl (rl'.unpin nP) ⟨D, accV, rfl, q2, q1, ra, q3, nP⟩⟩
theorem t_yes (P : Hp) (F : Hp) (m : At) (μ : Mu) (ρ : Env) (σ : L2.St) (H : Hp) (Q : Bool → Hp → Prop) (rl : Rel (T.wp P) F m μ H) (en : EnvR (T.wp P) F m σ ρ) (h : Post (T.wp P) (RId Bool) F m (Gs.tYes ρ μ) Q (fun _ _ _ => False)) : L2.tYes σ H Q :=
  h true H F m Sub.refl rl rfl
theorem t_one {t : Tst} (P : Hp) (F : Hp) (m : At) (μ : Mu) (ρ : Env) (σ : L2.St) (H : Hp) (Q : Bool → Hp → Prop) (rl : Rel (T.wp P) F m μ H) (en : EnvR (T.wp P) F m σ ρ) (h : Post (T.wp P) (RId Bool) F m (t ρ μ) Q (fun _ _ _ => False)) : exT T t σ H Q :=
  ⟨P, F, m, μ, ρ, rl, en, h⟩
theorem PG.ex {X : Cx} {e : Expr} {g : Tgt} {ix : List Nat} (h : ∀ P, PG X e (rdG (T.wp P) g ix)) : PG X e (exG T g ix) := ⟨fun pins s σ H v u Q I r ⟨P, hw⟩ => (h P).run pins s σ H v u Q I r hw⟩
theorem PE.ex {X : Cx} {e : Expr} {f : Ex} (h : ∀ P, PE X e (rdE (T.wp P) Wno f)) : PE X e (exE T f) := ⟨fun pins s σ H Q I ⟨P, hw⟩ => (h P).run pins s σ H Q I hw⟩
theorem PT.ex {X : Cx} {e : Expr} {f : Tst} (h : ∀ P, PT X e (rdT (T.wp P) Wno f)) : PT X e (exT T f) := ⟨fun pins s σ H Q I ⟨P, hw⟩ => (h P).run pins s σ H Q I hw⟩
theorem set_plain {e : Expr} {env : PySem.Env} (h : noSet e = true) : ∀ x, foldedSetIterable e env x = pure x := by
  intro x
  cases e <;> first | rfl | (simp [noSet] at h)
theorem ix_sub {ix own : List Nat} (h : ix.all (fun i => own.contains i) = true) : ∀ j ∈ ix, j ∈ own := fun j hj => by
  have := List.all_eq_true.mp h j hj
  simpa using this
/-- what a comprehension's parts are to be -/
structure CompOk (C : Cxt) (X : Cx) (T : Tb) (W : WX) (elt tg iter : Expr) (scope : Scope) (i : Itr) (g : Tgt) (el : Ex) : Prop where
  set : noSet iter = true
  blk : L2.blkC C.N C.sc scope (ownOf C.N scope.names) = true
  ix : (tgtIx (C.inner scope) tg).all (fun i => ((ownOf C.N scope.names).map (·.2)).contains i) = true
  tgt : cTgt (C.inner scope) tg = some g
  it : PI X tg iter (rdI T W i)
  el : ∀ P s H cl Ca fp, PE (X.blk s H scope (compEnvC scope cl Ca X.env) fp) elt (rdE (T.wp P) Wno el)
theorem CompOk.ok {elt iter : Expr} {scope : Scope} {i : Itr} {g : Tgt} {el : Ex} (G : Good C X W T n) (K : CompOk C X T W elt tg iter scope i g el) : BlkOk X.N X.env.scope scope (ownOf C.N scope.names) := by
  rw [G.N, G.sc]; exact blkOk_by K.blk
theorem s_comp0 {elt iter : Expr} {scope : Scope} {i : Itr} {g : Tgt} {el : Ex} (G : Good C X W T n) (K : CompOk C X T W elt tg iter scope i g el) :
    PE X (.ListComp elt [⟨tg, iter, [], 0⟩] scope pos) (rdN T W (eComp ((ownOf C.N scope.names).map (·.2)) i g Gs.tYes el)) :=
  (pe_lc G.calm (xN_nodup G) K.it (K.ok G) (fun s H Ca cl fp => PG.ex fun P => g_ok (G.blk P) K.tgt) (fun _ _ _ _ _ => pts_nil) (fun s H Ca cl fp => PE.ex fun P => K.el P s H cl Ca fp) (set_plain K.set)).imp
    (comp_rd (ix_sub K.ix) t_yes)
theorem s_comp1 {elt iter tst : Expr} {scope : Scope} {i : Itr} {g : Tgt} {t : Tst} {el : Ex} (G : Good C X W T n) (K : CompOk C X T W elt tg iter scope i g el) (ht : ∀ P s H cl Ca fp, PT (X.blk s H scope (compEnvC scope cl Ca X.env) fp) tst (rdT (T.wp P) Wno t)) :
    PE X (.ListComp elt [⟨tg, iter, [tst], 0⟩] scope pos) (rdN T W (eComp ((ownOf C.N scope.names).map (·.2)) i g t el)) :=
  (pe_lc G.calm (xN_nodup G) K.it (K.ok G) (fun s H Ca cl fp => PG.ex fun P => g_ok (G.blk P) K.tgt) (fun s H Ca cl fp => pts_one (PT.ex fun P => ht P s H cl Ca fp)) (fun s H Ca cl fp => PE.ex fun P => K.el P s H cl Ca fp) (set_plain K.set)).imp
    (comp_rd (ix_sub K.ix) t_one)
end
end Gs
/-! GsRng: tuple(range(..)), list(range(..)). -/
namespace Gs
open PySem PySem.Spec L2
section
variable {X : Cx} {T : Tb} {W : WX} {C : Cxt} {n k : Nat} {a b : Expr} {fa fb : Ex} {p q r pos : Pos}
theorem rg_reps {F : Hp} {m : At} (i j : Int) : Reps T F m (rgV i j) (rgD i j) := by
  unfold rgV rgD
  generalize List.range (j - i).toNat = l
  induction l with
  | nil => exact .nil
  | cons x l ih => exact .cons (.int _) ih
theorem rg_ok {i j : Int} (h : rgB i j = true) : RgOk i j := by
  unfold rgB at h
  simp only [Bool.and_eq_true, decide_eq_true_eq] at h
  obtain ⟨⟨⟨⟨h1, h2⟩, h3⟩, h4⟩, h5⟩ := h
  exact ⟨h1, h2, h3, h4, by simpa using h5⟩
theorem s_rg1 {f g : Str} {mk : List D → D} (hc : X.calm = true) (hf : okN f = true) (hmk : rngK (nid f) = some mk) (gf : Gl X f) (mf : X.mg f = none) (hg : okN g = true) (eg : nid g = k_range) (gg : Gl X g) (mg : X.mg g = none) (ha : PE X a (rdE T W fa)) (hs : isStar a = false) :
    PE X (.Call (.Name f p) [.Call (.Name g q) [a] [] r] [] pos) (rdN T W (e1 (oRg1 mk) fa)) := by
  obtain rfl := name_is (y := "range") hg eg (by decide +kernel) (by decide +kernel)
  have pr := prg_1 (X := X) (p := q) (pos := r) gg mg ha (star_eq hs)
  unfold rngK at hmk
  split at hmk
  · rename_i e
    cases hmk
    obtain rfl := name_is (y := "tuple") hf e (by decide +kernel) (by decide +kernel)
    refine (pe_tupRg hc gf mf pr rfl).imp fun σ H Q ⟨F, m, μ, ρ, rl, en, pp⟩ => ⟨F, m, μ, ρ, rl, en, Post.bind pp fun v H1 F1 m1 x μ1 s1 r1 h1 p1 => ?_⟩
    obtain ⟨d, ed, hq⟩ := Post.opt p1
    unfold oRg1 at ed
    split at ed
    · rename_i j
      split at ed
      · rename_i hb
        cases ed
        refine ⟨j, h1.vInt, rg_ok hb, fun pn hp => ?_⟩
        obtain ⟨s2, r3, r4⟩ := rn_tup r1 (rg_reps 0 j) hp
        exact hq _ _ _ _ s2 r3 r4
      · cases ed
    · cases ed
  · split at hmk
    · rename_i e
      cases hmk
      obtain rfl := name_is (y := "list") hf e (by decide +kernel) (by decide +kernel)
      refine (pe_listRg hc gf mf pr rfl).imp fun σ H Q ⟨F, m, μ, ρ, rl, en, pp⟩ => ⟨F, m, μ, ρ, rl, en, Post.bind pp fun v H1 F1 m1 x μ1 s1 r1 h1 p1 => ?_⟩
      obtain ⟨d, ed, hq⟩ := Post.opt p1
      unfold oRg1 at ed
      split at ed
      · rename_i j
        split at ed
        · rename_i hb
          cases ed
          refine ⟨j, h1.vInt, rg_ok hb, fun pn hp => ?_⟩
          obtain ⟨r3, r4⟩ := rn_new r1 (rg_reps 0 j) hp
          exact hq _ _ _ _ Sub.refl r3 r4
        · cases ed
      · cases ed
    · cases hmk
theorem s_rg2 {f g : Str} {mk : List D → D} (hc : X.calm = true) (hf : okN f = true) (hmk : rngK (nid f) = some mk) (gf : Gl X f) (mf : X.mg f = none) (hg : okN g = true) (eg : nid g = k_range) (gg : Gl X g) (mg : X.mg g = none) (ha : PE X a (rdE T W fa)) (hs : isStar a = false) (hb2 : PE X b (rdE T W fb)) (hsb : isStar b = false) :
    PE X (.Call (.Name f p) [.Call (.Name g q) [a, b] [] r] [] pos) (rdN T W (e2 (oRg2 mk) fa fb)) := by
  obtain rfl := name_is (y := "range") hg eg (by decide +kernel) (by decide +kernel)
  have pr := prg_2 (X := X) (p := q) (pos := r) gg mg ha hb2 (star_eq hs) (star_eq hsb) (by rw [show starEach [b] X.env = _ from star_eq hsb]; rfl)
  unfold rngK at hmk
  split at hmk
  · rename_i e
    cases hmk
    obtain rfl := name_is (y := "tuple") hf e (by decide +kernel) (by decide +kernel)
    refine (pe_tupRg hc gf mf pr rfl).imp fun σ H Q ⟨F, m, μ, ρ, rl, en, pp⟩ => ⟨F, m, μ, ρ, rl, en, Post.bind pp fun v H1 F1 m1 x μ1 s1 r1 h1 p1 => ⟨F1, m1, μ1, ρ, r1, en.up s1, Post.bind p1 fun w H2 F2 m2 y μ2 s2 r2 h2 p2 => ?_⟩⟩
    obtain ⟨d, ed, hq⟩ := Post.opt p2
    unfold oRg2 at ed
    split at ed
    · rename_i i j
      split at ed
      · rename_i hb
        cases ed
        refine ⟨i, j, (h1.up s2).vInt, h2.vInt, rg_ok hb, fun pn hp => ?_⟩
        obtain ⟨s3, r3, r4⟩ := rn_tup r2 (rg_reps i j) hp
        exact hq _ _ _ _ s3 r3 r4
      · cases ed
    · cases ed
  · split at hmk
    · rename_i e
      cases hmk
      obtain rfl := name_is (y := "list") hf e (by decide +kernel) (by decide +kernel)
      refine (pe_listRg hc gf mf pr rfl).imp fun σ H Q ⟨F, m, μ, ρ, rl, en, pp⟩ => ⟨F, m, μ, ρ, rl, en, Post.bind pp fun v H1 F1 m1 x μ1 s1 r1 h1 p1 => ⟨F1, m1, μ1, ρ, r1, en.up s1, Post.bind p1 fun w H2 F2 m2 y μ2 s2 r2 h2 p2 => ?_⟩⟩
      obtain ⟨d, ed, hq⟩ := Post.opt p2
      unfold oRg2 at ed
      split at ed
      · rename_i i j
        split at ed
        · rename_i hb
          cases ed
          refine ⟨i, j, (h1.up s2).vInt, h2.vInt, rg_ok hb, fun pn hp => ?_⟩
          obtain ⟨r3, r4⟩ := rn_new r2 (rg_reps i j) hp
          exact hq _ _ _ _ Sub.refl r3 r4
        · cases ed
      · cases ed
    · cases hmk
end
end Gs
/-! GsS11: every expression. -/
namespace Gs
open PySem PySem.Spec L2
def AllE (fuel : Nat) : Prop := ∀ (C : Cxt) (X : Cx) (W : WX) (T : Tb) (k : Nat), Good C X W T (k + 1) → Cal C X T k → ∀ e, PE X e (rdE T W (cE C fuel e))
def AllT (fuel : Nat) : Prop := ∀ (C : Cxt) (X : Cx) (W : WX) (T : Tb) (k : Nat), Good C X W T (k + 1) → Cal C X T k → ∀ e, PT X e (rdT T W (cT C fuel e))
def AllI (fuel : Nat) : Prop := ∀ (C : Cxt) (X : Cx) (W : WX) (T : Tb) (k : Nat), Good C X W T (k + 1) → Cal C X T k → ∀ tg e, PI X tg e (rdI T W (cI C tg fuel e))
theorem i_none {X : Cx} {T : Tb} {W : WX} {tg e : Expr} : PI X tg e (rdI T W fun _ => M.stuck) := ⟨fun _ _ _ _ _ _ ⟨_, _, _, _, _, _, p⟩ => p.elim⟩
theorem gOf_some {a g : Gs.G} (h : gOf a = some g) : a = g := by
  cases a <;> simp [gOf] at h <;> exact h
theorem gOf_none {a : Gs.G} (h : gOf a = none) : a = .blt := by
  cases a <;> first | rfl | (simp [gOf] at h)
theorem gl_some {C : Cxt} {x : Str} {g : Gs.G} (h : C.gl x = some (some g)) : C.kind x = some .globalImplicit ∧ C.glob.lookup (nid x) = some g := by
  unfold Cxt.gl at h
  split at h
  · rename_i hk
    obtain ⟨a, h1, h2⟩ := Option.map_eq_some_iff.mp h
    exact ⟨hk, by rw [h1, gOf_some h2]⟩
  · cases h
theorem gl_blt {C : Cxt} {x : Str} (h : C.gl x = some none) : C.kind x = some .globalImplicit ∧ C.glob.lookup (nid x) = some .blt := by
  unfold Cxt.gl at h
  split at h
  · rename_i hk
    obtain ⟨a, h1, h2⟩ := Option.map_eq_some_iff.mp h
    exact ⟨hk, by rw [h1, gOf_none h2]⟩
  · cases h
theorem rng_of {C : Cxt} {X : Cx} {W : WX} {T : Tb} {n : Nat} {a : Expr} {ra : List Expr} (G : Good C X W T n) (h : rngOf C a = some ra) : ∃ g q r, a = .Call (.Name g q) ra [] r ∧ okN g = true ∧ nid g = k_range ∧ Gl X g ∧ X.mg g = none ∧ ra.any isStar = false := by
  unfold rngOf at h
  split at h
  · rename_i g q ra' r
    split at h
    · rename_i hgl
      split at h
      · rename_i hc
        cases h
        simp only [Bool.and_eq_true, decide_eq_true_eq, Bool.not_eq_true'] at hc
        obtain ⟨hk, hg⟩ := gl_blt hgl
        obtain ⟨hx, _⟩ := kind_ok hk
        exact ⟨g, q, r, rfl, hx, hc.1, gl_of G hk, G.mdl.blt _ hx hg, hc.2⟩
      · cases h
    · cases h
  · cases h
theorem esL_nil {es : List Expr} {g : Expr → Ex} (h : es = []) : esL (es.map g) = esNil := by subst h; rfl
theorem esK_nil {es : List Keyword} {g : Keyword → Ex} (h : es = []) : esL (es.map g) = esNil := by subst h; rfl
theorem s_fz {C : Cxt} {X : Cx} {T : Tb} {W : WX} {e : Expr} {f : Ex} (h : PE X e (rdE T W f)) : PE X e (rdE T W (C.fz e f)) := by
  unfold Cxt.fz
  split
  · split
    · exact h.freeze
    · exact h
  · exact h
theorem allE_step (fuel : Nat) (hE : AllE fuel) (hT : AllT fuel) (hI : AllI fuel) : AllE (fuel + 1) := by
  intro C X W T k G A e
  have ih := hE C X W T k G A
  have ihz : ∀ e, PE X e (rdE T W (C.fz e (cE C fuel e))) := fun e => s_fz (ih e)
  have iht := hT C X W T k G A
  have hu := G.room.units
  unfold cE
  split
  · rename_i h; cases h
  · exact s_val pe_int fun F m => .int _
  · exact s_val pe_bl fun F m => .bl _
  · exact s_val pe_non fun F m => .non
  · exact s_val pe_str fun F m => .str _
  · exact s_name G
  · rename_i h; cases h
    split
    · rename_i f hf
      exact (s_bin (binOf_ok G.K hf) (ih _) (ih _)).mutC
    · exact s_none
  · rename_i h; cases h
    exact s_not (ih _)
  · rename_i h; cases h
    exact (s_un o_neg (ih _)).frz
  · rename_i h; cases h
    exact (s_un o_inv (ih _)).frz
  · rename_i h; cases h
    exact s_ands fun e _ => ih e
  · rename_i h; cases h
    exact s_ors fun e _ => ih e
  · rename_i h; cases h
    split
    · rename_i hm
      split
      · rename_i f hf
        exact (s_cmp (cmpOf_ok G.K hu hf) (ih _) (ih _) hm).frz
      · exact s_none
    · exact s_none
  · rename_i h; cases h
    split
    · rename_i hm
      split
      · rename_i f g hf hg
        exact (s_chain hf (cmpOf_ok G.K hu hf) (cmpOf_ok G.K hu hg) (ih _) (ih _) (ih _) hm).frz
      · exact s_none
    · exact s_none
  · rename_i h; cases h
    exact s_if (iht _) (ih _) (ih _)
  · rename_i h; cases h
    split
    · exact s_none
    · rename_i hs
      exact s_tup (a_all (by simpa using hs) fun e _ => ihz e)
  · rename_i h; cases h
    split
    · exact s_none
    · rename_i hs
      exact (s_lst (a_all (by simpa using hs) fun e _ => ihz e)).mutC
  · rename_i h; cases h
    split
    · exact (s_cut G.K (ih _) p_none p_none).mutC
    · exact (s_cut G.K (ih _) (p_some (ih _)) p_none).mutC
    · exact (s_cut G.K (ih _) p_none (p_some (ih _))).mutC
    · exact (s_cut G.K (ih _) (p_some (ih _)) (p_some (ih _))).mutC
    · exact s_none
  · rename_i hx h; cases h
    refine s_item G.K (ih _) (ih _) ?_
    rename_i i _
    cases i <;> first | rfl | exact absurd rfl (hx _ _ _ _)
  · rename_i h; cases h
    split
    · rename_i hb
      simp only [Bool.and_eq_true] at hb
      exact s_fld G.K G.z hb.1 (ih _) hb.2
    · exact s_none
  · rename_i h; cases h
    split
    · rename_i hb
      simp only [Bool.and_eq_true] at hb
      dsimp only
      split
      · rename_i g hg
        exact (s_comp0 G ⟨hb.1.1, hb.1.2, hb.2, hg, hI C X W T k G A _ _, fun P s H cl Ca fp => hE _ _ _ _ k (G.blk P) (A.blk P) _⟩).mutC
      · rename_i g t hg
        exact (s_comp1 G ⟨hb.1.1, hb.1.2, hb.2, hg, hI C X W T k G A _ _, fun P s H cl Ca fp => hE _ _ _ _ k (G.blk P) (A.blk P) _⟩ fun P s H cl Ca fp => hT _ _ _ _ k (G.blk P) (A.blk P) _).mutC
      · exact s_none
    · exact s_none
  · rename_i h; cases h
    split
    · exact s_none
    · rename_i hs
      have hs := (Bool.not_eq_true _).mp hs
      split
      · exact s_none
      · rename_i hgl
        obtain ⟨hk, hg⟩ := gl_blt hgl
        obtain ⟨hx, _⟩ := kind_ok hk
        split
        · simp only [List.any_cons, List.any_nil, Bool.or_false] at hs
          split
          · rename_i mk x hmk hr
            obtain ⟨g, q, r, rfl, okg, eg, gg, mg, hsr⟩ := rng_of G hr
            simp only [List.any_cons, List.any_nil, Bool.or_false] at hsr
            exact (s_rg1 G.calm hx hmk (gl_of G hk) (G.mdl.blt _ hx hg) okg eg gg mg (ih _) hsr).mutC
          · rename_i mk x y hmk hr
            obtain ⟨g, q, r, rfl, okg, eg, gg, mg, hsr⟩ := rng_of G hr
            simp only [List.any_cons, List.any_nil, Bool.or_false, Bool.or_eq_false_iff] at hsr
            exact (s_rg2 G.calm hx hmk (gl_of G hk) (G.mdl.blt _ hx hg) okg eg gg mg (ih _) hsr.1 (ih _) hsr.2).mutC
          · exact s_none
          · split
            · rename_i g hg1
              exact (s_b1 G.K G.calm hx (gl_of G hk) (G.mdl.blt _ hx hg) hg1 (ih _) hs).mutC
            · exact s_none
        · simp only [List.any_cons, List.any_nil, Bool.or_false, Bool.or_eq_false_iff] at hs
          split
          · rename_i hi
            split
            · rename_i ts hts
              exact s_isi G hi hk hg hts (ih _) hs.1
            · exact s_none
          · split
            · rename_i g hg2
              exact (s_b2 G.calm hx (gl_of G hk) (G.mdl.blt _ hx hg) hg2 (ih _) (ih _) hs.1 hs.2).frz
            · exact s_none
        · exact s_none
      · rename_i ps dfl hgl
        obtain ⟨hk, hg⟩ := gl_some hgl
        obtain ⟨hx, _⟩ := kind_ok hk
        split
        · rename_i ks hks
          split
          · rename_i pl hpl
            obtain ⟨fa, hm, Fx⟩ := A.fns _ ps dfl hx hg
            exact s_call hx (gl_of G hk) hm Fx (G.room.mono (Nat.le_succ _)) G.tk (a_all hs fun e _ => ihz e) hs esL_nil (kw_all fun k _ => ih k.value) hks (by simpa using len_esL (List.map _ _)) (by simpa using len_esL (List.map _ _)) hpl
          · exact s_none
        · exact s_none
      · rename_i ps dfl fr hgl
        obtain ⟨hk, hg⟩ := gl_some hgl
        obtain ⟨hx, _⟩ := kind_ok hk
        split
        · rename_i ks hks
          split
          · rename_i pl hpl
            obtain ⟨Ca, fi, hm, hc, M, ok, Fx⟩ := A.mks _ ps dfl fr hx hg
            split
            · exact (s_make hx (gl_of G hk) hm G.K M hc ok Fx G.room G.tk (a_all hs fun e _ => ihz e) hs esL_nil (kw_all fun k _ => ih k.value) hks (by simpa using len_esL (List.map _ _)) (by simpa using len_esL (List.map _ _)) hpl).freeze
            · exact s_make hx (gl_of G hk) hm G.K M hc ok Fx G.room G.tk (a_all hs fun e _ => ihz e) hs esL_nil (kw_all fun k _ => ih k.value) hks (by simpa using len_esL (List.map _ _)) (by simpa using len_esL (List.map _ _)) hpl
          · exact s_none
        · exact s_none
      · exact s_none
  · rename_i h; cases h
    split
    · exact s_none
    · rename_i hb
      simp only [Bool.or_eq_true, Bool.not_eq_true', not_or, Bool.not_eq_false, Bool.not_eq_true] at hb
      obtain ⟨⟨⟨⟨⟨h1, h2⟩, h3⟩, h4⟩, h5⟩, h6⟩ := hb
      split
      · rename_i ks hks
        exact s_meth (n := 0) G.K G.z h2 G.tk (G.room.mono (Nat.le_succ _)) (fun c Ca ps dfl h hc => A.mts _ c Ca ps dfl h2 h hc) (ih _) h3 (a_all h1 fun e _ => ihz e) h1 esL_nil (kw_all fun k _ => ih k.value) esK_nil hks (by simpa using len_esL (List.map _ _)) (by simpa using len_esL (List.map _ _)) (Nat.blt_eq.mp h5) (Nat.blt_eq.mp h6) (Nat.eq_of_beq_eq_true h4)
      · exact s_none
  · exact s_none
theorem allI_step (fuel : Nat) (hE : AllE fuel) : AllI (fuel + 1) := by
  intro C X W T k G A tg e
  have ih := hE C X W T k G A
  unfold cI
  split
  · rename_i h; cases h
  · rename_i h; cases h
    split
    · exact i_none
    · rename_i hs
      have hs := (Bool.not_eq_true _).mp hs
      split
      · rename_i hgl
        obtain ⟨hk, hg⟩ := gl_blt hgl
        split
        · rename_i hx
          split
          · simp only [List.any_cons, List.any_nil, Bool.or_false] at hs
            exact i_rng1 G hk hg hx (ih _) hs
          · simp only [List.any_cons, List.any_nil, Bool.or_false, Bool.or_eq_false_iff] at hs
            exact i_rng2 G hk hg hx (ih _) (ih _) hs.1 hs.2
          · exact i_none
        · split
          · rename_i hx
            simp only [Bool.and_eq_true, decide_eq_true_eq] at hx
            split
            · simp only [List.any_cons, List.any_nil, Bool.or_false] at hs
              cases tg with
              | Tuple es kk p => exact i_enum G hk hg hx.1 (ih _) hs
              | _ => simp [isTup] at hx
            · exact i_none
          · split
            · rename_i hx
              simp only [Bool.and_eq_true, decide_eq_true_eq] at hx
              split
              · simp only [List.any_cons, List.any_nil, Bool.or_false, Bool.or_eq_false_iff] at hs
                cases tg with
                | Tuple es kk p => exact i_zip G hk hg hx.1 (ih _) (ih _) hs.1 hs.2
                | _ => simp [isTup] at hx
              · exact i_none
            · exact i_seq G.K (ih _)
      · exact i_seq G.K (ih _)
  · rename_i h hh; cases h
    exact i_seq G.K (s_fz (ih _))
theorem t_no {X : Cx} {T : Tb} {W : WX} {e : Expr} : PT X e (rdT T W (tE eNo)) := ⟨fun _ _ _ _ _ _ ⟨_, _, _, _, _, _, p⟩ => p.elim⟩
theorem allT_step (fuel : Nat) (hE : AllE fuel) (hE0 : ∀ f, fuel = f + 1 → AllE f) (hT : AllT fuel) : AllT (fuel + 1) := by
  intro C X W T k G A e
  have ih := hE C X W T k G A
  have iht := hT C X W T k G A
  have hu := G.room.units
  unfold cT
  split
  · rename_i h; cases h
  · rename_i h; cases h
    exact t_ands fun e _ => iht e
  · rename_i h; cases h
    exact t_ors fun e _ => iht e
  · rename_i h; cases h
    exact t_not (iht _)
  · rename_i h; cases h
    exact t_if (iht _) (iht _) (iht _)
  · rename_i e _ _ _ h h1 h2 h3 h4; cases h
    cases e with
    | UnaryOp op a p =>
      cases op with
      | Not => exact absurd rfl (h3 _ _)
      | _ => exact t_val G.K (ih _) rfl
    | BoolOp op es p =>
      cases op with
      | And => exact absurd rfl (h1 _ _)
      | Or => exact absurd rfl (h2 _ _)
    | IfExp t a b p => exact absurd rfl (h4 _ _ _ _)
    | Compare a ops cs p =>
      cases fuel with
      | zero => exact t_no
      | succ f =>
        have ih0 := hE0 f rfl C X W T k G A
        match ops, cs with
        | [op], [b] =>
          show PT X _ (rdT T W (tE (if noSet b then (match cmpOf op with
            | some f' => e2 f' (cE C f a) (cE C f b)
            | none => eNo) else eNo)))
          split
          · rename_i hm
            split
            · rename_i g hg
              exact t_cmp hg (cmpOf_ok G.K hu hg) (ih0 _) (ih0 _) hm
            · exact t_no
          · exact t_no
        | [op, op2], [b, c] =>
          show PT X _ (rdT T W (tE (if noSet c then (match cmpOf op, cmpOf op2 with
            | some f', some g => eChain f' g (cE C f a) (cE C f b) (cE C f c)
            | _, _ => eNo) else eNo)))
          split
          · rename_i hm
            split
            · rename_i g g2 hg hg2
              exact t_chain hg hg2 (cmpOf_ok G.K hu hg) (cmpOf_ok G.K hu hg2) (ih0 _) (ih0 _) (ih0 _) hm
            · exact t_no
          · exact t_no
        | [], _ => exact t_no
        | [_], [] => exact t_no
        | [_], _ :: _ :: _ => exact t_no
        | [_, _], [] => exact t_no
        | [_, _], [_] => exact t_no
        | [_, _], _ :: _ :: _ :: _ => exact t_no
        | _ :: _ :: _ :: _, _ => exact t_no
    | _ => exact t_val G.K (ih _) rfl
theorem all_zero : AllE 0 ∧ AllT 0 ∧ AllI 0 := by
  refine ⟨fun C X W T k G A e => ?_, fun C X W T k G A e => ?_, fun C X W T k G A tg e => ?_⟩
  · unfold cE; exact s_none
  · unfold cT; exact t_none
  · unfold cI; exact i_none
theorem all_both : ∀ f, (AllE f ∧ AllT f ∧ AllI f) ∧ (AllE (f + 1) ∧ AllT (f + 1) ∧ AllI (f + 1))
  | 0 => ⟨all_zero, allE_step 0 all_zero.1 all_zero.2.1 all_zero.2.2, allT_step 0 all_zero.1 (fun _ h => by cases h) all_zero.2.1, allI_step 0 all_zero.1⟩
  | f + 1 => by
    obtain ⟨h0, h1⟩ := all_both f
    exact ⟨h1, allE_step _ h1.1 h1.2.1 h1.2.2, allT_step _ h1.1 (fun g e => by cases e; exact h0.1) h1.2.1, allI_step _ h1.1⟩
/-- every expression, test, walked expression -/
theorem sound_E (f : Nat) : AllE f := (all_both f).1.1
theorem sound_T (f : Nat) : AllT f := (all_both f).1.2.1
theorem sound_I (f : Nat) : AllI f := (all_both f).1.2.2
end Gs
/-! GsS12: statements (but raise and try). -/
namespace Gs
open PySem PySem.Spec L2
section
variable {X : Cx} {T : Tb} {W : WX} {C : Cxt} {n k : Nat} {a b c e o : Expr} {fa fb fc f fo : Ex} {p pos tpos : Pos} {tg : Expr}
/-- what follows a statement -/
def PostS (T : Tb) (W : WX) (F : Hp) (m : At) (r : RS) (D : Ends) : Prop := match r with
  | .ok (.nx ρ) μ => ∀ σ H' F' m', Sub F m F' m' → Rel T F' m' μ H' → EnvR T F' m' σ ρ → D.nx σ H'
  | .ok (.bk ρ) μ => ∀ σ H' F' m', Sub F m F' m' → Rel T F' m' μ H' → EnvR T F' m' σ ρ → D.bk σ H'
  | .ok (.ct ρ) μ => ∀ σ H' F' m', Sub F m F' m' → Rel T F' m' μ H' → EnvR T F' m' σ ρ → D.ct σ H'
  | .ok (.rt d) μ => ∀ v H' F' m', Sub F m F' m' → Rel T F' m' μ H' → Rep T F' m' v d → D.rt v H'
  | .exc c fs ρ μ => ∀ C dx fvs σ H' F' m', Sub F m F' m' → Rel T F' m' μ H' → EnvR T F' m' σ ρ → T.cl c = some C → H' dx = some (.xd fvs) → F' dx = some (.xd fvs) → RepF T F' m' fvs fs → Xf T.K C fvs → W (.ref C) (some dx) σ H'
  | .stuck => False
def rdS (T : Tb) (W : WX) (f : Stm) : TS := fun D σ H => ∃ F m μ ρ, Rel T F m μ H ∧ EnvR T F m σ ρ ∧ PostS T W F m (f ρ μ) D
theorem PostS.up {F F' : Hp} {m m' : At} {r : RS} {D : Ends} (s : Sub F m F' m') (h : PostS T W F m r D) : PostS T W F' m' r D := by
  cases r with
  | stuck => exact h
  | exc c fs ρ μ => exact fun C dx fvs σ H' F2 m2 s2 => h C dx fvs σ H' F2 m2 (s.trans s2)
  | ok o μ =>
    cases o with
    | nx ρ => exact fun σ H' F2 m2 s2 => h σ H' F2 m2 (s.trans s2)
    | bk ρ => exact fun σ H' F2 m2 s2 => h σ H' F2 m2 (s.trans s2)
    | ct ρ => exact fun σ H' F2 m2 s2 => h σ H' F2 m2 (s.trans s2)
    | rt d => exact fun σ H' F2 m2 s2 => h σ H' F2 m2 (s.trans s2)
/-- an expression, then the rest -/
theorem PostS.bind {α β : Type} {RA : Hp → At → Hp → β → α → Prop} {F : Hp} {m : At} {σ : L2.St} {ρ : Env} {x : M α} {kk : α → Mu → RS} {μ : Mu} {D : Ends} {Q : β → Hp → Prop} (h : PostS T W F m (sB ρ x kk μ) D) (en : EnvR T F m σ ρ)
    (q : ∀ b H' F' m' a μ', Sub F m F' m' → Rel T F' m' μ' H' → RA F' m' H' b a → PostS T W F' m' (kk a μ') D → Q b H') : Post T RA F m (x μ) Q (fun C dx H' => W (.ref C) (some dx) σ H') := by
  unfold sB at h
  cases e : x μ with
  | ok a μ' =>
    rw [e] at h
    exact fun b H' F' m' s r ra => q b H' F' m' a μ' s r ra (h.up s)
  | exc c fs μ' =>
    rw [e] at h
    exact fun C dx fvs H' F' m' s r hc hd hf rf xf => h C dx fvs σ H' F' m' s r (en.up s) hc hd hf rf xf
  | stuck =>
    rw [e] at h
    exact h
theorem st_no {st : Stmt} : PS X st (rdS T W sNo) := ⟨fun _ _ _ _ _ _ ⟨_, _, _, _, _, _, p⟩ => p.elim⟩
theorem st_pass : PS X (.Pass pos) (rdS T W sNx) := ps_pass.imp fun D σ H ⟨F, m, μ, ρ, rl, en, p⟩ => p _ _ _ _ Sub.refl rl en
theorem st_brk : PS X (.Break pos) (rdS T W sBk) := ps_break.imp fun D σ H ⟨F, m, μ, ρ, rl, en, p⟩ => p _ _ _ _ Sub.refl rl en
theorem st_ct : PS X (.Continue pos) (rdS T W sCt) := ps_continue.imp fun D σ H ⟨F, m, μ, ρ, rl, en, p⟩ => p _ _ _ _ Sub.refl rl en
theorem st_doc {x : Str} {j : Nat} {p' : Pos} : PS X (.Expr (.Constant (.str x) j pos) p') (rdS T W sNx) := ps_doc.imp fun D σ H ⟨F, m, μ, ρ, rl, en, p⟩ => p _ _ _ _ Sub.refl rl en
theorem swaps_no {e : Expr} {t : Option Expr} {l : Nat} {env : PySem.Env} (h : notComp e = true) : swapsWith e t l env = pure false := by
  cases e <;> first | rfl | (simp [notComp] at h)
theorem sole_no {e t : Expr} {l : Nat} {env : PySem.Env} (h : notComp e = true) : swapsWithSole [t] e l env = pure false := by
  show swapsWith e (some t) l env = _
  exact swaps_no h
theorem st_ex (h : PE X e (rdE T W f)) (hn : notComp e = true) : PS X (.Expr e pos) (rdS T W (sEx f)) := (ps_expr h (swaps_no hn)).imp fun D σ H ⟨F, m, μ, ρ, rl, en, p⟩ =>
  ⟨F, m, μ, ρ, rl, en, PostS.bind p en fun v H1 F1 m1 d μ1 s1 r1 h1 p1 => p1 _ _ _ _ Sub.refl r1 (en.up s1)⟩
theorem st_ret (h : PE X e (rdE T W f)) : PS X (.Return (some e) pos) (rdS T W (sRet f)) := (ps_ret h).imp fun D σ H ⟨F, m, μ, ρ, rl, en, p⟩ =>
  ⟨F, m, μ, ρ, rl, en, PostS.bind p en fun v H1 F1 m1 d μ1 s1 r1 h1 p1 => p1 _ _ _ _ Sub.refl r1 h1⟩
theorem st_retN : PS X (.Return none pos) (rdS T W sRetN) := ps_retN.imp fun D σ H ⟨F, m, μ, ρ, rl, en, p⟩ => p _ _ _ _ Sub.refl rl .non
/-! ### blocks -/
theorem st_nil : PSs X [] (rdS T W sNx) := pss_nil.imp fun D σ H ⟨F, m, μ, ρ, rl, en, p⟩ => p _ _ _ _ Sub.refl rl en
theorem PostS.seq {F : Hp} {m : At} {f g : Stm} {ρ : Env} {μ : Mu} {D : Ends} (h : PostS T W F m (sSeq f g ρ μ) D) : PostS T W F m (f ρ μ) { D with nx := rdS T W g D } := by
  unfold sSeq at h
  cases e : f ρ μ with
  | stuck => rw [e] at h; exact h
  | exc c fs ρ' μ' => rw [e] at h; exact h
  | ok o μ' =>
    cases o with
    | nx ρ' =>
      rw [e] at h
      exact fun σ H' F' m' s r en => ⟨F', m', μ', ρ', r, en, h.up s⟩
    | bk ρ' => rw [e] at h; exact h
    | ct ρ' => rw [e] at h; exact h
    | rt d => rw [e] at h; exact h
theorem st_all {g : Stmt → Stm} : ∀ {l : List Stmt}, (∀ s ∈ l, PS X s (rdS T W (g s))) → PSs X l (rdS T W (stmL (l.map g)))
  | [], _ => st_nil
  | [s], h => pss_one (h s (by simp))
  | s :: t :: r, h => (pss_cons (h s (by simp)) (st_all (l := t :: r) fun q hq => h q (List.mem_cons_of_mem _ hq))).imp fun D σ H ⟨F, m, μ, ρ, rl, en, p⟩ => ⟨F, m, μ, ρ, rl, en, PostS.seq p⟩
theorem st_if {t : Expr} {tt : Tst} {la lb : List Stmt} {ga gb : Stm} (h : PT X t (rdT T W tt)) (ha : PSs X la (rdS T W ga)) (hb : PSs X lb (rdS T W gb)) : PS X (.If t la lb pos) (rdS T W (sIf tt ga gb)) := (ps_if h ha hb).imp fun D σ H ⟨F, m, μ, ρ, rl, en, p⟩ =>
  ⟨F, m, μ, ρ, rl, en, PostS.bind p en fun k H1 F1 m1 c μ1 s1 r1 h1 p1 => by
    cases h1
    cases k with
    | true => exact iteT ⟨F1, m1, μ1, ρ, r1, en.up s1, p1⟩
    | false => exact iteF ⟨F1, m1, μ1, ρ, r1, en.up s1, p1⟩⟩
/-! ### stores -/
theorem asg_rd {te : TE} {g : Tgt} {ix : List Nat} {f : Ex} (hr : ∀ σ H Q, rdE T W f σ H Q → te σ H Q) : ∀ D σ H, rdS T W (sAsg f g) D σ H → tAsg te (rdG T g ix) D σ H := fun D σ H ⟨F, m, μ, ρ, rl, en, p⟩ =>
  hr _ _ _ ⟨F, m, μ, ρ, rl, en, PostS.bind p en fun v H1 F1 m1 d μ1 s1 r1 h1 p1 => by
    split at p1
    · rename_i ρ' hg
      exact ⟨F1, m1, μ1, ρ, d, ρ', r1, en.up s1, h1, hg, fun σ' en' _ _ => p1 _ _ _ _ Sub.refl r1 en'⟩
    · exact p1.elim⟩
theorem swapped_no {t e : Expr} {env : PySem.Env} (h : isTup t = false ∨ isTup e = false) (ht : ∀ l q, t ≠ .List l q) : swappedStores [t] e env = pure none := by
  unfold swappedStores
  cases t with
  | Tuple ts kk q =>
    cases e with
    | Tuple vs k2 q2 => rcases h with h | h <;> simp [isTup] at h
    | _ => rfl
  | List l q => exact absurd rfl (ht l q)
  | _ => rfl
theorem st_setN {x : Str} {i : Nat} {q : Pos} (G : Good C X W T n) (hi : C.loc x = some i) (h : PE X e (rdE T W f)) (hn : notComp e = true) : PS X (.Assign [.Name x q] e pos) (rdS T W (sAsg f (gV i))) := by
  have hg : PG X (.Name x q) (rdG T (gV i) (tgtIx C (.Name x q))) := g_ok G (by simp [cTgt, hi])
  exact (ps_asg h hg (sole_no hn) (swapped_no (.inl rfl) (by simp)) rfl).imp (asg_rd fun _ _ _ h => h)
theorem st_setT {es : List Expr} {kk : Nat} {q : Pos} {g : Tgt} (G : Good C X W T n) (hg : cTgt C (.Tuple es kk q) = some g) (h : PE X e (rdE T W f)) (hn : notComp e = true) (ht : isTup e = false) : PS X (.Assign [.Tuple es kk q] e pos) (rdS T W (sAsg f g)) :=
  (ps_asg h (g_ok G hg) (sole_no hn) (swapped_no (.inr ht) (by simp)) rfl).imp (asg_rd fun _ _ _ h => h)
/-- the slot's store, of a name -/
theorem gname_rd {i : Nat} {ix : List Nat} : ∀ v σ H Q, rdG T (gV i) ix v σ H Q → i ∈ ix → gName i v σ H Q := fun v σ H Q ⟨F, m, μ, ρ, d, ρ', rl, en, r, e, q⟩ hi => by
  cases e
  exact q _ (en.set r) (by simp) fun j hj => List.getElem?_set_ne (fun z => hj (by rw [← z]; exact hi))
theorem putItem_ok {F : Hp} {m : At} {μ μ' : Mu} {H : Hp} {vo vi vv : V} {x kx v : D} (rl : Rel T F m μ H) (ro : Rep T F m vo x) (ri : Rep T F m vi kx) (rv : Rep T F m vv v) (e : putItem x kx v μ = some μ') {Q : Hp → Prop} (hQ : ∀ H', Rel T F m μ' H' → Q H') : rSetL vo vi vv H Q := by
  unfold putItem at e
  split at e
  · rename_i n
    split at e
    · rename_i xs i q
      obtain ⟨j, hj, rfl⟩ := Option.map_eq_some_iff.mp e
      obtain ⟨a, ws, rfl, hm, hF, hH, t⟩ := ref_lst rl ro q
      obtain rfl := ri.vInt
      exact ⟨a, ws, i, j, rfl, rfl, hH, by rw [t.length]; exact hj, hQ _ (put_lst rl q hm hF (t.set rv j))⟩
    · cases e
  · cases e
theorem st_setI {i : Expr} {fi : Ex} {q : Pos} (ho : PE X o (rdE T W fo)) (hi : PE X i (rdE T W fi)) (h : PE X e (rdE T W f)) (hs : notSlice i = true) (hn : notComp e = true) : PS X (.Assign [.Subscript o i q] e pos) (rdS T W (sSetItem fo fi f)) := by
  have ha : ∀ v, assign (.Subscript o i q) X.env v = (do
      let ov ← holding [v] (eval o X.env)
      let iv ← holding [v, ov] (eval i X.env)
      standAt q
      holding [v, ov, iv] (setItem ov iv v)
      release [v, ov, iv] []) := by
    intro v
    cases i <;> first | rfl | (simp [notSlice] at hs)
  refine (ps_asg h (pg_sub ho hi set_list ha) (sole_no hn) (swapped_no (.inl rfl) (by simp)) rfl).imp fun D σ H ⟨F, m, μ, ρ, rl, en, p⟩ => ?_
  exact ⟨F, m, μ, ρ, rl, en, PostS.bind p en fun v H1 F1 m1 d μ1 s1 r1 h1 p1 => ⟨F1, m1, μ1, ρ, r1, en.up s1, PostS.bind p1 (en.up s1) fun vo H2 F2 m2 x μ2 s2 r2 h2 p2 => ⟨F2, m2, μ2, ρ, r2, (en.up s1).up s2, PostS.bind p2 ((en.up s1).up s2) fun vi H3 F3 m3 kx μ3 s3 r3 h3 p3 => by
    split at p3
    · rename_i μ' hp
      exact putItem_ok r3 (h2.up s3) h3 ((h1.up s2).up s3) hp fun H' rl' => p3 _ _ _ _ Sub.refl rl' (((en.up s1).up s2).up s3)
    · exact p3.elim⟩⟩⟩
/-! ### x op= e -/
theorem iop_ok {op : Operator} {f : Mu → D → D → Option D} (h : iopOf op = some f) : PIp X op (fun x y H Q => ∃ F m μ dx dy d, Rel T F m μ H ∧ Rep T F m x dx ∧ Rep T F m y dy ∧ f μ dx dy = some d ∧ ∀ v, Rep T F m v d → Q v H) := by
  intro pins s σ H x y v u Q I r1 r2 ⟨F, m, μ, dx, dy, d, rl, h1, h2, e, hQ⟩
  unfold iopOf at h
  split at h
  · cases h
    dsimp only at e
    split at e
    · cases e
      exact ip_add pins s σ H x y v u Q I r1 r2 ⟨_, _, h1.vInt, h2.vInt, hQ _ (.int _)⟩
    · cases e
  · cases h
    dsimp only at e
    split at e
    · cases e
      exact ip_sub pins s σ H x y v u Q I r1 r2 ⟨_, _, h1.vInt, h2.vInt, hQ _ (.int _)⟩
    · cases e
  · cases h
theorem st_aug {x : Str} {i : Nat} {q : Pos} {op : Operator} {g : Mu → D → D → Option D} (G : Good C X W T n) (hi : C.loc x = some i) (hop : iopOf op = some g) (h : PE X e (rdE T W f)) : PS X (.AugAssign (.Name x q) op e pos) (rdS T W (sAug i g f)) := by
  obtain ⟨_, h1, h2, h3⟩ := loc_ok G hi
  refine (ps_aug (xN_nodup G) h1 h2 h (iop_ok (T := T) hop) h3).imp fun D σ H ⟨F, m, μ, ρ, rl, en, p⟩ => ?_
  unfold sAug sB eV at p
  split at p
  · rename_i d0 m0 hd
    split at hd
    · rename_i d hd1
      cases hd
      obtain ⟨v, hv, rv⟩ := en.get i d hd1
      have p : PostS T W F m (sB ρ (f ρ) (fun y m => match g m (rs μ d) y with
        | some z => .ok (.nx (ρ.set i (some z))) m
        | none => .stuck) μ) D := p
      refine ⟨v, hv, F, m, μ, ρ, rl, en, PostS.bind p en fun y H1 F1 m1 dy μ1 s1 r1 h1 p1 => ?_⟩
      split at p1
      · rename_i z hz
        exact ⟨F1, m1, μ1, _, dy, z, r1, (rl.rs rv).up s1, h1, hz, fun w rw_ => p1 _ _ _ _ Sub.refl r1 ((en.up s1).set rw_)⟩
      · exact p1.elim
    · cases hd
  · rename_i hd
    split at hd <;> cases hd
  · exact p.elim
end
end Gs
/-! GsS13: fields, loops. -/
namespace Gs
open PySem PySem.Spec L2
/-- the fields that instances may have -/
def Fl (C : Cxt) (X : Cx) (T : Tb) : Prop := ∀ c Ca x, okN x = true → T.cl c = some Ca → (C.flds c).contains (nid x) = true → NoAttr X.K Ca x
section
variable {X : Cx} {T : Tb} {W : WX} {C : Cxt} {n k : Nat} {a b c e o : Expr} {fa fb fc f fo : Ex} {p pos tpos : Pos} {tg : Expr}
theorem repF_put {F : Hp} {m : At} {x : Str} {v : V} {d : D} (hx : okN x = true) (r : Rep T F m v d) : ∀ {fvs : List (Str × V)} {fs : List (Nat × D)}, RepF T F m fvs fs → RepF T F m (putF x v fvs) (putFld (nid x) d fs)
  | _, _, .nil => by
    unfold putF putFld
    exact .cons hx r .nil
  | _, _, .cons (x := y) ok r' t => by
    unfold putF putFld
    by_cases h : y = x
    · subst h
      rw [if_pos rfl, if_pos rfl]
      exact .cons hx r t
    · rw [if_neg h, if_neg (fun q => h (nid_inj ok hx q))]
      exact .cons ok r' (repF_put hx r t)
theorem putF_mem {x : Str} {v : V} : ∀ {fvs : List (Str × V)} {q : Str × V}, q ∈ putF x v fvs → q.1 = x ∨ q ∈ fvs
  | [], q, h => by
    unfold putF at h
    simp at h
    exact .inl (by rw [h])
  | (y, w) :: r, q, h => by
    unfold putF at h
    split at h
    · rename_i hyx
      rcases List.mem_cons.mp h with rfl | h
      · exact .inl hyx
      · exact .inr (List.mem_cons_of_mem _ h)
    · rcases List.mem_cons.mp h with rfl | h
      · exact .inr (by simp)
      · exact (putF_mem h).imp id fun h => List.mem_cons_of_mem _ h
theorem repF_len {F : Hp} {m : At} : ∀ {fvs : List (Str × V)} {fs : List (Nat × D)}, RepF T F m fvs fs → fvs.length = fs.length
  | _, _, .nil => rfl
  | _, _, .cons _ _ t => by simp [repF_len t]
theorem setFld_ok {x : Str} {F : Hp} {m : At} {μ μ' : Mu} {H : Hp} {vo vv : V} {d v : D} (hfl : Fl C X T) (hK : X.K = T.K) (hx : okN x = true) (rl : Rel T F m μ H) (ro : Rep T F m vo d) (rv : Rep T F m vv v) (e : setFld C.flds d (nid x) v μ = some μ') :
    ∃ a Ca dx fs, vo = .ref a ∧ H a = some (.ins Ca dx fs) ∧ Cls X.K Ca ∧ NoAttr X.K Ca x ∧ fs.length < 1000 ∧ Rel T F m μ' (upd H a (.ins Ca dx (putF x vv fs))) ∧ ∃ c, clsOf μ d = some c ∧ T.cl c = some Ca := by
  unfold setFld at e
  split at e
  · rename_i n
    split at e
    · rename_i c fs q
      split at e
      · rename_i hc
        cases e
        simp only [Bool.and_eq_true, Nat.blt_eq] at hc
        obtain ⟨a, rfl, hm⟩ := ro.vRef
        obtain ⟨a', e1, e2⟩ := rl.cell _ _ q
        rw [hm] at e1; cases e1
        cases e2 with
        | ins hF hcl hH ok t =>
          have na := hfl _ _ x hx hcl hc.2
          refine ⟨a, _, _, _, rfl, hH, by rw [hK]; exact ok.c.cls, na, by rw [repF_len t]; omega, rl.write q hm hF (.ins hF hcl upd_same ⟨ok.c, fun y hy => ?_⟩ (repF_put hx rv t)), _, by rw [clsOf_ref, q], hcl⟩
          rcases putF_mem hy with h | h
          · rw [h, ← hK]; exact na
          · exact ok.no y h
      · cases e
    · cases e
  · cases e
theorem st_setF {x : Str} {q : Pos} (G : Good C X W T n) (hfl : Fl C X T) (hx : okN x = true) (ho : PE X o (rdE T W fo)) (h : PE X e (rdE T W f)) (hn : notComp e = true) : PS X (.Assign [.Attribute o x q] e pos) (rdS T W (sSetFld C.flds fo (nid x) f)) := (ps_fld ho h (swaps_no hn)).imp fun D σ H ⟨F, m, μ, ρ, rl, en, p⟩ =>
  ⟨F, m, μ, ρ, rl, en, PostS.bind p en fun v H1 F1 m1 d μ1 s1 r1 h1 p1 => ⟨F1, m1, μ1, ρ, r1, en.up s1, PostS.bind p1 (en.up s1) fun vo H2 F2 m2 x' μ2 s2 r2 h2 p2 => by
    split at p2
    · rename_i μ' hp
      obtain ⟨a, Ca, dx, fs, e1, e2, e3, e4, e5, e6, _⟩ := setFld_ok hfl G.K hx r2 h2 (h1.up s2) hp
      exact ⟨a, Ca, dx, fs, e1, e2, e3, e4, e5, p2 _ _ _ _ Sub.refl e6 ((en.up s1).up s2)⟩
    · exact p2.elim⟩⟩
/-! ### for -/
theorem st_for {i : Itr} {g : Tgt} {body : List Stmt} {gb : Stm} {ix : List Nat} (G : Good C X W T n) (hi : PI X tg e (rdI T W i)) (hg : PG X tg (rdG T g ix)) (hb : PSs X body (rdS T W gb)) (hs : noSet e = true) : PS X (.For tg e body [] pos) (rdS T W (sFor i g gb)) :=
  (ps_for G.own G.calm hi hg hb (set_plain hs)).imp fun D σ H ⟨F, m, μ, ρ, rl, en, p⟩ =>
  ⟨F, m, μ, ρ, rl, en, PostS.bind p en fun J H1 F1 m1 w μ1 s1 r1 ri p1 => by
    obtain ⟨Gw, Y, wk, hG, hY⟩ := ri
    have hok : ∀ {i ρ F' m' μ'}, PostS T W F' m' (forGo g gb w (w.len - i) i ρ μ') D → w.ok μ' = true := fun {i ρ F' m' μ'} h => by
      cases e : w.ok μ' with
      | true => rfl
      | false =>
        cases q : w.len - i with
        | zero => rw [q] at h; unfold forGo at h; simp [e] at h; exact h.elim
        | succ j => rw [q] at h; unfold forGo at h; simp [e] at h; exact h.elim
    refine for_it wk (fun i σ H => ∃ F' m' μ' ρ', Sub F1 m1 F' m' ∧ Rel T F' m' μ' H ∧ EnvR T F' m' σ ρ' ∧ i ≤ w.len ∧ PostS T W F' m' (forGo g gb w (w.len - i) i ρ' μ') D)
      ⟨F1, m1, μ1, ρ, Sub.refl, r1, en.up s1, Nat.zero_le _, p1⟩ (fun i σ H hi ⟨F', m', μ', ρ', sb, rl', en', _, pp⟩ => hG T.p F' m' μ' H sb rl' (hok pp)) (fun i x σ H H' hi ⟨F', m', μ', ρ', sb, rl', en', _, pp⟩ hy => ?_) (fun σ H ⟨F', m', μ', ρ', sb, rl', en', _, pp⟩ => ?_)
    · have ho := hok pp
      obtain ⟨j, hj⟩ : ∃ j, w.len - i = j + 1 := ⟨w.len - i - 1, by omega⟩
      have hj2 : w.len - (i + 1) = j := by omega
      rw [hj] at pp
      unfold forGo at pp
      rw [if_pos ho] at pp
      split at pp
      · rename_i d hd
        split at pp
        · rename_i ρ1 hg1
          obtain ⟨F2, sb2, rl2, rx⟩ := hY i T.p F' m' μ' H x H' d hi sb rl' ho hy hd
          refine ⟨F2, m', μ', ρ', d, ρ1, rl2, en'.up sb2, rx, hg1, fun σ1 en1 _ _ => ⟨F2, m', μ', ρ1, rl2, en1, ?_⟩⟩
          have pp := pp.up sb2
          cases q : gb ρ1 μ' with
          | stuck => rw [q] at pp; exact pp
          | exc c fs ρ2 μ2 => rw [q] at pp; exact pp
          | ok oo μ2 =>
            cases oo with
            | nx ρ2 =>
              rw [q] at pp
              exact fun σ2 H2 F3 m3 s3 r3 en2 => ⟨F3, m3, μ2, ρ2, (sb.trans sb2).trans s3, r3, en2, by omega, by rw [hj2]; exact pp.up s3⟩
            | ct ρ2 =>
              rw [q] at pp
              exact fun σ2 H2 F3 m3 s3 r3 en2 => ⟨F3, m3, μ2, ρ2, (sb.trans sb2).trans s3, r3, en2, by omega, by rw [hj2]; exact pp.up s3⟩
            | bk ρ2 => rw [q] at pp; exact pp
            | rt d2 => rw [q] at pp; exact pp
        · exact pp.elim
      · exact pp.elim
    · have ho := hok pp
      rw [Nat.sub_self] at pp
      unfold forGo at pp
      rw [if_pos ho] at pp
      exact pp _ _ _ _ Sub.refl rl' en'⟩
/-! ### while -/
theorem st_while {t : Expr} {tt : Tst} {body : List Stmt} {gb : Stm} (G : Good C X W T n) (ht : PT X t (rdT T W tt)) (hb : PSs X body (rdS T W gb)) : PS X (.While t body [] pos) (rdS T W (sWhile tt gb)) :=
  (ps_while G.own ht hb).imp fun D σ H ⟨F, m, μ, ρ, rl, en, p⟩ => by
    refine ⟨fun j σ H => ∃ F' m' μ' ρ', Rel T F' m' μ' H ∧ EnvR T F' m' σ ρ' ∧ PostS T W F' m' (whileGo tt gb j ρ' μ') D, ⟨turns, F, m, μ, ρ, rl, en, p⟩, ?_⟩
    rintro j σ H ⟨F', m', μ', ρ', rl', en', pp⟩
    cases j with
    | zero => unfold whileGo at pp; exact pp.elim
    | succ j =>
      unfold whileGo at pp
      refine ⟨F', m', μ', ρ', rl', en', ?_⟩
      cases q : tt ρ' μ' with
      | stuck => rw [q] at pp; exact pp
      | exc c fs μ2 =>
        rw [q] at pp
        exact fun C dx fvs H' F2 m2 s r hc hd hf rf xf => pp C dx fvs σ H' F2 m2 s r (en'.up s) hc hd hf rf xf
      | ok bb μ2 =>
        rw [q] at pp
        intro b' H2 F2 m2 s2 r2 hb'
        have hb' : b' = bb := hb'
        subst hb'
        cases b' with
        | false => exact iteF (pp _ _ _ _ s2 r2 (en'.up s2))
        | true =>
          refine iteT ⟨fun σ' H' => ∃ F' m' μ' ρ', Rel T F' m' μ' H' ∧ EnvR T F' m' σ' ρ' ∧ PostS T W F' m' (whileGo tt gb j ρ' μ') D, fun σ' H' h => ⟨j, Nat.lt_succ_self _, h⟩, F2, m2, μ2, ρ', r2, en'.up s2, ?_⟩
          have pp := PostS.up s2 pp
          dsimp only at pp
          cases q2 : gb ρ' μ2 with
          | stuck => rw [q2] at pp; exact pp
          | exc c fs ρ2 μ2 => rw [q2] at pp; exact pp
          | ok oo μ3 =>
            cases oo with
            | nx ρ2 =>
              rw [q2] at pp
              exact fun σ2 H2 F3 m3 s3 r3 en2 => ⟨F3, m3, μ3, ρ2, r3, en2, pp.up s3⟩
            | ct ρ2 =>
              rw [q2] at pp
              exact fun σ2 H2 F3 m3 s3 r3 en2 => ⟨F3, m3, μ3, ρ2, r3, en2, pp.up s3⟩
            | bk ρ2 => rw [q2] at pp; exact pp
            | rt d2 => rw [q2] at pp; exact pp
end
end Gs
/-! GsS14: o[i] op= e, o.x op= e, name = [..]. -/
namespace Gs
open PySem PySem.Spec L2
section
variable {X : Cx} {T : Tb} {W : WX} {C : Cxt} {n k : Nat} {a b c e o : Expr} {fa fb fc f fo : Ex} {p pos tpos : Pos} {tg : Expr}
theorem get_lst : PGet X (fun o i H Q => ∃ p xs k v, o = .ref p ∧ i = .int k ∧ H p = some (.lst xs) ∧ atI xs k = some v ∧ Q v H) := by
  intro pins s σ H x y v u Q I rx ry h
  obtain ⟨p, xs, i, z, rfl, rfl, hq, he, q⟩ := h
  cases rx
  obtain ⟨t, rfl⟩ := ry
  obtain ⟨its, r, pl, hz⟩ := I.list (SqL.of hq)
  obtain ⟨j, h1, h2, h3, h4, h5⟩ := atI_get he
  obtain ⟨w, ew, rw'⟩ := r.get h2
  have hl := r.length
  have hn := line63
  have fin : EP X pins σ Q w s := ⟨z, H, I, rw', q⟩
  by_cases h0 : 0 ≤ i
  · have hj : i.toNat = j := by
      rw [seqIndex_of h0 h5] at h1
      exact Option.some.inj h1
    exact wpAny_getItem_list pl.isList h0 (by omega) (by rw [hj]; simpa using ew) fin
  · have hj : (i + (its.toArray.size : Int)).toNat = j := by
      rw [seqIndex_neg (by omega) h4] at h1
      rw [List.size_toArray, ← hl]
      exact Option.some.inj h1
    exact wpAny_getItem_list_neg pl.isList (by omega) (by rw [List.size_toArray] <;> omega) (by omega) (by rw [hj]; simpa using ew) fin
theorem st_augI {i : Expr} {fi : Ex} {q : Pos} {op : Operator} {g : Mu → D → D → Option D} (hop : iopOf op = some g) (ho : PE X o (rdE T W fo)) (hi : PE X i (rdE T W fi)) (h : PE X e (rdE T W f)) (hs : notSlice i = true) : PS X (.AugAssign (.Subscript o i q) op e pos) (rdS T W (sAugItem fo fi g f)) := by
  have ha : ∀ ov iv new, augStore i ov iv new = (do holding [new, ov, iv] (setItem ov iv new); release [new, ov, iv] []; pure .next) := by
    intro ov iv new
    cases i <;> first | rfl | (simp [notSlice] at hs)
  refine (ps_augS ho hi get_lst h (iop_ok (T := T) hop) set_list ha).imp fun D σ H ⟨F, m, μ, ρ, rl, en, p⟩ => ?_
  exact ⟨F, m, μ, ρ, rl, en, PostS.bind p en fun vo H1 F1 m1 x μ1 s1 r1 h1 p1 => ⟨F1, m1, μ1, ρ, r1, en.up s1, PostS.bind p1 (en.up s1) fun vi H2 F2 m2 kx μ2 s2 r2 h2 p2 => by
    have en2 := (en.up s1).up s2
    have h1' := h1.up s2
    split at p2
    · rename_i y hy
      unfold oItemL at hy
      split at hy
      · rename_i nn ii
        split at hy
        · rename_i xs q1
          obtain ⟨d0, e0, rfl⟩ := Option.map_eq_some_iff.mp hy
          obtain ⟨a', ws, rfl, hm, hF, hH, t⟩ := ref_lst r2 h1' q1
          obtain ⟨v, e1, rv⟩ := reps_ixN t e0
          obtain rfl := h2.vInt
          refine ⟨a', ws, ii, v, rfl, rfl, hH, e1, F2, m2, μ2, ρ, r2, en2, PostS.bind p2 en2 fun ve H3 F3 m3 de μ3 s3 r3 h3 p3 => ?_⟩
          split at p3
          · rename_i z hz
            split at p3
            · rename_i μ' hp
              refine ⟨F3, m3, μ3, rs μ2 d0, de, z, r3, (r2.rs rv).up s3, h3, hz, fun vz rz => ?_⟩
              exact putItem_ok r3 (h1'.up s3) (.int ii) rz hp fun H' rl' => p3 _ _ _ _ Sub.refl rl' (en2.up s3)
            · exact p3.elim
          · exact p3.elim
        · cases hy
      · cases hy
    · exact p2.elim⟩⟩
theorem st_augF {x : Str} {q : Pos} {op : Operator} {g : Mu → D → D → Option D} (G : Good C X W T n) (hfl : Fl C X T) (hx : okN x = true) (hop : iopOf op = some g) (ho : PE X o (rdE T W fo)) (h : PE X e (rdE T W f)) : PS X (.AugAssign (.Attribute o x q) op e pos) (rdS T W (sAugFld C.flds fo (nid x) g f)) := by
  refine (ps_fldaug ho h (rd := fun x y H Q => ∃ F m μ dx dy d, Rel T F m μ H ∧ Rep T F m x dx ∧ Rep T F m y dy ∧ g μ dx dy = some d ∧ ∀ v, Rep T F m v d → Q v H) (iop_ok (T := T) hop)).imp fun D σ H ⟨F, m, μ, ρ, rl, en, p⟩ => ?_
  exact ⟨F, m, μ, ρ, rl, en, PostS.bind p en fun vo H1 F1 m1 d μ1 s1 r1 h1 p1 => by
    have en1 := en.up s1
    split at p1
    · rename_i y hy
      have key : ∃ c, clsOf μ1 d = some c ∧ ∃ d0, (fldsOf μ1 d).lookup (nid x) = some d0 ∧ y = rs μ1 d0 := by
        unfold oFld at hy
        split at hy
        · obtain ⟨d0, h1, h2⟩ := Option.map_eq_some_iff.mp hy
          exact ⟨_, rfl, d0, h1, h2.symm⟩
        · obtain ⟨d0, h1, h2⟩ := Option.map_eq_some_iff.mp hy
          exact ⟨_, rfl, d0, h1, h2.symm⟩
        · rename_i n
          split at hy
          · rename_i c fs q2
            obtain ⟨d0, h1, h2⟩ := Option.map_eq_some_iff.mp hy
            exact ⟨c, by rw [clsOf_ref, q2], d0, by rw [fldsOf_ref, q2]; exact h1, h2.symm⟩
          · cases hy
        · cases hy
      obtain ⟨c, hc, d0, h0, rfl⟩ := key
      obtain ⟨a', Ca, dx, fvs, rfl, hcl0, hH, ok, t⟩ := inst_of r1 G.z h1 hc
      obtain ⟨w, hw, rw'⟩ := repF_get hx t h0
      refine ⟨a', Ca, dx, fvs, w, rfl, hH, by rw [G.K]; exact ok.c.cls, by rw [G.K]; exact ok.no _ (mem_of_lookupV hw), hw, F1, m1, μ1, ρ, r1, en1, PostS.bind p1 en1 fun ve H3 F3 m3 de μ3 s3 r3 h3 p3 => ?_⟩
      split at p3
      · rename_i hcc
        split at p3
        · rename_i z hz
          split at p3
          · rename_i μ' hp
            refine ⟨F3, m3, μ3, rs μ1 d0, de, z, r3, (r1.rs rw').up s3, h3, hz, fun vz rz => ?_⟩
            obtain ⟨a2, Ca2, dx2, fs2, e1, e2, e3, e4, e5, e6, c2, e7, e8⟩ := setFld_ok hfl G.K hx r3 (h1.up s3) rz hp
            cases e1
            have hcl : Ca2 = Ca := by
              rw [hcc, hc] at e7
              cases e7
              rw [hcl0] at e8
              exact (Option.some.inj e8).symm
            subst hcl
            exact ⟨dx2, fs2, e2, e5, p3 _ _ _ _ Sub.refl e6 (en1.up s3)⟩
          · exact p3.elim
        · exact p3.elim
      · exact p3.elim
    · exact p1.elim⟩
theorem tLc_imp {T : Tb} {W : WX} {it : Itr} {g : TG} {tt : TT} {te : TE} {vs : List Nat} {σ : L2.St} {H : Hp} {Q Q' : VK} (h : ∀ v H, Q v H → Q' v H) (hr : tLc (rdI T W it) g tt te vs σ H Q) : tLc (rdI T W it) g tt te vs σ H Q' := by
  obtain ⟨F, m, μ, ρ, rl, en, pp⟩ := hr
  refine ⟨F, m, μ, ρ, rl, en, pp.imp fun J H1 k D hD => ?_⟩
  obtain ⟨Wf, w0, wk⟩ := k D hD
  exact ⟨Wf, w0, fun i m H hw => (wk i m H hw).imp (fun ⟨a, b⟩ => ⟨a, h _ _ b⟩) id⟩
/-! ### name = [..] -/
theorem swap_yes {x : Str} {elt : Expr} {gs : List Comprehension} {scope : Scope} {py p2 : Pos} {l : Nat} {env : PySem.Env} (hk : env.scope.kind = .function) (hx : env.scope.names.lookup x = some .local) (hl : py.line = p2.line) (hs : (scope.names.any fun q => q.1 == x && (q.2 == .local || q.2 == .cell)) = false) :
    swapsWith (.ListComp elt gs scope p2) (some (.Name x py)) l env = pure true := sw_true hk hx (by simp [hl]) hs
theorem st_setLc0 {x : Str} {i : Nat} {q p2 : Pos} {elt iter : Expr} {scope : Scope} {it : Itr} {g : Tgt} {el : Ex} (G : Good C X W T n) (hkf : C.sc.kind = .function) (hi : C.loc x = some i) (hsw : swapC C (.ListComp elt [⟨tg, iter, [], 0⟩] scope p2) x q = true) (K : CompOk C X T W elt tg iter scope it g el) :
    PS X (.Assign [.Name x q] (.ListComp elt [⟨tg, iter, [], 0⟩] scope p2) pos) (rdS T W (sAsg (C.mut p2 (eComp ((ownOf C.N scope.names).map (·.2)) it g Gs.tYes el)) (gV i))) := by
  simp only [swapC, Bool.and_eq_true, decide_eq_true_eq, Bool.not_eq_true'] at hsw
  obtain ⟨_, h1, h2, h3⟩ := loc_ok G hi
  have hl : X.env.scope.names.lookup x = some .local := by rw [G.sc]; exact hsw.1.1
  refine (ps_setLc G.calm (xN_nodup G) h1 hl (swap_yes (by rw [G.sc]; exact hkf) hl (Nat.eq_of_beq_eq_true hsw.1.2) hsw.2) K.it (K.ok G) (fun s H Ca cl fp => PG.ex fun P => g_ok (G.blk P) K.tgt) (fun _ _ _ _ _ => pts_nil) (fun s H Ca cl fp => PE.ex fun P => K.el P s H cl Ca fp) (set_plain K.set)).imp
    fun D σ H hr => ?_
  have := asg_rd (ix := [i]) (te := tLc (rdI T W it) (exG T g (tgtIx (C.inner scope) tg)) L2.tYes (exE T el) ((ownOf C.N scope.names).map (·.2))) (fun σ H Q h => comp_rd (ix_sub K.ix) t_yes σ H Q (rd_mutC h)) D σ H hr
  exact tLc_imp (fun v H1 h => gname_rd v σ H1 _ h (by simp)) this
theorem st_setLc1 {x : Str} {i : Nat} {q p2 : Pos} {elt iter tst : Expr} {scope : Scope} {it : Itr} {g : Tgt} {t : Tst} {el : Ex} (G : Good C X W T n) (hkf : C.sc.kind = .function) (hi : C.loc x = some i) (hsw : swapC C (.ListComp elt [⟨tg, iter, [tst], 0⟩] scope p2) x q = true) (K : CompOk C X T W elt tg iter scope it g el)
    (ht : ∀ P s H cl Ca fp, PT (X.blk s H scope (compEnvC scope cl Ca X.env) fp) tst (rdT (T.wp P) Wno t)) :
    PS X (.Assign [.Name x q] (.ListComp elt [⟨tg, iter, [tst], 0⟩] scope p2) pos) (rdS T W (sAsg (C.mut p2 (eComp ((ownOf C.N scope.names).map (·.2)) it g t el)) (gV i))) := by
  simp only [swapC, Bool.and_eq_true, decide_eq_true_eq, Bool.not_eq_true'] at hsw
  obtain ⟨_, h1, h2, h3⟩ := loc_ok G hi
  have hl : X.env.scope.names.lookup x = some .local := by rw [G.sc]; exact hsw.1.1
  refine (ps_setLc G.calm (xN_nodup G) h1 hl (swap_yes (by rw [G.sc]; exact hkf) hl (Nat.eq_of_beq_eq_true hsw.1.2) hsw.2) K.it (K.ok G) (fun s H Ca cl fp => PG.ex fun P => g_ok (G.blk P) K.tgt) (fun s H Ca cl fp => pts_one (PT.ex fun P => ht P s H cl Ca fp)) (fun s H Ca cl fp => PE.ex fun P => K.el P s H cl Ca fp) (set_plain K.set)).imp
    fun D σ H hr => ?_
  have := asg_rd (ix := [i]) (te := tLc (rdI T W it) (exG T g (tgtIx (C.inner scope) tg)) (exT T t) (exE T el) ((ownOf C.N scope.names).map (·.2))) (fun σ H Q h => comp_rd (ix_sub K.ix) t_one σ H Q (rd_mutC h)) D σ H hr
  exact tLc_imp (fun v H1 h => gname_rd v σ H1 _ h (by simp)) this
end
end Gs
/-! GsS15: errors: their making, raise. -/
namespace Gs
open PySem PySem.Spec L2
/-- the body of an error's __init__: self.f = x, .. -/
inductive ErrB (self : Str) : List Stmt → List (Str × Str) → Prop
  | nil : ErrB self [] []
  | cons {p1 p2 p3 p4 : Pos} {f x : Str} {r : List Stmt} {l : List (Str × Str)} : ErrB self r l → ErrB self (.Assign [.Attribute (.Name self p1) f p2] (.Name x p3) p4 :: r) ((f, x) :: l)
/-- an error's class: its fields are no attributes of it -/
structure ErrC (K : PySem.W.Frag) (C : Addr) (fs : List Str) : Prop where
  ox : OexC K C
  no : ∀ f ∈ fs, PySem.W.findIn K (.ref C) f = some none
/-- what an error's __init__ promises -/
def spO (C : Addr) (fs : List Str) : Sp := fun vs H Q _ => ∃ a ws, vs = .ref a :: ws ∧ ws.length = fs.length ∧ fs ≠ [] ∧ H a = some (exo a C none) ∧
  ∀ d, H d = none → d ≠ a → Q .non (upd (upd H d (exd d (fs.zip ws).reverse)) a (exo a C (some d)))
def tErr (K : PySem.W.Frag) : Nat → List (Str × Str) → TS
  | _, [] => tNext
  | j, (f, _) :: r => tSeq (tOst K f (tVar 0) (tVar j)) (tErr K (j + 1) r)
theorem err_pss {X : Cx} {self : Str} (h0 : X.N[0]? = some self) (v0 : Vis X.env.scope self) (o0 : okN self = true) : ∀ {body : List Stmt} {l : List (Str × Str)} {j : Nat}, ErrB self body l →
    (∀ i q, l[i]? = some q → X.N[j + i]? = some q.2 ∧ Vis X.env.scope q.2 ∧ okN q.2 = true) → PSs X body (tErr X.K j l)
  | _, _, _, .nil, _ => pss_nil
  | _, _, j, .cons (f := f) (x := x) (l := l) hr, h => by
    obtain ⟨h1, h2, h3⟩ := h 0 (f, x) rfl
    refine pss_cons (ps_ost (pe_var h0 v0 (okN_debug o0) (okN_classdict o0)) (pe_var h1 h2 (okN_debug h3) (okN_classdict h3)) rfl) (err_pss h0 v0 o0 hr fun i q e => ?_)
    obtain ⟨g1, g2, g3⟩ := h (i + 1) q (by simpa using e)
    exact ⟨by rw [show j + 1 + i = j + (i + 1) by omega]; exact g1, g2, g3⟩
/-- further fields -/
theorem err_more {K : PySem.W.Frag} {C a dx : Addr} {σ : L2.St} {D : Ends} : ∀ {l : List (Str × Str)} {j : Nat} {ws : List V} {H : Hp} {fs0 : List (Str × V)}, ErrC K C (l.map (·.1)) → σ[0]? = some (some (.ref a)) → (∀ (i : Nat) w, ws[i]? = some w → σ[j + i]? = some (some w)) → ws.length = l.length → H a = some (exo a C (some dx)) → H dx = some (exd dx fs0) → dx ≠ a →
    fs0.length + l.length ≤ 900 → D.nx σ (upd H dx (exd dx (((l.map (·.1)).zip ws).reverse ++ fs0))) → tErr K j l D σ H
  | [], j, ws, H, fs0, _, _, _, hl, _, hd, _, _, q => by
    cases ws with
    | cons _ _ => simp at hl
    | nil =>
      have : upd H dx (exd dx fs0) = H := by
        funext b
        unfold upd
        split
        · rename_i e; rw [e, hd]
        · rfl
      simp only [List.map_nil, List.zip_nil_left, List.reverse_nil, List.nil_append] at q
      rw [this] at q
      exact q
  | (f, x) :: l, j, ws, H, fs0, T, h0, hw, hl, ha, hd, hne, hz, q => by
    cases ws with
    | nil => simp at hl
    | cons w ws =>
      refine ⟨w, by simpa using hw 0 w rfl, .ref a, h0, a, C, rfl, T.ox, T.no f (by simp), .inr ⟨dx, fs0, ha, hd, by simp at hz; omega, ?_⟩⟩
      refine err_more (ws := ws) ⟨T.ox, fun g hg => T.no g (by simp only [List.map_cons, List.mem_cons]; exact .inr hg)⟩ h0 (fun i w' e => by rw [show j + 1 + i = j + (i + 1) by omega]; exact hw (i + 1) w' (by simpa using e)) (by simpa using hl) (by rw [upd_ne (Ne.symm hne)]; exact ha) upd_same hne (by simp at hz ⊢; omega) ?_
      rw [upd_upd]
      have : (((f, x) :: l).map (·.1)).zip (w :: ws) = (f, w) :: (l.map (·.1)).zip ws := rfl
      rw [this, List.reverse_cons, List.append_assoc] at q
      exact q
theorem err_run {K : PySem.W.Frag} {C : Addr} {σ : L2.St} {D : Ends} {l : List (Str × Str)} {ws : List V} {H : Hp} {a : Addr} (T : ErrC K C (l.map (·.1))) (h0 : σ[0]? = some (some (.ref a))) (hw : ∀ (i : Nat) w, ws[i]? = some w → σ[1 + i]? = some (some w)) (hl : ws.length = l.length) (hne : l ≠ []) (hz : l.length ≤ 900) (ha : H a = some (exo a C none))
    (q : ∀ d, H d = none → d ≠ a → D.nx σ (upd (upd H d (exd d ((l.map (·.1)).zip ws).reverse)) a (exo a C (some d)))) : tErr K 1 l D σ H := by
  match l, ws with
  | [], _ => exact absurd rfl hne
  | _ :: _, [] => simp at hl
  | (f, x) :: l, w :: ws =>
    refine ⟨w, by simpa using hw 0 w rfl, .ref a, h0, a, C, rfl, T.ox, T.no f (by simp), .inl ⟨ha, fun dx hd hda => ?_⟩⟩
    refine err_more (ws := ws) (a := a) (C := C) (dx := dx) ⟨T.ox, fun g hg => T.no g (by simp only [List.map_cons, List.mem_cons]; exact .inr hg)⟩ h0 (fun i w' e => by rw [show 1 + 1 + i = 1 + (i + 1) by omega]; exact hw (i + 1) w' (by simpa using e)) (by simpa using hl) upd_same (by rw [upd_ne hda]; exact upd_same) hda (by simp at hz ⊢; omega) ?_
    have e1 : upd (upd (upd H dx (exd dx [(f, w)])) a (exo a C (some dx))) dx (exd dx (((l.map (·.1)).zip ws).reverse ++ [(f, w)])) = upd (upd H dx (exd dx (((l.map (·.1)).zip ws).reverse ++ [(f, w)]))) a (exo a C (some dx)) := by
      funext b
      unfold upd
      by_cases h1 : b = dx
      · subst h1
        rw [if_pos rfl, if_neg hda, if_pos rfl]
      · rw [if_neg h1]
        by_cases h2 : b = a
        · rw [if_pos h2, if_pos h2]
        · rw [if_neg h2, if_neg h2, if_neg h1, if_neg h1]
    rw [e1]
    have := q dx hd hda
    have e2 : (((f, x) :: l).map (·.1)).zip (w :: ws) = (f, w) :: (l.map (·.1)).zip ws := rfl
    rw [e2, List.reverse_cons] at this
    exact this
section
variable {X : Cx} {T : Tb} {W : WX} {C : Cxt} {n k : Nat} {a b c e o : Expr} {fa fb fc f fo : Ex} {p pos tpos : Pos} {tg : Expr} {es : List Expr}
/-- an error that may be raised -/
structure ErrX (X : Cx) (T : Tb) (k : Nat) (c : Nat) (Ca : Addr) (ps : List Nat) : Prop where
  cl : T.cl c = some Ca
  xf : XfC X.K Ca
  ex : ∃ (fs pn : List Str) (fI : Addr) (fd : FuncData), fs.map nid = ps ∧ (∀ x ∈ fs, okN x = true) ∧ fs ≠ [] ∧ fs.length ≤ 900 ∧ ErrC X.K Ca fs ∧ PySem.W.findIn X.K (.ref Ca) "__init__" = some (some (.ref fI)) ∧ PySem.W.typeIn X.K (.ref fI) = some (.type "function") ∧
    FnOk X.prog X.w X.K X.mg X.base (L2.CX X.prog X.w) k fI fd pn (spO Ca fs) ∧ Binds X.K fd pn []
theorem del_upd {H : Hp} {a : Addr} {o : HO} (h : H a = none) : del (upd H a o) a = H := by
  funext b
  unfold del upd
  by_cases e : b = a
  · rw [if_pos e, e, h]
  · rw [if_neg e, if_neg e]
theorem repF_zip {F : Hp} {m : At} : ∀ {fs : List Str} {ws : List V} {ds : List D}, (∀ x ∈ fs, okN x = true) → Reps T F m ws ds → RepF T F m (fs.zip ws) ((fs.map nid).zip ds)
  | [], _, _, _, _ => by simp; exact .nil
  | _ :: _, [], [], _, .nil => by simp; exact .nil
  | x :: fs, w :: ws, d :: ds, h, .cons r t => .cons (h x (by simp)) r (repF_zip (fun y hy => h y (List.mem_cons_of_mem _ hy)) t)
theorem repF_append {F : Hp} {m : At} : ∀ {l : List (Str × V)} {l' : List (Nat × D)} {r : List (Str × V)} {r' : List (Nat × D)}, RepF T F m l l' → RepF T F m r r' → RepF T F m (l ++ r) (l' ++ r')
  | _, _, _, _, .nil, h => h
  | _, _, _, _, .cons ok r t, h => .cons ok r (repF_append t h)
theorem repF_rev {F : Hp} {m : At} : ∀ {l : List (Str × V)} {l' : List (Nat × D)}, RepF T F m l l' → RepF T F m l.reverse l'.reverse
  | _, _, .nil => .nil
  | _, _, .cons ok r t => by
    rw [List.reverse_cons, List.reverse_cons]
    exact repF_append (repF_rev t) (.cons ok r .nil)
theorem st_raise {x : Str} {A : Exs} {Ca : Addr} {ps : List Nat} (G : Good C X W T n) (hr : Room (k + 1) X.A) (hx : okN x = true) (hg : Gl X x) (hm : X.mg x = some (.ref Ca)) (Er : ErrX X T k (nid x) Ca ps)
    (ha : PA X (e :: es) (rdA T W A)) (hs : (e :: es).any isStar = false) (hz : (e :: es).length < 900) : PS X (.Raise (some (.Call (.Name x p) (e :: es) [] pos)) none tpos) (rdS T W (sRaise (nid x) ps A)) := by
  obtain ⟨fs, pn, fI, fd, e1, okf, hne, hl9, EC, hi, ht, Fo, hb⟩ := Er.ex
  have hs' := hs
  simp only [List.any_cons, Bool.or_eq_false_iff] at hs'
  refine (ps_raise G.calm G.tk (pmk_oex (ds := []) (dvs := []) EC.ox hi ht Fo hr hb .nil (fun _ _ _ _ _ _ _ c => by
    obtain ⟨_, _, _, _, _, _, _, _, _, _, _, _, z⟩ := c
    exact z.elim) hg hm ha (okN_debug hx) (star_eq hs'.1) (star_any (by simpa using hs'.2)))).imp fun D σ H ⟨F, m, μ, ρ, rl, en, pp⟩ => ?_
  refine ⟨F, m, μ, ρ, rl, en, PostS.bind pp en fun ws H1 F1 m1 ds μ1 s1 r1 t1 p1 => ?_⟩
  split at p1
  · rename_i hlen
    rw [← e1, List.length_map] at hlen
    have hwl : ws.length = fs.length := by rw [t1.length, hlen]
    refine ⟨by omega, fun a ha0 => ?_⟩
    rw [List.append_nil]
    refine ⟨a, ws, rfl, hwl, hne, upd_same, fun d hd hda => ⟨rfl, d, (fs.zip ws).reverse, upd_same, by rw [upd_ne hda]; exact upd_same, ?_, ?_⟩⟩
    · rw [upd_ne hda] at hd; exact hd
    · have hd1 : H1 d = none := by rw [upd_ne hda] at hd; exact hd
      have e2 : upd (del (upd (upd (upd H1 a (exo a Ca none)) d (exd d (fs.zip ws).reverse)) a (exo a Ca (some d))) a) d (.xd (fs.zip ws).reverse) = upd H1 d (.xd (fs.zip ws).reverse) := by
        funext b
        unfold upd del
        by_cases h1 : b = d
        · rw [if_pos h1, if_pos h1]
        · rw [if_neg h1, if_neg h1]
          by_cases h2 : b = a
          · rw [if_pos h2, h2, ha0]
          · rw [if_neg h2]
            dsimp only
            rw [if_neg h2, if_neg h1, if_neg h2]
      rw [e2]
      have rl2 := r1.addH (o := .xd (fs.zip ws).reverse) hd1
      have sb : Sub F1 m1 (upd F1 d (.xd (fs.zip ws).reverse)) m1 := Sub.addF (r1.noF hd1)
      have rl3 := rl2.addF (r1.noF hd1) upd_same (r1.noM hd1) (r1.noP hd1)
      refine p1 _ _ _ _ _ _ _ sb rl3 ((en.up s1).up sb) Er.cl upd_same upd_same ?_ ⟨by rw [← G.K]; exact Er.xf, fun q hq => by
        rw [← G.K]
        refine EC.no q.1 ?_
        obtain ⟨q1, q2⟩ := q
        exact (List.of_mem_zip (List.mem_reverse.mp hq)).1⟩
      rw [← e1]
      exact repF_rev (repF_zip okf (t1.up sb))
  · exact p1.elim
end
end Gs
/-! GsTry: several except clauses, with names. -/
namespace L2
open PySem PySem.Spec PyProof.Rows
abbrev HdT := Value × Option Nat × (Addr → Value → Option Addr → TS)
/-- the name forgotten behind the suite -/
def outOf (i : Nat) (D : Ends) : Ends := { nx := fun σ' H' => D.nx (σ'.set i none) H', rt := D.rt, bk := fun σ' H' => D.bk (σ'.set i none) H', ct := fun σ' H' => D.ct (σ'.set i none) H' }
/-- what the clauses wish of an exception of the body -/
def wMix (K : PySem.W.Frag) (Wout : WX) (D : Ends) : List HdT → WX
  | [] => Wout
  | (c, nm, ts) :: r => fun cls d σ H => ∃ b, PySem.W.exmOne K cls c = some b ∧ (b = true → ∀ a, H a = none → match nm with
      | none => ts a cls d D σ H
      | some i => ts a cls d (outOf i D) (σ.set i (some (.ref a))) H) ∧ (b = false → wMix K Wout D r cls d σ H)
inductive HdsMix (X : Cx) : List ExceptHandler → List HdT → Prop
  | nil : HdsMix X [] []
  | plain {x : Str} {c : Value} {ts : Addr → Value → Option Addr → TS} {b₀ : Stmt} {suite : List Stmt} {np pos' : Pos} {hds : List ExceptHandler} {l : List HdT} (hc : Names X x c)
      (hsu : ∀ (a : Addr) (oe : Obj) (cls : Value) (d : Option Addr) (pn : List (Addr × Obj)), Zc cls d oe → (∃ vs, oe.data = .fields vs) → PSs (X.suite a ((a, oe) :: pn)) (b₀ :: suite) (ts a cls d)) (r : HdsMix X hds l) :
      HdsMix X (.ExceptHandler (some (.Name x np)) none (b₀ :: suite) pos' :: hds) ((c, none, ts) :: l)
  | named {x n : Str} {i : Nat} {c : Value} {ts : Addr → Value → Option Addr → TS} {b₀ : Stmt} {suite : List Stmt} {np pos' : Pos} {hds : List ExceptHandler} {l : List HdT} (hi : X.N[i]? = some n) (hln : X.env.kindOf n = some .local) (hc : Names X x c)
      (hsu : ∀ (a : Addr) (oe : Obj) (cls : Value) (d : Option Addr) (pn : List (Addr × Obj)), Zc cls d oe → (∃ vs, oe.data = .fields vs) → PSs (X.suite a ((a, oe) :: pn)) (b₀ :: suite) (ts a cls d)) (r : HdsMix X hds l) :
      HdsMix X (.ExceptHandler (some (.Name x np)) (some n) (b₀ :: suite) pos' :: hds) ((c, some i, ts) :: l)
section
variable {X : Cx} {body : List Stmt} {h₀ : ExceptHandler} {hds : List ExceptHandler} {l : List HdT} {pos : Pos} {tb : WX → TS} {Wout : WX}
theorem ps_try_mix (hs : X.stack = X.env :: X.outer) (hf : X.env.frame = some X.env.locals) (hN : X.N.Nodup) (tk : Takes X Wout)
    (hb : ∀ (W : WX) (pn : List (Addr × Obj)) (xe : Value → Shared → Prop), Takes (X.tr pn xe) W → PassesOwn (model X.prog X.w) X.A X.env xe → PSs (X.tr pn xe) body (tb W))
    (hh : HdsMix X (h₀ :: hds) l) : PS X (.Try body (h₀ :: hds) [] [] pos) (fun D σ H => tb (wMix X.K Wout D l) D σ H) := by
  refine ⟨fun pins s σ H D I h => ?_⟩
  have ok := I.ok
  have hfr : X.A.frames = some (X.env :: X.outer) := by rw [ok.frames, hs]
  refine wpAny_Try_except ?_
  refine wpAny_mono ((hb (wMix X.K Wout D l) (X.pn ++ pins) (fun e s₁ => wpAny (model X.prog X.w) X.A (noteFrame e X.env) (fun _ s₂ => wpAny (model X.prog X.w) X.A (setFlight e none) (fun _ s₃ =>
    wpAny (model X.prog X.w) X.A (handleBy e X.env (h₀ :: hds)) (SP X pins D) X.xe s₃) X.xe s₂) X.xe s₁) (fun u s' xx => ?_) PassesOwn.looking).run [] s σ H D (I.toTry _) h) (fun f s1 hsp => ?_) (fun e s1 he => he)
  · obtain ⟨a, B, sI, pins', σ', H', cls, d, rfl, J', nb, up, sky, na, os, ag, w⟩ := xx
    have J : Inv X pins σ' H' sI := J'.ofTry ok
    have sky' : Sky B (X.env :: X.outer) a (Zc cls d) X.env.locals s'.heap := by rw [← hs]; exact sky
    show wpAny (model X.prog X.w) X.A (noteFrame (.ref a) X.env) _ _ _
    refine Sky.land Zc.steady hfr hf sky' fun h3 fl3 up3 => ?_
    have J3 : Inv X pins σ' H' { s' with heap := h3 } := J.landed nb fl3.1 (up.trans up3) os ag
    obtain ⟨oe3, vs3, he3, hz3, hd3⟩ := fl3.there
    have notFr : ∀ {h : Heap} {o : Obj} {vs : Array Value}, h.FunFrames B (X.env :: X.outer) → h.get? a = some o → o.data = .fields vs → a ∉ frs (X.env :: X.outer) := fun {h o vs} ff e dd hm => by
      obtain ⟨_, o', e', hnf⟩ := ff.mem hm
      rw [e] at e'; cases e'
      exact hnf _ dd
    have nfr := notFr fl3.2.2.1 he3 hd3
    have nL : a ≠ X.env.locals := fun z => nfr (List.mem_filterMap.mpr ⟨X.env, List.mem_cons_self, by rw [hf, z]⟩)
    have nF : a ∉ X.fs := fun hm => by
      obtain ⟨e, he, q⟩ := List.mem_filterMap.mp hm
      exact nfr (List.mem_filterMap.mpr ⟨e, List.mem_cons_of_mem _ he, q⟩)
    have S3 := J3.suite he3 hd3 na nL nF
    have LT : PySem.W.Looks (model X.prog X.w) h3 (typeOf (.ref a)) cls := fun A Q E s k q => wpAny_typeOf_ref (k _ _ he3) (by rw [hz3.1]; exact q)
    have test : ∀ {x : Str} {c : Value} {np : Pos} {Q : Value → Shared → Prop} {E : Value → Shared → Prop}, Names X x c → Q c { s' with heap := h3 } → wpAny (model X.prog X.w) (X.A.mark (some (.ref a))) (eval (.Name x np) X.env) Q E { s' with heap := h3 } := fun {x c np Q E} hc q => by
      obtain ⟨hg, hdbg, hm | ⟨hm, hv, hnn⟩⟩ := hc
      · exact ld_glob (X := X.suite a ((a, oe3) :: (X.pn ++ pins))) S3 hg hm q hdbg
      · exact ld_blt (X := X.suite a ((a, oe3) :: (X.pn ++ pins))) S3 hg hm hv q hnn hdbg
    have go : ∀ {hds' : List ExceptHandler} {l' : List HdT}, HdsMix X hds' l' → wMix X.K Wout D l' cls d σ' H' →
        wpAny (model X.prog X.w) X.A (handleBy (.ref a) X.env hds') (SP X pins D) X.xe { s' with heap := h3 } := by
      intro hds' l' hk
      induction hk with
      | nil =>
        intro w
        refine wpAny_handleBy_nil ?_
        obtain ⟨k1, k2, k3, oe, vs, T, oT, ts', he, hz, hd, h1, hr⟩ := id fl3
        unfold PySem.passOn
        refine wpAny_bind (wpAny_field he hd h1 ?_)
        rw [if_neg (show ¬ ((Value.ref T == Value.none) = true) from by simp)]
        have fin : wpAny (model X.prog X.w) X.A (setFlight (.ref a) X.env.frame) (fun _ s4 => wpAny (model X.prog X.w) X.A (throw (.ref a) : Sem Flow) (SP X pins D) X.xe s4) X.xe { s' with heap := h3 } := by
          rw [hf]
          refine HandSPX.setFlight_upZ fl3 fun h4 hh4 up4 => wpAny_throw (tk _ _ ?_)
          exact ⟨a, B, sI, pins, σ', H', cls, d, rfl, J, nb, (up.trans up3).trans up4, .inr (.inr (by rw [hs]; exact hh4)), na, os, ag, w⟩
        first
          | exact wpAny_bind (wpAny_pure (wpAny_bind fin))
          | exact wpAny_bind fin
      | @plain x c ts b₀ suite np pos' hds2 l2 hc hsu r ih =>
        intro w
        obtain ⟨b, hb1, hyes, hno⟩ := w
        refine wpAny_handleBy_cons (codeAny_handlers_test ?_) (by intro q; cases q)
        have LM := PySem.W.exm_one (M := model X.prog X.w) (J3.kIn) LT hb1
        refine test hc (LM.here ?_)
        cases b with
        | true =>
          refine codeAny_handlers_suite ?_
          refine HandSPX.lands_againZ fl3 fun h4 fl4 up4 => ?_
          have J4 : Inv X pins σ' H' { s' with heap := h4 } := J.landed nb fl4.1 ((up.trans up3).trans up4) os ag
          obtain ⟨oe4, vs4, he4, hz4, hd4⟩ := fl4.there
          have S4 := J4.suite he4 hd4 na nL nF
          refine wpAny_mono ((hsu a oe4 cls d (X.pn ++ pins) hz4 ⟨_, hd4⟩).run [] _ _ H' _ S4 (hyes rfl a na)) (fun f s6 hsp => ?_) (fun _ _ z => False.elim z)
          cases f with
          | next =>
            obtain ⟨σ6, H6, S6, q6⟩ := hsp
            exact ⟨_, _, S6.unsuite ok, q6⟩
          | brk =>
            obtain ⟨σ6, H6, S6, q6⟩ := hsp
            exact ⟨_, _, S6.unsuite ok, q6⟩
          | cont =>
            obtain ⟨σ6, H6, S6, q6⟩ := hsp
            exact ⟨_, _, S6.unsuite ok, q6⟩
          | ret u =>
            obtain ⟨v6, σ6, H6, S6, r6, q6⟩ := hsp
            exact ⟨_, _, _, S6.unsuite ok, r6, q6⟩
        | false =>
          show wpAny _ X.A (handleBy (.ref a) X.env hds2) _ _ _
          exact ih (hno rfl)
      | @named x n i c ts b₀ suite np pos' hds2 l2 hi hln hc hsu r ih =>
        intro w
        have hloc : Loc X.env.scope n := .inl hln
        obtain ⟨b, hb1, hyes, hno⟩ := w
        refine wpAny_handleBy_cons (codeAny_handlers_test ?_) (by intro q; cases q)
        have LM := PySem.W.exm_one (M := model X.prog X.w) (J3.kIn) LT hb1
        refine test hc (LM.here ?_)
        cases b with
        | true =>
          refine codeAny_handlers_suite_as ?_
          refine HandSPX.lands_againZ fl3 fun h4 fl4 up4 => ?_
          have J4 : Inv X pins σ' H' { s' with heap := h4 } := J.landed nb fl4.1 ((up.trans up3).trans up4) os ag
          obtain ⟨oe4, vs4, he4, hz4, hd4⟩ := fl4.there
          have S4 := J4.suite he4 hd4 na nL nF
          refine store_ok (X := X.suite a ((a, oe4) :: (X.pn ++ pins))) (v := .ref a) S4 hN hi hloc rfl (fun s5 S5 => ?_) (.inr hln)
          refine wpAny_mono ((hsu a oe4 cls d (X.pn ++ pins) hz4 ⟨_, hd4⟩).run [] s5 _ H' _ S5 (hyes rfl a na)) (fun f s6 hsp => ?_) (fun _ _ z => False.elim z)
          have end_ : ∀ {σ6 : St} {H6 : Hp} {Q : Shared → Prop}, Inv (X.suite a ((a, oe4) :: (X.pn ++ pins))) [] σ6 H6 s6 → (∀ s7, Inv X pins (σ6.set i none) H6 s7 → Q s7) →
              wpAny (model X.prog X.w) X.A (do bindName X.env n .none; unbindBehindTheSuite X.env n pos') (fun _ s7 => Q s7) X.xe s6 := fun {σ6 H6 Q} S6 hq => gone_ok (S6.unsuite ok) hN hi hln hq
          cases f with
          | next =>
            obtain ⟨σ6, H6, S6, q6⟩ := hsp
            exact end_ S6 fun s7 J7 => ⟨_, _, J7, q6⟩
          | brk =>
            obtain ⟨σ6, H6, S6, q6⟩ := hsp
            exact end_ S6 fun s7 J7 => ⟨_, _, J7, q6⟩
          | cont =>
            obtain ⟨σ6, H6, S6, q6⟩ := hsp
            exact end_ S6 fun s7 J7 => ⟨_, _, J7, q6⟩
          | ret u =>
            obtain ⟨v6, σ6, H6, S6, r6, q6⟩ := hsp
            exact end_ S6 fun s7 J7 => ⟨_, _, _, J7, r6, q6⟩
        | false =>
          show wpAny _ X.A (handleBy (.ref a) X.env hds2) _ _ _
          exact ih (hno rfl)
    exact go hh w
  · cases f with
    | next =>
      obtain ⟨σ', H', J', q⟩ := hsp
      exact wpAny_execs_nil ⟨σ', H', J'.ofTry ok, q⟩
    | brk =>
      obtain ⟨σ', H', J', q⟩ := hsp
      exact ⟨σ', H', J'.ofTry ok, q⟩
    | cont =>
      obtain ⟨σ', H', J', q⟩ := hsp
      exact ⟨σ', H', J'.ofTry ok, q⟩
    | ret u =>
      obtain ⟨v, σ', H', J', r, q⟩ := hsp
      exact ⟨v, σ', H', J'.ofTry ok, r, q⟩
end
end L2
/-! GsHot: a def called in an except suite with the caught error: it asks its class, reads its fields, fills a list; no loop, no raise. -/
namespace Gs
open PySem PySem.Spec PyProof.Rows L2
/-- what a def promises in an except suite: z the caught error's object -/
structure FnZ (P : Program) (w : World) (K : PySem.W.Frag) (mg : Str → Option Value) (base : Heap) (CX : CXT) (k : Nat) (fa : Addr) (fd : FuncData) (ps : List Str) (sp : Addr × Obj → Sp) : Prop where
  len : ∀ z vs H Q E, sp z vs H Q E → vs.length = ps.length
  run : ∀ (z : Addr × Obj) (A : Around) (st : List PySem.Env) (s : Shared) (H : Hp) (ar : Args) (us : List Value) (vs : List L2.V) (Q : VK) (E : XK), L2H.RoomH k A → L2H.PinOk st H s z → Env0 P w K mg base A st s H → BindsTo s fd ar (ps.zip us) → Vals vs us → sp z vs H Q E →
    codeAny (model P w) A (.call (.ref fa) ar) (CR CX st P w H s Q E) s
/-- such a def, from its body's walk -/
theorem FnZ.of {CX : CXT} {P : Program} {w : World} {K : PySem.W.Frag} {mg : Str → Option Value} {base : Heap} {k : Nat} {fa : Addr} {x qual : Str} {params : Arguments} {body : List Stmt} {scope : Scope} {dvs : List L2.V} {fd : FuncData} {N ps : List Str} {sp : Addr × Obj → Sp}
    (Fd : FunD K x qual params body scope dvs [] fa fd) (S : FnScope N ps scope) (len : ∀ z vs H Q E, sp z vs H Q E → vs.length = ps.length)
    (hb : ∀ (z : Addr × Obj) (cdv : Value) (A : Around) (st : List PySem.Env) (s : Shared) (H : Hp) (vs : List L2.V) (Q : VK) (E : XK), sp z vs H Q E → ∃ t, PSs (L2H.cxH CX P w K mg base N qual scope fa cdv A st s H E z) body t ∧ t { nx := fun _ H' => Q .non H', rt := Q } (L2.start N vs) H) :
    FnZ P w K mg base CX (k + 1) fa fd ps sp := by
  obtain ⟨oc, od, dV, kV, doc, pm, an, cdv, ct, osl, efd, lk, hcd, hD, _⟩ := Fd.ex
  subst efd
  refine ⟨len, fun z A st s H ar us vs Q E hr hpin e0 hbd r hsp => ?_⟩
  have hlen := len z _ _ _ _ hsp
  have inK : K.In s.heap := e0.mod.kin.keeps fun b o e => (e0.bs b o e).1
  have nolim : s.heap.NoLimit := e0.mod.nolimit.keeps fun b o e => (e0.bs b o e).1
  have kinds : ∀ y ∈ ps.zip us, scope.names.lookup y.1 = some .local ∨ (scope.names.lookup y.1 = some .cell ∧ ((cellsFrom (s.heap.objs.size + 1) scope.names []).lookup y.1).isSome = true) := by
    intro y hy
    obtain ⟨nm, val⟩ := y
    rcases S.par nm (List.of_mem_zip hy).1 with q | q
    · exact .inl q
    · exact .inr ⟨q, PySem.W.cellsFrom_some _ _ _ (.inl q)⟩
  refine codeAny_call_function hr.depth (inK _ _ lk) rfl S.co S.gen rfl (PySem.W.codeRec_of inK hcd) (hbd _ _ _ _ ?_)
  refine wpAny_newFunctionEnv_cells S.kind kinds fun env he s1 ic => ?_
  subst he
  refine ⟨nolim.keeps ic.toInCall.keep, codeAny_func ?_⟩
  obtain ⟨t, ht, hq⟩ := hb z cdv A st s H vs Q E hsp
  have J0 : Inv (L2H.cxH CX P w K mg base N qual scope fa cdv A st s H E z) [] (L2.start N vs) H s1 := L2H.inv_startH S hpin e0 hlen r ic
  refine wpAny_mono (ht.run [] s1 (L2.start N vs) H _ J0 hq) (fun fl s' hs => ?_) fun e s' hs => hs
  have done : ∀ {σ' : L2.St} {H' : Hp} {v : L2.V} {u : Value}, Inv (L2H.cxH CX P w K mg base N qual scope fa cdv A st s H E z) [] σ' H' s' → RelV v u → Q v H' → CE st P w H s Q u s' :=
    fun {σ' H' v u} J rv q => ⟨v, H', J.os, J.bare, J.base, J.hok, rv, q⟩
  cases fl with
  | ret u =>
    obtain ⟨v, σ', H', J, rv, q⟩ := hs
    exact done J rv q
  | next =>
    obtain ⟨σ', H', J, q⟩ := hs
    exact done (v := L2.V.non) (u := Value.none) J rfl q
  | brk =>
    obtain ⟨_, _, _, q⟩ := hs
    exact q.elim
  | cont =>
    obtain ⟨_, _, _, q⟩ := hs
    exact q.elim
section
variable {X : Cx} {k : Nat} {fa : Addr} {fd : FuncData} {ps : List Str} {sp : Addr × Obj → Sp} {x : Str} {q pos : Pos} {e : Expr} {es : List Expr} {t : TA}
/-- f(e) in the suite -/
def tCallZ (sp : Sp) (t : TA) : TE := fun σ H Q => t σ H fun vs H1 => sp vs H1 Q (fun _ _ _ => False)
theorem pe_callZ {z : Addr × Obj} (F : FnZ X.prog X.w X.K X.mg X.base L2.CX0 k fa fd ps sp) (hr : L2H.RoomH k X.A) (hz : z ∈ X.pn) (hg : Gl X x) (hm : X.mg x = some (.ref fa)) (hk : PySem.W.keepIn X.K (.ref fa) = true) (hb : Binds X.K fd ps [])
    (ha : PA X (e :: es) t) (hdb : (x == ("__debug__" : Str)) = false) (he : starEach (e :: es) X.env = (false, eval e X.env) :: starEach es X.env) (hpl : (backTo pos (starEach es X.env)).any (·.1) = false) :
    PE X (.Call (.Name x q) (e :: es) [] pos) (tCallZ (sp z) t) := by
  refine ⟨fun pins s σ H Q I h => ?_⟩
  refine wpAny_Call_Name_kw (ld_glob I hg hm ?_ hdb)
  refine PySem.W.callWith_K (h₀ := X.base) I.ok.mod.kin hk (thn (ha.run pos pins s σ H _ I h) fun us s1 ⟨vs, H1, I1, r, q⟩ => ⟨I1.kIn, ?_⟩) he hpl
  have hl : us.length = ps.length := by rw [← r.length]; exact F.len _ _ _ _ _ q
  have bd := hb s1 us I1.kIn (by rw [List.append_nil]; exact hl)
  rw [List.append_nil] at bd
  have P1 := I1.pin z (List.mem_append_left _ hz)
  have pk : L2H.PinOk X.stack H1 s1 z := ⟨P1.1, P1.2.1, fun hm => (List.mem_cons.mp (I1.stkSub z.1 hm)).elim P1.2.2.1 P1.2.2.2.1, P1.2.2.2.2⟩
  refine wpAny_call (codeAny_mono (F.run z X.A X.stack s1 H1 ⟨us, []⟩ us vs Q _ hr pk I1.env0 bd r q) fun rr s' hq => ?_)
  cases rr with
  | error e => exact hq.elim
  | ok fl =>
    cases fl with
    | ret u => exact I1.after hq
    | next => exact hq.elim
    | brk => exact hq.elim
    | cont => exact hq.elim
end
/-! ### the caught error in such a def -/
structure PinZ (z : Addr × Obj) (Ca dd : Addr) : Prop where
  zc : Zc (.ref Ca) (some dd) z.2
  fl : ∃ vs, z.2.data = .fields vs
/-- what isinstance asks of an error's class -/
structure IszC (K : PySem.W.Frag) (Ca : Addr) : Prop where
  cl : (PySem.W.clsIn K Ca).isSome = true
  ga : PySem.W.findIn K (.ref Ca) "__getattribute__" = some (some (.builtin "BaseException.__getattribute__"))
  gt : ∃ g, PySem.W.findIn K (.ref Ca) "__getattr__" = some g
  sb : PySem.W.subIn K (.ref Ca) (.type "BaseException") = some true
  ha : PySem.W.findIn K (.ref Ca) "__class__" = some (some (.builtin "object.__class__"))
  hn : PySem.W.specialIn K (.builtin "object.__class__") "__get__" = some (some (.builtin "getset_descriptor.__get__"))
  ht : PySem.W.takesIn K (.builtin "object.__class__") = some true
  hm : PySem.W.mroIn K Ca (.type "object") = some true
section
variable {X : Cx} {z : Addr × Obj} {Ca dd : Addr}
theorem PinZ.inst (p : PinZ z Ca dd) (hz : z ∈ X.pn) {pins : List (Addr × Obj)} {σ : L2.St} {H : Hp} {s : Shared} (I : Inv X pins σ H s) {fvs : List (Str × L2.V)} (hd : H dd = some (.xd fvs)) :
    ∃ od, PySem.W.InstAt s.heap z.1 z.2 Ca (some od) ∧ ∃ mA : Str → Option Value, (∀ n, PySem.W.lookIn n od = some (mA n)) ∧ ∀ f, RelO (fvs.lookup f) (mA f) := by
  obtain ⟨ha, _⟩ := I.pin z (List.mem_append_left _ hz)
  obtain ⟨vs, hv⟩ := p.fl
  obtain ⟨mA, hns, hr⟩ := (show ObjOk X.prog X.w H s.heap dd (.xd fvs) from I.hok dd _ hd)
  obtain ⟨od, ho, hl⟩ := lookIn_ns hns
  exact ⟨od, ⟨ha, p.zc.1, by unfold PySem.W.notCls; rw [hv] <;> rfl, by rw [p.zc.2]; exact ho⟩, mA, hl, hr⟩
/-- isinstance of it -/
def rIsz (K : PySem.W.Frag) (a Ca dd : Addr) : List L2.V → Hp → VK → Prop := fun xs H Q => ∃ (c : L2.V) (cv : Value) (b : Bool) (fvs : List (Str × L2.V)), xs = [.ref a, c] ∧ (∀ u, RelV c u → u = cv) ∧ H dd = some (.xd fvs) ∧ PySem.W.kitOne K (.ref Ca) cv = some b ∧ Q (.bl b) H
theorem call_isz (C : IszC X.K Ca) (p : PinZ z Ca dd) (hz : z ∈ X.pn) : CallR X (.builtin "isinstance") (rIsz X.K z.1 Ca dd) := by
  intro pins s σ H xs us Q I r h
  obtain ⟨c, cv, b, fvs, rfl, hcv, hd, e, q⟩ := h
  obtain ⟨u1, u2, rfl, r1, r2⟩ := vals2 r
  obtain rfl := hcv _ r2
  cases (show u1 = Value.ref z.1 from r1)
  obtain ⟨od, J, _⟩ := p.inst hz I hd
  obtain ⟨g, hg⟩ := C.gt
  exact PySem.W.kia_one (PySem.W.kitx_exc C.cl C.ga hg C.sb C.ha C.hn C.ht C.hm) I.kIn J e (fun z => nomatch z) fun tk => ⟨.bl b, H, I.kept (t' := tk) fun _ _ z => z, rfl, q⟩
/-- a field of it -/
theorem pe_fz {e : Expr} {te : TE} {pos : Pos} {n : Str} (T : XfC X.K Ca) (p : PinZ z Ca dd) (hz : z ∈ X.pn) (hno : PySem.W.findIn X.K (.ref Ca) n = some none) (he : PE X e te) (hb : attributeBase e n X.env (eval e X.env) = eval e X.env) :
    PE X (.Attribute e n pos) (fun σ H Q => te σ H fun x H1 => x = .ref z.1 ∧ ∃ (fvs : List (Str × L2.V)) (v : L2.V), H1 dd = some (.xd fvs) ∧ fvs.lookup n = some v ∧ Q v H1) := by
  refine ⟨fun pins s σ H Q I h => attr_of hb (thn (he.run pins s σ H _ I h) fun u s1 hh => ?_)⟩
  obtain ⟨x, H1, I1, rx, rfl, fvs, v, hd, l, q⟩ := hh
  obtain rfl : u = Value.ref z.1 := rx
  obtain ⟨od, J, mA, hl, hr⟩ := p.inst hz I1 hd
  obtain ⟨u, hu, ru⟩ := RelO.some_of (v := v) (o := mA n) (by rw [← l]; exact hr n)
  exact HandSPX.exc_get I1.kIn J T.ga T.gg T.exC (PySem.W.findObj_own T.hdC hno rfl (by rw [hl, hu])) (handed_of ru) ⟨v, H1, I1.tok _, ru, q⟩
end
end Gs
/-! GsHot2: shown = []; if isinstance(e, C): shown.append([tag, e.f, ..]); .. ; return shown. -/
namespace Gs
open PySem PySem.Spec PyProof.Rows L2
structure ShwX (X : Cx) (T : Tb) (ev sh : Str) (z : Addr × Obj) (Ca dd : Addr) : Prop where
  n0 : X.N[0]? = some ev
  n1 : X.N[1]? = some sh
  nd : X.N.Nodup
  ve : Vis X.env.scope ev
  ls : X.env.scope.names.lookup sh = some .local
  oe : okN ev = true
  os : okN sh = true
  K : X.K = T.K
  isz : IszC X.K Ca
  pin : PinZ z Ca dd
  mem : z ∈ X.pn
  xf : XfC X.K Ca
  gi : Gl X "isinstance"
  mi : X.mg "isinstance" = none
/-- what is asked of a class that is named -/
def ShwC (X : Cx) (bs : Bases) (Ca : Addr) (c : Nat) (x : Str) : Prop := Gl X x ∧ ∃ Da, X.mg x = some (.ref Da) ∧ PySem.W.kitOne X.K (.ref Ca) (.ref Da) = some ((bs c).contains (nid x))
section
variable {X : Cx} {T : Tb} {ev sh : Str} {z : Addr × Obj} {Ca dd : Addr} {c : Nat} {bs : Bases}
theorem ShwX.pe (S : ShwX X T ev sh z Ca dd) {p : Pos} : PE X (.Name ev p) (tVar 0) := pe_var S.n0 S.ve (okN_debug S.oe) (okN_classdict S.oe)
theorem ShwX.ps (S : ShwX X T ev sh z Ca dd) {p : Pos} : PE X (.Name sh p) (tVar 1) := pe_var S.n1 (.inl S.ls) (okN_debug S.os) (okN_classdict S.os)
/-- the fields, one by one -/
theorem shw_flds (S : ShwX X T ev sh z Ca dd) {fvs : List (Str × V)} (hx : ∀ q ∈ fvs, PySem.W.findIn X.K (.ref Ca) q.1 = some none) : ∀ {es : List Expr} {fl : List Str} {vs : List V}, shwF ev es = some fl → fl.mapM (fun f => fvs.lookup f) = some vs →
    PA X es (fun σ H Q => σ[0]? = some (some (.ref z.1)) ∧ H dd = some (.xd fvs) ∧ Q vs H)
  | [], fl, vs, h, hv => by
    simp only [shwF, Option.some.injEq] at h
    subst h
    simp only [List.mapM_nil] at hv
    cases hv
    exact pa_nil.imp fun σ H Q h => h.2.2
  | e :: r, fl, vs, h, hv => by
    unfold shwF at h
    split at h
    · rename_i heq; cases heq
    · rename_i v p1 f p2 r' heq
      cases heq
      split at h
      · rename_i hc
        obtain ⟨hve, hf⟩ := hc
        rw [hve]
        obtain ⟨fl', h1, rfl⟩ := Option.map_eq_some_iff.mp h
        rw [List.mapM_cons] at hv
        cases q1 : fvs.lookup f with
        | none => rw [q1] at hv; cases hv
        | some v1 =>
          cases q2 : fl'.mapM (fun f => fvs.lookup f) with
          | none => rw [q1, q2] at hv; cases hv
          | some vs' =>
            rw [q1, q2] at hv
            cases hv
            have hno := hx (f, v1) (mem_of_lookupV q1)
            refine (pa_cons (pe_fz S.xf S.pin S.mem hno S.pe rfl) (shw_flds S hx h1 q2) rfl).imp fun σ H Q ⟨g1, g2, g3⟩ => ?_
            exact ⟨_, g1, rfl, fvs, v1, g2, q1, g1, g2, g3⟩
      · cases h
    · cases h
/-- where the walk stands: the list at q, what is in it -/
structure ShwS (T : Tb) (z : Addr × Obj) (dd q : Addr) (F : Hp) (m : At) (μ : Mu) (σ : L2.St) (H : Hp) (fvs : List (Str × V)) (fs : List (Nat × D)) (vs : List V) (acc : List D) : Prop where
  e : σ[0]? = some (some (.ref z.1))
  s : σ[1]? = some (some (.ref q))
  r : Rel T F m μ H
  nf : F q = none
  nm : ∀ n, m n ≠ some q
  np : T.p q = none
  hq : H q = some (.lst vs)
  ac : Reps T F m vs acc
  hd : F dd = some (.xd fvs)
  fx : RepF T F m fvs fs
theorem repF_all {F : Hp} {m : At} {fvs : List (Str × V)} {fs : List (Nat × D)} (h : RepF T F m fvs fs) : ∀ {fl : List Str} {ds : List D}, (∀ f ∈ fl, okN f = true) → getF fs fl = some ds → ∃ vs, fl.mapM (fun f => fvs.lookup f) = some vs ∧ Reps T F m vs ds
  | [], ds, _, e => by
    simp only [getF, Option.some.injEq] at e
    subst e
    exact ⟨[], rfl, .nil⟩
  | f :: r, ds, ok, e => by
    unfold getF at e
    split at e
    · rename_i d ds' h1 h2
      cases e
      obtain ⟨v, v1, v2⟩ := repF_get (ok f (by simp)) h h1
      obtain ⟨vs, w1, w2⟩ := repF_all h (fun g hg => ok g (List.mem_cons_of_mem _ hg)) h2
      exact ⟨v :: vs, by rw [List.mapM_cons, v1, w1]; rfl, .cons v2 w2⟩
    · cases e
theorem shwF_ok {ev : Str} : ∀ {es : List Expr} {fl : List Str}, shwF ev es = some fl → (∀ f ∈ fl, okN f = true) ∧ fl.length = es.length ∧ es.any isStar = false
  | [], fl, h => by
    simp only [shwF, Option.some.injEq] at h
    subst h
    exact ⟨by simp, rfl, rfl⟩
  | e :: r, fl, h => by
    unfold shwF at h
    split at h
    · rename_i heq; cases heq
    · rename_i v p1 f p2 r' heq
      cases heq
      split at h
      · rename_i hc
        obtain ⟨fl', h1, rfl⟩ := Option.map_eq_some_iff.mp h
        obtain ⟨g1, g2, g3⟩ := shwF_ok h1
        refine ⟨fun g hg => ?_, by simp [g2], by simpa [isStar] using g3⟩
        rcases List.mem_cons.mp hg with e | e
        · subst e; exact hc.2
        · exact g1 g e
      · cases h
    · cases h
theorem mapM_len {fvs : List (Str × V)} : ∀ {fl : List Str} {vs : List V}, fl.mapM (fun f => fvs.lookup f) = some vs → vs.length = fl.length
  | [], vs, h => by simp only [List.mapM_nil] at h; cases h; rfl
  | f :: r, vs, h => by
    rw [List.mapM_cons] at h
    cases q1 : fvs.lookup f with
    | none => rw [q1] at h; cases h
    | some v1 =>
      cases q2 : r.mapM (fun f => fvs.lookup f) with
      | none => rw [q1, q2] at h; cases h
      | some vs' => rw [q1, q2] at h; cases h; simp [mapM_len q2]
theorem Rel.setQ {F : Hp} {m : At} {μ : Mu} {H : Hp} {q : Addr} {o : HO} (r : Rel T F m μ H) (hf : F q = none) (hm : ∀ n, m n ≠ some q) (hp : T.p q = none) : Rel T F m μ (upd H q o) := by
  have ne : ∀ {n : Nat} {a : Addr}, m n = some a → a ≠ q := fun {n a} h e => hm n (by rw [h, e])
  refine ⟨fun a u h => ?_, fun n c h => ?_, r.inj, fun n a h => ?_, r.fresh, r.nd, fun a u h => ?_⟩
  · rw [upd_ne (fun e => by rw [e, hf] at h; cases h)]
    exact r.sub a u h
  · obtain ⟨a, h1, h2⟩ := r.cell n c h
    exact ⟨a, h1, h2.upH fun u _ hu => by rw [upd_ne (ne h1)]; exact hu⟩
  · obtain ⟨u, hu⟩ := r.old n a h
    exact ⟨u, by rw [upd_ne (ne h)]; exact hu⟩
  · obtain ⟨h1, h2, h3⟩ := r.pin a u h
    exact ⟨by rw [upd_ne (fun e => by rw [e, hp] at h; cases h)]; exact h1, h2, h3⟩
def shwV (bs : Bases) (c : Nat) (fs : List (Nat × D)) (i : ShwI) : List D := if (bs c).contains (nid i.cls) then [.lst (.str i.tag :: (getF fs i.fl).getD [])] else []
/-- one if -/
theorem shw_one (S : ShwX X T ev sh z Ca dd) {st : Stmt} {i : ShwI} (hi : shwI sh ev st = some i) (hc : ShwC X bs Ca c i.cls) {fs : List (Nat × D)} {fvs : List (Str × V)} (hx : ∀ q ∈ fvs, PySem.W.findIn X.K (.ref Ca) q.1 = some none) {F0 : Hp} {m0 : At} (r0 : RepF T F0 m0 fvs fs)
    (hg : (bs c).contains (nid i.cls) = true → (getF fs i.fl).isSome = true) :
    ∃ t, PS X st t ∧ ∀ (σ : L2.St) (H : Hp) (Dn : Ends) (F : Hp) (m : At) (μ : Mu) (q : Addr) (vs : List V) (acc : List D), ShwS T z dd q F m μ σ H fvs fs vs acc → acc.length < 1000 →
      (∀ H' F' vs', Sub F m F' m → ShwS T z dd q F' m μ σ H' fvs fs vs' (acc ++ shwV bs c fs i) → Dn.nx σ H') → t Dn σ H := by
  unfold shwI at hi
  split at hi
  · rename_i i0 p1 v p2 cn p3 p4 s p5 a ap tag k1 k2 es p6 p p7 p8
    split at hi
    · rename_i hcond
      obtain ⟨rfl, hv, hs, rfl, okc, hline, hlen⟩ := hcond
      obtain ⟨fl, hfl, rfl⟩ := Option.map_eq_some_iff.mp hi
      obtain ⟨gc, Da, mc, kc⟩ := hc
      rw [hv, hs]
      have pt := pt_val (X := X) (pe_callB (call_isz S.isz S.pin S.mem) S.gi S.mi (by decide +kernel) (pa_cons (S.pe (p := p2)) (pa_cons (pe_glob (pos := p3) gc mc (v := .ref Da) rfl (okN_debug okc)) pa_nil rfl) rfl) (pos := p4) (p := p1))
      by_cases hb : (bs c).contains (nid cn) = true
      · obtain ⟨ds, hds⟩ := Option.isSome_iff_exists.mp (hg hb)
        obtain ⟨okf, fle, star⟩ := shwF_ok hfl
        obtain ⟨vals, hvals, _⟩ := repF_all r0 okf hds
        have pl := pe_lst (pos := p6) (pa_cons (X := X) (e := .Constant (.str tag) k1 k2) pe_str (shw_flds S hx hfl hvals) rfl)
        have pb := pe_bm (X := X) PySem.F.plainAttrs_list PySem.F.slot_list_append PySem.F.type_list_append mt_append (S.ps (p := p5)) (pa_cons pl pa_nil rfl) (apos := ap) (cpos := p) (hline := by simp [hline])
        refine ⟨_, ps_if pt (pss_one (ps_expr pb)) pss_nil, fun σ H Dn F m μ q vs acc hS hal hk => ?_⟩
        have hHd := hS.r.sub _ _ hS.hd
        refine ⟨.ref z.1, hS.e, .ref Da, .ref Da, true, fvs, rfl, fun u r => r, hHd, by rw [kc, hb], true, rfl, ?_⟩
        show (if true = true then _ else _)
        rw [if_pos rfl]
        refine ⟨.ref q, hS.s, .inl ⟨rfl, _, SqL.of hS.hq⟩, hS.e, hHd, ?_, fun pn hpn => ?_⟩
        · have h1 := mapM_len hvals
          show (V.str tag :: vals).length ≤ sizeLine
          rw [List.length_cons, h1, fle, sizeLine_eq]
          omega
        have hne : q ≠ pn := fun e => by
          have h9 := hS.hq
          rw [e, hpn] at h9
          cases h9
        obtain ⟨vals2, hvals2, hreps⟩ := repF_all hS.fx okf hds
        rw [hvals] at hvals2
        cases hvals2
        have nf := hS.r.noF hpn
        have s1 : Sub F m (upd F pn (.lst (V.str tag :: vals))) m := Sub.addF nf
        have r1 := (hS.r.addH (o := .lst (V.str tag :: vals)) hpn).addF nf upd_same (hS.r.noM hpn) (hS.r.noP hpn)
        refine ⟨q, vs, .ref pn, rfl, rfl, by rw [upd_ne hne]; exact hS.hq, ?_, ?_⟩
        · have := hS.ac.length
          rw [this, sizeLine_eq]; omega
        refine hk _ (upd F pn (.lst (V.str tag :: vals))) (vs ++ [.ref pn]) s1 ⟨hS.e, hS.s, r1.setQ (by rw [upd_ne hne]; exact hS.nf) hS.nm hS.np, by rw [upd_ne hne]; exact hS.nf, hS.nm, hS.np, upd_same, ?_, s1.h _ _ hS.hd, hS.fx.up s1⟩
        refine Reps.append (hS.ac.up s1) ?_
        unfold shwV
        rw [if_pos hb, hds]
        exact .cons (.lst upd_same (.cons (.str tag) (hreps.up s1))) .nil
      · refine ⟨_, ps_if pt (t := fun _ _ _ => False) ⟨fun _ _ _ _ _ _ h => h.elim⟩ pss_nil, fun σ H Dn F m μ q vs acc hS hal hk => ?_⟩
        have hHd := hS.r.sub _ _ hS.hd
        have hb2 : (bs c).contains (nid cn) = false := by simpa using hb
        refine ⟨.ref z.1, hS.e, .ref Da, .ref Da, false, fvs, rfl, fun u r => r, hHd, by rw [kc, hb2], false, rfl, ?_⟩
        show (if false = true then _ else _)
        rw [if_neg Bool.false_ne_true]
        refine hk H F vs Sub.refl ?_
        have e : shwV bs c fs ⟨cn, tag, fl⟩ = [] := by unfold shwV; rw [if_neg hb]
        rw [e, List.append_nil]
        exact hS
    · cases hi
  · cases hi
/-- all ifs, the return -/
theorem shw_all (S : ShwX X T ev sh z Ca dd) {fs : List (Nat × D)} {fvs : List (Str × V)} (hx : ∀ q ∈ fvs, PySem.W.findIn X.K (.ref Ca) q.1 = some none) {F0 : Hp} {m0 : At} (r0 : RepF T F0 m0 fvs fs) : ∀ {b : List Stmt} {l : List ShwI} {ds : List D}, shwG sh ev b = some l → (∀ i ∈ l, ShwC X bs Ca c i.cls) → shwD bs c fs l = some ds →
    ∃ t, PSs X b t ∧ ∀ (σ : L2.St) (H : Hp) (Dn : Ends) (F : Hp) (m : At) (μ : Mu) (q : Addr) (vs : List V) (acc : List D), ShwS T z dd q F m μ σ H fvs fs vs acc → acc.length + l.length < 1000 →
      (∀ H' F' vs' σ', Sub F m F' m → ShwS T z dd q F' m μ σ' H' fvs fs vs' (acc ++ ds) → Dn.rt (.ref q) H') → t Dn σ H
  | [], l, ds, h, _, _ => by simp [shwG] at h
  | [st], l, ds, h, hC, hd => by
    unfold shwG at h
    split at h
    · rename_i s p p2 heq
      cases heq
      split at h
      · rename_i hs
        cases h
        simp only [shwD, Option.some.injEq] at hd
        subst hd
        refine ⟨_, pss_one (ps_ret (by rw [hs]; exact S.ps)), fun σ H Dn F m μ q vs acc hS hal hk => ?_⟩
        exact ⟨_, hS.s, hk H F vs σ Sub.refl (by rw [List.append_nil]; exact hS)⟩
      · cases h
    · rename_i st' r' hne heq
      cases heq
      simp only [shwG] at h
      split at h
      · rename_i h1 h2; cases h2
      · cases h
    · rename_i heq; cases heq
  | st :: st2 :: r, l, ds, h, hC, hd => by
    have h' : (match shwI sh ev st, shwG sh ev (st2 :: r) with
      | some i, some l => some (i :: l)
      | _, _ => none) = some l := by
      rw [← h]
      conv => rhs; unfold shwG
      cases st with
      | Return e _ => cases e with
        | none => rfl
        | some e => cases e <;> rfl
      | _ => rfl
    split at h'
    · rename_i i l' h1 h2
      cases h'
      unfold shwD at hd
      split at hd
      · rename_i ds' h3
        have hg : (bs c).contains (nid i.cls) = true → (getF fs i.fl).isSome = true := fun hb => by
          rw [if_pos hb] at hd
          cases q : getF fs i.fl with
          | none => rw [q] at hd; cases hd
          | some _ => rfl
        have hds : ds = shwV bs c fs i ++ ds' := by
          unfold shwV
          by_cases hb : (bs c).contains (nid i.cls) = true
          · rw [if_pos hb] at hd ⊢
            cases q : getF fs i.fl with
            | none => rw [q] at hd; cases hd
            | some w => rw [q] at hd; cases hd; rfl
          · rw [if_neg hb] at hd ⊢
            cases hd; rfl
        obtain ⟨t1, p1, k1⟩ := shw_one S h1 (hC i (by simp)) hx r0 hg
        obtain ⟨t2, p2, k2⟩ := shw_all S hx r0 h2 (fun j hj => hC j (List.mem_cons_of_mem _ hj)) h3
        refine ⟨_, pss_cons p1 p2, fun σ H Dn F m μ q vs acc hS hal hk => ?_⟩
        rw [List.length_cons] at hal
        refine k1 σ H _ F m μ q vs acc hS (by omega) fun H1 F1 vs1 s1 hS1 => ?_
        have hl : (shwV bs c fs i).length ≤ 1 := by unfold shwV; split <;> simp
        refine k2 σ H1 Dn F1 m μ q vs1 _ hS1 (by rw [List.length_append]; omega) fun H2 F2 vs2 σ2 s2 hS2 => ?_
        refine hk H2 F2 vs2 σ2 (s1.trans s2) ?_
        rw [hds, ← List.append_assoc]
        exact hS2
      · cases hd
    · cases h'
/-- the whole body -/
theorem shw_body (S : ShwX X T ev sh z Ca dd) {fs : List (Nat × D)} {fvs : List (Str × V)} {F : Hp} {m : At} {μ : Mu} {H : Hp} (hx : ∀ q ∈ fvs, PySem.W.findIn X.K (.ref Ca) q.1 = some none) (r0 : RepF T F m fvs fs) {b : List Stmt} {l : List ShwI} {ds : List D} (hb : shwB ev b = some (sh, l)) (hl : l.length < 900) (hC : ∀ i ∈ l, ShwC X bs Ca c i.cls) (hd : shwD bs c fs l = some ds)
    (r : Rel T F m μ H) (hF : F dd = some (.xd fvs)) (σ : L2.St) (h0 : σ[0]? = some (some (.ref z.1))) (h1 : 1 < σ.length) (Dn : Ends) (hk : ∀ v H' F' m', Sub F m F' m' → Rel T F' m' μ H' → RN T F' m' H' v (.lst ds) → Dn.rt v H') : ∃ t, PSs X b t ∧ t Dn σ H := by
  unfold shwB at hb
  split at hb
  · rename_i sh' p1 p2 p3 r'
    obtain ⟨l', hg, e⟩ := Option.map_eq_some_iff.mp hb
    cases e
    obtain ⟨t, p, k⟩ := shw_all S hx r0 hg hC hd
    refine ⟨_, pss_cons (ps_set S.nd S.n1 (.inl S.ls) (pe_lst pa_nil) (hf := .inr S.ls)) p, ?_⟩
    refine ⟨by show ([] : List V).length ≤ sizeLine; rw [sizeLine_eq]; simp, fun q hq => ?_⟩
    have hs0 : (σ.set 1 (some (V.ref q)))[0]? = some (some (.ref z.1)) := by rw [List.getElem?_set_ne (by decide)]; exact h0
    have hs1 : (σ.set 1 (some (V.ref q)))[1]? = some (some (.ref q)) := by rw [List.getElem?_set_self h1]
    refine k _ _ Dn F m μ q [] [] ⟨hs0, hs1, r.addH hq, r.noF hq, r.noM hq, r.noP hq, upd_same, .nil, hF, r0⟩ (by simp; omega) fun H' F' vs' σ' s hS => ?_
    rw [List.nil_append] at hS
    exact hk _ H' F' m s hS.r ⟨q, vs', rfl, hS.nf, hS.hq, hS.ac, hS.nm, hS.np⟩
  · cases hb
end
end Gs
/-! GsS16: try, except. -/
namespace Gs
open PySem PySem.Spec L2
/-- the caught error: at a, of class Ca, its dict dd, what it stands for; the slot of its name -/
structure Hot where
  a : Addr
  Ca : Addr
  dd : Addr
  c : Nat
  fs : List (Nat × D)
  nm : Option Nat
structure HotR (T : Tb) (h : Hot) (F : Hp) (m : At) (σ : L2.St) (ρ : Env) : Prop where
  get : ∀ (j : Nat) (d : D), h.nm ≠ some j → ρ[j]? = some (some d) → ∃ v, σ[j]? = some (some v) ∧ Rep T F m v d
  at_ : ∀ i d, h.nm = some i → ρ[i]? = some (some d) → d = .exc h.c h.fs ∧ σ[i]? = some (some (.ref h.a))
  fld : ∃ fvs, F h.dd = some (.xd fvs) ∧ RepF T F m fvs h.fs ∧ Xf T.K h.Ca fvs
  cl : T.cl h.c = some h.Ca
theorem HotR.up {T : Tb} {h : Hot} {F F' : Hp} {m m' : At} {σ : L2.St} {ρ : Env} (s : Sub F m F' m') (r : HotR T h F m σ ρ) : HotR T h F' m' σ ρ :=
  ⟨fun j d hn e => by
    obtain ⟨v, h1, h2⟩ := r.get j d hn e
    exact ⟨v, h1, h2.up s⟩, r.at_, by
    obtain ⟨fvs, h1, h2, h3⟩ := r.fld
    exact ⟨fvs, s.h _ _ h1, h2.up s, h3⟩, r.cl⟩
abbrev NoK : WK := fun _ _ _ => False
def rdH (T : Tb) (h : Hot) (f : Ex) : TE := fun σ H Q => ∃ F m μ ρ, Rel T F m μ H ∧ HotR T h F m σ ρ ∧ Post T (RD T) F m (f ρ μ) Q NoK
def rdHN (T : Tb) (h : Hot) (f : Ex) : TE := fun σ H Q => ∃ F m μ ρ, Rel T F m μ H ∧ HotR T h F m σ ρ ∧ Post T (RN T) F m (f ρ μ) Q NoK
def rdHA (T : Tb) (h : Hot) (f : Exs) : TA := fun σ H Q => ∃ F m μ ρ, Rel T F m μ H ∧ HotR T h F m σ ρ ∧ Post T (RDs T) F m (f ρ μ) Q NoK
section
variable {X : Cx} {T : Tb} {W : WX} {C : Cxt} {n k : Nat} {a b c e o : Expr} {fa fb fc f fo : Ex} {p pos tpos : Pos} {h : Hot}
theorem h_val {v : V} {d : D} (he : PE X e (tC v)) (hd : ∀ F m, Rep T F m v d) : PE X e (rdH T h (eC d)) := he.imp fun σ H Q ⟨F, m, μ, ρ, rl, en, p⟩ => p _ _ _ _ Sub.refl rl (hd F m)
theorem h_none : PE X e (rdH T h eNo) := ⟨fun _ _ _ _ _ _ ⟨_, _, _, _, _, _, p⟩ => p.elim⟩
theorem h_mutC {f : Ex} {σ : L2.St} {H : Hp} {Q : VK} (r : rdH T h (C.mut pos f) σ H Q) : rdHN T h f σ H Q := by
  unfold Cxt.mut at r
  split at r
  · obtain ⟨F, m, μ, ρ, rl, en, p⟩ := r
    refine ⟨F, m, μ, ρ, rl, en, ?_⟩
    unfold eMut M.bind at p
    cases q : f ρ μ with
    | exc c fs μ' => rw [q] at p; exact p
    | stuck => rw [q] at p; exact p
    | ok d μ' =>
      rw [q] at p
      intro v H' F' m' s r rn
      cases d with
      | lst ds =>
        obtain ⟨a, vs, rfl, hF, hH, t, hm, hP⟩ := rn
        exact p _ _ _ _ (s.trans (Sub.addM r)) (r.newC hH hm hP (.lst hF hH t)) (.ref updM_same)
      | _ => exact p.elim
  · obtain ⟨F, m, μ, ρ, rl, en, p⟩ := r
    refine ⟨F, m, μ, ρ, rl, en, ?_⟩
    cases q : f ρ μ with
    | exc c fs μ' => rw [q] at p; exact p
    | stuck => rw [q] at p; exact p
    | ok d μ' =>
      rw [q] at p
      intro v H' F' m' s r rn
      cases d with
      | lst ds =>
        obtain ⟨a, vs, rfl, hF, hH, t, hm, hP⟩ := rn
        have s1 : Sub F' m' (upd F' a (.lst vs)) m' := Sub.addF hF
        exact p _ _ _ _ (s.trans s1) (r.addF hF hH hm hP) (.lst upd_same (t.up s1))
      | _ => exact p _ _ _ _ s r rn
theorem ha_nil : PA X [] (rdHA T h esNil) := pa_nil.imp fun σ H Q ⟨F, m, μ, ρ, rl, en, p⟩ => p _ _ _ _ Sub.refl rl .nil
theorem ha_cons {es : List Expr} {g : Exs} (he : PE X a (rdH T h fa)) (h2 : PA X es (rdHA T h g)) (hs : isStar a = false) : PA X (a :: es) (rdHA T h (esCons fa g)) := (pa_cons he h2 (star_eq hs)).imp fun σ H Q ⟨F, m, μ, ρ, rl, en, p⟩ =>
  ⟨F, m, μ, ρ, rl, en, Post.bind p fun v H1 F1 m1 x μ1 s1 r1 h1 p1 => ⟨F1, m1, μ1, ρ, r1, en.up s1, Post.bind p1 fun vs H2 F2 m2 xs μ2 s2 r2 h2 p2 => p2 _ _ _ _ Sub.refl r2 (.cons (h1.up s2) h2)⟩⟩
theorem ha_all {g : Expr → Ex} : ∀ {es : List Expr}, es.any isStar = false → (∀ e ∈ es, PE X e (rdH T h (g e))) → PA X es (rdHA T h (esL (es.map g)))
  | [], _, _ => ha_nil
  | a :: r, hs, he => by
    simp only [List.any_cons, Bool.or_eq_false_iff] at hs
    exact ha_cons (he a (by simp)) (ha_all hs.2 fun e q => he e (List.mem_cons_of_mem _ q)) hs.1
theorem h_tup {es : List Expr} {g : Exs} {k : Nat} (he : PA X es (rdHA T h g)) : PE X (.Tuple es k pos) (rdH T h (eTup g)) := (pe_tup he).imp fun σ H Q ⟨F, m, μ, ρ, rl, en, p⟩ =>
  ⟨F, m, μ, ρ, rl, en, Post.bind p fun vs H1 F1 m1 xs μ1 s1 r1 h1 p1 => by
    obtain ⟨d, ed, q⟩ := Post.opt p1
    unfold mkTup at ed
    split at ed
    · rename_i hl
      cases ed
      refine ⟨by rw [h1.length]; exact line_le hl, fun pp hp => ?_⟩
      obtain ⟨s2, r3, r4⟩ := rn_tup r1 h1 hp
      exact q _ _ _ _ s2 r3 r4
    · cases ed⟩
theorem h_lst {es : List Expr} {g : Exs} (he : PA X es (rdHA T h g)) : PE X (.List es pos) (rdHN T h (eLst g)) := (pe_lst he).imp fun σ H Q ⟨F, m, μ, ρ, rl, en, p⟩ =>
  ⟨F, m, μ, ρ, rl, en, Post.bind p fun vs H1 F1 m1 xs μ1 s1 r1 h1 p1 => by
    obtain ⟨d, ed, q⟩ := Post.opt p1
    unfold mkLst at ed
    split at ed
    · rename_i hl
      cases ed
      refine ⟨by rw [h1.length]; exact line_le hl, fun pp hp => ?_⟩
      obtain ⟨r3, r4⟩ := rn_new r1 h1 hp
      exact q _ _ _ _ Sub.refl r3 r4
    · cases ed⟩
/-- the context of a suite -/
abbrev XS (X : Cx) (h : Hot) (oe : Obj) (pn : List (Addr × Obj)) : Cx := X.suite h.a ((h.a, oe) :: pn)
theorem ixOf_inj {N : List Str} (nd : N.Nodup) {x y : Str} {i : Nat} (h1 : ixOf x N = some i) (h2 : ixOf y N = some i) : x = y := by
  have e1 := ixOf_get h1
  have e2 := ixOf_get h2
  rw [e1] at e2
  exact Option.some.inj e2
theorem h_name {x : Str} {oe : Obj} {pn : List (Addr × Obj)} (G : Good C X W T n) (hn : ∀ i, h.nm = some i → C.slot x ≠ some i) : PE (XS X h oe pn) (.Name x pos) (rdH T h (cName C x)) := by
  unfold cName
  split
  · rename_i hk
    obtain ⟨hx, _⟩ := kind_ok hk
    split
    · rename_i d hd
      obtain ⟨v, u, h1, h2, h3⟩ := G.mdl.con x d hx hd
      have hgl : Gl X x := gl_of G hk
      exact h_val (pe_glob (X := XS X h oe pn) (show Gl (XS X h oe pn) x from hgl) h1 h2 (okN_debug hx)) h3
    · exact h_none
  · split
    · rename_i i hi
      obtain ⟨hx, h1, h2⟩ := slot_ok G hi
      refine (pe_var (X := XS X h oe pn) h1 h2 (okN_debug hx) (okN_classdict hx)).imp fun σ H Q ⟨F, m, μ, ρ, rl, en, p⟩ => ?_
      unfold eV at p
      split at p
      · rename_i d hd
        obtain ⟨v, e1, e2⟩ := en.get i d (fun q => hn i q hi) hd
        exact ⟨v, e1, p _ _ _ _ Sub.refl rl (rl.rs e2)⟩
      · exact p.elim
    · exact h_none
theorem h_fld {x y : Str} {i : Nat} {oe : Obj} {pn : List (Addr × Obj)} {q : Pos} (G : Good C X W T n) (hz : Zc (.ref h.Ca) (some h.dd) oe) (hf : ∃ vs, oe.data = .fields vs) (hi : h.nm = some i) (hx : C.slot x = some i) (hy : okN y = true) (kk : Nat) :
    PE (XS X h oe pn) (.Attribute (.Name x q) y pos) (rdH T h (e1 (oFld (nid y)) (cE C (kk + 1) (.Name x q)))) := by
  obtain ⟨okx, h1, h2⟩ := slot_ok G hx
  have pv : PE (XS X h oe pn) (.Name x q) (tVar i) := pe_var (X := XS X h oe pn) h1 h2 (okN_debug okx) (okN_classdict okx)
  refine ⟨fun pins s σ H Q I ⟨F, m, μ, ρ, rl, en, pp⟩ => ?_⟩
  obtain ⟨fvs, g1, g2, g3⟩ := en.fld
  have hE : cE C (kk + 1) (.Name x q) = eV i := by
    show cName C x = eV i
    unfold cName
    split
    · rename_i hk
      unfold Cxt.slot at hx
      rw [hk] at hx
      cases hx
    · rw [hx]
  rw [hE] at pp
  unfold Gs.e1 at pp
  have key : ∃ d v, σ[i]? = some (some (.ref h.a)) ∧ fvs.lookup y = some v ∧ Rep T F m v d ∧ h.fs.lookup (nid y) = some d ∧ (∀ w, Rep T F m w (rs μ d) → Q w H) := by
    unfold M.bind at pp
    unfold eV at pp
    split at pp
    · rename_i d0 m0 hd
      split at hd
      · rename_i d hd1
        obtain ⟨this, e1⟩ := en.at_ i d hi hd1
        subst this
        cases hd
        have pp2 : Post T (RD T) F m (M.opt (oFld (nid y) μ (.exc h.c h.fs)) μ) Q NoK := pp
        obtain ⟨d2, ed, hQ⟩ := Post.opt pp2
        obtain ⟨d3, l3, rfl⟩ := Option.map_eq_some_iff.mp (show (h.fs.lookup (nid y)).map (rs μ) = some d2 from ed)
        obtain ⟨v, v1, v2⟩ := repF_get hy g2 l3
        exact ⟨d3, v, e1, v1, v2, l3, fun w rw_ => hQ _ _ _ _ Sub.refl rl rw_⟩
      · cases hd
    · rename_i hd
      split at hd <;> cases hd
    · exact pp.elim
  obtain ⟨d, v, e1, v1, v2, v3, hQ⟩ := key
  have hno : PySem.W.findIn X.K (.ref h.Ca) y = some none := by rw [G.K]; exact g3.no (y, v) (mem_of_lookupV v1)
  exact (pe_xf (X := X) (by rw [G.K]; exact g3.c) hno hz hf pv).run pins s σ H Q I ⟨.ref h.a, e1, rfl, rfl, h.dd, fvs, v, rfl, rl.sub _ _ g1, v1, hQ v (rl.rs v2)⟩
/-- what such a def promises of the caught error z -/
def spZ (T : Tb) (bs : Bases) (l : List ShwI) : Addr × Obj → Sp := fun z vs H Q _ => ∃ (F : Hp) (m : At) (μ : Mu) (Ca dd : Addr) (c : Nat) (fvs : List (Str × L2.V)) (fs : List (Nat × D)) (ds : List D), vs = [.ref z.1] ∧ PinZ z Ca dd ∧ T.cl c = some Ca ∧ Rel T F m μ H ∧ F dd = some (.xd fvs) ∧ RepF T F m fvs fs ∧ Xf T.K Ca fvs ∧ shwD bs c fs l = some ds ∧
  ∀ v H' F' m', Sub F m F' m' → Rel T F' m' μ H' → RN T F' m' H' v (.lst ds) → Q v H'
def ShwOk (C : Cxt) (X : Cx) (T : Tb) : Prop := ∀ f l, okN f = true → C.shw (nid f) = some l → ∃ (fa : Addr) (fd : FuncData) (ev : Str), X.mg f = some (.ref fa) ∧ PySem.W.keepIn X.K (.ref fa) = true ∧ FnZ X.prog X.w X.K X.mg X.base L2.CX0 1 fa fd [ev] (spZ T C.bs l) ∧ Binds X.K fd [ev] []
theorem h_shw {x f : Str} {i : Nat} {l : List ShwI} {oe : Obj} {pn : List (Addr × Obj)} {q1 q2 : Pos} (G : Good C X W T n) (hn : 1 ≤ n) (sw : ShwOk C X T) (hz : Zc (.ref h.Ca) (some h.dd) oe) (hf : ∃ vs, oe.data = .fields vs) (hi : h.nm = some i) (hx : C.slot x = some i) (hk : C.kind f = some .globalImplicit) (hl : C.shw (nid f) = some l) :
    PE (XS X h oe pn) (.Call (.Name f q1) [.Name x q2] [] pos) (rdH T h (eShw C.bs l i)) := by
  obtain ⟨okf, _⟩ := kind_ok hk
  obtain ⟨fa, fd, ev, g1, g2, g3, g4⟩ := sw f l okf hl
  obtain ⟨okx, h1, h2⟩ := slot_ok G hx
  have pv : PE (XS X h oe pn) (.Name x q2) (tVar i) := pe_var (X := XS X h oe pn) h1 h2 (okN_debug okx) (okN_classdict okx)
  have hgl : Gl X f := gl_of G hk
  have rm : L2H.RoomH 1 (XS X h oe pn).A := ⟨by have := G.room.dp; show X.A.depth + 3 * 1 + 5 < _; omega, by have := G.room.un; show X.A.units + 16 * 1 + 200 < _; omega⟩
  refine (pe_callZ (X := XS X h oe pn) (z := (h.a, oe)) g3 rm List.mem_cons_self (show Gl (XS X h oe pn) f from hgl) g1 g2 g4 (pa_cons pv pa_nil rfl) (okN_debug okf) rfl rfl).imp fun σ H Q ⟨F, m, μ, ρ, rl, en, pp⟩ => ?_
  obtain ⟨fvs, k1, k2, k3⟩ := en.fld
  unfold eShw at pp
  split at pp
  · rename_i c fs hd
    obtain ⟨e1, e2⟩ := en.at_ i _ hi hd
    cases e1
    split at pp
    · rename_i ds hds
      refine ⟨.ref h.a, e2, F, m, μ, h.Ca, h.dd, h.c, fvs, h.fs, ds, rfl, ⟨hz, hf⟩, en.cl, rl, k1, k2, k3, hds, fun v H' F' m' s r rn => ?_⟩
      obtain ⟨a, vs, rfl, hF, hH, t, hm, hP⟩ := rn
      have s1 : Sub F' m' (upd F' a (.lst vs)) m' := Sub.addF hF
      exact pp _ _ _ _ (s.trans s1) (r.addF hF hH hm hP) (.lst upd_same (t.up s1))
    · exact pp.elim
  · exact pp.elim
theorem cH_leaf {f : Nat} {e : Expr} (h1 : ∀ g p1 x p2 p, e ≠ .Call (.Name g p1) [.Name x p2] [] p) (h2 : ∀ es p, e ≠ .List es p) (h3 : ∀ es k p, e ≠ .Tuple es k p) : cH C f e = cE C f e := by
  unfold cH
  split
  · exact absurd rfl (h1 _ _ _ _ _)
  · exact absurd rfl (h2 _ _)
  · exact absurd rfl (h3 _ _ _)
  · rfl
/-- what a suite may return -/
theorem hot_ok {nm : Option Str} {oe : Obj} {pn : List (Addr × Obj)} (G : Good C X W T n) (hn1 : 1 ≤ n) (sw : ShwOk C X T) (hz : Zc (.ref h.Ca) (some h.dd) oe) (hf : ∃ vs, oe.data = .fields vs) (hnm : ∀ i, h.nm = some i → ∃ y, nm = some y ∧ C.slot y = some i) (hnm2 : ∀ y, nm = some y → ∃ i, h.nm = some i ∧ C.slot y = some i) :
    ∀ (m f : Nat) (e : Expr), hotE nm m e = true → PE (XS X h oe pn) e (rdH T h (cH C f e)) := by
  intro m
  induction m with
  | zero =>
    intro f e he
    cases f with
    | zero => exact h_none
    | succ f =>
      unfold hotE at he
      split at he
      · exact h_val pe_int fun F m => .int _
      · exact h_val pe_bl fun F m => .bl _
      · exact h_val pe_non fun F m => .non
      · exact h_val pe_str fun F m => .str _
      · rename_i x q
        refine h_name G fun i hi hx => ?_
        obtain ⟨y, rfl, hy⟩ := hnm i hi
        have : x = y := by
          have e1 := (slot_ok G hx).2.1
          have e2 := (slot_ok G hy).2.1
          rw [e1] at e2
          exact Option.some.inj e2
        subst this
        simp at he
      · rename_i x q y p'
        simp only [Bool.and_eq_true] at he
        obtain ⟨hy, he⟩ := he
        split at he
        · rename_i z
          have hxz : x = z := by simpa using he
          subst hxz
          obtain ⟨i, hi, hs⟩ := hnm2 _ rfl
          cases f with
          | zero =>
            show PE _ _ (rdH T h (if okN y && baseOk (.Name x q) then e1 (oFld (nid y)) eNo else eNo))
            rw [if_pos (by simp [hy, baseOk])]
            exact ⟨fun _ _ _ _ _ _ ⟨_, _, _, _, _, _, p⟩ => p.elim⟩
          | succ f =>
            show PE _ _ (rdH T h (if okN y && baseOk (.Name x q) then e1 (oFld (nid y)) (cE C (f + 1) (.Name x q)) else eNo))
            rw [if_pos (by simp [hy, baseOk])]
            exact h_fld G hz hf hi hs hy f
        · cases he
      · rename_i hh; cases hh
      · rename_i hh; cases hh
      · rename_i hh; cases hh
      · cases he
  | succ m ih =>
    intro f e he
    cases f with
    | zero => exact h_none
    | succ f =>
      unfold hotE at he
      split at he
      · exact h_val pe_int fun F m => .int _
      · exact h_val pe_bl fun F m => .bl _
      · exact h_val pe_non fun F m => .non
      · exact h_val pe_str fun F m => .str _
      · rename_i x q
        refine h_name G fun i hi hx => ?_
        obtain ⟨y, rfl, hy⟩ := hnm i hi
        have : x = y := by
          have e1 := (slot_ok G hx).2.1
          have e2 := (slot_ok G hy).2.1
          rw [e1] at e2
          exact Option.some.inj e2
        subst this
        simp at he
      · rename_i x q y p'
        simp only [Bool.and_eq_true] at he
        obtain ⟨hy, he⟩ := he
        split at he
        · rename_i z
          have hxz : x = z := by simpa using he
          subst hxz
          obtain ⟨i, hi, hs⟩ := hnm2 _ rfl
          cases f with
          | zero =>
            show PE _ _ (rdH T h (if okN y && baseOk (.Name x q) then e1 (oFld (nid y)) eNo else eNo))
            rw [if_pos (by simp [hy, baseOk])]
            exact ⟨fun _ _ _ _ _ _ ⟨_, _, _, _, _, _, p⟩ => p.elim⟩
          | succ f =>
            show PE _ _ (rdH T h (if okN y && baseOk (.Name x q) then e1 (oFld (nid y)) (cE C (f + 1) (.Name x q)) else eNo))
            rw [if_pos (by simp [hy, baseOk])]
            exact h_fld G hz hf hi hs hy f
        · cases he
      · rename_i g p1 x p2 p' hh; cases hh
        simp only [Bool.and_eq_true] at he
        obtain ⟨okg, he⟩ := he
        split at he
        · rename_i y
          have hxy : x = y := by simpa using he
          subst hxy
          obtain ⟨i, hi, hs⟩ := hnm2 _ rfl
          show PE _ _ (rdH T h (match C.kind g with
            | some .globalImplicit => (match C.shw (nid g), C.slot x with
              | some l, some i => eShw C.bs l i
              | _, _ => eNo)
            | _ => eNo))
          split
          · rename_i hk
            split
            · rename_i l j hl hj
              rw [hs] at hj
              cases hj
              exact h_shw G hn1 sw hz hf hi hs hk hl
            · exact h_none
          · exact h_none
        · cases he
      · rename_i es p' hh; cases hh
        simp only [Bool.and_eq_true, Bool.not_eq_true'] at he
        show PE _ _ (rdH T h (if es.any isStar then eNo else C.mut p' (eLst (esL (es.map (cH C f))))))
        rw [if_neg (by simp [he.1])]
        exact (h_lst (ha_all he.1 fun e q => ih f e (List.all_eq_true.mp he.2 e q))).imp fun _ _ _ => h_mutC
      · rename_i es k2 p' hh; cases hh
        simp only [Bool.and_eq_true, Bool.not_eq_true'] at he
        show PE _ _ (rdH T h (if es.any isStar then eNo else eTup (esL (es.map (cH C f)))))
        rw [if_neg (by simp [he.1])]
        exact h_tup (ha_all he.1 fun e q => ih f e (List.all_eq_true.mp he.2 e q))
      · cases he
end
end Gs
/-! GsS17: try. -/
namespace Gs
open PySem PySem.Spec L2
section
variable {X : Cx} {T : Tb} {W : WX} {C : Cxt} {n k : Nat} {p pos : Pos}
/-- what a clause's suite is to be entered with -/
def tsOf (T : Tb) (nm : Option Nat) (f : Ex) : Addr → Value → Option Addr → TS := fun a cls d D σ H => ∃ h : Hot, h.a = a ∧ cls = .ref h.Ca ∧ d = some h.dd ∧ h.nm = nm ∧ rdH T h f σ H D.rt
theorem names_of {x : Str} {cs : List Nat} {q : Pos} (G : Good C X W T n) (h : hdCs C (some (.Name x q)) = some cs) : ∃ Da, cs = [nid x] ∧ T.cl (nid x) = some Da ∧ PySem.W.subIn X.K (.ref Da) (.type "BaseException") = some true ∧ Names X x (.ref Da) := by
  have key : ∀ g, C.gl x = some (some g) → (∀ d, g ≠ .con d) → (∀ ps dfl, g ≠ .fn ps dfl) → g ≠ .blt → ((∃ ps, g = .err ps) ∨ g = .bare) → ∃ Da, T.cl (nid x) = some Da ∧ PySem.W.subIn X.K (.ref Da) (.type "BaseException") = some true ∧ Names X x (.ref Da) := fun g hg h1 h2 h3 h4 => by
    obtain ⟨hk, hl⟩ := gl_some hg
    obtain ⟨ok, _⟩ := kind_ok hk
    obtain ⟨Da, e1, e2⟩ := G.mdl.cls x g ok hl h1 h2 h3
    exact ⟨Da, e1, G.mdl.exs x g ok hl h4 Da e1, gl_of G hk, okN_debug ok, .inl e2⟩
  simp only [hdCs, cHd] at h
  split at h
  · rename_i ks hg hks
    cases hks
    cases h
    obtain ⟨Da, e1, e2⟩ := key _ hg (by simp) (by simp) (by simp) (.inl ⟨_, rfl⟩)
    exact ⟨Da, rfl, e1, e2⟩
  · rename_i ks hg hks
    cases hks
    cases h
    obtain ⟨Da, e1, e2⟩ := key _ hg (by simp) (by simp) (by simp) (.inr rfl)
    exact ⟨Da, rfl, e1, e2⟩
  · cases h
/-- a clause, its suite, its class -/
inductive HdRel (T : Tb) : List Hd → List HdT → Prop
  | nil : HdRel T [] []
  | cons {x : Nat} {Da : Addr} {nm : Option Nat} {f : Ex} {hs : List Hd} {l : List HdT} : T.cl x = some Da → PySem.W.subIn T.K (.ref Da) (.type "BaseException") = some true → HdRel T hs l → HdRel T (⟨[x], nm, sRet f⟩ :: hs) ((.ref Da, nm, tsOf T nm f) :: l)
theorem suite_ok {nm : Option Str} {nmi : Option Nat} {e : Expr} {q : Pos} (G : Good C X W T n) (hn1 : 1 ≤ n) (sw : ShwOk C X T) (hh : hotE nm 5 e = true) (hnm : ∀ i, nmi = some i → ∃ y, nm = some y ∧ C.slot y = some i) (hnm2 : ∀ y, nm = some y → ∃ i, nmi = some i ∧ C.slot y = some i) (f : Nat) :
    ∀ (a : Addr) (oe : Obj) (cls : Value) (d : Option Addr) (pn : List (Addr × Obj)), Zc cls d oe → (∃ vs, oe.data = .fields vs) → PSs (X.suite a ((a, oe) :: pn)) [.Return (some e) q] (tsOf T nmi (cH C f e) a cls d) := fun a oe cls d pn hz hf =>
  ⟨fun pins s σ H D I ⟨h, e1, e2, e3, e4, hr⟩ => by
    subst e1 e2 e3 e4
    exact (pss_one (ps_ret (hot_ok (h := h) G hn1 sw hz hf hnm hnm2 5 f e hh))).run pins s σ H D I hr⟩
theorem hds_ok (G : Good C X W T n) (hn1 : 1 ≤ n) (sw : ShwOk C X T) : ∀ {hs : List ExceptHandler} {l : List Hd}, hdsOf C hs = some l → ∃ lt, HdsMix X hs lt ∧ HdRel T l lt
  | [], l, h => by
    simp only [hdsOf, Option.some.injEq] at h
    subst h
    exact ⟨[], .nil, .nil⟩
  | hd :: r, l, h => by
    unfold hdsOf at h
    split at h
    · rename_i hd' l' h1 h2
      cases h
      obtain ⟨lt, m1, m2⟩ := hds_ok G hn1 sw h2
      unfold hdOf at h1
      split at h1
      · rename_i x q nm body p'
        split at h1
        · rename_i cs e hcs he
          obtain ⟨Da, rfl, hcl, hexc, hN⟩ := names_of G hcs
          rw [G.K] at hexc
          unfold hotS at he
          split at he
          · rename_i e' p2
            split at he
            · rename_i hot
              cases he
              simp only [Bool.and_eq_true] at hot
              split at h1
              · cases h1
                exact ⟨_, .plain hN (suite_ok (nmi := none) G hn1 sw hot.1 (fun i q => by cases q) (fun y q => by cases q) depthE) m1, .cons hcl hexc m2⟩
              · rename_i y
                split at h1
                · rename_i hky
                  split at h1
                  · rename_i i hi
                    cases h1
                    have hs : C.slot y = some i := by
                      unfold Cxt.slot
                      rw [hky]
                      exact hi
                    obtain ⟨_, g1, _⟩ := slot_ok G hs
                    have hl : X.env.kindOf y = some .local := by
                      show X.env.scope.names.lookup y = _
                      rw [G.sc]; exact (kind_ok hky).2
                    exact ⟨_, .named g1 hl hN (suite_ok (nmi := some i) G hn1 sw hot.1 (fun j q => by cases q; exact ⟨y, rfl, hs⟩) (fun z q => by cases q; exact ⟨i, rfl, hs⟩) depthE) m1, .cons hcl hexc m2⟩
                  · cases h1
                · cases h1
            · cases he
          · cases he
        · cases h1
      · cases h1
    · cases h
/-- the error goes through the clauses -/
theorem hd_go {bs : Bases} (hK : X.K = T.K) (hbs : ∀ c Ca d Da, T.cl c = some Ca → T.cl d = some Da → PySem.W.subIn X.K (.ref Ca) (.type "BaseException") = some true → PySem.W.subIn X.K (.ref Da) (.type "BaseException") = some true → PySem.W.exmOne X.K (.ref Ca) (.ref Da) = some ((bs c).contains d)) {c : Nat} {fs : List (Nat × D)} {Ca dx : Addr} {fvs : List (Str × V)} {σ : L2.St} {H : Hp} {F : Hp} {m : At} {μ : Mu} {ρ : Env} {D : Ends} (hc : T.cl c = some Ca) (hd : H dx = some (.xd fvs)) (hdF : F dx = some (.xd fvs)) (rf : RepF T F m fvs fs) (xf : Xf T.K Ca fvs)
    (rl : Rel T F m μ H) (en : EnvR T F m σ ρ) : ∀ {l : List Hd} {lt : List HdT}, HdRel T l lt → PostS T W F m (hdGo bs c fs l ρ μ) D → wMix X.K W D lt (.ref Ca) (some dx) σ H
  | _, _, .nil, pp => pp Ca dx fvs σ H F m Sub.refl rl en hc hd hdF rf xf
  | _, _, .cons (x := x) (Da := Da) (nm := nm) (f := f) hx hxx r, pp => by
    refine ⟨(bs c).contains x, hbs c Ca x Da hc hx (by rw [hK]; exact xf.c.exC) (by rw [hK]; exact hxx), fun hb a ha => ?_, fun hb => ?_⟩
    · unfold hdGo at pp
      rw [if_pos (by simpa using hb)] at pp
      cases nm with
      | none =>
        refine ⟨⟨a, Ca, dx, c, fs, none⟩, rfl, rfl, rfl, rfl, F, m, μ, ρ, rl, ⟨fun j d _ e => en.get j d e, fun i d q => (by cases q), ⟨fvs, hdF, rf, xf⟩, hc⟩, ?_⟩
        dsimp only at pp
        unfold sRet sB at pp
        cases q : f ρ μ with
        | ok d μ2 =>
          rw [q] at pp
          exact fun v H' F' m' s r' rv => pp v H' F' m' s r' rv
        | exc c2 fs2 μ2 => rw [q] at pp; exact pp.elim
        | stuck => rw [q] at pp; exact pp.elim
      | some i =>
        refine ⟨⟨a, Ca, dx, c, fs, some i⟩, rfl, rfl, rfl, rfl, F, m, μ, ρ.set i (some (.exc c fs)), rl, ⟨fun j d hj e => ?_, fun i' d q e => ?_, ⟨fvs, hdF, rf, xf⟩, hc⟩, ?_⟩
        · have hne : i ≠ j := fun z => hj (by rw [z])
          rw [List.getElem?_set_ne hne] at e ⊢
          exact en.get j d e
        · cases q
          by_cases hl : i < ρ.length
          · rw [List.getElem?_set_self hl] at e
            cases e
            exact ⟨rfl, List.getElem?_set_self (by rw [en.len]; exact hl)⟩
          · rw [List.getElem?_eq_none (by simpa using hl)] at e
            cases e
        · dsimp only at pp
          unfold sRet sB at pp
          cases q : f (ρ.set i (some (.exc c fs))) μ with
          | ok d μ2 =>
            rw [q] at pp
            exact fun v H' F' m' s r' rv => pp v H' F' m' s r' rv
          | exc c2 fs2 μ2 => rw [q] at pp; exact pp.elim
          | stuck => rw [q] at pp; exact pp.elim
    · unfold hdGo at pp
      have hnot : ¬ (([x] : List Nat).any fun k => (bs c).contains k) = true := by
        intro z
        have z2 : (bs c).contains x = true := by simpa using z
        rw [hb] at z2
        cases z2
      rw [if_neg hnot] at pp
      exact hd_go hK hbs hc hd hdF rf xf rl en r pp
theorem Good.tr (G : Good C X W T n) {W' : WX} {pn : List (Addr × Obj)} {xe : Value → Shared → Prop} (tk : Takes (X.tr pn xe) W') (own : PassesOwn (model X.prog X.w) X.A X.env xe) : Good C (X.tr pn xe) W' T n :=
  ⟨G.N, G.nd, G.sc, G.fn, tk, own, G.calm, G.room, G.K, G.z, G.mdl⟩
theorem FnX.tr {g : List D → M D} {fa : Addr} {ps : List Nat} {dfl : List D} {pn : List (Addr × Obj)} {xe : Value → Shared → Prop} (h : FnX X T k g fa ps dfl) : FnX (X.tr pn xe) T k g fa ps dfl := ⟨h.ex, h.kp⟩
theorem Cal.tr (A : Cal C X T k) {pn : List (Addr × Obj)} {xe : Value → Shared → Prop} : Cal C (X.tr pn xe) T k where
  fns := fun x ps dfl hx h => by
    obtain ⟨fa, h1, h2⟩ := A.fns x ps dfl hx h
    exact ⟨fa, h1, h2.tr⟩
  mks := fun x ps dfl fr hx h => by
    obtain ⟨Ca, fi, h1, h2, h3, h4, h5⟩ := A.mks x ps dfl fr hx h
    exact ⟨Ca, fi, h1, h2, h3, h4, h5.tr⟩
  mts := fun y c Ca ps dfl hk h hc => by
    obtain ⟨fa, h1, h2⟩ := A.mts y c Ca ps dfl hk h hc
    exact ⟨fa, h1, h2.tr⟩
theorem st_try {body : List Stmt} {hs : List ExceptHandler} {l : List Hd} {gb : Stm} (G : Good C X W T n) (hn1 : 1 ≤ n) (sw : ShwOk C X T) (hst : X.stack = X.env :: X.outer) (hfr : X.env.frame = some X.env.locals) (hl : hdsOf C hs = some l) (hne : hs ≠ [])
    (hb : ∀ (W' : WX) (pn : List (Addr × Obj)) (xe : Value → Shared → Prop), Takes (X.tr pn xe) W' → PassesOwn (model X.prog X.w) X.A X.env xe → PSs (X.tr pn xe) body (rdS T W' gb)) : PS X (.Try body hs [] [] pos) (rdS T W (sTry C.bs gb l)) := by
  obtain ⟨lt, m1, m2⟩ := hds_ok G hn1 sw hl
  cases hs with
  | nil => exact absurd rfl hne
  | cons h0 hr =>
    refine (ps_try_mix (tb := fun W' => rdS T W' gb) hst hfr (xN_nodup G) G.tk hb m1).imp fun D σ H ⟨F, m, μ, ρ, rl, en, pp⟩ => ⟨F, m, μ, ρ, rl, en, ?_⟩
    unfold sTry at pp
    cases q : gb ρ μ with
    | stuck => rw [q] at pp; exact pp
    | exc c fs ρ' μ' =>
      rw [q] at pp
      exact fun Ca dx fvs σ' H' F' m' s r en' hc hd hdF rf xf => hd_go G.K G.mdl.exm hc hd hdF rf xf r en' m2 (pp.up s)
    | ok o μ' =>
      rw [q] at pp
      cases o with
      | nx ρ' => exact pp
      | bk ρ' => exact pp
      | ct ρ' => exact pp
      | rt d => exact pp
end
end Gs
/-! GsS18: every statement. -/
namespace Gs
open PySem PySem.Spec L2
structure Sok (C : Cxt) (X : Cx) (W : WX) (T : Tb) (k : Nat) : Prop where
  G : Good C X W T (k + 1)
  A : Cal C X T k
  fl : Fl C X T
  er : ∀ x ps, okN x = true → C.glob.lookup (nid x) = some (.err ps) → ∃ Ca, X.mg x = some (.ref Ca) ∧ ErrX X T k (nid x) Ca ps
  st : X.stack = X.env :: X.outer
  fr : X.env.frame = some X.env.locals
  kd : C.sc.kind = .function
  sw : ShwOk C X T
theorem Sok.tr {C : Cxt} {X : Cx} {W W' : WX} {T : Tb} {k : Nat} (S : Sok C X W T k) {pn : List (Addr × Obj)} {xe : Value → Shared → Prop} (tk : Takes (X.tr pn xe) W') (own : PassesOwn (model X.prog X.w) X.A X.env xe) : Sok C (X.tr pn xe) W' T k :=
  ⟨S.G.tr tk own, S.A.tr, S.fl, fun x ps hx h => by
    obtain ⟨Ca, h1, h2⟩ := S.er x ps hx h
    exact ⟨Ca, h1, ⟨h2.cl, h2.xf, h2.ex⟩⟩, S.st, S.fr, S.kd, S.sw⟩
theorem cE_comp {C : Cxt} {f : Nat} {elt tg iter : Expr} {ifs : List Expr} {scope : Scope} {p : Pos} : cE C (f + 1) (.ListComp elt [⟨tg, iter, ifs, 0⟩] scope p) =
    (if noSet iter && L2.blkC C.N C.sc scope (ownOf C.N scope.names) && (tgtIx (C.inner scope) tg).all (fun i => ((ownOf C.N scope.names).map (·.2)).contains i) then
      (match cTgt (C.inner scope) tg, ifs with
      | some g, [] => C.mut p (eComp ((ownOf C.N scope.names).map (·.2)) (cI C tg f iter) g tYes (cE (C.inner scope) f elt))
      | some g, [t] => C.mut p (eComp ((ownOf C.N scope.names).map (·.2)) (cI C tg f iter) g (cT (C.inner scope) f t) (cE (C.inner scope) f elt))
      | _, _ => eNo)
    else eNo) := rfl
section
variable {X : Cx} {T : Tb} {W : WX} {C : Cxt} {k : Nat}
theorem st_asgNo {st : Stmt} {g : Tgt} : PS X st (rdS T W (sAsg eNo g)) := ⟨fun _ _ _ _ _ _ ⟨_, _, _, _, _, _, p⟩ => p.elim⟩
theorem st_asgN {x : Str} {i : Nat} {q pos : Pos} {e : Expr} (S : Sok C X W T k) (hi : C.loc x = some i) (h : (notComp e || swapC C e x q) = true) (f : Nat) : PS X (.Assign [.Name x q] e pos) (rdS T W (sAsg (cE C (f + 1) e) (gV i))) := by
  cases hn : notComp e with
  | true => exact st_setN S.G hi (sound_E _ C X W T k S.G S.A e) hn
  | false =>
    rw [hn, Bool.false_or] at h
    unfold swapC at h
    split at h
    · rename_i elt tg iter ifs scope p2
      have hsw : ∀ ifs, swapC C (.ListComp elt [⟨tg, iter, ifs, 0⟩] scope p2) x q = true := fun ifs => h
      rw [cE_comp]
      split
      · rename_i hb
        simp only [Bool.and_eq_true] at hb
        split
        · rename_i g hg
          exact st_setLc0 S.G S.kd hi (hsw _) ⟨hb.1.1, hb.1.2, hb.2, hg, sound_I f C X W T k S.G S.A _ _, fun P s H cl Ca fp => sound_E f _ _ _ _ k (S.G.blk P) (S.A.blk P) _⟩
        · rename_i g t hg
          exact st_setLc1 S.G S.kd hi (hsw _) ⟨hb.1.1, hb.1.2, hb.2, hg, sound_I f C X W T k S.G S.A _ _, fun P s H cl Ca fp => sound_E f _ _ _ _ k (S.G.blk P) (S.A.blk P) _⟩ fun P s H cl Ca fp => sound_T f _ _ _ _ k (S.G.blk P) (S.A.blk P) _
        · exact st_asgNo
      · exact st_asgNo
    · cases h
end
def AllS (fuel : Nat) : Prop := ∀ (C : Cxt) (X : Cx) (W : WX) (T : Tb) (k : Nat), Sok C X W T k → ∀ st, PS X st (rdS T W (cS C fuel st))
theorem allS_step (fuel : Nat) (ih : AllS fuel) : AllS (fuel + 1) := by
  intro C X W T k S st
  have hE := sound_E depthE C X W T k S.G S.A
  have hT := sound_T depthE C X W T k S.G S.A
  have hS : ∀ l : List Stmt, PSs X l (rdS T W (stmL (l.map (cS C fuel)))) := fun l => st_all fun s _ => ih C X W T k S s
  unfold cS
  split
  · rename_i h; cases h
  · exact st_pass
  · exact st_brk
  · exact st_ct
  · exact st_doc
  · split
    · rename_i hn
      exact st_ex (hE _) hn
    · exact st_no
  · exact st_retN
  · split
    · exact st_ret (hE _).freeze
    · exact st_ret (hE _)
  · split
    · rename_i hb
      simp only [Bool.and_eq_true] at hb
      exact st_setI (hE _) (hE _) (hE _) hb.1 hb.2
    · exact st_no
  · split
    · rename_i hb
      simp only [Bool.and_eq_true] at hb
      exact st_setF S.G S.fl hb.1 (hE _) (hE _) hb.2
    · exact st_no
  · split
    · rename_i i hi
      split
      · rename_i hb
        exact st_asgN S hi hb 39
      · exact st_no
    · exact st_no
  · split
    · rename_i hb
      simp only [Bool.and_eq_true, Bool.not_eq_true'] at hb
      split
      · rename_i g hg
        exact st_setT S.G hg (hE _) hb.1 hb.2
      · exact st_no
    · exact st_no
  · split
    · rename_i i f hi hf
      exact st_aug S.G hi hf (hE _)
    · exact st_no
  · split
    · rename_i f hf
      split
      · rename_i hb
        exact st_augI hf (hE _) (hE _) (hE _) hb
      · exact st_no
    · exact st_no
  · split
    · rename_i f hf
      split
      · rename_i hb
        exact st_augF S.G S.fl hb hf (hE _) (hE _)
      · exact st_no
    · exact st_no
  · rename_i h; cases h
    exact st_if (hT _) (hS _) (hS _)
  · rename_i h; cases h
    split
    · rename_i hn
      split
      · rename_i g hg
        exact st_for S.G (sound_I depthE C X W T k S.G S.A _ _) (g_ok S.G hg) (hS _) hn
      · exact st_no
    · exact st_no
  · rename_i h; cases h
    exact st_while S.G (hT _) (hS _)
  · split
    · exact st_no
    · rename_i args _ _ _ hb
      simp only [Bool.or_eq_true, Bool.not_eq_true', not_or, Bool.not_eq_true, Bool.not_eq_false] at hb
      split
      · rename_i ps hgl
        obtain ⟨hk, hg⟩ := gl_some hgl
        obtain ⟨hx, _⟩ := kind_ok hk
        obtain ⟨Ca, hm, Er⟩ := S.er _ ps hx hg
        cases args with
        | nil => simp at hb
        | cons e es => exact st_raise S.G S.G.room hx (gl_of S.G hk) hm Er (a_all hb.1.1 fun e _ => hE e) hb.1.1 (Nat.blt_eq.mp hb.2)
      · exact st_no
  · rename_i h; cases h
    split
    · exact st_no
    · rename_i hne
      split
      · rename_i l hl
        exact st_try S.G (by omega) S.sw S.st S.fr hl (by intro z; subst z; simp at hne) fun W' pn xe tk own => st_all fun s _ => ih C _ W' T k (S.tr tk own) s
      · exact st_no
  · exact st_no
theorem sound_S : ∀ fuel, AllS fuel
  | 0 => fun C X W T k S st => by unfold cS; exact st_no
  | f + 1 => allS_step f (sound_S f)
/-- a def's body -/
theorem sound_body {C : Cxt} {X : Cx} {W : WX} {T : Tb} {k : Nat} (S : Sok C X W T k) (b : List Stmt) : PSs X b (rdS T W (cBody C b)) := st_all fun s _ => sound_S depthE C X W T k S s
end Gs
/-! GsS19: defs keep their promises. -/
namespace Gs
open PySem PySem.Spec L2
/-- a law's tables -/
structure Law where
  glob : List (Nat × Gs.G)
  bs : Bases
  flds : Nat → List Nat
  mp : Nat → Nat → Option (List Nat × List D)
  tab : Nat → Nat → Option Def
  shw : Nat → Option (List ShwI)
def Law.cx (L : Law) (N : List Str) (sc : Scope) (marks : List (Nat × Nat × Nat)) (run : Run) : Cxt := ⟨N, sc, L.glob, marks, run, L.bs, L.flds, L.mp, fun _ => true, L.shw⟩
/-- where the law stands -/
structure Wd where
  P : Program
  w : World
  K : PySem.W.Frag
  mg : Str → Option Value
  base : Heap
  T : Tb
/-- a def as it stands in the text -/
def DefX (V : Wd) (L : Law) (c f : Nat) (fa : Addr) (ps : List Nat) (dfl : List D) : Prop := ∃ (x qual : Str) (params : Arguments) (body : List Stmt) (scope : Scope) (dvs : List L2.V) (fd : FuncData) (N ps' : List Str) (d : Def) (marks : List (Nat × Nat × Nat)),
  FunD V.K x qual params body scope dvs [] fa fd ∧ FnScope N ps' scope ∧ ps'.map nid = ps ∧ (∀ y ∈ ps', okN y = true) ∧ Simple params ps' ∧ (∀ F m, Reps V.T F m dvs dfl) ∧ L.tab c f = some d ∧ d.np = ps.length ∧ d.ns = N.length ∧
    (∀ run, d.body run = cBody (L.cx N scope marks run) body)
/-- an error's class as it stands -/
def ErrD (V : Wd) (c : Nat) (Ca : Addr) (ps : List Nat) : Prop := V.T.cl c = some Ca ∧ XfC V.K Ca ∧ ∃ (fs : List Str) (fI : Addr) (fd : FuncData) (x qual self : Str) (params : Arguments) (body : List Stmt) (scope : Scope) (N : List Str) (l : List (Str × Str)),
  fs.map nid = ps ∧ (∀ y ∈ fs, okN y = true) ∧ fs ≠ [] ∧ fs.length ≤ 900 ∧ ErrC V.K Ca fs ∧ PySem.W.findIn V.K (.ref Ca) "__init__" = some (some (.ref fI)) ∧ PySem.W.typeIn V.K (.ref fI) = some (.type "function") ∧
    FunD V.K x qual params body scope [] [] fI fd ∧ FnScope N (self :: l.map (·.2)) scope ∧ Simple params (self :: l.map (·.2)) ∧ okN self = true ∧ (∀ q ∈ l, okN q.2 = true) ∧ ErrB self body l ∧ l.map (·.1) = fs ∧ N.Nodup
/-- a def that tells a caught error, as it stands -/
def ShwD (V : Wd) (bs : Bases) (fa : Addr) (l : List ShwI) : Prop := ∃ (ev sh x qual : Str) (params : Arguments) (body : List Stmt) (scope : Scope) (fd : FuncData), FunD V.K x qual params body scope [] [] fa fd ∧ shwB ev body = some (sh, l) ∧ l.length < 900 ∧ FnScope [ev, sh] [ev] scope ∧ scope.names.lookup sh = some .local ∧ Simple params [ev] ∧ okN ev = true ∧ okN sh = true ∧
  scope.names.lookup ("isinstance" : Str) = some .globalImplicit ∧ V.mg "isinstance" = none ∧ (∀ i ∈ l, scope.names.lookup i.cls = some .globalImplicit ∧ ∃ Da, V.mg i.cls = some (.ref Da) ∧ V.T.cl (nid i.cls) = some Da) ∧
  (∀ c Ca, V.T.cl c = some Ca → XfC V.K Ca → IszC V.K Ca) ∧ ∀ c Ca d Da, V.T.cl c = some Ca → V.T.cl d = some Da → PySem.W.kitOne V.K (.ref Ca) (.ref Da) = some ((bs c).contains d)
structure LawOk (V : Wd) (L : Law) : Prop where
  K : V.T.K = V.K
  z : ∀ a, V.T.z a = none
  mdl : ∀ N sc marks run, Mdl (L.cx N sc marks run) V.K V.mg V.T
  fl : ∀ c Ca x, okN x = true → V.T.cl c = some Ca → (L.flds c).contains (nid x) = true → NoAttr V.K Ca x
  fns : ∀ x ps dfl, okN x = true → L.glob.lookup (nid x) = some (.fn ps dfl) → ∃ fa, V.mg x = some (.ref fa) ∧ DefX V L 0 (nid x) fa ps dfl
  mks : ∀ x ps dfl fr, okN x = true → L.glob.lookup (nid x) = some (.cls ps dfl fr) → ∃ Ca fi, V.mg x = some (.ref Ca) ∧ V.T.cl (nid x) = some Ca ∧ Mk V.K Ca fi ∧ InsC V.T.K Ca ∧ DefX V L (nid x) m_init fi ps dfl
  mts : ∀ k c Ca ps dfl, okN k = true → L.mp c (nid k) = some (ps, dfl) → V.T.cl c = some Ca → ∃ fa, Meth V.K Ca k fa ∧ DefX V L c (nid k) fa ps dfl
  ers : ∀ x ps, okN x = true → L.glob.lookup (nid x) = some (.err ps) → ∃ Ca, V.mg x = some (.ref Ca) ∧ ErrD V (nid x) Ca ps
  shs : ∀ f l, okN f = true → L.shw (nid f) = some l → ∃ fa, V.mg f = some (.ref fa) ∧ ShwD V L.bs fa l
/-- a def that keeps its promise -/
def FnW (V : Wd) (k : Nat) (g : List D → M D) (fa : Addr) (ps : List Nat) (dfl : List D) : Prop := (∃ (fd : FuncData) (ps' : List Str) (its : List Value) (dvs : List L2.V), ps'.map nid = ps ∧ (∀ x ∈ ps', okN x = true) ∧ Simple fd.params ps' ∧ FnOk V.P V.w V.K V.mg V.base (L2.CX V.P V.w) k fa fd ps' (spD V.T ps.length g) ∧
    ((its = [] ∧ fd.defaults = .none) ∨ ∃ (Ta : Addr) (o : Obj) (n : Nat), fd.defaults = .ref Ta ∧ V.K.lookup Ta = some o ∧ o.data = .seq its.toArray n) ∧ Vals dvs its ∧ (∀ F m, Reps V.T F m dvs dfl) ∧ ∃ (oc : Value) (od : Option Addr) (osl : Array (Option Value)), V.K.lookup fa = some ⟨oc, od, .func fd, osl⟩) ∧ PySem.W.keepIn V.K (.ref fa) = true
theorem binds_full {K : PySem.W.Frag} {fd : FuncData} {ps : List Str} (S : Simple fd.params ps) (nd : ps.Nodup) (hd : fd.defaults = .none) : Binds K fd ps [] := fun s us _ hl => by
  rw [List.append_nil] at hl ⊢
  obtain ⟨k, e1, e2⟩ := bind_simple S (us := us) (kw := []) (its := []) (by omega) (by simp) (by simp) (by simp) (by simp) (fun n hn => by
    obtain ⟨j, hj⟩ := List.getElem?_of_mem hn
    rw [List.length_nil, Nat.sub_zero, List.take_length] at hj
    rw [List.append_nil, zip_lookup nd hj]
    have : j < ps.length := by
      rcases Nat.lt_or_ge j ps.length with h | h
      · exact h
      · rw [List.getElem?_eq_none h] at hj; cases hj
    rw [List.getElem?_eq_getElem (by omega)]
    simp)
  refine BindsTo.of_looks fun M => ?_
  rw [e1, hd]
  have : seqItems? .none >>= k = k none := rfl
  rw [this]
  refine PySem.W.Looks.of_pure ((e2 none rfl).trans (congrArg _ ?_))
  refine filterMap_zip hl fun j q e => ?_
  rw [fillD_lookup, List.append_nil, zip_lookup nd e]
  have : j < us.length := by
    rcases Nat.lt_or_ge j ps.length with h | h
    · omega
    · rw [List.getElem?_eq_none h] at e; cases e
  rw [List.getElem?_eq_getElem this]
  rfl
theorem scope_nodup {N ps : List Str} {sc : Scope} (S : FnScope N ps sc) : ps.Nodup := by
  rw [← S.pre]; exact S.nd.sublist (List.take_sublist _ _)
theorem scope_get {N ps : List Str} {sc : Scope} (S : FnScope N ps sc) {i : Nat} {x : Str} (h : ps[i]? = some x) : N[i]? = some x ∧ Vis sc x := by
  have hl : i < ps.length := by
    rcases Nat.lt_or_ge i ps.length with h' | h'
    · exact h'
    · rw [List.getElem?_eq_none h'] at h; cases h
  refine ⟨?_, (S.par x (List.mem_of_getElem? h)).imp id .inl⟩
  have e := S.pre
  rw [← e, List.getElem?_take_of_lt hl] at h
  exact h
theorem start_get {N : List Str} {vs : List L2.V} {i : Nat} {v : L2.V} (h : vs[i]? = some v) : (L2.start N vs)[i]? = some (some v) := by
  unfold L2.start
  have hl : i < vs.length := by
    rcases Nat.lt_or_ge i vs.length with h' | h'
    · exact h'
    · rw [List.getElem?_eq_none h'] at h; cases h
  rw [List.getElem?_append_left (by simpa using hl), List.getElem?_map, h]
  rfl
theorem dfl_none {K : PySem.W.Frag} {dV : Value} (h : DflV K dV []) : dV = .none := by
  rcases h with ⟨_, h⟩ | ⟨h, _⟩
  · exact h
  · exact absurd rfl h
/-- an error's __init__ -/
theorem er_ok {V : Wd} {c : Nat} {Ca : Addr} {ps : List Nat} (h : ErrD V c Ca ps) (k : Nat) {X : Cx} (hP : X.prog = V.P) (hw : X.w = V.w) (hK : X.K = V.K) (hm : X.mg = V.mg) (hb : X.base = V.base) : ErrX X V.T (k + 1) c Ca ps := by
  obtain ⟨h1, h2, fs, fI, fd, x, qual, self, params, body, scope, N, l, e1, okf, hne, h9, EC, hi, ht, F, S, Si, o0, ol, B, el, nd⟩ := h
  subst el
  obtain ⟨oc, od, dV, kV, doc, pm, an, cdv, ct, osl, efd, _, _, hD, _⟩ := F.ex
  have hdn := dfl_none hD
  subst efd
  have Fo : FnOk V.P V.w V.K V.mg V.base (L2.CX V.P V.w) 1 fI (PySem.W.fnOf x qual params body scope dV kV doc pm an cdv ct) (self :: l.map (·.2)) (spO Ca (l.map (·.1))) := by
    refine F.ok S (fun vs H Q E ⟨a, ws, q1, q2, _⟩ => by rw [q1]; simp [q2]) fun cdv2 A outer s H vs Q E hr ⟨a, ws, q1, q2, q3, q4, q5⟩ => ?_
    subst q1
    obtain ⟨g1, g2⟩ := scope_get S (i := 0) (x := self) rfl
    refine ⟨tErr V.K 1 l, err_pss (X := cxOf (L2.CX V.P V.w) V.P V.w V.K V.mg V.base N qual scope fI cdv2 A outer s H E) g1 g2 o0 B (fun i q e => ?_), ?_⟩
    · have e2 : (self :: l.map (·.2))[i + 1]? = some q.2 := by simp [e]
      obtain ⟨g3, g4⟩ := scope_get S e2
      exact ⟨by rw [Nat.add_comm]; exact g3, g4, ol q (List.mem_of_getElem? e)⟩
    · exact err_run EC (start_get rfl) (fun i w e => start_get (by rw [Nat.add_comm]; simpa using e)) (by rw [q2, List.length_map]) (fun z => q3 (by rw [z]; rfl)) (by simpa using h9) q4 q5
  refine ⟨h1, by rw [hK]; exact h2, l.map (·.1), self :: l.map (·.2), fI, PySem.W.fnOf x qual params body scope dV kV doc pm an cdv ct, e1, okf, hne, h9, by rw [hK]; exact EC, by rw [hK]; exact hi, by rw [hK]; exact ht, ?_, ?_⟩
  · rw [hP, hw, hK, hm, hb]
    exact Fo.mono (by omega)
  · exact binds_full (fd := PySem.W.fnOf x qual params body scope dV kV doc pm an cdv ct) Si (scope_nodup S) hdn
/-- such a def keeps its promise in a suite -/
theorem shw_ok {V : Wd} {bs : Bases} {fa : Addr} {l : List ShwI} (hTK : V.T.K = V.K) (h : ShwD V bs fa l) (P : Hp) : ∃ (fd : FuncData) (ev : Str), PySem.W.keepIn V.K (.ref fa) = true ∧ FnZ V.P V.w V.K V.mg V.base L2.CX0 1 fa fd [ev] (spZ (V.T.wp P) bs l) ∧ Binds V.K fd [ev] [] := by
  obtain ⟨ev, sh, x, qual, params, body, scope, fd, Fd, hb, hl, S, hsh, Si, oe, os, hi, mi, hC, hI, hK⟩ := h
  obtain ⟨oc, od, dV, kV, doc, pm, an, cdv, ct, osl, efd, lk, hcd, hD, _⟩ := Fd.ex
  have hdn := dfl_none hD
  refine ⟨fd, ev, Fd.kp, ?_, ?_⟩
  · refine FnZ.of Fd S (fun z vs H Q E ⟨_, _, _, _, _, _, _, _, _, e, _⟩ => by rw [e]; rfl) fun z cdv2 A st s H vs Q E hs => ?_
    obtain ⟨F, m, μ, Ca, dd, c, fvs, fs, ds, rfl, pz, hcl, rl, hF, rf, xf, hds, hQ⟩ := hs
    rw [show (V.T.wp P).K = V.K from hTK] at xf
    let X : Cx := L2H.cxH L2.CX0 V.P V.w V.K V.mg V.base [ev, sh] qual scope fa cdv2 A st s H E z
    have SX : ShwX X (V.T.wp P) ev sh z Ca dd := ⟨rfl, rfl, S.nd, by
      rcases S.par ev (by simp) with q | q
      · exact .inl q
      · exact .inr (.inl q), hsh, oe, os, hTK.symm, hI c Ca hcl xf.c, pz, List.mem_cons_self, xf.c, hi, mi⟩
    have hx : ∀ q ∈ fvs, PySem.W.findIn X.K (.ref Ca) q.1 = some none := fun q hq => xf.no q hq
    refine shw_body (bs := bs) (c := c) (X := X) (T := V.T.wp P) SX (fs := fs) (fvs := fvs) (F := F) (m := m) (μ := μ) (H := H) hx rf hb hl (fun i hi' => ?_) hds rl hF _ (by simp [L2.start]) (by simp [L2.start]) _ hQ
    obtain ⟨g1, Da, g2, g3⟩ := hC i hi'
    exact ⟨g1, Da, g2, hK c Ca _ Da hcl g3⟩
  · exact binds_full (by rw [efd]; exact Si) (scope_nodup S) (by rw [efd]; exact hdn)
theorem FnW.fnx {V : Wd} {k : Nat} {g : List D → M D} {fa : Addr} {ps : List Nat} {dfl : List D} (h : FnW V k g fa ps dfl) {X : Cx} (hP : X.prog = V.P) (hw : X.w = V.w) (hK : X.K = V.K) (hm : X.mg = V.mg) (hb : X.base = V.base) : FnX X V.T k g fa ps dfl := by
  obtain ⟨⟨fd, ps', its, dvs, h1, h2, h3, h4, h5, h6, h7, _⟩, h8⟩ := h
  exact ⟨⟨fd, ps', its, dvs, h1, h2, h3, by rw [hP, hw, hK, hm, hb]; exact h4, by rw [hK]; exact h5, h6, h7⟩, by rw [hK]; exact h8⟩
/-- slots at the entry -/
theorem start_env {T : Tb} {F : Hp} {m : At} {N : List Str} {vs : List L2.V} {ds : List D} {ns : Nat} (t : Reps T F m vs ds) (hn : ns = N.length) : EnvR T F m (L2.start N vs) (ds.map some ++ List.replicate (ns - ds.length) none) := by
  subst hn
  refine ⟨by unfold L2.start; simp [t.length], fun i d e => ?_⟩
  by_cases hl : i < ds.length
  · rw [List.getElem?_append_left (by simpa using hl), List.getElem?_map] at e
    obtain ⟨d0, h1, h2⟩ := Option.map_eq_some_iff.mp e
    cases h2
    obtain ⟨v, h3, h4⟩ := t.get h1
    exact ⟨v, start_get h3, h4⟩
  · rw [List.getElem?_append_right (by simpa using hl), List.getElem?_replicate] at e
    split at e <;> cases e
theorem mdl_wp {C : Cxt} {K : PySem.W.Frag} {mg : Str → Option Value} {T : Tb} (h : Mdl C K mg T) (P : Hp) : Mdl C K mg (T.wp P) :=
  ⟨fun x d hx hd => by
    obtain ⟨v, u, h1, h2, h3⟩ := h.con x d hx hd
    exact ⟨v, u, h1, h2, fun F m => (h3 F m).wp P⟩, h.blt, h.cls, h.kit, h.exm, h.exs⟩
/-- one level more -/
theorem def_step {V : Wd} {L : Law} (OK : LawOk V L) (n : Nat) (ih : ∀ c f fa ps dfl, DefX V L c f fa ps dfl → FnW V (2 * n + 1) (runs L.tab n c f) fa ps dfl) :
    ∀ c f fa ps dfl, DefX V L c f fa ps dfl → FnW V (2 * (n + 1) + 1) (runs L.tab (n + 1) c f) fa ps dfl := by
  intro c f fa ps dfl h
  obtain ⟨x, qual, params, body, scope, dvs, fd, N, ps', d, marks, Fd, S, e1, okp, Si, hdf, htab, hnp, hns, hbody⟩ := h
  obtain ⟨oc, od, dV, kV, doc, pm, an, cdv, ct, osl, efd, lk, hcd, hD, _⟩ := Fd.ex
  have hrun : ∀ ds, runs L.tab (n + 1) c f ds = d.run (runs L.tab n) ds := fun ds => by
    show (match L.tab c f with | some d => d.run (runs L.tab n) ds | none => M.stuck) = _
    rw [htab]
  have Fo : FnOk V.P V.w V.K V.mg V.base (L2.CX V.P V.w) (2 * n + 2 + 1) fa fd ps' (spD V.T ps.length (runs L.tab (n + 1) c f)) := by
    refine Fd.ok S (fun vs H Q E ⟨h1, _⟩ => by rw [h1, ← e1, List.length_map]) fun cdv2 A outer s H vs Q E hr ⟨hl, P, F, m, μ, ds, rl, t, pp⟩ => ?_
    let X : Cx := cxOf (L2.CX V.P V.w) V.P V.w V.K V.mg V.base N qual scope fa cdv2 A outer s H E
    have So : Sok (L.cx N scope marks (runs L.tab n)) X (fun cls d _ H => E cls d H) (V.T.wp P) (2 * n + 1) := by
      refine ⟨⟨rfl, S.nd, rfl, fun _ _ => rfl, takes_of rfl rfl rfl rfl, passes_of rfl, rfl, hr, OK.K.symm, OK.z, mdl_wp (OK.mdl N scope marks (runs L.tab n)) P⟩, ⟨fun y ps dfl hy hg => ?_, fun y ps dfl fr hy hg => ?_, fun y c Ca ps dfl hy hg hc => ?_⟩, OK.fl, fun y ps hy hg => ?_, rfl, rfl, S.kind, fun f l hf hl => ?_⟩
      · obtain ⟨fa, h1, h2⟩ := OK.fns y ps dfl hy hg
        exact ⟨fa, h1, ((ih _ _ _ _ _ h2).fnx rfl rfl rfl rfl rfl).wp P⟩
      · obtain ⟨Ca, fi, h1, h2, h3, h4, h5⟩ := OK.mks y ps dfl fr hy hg
        exact ⟨Ca, fi, h1, h2, h3, h4, ((ih _ _ _ _ _ h5).fnx rfl rfl rfl rfl rfl).wp P⟩
      · obtain ⟨fa, h1, h2⟩ := OK.mts y c Ca ps dfl hy hg hc
        exact ⟨fa, h1, ((ih _ _ _ _ _ h2).fnx rfl rfl rfl rfl rfl).wp P⟩
      · obtain ⟨Ca, h1, h2⟩ := OK.ers y ps hy hg
        have e := er_ok (X := X) h2 (2 * n) rfl rfl rfl rfl rfl
        exact ⟨Ca, h1, e.cl, e.xf, e.ex⟩
      · obtain ⟨fa, g1, g2⟩ := OK.shs f l hf hl
        obtain ⟨fd, ev, g3, g4, g5⟩ := shw_ok OK.K g2 P
        exact ⟨fa, fd, ev, g1, g3, g4, g5⟩
    refine ⟨_, sound_body So body, F, m, μ, ds.map some ++ List.replicate (d.ns - ds.length) none, rl, start_env t hns, ?_⟩
    rw [hrun] at pp
    have hlen : ds.length = d.np := by rw [← t.length, hl, hnp]
    unfold Def.run at pp
    rw [if_pos hlen, ← hlen, hbody] at pp
    cases q : cBody (L.cx N scope marks (runs L.tab n)) body (ds.map some ++ List.replicate (d.ns - ds.length) none) μ with
    | stuck => rw [q] at pp; exact pp
    | exc c fs ρ' μ' =>
      rw [q] at pp
      exact fun C dx fvs σ' H' F' m' s r _ hc hd hf rf xf => pp C dx fvs H' F' m' s (r.leave _ _) hc hd hf rf xf
    | ok o μ' =>
      rw [q] at pp
      cases o with
      | nx ρ' => exact fun σ' H' F' m' s r _ => pp .non H' F' m' s (r.leave _ _) .non
      | rt v => exact fun w H' F' m' s r rv => pp w H' F' m' s (r.leave _ _) (r.rs rv)
      | bk ρ' => exact pp.elim
      | ct ρ' => exact pp.elim
  have hdv : ∃ its, ((its = [] ∧ fd.defaults = .none) ∨ ∃ (Ta : Addr) (o : Obj) (n : Nat), fd.defaults = .ref Ta ∧ V.K.lookup Ta = some o ∧ o.data = .seq its.toArray n) ∧ Vals dvs its := by
    rw [efd]
    rcases hD with ⟨h1, h2⟩ | ⟨_, Ta, o, its, k, h2, h3, h4, h5⟩
    · exact ⟨[], .inl ⟨rfl, h2⟩, by rw [h1]; exact .nil⟩
    · exact ⟨its, .inr ⟨Ta, o, k, h2, h3, h4⟩, h5⟩
  obtain ⟨its, hd1, hd2⟩ := hdv
  exact ⟨⟨fd, ps', its, dvs, e1, okp, by rw [efd]; exact Si, Fo, hd1, hd2, hdf, oc, od, osl, lk⟩, Fd.kp⟩
theorem def_zero {V : Wd} {L : Law} : ∀ c f fa ps dfl, DefX V L c f fa ps dfl → FnW V (2 * 0 + 1) (runs L.tab 0 c f) fa ps dfl := by
  intro c f fa ps dfl h
  obtain ⟨x, qual, params, body, scope, dvs, fd, N, ps', d, marks, Fd, S, e1, okp, Si, hdf, htab, hnp, hns, hbody⟩ := h
  obtain ⟨oc, od, dV, kV, doc, pm, an, cdv, ct, osl, efd, lk, hcd, hD, _⟩ := Fd.ex
  have Fo : FnOk V.P V.w V.K V.mg V.base (L2.CX V.P V.w) 1 fa fd ps' (spD V.T ps.length (runs L.tab 0 c f)) :=
    ⟨fun vs H Q E ⟨h1, _⟩ => by rw [h1, ← e1, List.length_map], fun A outer s H args us vs Q E _ _ _ _ ⟨_, _, _, _, _, _, _, _, pp⟩ => pp.elim⟩
  have hdv : ∃ its, ((its = [] ∧ fd.defaults = .none) ∨ ∃ (Ta : Addr) (o : Obj) (n : Nat), fd.defaults = .ref Ta ∧ V.K.lookup Ta = some o ∧ o.data = .seq its.toArray n) ∧ Vals dvs its := by
    rw [efd]
    rcases hD with ⟨h1, h2⟩ | ⟨_, Ta, o, its, k, h2, h3, h4, h5⟩
    · exact ⟨[], .inl ⟨rfl, h2⟩, by rw [h1]; exact .nil⟩
    · exact ⟨its, .inr ⟨Ta, o, k, h2, h3, h4⟩, h5⟩
  obtain ⟨its, hd1, hd2⟩ := hdv
  exact ⟨⟨fd, ps', its, dvs, e1, okp, by rw [efd]; exact Si, Fo, hd1, hd2, hdf, oc, od, osl, lk⟩, Fd.kp⟩
/-- THE RULE: every def keeps what runs tab n says of it -/
theorem defs_ok {V : Wd} {L : Law} (OK : LawOk V L) : ∀ n c f fa ps dfl, DefX V L c f fa ps dfl → FnW V (2 * n + 1) (runs L.tab n c f) fa ps dfl
  | 0 => def_zero
  | n + 1 => def_step OK n (defs_ok OK n)
end Gs
/-! GsHead: the head's hook with a test of one's own; the end. -/
namespace He
open PySem PySem.Spec PyProof.Rows L2
abbrev AlG : Type := AlD × Bool
def obsQ (fa : List Fa) (fn : List DefD) (chk : PySem.W.Frag → Bool) (K : PySem.W.Frag) : AlG := (obsD fa fn K, chk K)
def obsQG (n : Nat) (fa : List Fa) (fn : List DefD) (chk : PySem.W.Frag → Bool) (g : Addr → Option Obj) : AlG := obsQ fa fn chk (frG g (asD g n))
def hookQ (n : Nat) (fa : List Fa) (fn : List DefD) (chk : PySem.W.Frag → Bool) : PySem.W.Hook where
  α := AlG
  obs := fun s => obsQG n fa fn chk s.heap.get?
  val := fun _ => (valD fn, true)
  says := fun _ h => ∃ K : PySem.W.Frag, K.In h ∧ SaysD fa fn K ∧ chk K = true
  of := fun _ _ e => ⟨_, frG_in, congrArg Prod.fst e, congrArg Prod.snd e⟩
  keeps := fun _ _ _ ⟨K, hK, c⟩ k => ⟨K, PySem.W.Frag.In.keeps hK k, c⟩
theorem obsQG_eq {n : Nat} {fa : List Fa} {fn : List DefD} {chk : PySem.W.Frag → Bool} {g : Addr → Option Obj} {s : Shared} (h : ∀ a, g a = s.heap.get? a) : obsQG n fa fn chk g = (hookQ n fa fn chk).obs s := by
  have e : g = s.heap.get? := funext h
  rw [e] <;> rfl
end He
namespace Gs
open PySem PySem.Spec PyProof.Rows L2
/-- a law's end: the script's numbers are bounded together -/
theorem law_end {l : PySem.W.OpenLaw} {n k : Nat} {q : Program} {loose : List Str} {XP : (Str → Option Value) → Heap → Prop} {YP : World → Heap → Prop} {d : DefRec} {x : Str}
    (hn : l.most = some n) (hn2 : n ≤ sizeLine) (hdf : d.params.defaults = []) (hr : Room k callerA)
    (F : ∀ (w : World) (mg : Str → Option Value) (fa : Addr) (h : Heap), YP w h → h.Ns mainGlobals mg → mg d.name = some (.ref fa) →
      ∃ (K : PySem.W.Frag) (fd : FuncData) (sp : Sp), K.In h ∧ (∀ (s : Shared) (u : Value), BindsTo s fd ⟨[u], []⟩ [(x, u)]) ∧
        (∀ (H : Hp) (a : Addr) (ns : List Int), ns.length ≤ n → (∀ z ∈ ns, Builtin.Int.intBits z ≤ 1048576) → Only H → SqL K H a (ns.map V.int) → sp [.ref a] H (fun v _ => v = .bl true) fun _ _ _ => False) ∧
        ∀ base : Heap, K.In base → base.Ns mainGlobals mg → FnOk l.prog w K mg base (L2.CX l.prog w) k fa fd [x] sp) :
    PySem.W.WalkO q loose XP YP l.row.toRowW d [] (fun f vs => PySem.call f vs) := by
  refine Att.attach_callB hn hdf fun w s₀ s₁ mg mb fa o pm cd doc a vs ns G Y ho hd hcd hmg hobj hints hlen hbits hg => ?_
  obtain ⟨K, fd, sp, KX, hb, hsp, hF⟩ := F w mg fa _ Y G.T.g hmg
  exact law_call KX G.T.g G.T.b G.T.builtins G.T.nolimit hg hobj hints (Nat.le_trans hlen hn2) hr hF hb (fun H hO hS => hsp H a ns hlen hbits hO hS) fun H e s' ⟨_, _, _, _, _, _, _, _, _, _, _, _, z⟩ => z
/-- the promise of a law at its script, from what its combinators say -/
theorem law_sp {T : Tb} {np : Nat} {g : List D → M D} (hz : np = 1) {H : Hp} {a : Addr} {ns : List Int} (ho : Only H) (hs : SqL T.K H a (ns.map V.int)) (hr : ∃ μ, g [.rol (ns.map D.int)] ⟨0, []⟩ = .ok (.bl true) μ) :
    spD T np g [.ref a] H (fun v _ => v = .bl true) fun _ _ _ => False := by
  obtain ⟨μ, e⟩ := hr
  have t : ∀ l : List Int, Reps (T.wp fun _ => none) H (fun _ => none) (l.map V.int) (l.map D.int) := fun l => by
    induction l with
    | nil => exact .nil
    | cons i l ih => exact .cons (.int i) ih
  refine ⟨by rw [hz]; rfl, fun _ => none, H, fun _ => none, ⟨0, []⟩, [.rol (ns.map D.int)], ⟨fun _ _ h => h, fun n c h => (by cases h), fun _ _ _ h => (by cases h), fun _ _ h => (by cases h), fun _ _ => rfl, List.nodup_nil, fun _ _ h => (by cases h)⟩, .cons (.rol hs (t ns)) .nil, ?_⟩
  rw [e]
  exact fun v H' F' m' _ _ rv => rv.vBl
end Gs
/-! GsLaw: a law's tables against the written part, by a Bool. -/
namespace Gs
open PySem PySem.Spec L2
/-- a class of the text: its name; its fields; the parameters of __init__ (self first), frozen; an error's fields; bare -/
structure ClsT where
  name : Str
  flds : List Str
/-- classes by number -/
def clT (cs : List ClsT) (K : PySem.W.Frag) : At := fun c => (cs.find? fun q => Nat.beq (nid q.name) c).map fun q => He.ga K q.name
theorem clT_some {cs : List ClsT} {K : PySem.W.Frag} {c : Nat} {Ca : Addr} (h : clT cs K c = some Ca) : ∃ q ∈ cs, nid q.name = c ∧ Ca = He.ga K q.name := by
  obtain ⟨q, h1, h2⟩ := Option.map_eq_some_iff.mp h
  have h3 : Nat.beq (nid q.name) c = true := List.find?_some (p := fun q : ClsT => Nat.beq (nid q.name) c) h1
  exact ⟨q, List.mem_of_find?_eq_some h1, Nat.eq_of_beq_eq_true h3, h2.symm⟩
def eqB (a : Option Bool) (b : Bool) : Bool := decide (a = some b)
/-- isinstance among the classes -/
def kitB (cs : List ClsT) (bs : Bases) (K : PySem.W.Frag) : Bool := cs.all fun q =>
  ((["NoneType", "bool", "int", "str", "tuple", "list"] : List String).all fun n => eqB (PySem.W.kitOne K (.type n) (.ref (He.ga K q.name))) false) &&
  ((["bool", "int", "str", "tuple", "list"] : List String).all fun n => eqB (PySem.W.kitOne K (.ref (He.ga K q.name)) (.type n)) false) &&
  (cs.all fun r => eqB (PySem.W.kitOne K (.ref (He.ga K q.name)) (.ref (He.ga K r.name))) ((bs (nid q.name)).contains (nid r.name)))
theorem kit_of_b {cs : List ClsT} {bs : Bases} {K : PySem.W.Frag} (h : kitB cs bs K = true) : Kit K (clT cs K) bs := by
  have each : ∀ q ∈ cs, _ := fun q hq => List.all_eq_true.mp h q hq
  refine ⟨fun d D hd n hn => ?_, fun c C hc _ => ⟨fun n hn => ?_, fun d D hd => ?_⟩⟩
  · obtain ⟨q, hq, _, rfl⟩ := clT_some hd
    have := each q hq
    simp only [Bool.and_eq_true] at this
    exact of_decide_eq_true (List.all_eq_true.mp this.1.1 n hn)
  · obtain ⟨q, hq, _, rfl⟩ := clT_some hc
    have := each q hq
    simp only [Bool.and_eq_true] at this
    exact of_decide_eq_true (List.all_eq_true.mp this.1.2 n hn)
  · obtain ⟨q, hq, rfl, rfl⟩ := clT_some hc
    obtain ⟨r, hr, rfl, rfl⟩ := clT_some hd
    have := each q hq
    simp only [Bool.and_eq_true] at this
    exact of_decide_eq_true (List.all_eq_true.mp this.2 r hr)
/-- except among the classes -/
def exmB (cs : List ClsT) (bs : Bases) (K : PySem.W.Frag) : Bool := cs.all fun q => cs.all fun r =>
  !(decide (PySem.W.subIn K (.ref (He.ga K q.name)) (.type "BaseException") = some true) && decide (PySem.W.subIn K (.ref (He.ga K r.name)) (.type "BaseException") = some true)) || eqB (PySem.W.exmOne K (.ref (He.ga K q.name)) (.ref (He.ga K r.name))) ((bs (nid q.name)).contains (nid r.name))
theorem exm_of_b {cs : List ClsT} {bs : Bases} {K : PySem.W.Frag} (h : exmB cs bs K = true) : ∀ c Ca d Da, clT cs K c = some Ca → clT cs K d = some Da → PySem.W.subIn K (.ref Ca) (.type "BaseException") = some true → PySem.W.subIn K (.ref Da) (.type "BaseException") = some true → PySem.W.exmOne K (.ref Ca) (.ref Da) = some ((bs c).contains d) := by
  intro c Ca d Da hc hd hs hs2
  obtain ⟨q, hq, rfl, rfl⟩ := clT_some hc
  obtain ⟨r, hr, rfl, rfl⟩ := clT_some hd
  have := List.all_eq_true.mp (List.all_eq_true.mp h q hq) r hr
  rw [hs, hs2] at this
  simp only [decide_true, Bool.and_self, Bool.not_true, Bool.false_or] at this
  exact of_decide_eq_true this
end Gs
/-! GsCon: constants of the module. -/
namespace Gs
open PySem PySem.Spec L2
def vOf : Value → V
  | .none => .non
  | .bool b => .bl b
  | .int i _ => .int i
  | .str x _ => .str x
  | .ref a => .ref a
  | .type n => .ty n
  | _ => .non
mutual
/-- the model's value u is what d says: texts and numbers, tuples of such that stand in K -/
def sayV (K : PySem.W.Frag) : Value → D → Bool
  | .none, .non => true
  | .bool b, .bl c => b == c
  | .int i _, .int j => decide (i = j)
  | .str x _, .str y => decide (x = y)
  | .ref a, .tup ds => match K.lookup a with
    | some ⟨.type ty, _, .seq its _, _⟩ => decide (ty = "tuple") && (decide (its.size ≤ 16777216) && sayVs K its.toList ds)
    | _ => false
  | _, _ => false
def sayVs (K : PySem.W.Frag) : List Value → List D → Bool
  | [], [] => true
  | u :: us, d :: ds => sayV K u d && sayVs K us ds
  | _, _ => false
end
mutual
theorem say_ok {T : Tb} {K : PySem.W.Frag} (hK : T.K = K) : ∀ (d : D) (u : Value), sayV K u d = true → RelV (vOf u) u ∧ ∀ F m, Rep T F m (vOf u) d
  | .non, u, h => by
    cases u <;> first | exact ⟨rfl, fun _ _ => .non⟩ | (simp [sayV] at h)
  | .bl c, u, h => by
    cases u <;> simp [sayV] at h
    subst h
    exact ⟨rfl, fun _ _ => .bl _⟩
  | .int j, u, h => by
    cases u <;> simp [sayV] at h
    subst h
    exact ⟨⟨_, rfl⟩, fun _ _ => .int _⟩
  | .str y, u, h => by
    cases u <;> simp [sayV] at h
    subst h
    exact ⟨⟨_, rfl⟩, fun _ _ => .str _⟩
  | .tup ds, u, h => by
    cases u with
    | ref a =>
      unfold sayV at h
      split at h
      · rename_i ty dd its n sl e
        simp only [Bool.and_eq_true, decide_eq_true_eq] at h
        obtain ⟨rfl, hz, h2⟩ := h
        obtain ⟨g1, g2⟩ := says_ok hK ds its.toList h2
        exact ⟨rfl, fun F m => .tup (.inr ⟨_, its, n, by rw [hK]; exact e, rfl, rfl, by rw [sizeLine_eq]; exact hz, g1⟩) (g2 F m)⟩
      · cases h
    | _ => simp [sayV] at h
  | .lst _, u, h => by cases u <;> simp [sayV] at h
  | .rol _, u, h => by cases u <;> simp [sayV] at h
  | .obj _ _, u, h => by cases u <;> simp [sayV] at h
  | .exc _ _, u, h => by cases u <;> simp [sayV] at h
  | .ref _, u, h => by cases u <;> simp [sayV] at h
  | .fn _, u, h => by cases u <;> simp [sayV] at h
theorem says_ok {T : Tb} {K : PySem.W.Frag} (hK : T.K = K) : ∀ (ds : List D) (us : List Value), sayVs K us ds = true → Vals (us.map vOf) us ∧ ∀ F m, Reps T F m (us.map vOf) ds
  | [], us, h => by
    cases us with
    | nil => exact ⟨.nil, fun _ _ => .nil⟩
    | cons _ _ => simp [sayVs] at h
  | d :: ds, us, h => by
    cases us with
    | nil => simp [sayVs] at h
    | cons u us =>
      simp only [sayVs, Bool.and_eq_true] at h
      obtain ⟨g1, g2⟩ := say_ok hK d u h.1
      obtain ⟨g3, g4⟩ := says_ok hK ds us h.2
      exact ⟨.cons g1 g3, fun F m => .cons (g2 F m) (g4 F m)⟩
end
/-- the module's name x stands for d -/
def conB (K : PySem.W.Frag) (x : Str) (d : D) : Bool := match PySem.W.nsIn K mainGlobals x with
  | some (some u) => sayV K u d
  | _ => false
theorem con_of_b {T : Tb} {K : PySem.W.Frag} {h : Heap} {mg : Str → Option Value} {x : Str} {d : D} (hK : T.K = K) (X : K.In h) (G : h.Ns mainGlobals mg) (c : conB K x d = true) : ∃ v u, mg x = some u ∧ RelV v u ∧ ∀ F m, Rep T F m v d := by
  unfold conB at c
  split at c
  · rename_i u e
    obtain ⟨g1, g2⟩ := say_ok hK d u c
    exact ⟨vOf u, u, PySem.W.mg_of X G e, g1, g2⟩
  · cases c
end Gs
/-! GsCls: classes of the module. -/
namespace Gs
open PySem PySem.Spec L2
def insB (K : PySem.W.Frag) (C : Addr) : Bool :=
  PySem.W.plainGet K C Str.empty && PySem.W.hasDictIn K C && PySem.W.plainOver K C && decide (PySem.W.findIn K (.ref C) "__setattr__" = some (some (.builtin "object.__setattr__"))) &&
  decide (PySem.W.findIn K (.ref C) "__class__" = some (some (.builtin "object.__class__"))) && decide (PySem.W.specialIn K (.builtin "object.__class__") "__get__" = some (some (.builtin "getset_descriptor.__get__"))) &&
  decide (PySem.W.takesIn K (.builtin "object.__class__") = some true) && decide (PySem.W.mroIn K C (.type "object") = some true)
theorem ins_of_b {K : PySem.W.Frag} {C : Addr} (h : insB K C = true) : InsC K C := by
  simp only [insB, Bool.and_eq_true, decide_eq_true_eq] at h
  obtain ⟨⟨⟨⟨⟨⟨⟨h1, h2⟩, h3⟩, h4⟩, h5⟩, h6⟩, h7⟩, h8⟩ := h
  exact ⟨⟨h1, h2, h3, h4⟩, h5, h6, h7, h8⟩
/-- the fields of each class are no attributes of it -/
def fldB (cs : List ClsT) (K : PySem.W.Frag) : Bool := cs.all fun q => q.flds.all fun x => okN x && decide (PySem.W.findIn K (.ref (He.ga K q.name)) x = some none)
def fldsT (cs : List ClsT) : Nat → List Nat := fun c => match cs.find? fun q => Nat.beq (nid q.name) c with
  | some q => q.flds.map nid
  | none => []
theorem fld_of_b {cs : List ClsT} {K : PySem.W.Frag} (h : fldB cs K = true) : ∀ c Ca x, okN x = true → clT cs K c = some Ca → (fldsT cs c).contains (nid x) = true → NoAttr K Ca x := by
  intro c Ca x hx hc hf
  obtain ⟨q, h1, h2⟩ := Option.map_eq_some_iff.mp hc
  subst h2
  unfold fldsT at hf
  rw [h1] at hf
  have hm : nid x ∈ q.flds.map nid := by simpa using hf
  obtain ⟨y, hy, e⟩ := List.mem_map.mp hm
  have hb := List.all_eq_true.mp (List.all_eq_true.mp h q (List.mem_of_find?_eq_some h1)) y hy
  simp only [Bool.and_eq_true, decide_eq_true_eq] at hb
  obtain rfl := nid_inj hb.1 hx e
  exact hb.2
end Gs
/-! GsErr: error classes of the module. -/
namespace Gs
open PySem PySem.Spec L2
/-- the class object is an own error's, with a dict, under ValueError -/
def oexB (K : PySem.W.Frag) (C : Addr) : Bool := (match K.lookup C with
  | some ⟨.type ty, _, .cls cd, sl⟩ => decide (ty = "type") && (match cd.mro, sl.toList with
    | .ref C1 :: bm, [_, _, _, _, some (.builtin z), _] => decide (C1 = C) && (decide (z = "ValueError.__new__") && (!cd.hasDel && (cd.hasDict && PySem.HandSPX.refsVE bm)))
    | _, _ => false)
  | _ => false) && (decide (PySem.W.findIn K (.ref C) "__setattr__" = some (some (.builtin "object.__setattr__"))) && (decide (PySem.W.subIn K (.ref C) (.type "BaseException") = some true) &&
    (decide (PySem.W.typeIn K (.ref C) = some (.type "type")) && PySem.W.keepIn K (.ref C))))
theorem oex_of_b {K : PySem.W.Frag} {C : Addr} (h : oexB K C = true) : OexC K C := by
  simp only [oexB, Bool.and_eq_true, decide_eq_true_eq] at h
  obtain ⟨h0, h1, h2, h3, h4⟩ := h
  refine ⟨?_, h1, h2, h3, h4⟩
  split at h0
  · rename_i ty dd cd sl ho
    simp only [Bool.and_eq_true, decide_eq_true_eq] at h0
    obtain ⟨rfl, h0⟩ := h0
    split at h0
    · rename_i C1 bm k0 k1 k2 k3 z k5 hm hs
      simp only [Bool.and_eq_true, decide_eq_true_eq, Bool.not_eq_true'] at h0
      obtain ⟨rfl, rfl, hdel, hdict, hr⟩ := h0
      obtain ⟨nm, bs, mro, ns, qn, hd, sn, sub, ab, col, del⟩ := cd
      dsimp only at hm hdel hdict
      subst hm hdel hdict
      have hsl : sl = #[k0, k1, k2, k3, some (.builtin "ValueError.__new__"), k5] := by
        obtain ⟨q⟩ := sl
        simp only at hs
        rw [hs]
      subst hsl
      exact ⟨nm, qn, ns, bs, bm, sn, sub, ab, col, dd, k0, k1, k2, k3, k5, ho, hr⟩
    · cases h0
  · cases h0
end Gs
/-! GsErr2: an error's class whole: its class object, its __init__. -/
namespace Gs
open PySem PySem.Spec L2
/-- an error of the text: its class's name, self, the pairs (field, parameter), the names of __init__ -/
structure ErrT where
  name : Str
  self : Str
  l : List (Str × Str)
  N : List Str
/-- its body is self.f = x, .. -/
def errBody (self : Str) : List Stmt → List (Str × Str) → Bool
  | [], [] => true
  | .Assign [.Attribute (.Name s _) f _] (.Name x _) _ :: r, (g, y) :: l => decide (s = self) && (decide (f = g) && (decide (x = y) && errBody self r l))
  | _, _ => false
theorem errB_of {self : Str} : ∀ {b : List Stmt} {l : List (Str × Str)}, errBody self b l = true → ErrB self b l
  | [], l, h => by
    cases l with
    | nil => exact .nil
    | cons _ _ => simp [errBody] at h
  | s :: r, l, h => by
    unfold errBody at h
    split at h
    · rename_i e; cases e
    · rename_i s' p1 f p2 x p3 p4 r' g y l' e1
      cases e1
      simp only [Bool.and_eq_true, decide_eq_true_eq] at h
      obtain ⟨rfl, rfl, rfl, h⟩ := h
      exact .cons (errB_of h)
    · cases h
def simpleB (p : Arguments) (ps : List Str) : Bool := p.posonlyargs.isEmpty && (p.kwonlyargs.isEmpty && (p.vararg.isNone && (p.kwarg.isNone && decide (p.args.map (·.arg) = ps))))
theorem simple_of {p : Arguments} {ps : List Str} (h : simpleB p ps = true) : Simple p ps := by
  simp only [simpleB, Bool.and_eq_true, List.isEmpty_iff, Option.isNone_iff_eq_none, decide_eq_true_eq] at h
  exact ⟨h.1, h.2.1, h.2.2.1, h.2.2.2.1, h.2.2.2.2⟩
def scopeB (N ps : List Str) (sc : Scope) : Bool := (match sc.kind with | .function => true | _ => false) && (!sc.isCoroutine && (!sc.isGenerator && (decide N.Nodup && (decide (N.take ps.length = ps) &&
  ((ps.all fun x => decide (sc.names.lookup x = some .local) || decide (sc.names.lookup x = some .cell)) && (sc.names.all fun y => match y.2 with | .free => false | _ => true))))))
theorem scope_of {N ps : List Str} {sc : Scope} (h : scopeB N ps sc = true) : FnScope N ps sc := by
  simp only [scopeB, Bool.and_eq_true, decide_eq_true_eq, Bool.not_eq_true'] at h
  obtain ⟨h1, h2, h3, h4, h5, h6, h7⟩ := h
  refine ⟨?_, h2, h3, h4, h5, fun x hx => ?_, fun y hy e => ?_⟩
  · split at h1
    · assumption
    · cases h1
  · have := List.all_eq_true.mp h6 x hx
    simpa using this
  · have := List.all_eq_true.mp h7 y hy
    rw [e] at this
    cases this
end Gs
/-! GsErr3: ErrD from tests and the def's fact. -/
namespace Gs
open PySem PySem.Spec L2
/-- what is asked of an error's class -/
def errKB (K : PySem.W.Frag) (C : Addr) (fs : List Str) : Bool := oexB K C && (L2.xfB K C && ((fs.all fun f => okN f && decide (PySem.W.findIn K (.ref C) f = some none)) &&
  (decide (PySem.W.findIn K (.ref C) "__init__" = some (some (.ref (He.ma K C "__init__")))) && decide (PySem.W.typeIn K (.ref (He.ma K C "__init__")) = some (.type "function")))))
def errTB (q : ErrT) (params : Arguments) (body : List Stmt) (scope : Scope) : Bool := errBody q.self body q.l && (simpleB params (q.self :: q.l.map (·.2)) && (scopeB q.N (q.self :: q.l.map (·.2)) scope &&
  (okN q.self && ((q.l.all fun r => okN r.2) && (!q.l.isEmpty && Nat.ble q.l.length 900)))))
theorem errD_of {V : Wd} {q : ErrT} {c : Nat} {C : Addr} {x qual : Str} {params : Arguments} {body : List Stmt} {scope : Scope} {fd : FuncData} (hc : V.T.cl c = some C) (hk : errKB V.K C (q.l.map (·.1)) = true) (ht : errTB q params body scope = true) (F : FunD V.K x qual params body scope [] [] (He.ma V.K C "__init__") fd) :
    ErrD V c C ((q.l.map (·.1)).map nid) := by
  simp only [errKB, Bool.and_eq_true, decide_eq_true_eq] at hk
  obtain ⟨k1, k2, k3, k4, k5⟩ := hk
  simp only [errTB, Bool.and_eq_true, Bool.not_eq_true'] at ht
  obtain ⟨t1, t2, t3, t4, t5, t6, t7⟩ := ht
  have hf : ∀ f ∈ q.l.map (·.1), okN f = true ∧ PySem.W.findIn V.K (.ref C) f = some none := fun f h => by
    have := List.all_eq_true.mp k3 f h
    simpa using this
  have S := scope_of t3
  refine ⟨hc, xfB_ok k2, q.l.map (·.1), He.ma V.K C "__init__", fd, x, qual, q.self, params, body, scope, q.N, q.l, rfl, fun y hy => (hf y hy).1, fun z => ?_, by rw [List.length_map]; exact Nat.le_of_ble_eq_true t7, ⟨oex_of_b k1, fun f h => (hf f h).2⟩, k4, k5, F, S, simple_of t2, t4, fun r hr => List.all_eq_true.mp t5 r hr, errB_of t1, rfl, S.nd⟩
  have : q.l = [] := by simpa using z
  rw [this] at t6
  cases t6
end Gs
/-! GsDef: DefX from tests and the def's fact. -/
namespace Gs
open PySem PySem.Spec L2
/-- a def of the text: slots, parameters, marks, defaults -/
structure DefT where
  N : List Str
  ps : List Str
  marks : List (Nat × Nat × Nat)
  dfl : List (He.Dv × D)
/-- the combinators of a def of the text -/
def DefT.d (t : DefT) (L : List (Nat × Gs.G)) (bs : Bases) (fl : Nat → List Nat) (mp : Nat → Nat → Option (List Nat × List D)) (shw : Nat → Option (List ShwI)) (scope : Scope) (keep : Bool) (body : List Stmt) : Def :=
  ⟨t.ps.length, t.N.length, keep, fun run => cBody ⟨t.N, scope, L, t.marks, run, bs, fl, mp, fun _ => true, shw⟩ body⟩
def dvB : He.Dv × D → Bool
  | (.non, .non) => true
  | (.bl b, .bl c) => b == c
  | (.int i, .int j) => decide (i = j)
  | (.str x, .str y) => decide (x = y)
  | _ => false
theorem dv_rep {T : Tb} {K : PySem.W.Frag} {F : Hp} {m : At} : ∀ {q : He.Dv × D}, dvB q = true → Rep T F m (q.1.v K) q.2
  | (.non, .non), _ => .non
  | (.bl b, .bl c), h => by
    have : b = c := by simpa [dvB] using h
    subst this; exact .bl b
  | (.int i, .int j), h => by
    have : i = j := by simpa [dvB] using h
    subst this; exact .int i
  | (.str x, .str y), h => by
    have : x = y := by simpa [dvB] using h
    subst this; exact .str x
theorem dvs_rep {T : Tb} {K : PySem.W.Frag} {F : Hp} {m : At} : ∀ {l : List (He.Dv × D)}, l.all dvB = true → Reps T F m ((l.map (·.1)).map (He.Dv.v K)) (l.map (·.2))
  | [], _ => .nil
  | q :: l, h => by
    simp only [List.all_cons, Bool.and_eq_true] at h
    exact .cons (dv_rep h.1) (dvs_rep h.2)
def defTB (t : DefT) (params : Arguments) (scope : Scope) : Bool := simpleB params t.ps && (scopeB t.N t.ps scope && ((t.ps.all okN) && t.dfl.all dvB))
theorem defX_of {V : Wd} {L : Law} {t : DefT} {c f : Nat} {fa : Addr} {x qual : Str} {params : Arguments} {body : List Stmt} {scope : Scope} {fd : FuncData} {keep : Bool} (ht : defTB t params scope = true) (htab : L.tab c f = some (t.d L.glob L.bs L.flds L.mp L.shw scope keep body))
    (F : FunD V.K x qual params body scope ((t.dfl.map (·.1)).map (He.Dv.v V.K)) [] fa fd) : DefX V L c f fa (t.ps.map nid) (t.dfl.map (·.2)) := by
  simp only [defTB, Bool.and_eq_true] at ht
  obtain ⟨t1, t2, t3, t4⟩ := ht
  exact ⟨x, qual, params, body, scope, _, fd, t.N, t.ps, _, t.marks, F, scope_of t2, rfl, fun y hy => List.all_eq_true.mp t3 y hy, simple_of t1, fun F m => dvs_rep t4, htab, by simp [DefT.d], rfl, fun run => rfl⟩
end Gs
/-! GsTab: a name of the table by its number. -/
namespace Gs
open PySem PySem.Spec L2
/-- the names of the module, as the text has them: a table of names with what they are -/
abbrev NamT := List (Str × Gs.G)
def globOf (l : NamT) : List (Nat × Gs.G) := l.map fun q => (nid q.1, q.2)
theorem glob_mem : ∀ {l : NamT} {x : Str} {g : Gs.G}, (∀ q ∈ l, okN q.1 = true) → okN x = true → (globOf l).lookup (nid x) = some g → (x, g) ∈ l
  | [], x, g, _, _, h => by simp [globOf] at h
  | (y, a) :: r, x, g, ok, hx, h => by
    unfold globOf at h
    rw [List.map_cons, List.lookup_cons] at h
    by_cases e : nid x = nid y
    · have hy := ok (y, a) (by simp)
      obtain rfl := nid_inj hx hy e
      simp at h
      subst h
      simp
    · have hb : (nid x == nid y) = false := by simpa using e
      rw [hb] at h
      exact List.mem_cons_of_mem _ (glob_mem (fun q hq => ok q (List.mem_cons_of_mem _ hq)) hx h)
/-- what is asked of the names: constants, built-ins -/
def namB (K : PySem.W.Frag) (l : NamT) : Bool := l.all fun q => okN q.1 && (match q.2 with
  | .con d => conB K q.1 d
  | .blt => (He.Fa.free q.1).ok K
  | .err _ => (He.Fa.glo q.1).ok K && decide (PySem.W.subIn K (.ref (He.ga K q.1)) (.type "BaseException") = some true)
  | .bare => (He.Fa.glo q.1).ok K && decide (PySem.W.subIn K (.ref (He.ga K q.1)) (.type "BaseException") = some true)
  | _ => (He.Fa.glo q.1).ok K)
/-- the module, from the tests -/
theorem mdl_of {K : PySem.W.Frag} {h : Heap} {mg : Str → Option Value} {l : NamT} {cs : List ClsT} {bs : Bases} {T : Tb} {C : Cxt} (hT : T.K = K) (hcl : T.cl = clT cs K) (X : K.In h) (G : h.Ns mainGlobals mg) (hg : C.glob = globOf l) (hb : C.bs = bs)
    (hn : namB K l = true) (hc : ∀ q ∈ l, (∀ d, q.2 ≠ .con d) → (∀ ps dfl, q.2 ≠ .fn ps dfl) → q.2 ≠ .blt → ∃ r ∈ cs, r.name = q.1) (hcs : ∀ r ∈ cs, okN r.name = true) (kb : kitB cs bs K = true) (eb : exmB cs bs K = true) : Mdl C K mg T := by
  have each : ∀ q ∈ l, okN q.1 = true ∧ (match q.2 with
    | .con d => conB K q.1 d
    | .blt => (He.Fa.free q.1).ok K
    | .err _ => (He.Fa.glo q.1).ok K && decide (PySem.W.subIn K (.ref (He.ga K q.1)) (.type "BaseException") = some true)
    | .bare => (He.Fa.glo q.1).ok K && decide (PySem.W.subIn K (.ref (He.ga K q.1)) (.type "BaseException") = some true)
    | _ => (He.Fa.glo q.1).ok K) = true := fun q hq => by
    have := List.all_eq_true.mp hn q hq
    rw [Bool.and_eq_true] at this
    exact this
  have ok : ∀ q ∈ l, okN q.1 = true := fun q hq => (each q hq).1
  have clx : ∀ {x : Str} {g : Gs.G}, okN x = true → (x, g) ∈ l → (∀ d, g ≠ .con d) → (∀ ps dfl, g ≠ .fn ps dfl) → g ≠ .blt → T.cl (nid x) = some (He.ga K x) := fun {x g} hx hm h1 h2 h3 => by
    obtain ⟨r, hr, er⟩ := hc (x, g) hm h1 h2 h3
    rw [hcl]
    unfold clT
    cases q : cs.find? fun q => Nat.beq (nid q.name) (nid x) with
    | none =>
      have := List.find?_eq_none.mp q r hr
      rw [er] at this
      exact absurd (Nat.beq_refl _) this
    | some s =>
      have e1 : Nat.beq (nid s.name) (nid x) = true := List.find?_some (p := fun q : ClsT => Nat.beq (nid q.name) (nid x)) q
      have e2 : s.name = x := nid_inj (hcs s (List.mem_of_find?_eq_some q)) hx (Nat.eq_of_beq_eq_true e1)
      simp [e2]
  refine ⟨fun x d hx hd => ?_, fun x hx hd => ?_, fun x g hx hd h1 h2 h3 => ?_, ?_, ?_, fun x g hx hd h4 D hD => ?_⟩
  · rw [hg] at hd
    exact con_of_b hT X G (each _ (glob_mem ok hx hd)).2
  · rw [hg] at hd
    exact He.free_ok X G (each _ (glob_mem ok hx hd)).2
  · rw [hg] at hd
    have hm := glob_mem ok hx hd
    have hgl : (He.Fa.glo x).ok K = true := by
      have := (each _ hm).2
      cases g with
      | con d => exact absurd rfl (h1 d)
      | fn ps dfl => exact absurd rfl (h2 ps dfl)
      | blt => exact absurd rfl h3
      | err ps => exact (Bool.and_eq_true_iff.mp this).1
      | bare => exact (Bool.and_eq_true_iff.mp this).1
      | cls _ _ _ => exact this
    exact ⟨He.ga K x, clx hx hm h1 h2 h3, He.glo_ok X G hgl⟩
  · rw [hcl, hb]; exact kit_of_b kb
  · rw [hcl, hb]; exact exm_of_b eb
  · rw [hg] at hd
    have hm := glob_mem ok hx hd
    have := (each _ hm).2
    rcases h4 with ⟨ps, rfl⟩ | rfl
    · rw [clx hx hm (by simp) (by simp) (by simp)] at hD
      cases hD
      exact of_decide_eq_true (Bool.and_eq_true_iff.mp this).2
    · rw [clx hx hm (by simp) (by simp) (by simp)] at hD
      cases hD
      exact of_decide_eq_true (Bool.and_eq_true_iff.mp this).2
end Gs
/-! GsAll: a law's tables from its text, and where it stands, from tests. -/
namespace Gs
open PySem PySem.Spec L2
/-- a def of the text: its class, its name, its statement, how it is compiled -/
structure DefQ where
  cls : Option Str
  name : Str
  t : DefT
  st : Stmt
def DefQ.qual (q : DefQ) : Str := match q.cls with
  | none => q.name
  | some c => c ++ (PySem.Str.ofString ".") ++ q.name
def DefQ.c (q : DefQ) : Nat := match q.cls with
  | none => 0
  | some c => nid c
def DefQ.f (q : DefQ) : Nat := nid q.name
def DefQ.ps (q : DefQ) : List Nat := q.t.ps.map nid
def DefQ.dfl (q : DefQ) : List D := q.t.dfl.map (·.2)
def DefQ.at_ (q : DefQ) : Str × Option Str := match q.cls with
  | none => (q.name, none)
  | some c => (c, some q.name)
def DefQ.dd (q : DefQ) : He.DefD := ⟨q.at_, q.name, q.qual, defArgs q.st, defBody q.st, defScope q.st, q.t.dfl.map (·.1), []⟩
structure ErrQ where
  t : ErrT
  st : Stmt
def ErrQ.dd (q : ErrQ) : He.DefD := ⟨(q.t.name, some "__init__"), "__init__", q.t.name ++ (PySem.Str.ofString ".__init__"), defArgs q.st, defBody q.st, defScope q.st, [], []⟩
/-- a law's text -/
structure Spc where
  defs : List DefQ
  errs : List ErrQ
  bare : List Str
  own : List (ClsT × Bool)
  blt : List Str
  con : List (Str × D)
  bs : List (Str × List Str)
  shw : List Str
def Spc.cs (S : Spc) : List ClsT := S.own.map (·.1) ++ (S.errs.map fun e => ⟨e.t.name, []⟩) ++ S.bare.map fun x => ⟨x, []⟩
def Spc.bsN (S : Spc) : Bases := fun c => ((S.bs.map fun q => (nid q.1, q.2.map nid)).lookup c).getD []
def Spc.findD (S : Spc) (c : Option Str) (x : Str) : Option DefQ := S.defs.find? fun q => decide (q.cls = c) && decide (q.name = x)
def Spc.nam (S : Spc) : NamT :=
  (S.con.map fun q => (q.1, Gs.G.con q.2)) ++ (S.blt.map fun x => (x, Gs.G.blt)) ++ (S.errs.map fun e => (e.t.name, Gs.G.err ((e.t.l.map (·.1)).map nid))) ++ (S.bare.map fun x => (x, Gs.G.bare)) ++
  (S.own.filterMap fun o => (S.findD (some o.1.name) "__init__").map fun q => (o.1.name, Gs.G.cls q.ps q.dfl o.2)) ++
  (S.defs.filterMap fun q => match q.cls with
    | none => some (q.name, Gs.G.fn q.ps q.dfl)
    | some _ => none)
def Spc.glob (S : Spc) : List (Nat × Gs.G) := globOf S.nam
def Spc.mp (S : Spc) : Nat → Nat → Option (List Nat × List D) := fun c k => (S.defs.find? fun q => q.cls.isSome && Nat.beq q.c c && Nat.beq q.f k).map fun q => (q.ps, q.dfl)
/-- the defs that tell a caught error -/
def DefQ.shw (q : DefQ) : Option (Str × Str × List ShwI) := match q.t.ps with
  | [ev] => (shwB ev (defBody q.st)).map fun r => (ev, r)
  | _ => none
def Spc.shwT (S : Spc) : Nat → Option (List ShwI) := fun f => (S.defs.find? fun q => q.cls.isNone && (S.shw.any fun x => decide (x = q.name)) && Nat.beq (nid q.name) f).bind fun q => q.shw.map fun r => r.2.2
def Spc.cd (S : Spc) (q : DefQ) : Def := q.t.d S.glob S.bsN (fldsT S.cs) S.mp S.shwT (defScope q.st) true (defBody q.st)
def Spc.tab (S : Spc) : Nat → Nat → Option Def := fun c f => (S.defs.find? fun q => Nat.beq q.c c && Nat.beq q.f f).map S.cd
def Spc.law (S : Spc) : Law := ⟨S.glob, S.bsN, fldsT S.cs, S.mp, S.tab, S.shwT⟩
def Spc.fn (S : Spc) : List He.DefD := S.defs.map DefQ.dd ++ S.errs.map ErrQ.dd
/-- tests without the written part -/
def keysB : List (Nat × Nat) → Bool
  | [] => true
  | k :: r => (r.all fun j => !(Nat.beq k.1 j.1 && Nat.beq k.2 j.2)) && keysB r
def DefQ.shwOk (S : Spc) (q : DefQ) : Bool := match q.shw with
  | some (ev, sh, l) => Nat.blt l.length 900 && (scopeB [ev, sh] [ev] (defScope q.st) && (decide ((defScope q.st).names.lookup sh = some .local) && (simpleB (defArgs q.st) [ev] && (okN ev && (okN sh && (decide ((defScope q.st).names.lookup ("isinstance" : Str) = some .globalImplicit) && ((S.blt.any fun x => decide (x = ("isinstance" : Str))) && (q.t.dfl.isEmpty &&
    l.all fun i => decide ((defScope q.st).names.lookup i.cls = some .globalImplicit) && ((S.errs.any fun e => decide (e.t.name = i.cls)) || S.bare.any fun x => decide (x = i.cls))))))))))
  | none => false
def Spc.okB (S : Spc) : Bool := (S.defs.all fun q => !(q.cls.isNone && S.shw.any fun x => decide (x = q.name)) || q.shwOk S) && ((S.cs.all fun c => okN c.name) && (S.defs.all fun q => okN q.name && (match q.cls with
    | none => true
    | some c => okN c && S.own.any fun o => decide (o.1.name = c)) && defTB q.t (defArgs q.st) (defScope q.st)) && keysB (S.defs.map fun q => (q.c, q.f)) &&
  (S.errs.all fun e => errTB e.t (defArgs e.st) (defBody e.st) (defScope e.st)) && !((S.cs.map ClsT.name).any fun c => Nat.beq (nid c) 0))
/-- what isinstance asks of a caught error's class -/
def iszB (K : PySem.W.Frag) (C : Addr) : Bool := (PySem.W.clsIn K C).isSome && (decide (PySem.W.findIn K (.ref C) "__getattribute__" = some (some (.builtin "BaseException.__getattribute__"))) && ((PySem.W.findIn K (.ref C) "__getattr__").isSome && (decide (PySem.W.subIn K (.ref C) (.type "BaseException") = some true) &&
  (decide (PySem.W.findIn K (.ref C) "__class__" = some (some (.builtin "object.__class__"))) && (decide (PySem.W.specialIn K (.builtin "object.__class__") "__get__" = some (some (.builtin "getset_descriptor.__get__"))) && (decide (PySem.W.takesIn K (.builtin "object.__class__") = some true) && decide (PySem.W.mroIn K C (.type "object") = some true)))))))
theorem isz_of {K : PySem.W.Frag} {C : Addr} (h : iszB K C = true) : IszC K C := by
  simp only [iszB, Bool.and_eq_true, decide_eq_true_eq] at h
  obtain ⟨h1, h2, h3, h4, h5, h6, h7, h8⟩ := h
  exact ⟨h1, h2, Option.isSome_iff_exists.mp h3, h4, h5, h6, h7, h8⟩
theorem xfB_of {K : PySem.W.Frag} {C : Addr} (h : XfC K C) : L2.xfB K C = true := by
  simp [L2.xfB, h.ga, h.gg, h.exC, h.hdC]
/-- tests over the written part -/
def Spc.chk (S : Spc) (K : PySem.W.Frag) : Bool := namB K S.nam && (kitB S.cs S.bsN K && (exmB S.cs S.bsN K && (fldB S.cs K &&
  ((S.own.all fun o => insB K (He.ga K o.1.name) && ((He.Fa.mkr o.1.name).ok K)) && ((S.defs.all fun q => match q.cls with
    | none => true
    | some c => (He.Fa.meth c q.name).ok K) && ((S.errs.all fun e => errKB K (He.ga K e.t.name) (e.t.l.map (·.1))) && S.cs.all fun c => !L2.xfB K (He.ga K c.name) || iszB K (He.ga K c.name)))))))
section
variable {S : Spc} {V : Wd} {h : Heap}
theorem find_key : ∀ {l : List DefQ} {q : DefQ}, keysB (l.map fun q => (q.c, q.f)) = true → q ∈ l → (l.find? fun p => Nat.beq p.c q.c && Nat.beq p.f q.f) = some q
  | [], q, _, hm => by cases hm
  | p :: r, q, hk, hm => by
    simp only [List.map_cons, keysB, Bool.and_eq_true] at hk
    rw [List.find?_cons]
    rcases List.mem_cons.mp hm with e | hm
    · subst e
      simp [Nat.beq_eq]
    · cases e : Nat.beq p.c q.c && Nat.beq p.f q.f with
      | true =>
        have := List.all_eq_true.mp hk.1 (q.c, q.f) (List.mem_map.mpr ⟨q, hm, rfl⟩)
        rw [e] at this
        cases this
      | false => exact find_key hk.2 hm
theorem tab_mem (ok : S.okB = true) {q : DefQ} (hm : q ∈ S.defs) : S.tab q.c q.f = some (S.cd q) := by
  simp only [Spc.okB, Bool.and_eq_true] at ok
  unfold Spc.tab
  rw [find_key ok.2.1.1.2 hm]
  rfl
/-- a def as it stands -/
theorem defX_mem (hK : V.K = V.T.K) (ok : S.okB = true) (says : He.SaysD [] S.fn V.K) {q : DefQ} (hm : q ∈ S.defs) : DefX V S.law q.c q.f (He.fAd V.K q.at_) q.ps q.dfl := by
  have hm2 : q.dd ∈ S.fn := List.mem_append_left _ (List.mem_map.mpr ⟨q, hm, rfl⟩)
  obtain ⟨i, hi⟩ := List.getElem?_of_mem hm2
  obtain ⟨fd, F⟩ := says.def_ i hi
  have ok2 := ok
  simp only [Spc.okB, Bool.and_eq_true] at ok2
  have := List.all_eq_true.mp ok2.2.1.1.1.2 q hm
  simp only [Bool.and_eq_true] at this
  exact defX_of (t := q.t) (keep := true) this.2 (tab_mem ok hm) F
theorem findD_some {c : Option Str} {x : Str} {q : DefQ} (e : S.findD c x = some q) : q ∈ S.defs ∧ q.cls = c ∧ q.name = x := by
  unfold Spc.findD at e
  have h1 := List.mem_of_find?_eq_some e
  have h2 := List.find?_some e
  simp only [Bool.and_eq_true, decide_eq_true_eq] at h2
  exact ⟨h1, h2⟩
theorem nam_fn {x : Str} {ps : List Nat} {dfl : List D} (hm : (x, Gs.G.fn ps dfl) ∈ S.nam) : ∃ q ∈ S.defs, q.cls = none ∧ q.name = x ∧ q.ps = ps ∧ q.dfl = dfl := by
  simp only [Spc.nam, List.mem_append, List.mem_map, List.mem_filterMap] at hm
  rcases hm with ((((⟨_, _, e⟩ | ⟨_, _, e⟩) | ⟨_, _, e⟩) | ⟨_, _, e⟩) | ⟨_, _, e⟩) | ⟨q, hq, e⟩
  · cases e
  · cases e
  · cases e
  · cases e
  · obtain ⟨_, _, e⟩ := Option.map_eq_some_iff.mp e
    cases e
  · cases hc : q.cls with
    | none => rw [hc] at e; cases e; exact ⟨q, hq, hc, rfl, rfl, rfl⟩
    | some c => rw [hc] at e; cases e
theorem nam_cls {x : Str} {ps : List Nat} {dfl : List D} {fr : Bool} (hm : (x, Gs.G.cls ps dfl fr) ∈ S.nam) : ∃ o ∈ S.own, o.1.name = x ∧ ∃ q ∈ S.defs, q.cls = some x ∧ q.name = "__init__" ∧ q.ps = ps ∧ q.dfl = dfl := by
  simp only [Spc.nam, List.mem_append, List.mem_map, List.mem_filterMap] at hm
  rcases hm with ((((⟨_, _, e⟩ | ⟨_, _, e⟩) | ⟨_, _, e⟩) | ⟨_, _, e⟩) | ⟨o, ho, e⟩) | ⟨q, hq, e⟩
  · cases e
  · cases e
  · cases e
  · cases e
  · obtain ⟨q, hq, e⟩ := Option.map_eq_some_iff.mp e
    cases e
    obtain ⟨h1, h2, h3⟩ := findD_some hq
    exact ⟨o, ho, rfl, q, h1, h2, h3, rfl, rfl⟩
  · cases hc : q.cls with
    | none => rw [hc] at e; cases e
    | some c => rw [hc] at e; cases e
theorem nam_err {x : Str} {ps : List Nat} (hm : (x, Gs.G.err ps) ∈ S.nam) : ∃ e ∈ S.errs, e.t.name = x ∧ (e.t.l.map (·.1)).map nid = ps := by
  simp only [Spc.nam, List.mem_append, List.mem_map, List.mem_filterMap] at hm
  rcases hm with ((((⟨_, _, e⟩ | ⟨_, _, e⟩) | ⟨q, hq, e⟩) | ⟨_, _, e⟩) | ⟨o, ho, e⟩) | ⟨q, hq, e⟩
  · cases e
  · cases e
  · cases e; exact ⟨q, hq, rfl, rfl⟩
  · cases e
  · obtain ⟨q, hq, e⟩ := Option.map_eq_some_iff.mp e
    cases e
  · cases hc : q.cls with
    | none => rw [hc] at e; cases e
    | some c => rw [hc] at e; cases e
theorem nam_cl {x : Str} {g : Gs.G} (hm : (x, g) ∈ S.nam) (h1 : ∀ d, g ≠ .con d) (h2 : ∀ ps dfl, g ≠ .fn ps dfl) (h3 : g ≠ .blt) : ∃ r ∈ S.cs, r.name = x := by
  simp only [Spc.nam, List.mem_append, List.mem_map, List.mem_filterMap] at hm
  rcases hm with ((((⟨_, _, e⟩ | ⟨_, _, e⟩) | ⟨q, hq, e⟩) | ⟨z, hz, e⟩) | ⟨o, ho, e⟩) | ⟨q, hq, e⟩
  · cases e; exact absurd rfl (h1 _)
  · cases e; exact absurd rfl h3
  · cases e; exact ⟨_, List.mem_append_left _ (List.mem_append_right _ (List.mem_map.mpr ⟨q, hq, rfl⟩)), rfl⟩
  · cases e; exact ⟨_, List.mem_append_right _ (List.mem_map.mpr ⟨_, hz, rfl⟩), rfl⟩
  · obtain ⟨q, hq, e⟩ := Option.map_eq_some_iff.mp e
    cases e
    exact ⟨_, List.mem_append_left _ (List.mem_append_left _ (List.mem_map.mpr ⟨o, ho, rfl⟩)), rfl⟩
  · cases hc : q.cls with
    | none => rw [hc] at e; cases e; exact absurd rfl (h2 _ _)
    | some c => rw [hc] at e; cases e
/-- a class of the text, by its number -/
theorem cl_of (hcs : ∀ r ∈ S.cs, okN r.name = true) {K : PySem.W.Frag} {x : Str} {r : ClsT} (hr : r ∈ S.cs) (e : r.name = x) : clT S.cs K (nid x) = some (He.ga K x) := by
  unfold clT
  cases q : S.cs.find? fun q => Nat.beq (nid q.name) (nid x) with
  | none =>
    have := List.find?_eq_none.mp q r hr
    rw [e] at this
    exact absurd (Nat.beq_refl _) this
  | some s =>
    have e1 : Nat.beq (nid s.name) (nid x) = true := List.find?_some (p := fun q : ClsT => Nat.beq (nid q.name) (nid x)) q
    have e2 : s.name = x := nid_inj (hcs s (List.mem_of_find?_eq_some q)) (e ▸ hcs r hr) (Nat.eq_of_beq_eq_true e1)
    simp [e2]
theorem lawOk_of (hK : V.T = ⟨V.K, clT S.cs V.K, fun _ => none, fun _ => none⟩) (X : V.K.In h) (G : h.Ns mainGlobals V.mg) (ok : S.okB = true) (says : He.SaysD [] S.fn V.K) (ck : S.chk V.K = true) : LawOk V S.law := by
  have hTK : V.T.K = V.K := by rw [hK]
  have hcl : V.T.cl = clT S.cs V.K := by rw [hK]
  have ok2 := ok
  simp only [Spc.okB, Bool.and_eq_true, Bool.not_eq_true'] at ok2
  obtain ⟨o0, ⟨⟨⟨o1, o2⟩, o3⟩, o4⟩, o5⟩ := ok2
  have hcs : ∀ r ∈ S.cs, okN r.name = true := fun r hr => List.all_eq_true.mp o1 r hr
  simp only [Spc.chk, Bool.and_eq_true] at ck
  obtain ⟨k1, k2, k3, k4, k5, k6, k7, k8⟩ := ck
  have okn : ∀ q ∈ S.nam, okN q.1 = true := fun q hq => by
    have := List.all_eq_true.mp k1 q hq
    simp only [Bool.and_eq_true] at this
    exact this.1
  have glo : ∀ {x : Str} {g : Gs.G}, (x, g) ∈ S.nam → (∀ d, g ≠ .con d) → g ≠ .blt → V.mg x = some (.ref (He.ga V.K x)) := fun {x g} hm h1 h2 => by
    have := List.all_eq_true.mp k1 _ hm
    simp only [Bool.and_eq_true] at this
    refine He.glo_ok X G ?_
    cases g with
    | con d => exact absurd rfl (h1 d)
    | blt => exact absurd rfl h2
    | err ps => exact (Bool.and_eq_true_iff.mp this.2).1
    | bare => exact (Bool.and_eq_true_iff.mp this.2).1
    | _ => exact this.2
  have def_ := fun {q : DefQ} (hm : q ∈ S.defs) => defX_mem (V := V) hTK.symm ok says hm
  refine ⟨hTK, fun a => by rw [hK], fun N sc marks run => mdl_of hTK hcl X G rfl rfl k1 (fun q hq h1 h2 h3 => nam_cl (x := q.1) hq h1 h2 h3) hcs k2 k3, fun c Ca x hx hc hf => ?_, fun x ps dfl hx hg => ?_, fun x ps dfl fr hx hg => ?_, fun k c Ca ps dfl hk hmp hc => ?_, fun x ps hx hg => ?_, fun f l hf hl => ?_⟩
  · rw [hcl] at hc
    exact fld_of_b k4 c Ca x hx hc hf
  · have hm := glob_mem okn hx hg
    obtain ⟨q, hq, h1, rfl, rfl, rfl⟩ := nam_fn hm
    refine ⟨_, glo hm (fun _ => by simp) (by simp), ?_⟩
    have := def_ hq
    have e1 : q.c = 0 := by unfold DefQ.c; rw [h1]
    have e2 : q.at_ = (q.name, none) := by unfold DefQ.at_; rw [h1]
    rw [e1, e2] at this
    exact this
  · have hm := glob_mem okn hx hg
    obtain ⟨o, ho, eo, q, hq, h1, h2, rfl, rfl⟩ := nam_cls hm
    have := def_ hq
    have e1 : q.c = nid x := by unfold DefQ.c; rw [h1]
    have e2 : q.at_ = (x, some ("__init__" : Str)) := by unfold DefQ.at_; rw [h1, h2]
    have e3 : q.f = m_init := by
      unfold DefQ.f; rw [h2]; decide +kernel
    rw [e1, e2, e3] at this
    have hmem : o.1 ∈ S.cs := List.mem_append_left _ (List.mem_append_left _ (List.mem_map.mpr ⟨o, ho, rfl⟩))
    have k5' := List.all_eq_true.mp k5 o ho
    simp only [Bool.and_eq_true] at k5'
    subst eo
    refine ⟨_, _, glo hm (fun _ => by simp) (by simp), by rw [hcl]; exact cl_of hcs hmem rfl, He.mkr_ok k5'.2, by rw [hTK]; exact ins_of_b k5'.1, this⟩
  · obtain ⟨q, hq, e⟩ := Option.map_eq_some_iff.mp hmp
    cases e
    have hm := List.mem_of_find?_eq_some hq
    have h2 := List.find?_some hq
    simp only [Bool.and_eq_true] at h2
    obtain ⟨⟨h3, h4⟩, h5⟩ := h2
    cases hqc : q.cls with
    | none => rw [hqc] at h3; cases h3
    | some cx =>
      have e1 : q.c = nid cx := by unfold DefQ.c; rw [hqc]
      have oq := List.all_eq_true.mp o2 q hm
      simp only [hqc, Bool.and_eq_true] at oq
      have en : q.name = k := nid_inj oq.1.1 hk (Nat.eq_of_beq_eq_true h5)
      have ec : c = nid cx := by rw [← e1]; exact (Nat.eq_of_beq_eq_true h4).symm
      obtain ⟨o, ho, eo⟩ := List.any_eq_true.mp oq.1.2.2
      have eo : o.1.name = cx := of_decide_eq_true eo
      have hmem : o.1 ∈ S.cs := List.mem_append_left _ (List.mem_append_left _ (List.mem_map.mpr ⟨o, ho, rfl⟩))
      rw [hcl, ec, cl_of hcs hmem eo] at hc
      cases hc
      have k6' := List.all_eq_true.mp k6 q hm
      simp only [hqc] at k6'
      have := def_ hm
      have e2 : q.at_ = (cx, some k) := by unfold DefQ.at_; rw [hqc, en]
      rw [e1, e2] at this
      subst ec en
      exact ⟨_, He.meth_ok k6', this⟩
  · have hm := glob_mem okn hx hg
    obtain ⟨e, he, rfl, rfl⟩ := nam_err hm
    have hm2 : e.dd ∈ S.fn := List.mem_append_right _ (List.mem_map.mpr ⟨e, he, rfl⟩)
    obtain ⟨i, hi⟩ := List.getElem?_of_mem hm2
    obtain ⟨fd, F⟩ := says.def_ i hi
    have hmem : (⟨e.t.name, []⟩ : ClsT) ∈ S.cs := List.mem_append_left _ (List.mem_append_right _ (List.mem_map.mpr ⟨e, he, rfl⟩))
    exact ⟨_, glo hm (fun _ => by simp) (by simp), errD_of (by rw [hcl]; exact cl_of hcs hmem rfl) (List.all_eq_true.mp k7 e he) (List.all_eq_true.mp o4 e he) F⟩
  · obtain ⟨q, hq, hr⟩ := Option.bind_eq_some_iff.mp hl
    obtain ⟨r, hs, rfl⟩ := Option.map_eq_some_iff.mp hr
    have hm := List.mem_of_find?_eq_some hq
    have h2 := List.find?_some hq
    simp only [Bool.and_eq_true] at h2
    have hqc : q.cls = none := by simpa using h2.1.1
    have o0' := List.all_eq_true.mp o0 q hm
    rw [h2.1.1, h2.1.2] at o0'
    have o0' : q.shwOk S = true := by simpa using o0'
    have oq := List.all_eq_true.mp o2 q hm
    simp only [Bool.and_eq_true] at oq
    have en : q.name = f := nid_inj oq.1.1 hf (Nat.eq_of_beq_eq_true h2.2)
    obtain ⟨ev, sh, l⟩ := r
    unfold DefQ.shwOk at o0'
    rw [hs] at o0'
    simp only [Bool.and_eq_true, decide_eq_true_eq, List.isEmpty_iff] at o0'
    obtain ⟨t1, t2, t3, t4, t5, t6, t7, t8, t9, t10⟩ := o0'
    have hn : (q.name, Gs.G.fn q.ps q.dfl) ∈ S.nam := by
      simp only [Spc.nam, List.mem_append, List.mem_map, List.mem_filterMap]
      exact .inr ⟨q, hm, by rw [hqc]⟩
    have hg := glo hn (fun _ => by simp) (by simp)
    have hm2 : q.dd ∈ S.fn := List.mem_append_left _ (List.mem_map.mpr ⟨q, hm, rfl⟩)
    obtain ⟨i, hi⟩ := List.getElem?_of_mem hm2
    obtain ⟨fd, F⟩ := says.def_ i hi
    have e0 : He.fAd V.K q.dd.at_ = He.ga V.K q.name := by
      show He.fAd V.K q.at_ = _
      unfold DefQ.at_; rw [hqc]; rfl
    have e1 : q.dd.dvs V.K = [] := by
      show (q.t.dfl.map (·.1)).map _ = _
      rw [t9]; rfl
    rw [e0, e1] at F
    have hsb : shwB ev (defBody q.st) = some (sh, l) := by
      unfold DefQ.shw at hs
      split at hs
      · obtain ⟨r, h3, h4⟩ := Option.map_eq_some_iff.mp hs
        cases h4
        exact h3
      · cases hs
    have hbi : V.mg "isinstance" = none := by
      obtain ⟨x, hx, ex⟩ := List.any_eq_true.mp t8
      have ex : x = ("isinstance" : Str) := of_decide_eq_true ex
      subst ex
      have hb : (("isinstance" : Str), Gs.G.blt) ∈ S.nam := by
        simp only [Spc.nam, List.mem_append, List.mem_map, List.mem_filterMap]
        exact .inl (.inl (.inl (.inl (.inr ⟨_, hx, rfl⟩))))
      have := List.all_eq_true.mp k1 _ hb
      simp only [Bool.and_eq_true] at this
      exact He.free_ok X G this.2
    refine ⟨_, by rw [← en]; exact hg, ev, sh, q.name, q.qual, defArgs q.st, defBody q.st, defScope q.st, fd, F, hsb, Nat.blt_eq.mp t1, scope_of t2, t3, simple_of t4, t5, t6, t7, hbi, fun i hi => ?_, fun c Ca hc hx => ?_, fun c Ca d Da hc hd => ?_⟩
    · have := List.all_eq_true.mp t10 i hi
      simp only [Bool.and_eq_true, decide_eq_true_eq, Bool.or_eq_true] at this
      refine ⟨this.1, He.ga V.K i.cls, ?_, ?_⟩
      · rcases this.2 with h | h
        · obtain ⟨e, he, ee⟩ := List.any_eq_true.mp h
          have ee : e.t.name = i.cls := of_decide_eq_true ee
          rw [← ee]
          refine glo (g := Gs.G.err ((e.t.l.map (·.1)).map nid)) ?_ (fun _ => by simp) (by simp)
          simp only [Spc.nam, List.mem_append, List.mem_map, List.mem_filterMap]
          exact .inl (.inl (.inl (.inr ⟨e, he, rfl⟩)))
        · obtain ⟨x, hx, ex⟩ := List.any_eq_true.mp h
          have ex : x = i.cls := of_decide_eq_true ex
          rw [← ex]
          refine glo (g := Gs.G.bare) ?_ (fun _ => by simp) (by simp)
          simp only [Spc.nam, List.mem_append, List.mem_map, List.mem_filterMap]
          exact .inl (.inl (.inr ⟨x, hx, rfl⟩))
      · rw [hcl]
        rcases this.2 with h | h
        · obtain ⟨e, he, ee⟩ := List.any_eq_true.mp h
          have ee : e.t.name = i.cls := of_decide_eq_true ee
          exact cl_of hcs (r := ⟨e.t.name, []⟩) (List.mem_append_left _ (List.mem_append_right _ (List.mem_map.mpr ⟨e, he, rfl⟩))) ee
        · obtain ⟨x, hx, ex⟩ := List.any_eq_true.mp h
          have ex : x = i.cls := of_decide_eq_true ex
          exact cl_of hcs (r := ⟨x, []⟩) (List.mem_append_right _ (List.mem_map.mpr ⟨x, hx, rfl⟩)) ex
    · rw [hcl] at hc
      obtain ⟨q', hq', _, rfl⟩ := clT_some hc
      have := List.all_eq_true.mp k8 q' hq'
      rw [xfB_of hx] at this
      exact isz_of (by simpa using this)
    · rw [hcl] at hc hd
      obtain ⟨q1, h1, e1, rfl⟩ := clT_some hc
      obtain ⟨q2, h2, e2, rfl⟩ := clT_some hd
      have := List.all_eq_true.mp k2 q1 h1
      simp only [Bool.and_eq_true] at this
      have := of_decide_eq_true (List.all_eq_true.mp this.2 q2 h2)
      rw [e1, e2] at this
      exact this
end
end Gs
/-! GsEnd: a law's end from its run. -/
namespace Gs
open PySem PySem.Spec PyProof.Rows L2
theorem simple_uniq {p : Arguments} {a b : List Str} (h : Simple p a) (g : Simple p b) : a = b := by
  obtain ⟨_, _, _, _, h⟩ := h
  obtain ⟨_, _, _, _, g⟩ := g
  exact h.symm.trans g
def Spc.says (S : Spc) (h : Heap) : Prop := ∃ K : PySem.W.Frag, K.In h ∧ He.SaysD [] S.fn K ∧ S.chk K = true
theorem law_F {S : Spc} {P : Program} (ok : S.okB = true) {q : DefQ} (hq : q ∈ S.defs) (hc : q.cls = none) (hnm : q.name = "law") (hps : q.t.ps = [("script" : Str)]) (hdf : q.t.dfl = []) {n : Nat}
    (run : ∀ ns : List Int, ns.length ≤ 63 → (∀ z ∈ ns, Builtin.Int.intBits z ≤ 1048576) → ∃ μ, runs S.tab n 0 (nid "law") [.rol (ns.map D.int)] ⟨0, []⟩ = .ok (.bl true) μ)
    (w : World) (mg : Str → Option Value) (fa : Addr) (h : Heap) (Y : S.says h) (G : h.Ns mainGlobals mg) (hm : mg "law" = some (.ref fa)) :
      ∃ (K : PySem.W.Frag) (fd : FuncData) (sp : Sp), K.In h ∧ (∀ (s : Shared) (u : Value), BindsTo s fd ⟨[u], []⟩ [("script", u)]) ∧
        (∀ (H : Hp) (a : Addr) (ns : List Int), ns.length ≤ 63 → (∀ z ∈ ns, Builtin.Int.intBits z ≤ 1048576) → Only H → SqL K H a (ns.map V.int) → sp [.ref a] H (fun v _ => v = .bl true) fun _ _ _ => False) ∧
        ∀ base : Heap, K.In base → base.Ns mainGlobals mg → FnOk P w K mg base (L2.CX P w) (2 * n + 1) fa fd ["script"] sp := by
  obtain ⟨K, KX, says, ck⟩ := Y
  let V : Heap → Wd := fun base => ⟨P, w, K, mg, base, ⟨K, clT S.cs K, fun _ => none, fun _ => none⟩⟩
  have okL : ∀ base, LawOk (V base) S.law := fun base => lawOk_of rfl KX G ok says ck
  have hm2 : q.dd ∈ S.fn := List.mem_append_left _ (List.mem_map.mpr ⟨q, hq, rfl⟩)
  obtain ⟨i, hi⟩ := List.getElem?_of_mem hm2
  obtain ⟨fd, F⟩ := says.def_ i hi
  have e0 : He.fAd K q.dd.at_ = fa := by
    have e1 : q.dd.at_ = (("law" : Str), none) := by
      show q.at_ = _
      unfold DefQ.at_; rw [hc, hnm]
    rw [e1]
    have e2 : (("law" : Str), Gs.G.fn q.ps q.dfl) ∈ S.nam := by
      simp only [Spc.nam, List.mem_append, List.mem_map, List.mem_filterMap]
      exact .inr ⟨q, hq, by rw [hc, hnm]⟩
    have k1 : namB K S.nam = true := by
      simp only [Spc.chk, Bool.and_eq_true] at ck
      exact ck.1
    have k2 := List.all_eq_true.mp k1 _ e2
    simp only [Bool.and_eq_true] at k2
    have := He.glo_ok KX G (x := "law") k2.2
    rw [hm] at this
    cases this
    rfl
  rw [e0] at F
  obtain ⟨oc, od, dV, kV, doc, pm, an, cdv, ct, osl, efd, lk, hcd, hD, _⟩ := F.ex
  have ok2 := ok
  simp only [Spc.okB, Bool.and_eq_true] at ok2
  have ot := List.all_eq_true.mp ok2.2.1.1.1.2 q hq
  simp only [Bool.and_eq_true] at ot
  have ot := ot.2
  simp only [defTB, Bool.and_eq_true] at ot
  have Si : Simple fd.params ["script"] := by
    have := simple_of ot.1
    rw [hps] at this
    rw [efd]; exact this
  refine ⟨K, fd, spD (V h).T 1 (runs S.tab n 0 (nid "law")), KX, fun s u => ?_, fun H a ns hl hb hO hS => law_sp rfl hO hS (run ns hl hb), fun base KB GB => ?_⟩
  · have hdn : fd.defaults = .none := by
      have e3 : q.dd.dvs K = [] := by
        show (q.t.dfl.map (·.1)).map _ = _
        rw [hdf]; rfl
      rw [e3] at hD
      rw [efd]
      exact dfl_none hD
    obtain ⟨k, e1, e2⟩ := bind_simple Si (us := [u]) (kw := []) (its := []) (by simp) (by simp) (by simp) (by simp) (by simp) (fun n hn => by
      have : n = ("script" : Str) := by simpa using hn
      subst this; simp [List.lookup])
    refine BindsTo.of_looks fun M => ?_
    rw [e1, hdn]
    have : seqItems? .none >>= k = k none := rfl
    rw [this]
    refine PySem.W.Looks.of_pure ((e2 none rfl).trans (congrArg _ ?_))
    simp [fillD_lookup, List.lookup]
  · have hx := defX_mem (V := V base) rfl ok says hq
    have hx2 : DefX (V base) S.law 0 (nid "law") fa q.ps q.dfl := by
      have e1 : q.c = 0 := by unfold DefQ.c; rw [hc]
      have e2 : q.f = nid "law" := by unfold DefQ.f; rw [hnm]
      rw [← e1, ← e2, ← e0]
      exact hx
    obtain ⟨⟨fd2, ps', its, dvs, h1, h2, h3, h4, h5, h6, h7, oc2, od2, osl2, lk2⟩, h8⟩ := defs_ok (okL base) n _ _ _ _ _ hx2
    have ee : fd2 = fd := by
      rw [lk] at lk2
      have := Option.some.inj lk2
      injection this with _ _ e3
      injection e3 with e3
      exact e3.symm
    subst ee
    have e5 := simple_uniq h3 Si
    subst e5
    have e6 : q.ps.length = 1 := by unfold DefQ.ps; rw [hps]; rfl
    rw [e6] at h4
    exact h4
end Gs
/-! GsOps: words of the printed bodies. -/
namespace Gs
open PySem
def tIf (t a b : Tst) : Tst := fun ρ => (t ρ).bind fun c => if c then a ρ else b ρ
def iAdd : Mu → D → D → Option D := fun _ x y => match x, y with
  | .int i, .int j => some (.int (i + j))
  | _, _ => none
def iSub : Mu → D → D → Option D := fun _ x y => match x, y with
  | .int i, .int j => some (.int (i - j))
  | _, _ => none
end Gs
/-! GsWp: what follows a part's run. -/
namespace Gs
open PySem
abbrev EK := Nat → List (Nat × D) → Mu → Prop
def noE : EK := fun _ _ _ => False
set_option checkBinderAnnotations false in
def Wp {α : Type} (r : R α) [Q : α → Mu → Prop] [E : EK] : Prop := match r with
  | .ok a m => Q a m
  | .exc c fs m => E c fs m
  | .stuck => False
/-- ways out of a block -/
structure SK where
  nx : Gs.Env → Mu → Prop
  rt : D → Mu → Prop
  bk : Gs.Env → Mu → Prop
  ct : Gs.Env → Mu → Prop
  ex : Nat → List (Nat × D) → Gs.Env → Mu → Prop
set_option checkBinderAnnotations false in
def Ws (r : RS) [K : SK] : Prop := match r with
  | .ok (.nx ρ) m => K.nx ρ m
  | .ok (.rt d) m => K.rt d m
  | .ok (.bk ρ) m => K.bk ρ m
  | .ok (.ct ρ) m => K.ct ρ m
  | .exc c fs ρ m => K.ex c fs ρ m
  | .stuck => False
section
variable {α β : Type} {Q Q' : α → Mu → Prop} {E E' : EK} {K K' : SK} {m : Mu} {ρ : Gs.Env}
theorem Wp.imp {r : R α} (h : @Wp _ r Q E) (f : ∀ a m, Q a m → Q' a m) (g : ∀ c fs m, E c fs m → E' c fs m) : @Wp _ r Q' E' := by
  cases r with
  | ok a m => exact f _ _ h
  | exc c fs m => exact g _ _ _ h
  | stuck => exact h
theorem Wp.mono {r : R α} (h : @Wp _ r Q noE) (f : ∀ a m, Q a m → Q' a m) : @Wp _ r Q' E := h.imp f fun _ _ _ z => z.elim
theorem Ws.imp {r : RS} (h : @Ws r K) (f : ∀ ρ m, K.nx ρ m → K'.nx ρ m) (g : ∀ ρ m, K.rt ρ m → K'.rt ρ m) (f3 : ∀ ρ m, K.bk ρ m → K'.bk ρ m) (f4 : ∀ ρ m, K.ct ρ m → K'.ct ρ m) (f5 : ∀ c fs ρ m, K.ex c fs ρ m → K'.ex c fs ρ m) : @Ws r K' := by
  cases r with
  | ok o m => cases o with
    | nx => exact f _ _ h
    | rt => exact g _ _ h
    | bk => exact f3 _ _ h
    | ct => exact f4 _ _ h
  | exc c fs ρ m => exact f5 _ _ _ _ h
  | stuck => exact h
/-- what holds between two parts -/
theorem Ws.mid {r : RS} (P : Gs.Env → Mu → Prop) (h : @Ws r { K with nx := P }) (k : ∀ ρ m, P ρ m → K.nx ρ m) : @Ws r K := h.imp k (fun _ _ z => z) (fun _ _ z => z) (fun _ _ z => z) fun _ _ _ _ z => z
theorem eq_of_wp {r : R α} {a : α} (h : @Wp _ r (fun b m' => b = a ∧ m' = m) noE) : r = .ok a m := by
  cases r with
  | ok b m' => obtain ⟨rfl, rfl⟩ := h; rfl
  | exc c fs m' => exact h.elim
  | stuck => exact h.elim
theorem exc_of_wp {r : R α} {c : Nat} {fs : List (Nat × D)} (h : @Wp _ r (fun _ _ => False) (fun c' fs' m' => c' = c ∧ fs' = fs ∧ m' = m)) : r = .exc c fs m := by
  cases r with
  | ok b m' => exact h.elim
  | exc c' fs' m' => obtain ⟨rfl, rfl, rfl⟩ := h; rfl
  | stuck => exact h.elim
theorem ok_of_wp {r : R α} {P : α → Mu → Prop} (h : @Wp _ r P noE) : ∃ a m', r = .ok a m' ∧ P a m' := by
  cases r with
  | ok b m' => exact ⟨_, _, rfl, h⟩
  | exc c fs m' => exact h.elim
  | stuck => exact h.elim
@[simp ↓] theorem Wp_ok {a : α} : @Wp _ (.ok a m) Q E = Q a m := (rfl)
@[simp ↓] theorem Wp_exc {c : Nat} {fs : List (Nat × D)} : @Wp _ (.exc c fs m : R α) Q E = E c fs m := (rfl)
@[simp ↓] theorem Wp_stuck : @Wp _ (.stuck : R α) Q E = False := (rfl)
@[simp ↓] theorem Wp_bind {x : M β} {f : β → M α} : @Wp _ (M.bind x f m) Q E = @Wp _ (x m) (fun a m' => @Wp _ (f a m') Q E) E := by
  unfold M.bind Wp
  cases x m <;> rfl
@[simp ↓] theorem Wp_ret {a : α} : @Wp _ (M.ret a m) Q E = Q a m := (rfl)
@[simp ↓] theorem Wp_mstuck : @Wp _ ((M.stuck : M α) m) Q E = False := (rfl)
set_option checkBinderAnnotations false in
def Op {α : Type} (o : Option α) [Q : α → Prop] : Prop := match o with
  | some a => Q a
  | none => False
@[simp ↓] theorem Op_some {Q : α → Prop} {a : α} : @Op _ (some a) Q = Q a := (rfl)
@[simp ↓] theorem Op_none {Q : α → Prop} : @Op _ (none : Option α) Q = False := (rfl)
theorem Op_eq {Q : α → Prop} {o : Option α} {a : α} (h : o = some a) (q : Q a) : @Op _ o Q := by rw [h]; exact q
@[simp ↓] theorem Wp_opt {o : Option α} : @Wp _ (M.opt o m) Q E = @Op _ o (fun a => Q a m) := by
  unfold M.opt Wp Op
  cases o <;> rfl
@[simp ↓] theorem Wp_nox {x : M α} : @Wp _ (M.nox x m) Q E = @Wp _ (x m) Q noE := by
  unfold M.nox Wp
  cases x m <;> rfl
@[simp ↓] theorem Wp_fun {f : Mu → R α} : @Wp _ ((fun m => f m) m) Q E = @Wp _ (f m) Q E := (rfl)
variable {q : D → Mu → Prop}
@[simp ↓] theorem Wp_eC {d : D} : @Wp _ (eC d ρ m) q E = q d m := (rfl)
@[simp ↓] theorem Wp_eV {i : Nat} : @Wp _ (eV i ρ m) q E = @Op _ (ρ[i]?) (fun o => @Op _ o fun d => q (rs m d) m) := by
  unfold eV Wp Op
  cases ρ[i]? with
  | none => rfl
  | some o => cases o <;> rfl
variable {qs : List D → Mu → Prop}
@[simp ↓] theorem Wp_esNil : @Wp _ (esNil ρ m) qs E = qs [] m := (rfl)
@[simp ↓] theorem Wp_esCons {e : Ex} {es : Exs} : @Wp _ (esCons e es ρ m) qs E = @Wp _ (e ρ m) (fun d m => @Wp _ (es ρ m) (fun ds m => qs (d :: ds) m) E) E := by
  unfold esCons
  simp only [Wp_bind, Wp_ret]
@[simp ↓] theorem Wp_e2 {f : Mu → D → D → Option D} {a b : Ex} : @Wp _ (e2 f a b ρ m) q E = @Wp _ (a ρ m) (fun x m => @Wp _ (b ρ m) (fun y m => @Op _ (f m x y) fun d => q d m) E) E := by
  unfold e2
  simp only [Wp_bind, Wp_opt]
@[simp ↓] theorem Wp_e1 {f : Mu → D → Option D} {a : Ex} : @Wp _ (e1 f a ρ m) q E = @Wp _ (a ρ m) (fun x m => @Op _ (f m x) fun d => q d m) E := by
  unfold e1
  simp only [Wp_bind, Wp_opt]
@[simp ↓] theorem Wp_eAnd {a b : Ex} : @Wp _ (eAnd a b ρ m) q E = @Wp _ (a ρ m) (fun x m => @Op _ (asBl x) fun c => @Wp _ (if c then b ρ m else .ok (.bl false) m) q E) E := by
  unfold eAnd
  simp only [Wp_bind, Wp_opt]
  congr 1; funext x m'; congr 1; funext c; cases c <;> rfl
@[simp ↓] theorem Wp_eOr {a b : Ex} : @Wp _ (eOr a b ρ m) q E = @Wp _ (a ρ m) (fun x m => @Op _ (asBl x) fun c => @Wp _ (if c then .ok (.bl true) m else b ρ m) q E) E := by
  unfold eOr
  simp only [Wp_bind, Wp_opt]
  congr 1; funext x m'; congr 1; funext c; cases c <;> rfl
@[simp ↓] theorem Wp_eNot {a : Ex} : @Wp _ (eNot a ρ m) q E = @Wp _ (a ρ m) (fun x m => @Op _ (asBl x) fun c => q (.bl (!c)) m) E := by
  unfold eNot
  simp only [Wp_bind, Wp_opt, Wp_ret]
@[simp] theorem asBl_bl {b : Bool} : asBl (.bl b) = some b := (rfl)
variable {t : Bool → Mu → Prop}
@[simp ↓] theorem Wp_eIf {c : Tst} {a b : Ex} : @Wp _ (eIf c a b ρ m) q E = @Wp _ (c ρ m) (fun k m => @Wp _ (if k then a ρ m else b ρ m) q E) E := by
  unfold eIf
  simp only [Wp_bind]
  congr 1; funext k m'; cases k <;> rfl
@[simp ↓] theorem Wp_tE {e : Ex} : @Wp _ (tE e ρ m) t E = @Wp _ (e ρ m) (fun d m => @Op _ (tru m d) fun b => t b m) E := by
  unfold tE
  simp only [Wp_bind, Wp_opt]
@[simp ↓] theorem Wp_tAnd {a b : Tst} : @Wp _ (tAnd a b ρ m) t E = @Wp _ (a ρ m) (fun c m => @Wp _ (if c then b ρ m else .ok false m) t E) E := by
  unfold tAnd
  simp only [Wp_bind]
  congr 1; funext k m'; cases k <;> rfl
@[simp ↓] theorem Wp_tOr {a b : Tst} : @Wp _ (tOr a b ρ m) t E = @Wp _ (a ρ m) (fun c m => @Wp _ (if c then .ok true m else b ρ m) t E) E := by
  unfold tOr
  simp only [Wp_bind]
  congr 1; funext k m'; cases k <;> rfl
@[simp ↓] theorem Wp_tNot {a : Tst} : @Wp _ (tNot a ρ m) t E = @Wp _ (a ρ m) (fun c m => t (!c) m) E := by
  unfold tNot
  simp only [Wp_bind, Wp_ret]
@[simp ↓] theorem Wp_tIf {c a b : Tst} : @Wp _ (tIf c a b ρ m) t E = @Wp _ (c ρ m) (fun k m => @Wp _ (if k then a ρ m else b ρ m) t E) E := by
  unfold tIf
  simp only [Wp_bind]
  congr 1; funext k m'; cases k <;> rfl
@[simp ↓] theorem Wp_tYes : @Wp _ (tYes ρ m) t E = t true m := (rfl)
def chn (g : Mu → D → D → Option D) (c : Ex) (y : D) (ρ : Gs.Env) : M D := (c ρ).bind fun z m => M.opt (g m y z) m
@[simp ↓] theorem Wp_chn {g : Mu → D → D → Option D} {c : Ex} {y : D} : @Wp _ (chn g c y ρ m) q E = @Wp _ (c ρ m) (fun z m => @Op _ (g m y z) fun d => q d m) E := by
  unfold chn
  simp only [Wp_bind, Wp_opt]
@[simp ↓] theorem Wp_eChain {f g : Mu → D → D → Option D} {a b c : Ex} : @Wp _ (eChain f g a b c ρ m) q E = @Wp _ (a ρ m) (fun x m => @Wp _ (b ρ m) (fun y m => @Op _ (f m x y) fun d => @Op _ (asBl d) fun k => @Wp _ (if k then chn g c y ρ m else .ok (.bl false) m) q E) E) E := by
  unfold eChain
  simp only [Wp_bind]
  congr 1; funext x m1; congr 1; funext y m2
  cases f m2 x y with
  | none => rfl
  | some d =>
    simp only [Op_some, Option.bind_some]
    cases asBl d with
    | none => rfl
    | some k => cases k <;> rfl
@[simp ↓] theorem Wp_eTup {es : Exs} : @Wp _ (eTup es ρ m) q E = @Wp _ (es ρ m) (fun ds m => @Op _ (mkTup ds) fun d => q d m) E := by
  unfold eTup
  simp only [Wp_bind, Wp_opt]
@[simp ↓] theorem Wp_eLst {es : Exs} : @Wp _ (eLst es ρ m) q E = @Wp _ (es ρ m) (fun ds m => @Op _ (mkLst ds) fun d => q d m) E := by
  unfold eLst
  simp only [Wp_bind, Wp_opt]
def mutD (d : D) (m : Mu) : R D := match d with
  | .lst xs => .ok (.ref m.nx) (m.new (.lst xs))
  | _ => .stuck
@[simp ↓] theorem Wp_eMut {e : Ex} : @Wp _ (eMut e ρ m) q E = @Wp _ (e ρ m) (fun d m => @Wp _ (mutD d m) q E) E := by
  unfold eMut
  rw [Wp_bind]; rfl
theorem Wp_mutL {xs : List D} : @Wp _ (mutD (.lst xs) m) q E = q (.ref m.nx) (m.new (.lst xs)) := (rfl)
def frzD (d : D) (m : Mu) : R D := match d with
  | .ref n => match m.get n with
    | some (.lst xs) => .ok (.lst xs) (m.put n (.frz (.lst xs)))
    | some (.ins c fs) => .ok (.obj c fs) (m.put n (.frz (.obj c fs)))
    | _ => .ok d m
  | _ => .ok d m
@[simp ↓] theorem Wp_eFrz {e : Ex} : @Wp _ (eFrz e ρ m) q E = @Wp _ (e ρ m) (fun d m => @Wp _ (frzD d m) q E) E := by
  unfold eFrz
  rw [Wp_bind]; rfl
theorem Wp_frzL {n : Nat} {xs : List D} (h : m.get n = some (.lst xs)) : @Wp _ (frzD (.ref n) m) q E = q (.lst xs) (m.put n (.frz (.lst xs))) := by
  unfold frzD; simp only [h]; rfl
theorem Wp_frzI {n c : Nat} {fs : List (Nat × D)} (h : m.get n = some (.ins c fs)) : @Wp _ (frzD (.ref n) m) q E = q (.obj c fs) (m.put n (.frz (.obj c fs))) := by
  unfold frzD; simp only [h]; rfl
variable {qp : Option Int → Mu → Prop}
@[simp ↓] theorem Wp_pNo : @Wp _ (pNo ρ m) qp E = qp none m := (rfl)
@[simp ↓] theorem Wp_pE {e : Ex} : @Wp _ (pE e ρ m) qp E = @Wp _ (e ρ m) (fun d m => @Op _ (asInt d) fun i => qp (some i) m) E := by
  unfold pE
  simp only [Wp_bind, Wp_opt, Wp_ret]
@[simp] theorem asInt_int {i : Int} : asInt (.int i) = some i := (rfl)
@[simp ↓] theorem Wp_eCut {e : Ex} {lo hi : Prt} : @Wp _ (eCut e lo hi ρ m) q E = @Wp _ (e ρ m) (fun x m => @Wp _ (lo ρ m) (fun l m => @Wp _ (hi ρ m) (fun h m => @Op _ (oCut m x l h) fun d => q d m) E) E) E := by
  unfold eCut
  simp only [Wp_bind, Wp_opt]
@[simp ↓] theorem Wp_eIsi {bs : Bases} {ts : List Ty} {e : Ex} : @Wp _ (eIsi bs ts e ρ m) q E = @Wp _ (e ρ m) (fun d m => @Wp _ (if known m d then .ok (.bl (ts.any fun t => isA bs m d t)) m else .stuck) q E) E := by
  unfold eIsi
  rw [Wp_bind]
/-! ### calls -/
@[simp ↓] theorem Wp_eCall {run : Gs.Run} {c f : Nat} {es : Exs} : @Wp _ (eCall run c f es ρ m) q E = @Wp _ (es ρ m) (fun ds m => @Wp _ (run c f ds m) q E) E := by
  unfold eCall
  rw [Wp_bind]
@[simp ↓] theorem Wp_esP {pl : List (Nat ⊕ Nat)} {dfl : List D} {a b : Exs} : @Wp _ (esP pl dfl a b ρ m) qs E = @Wp _ (a ρ m) (fun ds m => @Wp _ (b ρ m) (fun es m => @Op _ (pickG (ds ++ es) dfl pl) fun l => qs l m) E) E := by
  unfold esP
  simp only [Wp_bind, Wp_opt]
@[simp] theorem pickG_nil {xs ds : List D} : pickG xs ds [] = some [] := (rfl)
@[simp] theorem pickG_l {xs ds : List D} {i : Nat} {r : List (Nat ⊕ Nat)} : pickG xs ds (.inl i :: r) = (xs[i]?).bind fun x => (pickG xs ds r).map (x :: ·) := by
  conv => lhs; unfold pickG
  dsimp only
  cases xs[i]? <;> cases pickG xs ds r <;> rfl
@[simp] theorem pickG_r {xs ds : List D} {i : Nat} {r : List (Nat ⊕ Nat)} : pickG xs ds (.inr i :: r) = (ds[i]?).bind fun x => (pickG xs ds r).map (x :: ·) := by
  conv => lhs; unfold pickG
  dsimp only
  cases ds[i]? <;> cases pickG xs ds r <;> rfl
@[simp ↓] theorem Wp_eNew {run : Gs.Run} {c : Nat} {pl : List (Nat ⊕ Nat)} {dfl : List D} {a b : Exs} : @Wp _ (eNew run c pl dfl a b ρ m) q E = @Wp _ (a ρ m) (fun ds m => @Wp _ (b ρ m) (fun es m => @Wp _ (newK run c pl dfl ds es m) q E) E) E := by
  unfold eNew
  simp only [Wp_bind]
@[simp ↓] theorem Wp_newK {run : Gs.Run} {c : Nat} {pl : List (Nat ⊕ Nat)} {dfl ds es : List D} : @Wp _ (newK run c pl dfl ds es m) q E = @Op _ (pickG (.ref m.nx :: ds ++ es) dfl pl) fun vs => @Wp _ (run c m_init vs (m.new (.ins c []))) (fun v m' => v = .non ∧ q (.ref m.nx) m') E := by
  unfold newK
  cases pickG (.ref m.nx :: ds ++ es) dfl pl with
  | none => rfl
  | some vs =>
    simp only [Op_some]
    cases run c m_init vs (m.new (.ins c [])) with
    | ok v m' => cases v <;> simp [Wp]
    | exc k fs m' => rfl
    | stuck => rfl
/-- a method called on a value -/
@[simp ↓] theorem Wp_eMeth {run : Gs.Run} {mp : Nat → Nat → Option (List Nat × List D)} {k na : Nat} {o : Ex} {ks : List Nat} {a b : Exs} : @Wp _ (eMeth run mp k o na ks a b ρ m) q E = @Wp _ (o ρ m) (fun x m => @Wp _ (methK run mp k na ks (a ρ) (b ρ) x m) q E) E := by
  unfold eMeth
  rw [Wp_bind]
theorem Wp_methB {run : Gs.Run} {mp : Nat → Nat → Option (List Nat × List D)} {k na : Nat} {ks : List Nat} {a b : M (List D)} {x : D} (h : clsOf m x = none) (hk : ks = []) (hb : bTy m k x = true) : @Wp _ (methK run mp k na ks a b x m) q E = @Wp _ (a m) (fun ds m => @Wp _ (bMeth k x ds m) q E) E := by
  unfold methK
  simp only [h, hk, List.isEmpty_nil, hb, Bool.and_self, if_true]
  rw [Wp_bind]
theorem Wp_methO {run : Gs.Run} {mp : Nat → Nat → Option (List Nat × List D)} {k na c : Nat} {ks ps : List Nat} {dfl : List D} {pl : List (Nat ⊕ Nat)} {a b : M (List D)} {x : D} (h : clsOf m x = some c) (hf : (fldsOf m x).lookup k = none) (hm : mp c k = some (ps, dfl)) (hp : plan ps dfl.length (na + 1) ks = some pl) :
    @Wp _ (methK run mp k na ks a b x m) q E = @Wp _ (a m) (fun ds m => @Wp _ (b m) (fun es m => @Op _ (pickG (x :: ds ++ es) dfl pl) fun vs => @Wp _ (run c k vs m) q E) E) E := by
  unfold methK
  simp only [h, hf, hm, hp, Option.isSome_none, Bool.false_eq_true, if_false]
  simp only [Wp_bind, Wp_opt]
/-- a def called -/
theorem Wp_run {tab : Nat → Nat → Option Def} {n c f : Nat} {d : Def} {ds : List D} (h : tab c f = some d) (hl : ds.length = d.np) (hk : d.keep = true) : @Wp _ (runs tab (n + 1) c f ds m) q E =
    @Ws (d.body (runs tab n) (ds.map some ++ List.replicate (d.ns - d.np) none) m) ⟨fun _ m' => q .non m', fun v m' => q (rs m' v) m', fun _ _ => False, fun _ _ => False, fun c fs _ m' => E c fs m'⟩ := by
  show @Wp _ ((match tab c f with | some d => d.run (runs tab n) ds | none => M.stuck) m) q E = _
  rw [h]
  show @Wp _ (d.run (runs tab n) ds m) q E = _
  unfold Def.run
  rw [if_pos hl]
  cases d.body (runs tab n) (ds.map some ++ List.replicate (d.ns - d.np) none) m with
  | ok o m' => cases o <;> simp [Wp, Ws, leave, hk]
  | exc c fs ρ m' => simp [Wp, Ws, leave, hk]
  | stuck => rfl
/-! ### statements -/
theorem Ws_sB {x : M α} {k : α → Mu → RS} : @Ws (sB ρ x k m) K = @Wp _ (x m) (fun a m' => @Ws (k a m') K) (fun c fs m' => K.ex c fs ρ m') := by
  unfold sB Wp
  cases x m <;> rfl
@[simp ↓] theorem Ws_nx : @Ws (sNx ρ m) K = K.nx ρ m := (rfl)
@[simp ↓] theorem Ws_no : @Ws (sNo ρ m) K = False := (rfl)
@[simp ↓] theorem Ws_seq {a b : Stm} : @Ws (sSeq a b ρ m) K = @Ws (a ρ m) { K with nx := fun ρ' m' => @Ws (b ρ' m') K } := by
  unfold sSeq
  cases a ρ m with
  | ok o m' => cases o <;> rfl
  | exc c fs ρ' m' => rfl
  | stuck => rfl
@[simp ↓] theorem Ws_ex {e : Ex} : @Ws (sEx e ρ m) K = @Wp _ (e ρ m) (fun _ m' => K.nx ρ m') (fun c fs m' => K.ex c fs ρ m') := by
  unfold sEx; rw [Ws_sB]; rfl
@[simp ↓] theorem Ws_ret {e : Ex} : @Ws (sRet e ρ m) K = @Wp _ (e ρ m) (fun d m' => K.rt d m') (fun c fs m' => K.ex c fs ρ m') := by
  unfold sRet; rw [Ws_sB]; rfl
@[simp ↓] theorem Ws_retN : @Ws (sRetN ρ m) K = K.rt .non m := (rfl)
@[simp ↓] theorem Ws_asg {e : Ex} {g : Tgt} : @Ws (sAsg e g ρ m) K = @Wp _ (e ρ m) (fun d m' => @Op _ (g d ρ) fun ρ' => K.nx ρ' m') (fun c fs m' => K.ex c fs ρ m') := by
  unfold sAsg; rw [Ws_sB]
  congr 1; funext d m'; cases g d ρ <;> rfl
@[simp ↓] theorem Ws_aug {i : Nat} {f : Mu → D → D → Option D} {e : Ex} : @Ws (sAug i f e ρ m) K = @Wp _ (eV i ρ m) (fun x m => @Wp _ (e ρ m) (fun y m => @Op _ (f m x y) fun z => K.nx (ρ.set i (some z)) m) (fun c fs m' => K.ex c fs ρ m')) (fun c fs m' => K.ex c fs ρ m') := by
  unfold sAug; rw [Ws_sB]
  congr 1; funext x m1; rw [Ws_sB]
  congr 1; funext y m2; cases f m2 x y <;> rfl
@[simp ↓] theorem Ws_if {t : Tst} {a b : Stm} : @Ws (sIf t a b ρ m) K = @Wp _ (t ρ m) (fun c m' => @Ws (if c then a ρ m' else b ρ m') K) (fun c fs m' => K.ex c fs ρ m') := by
  unfold sIf; rw [Ws_sB]
  congr 1; funext c m'; cases c <;> rfl
@[simp ↓] theorem Ws_bk : @Ws (sBk ρ m) K = K.bk ρ m := (rfl)
@[simp ↓] theorem Ws_ct : @Ws (sCt ρ m) K = K.ct ρ m := (rfl)
@[simp ↓] theorem Ws_setItem {o i e : Ex} : @Ws (sSetItem o i e ρ m) K = @Wp _ (e ρ m) (fun v m => @Wp _ (o ρ m) (fun x m => @Wp _ (i ρ m) (fun k m => @Op _ (putItem x k v m) fun m' => K.nx ρ m') (fun c fs m' => K.ex c fs ρ m')) (fun c fs m' => K.ex c fs ρ m')) (fun c fs m' => K.ex c fs ρ m') := by
  unfold sSetItem; rw [Ws_sB]
  congr 1; funext v m1; rw [Ws_sB]
  congr 1; funext x m2; rw [Ws_sB]
  congr 1; funext k m3; cases putItem x k v m3 <;> rfl
@[simp ↓] theorem Ws_setFld {fl : Nat → List Nat} {o e : Ex} {f : Nat} : @Ws (sSetFld fl o f e ρ m) K = @Wp _ (e ρ m) (fun v m => @Wp _ (o ρ m) (fun x m => @Op _ (setFld fl x f v m) fun m' => K.nx ρ m') (fun c fs m' => K.ex c fs ρ m')) (fun c fs m' => K.ex c fs ρ m') := by
  unfold sSetFld; rw [Ws_sB]
  congr 1; funext v m1; rw [Ws_sB]
  congr 1; funext x m2; cases setFld fl x f v m2 <;> rfl
@[simp ↓] theorem Ws_raise {c : Nat} {fs : List Nat} {es : Exs} : @Ws (sRaise c fs es ρ m) K = @Wp _ (es ρ m) (fun ds m => ds.length = fs.length ∧ K.ex c (fs.zip ds).reverse ρ m) (fun c fs m' => K.ex c fs ρ m') := by
  unfold sRaise; rw [Ws_sB]
  congr 1; funext ds m'
  by_cases h : ds.length = fs.length <;> simp [h, Ws]
/-- a try: the clauses are asked in turn -/
@[simp ↓] theorem Ws_try {bs : Bases} {b : Stm} {hs : List Hd} : @Ws (sTry bs b hs ρ m) K = @Ws (b ρ m) { K with ex := fun c fs ρ' m' => @Ws (hdGo bs c fs hs ρ' m') K } := by
  unfold sTry
  cases b ρ m with
  | ok o m' => cases o <;> rfl
  | exc c fs ρ' m' => rfl
  | stuck => rfl
@[simp ↓] theorem Ws_hdNil {bs : Bases} {c : Nat} {fs : List (Nat × D)} : @Ws (hdGo bs c fs [] ρ m) K = K.ex c fs ρ m := (rfl)
theorem Ws_hdNo {bs : Bases} {c : Nat} {fs : List (Nat × D)} {h : Hd} {hs : List Hd} (hc : (h.cs.any fun k => (bs c).contains k) = false) : @Ws (hdGo bs c fs (h :: hs) ρ m) K = @Ws (hdGo bs c fs hs ρ m) K := by
  show @Ws (if (h.cs.any fun k => (bs c).contains k) = true then _ else _) K = _
  rw [hc]; rfl
/-- a clause that returns -/
theorem Ws_hdYes {bs : Bases} {c i : Nat} {fs : List (Nat × D)} {cs : List Nat} {e : Ex} {hs : List Hd} (hc : (cs.any fun k => (bs c).contains k) = true) :
    @Ws (hdGo bs c fs (⟨cs, some i, sRet e⟩ :: hs) ρ m) K = @Wp _ (e (ρ.set i (some (.exc c fs))) m) (fun d m' => K.rt d m') noE := by
  show @Ws (if (cs.any fun k => (bs c).contains k) = true then _ else _) K = _
  rw [hc]
  unfold sRet sB Wp
  simp only [if_true]
  cases e (ρ.set i (some (.exc c fs))) m <;> rfl
theorem Ws_hdYes0 {bs : Bases} {c : Nat} {fs : List (Nat × D)} {cs : List Nat} {e : Ex} {hs : List Hd} (hc : (cs.any fun k => (bs c).contains k) = true) :
    @Ws (hdGo bs c fs (⟨cs, none, sRet e⟩ :: hs) ρ m) K = @Wp _ (e ρ m) (fun d m' => K.rt d m') noE := by
  show @Ws (if (cs.any fun k => (bs c).contains k) = true then _ else _) K = _
  rw [hc]
  unfold sRet sB Wp
  simp only [if_true]
  cases e ρ m <;> rfl
variable {qw : Wk → Mu → Prop}
@[simp ↓] theorem Wp_iSeq {e : Ex} : @Wp _ (iSeq e ρ m) qw E = @Wp _ (e ρ m) (fun d m => @Op _ (wkOf m d) fun w => qw w m) E := by
  unfold iSeq
  simp only [Wp_bind, Wp_opt]
@[simp ↓] theorem Wp_iEnum {e : Ex} : @Wp _ (iEnum e ρ m) qw E = @Wp _ (e ρ m) (fun d m => @Op _ (wkSq m d) fun w => qw (wkEnum w) m) E := by
  unfold iEnum
  simp only [Wp_bind, Wp_opt]
  congr 1; funext d m'; cases wkSq m' d <;> rfl
def rng1 (d : D) : Option Wk := match d with
  | .int j => if rngOk j then some (wkRng 0 j.toNat) else none
  | _ => none
def rng2 (x y : D) : Option Wk := match x, y with
  | .int i, .int j => if rngOk i && rngOk j then some (wkRng i (j - i).toNat) else none
  | _, _ => none
@[simp ↓] theorem Wp_iRange1 {e : Ex} : @Wp _ (iRange1 e ρ m) qw E = @Wp _ (e ρ m) (fun d m => @Op _ (rng1 d) fun w => qw w m) E := by
  unfold iRange1
  rw [Wp_bind]
  congr 1; funext d m'; unfold rng1; cases d <;> try rfl
  rename_i j
  cases h : rngOk j <;> simp only [h, if_true, if_false] <;> rfl
@[simp ↓] theorem Wp_iRange2 {a b : Ex} : @Wp _ (iRange2 a b ρ m) qw E = @Wp _ (a ρ m) (fun x m => @Wp _ (b ρ m) (fun y m => @Op _ (rng2 x y) fun w => qw w m) E) E := by
  unfold iRange2
  simp only [Wp_bind]
  congr 1; funext x m1; congr 1; funext y m2; unfold rng2
  cases x <;> try rfl
  cases y <;> try rfl
  rename_i i j
  cases h : (rngOk i && rngOk j) <;> simp only [h, if_true, if_false] <;> rfl
def zipW (m : Mu) (x y : D) : Option Wk := match wkSq m x, wkSq m y with
  | some w, some v => if tupD m x == tupD m y then some (wkZip w v) else none
  | _, _ => none
@[simp ↓] theorem Wp_iZip {a b : Ex} : @Wp _ (iZip a b ρ m) qw E = @Wp _ (a ρ m) (fun x m => @Wp _ (b ρ m) (fun y m => @Op _ (zipW m x y) fun w => qw w m) E) E := by
  unfold iZip
  simp only [Wp_bind, Wp_opt]
  rfl
@[simp ↓] theorem Ws_for {i : Itr} {g : Tgt} {b : Stm} : @Ws (sFor i g b ρ m) K = @Wp _ (i ρ m) (fun w m' => @Ws (forGo g b w w.len 0 ρ m') K) (fun c fs m' => K.ex c fs ρ m') := by
  unfold sFor; rw [Ws_sB]
/-- a for loop, by an invariant -/
theorem Ws_forI {g : Tgt} {b : Stm} {w : Wk} (I : Nat → Gs.Env → Mu → Prop) (h0 : I 0 ρ m) (hok : ∀ i ρ m, I i ρ m → w.ok m = true)
    (step : ∀ i ρ m, i < w.len → I i ρ m → @Op _ (w.at_ i m) fun x => @Op _ (g x ρ) fun ρ1 => @Ws (b ρ1 m) { K with nx := I (i + 1), ct := I (i + 1), bk := K.nx })
    (hend : ∀ ρ m, I w.len ρ m → K.nx ρ m) : @Ws (forGo g b w w.len 0 ρ m) K := by
  have : ∀ k i ρ m, i + k = w.len → I i ρ m → @Ws (forGo g b w k i ρ m) K := by
    intro k
    induction k with
    | zero =>
      intro i ρ m e h
      have : i = w.len := by omega
      subst this
      unfold forGo
      rw [if_pos (hok _ _ _ h)]
      exact hend _ _ h
    | succ k ih =>
      intro i ρ m e h
      have st := step i ρ m (by omega) h
      unfold forGo
      rw [if_pos (hok _ _ _ h)]
      cases hx : w.at_ i m with
      | none => rw [hx] at st; exact st.elim
      | some x =>
        rw [hx] at st
        simp only [Op_some] at st ⊢
        cases hg : g x ρ with
        | none => rw [hg] at st; exact st.elim
        | some ρ1 =>
          rw [hg] at st
          simp only [Op_some] at st ⊢
          cases hb : b ρ1 m with
          | ok o m' =>
            rw [hb] at st
            cases o with
            | nx ρ2 => exact ih _ _ _ (by omega) st
            | ct ρ2 => exact ih _ _ _ (by omega) st
            | bk ρ2 => exact st
            | rt d => exact st
          | exc c fs ρ' m' => rw [hb] at st; exact st
          | stuck => rw [hb] at st; exact st.elim
  exact this w.len 0 ρ m (by omega) h0
/-- a while loop, by an invariant and a measure -/
theorem Ws_whileI {t : Tst} {b : Stm} (I : Gs.Env → Mu → Prop) (f : Gs.Env → Mu → Nat) (h0 : I ρ m) (hm : f ρ m < turns)
    (step : ∀ ρ m, I ρ m → @Wp _ (t ρ m) (fun c m1 => if c then @Ws (b ρ m1) { K with nx := fun ρ' m' => I ρ' m' ∧ f ρ' m' < f ρ m, ct := fun ρ' m' => I ρ' m' ∧ f ρ' m' < f ρ m, bk := K.nx } else K.nx ρ m1) (fun c fs m1 => K.ex c fs ρ m1)) : @Ws (sWhile t b ρ m) K := by
  have : ∀ n ρ m, f ρ m < n → I ρ m → @Ws (whileGo t b n ρ m) K := by
    intro n
    induction n with
    | zero => intro ρ m h; omega
    | succ n ih =>
      intro ρ m hn h
      have st := step ρ m h
      unfold whileGo
      cases ht : t ρ m with
      | exc c fs m1 => rw [ht] at st; exact st
      | stuck => rw [ht] at st; exact st.elim
      | ok c m1 =>
        rw [ht] at st
        simp only [Wp_ok] at st
        cases c with
        | false => exact st
        | true =>
          simp only [if_true] at st
          dsimp only
          cases hb : b ρ m1 with
          | ok o m' =>
            rw [hb] at st
            cases o with
            | nx ρ2 => exact ih _ _ (by have := st.2; omega) st.1
            | ct ρ2 => exact ih _ _ (by have := st.2; omega) st.1
            | bk ρ2 => exact st
            | rt d => exact st
          | exc c fs ρ' m' => rw [hb] at st; exact st
          | stuck => rw [hb] at st; exact st.elim
  exact this turns ρ m hm h0
/-! ### comprehensions -/
@[simp ↓] theorem Wp_eComp {own : List Nat} {i : Itr} {g : Tgt} {t : Tst} {e : Ex} : @Wp _ (eComp own i g t e ρ m) q E = @Wp _ (i ρ m) (fun w m => @Wp _ (compGo g t e (wipeE ρ own) w w.len 0 [] m) (fun ys m => q (.lst ys) m) noE) E := by
  unfold eComp
  simp only [Wp_bind, Wp_ret]
  congr 1; funext w m'
  exact Wp_nox
theorem Wp_compI {g : Tgt} {t : Tst} {e : Ex} {w : Wk} {qs : List D → Mu → Prop} (I : Nat → List D → Mu → Prop) (h0 : I 0 [] m) (hok : ∀ i ys m, I i ys m → w.ok m = true)
    (step : ∀ i ys m, i < w.len → I i ys m → @Op _ (w.at_ i m) fun x => @Op _ (g x ρ) fun ρ2 => @Wp _ (t ρ2 m) (fun b m2 => if b then @Wp _ (e ρ2 m2) (fun y m3 => ys.length < 16777216 ∧ I (i + 1) (ys ++ [y]) m3) noE else I (i + 1) ys m2) noE)
    (hend : ∀ ys m, I w.len ys m → qs ys m) : @Wp _ (compGo g t e ρ w w.len 0 [] m) qs noE := by
  have : ∀ k i ys m, i + k = w.len → I i ys m → @Wp _ (compGo g t e ρ w k i ys m) qs noE := by
    intro k
    induction k with
    | zero =>
      intro i ys m e h
      have : i = w.len := by omega
      subst this
      unfold compGo
      rw [if_pos (hok _ _ _ h)]
      exact hend _ _ h
    | succ k ih =>
      intro i ys m e h
      have st := step i ys m (by omega) h
      unfold compGo
      rw [if_pos (hok _ _ _ h)]
      simp only [Wp_bind, Wp_opt]
      cases hx : w.at_ i m with
      | none => rw [hx] at st; exact st.elim
      | some x =>
        rw [hx] at st
        simp only [Op_some] at st ⊢
        cases hg : g x ρ with
        | none => rw [hg] at st; exact st.elim
        | some ρ1 =>
          rw [hg] at st
          simp only [Op_some] at st ⊢
          refine Wp.imp st (fun b m2 hb => ?_) (fun _ _ _ z => z)
          cases b with
          | false => exact ih _ _ _ (by omega) hb
          | true =>
            simp only [if_true] at hb ⊢
            rw [Wp_bind]
            refine Wp.imp hb (fun y m3 hy => ?_) (fun _ _ _ z => z)
            have : Nat.blt ys.length 16777216 = true := by simpa [Nat.blt_eq] using hy.1
            rw [if_pos this]
            exact ih _ _ _ (by omega) hy.2
  exact this w.len 0 [] m (by omega) h0
end
end Gs
/-! GsOp: operations on known values; the store. -/
namespace Gs
open PySem
section
variable {m : Mu} {i j : Int} {s t : Str} {xs ys : List D} {b c : Bool}
@[simp] theorem rs_non : rs m .non = .non := (rfl)
@[simp] theorem rs_bl : rs m (.bl b) = .bl b := (rfl)
@[simp] theorem rs_int : rs m (.int i) = .int i := (rfl)
@[simp] theorem rs_str : rs m (.str s) = .str s := (rfl)
@[simp] theorem rs_tup : rs m (.tup xs) = .tup xs := (rfl)
@[simp] theorem rs_lst : rs m (.lst xs) = .lst xs := (rfl)
@[simp] theorem rs_rol : rs m (.rol xs) = .rol xs := (rfl)
@[simp] theorem rs_obj {k : Nat} {fs : List (Nat × D)} : rs m (.obj k fs) = .obj k fs := (rfl)
@[simp] theorem rs_exc {k : Nat} {fs : List (Nat × D)} : rs m (.exc k fs) = .exc k fs := (rfl)
theorem rs_refL {n : Nat} (h : m.get n = some (.lst xs)) : rs m (.ref n) = .ref n := by simp [rs, h]
theorem rs_refI {n k : Nat} {fs : List (Nat × D)} (h : m.get n = some (.ins k fs)) : rs m (.ref n) = .ref n := by simp [rs, h]
theorem rs_refF {n : Nat} {d : D} (h : m.get n = some (.frz d)) : rs m (.ref n) = d := by simp [rs, h]
@[simp] theorem vw_non : vw m .non = .non := (rfl)
@[simp] theorem vw_bl : vw m (.bl b) = .bl b := (rfl)
@[simp] theorem vw_int : vw m (.int i) = .int i := (rfl)
@[simp] theorem vw_str : vw m (.str s) = .str s := (rfl)
@[simp] theorem vw_tup : vw m (.tup xs) = .tup xs := (rfl)
@[simp] theorem vw_lst : vw m (.lst xs) = .lst xs := (rfl)
@[simp] theorem vw_rol : vw m (.rol xs) = .rol xs := (rfl)
@[simp] theorem vw_obj {k : Nat} {fs : List (Nat × D)} : vw m (.obj k fs) = .obj k fs := (rfl)
@[simp] theorem vw_exc {k : Nat} {fs : List (Nat × D)} : vw m (.exc k fs) = .exc k fs := (rfl)
theorem vw_refL {n : Nat} (h : m.get n = some (.lst xs)) : vw m (.ref n) = .lst xs := by simp [vw, h]
theorem lineOk_eq {n : Nat} : lineOk n = decide (n ≤ 16777216) := by
  unfold lineOk
  cases h : Nat.ble n 16777216 with
  | true => simp [Nat.le_of_ble_eq_true h]
  | false =>
    have : ¬ n ≤ 16777216 := fun q => by
      have := Nat.ble_eq_true_of_le q
      rw [h] at this; cases this
    simp [this]
@[simp] theorem mkTup_ok (h : xs.length ≤ 16777216) : mkTup xs = some (.tup xs) := by simp [mkTup, lineOk_eq, h]
@[simp] theorem mkLst_ok (h : xs.length ≤ 16777216) : mkLst xs = some (.lst xs) := by simp [mkLst, lineOk_eq, h]
@[simp] theorem oAdd_int : oAdd m (.int i) (.int j) = some (.int (i + j)) := (rfl)
@[simp] theorem oSub_int : oSub m (.int i) (.int j) = some (.int (i - j)) := (rfl)
@[simp] theorem iAdd_int : iAdd m (.int i) (.int j) = some (.int (i + j)) := (rfl)
@[simp] theorem iSub_int : iSub m (.int i) (.int j) = some (.int (i - j)) := (rfl)
theorem oAdd_lst (h : xs.length + ys.length ≤ 16777216) : oAdd m (.lst xs) (.lst ys) = some (.lst (xs ++ ys)) := by simp [oAdd, lineOk_eq, h]
theorem oAdd_tup (h : xs.length + ys.length ≤ 16777216) : oAdd m (.tup xs) (.tup ys) = some (.tup (xs ++ ys)) := by simp [oAdd, lineOk_eq, h]
theorem bitsOf_le {i : Int} {n : Nat} (h : i.natAbs < 2 ^ n) : bitsOf i ≤ n := by
  unfold bitsOf Builtin.Int.intBits
  by_cases h0 : i = 0
  · simp [h0]
  · have : i.natAbs.log2 < n := (Nat.log2_lt (by omega)).mpr h
    have e : (i == 0) = false := by simpa using h0
    simp only [e, Bool.false_eq_true, if_false]
    omega
theorem lt_of_bitsOf {i : Int} {n : Nat} (h : bitsOf i ≤ n) : i.natAbs < 2 ^ n := by
  unfold bitsOf Builtin.Int.intBits at h
  by_cases h0 : i = 0
  · rw [h0]; exact Nat.two_pow_pos n
  · have e : (i == 0) = false := by simpa using h0
    simp only [e, Bool.false_eq_true, if_false] at h
    exact (Nat.log2_lt (by omega)).mp (by omega)
theorem oMul_int (h : bitsOf i + bitsOf j ≤ 134217728) : oMul m (.int i) (.int j) = some (.int (i * j)) := by
  have : Nat.ble (bitsOf i + bitsOf j) 134217728 = true := Nat.ble_eq_true_of_le h
  simp only [oMul, vw_int, mulOk, this, if_true]
theorem oMul_small {a b : Nat} (h : i.natAbs < 2 ^ a) (g : j.natAbs < 2 ^ b) (hab : a + b ≤ 134217728 := by decide) : oMul m (.int i) (.int j) = some (.int (i * j)) :=
  oMul_int (by have := bitsOf_le h; have := bitsOf_le g; omega)
theorem oFdiv_int (h : 0 < j) (g : j < 1606938044258990275541962092341162602522202993782792835301376) : oFdiv m (.int i) (.int j) = some (.int (i / j)) := by
  have g2 : j.natAbs < 2 ^ 200 := by omega
  have : j.natAbs.log2 < 200 := (Nat.log2_lt (by omega)).mpr g2
  have : j.natAbs.log2 < 9000 := by omega
  have h2 : Nat.blt j.natAbs.log2 9000 = true := by simpa [Nat.blt_eq] using this
  simp [oFdiv, h, h2]
theorem oMod_int (h : 0 < j) : oMod m (.int i) (.int j) = some (.int (i % j)) := by simp [oMod, h]
theorem oPow_int (h : 0 ≤ j) (h2 : j ≤ 1000000) (g : i.natAbs < 18446744073709551616) : oPow m (.int i) (.int j) = some (.int (i ^ j.toNat)) := by
  have : Nat.blt i.natAbs 18446744073709551616 = true := by simpa [Nat.blt_eq] using g
  simp [oPow, h, h2, this]
@[simp] theorem oNeg_int : oNeg m (.int i) = some (.int (-i)) := (rfl)
@[simp] theorem cLt_int : cLt m (.int i) (.int j) = some (.bl (decide (i < j))) := (rfl)
@[simp] theorem cLe_int : cLe m (.int i) (.int j) = some (.bl (decide (i ≤ j))) := (rfl)
@[simp] theorem cGt_int : cGt m (.int i) (.int j) = some (.bl (decide (j < i))) := (rfl)
@[simp] theorem cGe_int : cGe m (.int i) (.int j) = some (.bl (decide (j ≤ i))) := (rfl)
@[simp] theorem cIs_non {d : D} : cIs m d .non = some (.bl (isN d)) := (rfl)
@[simp] theorem cIsNot_non {d : D} : cIsNot m d .non = some (.bl (!isN d)) := (rfl)
@[simp] theorem isN_non : isN .non = true := (rfl)
@[simp] theorem isN_bl : isN (.bl b) = false := (rfl)
@[simp] theorem isN_int : isN (.int i) = false := (rfl)
@[simp] theorem isN_str : isN (.str s) = false := (rfl)
@[simp] theorem isN_tup : isN (.tup xs) = false := (rfl)
@[simp] theorem isN_lst : isN (.lst xs) = false := (rfl)
@[simp] theorem isN_obj {k : Nat} {fs : List (Nat × D)} : isN (.obj k fs) = false := (rfl)
@[simp] theorem isN_exc {k : Nat} {fs : List (Nat × D)} : isN (.exc k fs) = false := (rfl)
@[simp] theorem isN_ref {n : Nat} : isN (.ref n) = false := (rfl)
@[simp] theorem tru_bl : tru m (.bl b) = some b := (rfl)
@[simp] theorem tru_non : tru m .non = some false := (rfl)
@[simp] theorem tru_int : tru m (.int i) = some (i != 0) := (rfl)
@[simp] theorem tru_tup : tru m (.tup xs) = some (!xs.isEmpty) := (rfl)
@[simp] theorem tru_lst : tru m (.lst xs) = some (!xs.isEmpty) := (rfl)
@[simp] theorem oInt_int : oInt m (.int i) = some (.int i) := (rfl)
@[simp] theorem oInt_bl : oInt m (.bl b) = some (.int (if b then 1 else 0)) := (rfl)
@[simp] theorem oAbs_int : oAbs m (.int i) = some (.int (if i < 0 then -i else i)) := (rfl)
@[simp] theorem oLen_tup : oLen m (.tup xs) = some (.int xs.length) := (rfl)
@[simp] theorem oLen_lst : oLen m (.lst xs) = some (.int xs.length) := (rfl)
@[simp] theorem oLen_rol : oLen m (.rol xs) = some (.int xs.length) := (rfl)
theorem oLen_ref {n : Nat} (h : m.get n = some (.lst xs)) : oLen m (.ref n) = some (.int xs.length) := by simp [oLen, vw_refL h]
theorem oLen_str (h : s.length ≤ 16777216) : oLen m (.str s) = some (.int s.length) := by simp [oLen, lineOk_eq, h]
@[simp] theorem oTuple_tup : oTuple m (.tup xs) = some (.tup xs) := (rfl)
@[simp] theorem oTuple_lst : oTuple m (.lst xs) = some (.tup xs) := (rfl)
@[simp] theorem oTuple_rol : oTuple m (.rol xs) = some (.tup xs) := (rfl)
theorem oTuple_ref {n : Nat} (h : m.get n = some (.lst xs)) : oTuple m (.ref n) = some (.tup xs) := by simp [oTuple, vw_refL h]
@[simp] theorem oList_tup : oList m (.tup xs) = some (.lst xs) := (rfl)
@[simp] theorem oList_lst : oList m (.lst xs) = some (.lst xs) := (rfl)
@[simp] theorem oList_rol : oList m (.rol xs) = some (.lst xs) := (rfl)
theorem oList_ref {n : Nat} (h : m.get n = some (.lst xs)) : oList m (.ref n) = some (.lst xs) := by simp [oList, vw_refL h]
@[simp] theorem oMax2_int : oMax2 m (.int i) (.int j) = some (.int (if j > i then j else i)) := (rfl)
@[simp] theorem oMin2_int : oMin2 m (.int i) (.int j) = some (.int (if j < i then j else i)) := (rfl)
/-! ### items -/
theorem atI_nat {α : Type} {xs : List α} {k : Nat} : L2.atI xs (k : Int) = xs[k]? := by
  unfold L2.atI L2.ixN
  by_cases h : k < xs.length
  · have h1 : (0 : Int) ≤ (k : Int) := by omega
    have h2 : (k : Int) < (xs.length : Int) := by omega
    simp [h, h1, h2]
  · have : ¬ ((k : Int) < (xs.length : Int)) := by omega
    simp [h, this]
@[simp] theorem atI_0 {α : Type} {xs : List α} : L2.atI xs 0 = xs[0]? := atI_nat (k := 0)
@[simp] theorem atI_1 {α : Type} {xs : List α} : L2.atI xs 1 = xs[1]? := atI_nat (k := 1)
@[simp] theorem atI_2 {α : Type} {xs : List α} : L2.atI xs 2 = xs[2]? := atI_nat (k := 2)
@[simp] theorem atI_3 {α : Type} {xs : List α} : L2.atI xs 3 = xs[3]? := atI_nat (k := 3)
@[simp] theorem atI_4 {α : Type} {xs : List α} : L2.atI xs 4 = xs[4]? := atI_nat (k := 4)
@[simp] theorem atI_5 {α : Type} {xs : List α} : L2.atI xs 5 = xs[5]? := atI_nat (k := 5)
theorem atI_toNat {α : Type} {xs : List α} {i : Int} (h : 0 ≤ i) : L2.atI xs i = xs[i.toNat]? := by
  obtain ⟨k, rfl⟩ := Int.eq_ofNat_of_zero_le h
  rw [atI_nat]; simp
/-- xs[-1] and the like -/
theorem atI_neg {α : Type} {xs : List α} {i : Int} (h : i < 0) (g : -(xs.length : Int) ≤ i) : L2.atI xs i = xs[(i + xs.length).toNat]? := by
  unfold L2.atI L2.ixN
  have h1 : ¬ (0 ≤ i) := by omega
  simp [h1, g]
@[simp] theorem oItem_tup : oItem m (.tup xs) (.int i) = (L2.atI xs i).map (rs m) := (rfl)
@[simp] theorem oItem_lst : oItem m (.lst xs) (.int i) = (L2.atI xs i).map (rs m) := (rfl)
@[simp] theorem oItem_rol : oItem m (.rol xs) (.int i) = (L2.atI xs i).map (rs m) := (rfl)
theorem oItem_ref {n : Nat} (h : m.get n = some (.lst xs)) : oItem m (.ref n) (.int i) = (L2.atI xs i).map (rs m) := by simp [oItem, vw_refL h]
theorem oItemL_ref {n : Nat} (h : m.get n = some (.lst xs)) : oItemL m (.ref n) (.int i) = (L2.atI xs i).map (rs m) := by simp [oItemL, h]
theorem ixN_nat {k n : Nat} (h : k < n) : L2.ixN n (k : Int) = some k := by
  unfold L2.ixN
  have h1 : (0 : Int) ≤ (k : Int) := by omega
  have h2 : (k : Int) < (n : Int) := by omega
  simp [h1, h2]
@[simp] theorem ixN_4_0 {n : Nat} : L2.ixN (n + 1) 0 = some 0 := ixN_nat (k := 0) (by omega)
@[simp] theorem ixN_4_1 {n : Nat} : L2.ixN (n + 2) 1 = some 1 := ixN_nat (k := 1) (by omega)
@[simp] theorem ixN_4_2 {n : Nat} : L2.ixN (n + 3) 2 = some 2 := ixN_nat (k := 2) (by omega)
@[simp] theorem ixN_4_3 {n : Nat} : L2.ixN (n + 4) 3 = some 3 := ixN_nat (k := 3) (by omega)
@[simp] theorem ixN_4_4 {n : Nat} : L2.ixN (n + 5) 4 = some 4 := ixN_nat (k := 4) (by omega)
theorem putItem_ref {n k : Nat} {v : D} (h : m.get n = some (.lst xs)) (hk : L2.ixN xs.length i = some k) : putItem (.ref n) (.int i) v m = some (m.put n (.lst (xs.set k v))) := by simp [putItem, h, hk]
theorem oAppend_ref {n : Nat} {v : D} (h : m.get n = some (.lst xs)) (hl : xs.length < 16777216) : oAppend (.ref n) v m = some (m.put n (.lst (xs ++ [v]))) := by
  have : Nat.blt xs.length 16777216 = true := by simpa [Nat.blt_eq] using hl
  simp [oAppend, h, this]
/-! ### the store -/
@[simp] theorem nx_put {n : Nat} {c : Cell} : (m.put n c).nx = m.nx := (rfl)
@[simp] theorem nx_new {c : Cell} : (m.new c).nx = m.nx + 1 := (rfl)
theorem get_put_same {n : Nat} {c c0 : Cell} (h : m.get n = some c0) : (m.put n c).get n = some c := by rw [Mu.get_put h]; simp
theorem get_put_ne {n k : Nat} {c : Cell} (h : k ≠ n) : (m.put n c).get k = m.get k := by
  unfold Mu.get Mu.put
  rw [lookup_setL, if_neg h]
@[simp] theorem get_new_same {c : Cell} : (m.new c).get m.nx = some c := by rw [Mu.get_new]; simp
theorem get_new_ne {k : Nat} {c : Cell} (h : k ≠ m.nx) : (m.new c).get k = m.get k := by rw [Mu.get_new, if_neg h]
def Mu.good (m : Mu) : Prop := ∀ k c, m.get k = some c → k < m.nx
theorem good_put {n : Nat} {c : Cell} (h : m.good) : (m.put n c).good := by
  intro k c' e
  by_cases hk : k = n
  · subst hk
    unfold Mu.get Mu.put at e
    rw [lookup_setL, if_pos rfl] at e
    obtain ⟨c0, h0, _⟩ := Option.map_eq_some_iff.mp e
    exact h k c0 h0
  · rw [get_put_ne hk] at e
    exact h k c' e
theorem good_new {c : Cell} (h : m.good) : (m.new c).good := by
  intro k c' e
  by_cases hk : k = m.nx
  · subst hk; simp
  · rw [get_new_ne hk] at e
    have := h k c' e
    simp; omega
theorem good_nil : (⟨0, []⟩ : Mu).good := fun k c h => by cases h
/-- the store m2 comes after m1: what stood before m1's next number, but for those in l, stands as before -/
structure Aft (l : List Nat) (m1 m2 : Mu) : Prop where
  nx : m1.nx ≤ m2.nx
  get : ∀ k, k < m1.nx → k ∉ l → m2.get k = m1.get k
  good : m1.good → m2.good
theorem Aft.refl {l : List Nat} : Aft l m m := ⟨Nat.le_refl _, fun _ _ _ => rfl, id⟩
theorem Aft.trans {l : List Nat} {m1 m2 m3 : Mu} (a : Aft l m1 m2) (b : Aft l m2 m3) : Aft l m1 m3 :=
  ⟨Nat.le_trans a.nx b.nx, fun k h1 h2 => (b.get k (Nat.lt_of_lt_of_le h1 a.nx) h2).trans (a.get k h1 h2), fun g => b.good (a.good g)⟩
theorem Aft.wk {l l' : List Nat} {m1 m2 : Mu} (a : Aft l m1 m2) (h : ∀ k ∈ l, k ∈ l' ∨ m1.nx ≤ k) : Aft l' m1 m2 :=
  ⟨a.nx, fun k h1 h2 => a.get k h1 fun h3 => by
    rcases h k h3 with h4 | h4
    · exact h2 h4
    · omega, a.good⟩
theorem aft_put {l : List Nat} {n : Nat} {c : Cell} (h : n ∈ l ∨ m.nx ≤ n) : Aft l m (m.put n c) :=
  ⟨Nat.le_refl _, fun k h1 h2 => get_put_ne fun e => by
    subst e
    rcases h with h | h
    · exact h2 h
    · omega, good_put⟩
theorem Aft.put {l : List Nat} {m m' : Mu} {n : Nat} {c : Cell} (a : Aft l m m') (h : n ∈ l ∨ m.nx ≤ n) : Aft l m (m'.put n c) :=
  ⟨a.nx, fun k h1 h2 => (get_put_ne fun e => by
    subst e
    rcases h with h | h
    · exact h2 h
    · omega).trans (a.get k h1 h2), fun g => good_put (a.good g)⟩
theorem aft_new {l : List Nat} {c : Cell} : Aft l m (m.new c) := ⟨by simp, fun k h1 h2 => get_new_ne (by omega), good_new⟩
theorem Aft.new {l : List Nat} {m m' : Mu} {c : Cell} (a : Aft l m m') : Aft l m (m'.new c) := a.trans aft_new
end
/-! ### plain values: no object of the store in them -/
mutual
def D.pl : D → Bool
  | .non => true
  | .bl _ => true
  | .int _ => true
  | .str _ => true
  | .tup xs => D.pls xs
  | .lst xs => D.pls xs
  | .rol xs => D.pls xs
  | .obj _ fs => D.plf fs
  | .exc _ fs => D.plf fs
  | .ref _ => false
  | .fn _ => false
def D.pls : List D → Bool
  | [] => true
  | x :: xs => D.pl x && D.pls xs
def D.plf : List (Nat × D) → Bool
  | [] => true
  | p :: ps => D.pl p.2 && D.plf ps
end
@[simp] theorem pl_non : D.pl .non = true := (rfl)
@[simp] theorem pl_bl {b : Bool} : D.pl (.bl b) = true := (rfl)
@[simp] theorem pl_int {i : Int} : D.pl (.int i) = true := (rfl)
@[simp] theorem pl_str {s : Str} : D.pl (.str s) = true := (rfl)
@[simp] theorem pl_ref {n : Nat} : D.pl (.ref n) = false := (rfl)
@[simp] theorem pl_fn {n : Nat} : D.pl (.fn n) = false := (rfl)
theorem pls_all : ∀ {xs : List D}, D.pls xs = xs.all D.pl
  | [] => rfl
  | x :: xs => by simp [D.pls, pls_all]
theorem pls_mem {xs : List D} (h : D.pls xs = true) {x : D} (hx : x ∈ xs) : x.pl = true := by
  rw [pls_all] at h
  exact List.all_eq_true.mp h x hx
@[simp] theorem pl_tup {xs : List D} : D.pl (.tup xs) = xs.all D.pl := by rw [D.pl, pls_all]
@[simp] theorem pl_lst {xs : List D} : D.pl (.lst xs) = xs.all D.pl := by rw [D.pl, pls_all]
section
variable {m : Mu} {d : D}
@[simp] theorem rs_pl (h : d.pl = true) : rs m d = d := by cases d <;> first | rfl | simp [D.pl] at h
@[simp] theorem vw_pl (h : d.pl = true) : vw m d = d := by cases d <;> first | rfl | simp [D.pl] at h
@[simp] theorem known_pl (h : d.pl = true) : known m d = true := by cases d <;> first | rfl | simp [D.pl] at h
theorem known_refL {n : Nat} {xs : List D} (h : m.get n = some (.lst xs)) : known m (.ref n) = true := by simp [known, h]
theorem known_refI {n k : Nat} {fs : List (Nat × D)} (h : m.get n = some (.ins k fs)) : known m (.ref n) = true := by simp [known, h]
end
/-- comprehension over values that don't change, by a function: pure test and element -/
theorem comp_pure {g : Tgt} {t : Tst} {e : Ex} {ρ : Gs.Env} {w : Wk} {m : Mu} (xs : List D) (p : D → Bool) (f : D → D) (hl : w.len = xs.length) (hok : w.ok m = true) (hat : ∀ i x, xs[i]? = some x → w.at_ i m = some x) (hz : xs.length ≤ 16777216)
    (step : ∀ x ∈ xs, @Op _ (g x ρ) fun ρ2 => t ρ2 m = .ok (p x) m ∧ (p x = true → e ρ2 m = .ok (f x) m)) :
    compGo g t e ρ w w.len 0 [] m = .ok ((xs.filter p).map f) m := by
  refine eq_of_wp (Wp_compI (fun i ys m' => m' = m ∧ ys = ((xs.take i).filter p).map f) ⟨rfl, by simp⟩ (fun i ys m' h => by rw [h.1]; exact hok) (fun i ys m' hi h => ?_) (fun ys m' h => ⟨by rw [h.2, hl, List.take_length], h.1⟩))
  obtain ⟨rfl, rfl⟩ := h
  have hi2 : i < xs.length := by omega
  have hx : xs[i]? = some xs[i] := List.getElem?_eq_getElem hi2
  rw [hat i _ hx]
  simp only [Op_some]
  have st := step xs[i] (List.getElem_mem hi2)
  cases hg : g xs[i] ρ with
  | none => rw [hg] at st; exact st.elim
  | some ρ2 =>
    rw [hg] at st
    obtain ⟨s1, s2⟩ := st
    simp only [Op_some]
    rw [s1]
    simp only [Wp_ok]
    have e1 : xs.take (i + 1) = xs.take i ++ [xs[i]] := by rw [List.take_succ, hx]; rfl
    cases hp : p xs[i] with
    | true =>
      simp only [if_true]
      rw [s2 hp]
      simp only [Wp_ok]
      refine ⟨?_, trivial, by rw [e1, List.filter_append, List.map_append]; simp [hp]⟩
      have : (((xs.take i).filter p).map f).length ≤ (xs.take i).length := by
        rw [List.length_map]; exact List.length_filter_le _ _
      have h3 : (xs.take i).length = i := by rw [List.length_take]; omega
      omega
    | false =>
      exact ⟨trivial, by rw [e1, List.filter_append]; simp [hp]⟩
/-- a value that is walked -/
@[simp] theorem wkOf_tup {m : Mu} {xs : List D} : wkOf m (.tup xs) = some (wkL xs) := (rfl)
@[simp] theorem wkOf_lst {m : Mu} {xs : List D} : wkOf m (.lst xs) = some (wkL xs) := (rfl)
@[simp] theorem wkOf_rol {m : Mu} {xs : List D} : wkOf m (.rol xs) = some (wkL xs) := (rfl)
@[simp] theorem wkSq_tup {m : Mu} {xs : List D} : wkSq m (.tup xs) = some (wkL xs) := (rfl)
@[simp] theorem wkSq_lst {m : Mu} {xs : List D} : wkSq m (.lst xs) = some (wkL xs) := (rfl)
@[simp] theorem wkSq_rol {m : Mu} {xs : List D} : wkSq m (.rol xs) = some (wkL xs) := (rfl)
theorem wkOf_refL {m : Mu} {n : Nat} {xs : List D} (h : m.get n = some (.lst xs)) : wkOf m (.ref n) = some (wkRef n xs.length) := by
  unfold wkOf wkSq; simp [rs_refL h, h]
theorem wkSq_refL {m : Mu} {n : Nat} {xs : List D} (h : m.get n = some (.lst xs)) : wkSq m (.ref n) = some (wkRef n xs.length) := by
  unfold wkSq; simp [rs_refL h, h]
@[simp] theorem wkL_len {xs : List D} : (wkL xs).len = xs.length := (rfl)
@[simp] theorem wkL_ok {xs : List D} {m : Mu} : (wkL xs).ok m = true := (rfl)
@[simp] theorem wkL_at {xs : List D} {m : Mu} {i : Nat} : (wkL xs).at_ i m = (xs[i]?).map (rs m) := (rfl)
@[simp] theorem wkRng_len {i : Int} {n : Nat} : (wkRng i n).len = n := (rfl)
@[simp] theorem wkRng_ok {i : Int} {n : Nat} {m : Mu} : (wkRng i n).ok m = true := (rfl)
@[simp] theorem wkRng_at {i : Int} {n k : Nat} {m : Mu} : (wkRng i n).at_ k m = some (.int (i + k)) := (rfl)
@[simp] theorem wkEnum_len {w : Wk} : (wkEnum w).len = w.len := (rfl)
@[simp] theorem wkEnum_ok {w : Wk} {m : Mu} : (wkEnum w).ok m = w.ok m := (rfl)
@[simp] theorem wkEnum_at {w : Wk} {k : Nat} {m : Mu} : (wkEnum w).at_ k m = (w.at_ k m).map fun x => D.tup [.int (k : Nat), x] := (rfl)
theorem rng1_ok {i : Int} (h : -(2 ^ 62) ≤ i) (g : i < 2 ^ 62) : rng1 (.int i) = some (wkRng 0 i.toNat) := by
  have : rngOk i = true := by simp [rngOk]; omega
  simp [rng1, this]
theorem rng2_ok {i j : Int} (h : -(2 ^ 62) ≤ i) (g : i < 2 ^ 62) (h2 : -(2 ^ 62) ≤ j) (g2 : j < 2 ^ 62) : rng2 (.int i) (.int j) = some (wkRng i (j - i).toNat) := by
  have : rngOk i = true := by simp [rngOk]; omega
  have : rngOk j = true := by simp [rngOk]; omega
  simp [rng2, *]
@[simp] theorem gV_eq {i : Nat} {d : D} {ρ : Gs.Env} : gV i d ρ = some (ρ.set i (some d)) := (rfl)
@[simp] theorem gTup_tup {gs : List Tgt} {ds : List D} {ρ : Gs.Env} : gTup gs (.tup ds) ρ = gsGo gs ds ρ := (rfl)
@[simp] theorem gsGo_nil {ρ : Gs.Env} : gsGo [] [] ρ = some ρ := (rfl)
@[simp] theorem gsGo_cons {g : Tgt} {gs : List Tgt} {d : D} {ds : List D} {ρ : Gs.Env} : gsGo (g :: gs) (d :: ds) ρ = (g d ρ).bind fun ρ' => gsGo gs ds ρ' := (rfl)
@[simp] theorem wipeE_nil {ρ : Gs.Env} : wipeE ρ [] = ρ := (rfl)
@[simp] theorem wipeE_cons {ρ : Gs.Env} {v : Nat} {vs : List Nat} : wipeE ρ (v :: vs) = (wipeE ρ vs).set v none := (rfl)
end Gs
/-! GsDat: data: numbers, texts, None, truth values, tuples and lists of such; == of them. -/
namespace Gs
open PySem
def D.dat : Nat → D → Bool
  | _, .non => true
  | _, .bl _ => true
  | _, .int _ => true
  | _, .str s => PyData.strOk s && decide (s.length ≤ 16777216)
  | n + 1, .tup xs => decide (xs.length ≤ 16777216) && xs.all (D.dat n)
  | n + 1, .lst xs => decide (xs.length ≤ 16777216) && xs.all (D.dat n)
  | _, _ => false
mutual
def D.py : D → PyData
  | .non => .none
  | .bl b => .bool b
  | .int i => .int i
  | .str s => .str s
  | .tup xs => .tuple (D.pys xs)
  | .lst xs => .list (D.pys xs)
  | _ => .none
def D.pys : List D → List PyData
  | [] => []
  | x :: xs => D.py x :: D.pys xs
end
theorem dat_pl : ∀ {n : Nat} {d : D}, D.dat n d = true → d.pl = true
  | n, .non, _ => rfl
  | n, .bl _, _ => rfl
  | n, .int _, _ => rfl
  | n, .str _, _ => rfl
  | 0, .tup xs, h => by simp [D.dat] at h
  | 0, .lst xs, h => by simp [D.dat] at h
  | n + 1, .tup xs, h => by
    simp only [D.dat, Bool.and_eq_true] at h
    simp only [D.pl, pls_all]
    exact List.all_eq_true.mpr fun x hx => dat_pl (List.all_eq_true.mp h.2 x hx)
  | n + 1, .lst xs, h => by
    simp only [D.dat, Bool.and_eq_true] at h
    simp only [D.pl, pls_all]
    exact List.all_eq_true.mpr fun x hx => dat_pl (List.all_eq_true.mp h.2 x hx)
  | n, .rol _, h => by cases n <;> simp [D.dat] at h
  | n, .obj _ _, h => by cases n <;> simp [D.dat] at h
  | n, .exc _ _, h => by cases n <;> simp [D.dat] at h
  | n, .ref _, h => by cases n <;> simp [D.dat] at h
  | n, .fn _, h => by cases n <;> simp [D.dat] at h
theorem dat_up : ∀ {n k : Nat} {d : D}, n ≤ k → D.dat n d = true → D.dat k d = true
  | n, k, .non, _, _ => by cases k <;> rfl
  | n, k, .bl _, _, _ => by cases k <;> rfl
  | n, k, .int _, _, _ => by cases k <;> rfl
  | n, k, .str _, _, h => by cases n <;> cases k <;> simpa [D.dat] using h
  | 0, k, .tup xs, _, h => by simp [D.dat] at h
  | 0, k, .lst xs, _, h => by simp [D.dat] at h
  | n + 1, k, .tup xs, hk, h => by
    obtain ⟨j, rfl⟩ : ∃ j, k = j + 1 := ⟨k - 1, by omega⟩
    simp only [D.dat, Bool.and_eq_true] at h ⊢
    exact ⟨h.1, List.all_eq_true.mpr fun x hx => dat_up (by omega) (List.all_eq_true.mp h.2 x hx)⟩
  | n + 1, k, .lst xs, hk, h => by
    obtain ⟨j, rfl⟩ : ∃ j, k = j + 1 := ⟨k - 1, by omega⟩
    simp only [D.dat, Bool.and_eq_true] at h ⊢
    exact ⟨h.1, List.all_eq_true.mpr fun x hx => dat_up (by omega) (List.all_eq_true.mp h.2 x hx)⟩
  | n, _, .rol _, _, h => by cases n <;> simp [D.dat] at h
  | n, _, .obj _ _, _, h => by cases n <;> simp [D.dat] at h
  | n, _, .exc _ _, _, h => by cases n <;> simp [D.dat] at h
  | n, _, .ref _, _, h => by cases n <;> simp [D.dat] at h
  | n, _, .fn _, _, h => by cases n <;> simp [D.dat] at h
theorem pyAll_of {m : Mu} : ∀ {xs : List D}, (∀ x ∈ xs, pyOf m x = some (D.py x)) → pyAll m xs = some (D.pys xs)
  | [], _ => by simp [pyAll, D.pys]
  | x :: xs, h => by
    simp only [pyAll, D.pys, h x (by simp), pyAll_of fun y hy => h y (List.mem_cons_of_mem _ hy)]
theorem canAll_of : ∀ {xs : List D}, (∀ x ∈ xs, (D.py x).canLay0 = true) → PyData.canLayAll0 (D.pys xs) = true
  | [], _ => rfl
  | x :: xs, h => by
    simp only [D.pys, PyData.canLayAll0, h x (by simp), canAll_of fun y hy => h y (List.mem_cons_of_mem _ hy), Bool.and_self]
theorem depAll_of {n : Nat} : ∀ {xs : List D}, (∀ x ∈ xs, (D.py x).depth ≤ n) → PyData.depthAll (D.pys xs) ≤ n
  | [], _ => by simp [D.pys, PyData.depthAll]
  | x :: xs, h => by
    simp only [D.pys, PyData.depthAll]
    have h1 := h x (by simp)
    have h2 := depAll_of fun y hy => h y (List.mem_cons_of_mem _ hy)
    omega
theorem py_of {m : Mu} : ∀ {n : Nat} {d : D}, D.dat n d = true → pyOf m d = some (D.py d) ∧ (D.py d).canLay0 = true ∧ (D.py d).depth ≤ n
  | n, .non, _ => ⟨by simp [pyOf, D.py], by simp [D.py, PyData.canLay0], by simp [D.py, PyData.depth]⟩
  | n, .bl _, _ => ⟨by simp [pyOf, D.py], by simp [D.py, PyData.canLay0], by simp [D.py, PyData.depth]⟩
  | n, .int _, _ => ⟨by simp [pyOf, D.py], by simp [D.py, PyData.canLay0], by simp [D.py, PyData.depth]⟩
  | n, .str s, h => by
    have : PyData.strOk s = true := by cases n <;> simp [D.dat] at h <;> exact h.1
    exact ⟨by simp [pyOf, D.py], by simp [D.py, PyData.canLay0, this], by simp [D.py, PyData.depth]⟩
  | 0, .tup xs, h => by simp [D.dat] at h
  | 0, .lst xs, h => by simp [D.dat] at h
  | n + 1, .tup xs, h => by
    simp only [D.dat, Bool.and_eq_true] at h
    have ih := fun x hx => py_of (m := m) (List.all_eq_true.mp h.2 x hx)
    refine ⟨by simp only [pyOf, D.py, pyAll_of fun x hx => (ih x hx).1, Option.map_some], ?_, ?_⟩
    · simp only [D.py, PyData.canLay0]; exact canAll_of fun x hx => (ih x hx).2.1
    · simp only [D.py, PyData.depth]; have := depAll_of fun x hx => (ih x hx).2.2; omega
  | n + 1, .lst xs, h => by
    simp only [D.dat, Bool.and_eq_true] at h
    have ih := fun x hx => py_of (m := m) (List.all_eq_true.mp h.2 x hx)
    refine ⟨by simp only [pyOf, D.py, pyAll_of fun x hx => (ih x hx).1, Option.map_some], ?_, ?_⟩
    · simp only [D.py, PyData.canLay0]; exact canAll_of fun x hx => (ih x hx).2.1
    · simp only [D.py, PyData.depth]; have := depAll_of fun x hx => (ih x hx).2.2; omega
  | n, .rol _, h => by cases n <;> simp [D.dat] at h
  | n, .obj _ _, h => by cases n <;> simp [D.dat] at h
  | n, .exc _ _, h => by cases n <;> simp [D.dat] at h
  | n, .ref _, h => by cases n <;> simp [D.dat] at h
  | n, .fn _, h => by cases n <;> simp [D.dat] at h
/-- == of data -/
def eqX (d e : D) : Bool := PyData.eqv d.py e.py
theorem eqD_dat {m : Mu} {n k : Nat} {d e : D} (h : D.dat n d = true) (g : D.dat k e = true) (hn : n ≤ 64) (hk : k ≤ 64) : eqD m d e = some (eqX d e) := by
  obtain ⟨h1, h2, h3⟩ := py_of (m := m) h
  obtain ⟨g1, g2, g3⟩ := py_of (m := m) g
  unfold eqD
  rw [vw_pl (dat_pl h), vw_pl (dat_pl g), h1, g1]
  have s1 : SeqAt.shaped d.py = true := by simp only [SeqAt.shaped, h2, Bool.true_and, decide_eq_true_eq]; omega
  have s2 : SeqAt.shaped e.py = true := by simp only [SeqAt.shaped, g2, Bool.true_and, decide_eq_true_eq]; omega
  simp only [s1, s2, Bool.and_self, if_true]
  rfl
theorem cEq_dat {m : Mu} {n k : Nat} {d e : D} (h : D.dat n d = true) (g : D.dat k e = true) (hn : n ≤ 64 := by omega) (hk : k ≤ 64 := by omega) : cEq m d e = some (.bl (eqX d e)) := by
  unfold cEq; rw [eqD_dat h g hn hk]; rfl
theorem cNe_dat {m : Mu} {n k : Nat} {d e : D} (h : D.dat n d = true) (g : D.dat k e = true) (hn : n ≤ 64 := by omega) (hk : k ≤ 64 := by omega) : cNe m d e = some (.bl (!eqX d e)) := by
  unfold cNe; rw [eqD_dat h g hn hk]; rfl
theorem eqX_refl {n : Nat} {d : D} (h : D.dat n d = true) : eqX d d = true := SeqAt.eqv_refl d.py (py_of (m := ⟨0, []⟩) h).2.1
@[simp] theorem eqX_int {i j : Int} : eqX (.int i) (.int j) = decide (i = j) := by
  simp [eqX, D.py, PyData.eqv, Bool.beq_eq_decide_eq]
@[simp] theorem eqX_str {s t : Str} : eqX (.str s) (.str t) = decide (s = t) := by
  simp [eqX, D.py, PyData.eqv, Bool.beq_eq_decide_eq]
@[simp] theorem eqX_bl {b c : Bool} : eqX (.bl b) (.bl c) = decide (b = c) := by
  simp [eqX, D.py, PyData.eqv, Bool.beq_eq_decide_eq]
@[simp] theorem dat_int {n : Nat} {i : Int} : D.dat n (.int i) = true := by cases n <;> rfl
@[simp] theorem dat_non {n : Nat} : D.dat n .non = true := by cases n <;> rfl
@[simp] theorem dat_bl {n : Nat} {b : Bool} : D.dat n (.bl b) = true := by cases n <;> rfl
theorem dat_str {n : Nat} {s : Str} : D.dat n (.str s) = (PyData.strOk s && decide (s.length ≤ 16777216)) := by cases n <;> rfl
@[simp] theorem cEq_int {m : Mu} {i j : Int} : cEq m (.int i) (.int j) = some (.bl (decide (i = j))) := by
  rw [cEq_dat (n := 0) (k := 0) rfl rfl]; simp
@[simp] theorem cNe_int {m : Mu} {i j : Int} : cNe m (.int i) (.int j) = some (.bl (!decide (i = j))) := by
  rw [cNe_dat (n := 0) (k := 0) rfl rfl]; simp
@[simp] theorem cEq_bl {m : Mu} {b c : Bool} : cEq m (.bl b) (.bl c) = some (.bl (decide (b = c))) := by
  rw [cEq_dat (n := 0) (k := 0) rfl rfl]; simp
/-! what a value is -/
section
variable {bs : Bases} {m : Mu} {b : Bool} {i : Int} {s : Str} {xs : List D} {k : Nat} {fs : List (Nat × D)}
@[simp] theorem isA_non_bool : isA bs m .non .bool = false := (rfl)
@[simp] theorem isA_non_int : isA bs m .non .int = false := (rfl)
@[simp] theorem isA_non_str : isA bs m .non .str = false := (rfl)
@[simp] theorem isA_non_tuple : isA bs m .non .tuple = false := (rfl)
@[simp] theorem isA_non_list : isA bs m .non .list = false := (rfl)
@[simp] theorem isA_non_own : isA bs m .non (.own k) = false := (rfl)
@[simp] theorem isA_bl_bool : isA bs m (.bl b) .bool = true := (rfl)
@[simp] theorem isA_bl_int : isA bs m (.bl b) .int = true := (rfl)
@[simp] theorem isA_bl_str : isA bs m (.bl b) .str = false := (rfl)
@[simp] theorem isA_bl_tuple : isA bs m (.bl b) .tuple = false := (rfl)
@[simp] theorem isA_bl_list : isA bs m (.bl b) .list = false := (rfl)
@[simp] theorem isA_bl_own : isA bs m (.bl b) (.own k) = false := (rfl)
@[simp] theorem isA_int_bool : isA bs m (.int i) .bool = false := (rfl)
@[simp] theorem isA_int_int : isA bs m (.int i) .int = true := (rfl)
@[simp] theorem isA_int_str : isA bs m (.int i) .str = false := (rfl)
@[simp] theorem isA_int_tuple : isA bs m (.int i) .tuple = false := (rfl)
@[simp] theorem isA_int_list : isA bs m (.int i) .list = false := (rfl)
@[simp] theorem isA_int_own : isA bs m (.int i) (.own k) = false := (rfl)
@[simp] theorem isA_str_bool : isA bs m (.str s) .bool = false := (rfl)
@[simp] theorem isA_str_int : isA bs m (.str s) .int = false := (rfl)
@[simp] theorem isA_str_str : isA bs m (.str s) .str = true := (rfl)
@[simp] theorem isA_str_tuple : isA bs m (.str s) .tuple = false := (rfl)
@[simp] theorem isA_str_list : isA bs m (.str s) .list = false := (rfl)
@[simp] theorem isA_str_own : isA bs m (.str s) (.own k) = false := (rfl)
@[simp] theorem isA_tup_bool : isA bs m (.tup xs) .bool = false := (rfl)
@[simp] theorem isA_tup_int : isA bs m (.tup xs) .int = false := (rfl)
@[simp] theorem isA_tup_str : isA bs m (.tup xs) .str = false := (rfl)
@[simp] theorem isA_tup_tuple : isA bs m (.tup xs) .tuple = true := (rfl)
@[simp] theorem isA_tup_list : isA bs m (.tup xs) .list = false := (rfl)
@[simp] theorem isA_tup_own : isA bs m (.tup xs) (.own k) = false := (rfl)
@[simp] theorem isA_lst_bool : isA bs m (.lst xs) .bool = false := (rfl)
@[simp] theorem isA_lst_int : isA bs m (.lst xs) .int = false := (rfl)
@[simp] theorem isA_lst_str : isA bs m (.lst xs) .str = false := (rfl)
@[simp] theorem isA_lst_tuple : isA bs m (.lst xs) .tuple = false := (rfl)
@[simp] theorem isA_lst_list : isA bs m (.lst xs) .list = true := (rfl)
@[simp] theorem isA_lst_own : isA bs m (.lst xs) (.own k) = false := (rfl)
@[simp] theorem isA_obj_bool : isA bs m (.obj k fs) .bool = false := (rfl)
@[simp] theorem isA_obj_int : isA bs m (.obj k fs) .int = false := (rfl)
@[simp] theorem isA_obj_str : isA bs m (.obj k fs) .str = false := (rfl)
@[simp] theorem isA_obj_tuple : isA bs m (.obj k fs) .tuple = false := (rfl)
@[simp] theorem isA_obj_list : isA bs m (.obj k fs) .list = false := (rfl)
@[simp] theorem isA_obj_own {c : Nat} : isA bs m (.obj k fs) (.own c) = (bs k).contains c := (rfl)
@[simp] theorem isA_exc_own {c : Nat} : isA bs m (.exc k fs) (.own c) = (bs k).contains c := (rfl)
@[simp] theorem known_non : known m .non = true := (rfl)
@[simp] theorem known_bl : known m (.bl b) = true := (rfl)
@[simp] theorem known_int : known m (.int i) = true := (rfl)
@[simp] theorem known_str : known m (.str s) = true := (rfl)
@[simp] theorem known_tup : known m (.tup xs) = true := (rfl)
@[simp] theorem known_lst : known m (.lst xs) = true := (rfl)
@[simp] theorem known_obj : known m (.obj k fs) = true := (rfl)
@[simp] theorem known_exc : known m (.exc k fs) = true := (rfl)
end
end Gs
/-! GsCmp: comprehensions whose parts change nothing. -/
namespace Gs
open PySem
section
variable {g : Tgt} {t : Tst} {e : Ex} {ρ : Gs.Env} {w : Wk} {m : Mu}
/-- by the place -/
theorem comp_ix (n : Nat) (it : Nat → D) (p : Nat → Bool) (f : Nat → D) (hl : w.len = n) (hok : w.ok m = true) (hat : ∀ i, i < n → w.at_ i m = some (it i)) (hz : n ≤ 16777216)
    (step : ∀ i, i < n → @Op _ (g (it i) ρ) fun ρ2 => @Wp _ (t ρ2 m) (fun b m' => b = p i ∧ m' = m) noE ∧ (p i = true → @Wp _ (e ρ2 m) (fun v m' => v = f i ∧ m' = m) noE)) :
    compGo g t e ρ w w.len 0 [] m = .ok (((List.range n).filter p).map f) m := by
  refine eq_of_wp (Wp_compI (fun i ys m' => m' = m ∧ i ≤ n ∧ ys = ((List.range i).filter p).map f) ⟨rfl, by omega, by simp⟩ (fun i ys m' h => by rw [h.1]; exact hok) (fun i ys m' hi h => ?_) (fun ys m' h => ⟨by rw [h.2.2, hl], h.1⟩))
  obtain ⟨rfl, hin, rfl⟩ := h
  have hi2 : i < n := by omega
  rw [hat i hi2]
  simp only [Op_some]
  have st := step i hi2
  cases hg : g (it i) ρ with
  | none => rw [hg] at st; exact st.elim
  | some ρ2 =>
    rw [hg] at st
    simp only [Op_some] at st ⊢
    obtain ⟨s1, s2⟩ := st
    rw [eq_of_wp s1]
    simp only [Wp_ok]
    have e1 : List.range (i + 1) = List.range i ++ [i] := List.range_succ
    have hlen : (((List.range i).filter p).map f).length ≤ i := by
      rw [List.length_map]
      have := List.length_filter_le p (List.range i)
      simpa using this
    cases hp : p i with
    | true =>
      simp only [if_true]
      rw [eq_of_wp (s2 hp)]
      simp only [Wp_ok]
      refine ⟨by omega, trivial, by omega, by rw [e1, List.filter_append, List.map_append]; simp [hp]⟩
    | false =>
      simp only [Bool.false_eq_true, if_false]
      exact ⟨trivial, by omega, by rw [e1, List.filter_append]; simp [hp]⟩
theorem filter_true {α : Type} (l : List α) : l.filter (fun _ => true) = l := List.filter_eq_self.mpr fun _ _ => rfl
theorem range_map_get {α β : Type} (xs : List α) (d : α) (f : α → β) : (List.range xs.length).map (fun i => f (xs.getD i d)) = xs.map f := by
  apply List.ext_getElem
  · simp
  · intro i h1 h2
    have : i < xs.length := by simpa using h2
    simp [List.getD, List.getElem?_eq_getElem this]
theorem comp_mapL (xs : List D) (f : D → D) (hz : xs.length ≤ 16777216) (hp : ∀ x ∈ xs, rs m x = x) (step : ∀ x ∈ xs, @Op _ (g x ρ) fun ρ2 => @Wp _ (e ρ2 m) (fun v m' => v = f x ∧ m' = m) noE) :
    compGo g tYes e ρ (wkL xs) xs.length 0 [] m = .ok (xs.map f) m := by
  have h := comp_ix (g := g) (t := tYes) (e := e) (ρ := ρ) (w := wkL xs) (m := m) xs.length (fun i => xs.getD i .non) (fun _ => true) (fun i => f (xs.getD i .non)) rfl rfl
    (fun i hi => by simp [List.getD, List.getElem?_eq_getElem hi, hp _ (List.getElem_mem hi)]) hz (fun i hi => by
      have st := step _ (List.getElem_mem hi)
      have e1 : xs.getD i .non = xs[i] := by simp [List.getD, List.getElem?_eq_getElem hi]
      rw [e1]
      cases hg : g xs[i] ρ with
      | none => rw [hg] at st; exact st.elim
      | some ρ2 => rw [hg] at st; exact ⟨⟨rfl, rfl⟩, fun _ => st⟩)
  rw [wkL_len] at h
  rw [h, filter_true, range_map_get]
theorem filter_range_get {α β : Type} (xs : List α) (d : α) (p : α → Bool) (f : α → β) : ((List.range xs.length).filter (fun i => p (xs.getD i d))).map (fun i => f (xs.getD i d)) = (xs.filter p).map f := by
  have h1 : (xs.filter p) = (((List.range xs.length).filter (fun i => p (xs.getD i d))).map (fun i => xs.getD i d)) := by
    have := range_map_get xs d id
    conv => lhs; rw [← (show (List.range xs.length).map (fun i => xs.getD i d) = xs from by simpa using this)]
    rw [List.filter_map]
    rfl
  rw [h1, List.map_map]
  rfl
theorem comp_filL (xs : List D) (p : D → Bool) (f : D → D) (hz : xs.length ≤ 16777216) (hp : ∀ x ∈ xs, rs m x = x) (step : ∀ x ∈ xs, @Op _ (g x ρ) fun ρ2 => @Wp _ (t ρ2 m) (fun b m' => b = p x ∧ m' = m) noE ∧ (p x = true → @Wp _ (e ρ2 m) (fun v m' => v = f x ∧ m' = m) noE)) :
    compGo g t e ρ (wkL xs) xs.length 0 [] m = .ok ((xs.filter p).map f) m := by
  have h := comp_ix (g := g) (t := t) (e := e) (ρ := ρ) (w := wkL xs) (m := m) xs.length (fun i => xs.getD i .non) (fun i => p (xs.getD i .non)) (fun i => f (xs.getD i .non)) rfl rfl
    (fun i hi => by simp [List.getD, List.getElem?_eq_getElem hi, hp _ (List.getElem_mem hi)]) hz (fun i hi => by
      have st := step _ (List.getElem_mem hi)
      have e1 : xs.getD i .non = xs[i] := by simp [List.getD, List.getElem?_eq_getElem hi]
      rw [e1]
      exact st)
  rw [wkL_len] at h
  rw [h, filter_range_get]
theorem comp_mapR {lo : Int} (n : Nat) (f : Nat → D) (hz : n ≤ 16777216) (step : ∀ i, i < n → @Op _ (g (.int (lo + i)) ρ) fun ρ2 => @Wp _ (e ρ2 m) (fun v m' => v = f i ∧ m' = m) noE) :
    compGo g tYes e ρ (wkRng lo n) n 0 [] m = .ok ((List.range n).map f) m := by
  have h := comp_ix (g := g) (t := tYes) (e := e) (ρ := ρ) (w := wkRng lo n) (m := m) n (fun i => .int (lo + i)) (fun _ => true) f rfl rfl (fun i hi => rfl) hz (fun i hi => by
      have st := step i hi
      cases hg : g (.int (lo + i)) ρ with
      | none => rw [hg] at st; exact st.elim
      | some ρ2 => rw [hg] at st; exact ⟨⟨rfl, rfl⟩, fun _ => st⟩)
  rw [wkRng_len] at h
  rw [h, filter_true]
theorem comp_filR {lo : Int} (n : Nat) (p : Nat → Bool) (f : Nat → D) (hz : n ≤ 16777216) (step : ∀ i, i < n → @Op _ (g (.int (lo + i)) ρ) fun ρ2 => @Wp _ (t ρ2 m) (fun b m' => b = p i ∧ m' = m) noE ∧ (p i = true → @Wp _ (e ρ2 m) (fun v m' => v = f i ∧ m' = m) noE)) :
    compGo g t e ρ (wkRng lo n) n 0 [] m = .ok (((List.range n).filter p).map f) m := by
  have h := comp_ix (g := g) (t := t) (e := e) (ρ := ρ) (w := wkRng lo n) (m := m) n (fun i => .int (lo + i)) p f rfl rfl (fun i hi => rfl) hz step
  rw [wkRng_len] at h
  exact h
theorem comp_filE (xs : List D) (p : Nat → Bool) (f : Nat → D) (hz : xs.length ≤ 16777216) (hp : ∀ x ∈ xs, rs m x = x) (step : ∀ i (hi : i < xs.length), @Op _ (g (.tup [.int i, xs[i]]) ρ) fun ρ2 => @Wp _ (t ρ2 m) (fun b m' => b = p i ∧ m' = m) noE ∧ (p i = true → @Wp _ (e ρ2 m) (fun v m' => v = f i ∧ m' = m) noE)) :
    compGo g t e ρ (wkEnum (wkL xs)) xs.length 0 [] m = .ok (((List.range xs.length).filter p).map f) m := by
  have h := comp_ix (g := g) (t := t) (e := e) (ρ := ρ) (w := wkEnum (wkL xs)) (m := m) xs.length (fun i => .tup [.int i, xs.getD i .non]) p f rfl rfl (fun i hi => by simp [List.getD, List.getElem?_eq_getElem hi, hp _ (List.getElem_mem hi)]) hz (fun i hi => by
      have st := step i hi
      have e1 : xs.getD i .non = xs[i] := by simp [List.getD, List.getElem?_eq_getElem hi]
      rw [e1]
      exact st)
  rw [wkEnum_len, wkL_len] at h
  exact h
end
theorem all_step {α : Type} {p : α → Bool} {xs : List α} {i : Nat} (h : ∀ j, j < i → ∀ x, xs[j]? = some x → p x = true) {x : α} (hx : xs[i]? = some x) (hp : p x = true) : ∀ j, j < i + 1 → ∀ x, xs[j]? = some x → p x = true := by
  intro j hj y hy
  by_cases e : j = i
  · subst e; rw [hx] at hy; cases hy; exact hp
  · exact h j (by omega) y hy
theorem all_end {α : Type} {p : α → Bool} {xs : List α} (h : ∀ j, j < xs.length → ∀ x, xs[j]? = some x → p x = true) : xs.all p = true :=
  List.all_eq_true.mpr fun x hx => by
    obtain ⟨j, hj, e⟩ := List.getElem_of_mem hx
    exact h j hj x (by rw [List.getElem?_eq_getElem hj, e])
theorem all_fail {α : Type} {p : α → Bool} {xs : List α} {i : Nat} {x : α} (hx : xs[i]? = some x) (hp : p x = false) : xs.all p = false := by
  cases h : xs.all p with
  | false => rfl
  | true =>
    have := List.all_eq_true.mp h x (List.mem_of_getElem? hx)
    rw [hp] at this; cases this
/-- a for loop over n items, by an invariant -/
theorem Ws_forN {g : Tgt} {b : Stm} {w : Wk} {ρ : Gs.Env} {m : Mu} {K : SK} {n : Nat} (hn : w.len = n) (I : Nat → Gs.Env → Mu → Prop) (h0 : I 0 ρ m) (hok : ∀ i ρ m, I i ρ m → w.ok m = true)
    (step : ∀ i ρ m, i < n → I i ρ m → @Op _ (w.at_ i m) fun x => @Op _ (g x ρ) fun ρ1 => @Ws (b ρ1 m) { K with nx := I (i + 1), ct := I (i + 1), bk := K.nx })
    (hend : ∀ ρ m, I n ρ m → K.nx ρ m) : @Ws (forGo g b w n 0 ρ m) K := by
  subst hn
  exact Ws_forI I h0 hok step hend
theorem Wp_compN {g : Tgt} {t : Tst} {e : Ex} {w : Wk} {ρ : Gs.Env} {m : Mu} {n : Nat} {qs : List D → Mu → Prop} (hn : w.len = n) (I : Nat → List D → Mu → Prop) (h0 : I 0 [] m) (hok : ∀ i ys m, I i ys m → w.ok m = true)
    (step : ∀ i ys m, i < n → I i ys m → @Op _ (w.at_ i m) fun x => @Op _ (g x ρ) fun ρ2 => @Wp _ (t ρ2 m) (fun b m2 => if b then @Wp _ (e ρ2 m2) (fun y m3 => ys.length < 16777216 ∧ I (i + 1) (ys ++ [y]) m3) noE else I (i + 1) ys m2) noE)
    (hend : ∀ ys m, I n ys m → qs ys m) : @Wp _ (compGo g t e ρ w n 0 [] m) qs noE := by
  subst hn
  exact Wp_compI I h0 hok step hend
/-- a loop that looks for an item that fails, and returns False there -/
theorem Ws_forAll {g : Tgt} {b : Stm} {ρ : Gs.Env} {m : Mu} {K : SK} (xs : List D) (p : D → Bool) (I : Gs.Env → Prop) (h0 : I ρ) (hp : ∀ x ∈ xs, rs m x = x)
    (step : ∀ i (hi : i < xs.length) ρ, I ρ → (∀ j, j < i → ∀ x, xs[j]? = some x → p x = true) → @Op _ (g xs[i] ρ) fun ρ1 => @Ws (b ρ1 m) ⟨fun ρ' m' => m' = m ∧ I ρ' ∧ p xs[i] = true, fun v m' => v = .bl false ∧ m' = m ∧ p xs[i] = false, fun _ _ => False, fun ρ' m' => m' = m ∧ I ρ' ∧ p xs[i] = true, fun _ _ _ _ => False⟩)
    (hT : ∀ ρ, I ρ → xs.all p = true → K.nx ρ m) (hF : xs.all p = false → K.rt (.bl false) m) : @Ws (forGo g b (wkL xs) xs.length 0 ρ m) K := by
  refine Ws_forI (w := wkL xs) (fun i ρ m' => m' = m ∧ I ρ ∧ ∀ j, j < i → ∀ x, xs[j]? = some x → p x = true) ⟨rfl, h0, fun j hj => by omega⟩ (fun _ _ _ _ => rfl) ?_ ?_
  · rintro i ρ m' hi ⟨rfl, hI, hal⟩
    have hi2 : i < xs.length := by simpa using hi
    have hxi : xs[i]? = some xs[i] := List.getElem?_eq_getElem hi2
    have st := step i hi2 ρ hI hal
    simp only [wkL_at, hxi, Option.map_some, hp _ (List.getElem_mem hi2), Op_some]
    cases hg : g xs[i] ρ with
    | none => rw [hg] at st; exact st.elim
    | some ρ1 =>
      rw [hg] at st
      simp only [Op_some] at st ⊢
      refine Ws.imp st ?_ ?_ (fun _ _ z => z.elim) ?_ (fun _ _ _ _ z => z.elim)
      · rintro ρ2 m2 ⟨rfl, h1, h2⟩
        exact ⟨rfl, h1, all_step hal hxi h2⟩
      · rintro v m2 ⟨rfl, rfl, h2⟩
        exact hF (all_fail hxi h2)
      · rintro ρ2 m2 ⟨rfl, h1, h2⟩
        exact ⟨rfl, h1, all_step hal hxi h2⟩
  · rintro ρ m' ⟨rfl, hI, hal⟩
    exact hT ρ hI (all_end hal)
/-! methods of lists of the store -/
section
variable {m : Mu} {n k na : Nat} {xs : List D} {v : D} {q : D → Mu → Prop} {E : EK} {run : Gs.Run} {mp : Nat → Nat → Option (List Nat × List D)} {a b : M (List D)}
theorem Wp_methL (hk : lstM k = true) (h : m.get n = some (.lst xs)) : @Wp _ (methK run mp k na [] a b (.ref n) m) q E = @Wp _ (a m) (fun ds m => @Wp _ (bMeth k (.ref n) ds m) q E) E :=
  Wp_methB (by simp [clsOf, h]) rfl (by simp [bTy, vw_refL h, hk])
theorem Wp_append (hk : k = m_append) (h : m.get n = some (.lst xs)) (hl : xs.length < 16777216) : @Wp _ (bMeth k (.ref n) [v] m) q E = q .non (m.put n (.lst (xs ++ [v]))) := by
  subst hk
  have e : Nat.beq m_append m_append = true := Nat.beq_refl _
  have hb : Nat.blt xs.length 16777216 = true := by simpa [Nat.blt_eq] using hl
  unfold bMeth
  simp only [e, if_true]
  unfold retN oAppend
  simp only [h, hb, if_true]
  simp only [Wp_ok]
theorem Wp_pop (hk : k = m_pop) (h : m.get n = some (.lst xs)) {y : D} (hy : xs[xs.length - 1]? = some y) : @Wp _ (bMeth k (.ref n) [] m) q E = q (rs m y) (m.put n (.lst xs.dropLast)) := by
  subst hk
  have e : Nat.beq m_pop m_pop = true := Nat.beq_refl _
  unfold bMeth
  simp only [e, if_true]
  unfold mPop
  simp only [h, hy, Wp_ok]
end
theorem blsOf_map (l : List Bool) : blsOf (l.map D.bl) = some l := by
  induction l with
  | nil => rfl
  | cons b l ih => simp [blsOf, ih]
theorem intsOf_map (l : List Int) : intsOf (l.map D.int) = some l := by
  induction l with
  | nil => rfl
  | cons b l ih => simp [intsOf, ih]
theorem oAll_map {m : Mu} {α : Type} (xs : List α) (p : α → Bool) : oAll m (.lst (xs.map fun x => .bl (p x))) = some (.bl (xs.all p)) := by
  have : (xs.map fun x => D.bl (p x)) = (xs.map p).map D.bl := by rw [List.map_map]; rfl
  unfold oAll
  rw [this, vw_lst]
  simp only [blsOf_map, Option.map_some]
  simp [List.all_map]
theorem oAny_map {m : Mu} {α : Type} (xs : List α) (p : α → Bool) : oAny m (.lst (xs.map fun x => .bl (p x))) = some (.bl (xs.any p)) := by
  have : (xs.map fun x => D.bl (p x)) = (xs.map p).map D.bl := by rw [List.map_map]; rfl
  unfold oAny
  rw [this, vw_lst]
  simp only [blsOf_map, Option.map_some]
  simp [List.any_map]
theorem oSum_map {m : Mu} {α : Type} (xs : List α) (f : α → Int) : oSum m (.lst (xs.map fun x => .int (f x))) = some (.int (xs.map f).sum) := by
  have : (xs.map fun x => D.int (f x)) = (xs.map f).map D.int := by rw [List.map_map]; rfl
  unfold oSum sq
  rw [this, vw_lst]
  simp only [intsOf_map, Option.map_some]
end Gs
namespace Gs
open PySem
section
variable {m : Mu} {i j : Int} {xs ys : List D}
theorem oMulS (h1 : -18446744073709551616 < i) (h2 : i < 18446744073709551616) (h3 : -18446744073709551616 < j) (h4 : j < 18446744073709551616) : oMul m (.int i) (.int j) = some (.int (i * j)) :=
  oMul_small (a := 64) (b := 64) (by omega) (by omega)
theorem oFdivS (h : 0 < j) (g : j < 18446744073709551616) : oFdiv m (.int i) (.int j) = some (.int (i / j)) := oFdiv_int h (by omega)
theorem Op_pick {Q : D → Prop} (P : D → Prop) (h0 : 0 ≤ i) (h1 : i < xs.length) (hP : ∀ x ∈ xs, P x) (hQ : ∀ x, P x → L2.atI xs i = some x → Q (rs m x)) : @Op _ ((L2.atI xs i).map (rs m)) Q := by
  have hi : i.toNat < xs.length := by omega
  have e : L2.atI xs i = some xs[i.toNat] := by rw [atI_toNat h0, List.getElem?_eq_getElem hi]
  rw [e]
  exact hQ _ (hP _ (List.getElem_mem hi)) e
theorem at_pick {α : Type} {xs : List α} (P : α → Prop) (h0 : 0 ≤ i) (h1 : i < xs.length) (hP : ∀ x ∈ xs, P x) : ∃ x, L2.atI xs i = some x ∧ P x := by
  have hi : i.toNat < xs.length := by omega
  exact ⟨xs[i.toNat], by rw [atI_toNat h0, List.getElem?_eq_getElem hi], hP _ (List.getElem_mem hi)⟩
theorem Aft.trans' {l l2 : List Nat} {m1 m2 m3 : Mu} (a : Aft l m1 m2) (b : Aft l2 m2 m3) (h : ∀ k ∈ l2, k ∈ l ∨ m1.nx ≤ k) : Aft l m1 m3 :=
  ⟨Nat.le_trans a.nx b.nx, fun k h1 h2 => (b.get k (Nat.lt_of_lt_of_le h1 a.nx) (fun h3 => by
    rcases h k h3 with h4 | h4
    · exact h2 h4
    · omega)).trans (a.get k h1 h2), fun g => b.good (a.good g)⟩
theorem Aft.mem {l : List Nat} {m1 m2 : Mu} (a : Aft l m1 m2) {k : Nat} {c : Cell} (h : m1.get k = some c) (hk : k < m1.nx) (hl : k ∉ l) : m2.get k = some c := (a.get k hk hl).trans h
theorem Aft.lt {l : List Nat} {m1 m2 : Mu} (a : Aft l m1 m2) {k : Nat} (hk : k < m1.nx) : k < m2.nx := Nat.lt_of_lt_of_le hk a.nx
theorem good_lt {k : Nat} {c : Cell} (g : m.good) (h : m.get k = some c) : k < m.nx := g k c h
structure Own (m : Mu) (r : Nat) (c : Cell) : Prop where
  get : m.get r = some c
  lt : r < m.nx
theorem Own.aft {l : List Nat} {m1 m2 : Mu} {r : Nat} {c : Cell} (o : Own m1 r c) (a : Aft l m1 m2) (hl : r ∉ l) : Own m2 r c := ⟨a.mem o.get o.lt hl, a.lt o.lt⟩
theorem Own.put {r : Nat} {c c' : Cell} (o : Own m r c) : Own (m.put r c') r c' := ⟨get_put_same o.get, o.lt⟩
theorem Own.putN {r n : Nat} {c c' : Cell} (o : Own m r c) (h : r ≠ n) : Own (m.put n c') r c := ⟨by rw [get_put_ne h]; exact o.get, o.lt⟩
theorem Own.new {r : Nat} {c c' : Cell} (o : Own m r c) : Own (m.new c') r c := ⟨by rw [get_new_ne (by have := o.lt; omega)]; exact o.get, by have := o.lt; simp; omega⟩
theorem own_new {c : Cell} : Own (m.new c) m.nx c := ⟨get_new_same, by simp⟩
theorem Own.rs {r : Nat} (o : Own m r (.lst xs)) : rs m (.ref r) = .ref r := rs_refL o.get
theorem Own.vw {r : Nat} (o : Own m r (.lst xs)) : vw m (.ref r) = .lst xs := vw_refL o.get
theorem Own.fz {r : Nat} {d : D} (o : Own m r (.frz d)) : Gs.rs m (.ref r) = d := rs_refF o.get
theorem Own.ne {r k : Nat} {c : Cell} (o : Own m r c) (h : m.nx ≤ k) : r ≠ k := by have := o.lt; omega
end
theorem tup_dat {xs : List D} {k : Nat} (hl : xs.length ≤ 16777216) (h : ∀ x ∈ xs, D.dat k x = true) : D.dat (k + 1) (.tup xs) = true := by
  simp only [D.dat, Bool.and_eq_true, decide_eq_true_eq]
  exact ⟨hl, List.all_eq_true.mpr h⟩
theorem lst_dat {xs : List D} {k : Nat} (hl : xs.length ≤ 16777216) (h : ∀ x ∈ xs, D.dat k x = true) : D.dat (k + 1) (.lst xs) = true := by
  simp only [D.dat, Bool.and_eq_true, decide_eq_true_eq]
  exact ⟨hl, List.all_eq_true.mpr h⟩
theorem dat_tup {xs : List D} {k : Nat} (h : D.dat (k + 1) (.tup xs) = true) : xs.length ≤ 16777216 ∧ ∀ x ∈ xs, D.dat k x = true := by
  simp only [D.dat, Bool.and_eq_true, decide_eq_true_eq] at h
  exact ⟨h.1, fun x hx => List.all_eq_true.mp h.2 x hx⟩
theorem dat_lst {xs : List D} {k : Nat} (h : D.dat (k + 1) (.lst xs) = true) : xs.length ≤ 16777216 ∧ ∀ x ∈ xs, D.dat k x = true := by
  simp only [D.dat, Bool.and_eq_true, decide_eq_true_eq] at h
  exact ⟨h.1, fun x hx => List.all_eq_true.mp h.2 x hx⟩
def D.shp : Nat → Nat → D → Bool
  | _, _, .non => true
  | _, _, .bl _ => true
  | _, _, .int _ => true
  | _, _, .str s => PyData.strOk s && decide (s.length ≤ 16777216)
  | n + 1, l, .tup xs => decide (xs.length ≤ l) && xs.all (D.shp n l)
  | n + 1, l, .lst xs => decide (xs.length ≤ l) && xs.all (D.shp n l)
  | _, _, _ => false
section
variable {m : Mu} {n k : Nat} {xs : List D} {q : D → Mu → Prop} {E : EK}
theorem Wp_reverse (hk : k = m_reverse) (h : m.get n = some (.lst xs)) : @Wp _ (bMeth k (.ref n) [] m) q E = q .non (m.put n (.lst xs.reverse)) := by
  subst hk
  have e : Nat.beq m_reverse m_reverse = true := Nat.beq_refl _
  have e2 : Nat.beq m_reverse m_pop = false := by decide +kernel
  have e3 : Nat.beq m_reverse m_append = false := by decide +kernel
  unfold bMeth
  simp only [e, e2, e3, if_true, Bool.false_eq_true, if_false]
  unfold retN oReverse
  simp only [h, Wp_ok]
end
structure LstK (m : Mu) (r N : Nat) (P : D → Prop) : Prop where
  ex : ∃ xs, m.get r = some (.lst xs) ∧ xs.length ≤ N ∧ ∀ x ∈ xs, P x
  lt : r < m.nx
  pos : 0 < r
theorem LstK.aft {l : List Nat} {m m' : Mu} {r N : Nat} {P : D → Prop} (V : LstK m r N P) (a : Aft l m m') (hl : r ∉ l) : LstK m' r N P := by
  obtain ⟨xs, h1, h2, h3⟩ := V.ex
  exact ⟨⟨xs, a.mem h1 V.lt hl, h2, h3⟩, a.lt V.lt, V.pos⟩
theorem LstK.le {m : Mu} {r N N' : Nat} {P : D → Prop} (V : LstK m r N P) (h : N ≤ N') : LstK m r N' P := by
  obtain ⟨xs, h1, h2, h3⟩ := V.ex
  exact ⟨⟨xs, h1, by omega, h3⟩, V.lt, V.pos⟩
theorem LstK.rs {m : Mu} {r N : Nat} {P : D → Prop} (V : LstK m r N P) : Gs.rs m (.ref r) = .ref r := by
  obtain ⟨xs, h1, h2, h3⟩ := V.ex
  exact rs_refL h1
theorem LstK.newK {m : Mu} {xs : List D} {N : Nat} {P : D → Prop} (h0 : 0 < m.nx) (h : xs.length ≤ N) (hP : ∀ x ∈ xs, P x) : LstK (m.new (.lst xs)) m.nx N P := ⟨⟨xs, get_new_same, h, hP⟩, by simp, h0⟩
theorem LstK.meth {m : Mu} {r N : Nat} {P : D → Prop} {k na : Nat} {q : D → Mu → Prop} {E : EK} {run : Gs.Run} {mp : Nat → Nat → Option (List Nat × List D)} {a b : M (List D)} (V : LstK m r N P) (hk : lstM k = true) : @Wp _ (methK run mp k na [] a b (.ref r) m) q E = @Wp _ (a m) (fun ds m => @Wp _ (bMeth k (.ref r) ds m) q E) E := by
  obtain ⟨xs, h1, h2, h3⟩ := V.ex
  exact Wp_methL hk h1
theorem LstK.app {m : Mu} {r N : Nat} {P : D → Prop} {k : Nat} {v : D} {q : D → Mu → Prop} {E : EK} (V : LstK m r N P) (hk : k = m_append) (hN : N < 16777216) (hv : P v) (hq : ∀ m', LstK m' r (N + 1) P → Aft [r] m m' → q .non m') : @Wp _ (bMeth k (.ref r) [v] m) q E := by
  obtain ⟨xs, h1, h2, h3⟩ := V.ex
  rw [Wp_append hk h1 (by omega)]
  refine hq _ ⟨⟨_, get_put_same h1, by simp; omega, ?_⟩, V.lt, V.pos⟩ (aft_put (by simp))
  intro x hx
  rcases List.mem_append.mp hx with hx | hx
  · exact h3 x hx
  · simp at hx; subst hx; exact hv
theorem LstK.frz {m : Mu} {r N : Nat} {P : D → Prop} {q : D → Mu → Prop} {E : EK} (V : LstK m r N P) (hq : ∀ xs m', xs.length ≤ N → (∀ x ∈ xs, P x) → Aft [r] m m' → q (.lst xs) m') : @Wp _ (frzD (.ref r) m) q E := by
  obtain ⟨xs, h1, h2, h3⟩ := V.ex
  rw [Wp_frzL h1]
  exact hq _ _ h2 h3 (aft_put (by simp))
theorem Aft.aft {l0 l : List Nat} {m0 m m' : Mu} (A : Aft l0 m0 m) (a : Aft l m m') (h : ∀ k ∈ l, k ∈ l0 ∨ m0.nx ≤ k) : Aft l0 m0 m' := A.trans' a h
theorem mutK {m : Mu} {xs : List D} {q : D → Mu → Prop} {E : EK} (N : Nat) (P : D → Prop) (h0 : 0 < m.nx) (hl : xs.length ≤ N) (hP : ∀ x ∈ xs, P x) (k : ∀ r m', m.nx ≤ r → LstK m' r N P → Aft [] m m' → q (.ref r) m') : @Wp _ (mutD (.lst xs) m) q E := by
  rw [Wp_mutL]
  exact k _ _ (Nat.le_refl _) (LstK.newK h0 hl hP) aft_new
theorem mutO {m : Mu} {xs : List D} {q : D → Mu → Prop} {E : EK} (h0 : 0 < m.nx) (k : ∀ r m', m.nx ≤ r → 0 < r → Own m' r (.lst xs) → Aft [] m m' → q (.ref r) m') : @Wp _ (mutD (.lst xs) m) q E := by
  rw [Wp_mutL]
  exact k _ _ (Nat.le_refl _) h0 own_new aft_new
theorem Own.app {m : Mu} {r : Nat} {xs : List D} {k : Nat} {v : D} {q : D → Mu → Prop} {E : EK} (o : Own m r (.lst xs)) (hk : k = m_append) (hN : xs.length < 16777216) (hq : ∀ m', Own m' r (.lst (xs ++ [v])) → Aft [r] m m' → q .non m') : @Wp _ (bMeth k (.ref r) [v] m) q E := by
  rw [Wp_append hk o.get hN]
  exact hq _ o.put (aft_put (by simp))
theorem Own.meth {m : Mu} {r : Nat} {xs : List D} {k na : Nat} {q : D → Mu → Prop} {E : EK} {run : Gs.Run} {mp : Nat → Nat → Option (List Nat × List D)} {a b : M (List D)} (o : Own m r (.lst xs)) (hk : lstM k = true) : @Wp _ (methK run mp k na [] a b (.ref r) m) q E = @Wp _ (a m) (fun ds m => @Wp _ (bMeth k (.ref r) ds m) q E) E := Wp_methL hk o.get
theorem Own.rev {m : Mu} {r : Nat} {xs : List D} {k : Nat} {q : D → Mu → Prop} {E : EK} (o : Own m r (.lst xs)) (hk : k = m_reverse) (hq : ∀ m', Own m' r (.lst xs.reverse) → Aft [r] m m' → q .non m') : @Wp _ (bMeth k (.ref r) [] m) q E := by
  rw [Wp_reverse hk o.get]
  exact hq _ o.put (aft_put (by simp))
theorem Own.set {m : Mu} {r : Nat} {xs : List D} {i : Int} {v : D} {Q : Mu → Prop} (o : Own m r (.lst xs)) (h0 : 0 ≤ i) (h1 : i < xs.length) (hq : ∀ m', Own m' r (.lst (xs.set i.toNat v)) → Aft [r] m m' → Q m') : @Op _ (putItem (.ref r) (.int i) v m) Q := by
  have hk : L2.ixN xs.length i = some i.toNat := by
    obtain ⟨k, rfl⟩ : ∃ k : Nat, i = k := ⟨i.toNat, by omega⟩
    rw [ixN_nat (by omega)]; simp
  rw [putItem_ref o.get hk]
  exact hq _ o.put (aft_put (by simp))
theorem LstK.set {m : Mu} {r N : Nat} {P : D → Prop} {i : Int} {v : D} {Q : Mu → Prop} (V : LstK m r N P) (hi : ∀ xs : List D, m.get r = some (.lst xs) → 0 ≤ i ∧ i < xs.length) (hv : P v) (hq : ∀ m', LstK m' r N P → Aft [r] m m' → Q m') : @Op _ (putItem (.ref r) (.int i) v m) Q := by
  obtain ⟨xs, h1, h2, h3⟩ := V.ex
  obtain ⟨a, b⟩ := hi xs h1
  refine Own.set ⟨h1, V.lt⟩ a b fun m' o A => hq _ ⟨⟨_, o.get, by simpa using h2, fun x hx => ?_⟩, o.lt, V.pos⟩ A
  rcases List.mem_or_eq_of_mem_set hx with h | h
  · exact h3 x h
  · subst h; exact hv
theorem Own.frz {m : Mu} {r : Nat} {xs : List D} {q : D → Mu → Prop} {E : EK} (o : Own m r (.lst xs)) (hq : ∀ m', Own m' r (.frz (.lst xs)) → Aft [r] m m' → q (.lst xs) m') : @Wp _ (frzD (.ref r) m) q E := by
  rw [Wp_frzL o.get]
  exact hq _ o.put (aft_put (by simp))
theorem Own.len {m : Mu} {r : Nat} {xs : List D} (o : Own m r (.lst xs)) : oLen m (.ref r) = some (.int xs.length) := oLen_ref o.get
theorem Own.tuple {m : Mu} {r : Nat} {xs : List D} (o : Own m r (.lst xs)) : oTuple m (.ref r) = some (.tup xs) := oTuple_ref o.get
theorem Own.list {m : Mu} {r : Nat} {xs : List D} (o : Own m r (.lst xs)) : oList m (.ref r) = some (.lst xs) := oList_ref o.get
theorem Own.item {m : Mu} {r : Nat} {xs : List D} {i : Int} (o : Own m r (.lst xs)) : oItem m (.ref r) (.int i) = (L2.atI xs i).map (Gs.rs m) := oItem_ref o.get
theorem Own.wk {m : Mu} {r : Nat} {xs : List D} (o : Own m r (.lst xs)) : wkOf m (.ref r) = some (wkRef r xs.length) := wkOf_refL o.get
theorem LstK.add {m : Mu} {r N : Nat} {P : D → Prop} {ys : List D} (V : LstK m r N P) (hl : N + ys.length ≤ 16777216) (hy : ∀ y ∈ ys, P y) : ∃ zs, oAdd m (.ref r) (.lst ys) = some (.lst zs) ∧ zs.length ≤ N + ys.length ∧ ∀ z ∈ zs, P z := by
  obtain ⟨xs, h1, h2, h3⟩ := V.ex
  refine ⟨xs ++ ys, ?_, by simp; omega, fun z hz => ?_⟩
  · have : lineOk (xs.length + ys.length) = true := by simp [lineOk_eq]; omega
    simp only [oAdd, vw_refL h1, vw_lst, this, if_true]
  · rcases List.mem_append.mp hz with h | h
    · exact h3 z h
    · exact hy z h
theorem oRg1_ok {m : Mu} {mk : List D → D} {j : Int} (h1 : -1000000 ≤ j) (h2 : j ≤ 1000000) : oRg1 mk m (.int j) = some (mk (rgD 0 j)) := by
  have : rgB 0 j = true := by simp [rgB]; omega
  simp [oRg1, this]
theorem oRg2_ok {m : Mu} {mk : List D → D} {i j : Int} (h1 : -1000000 ≤ i) (h1' : i ≤ 1000000) (h2 : -1000000 ≤ j) (h2' : j ≤ 1000000) : oRg2 mk m (.int i) (.int j) = some (mk (rgD i j)) := by
  have : rgB i j = true := by simp [rgB]; omega
  simp [oRg2, this]
theorem rgD_len {i j : Int} : (rgD i j).length = (j - i).toNat := by simp [rgD]
theorem rgD_mem {i j : Int} {x : D} (h : x ∈ rgD i j) : ∃ k : Int, x = .int k ∧ i ≤ k ∧ k < j := by
  simp only [rgD, List.mem_map, List.mem_range] at h
  obtain ⟨k, hk, e⟩ := h
  exact ⟨i + k, e.symm, by omega, by omega⟩
@[simp] theorem oCut_tup {m : Mu} {xs : List D} {lo hi : Option Int} : oCut m (.tup xs) lo hi = some (.tup (cutD xs lo hi)) := (rfl)
@[simp] theorem oCut_lst {m : Mu} {xs : List D} {lo hi : Option Int} : oCut m (.lst xs) lo hi = some (.lst (cutD xs lo hi)) := (rfl)
@[simp] theorem cutD_to {xs : List D} {k : Nat} : cutD xs none (some (k : Int)) = xs.take k := by
  unfold cutD
  rw [HT.sIx_none, HT.sIx_nat]
  simp [List.take_eq_take_iff]
@[simp] theorem cutD_from {xs : List D} {k : Nat} : cutD xs (some (k : Int)) none = xs.drop k := by
  unfold cutD
  rw [HT.sIx_none, HT.sIx_nat]
  rcases Nat.le_total k xs.length with h | h
  · rw [Nat.min_eq_left h, List.take_of_length_le (by simp)]
  · rw [Nat.min_eq_right h, List.drop_eq_nil_of_le h]; simp
theorem cutD_nat {xs : List D} {j k : Nat} : cutD xs (some (j : Int)) (some (k : Int)) = (xs.drop j).take (k - j) := by
  unfold cutD
  rw [HT.sIx_nat, HT.sIx_nat]
  rcases Nat.le_total j xs.length with h | h
  · rw [Nat.min_eq_left h]
    rcases Nat.le_total k xs.length with h2 | h2
    · rw [Nat.min_eq_left h2]
    · rw [Nat.min_eq_right h2, List.take_of_length_le (by simp), List.take_of_length_le (by simp; omega)]
  · rw [Nat.min_eq_right h, List.drop_eq_nil_of_le h, List.drop_eq_nil_of_le (Nat.le_refl _)]; simp
@[simp] theorem cutD_all {xs : List D} : cutD xs none none = xs := by
  unfold cutD
  rw [HT.sIx_none, HT.sIx_none]; simp
theorem cut_sub {xs : List D} {lo hi : Option Int} {x : D} (h : x ∈ cutD xs lo hi) : x ∈ xs := List.mem_of_mem_drop (List.mem_of_mem_take h)
theorem cut_len {xs : List D} {lo hi : Option Int} : (cutD xs lo hi).length ≤ xs.length := by
  unfold cutD; simp; omega
theorem Ws_forL {g : Tgt} {b : Stm} {ρ : Gs.Env} {m : Mu} {K : SK} {n : Nat} (xs : List D) (P : D → Prop) (hn : xs.length = n) (hP : ∀ x ∈ xs, x.pl = true ∧ P x) (I : Nat → Gs.Env → Mu → Prop) (h0 : I 0 ρ m)
    (step : ∀ i ρ m x, i < n → xs[i]? = some x → x.pl = true → P x → I i ρ m → @Op _ (g x ρ) fun ρ1 => @Ws (b ρ1 m) { K with nx := I (i + 1), ct := I (i + 1), bk := K.nx })
    (hend : ∀ ρ m, I n ρ m → K.nx ρ m) : @Ws (forGo g b (wkL xs) n 0 ρ m) K := by
  refine Ws_forN (w := wkL xs) hn I h0 (fun _ _ _ _ => rfl) (fun i ρ m hi hI => ?_) hend
  have hi2 : i < xs.length := by omega
  have hx : xs[i]? = some xs[i] := List.getElem?_eq_getElem hi2
  obtain ⟨p1, p2⟩ := hP _ (List.getElem_mem hi2)
  simp only [wkL_at, hx, Option.map_some, rs_pl p1, Op_some]
  exact step i ρ m _ hi hx p1 p2 hI
theorem Ws_forR {g : Tgt} {b : Stm} {ρ : Gs.Env} {m : Mu} {K : SK} {lo : Int} {n : Nat} (I : Nat → Gs.Env → Mu → Prop) (h0 : I 0 ρ m)
    (step : ∀ (i : Nat) ρ m, i < n → I i ρ m → @Op _ (g (.int (lo + i)) ρ) fun ρ1 => @Ws (b ρ1 m) { K with nx := I (i + 1), ct := I (i + 1), bk := K.nx })
    (hend : ∀ ρ m, I n ρ m → K.nx ρ m) : @Ws (forGo g b (wkRng lo n) n 0 ρ m) K :=
  Ws_forN (w := wkRng lo n) rfl I h0 (fun _ _ _ _ => rfl) (fun i ρ m hi hI => by simp only [wkRng_at, Op_some]; exact step i ρ m hi hI) hend
theorem dat_pl2 {k : Nat} {xs : List D} (h : ∀ x ∈ xs, D.dat k x = true) : ∀ x ∈ xs, x.pl = true ∧ D.dat k x = true := fun x hx => ⟨dat_pl (h x hx), h x hx⟩
section
variable {m : Mu} {i j : Int} {xs ys : List D} {s : Str} {Q : D → Prop} {QW : Wk → Prop} {mk : List D → D}
theorem Op_addT (h : xs.length + ys.length ≤ 16777216) (q : Q (.tup (xs ++ ys))) : @Op _ (oAdd m (.tup xs) (.tup ys)) Q := Op_eq (oAdd_tup h) q
theorem Op_addL (h : xs.length + ys.length ≤ 16777216) (q : Q (.lst (xs ++ ys))) : @Op _ (oAdd m (.lst xs) (.lst ys)) Q := Op_eq (oAdd_lst h) q
theorem Op_mul (h1 : -18446744073709551616 < i) (h2 : i < 18446744073709551616) (h3 : -18446744073709551616 < j) (h4 : j < 18446744073709551616) (q : Q (.int (i * j))) : @Op _ (oMul m (.int i) (.int j)) Q := Op_eq (oMulS h1 h2 h3 h4) q
theorem Op_div (h : 0 < j) (g : j < 18446744073709551616) (q : Q (.int (i / j))) : @Op _ (oFdiv m (.int i) (.int j)) Q := Op_eq (oFdivS h g) q
theorem Op_mod (h : 0 < j) (q : Q (.int (i % j))) : @Op _ (oMod m (.int i) (.int j)) Q := Op_eq (oMod_int h) q
theorem Op_pow (h : 0 ≤ j) (h2 : j ≤ 1000000) (h3 : -18446744073709551616 < i) (h4 : i < 18446744073709551616) (q : Q (.int (i ^ j.toNat))) : @Op _ (oPow m (.int i) (.int j)) Q := Op_eq (oPow_int h h2 (by omega)) q
theorem Op_rng1 (h : -(2 ^ 62) ≤ i) (g : i < 2 ^ 62) (q : QW (wkRng 0 i.toNat)) : @Op _ (rng1 (.int i)) QW := Op_eq (rng1_ok h g) q
theorem Op_rng2 (h : -(2 ^ 62) ≤ i) (g : i < 2 ^ 62) (h2 : -(2 ^ 62) ≤ j) (g2 : j < 2 ^ 62) (q : QW (wkRng i (j - i).toNat)) : @Op _ (rng2 (.int i) (.int j)) QW := Op_eq (rng2_ok h g h2 g2) q
theorem Op_rg1 (h1 : -1000000 ≤ j) (h2 : j ≤ 1000000) (q : Q (mk (rgD 0 j))) : @Op _ (oRg1 mk m (.int j)) Q := Op_eq (oRg1_ok h1 h2) q
theorem Op_rg2 (h1 : -1000000 ≤ i) (h1' : i ≤ 1000000) (h2 : -1000000 ≤ j) (h2' : j ≤ 1000000) (q : Q (mk (rgD i j))) : @Op _ (oRg2 mk m (.int i) (.int j)) Q := Op_eq (oRg2_ok h1 h1' h2 h2') q
theorem Op_lenS (h : s.length ≤ 16777216) (q : Q (.int s.length)) : @Op _ (oLen m (.str s)) Q := Op_eq (oLen_str h) q
end
end Gs
namespace Lw
open PySem Gs L2
abbrev n_Frame : Nat := 1972967952182429875945078855
abbrev n_GiftError : Nat := 43026628184499262918068748834833397712440081248157768
abbrev n_InvalidFrame : Nat := 351989244691896953031122293731949014615371452103231676461819107288809546
abbrev n_InvalidGift : Nat := 192524114024305609356922077953074911629470910515659641828805705802
abbrev n_InvalidGifts : Nat := 400301480637966723976825196934145429317075949856792935859068233786064970
abbrev n_InvalidLot : Nat := 91802654784218888990381319978945471523357276951601704075338
abbrev n_InvalidNeeds : Nat := 400301454309893022198315022691757915455264291832015822383540431614902346
abbrev n_InvalidNumber : Nat := 832255993382436745963154606331289070846964330575311356606984219255074700918858
abbrev n_InvalidTable : Nat := 351989243046393180341272722284094684267106203538817006457743672187289674
abbrev n_TooMany : Nat := 10378616693785450742708338892960771866709
abbrev n_Undefined : Nat := 37788604532245350694044887398504278521820671585026134
abbrev n___eq__ : Nat := 3894224500812231114329086985502816
abbrev n__law_draw : Nat := 44897347782599356417371766602720715298892520213184608
abbrev n__law_pool : Nat := 40781761669558740823851569092432151411377063046676576
abbrev n__law_rising : Nat := 171132561056231666203438105150854881352476821888470911243132076128
abbrev n__law_same : Nat := 38162750378648648629778066780632868089197520152952928
abbrev n__law_shown : Nat := 87094831475840475880189525739734768195473693500785479909472
abbrev n__law_spoilt : Nat := 192524118732131910904068890314294284851268159495640251682560933984
abbrev n__law_told : Nat := 37788605781087166882797726435001178606952615065419872
abbrev n__law_told_from : Nat := 1669481889801507432119208043320476955261166358163603977557278151616511782741388296288
abbrev n__law_whole : Nat := 80033087907941849297051645139308931377518923666235410350176
abbrev n__wall : Nat := 2108367634755896306667880544
abbrev n_append : Nat := 4097048886990833845663497717809250
abbrev n_bound : Nat := 1953625148292055806928486499
abbrev n_cell : Nat := 1005348031404454183012
abbrev n_cells : Nat := 2243767326552783152708845668
abbrev n_check_cell : Nat := 85525551926403410905366724502557714693110172788119815848036
abbrev n_due : Nat := 448600991596645
abbrev n_e : Nat := 102
abbrev n_frame : Nat := 1972967952182429875945078887
abbrev n_is_from_to : Nat := 87879468070327699010575499113835922162850450226872726847594
abbrev n_is_integer : Nat := 90233375608932844193358855674252239462696657339354517078122
abbrev n_is_lot : Nat := 4746086013650564976593367753293930
abbrev n_is_rising : Nat := 38911039395368713076877180617624362947134800799989866
abbrev n_is_sequence : Nat := 167841543310576238682040217625876654554816144340766040341449015402
abbrev n_is_word : Nat := 8592134429710071438509960827636298023018
abbrev n_k : Nat := 108
abbrev n_law : Nat := 527765786853485
abbrev n_least : Nat := 2263110204230173098975953005
abbrev n_lot : Nat := 514571676680301
abbrev n_lot_from : Nat := 19624665302617887107029559574786213072219406445
abbrev n_many : Nat := 1125251876679650902126
abbrev n_most : Nat := 1079135038485638938734
abbrev n_named : Nat := 1953625065281672290834055279
abbrev n_other : Nat := 2224424448875327235775529072
abbrev n_part : Nat := 1079135034087563067505
abbrev n_period : Nat := 4097048906333683852994508002164849
abbrev n_period_of : Nat := 38536895154617112811536247914523327798792409090883697
abbrev n_periods : Nat := 9868192737756121774121716610029280297073
abbrev n_place : Nat := 1972967859948709507384737905
abbrev n_pool : Nat := 1005348044598614687857
abbrev n_purpose : Nat := 8677205062005125261614581806693647122545
abbrev n_purpose_of : Nat := 80817726747295587367023936140428053441832541670702556643441
abbrev n_purposes : Nat := 20695100221441480280470408171599486171196948593
abbrev n_reverse : Nat := 8677205062005183289952466234080782975091
abbrev n_script : Nat := 4746086032993350420394886834421876
abbrev n_self : Nat := 950007799183325528180
abbrev n_size : Nat := 940784488719130296436
abbrev n_told : Nat := 931561055109636948085
abbrev n_value : Nat := 1972968025969454549259255927
abbrev n_what : Nat := 1079134959320787058808
abbrev n_init : Nat := 17126980479253070761120148459124897020144255072
def top (i : Nat) : Stmt := PySem.Challenge.pw_giftspared_k04_lots_told.main.body.getD i (.Pass ⟨0, 0, 0, 0⟩)
def inCls (s : Stmt) (i : Nat) : Stmt := match s with
  | .ClassDef _ _ _ b _ _ _ _ _ _ _ => b.getD i (.Pass ⟨0, 0, 0, 0⟩)
  | s => s
def q_wall : DefQ := ⟨none, (PySem.Str.ofString "_wall"), ⟨[(PySem.Str.ofString "k")], [(PySem.Str.ofString "k")], [], []⟩, (top 0)⟩
def q_is_integer : DefQ := ⟨none, (PySem.Str.ofString "is_integer"), ⟨[(PySem.Str.ofString "value")], [(PySem.Str.ofString "value")], [], []⟩, (top 15)⟩
def q_is_from_to : DefQ := ⟨none, (PySem.Str.ofString "is_from_to"), ⟨[(PySem.Str.ofString "value"), (PySem.Str.ofString "least"), (PySem.Str.ofString "most")], [(PySem.Str.ofString "value"), (PySem.Str.ofString "least"), (PySem.Str.ofString "most")], [], []⟩, (top 16)⟩
def q_is_sequence : DefQ := ⟨none, (PySem.Str.ofString "is_sequence"), ⟨[(PySem.Str.ofString "value")], [(PySem.Str.ofString "value")], [], []⟩, (top 17)⟩
def q_is_word : DefQ := ⟨none, (PySem.Str.ofString "is_word"), ⟨[(PySem.Str.ofString "value"), (PySem.Str.ofString "sign")], [(PySem.Str.ofString "value")], [], []⟩, (top 18)⟩
def q_is_rising : DefQ := ⟨none, (PySem.Str.ofString "is_rising"), ⟨[(PySem.Str.ofString "value"), (PySem.Str.ofString "bound"), (PySem.Str.ofString "least"), (PySem.Str.ofString "one")], [(PySem.Str.ofString "value"), (PySem.Str.ofString "bound")], [], []⟩, (top 19)⟩
def q_Frame_init : DefQ := ⟨some (PySem.Str.ofString "Frame"), (PySem.Str.ofString "__init__"), ⟨[(PySem.Str.ofString "self"), (PySem.Str.ofString "purposes"), (PySem.Str.ofString "periods"), (PySem.Str.ofString "words"), (PySem.Str.ofString "place"), (PySem.Str.ofString "word")], [(PySem.Str.ofString "self"), (PySem.Str.ofString "purposes"), (PySem.Str.ofString "periods")], [], []⟩, (inCls (top 24) 0)⟩
def q_Frame_eq : DefQ := ⟨some (PySem.Str.ofString "Frame"), (PySem.Str.ofString "__eq__"), ⟨[(PySem.Str.ofString "self"), (PySem.Str.ofString "other")], [(PySem.Str.ofString "self"), (PySem.Str.ofString "other")], [], []⟩, (inCls (top 24) 1)⟩
def q_Frame_cell : DefQ := ⟨some (PySem.Str.ofString "Frame"), (PySem.Str.ofString "cell"), ⟨[(PySem.Str.ofString "self"), (PySem.Str.ofString "period"), (PySem.Str.ofString "purpose")], [(PySem.Str.ofString "self"), (PySem.Str.ofString "period"), (PySem.Str.ofString "purpose")], [], []⟩, (inCls (top 24) 2)⟩
def q_Frame_period_of : DefQ := ⟨some (PySem.Str.ofString "Frame"), (PySem.Str.ofString "period_of"), ⟨[(PySem.Str.ofString "self"), (PySem.Str.ofString "cell")], [(PySem.Str.ofString "self"), (PySem.Str.ofString "cell")], [], []⟩, (inCls (top 24) 3)⟩
def q_Frame_purpose_of : DefQ := ⟨some (PySem.Str.ofString "Frame"), (PySem.Str.ofString "purpose_of"), ⟨[(PySem.Str.ofString "self"), (PySem.Str.ofString "cell")], [(PySem.Str.ofString "self"), (PySem.Str.ofString "cell")], [], []⟩, (inCls (top 24) 4)⟩
def q_Frame_check_cell : DefQ := ⟨some (PySem.Str.ofString "Frame"), (PySem.Str.ofString "check_cell"), ⟨[(PySem.Str.ofString "self"), (PySem.Str.ofString "cell")], [(PySem.Str.ofString "self"), (PySem.Str.ofString "cell")], [], []⟩, (inCls (top 24) 5)⟩
def q_is_lot : DefQ := ⟨none, (PySem.Str.ofString "is_lot"), ⟨[(PySem.Str.ofString "frame"), (PySem.Str.ofString "value")], [(PySem.Str.ofString "frame"), (PySem.Str.ofString "value")], [], []⟩, (top 25)⟩
def q_lot_from : DefQ := ⟨none, (PySem.Str.ofString "lot_from"), ⟨[(PySem.Str.ofString "frame"), (PySem.Str.ofString "period")], [(PySem.Str.ofString "frame"), (PySem.Str.ofString "period")], [], []⟩, (top 26)⟩
def q_law_pool : DefQ := ⟨none, (PySem.Str.ofString "_law_pool"), ⟨[(PySem.Str.ofString "script"), (PySem.Str.ofString "cell")], [(PySem.Str.ofString "script")], [(117, 11, 60)], []⟩, (top 28)⟩
def q_law_draw : DefQ := ⟨none, (PySem.Str.ofString "_law_draw"), ⟨[(PySem.Str.ofString "pool"), (PySem.Str.ofString "many"), (PySem.Str.ofString "number"), (PySem.Str.ofString "cell"), (PySem.Str.ofString "state")], [(PySem.Str.ofString "pool"), (PySem.Str.ofString "many")], [], []⟩, (top 29)⟩
def q_law_same : DefQ := ⟨none, (PySem.Str.ofString "_law_same"), ⟨[(PySem.Str.ofString "due"), (PySem.Str.ofString "told"), (PySem.Str.ofString "k")], [(PySem.Str.ofString "due"), (PySem.Str.ofString "told")], [], []⟩, (top 30)⟩
def q_law_whole : DefQ := ⟨none, (PySem.Str.ofString "_law_whole"), ⟨[(PySem.Str.ofString "value")], [(PySem.Str.ofString "value")], [], []⟩, (top 31)⟩
def q_law_shown : DefQ := ⟨none, (PySem.Str.ofString "_law_shown"), ⟨[(PySem.Str.ofString "e"), (PySem.Str.ofString "shown")], [(PySem.Str.ofString "e")], [(157, 12, 14), (176, 4, 16)], []⟩, (top 32)⟩
def q_law_rising : DefQ := ⟨none, (PySem.Str.ofString "_law_rising"), ⟨[(PySem.Str.ofString "value"), (PySem.Str.ofString "many"), (PySem.Str.ofString "k")], [(PySem.Str.ofString "value"), (PySem.Str.ofString "many")], [], []⟩, (top 33)⟩
def q_law_told : DefQ := ⟨none, (PySem.Str.ofString "_law_told"), ⟨[(PySem.Str.ofString "frame"), (PySem.Str.ofString "value"), (PySem.Str.ofString "named")], [(PySem.Str.ofString "frame"), (PySem.Str.ofString "value"), (PySem.Str.ofString "named")], [], []⟩, (top 34)⟩
def q_law_told_from : DefQ := ⟨none, (PySem.Str.ofString "_law_told_from"), ⟨[(PySem.Str.ofString "frame"), (PySem.Str.ofString "period"), (PySem.Str.ofString "named"), (PySem.Str.ofString "e")], [(PySem.Str.ofString "frame"), (PySem.Str.ofString "period"), (PySem.Str.ofString "named")], [], []⟩, (top 35)⟩
def q_law_spoilt : DefQ := ⟨none, (PySem.Str.ofString "_law_spoilt"), ⟨[(PySem.Str.ofString "pool"), (PySem.Str.ofString "lot"), (PySem.Str.ofString "cells"), (PySem.Str.ofString "row"), (PySem.Str.ofString "values"), (PySem.Str.ofString "at"), (PySem.Str.ofString "other"), (PySem.Str.ofString "changed"), (PySem.Str.ofString "turned")], [(PySem.Str.ofString "pool"), (PySem.Str.ofString "lot"), (PySem.Str.ofString "cells")], [(202, 13, 108), (207, 22, 31), (211, 17, 26), (217, 4, 17)], []⟩, (top 36)⟩
def q_law : DefQ := ⟨none, (PySem.Str.ofString "law"), ⟨[(PySem.Str.ofString "script"), (PySem.Str.ofString "pool"), (PySem.Str.ofString "periods"), (PySem.Str.ofString "most"), (PySem.Str.ofString "size"), (PySem.Str.ofString "cells"), (PySem.Str.ofString "frame"), (PySem.Str.ofString "share"), (PySem.Str.ofString "drawn"), (PySem.Str.ofString "lots"), (PySem.Str.ofString "values"), (PySem.Str.ofString "lot"), (PySem.Str.ofString "value"), (PySem.Str.ofString "handed"), (PySem.Str.ofString "due"), (PySem.Str.ofString "period"), (PySem.Str.ofString "odd"), (PySem.Str.ofString "wrong"), (PySem.Str.ofString "k"), (PySem.Str.ofString "cell")], [(PySem.Str.ofString "script")], [(231, 13, 113), (232, 13, 79), (235, 17, 55), (236, 17, 23)], []⟩, (top 37)⟩
def spc : Spc := ⟨[q_wall, q_is_integer, q_is_from_to, q_is_sequence, q_is_word, q_is_rising, q_Frame_init, q_Frame_eq, q_Frame_cell, q_Frame_period_of, q_Frame_purpose_of, q_Frame_check_cell, q_is_lot, q_lot_from, q_law_pool, q_law_draw, q_law_same, q_law_whole, q_law_shown, q_law_rising, q_law_told, q_law_told_from, q_law_spoilt, q_law], [⟨⟨(PySem.Str.ofString "InvalidNumber"), (PySem.Str.ofString "self"), [((PySem.Str.ofString "value"), (PySem.Str.ofString "value"))], [(PySem.Str.ofString "self"), (PySem.Str.ofString "value")]⟩, (inCls (top 3) 0)⟩,
  ⟨⟨(PySem.Str.ofString "InvalidFrame"), (PySem.Str.ofString "self"), [((PySem.Str.ofString "part"), (PySem.Str.ofString "part")), ((PySem.Str.ofString "place"), (PySem.Str.ofString "place"))], [(PySem.Str.ofString "self"), (PySem.Str.ofString "part"), (PySem.Str.ofString "place")]⟩, (inCls (top 4) 0)⟩,
  ⟨⟨(PySem.Str.ofString "InvalidGift"), (PySem.Str.ofString "self"), [((PySem.Str.ofString "part"), (PySem.Str.ofString "part")), ((PySem.Str.ofString "place"), (PySem.Str.ofString "place"))], [(PySem.Str.ofString "self"), (PySem.Str.ofString "part"), (PySem.Str.ofString "place")]⟩, (inCls (top 5) 0)⟩,
  ⟨⟨(PySem.Str.ofString "InvalidGifts"), (PySem.Str.ofString "self"), [((PySem.Str.ofString "place"), (PySem.Str.ofString "place"))], [(PySem.Str.ofString "self"), (PySem.Str.ofString "place")]⟩, (inCls (top 6) 0)⟩,
  ⟨⟨(PySem.Str.ofString "InvalidNeeds"), (PySem.Str.ofString "self"), [((PySem.Str.ofString "place"), (PySem.Str.ofString "place"))], [(PySem.Str.ofString "self"), (PySem.Str.ofString "place")]⟩, (inCls (top 7) 0)⟩,
  ⟨⟨(PySem.Str.ofString "InvalidLot"), (PySem.Str.ofString "self"), [((PySem.Str.ofString "value"), (PySem.Str.ofString "value"))], [(PySem.Str.ofString "self"), (PySem.Str.ofString "value")]⟩, (inCls (top 8) 0)⟩,
  ⟨⟨(PySem.Str.ofString "InvalidTable"), (PySem.Str.ofString "self"), [((PySem.Str.ofString "value"), (PySem.Str.ofString "value"))], [(PySem.Str.ofString "self"), (PySem.Str.ofString "value")]⟩, (inCls (top 9) 0)⟩,
  ⟨⟨(PySem.Str.ofString "TooMany"), (PySem.Str.ofString "self"), [((PySem.Str.ofString "what"), (PySem.Str.ofString "what"))], [(PySem.Str.ofString "self"), (PySem.Str.ofString "what")]⟩, (inCls (top 10) 0)⟩,
  ⟨⟨(PySem.Str.ofString "Undefined"), (PySem.Str.ofString "self"), [((PySem.Str.ofString "what"), (PySem.Str.ofString "what"))], [(PySem.Str.ofString "self"), (PySem.Str.ofString "what")]⟩, (inCls (top 11) 0)⟩], [(PySem.Str.ofString "GiftError")], [(⟨(PySem.Str.ofString "Frame"), [(PySem.Str.ofString "purposes"), (PySem.Str.ofString "periods"), (PySem.Str.ofString "size"), (PySem.Str.ofString "cells")]⟩, true)], [(PySem.Str.ofString "len"), (PySem.Str.ofString "int"), (PySem.Str.ofString "str"), (PySem.Str.ofString "tuple"), (PySem.Str.ofString "list"), (PySem.Str.ofString "all"), (PySem.Str.ofString "min"), (PySem.Str.ofString "range"), (PySem.Str.ofString "enumerate"), (PySem.Str.ofString "isinstance"), (PySem.Str.ofString "bool")], [((PySem.Str.ofString "MOST_WORD"), (.int (12))), ((PySem.Str.ofString "LETTERS"), (.str (PySem.Str.ofString "abcdefghijklmnopqrstuvwxyz"))), ((PySem.Str.ofString "MOST_PURPOSES"), (.int (8))), ((PySem.Str.ofString "MOST_PERIODS"), (.int (8))), ((PySem.Str.ofString "MOST_CELLS"), (.int (40)))], [((PySem.Str.ofString "GiftError"), [(PySem.Str.ofString "GiftError")]), ((PySem.Str.ofString "InvalidNumber"), [(PySem.Str.ofString "InvalidNumber"), (PySem.Str.ofString "GiftError")]), ((PySem.Str.ofString "InvalidFrame"), [(PySem.Str.ofString "InvalidFrame"), (PySem.Str.ofString "GiftError")]), ((PySem.Str.ofString "InvalidGift"), [(PySem.Str.ofString "InvalidGift"), (PySem.Str.ofString "GiftError")]), ((PySem.Str.ofString "InvalidGifts"), [(PySem.Str.ofString "InvalidGifts"), (PySem.Str.ofString "GiftError")]), ((PySem.Str.ofString "InvalidNeeds"), [(PySem.Str.ofString "InvalidNeeds"), (PySem.Str.ofString "GiftError")]), ((PySem.Str.ofString "InvalidLot"), [(PySem.Str.ofString "InvalidLot"), (PySem.Str.ofString "GiftError")]), ((PySem.Str.ofString "InvalidTable"), [(PySem.Str.ofString "InvalidTable"), (PySem.Str.ofString "GiftError")]), ((PySem.Str.ofString "TooMany"), [(PySem.Str.ofString "TooMany"), (PySem.Str.ofString "GiftError")]), ((PySem.Str.ofString "Undefined"), [(PySem.Str.ofString "Undefined"), (PySem.Str.ofString "GiftError")]), ((PySem.Str.ofString "Frame"), [(PySem.Str.ofString "Frame")])], [(PySem.Str.ofString "_law_shown")]⟩
abbrev bs : Bases := spc.bsN
abbrev flds : Nat → List Nat := fldsT spc.cs
abbrev mp : Nat → Nat → Option (List Nat × List D) := spc.mp
abbrev tab : Nat → Nat → Option Def := spc.tab
def shw_law_shown : List ShwI := [⟨(PySem.Str.ofString "InvalidNumber"), (PySem.Str.ofString "number"), [(PySem.Str.ofString "value")]⟩, ⟨(PySem.Str.ofString "InvalidFrame"), (PySem.Str.ofString "frame"), [(PySem.Str.ofString "part"), (PySem.Str.ofString "place")]⟩, ⟨(PySem.Str.ofString "InvalidGift"), (PySem.Str.ofString "gift"), [(PySem.Str.ofString "part"), (PySem.Str.ofString "place")]⟩, ⟨(PySem.Str.ofString "InvalidGifts"), (PySem.Str.ofString "gifts"), [(PySem.Str.ofString "place")]⟩, ⟨(PySem.Str.ofString "InvalidNeeds"), (PySem.Str.ofString "needs"), [(PySem.Str.ofString "place")]⟩, ⟨(PySem.Str.ofString "InvalidLot"), (PySem.Str.ofString "lot"), [(PySem.Str.ofString "value")]⟩, ⟨(PySem.Str.ofString "InvalidTable"), (PySem.Str.ofString "table"), [(PySem.Str.ofString "value")]⟩, ⟨(PySem.Str.ofString "TooMany"), (PySem.Str.ofString "many"), [(PySem.Str.ofString "what")]⟩, ⟨(PySem.Str.ofString "Undefined"), (PySem.Str.ofString "undefined"), [(PySem.Str.ofString "what")]⟩]
theorem spc_ok : spc.okB = true := by decide +kernel
def b_is_integer (run : Gs.Run) : Gs.Stm :=
 (sRet (eAnd (eIsi bs [.int] (eV 0)) (eNot (eIsi bs [.bool] (eV 0)))))
theorem t_is_integer : tab 0 n_is_integer = some ⟨1, 1, true, b_is_integer⟩ := by kernel_rfl
def b_is_from_to (run : Gs.Run) : Gs.Stm :=
 (sRet (eAnd (eCall run 0 n_is_integer (esP [.inl 0] [] (esCons (eV 0) esNil) esNil)) (eChain cLe cLe (eV 1) (eV 0) (eV 2))))
theorem t_is_from_to : tab 0 n_is_from_to = some ⟨3, 3, true, b_is_from_to⟩ := by kernel_rfl
def b_is_sequence (run : Gs.Run) : Gs.Stm :=
 (sRet (eIsi bs [.tuple, .list] (eV 0)))
theorem t_is_sequence : tab 0 n_is_sequence = some ⟨1, 1, true, b_is_sequence⟩ := by kernel_rfl
def b_is_word (run : Gs.Run) : Gs.Stm :=
 (sSeq (sIf (tOr (tNot (tE (eIsi bs [.str] (eV 0)))) (tNot (tE (eChain cLe cLe (eC (.int (1))) (e1 oLen (eV 0)) (eC (.int (12))))))) (sRet (eC (.bl false))) sNx)
 (sRet (e1 oAll (eComp [1] (iSeq (eV 0)) (gV 1) tYes (e2 cIn (eV 1) (eC (.str (PySem.Str.ofString "abcdefghijklmnopqrstuvwxyz"))))))))
theorem t_is_word : tab 0 n_is_word = some ⟨1, 2, true, b_is_word⟩ := by kernel_rfl
def b_is_rising (run : Gs.Run) : Gs.Stm :=
 (sSeq (sIf (tNot (tE (eIsi bs [.tuple] (eV 0)))) (sRet (eC (.bl false))) sNx)
 (sSeq (sAsg (eC (.int (0))) (gV 2))
 (sSeq (sFor (iSeq (eV 0)) (gV 3) (sSeq (sIf (tNot (tE (eCall run 0 n_is_from_to (esP [.inl 0, .inl 1, .inl 2] [] (esCons (eV 3) (esCons (eV 2) (esCons (e2 oSub (eV 1) (eC (.int (1)))) esNil))) esNil)))) (sRet (eC (.bl false))) sNx)
 (sAsg (e2 oAdd (eV 3) (eC (.int (1)))) (gV 2))))
 (sRet (eC (.bl true))))))
theorem t_is_rising : tab 0 n_is_rising = some ⟨2, 4, true, b_is_rising⟩ := by kernel_rfl
def b_Frame_init (run : Gs.Run) : Gs.Stm :=
 (sSeq (sIf (tOr (tNot (tE (eCall run 0 n_is_sequence (esP [.inl 0] [] (esCons (eV 1) esNil) esNil)))) (tNot (tE (eChain cLe cLe (eC (.int (1))) (e1 oLen (eV 1)) (eC (.int (8))))))) (sRaise n_InvalidFrame [n_part, n_place] (esCons (eC (.str (PySem.Str.ofString "purposes"))) (esCons (eC (.int (0))) esNil))) sNx)
 (sSeq (sAsg (e1 oTuple (eV 1)) (gV 3))
 (sSeq (sFor (iEnum (eV 3)) (gTup [(gV 4), (gV 5)]) (sIf (tOr (tNot (tE (eCall run 0 n_is_word (esP [.inl 0] [] (esCons (eV 5) esNil) esNil)))) (tE (e2 cIn (eV 5) (eCut (eV 3) pNo (pE (eV 4)))))) (sRaise n_InvalidFrame [n_part, n_place] (esCons (eC (.str (PySem.Str.ofString "purposes"))) (esCons (eV 4) esNil))) sNx))
 (sSeq (sIf (tNot (tE (eCall run 0 n_is_from_to (esP [.inl 0, .inl 1, .inl 2] [] (esCons (eV 2) (esCons (eC (.int (1))) (esCons (eC (.int (8))) esNil))) esNil)))) (sRaise n_InvalidFrame [n_part, n_place] (esCons (eC (.str (PySem.Str.ofString "periods"))) (esCons (eC (.int (0))) esNil))) sNx)
 (sSeq (sIf (tE (e2 cGt (e2 oMul (e1 oLen (eV 3)) (eV 2)) (eC (.int (40))))) (sRaise n_TooMany [n_what] (esCons (eC (.str (PySem.Str.ofString "cells"))) esNil)) sNx)
 (sSeq (sSetFld flds (eV 0) n_purposes (eV 3))
 (sSeq (sSetFld flds (eV 0) n_periods (eV 2))
 (sSeq (sSetFld flds (eV 0) n_size (e1 oLen (eV 3)))
 (sSetFld flds (eV 0) n_cells (e2 oMul (e1 oLen (eV 3)) (eV 2)))))))))))
theorem t_Frame_init : tab n_Frame n_init = some ⟨3, 6, true, b_Frame_init⟩ := by kernel_rfl
def b_Frame_eq (run : Gs.Run) : Gs.Stm :=
 (sSeq (sIf (tNot (tE (eIsi bs [.own n_Frame] (eV 1)))) (sRet (eC (.bl false))) sNx)
 (sRet (eAnd (e2 cEq (e1 (oFld n_purposes) (eV 0)) (e1 (oFld n_purposes) (eV 1))) (e2 cEq (e1 (oFld n_periods) (eV 0)) (e1 (oFld n_periods) (eV 1))))))
theorem t_Frame_eq : tab n_Frame n___eq__ = some ⟨2, 2, true, b_Frame_eq⟩ := by kernel_rfl
def b_Frame_cell (run : Gs.Run) : Gs.Stm :=
 (sSeq (sIf (tNot (tE (eCall run 0 n_is_from_to (esP [.inl 0, .inl 1, .inl 2] [] (esCons (eV 1) (esCons (eC (.int (0))) (esCons (e2 oSub (e1 (oFld n_periods) (eV 0)) (eC (.int (1)))) esNil))) esNil)))) (sRaise n_InvalidNumber [n_value] (esCons (eV 1) esNil)) sNx)
 (sSeq (sIf (tNot (tE (eCall run 0 n_is_from_to (esP [.inl 0, .inl 1, .inl 2] [] (esCons (eV 2) (esCons (eC (.int (0))) (esCons (e2 oSub (e1 (oFld n_size) (eV 0)) (eC (.int (1)))) esNil))) esNil)))) (sRaise n_InvalidNumber [n_value] (esCons (eV 2) esNil)) sNx)
 (sRet (e2 oAdd (e2 oMul (eV 1) (e1 (oFld n_size) (eV 0))) (eV 2)))))
theorem t_Frame_cell : tab n_Frame n_cell = some ⟨3, 3, true, b_Frame_cell⟩ := by kernel_rfl
def b_Frame_period_of (run : Gs.Run) : Gs.Stm :=
 (sEx (eCall run 0 n__wall (esP [.inl 0] [] (esCons (eC (.int (0))) esNil) esNil)))
theorem t_Frame_period_of : tab n_Frame n_period_of = some ⟨2, 2, true, b_Frame_period_of⟩ := by kernel_rfl
def b_Frame_purpose_of (run : Gs.Run) : Gs.Stm :=
 (sEx (eCall run 0 n__wall (esP [.inl 0] [] (esCons (eC (.int (1))) esNil) esNil)))
theorem t_Frame_purpose_of : tab n_Frame n_purpose_of = some ⟨2, 2, true, b_Frame_purpose_of⟩ := by kernel_rfl
def b_Frame_check_cell (run : Gs.Run) : Gs.Stm :=
 (sEx (eCall run 0 n__wall (esP [.inl 0] [] (esCons (eC (.int (2))) esNil) esNil)))
theorem t_Frame_check_cell : tab n_Frame n_check_cell = some ⟨2, 2, true, b_Frame_check_cell⟩ := by kernel_rfl
def b_is_lot (run : Gs.Run) : Gs.Stm :=
 (sRet (eCall run 0 n_is_rising (esP [.inl 0, .inl 1] [] (esCons (eV 1) (esCons (e1 (oFld n_cells) (eV 0)) esNil)) esNil)))
theorem t_is_lot : tab 0 n_is_lot = some ⟨2, 2, true, b_is_lot⟩ := by kernel_rfl
def b_lot_from (run : Gs.Run) : Gs.Stm :=
 (sSeq (sIf (tNot (tE (eCall run 0 n_is_from_to (esP [.inl 0, .inl 1, .inl 2] [] (esCons (eV 1) (esCons (eC (.int (0))) (esCons (e1 (oFld n_periods) (eV 0)) esNil))) esNil)))) (sRaise n_InvalidNumber [n_value] (esCons (eV 1) esNil)) sNx)
 (sRet (e2 (oRg2 .tup) (e2 oMul (eV 1) (e1 (oFld n_size) (eV 0))) (e1 (oFld n_cells) (eV 0)))))
theorem t_lot_from : tab 0 n_lot_from = some ⟨2, 2, true, b_lot_from⟩ := by kernel_rfl
def b_law_pool (run : Gs.Run) : Gs.Stm :=
 (sRet (eMut (eLst (esCons (eComp [1] (iSeq (eCut (eV 0) pNo (pE (eC (.int (63)))))) (gV 1) tYes (e1 oInt (eV 1))) (esCons (eC (.int (0))) (esCons (eC (.int (0))) (esCons (eC (.int (0))) (esCons (eC (.int (7))) esNil))))))))
theorem t_law_pool : tab 0 n__law_pool = some ⟨1, 2, true, b_law_pool⟩ := by kernel_rfl
def b_law_draw (run : Gs.Run) : Gs.Stm :=
 (sSeq (sSetItem (eV 0) (eC (.int (3))) (e2 oAdd (e2 oItem (eV 0) (eC (.int (3)))) (eC (.int (1)))))
 (sSeq (sIf (tE (e2 cGt (e2 oItem (eV 0) (eC (.int (2)))) (eC (.int (0))))) (sSeq (sAsg (e2 oMod (e1 oInt (e2 oItem (eV 0) (eC (.int (2))))) (eV 1)) (gV 2))
 (sSeq (sSetItem (eV 0) (eC (.int (2))) (e2 oFdiv (e2 oItem (eV 0) (eC (.int (2)))) (eV 1)))
 (sRet (eV 2)))) sNx)
 (sSeq (sAsg (eC (.int (0))) (gV 3))
 (sSeq (sIf (tE (e2 cGt (e1 oLen (e2 oItem (eV 0) (eC (.int (0))))) (eC (.int (0))))) (sAsg (e2 oItem (e2 oItem (eV 0) (eC (.int (0)))) (e2 oMod (e1 oInt (e2 oItem (eV 0) (eC (.int (1))))) (e1 oLen (e2 oItem (eV 0) (eC (.int (0))))))) (gV 3)) sNx)
 (sSeq (sSetItem (eV 0) (eC (.int (1))) (e2 oAdd (e2 oItem (eV 0) (eC (.int (1)))) (eC (.int (1)))))
 (sSeq (sIf (tAnd (tE (e2 cGe (eV 3) (e2 oPow (eC (.int (10))) (eC (.int (18)))))) (tE (e2 cLe (e2 oItem (eV 0) (eC (.int (1)))) (e1 oLen (e2 oItem (eV 0) (eC (.int (0)))))))) (sSeq (sSetItem (eV 0) (eC (.int (2))) (e2 oFdiv (eV 3) (eV 1)))
 (sRet (e2 oMod (e1 oInt (eV 3)) (eV 1)))) sNx)
 (sSeq (sAsg (e2 oMod (e1 oInt (e2 oAdd (e2 oAdd (e2 oAdd (e2 oMul (e2 oItem (eV 0) (eC (.int (4)))) (eC (.int (48271)))) (eV 3)) (e2 oMul (e2 oItem (eV 0) (eC (.int (3)))) (eC (.int (69621))))) (eC (.int (11))))) (eC (.int (2147483647)))) (gV 4))
 (sSeq (sAsg (e2 oMod (e1 oInt (e2 oAdd (e2 oAdd (e2 oMul (eV 4) (eV 4)) (e2 oFdiv (eV 4) (eC (.int (4096))))) (eC (.int (12345))))) (eC (.int (1000000007)))) (gV 4))
 (sSeq (sAsg (e2 oMod (e1 oInt (e2 oAdd (e2 oAdd (e2 oMul (eV 4) (eV 4)) (e2 oFdiv (eV 4) (eC (.int (4096))))) (eC (.int (54321))))) (eC (.int (998244353)))) (gV 4))
 (sSeq (sSetItem (eV 0) (eC (.int (4))) (eV 4))
 (sRet (e2 oMod (e1 oInt (e2 oFdiv (eV 4) (eC (.int (64))))) (eV 1)))))))))))))
theorem t_law_draw : tab 0 n__law_draw = some ⟨2, 5, true, b_law_draw⟩ := by kernel_rfl
def b_law_same (run : Gs.Run) : Gs.Stm :=
 (sSeq (sIf (tOr (tE (e2 cIs (eV 0) (eC .non))) (tE (e2 cIs (eV 1) (eC .non)))) (sRet (eAnd (e2 cIs (eV 0) (eC .non)) (e2 cIs (eV 1) (eC .non)))) sNx)
 (sSeq (sIf (tOr (tE (eIsi bs [.bool] (eV 0))) (tE (eIsi bs [.bool] (eV 1)))) (sRet (eAnd (eIsi bs [.bool] (eV 0)) (eAnd (eIsi bs [.bool] (eV 1)) (e2 cEq (eV 0) (eV 1))))) sNx)
 (sSeq (sIf (tE (eIsi bs [.int] (eV 0))) (sRet (eAnd (eIsi bs [.int] (eV 1)) (e2 cEq (eV 0) (eV 1)))) sNx)
 (sSeq (sIf (tE (eIsi bs [.str] (eV 0))) (sRet (eAnd (eIsi bs [.str] (eV 1)) (e2 cEq (eV 0) (eV 1)))) sNx)
 (sSeq (sIf (tE (eIsi bs [.tuple] (eV 0))) (sSeq (sIf (tOr (tNot (tE (eIsi bs [.tuple] (eV 1)))) (tE (e2 cNe (e1 oLen (eV 0)) (e1 oLen (eV 1))))) (sRet (eC (.bl false))) sNx)
 (sRet (e2 cEq (e1 oLen (eComp [2] (iRange1 (e1 oLen (eV 0))) (gV 2) (tNot (tE (eCall run 0 n__law_same (esP [.inl 0, .inl 1] [] (esCons (e2 oItem (eV 0) (eV 2)) (esCons (e2 oItem (eV 1) (eV 2)) esNil)) esNil)))) (eV 2))) (eC (.int (0)))))) sNx)
 (sSeq (sIf (tE (eIsi bs [.list] (eV 0))) (sSeq (sIf (tOr (tNot (tE (eIsi bs [.list] (eV 1)))) (tE (e2 cNe (e1 oLen (eV 0)) (e1 oLen (eV 1))))) (sRet (eC (.bl false))) sNx)
 (sRet (e2 cEq (e1 oLen (eComp [2] (iRange1 (e1 oLen (eV 0))) (gV 2) (tNot (tE (eCall run 0 n__law_same (esP [.inl 0, .inl 1] [] (esCons (e2 oItem (eV 0) (eV 2)) (esCons (e2 oItem (eV 1) (eV 2)) esNil)) esNil)))) (eV 2))) (eC (.int (0)))))) sNx)
 (sRet (eC (.bl false)))))))))
theorem t_law_same : tab 0 n__law_same = some ⟨2, 3, true, b_law_same⟩ := by kernel_rfl
def b_law_whole (run : Gs.Run) : Gs.Stm :=
 (sRet (eAnd (eIsi bs [.int] (eV 0)) (eNot (eIsi bs [.bool] (eV 0)))))
theorem t_law_whole : tab 0 n__law_whole = some ⟨1, 1, true, b_law_whole⟩ := by kernel_rfl
def b_law_shown (run : Gs.Run) : Gs.Stm :=
 (sSeq (sAsg (eMut (eLst esNil)) (gV 1))
 (sSeq (sIf (tE (eIsi bs [.own n_InvalidNumber] (eV 0))) (sEx (eMeth run mp n_append (eV 1) 1 [] (esCons (eLst (esCons (eC (.str (PySem.Str.ofString "number"))) (esCons (e1 (oFld n_value) (eV 0)) esNil))) esNil) esNil)) sNx)
 (sSeq (sIf (tE (eIsi bs [.own n_InvalidFrame] (eV 0))) (sEx (eMeth run mp n_append (eV 1) 1 [] (esCons (eLst (esCons (eC (.str (PySem.Str.ofString "frame"))) (esCons (e1 (oFld n_part) (eV 0)) (esCons (e1 (oFld n_place) (eV 0)) esNil)))) esNil) esNil)) sNx)
 (sSeq (sIf (tE (eIsi bs [.own n_InvalidGift] (eV 0))) (sEx (eMeth run mp n_append (eV 1) 1 [] (esCons (eLst (esCons (eC (.str (PySem.Str.ofString "gift"))) (esCons (e1 (oFld n_part) (eV 0)) (esCons (e1 (oFld n_place) (eV 0)) esNil)))) esNil) esNil)) sNx)
 (sSeq (sIf (tE (eIsi bs [.own n_InvalidGifts] (eV 0))) (sEx (eMeth run mp n_append (eV 1) 1 [] (esCons (eLst (esCons (eC (.str (PySem.Str.ofString "gifts"))) (esCons (e1 (oFld n_place) (eV 0)) esNil))) esNil) esNil)) sNx)
 (sSeq (sIf (tE (eIsi bs [.own n_InvalidNeeds] (eV 0))) (sEx (eMeth run mp n_append (eV 1) 1 [] (esCons (eLst (esCons (eC (.str (PySem.Str.ofString "needs"))) (esCons (e1 (oFld n_place) (eV 0)) esNil))) esNil) esNil)) sNx)
 (sSeq (sIf (tE (eIsi bs [.own n_InvalidLot] (eV 0))) (sEx (eMeth run mp n_append (eV 1) 1 [] (esCons (eLst (esCons (eC (.str (PySem.Str.ofString "lot"))) (esCons (e1 (oFld n_value) (eV 0)) esNil))) esNil) esNil)) sNx)
 (sSeq (sIf (tE (eIsi bs [.own n_InvalidTable] (eV 0))) (sEx (eMeth run mp n_append (eV 1) 1 [] (esCons (eLst (esCons (eC (.str (PySem.Str.ofString "table"))) (esCons (e1 (oFld n_value) (eV 0)) esNil))) esNil) esNil)) sNx)
 (sSeq (sIf (tE (eIsi bs [.own n_TooMany] (eV 0))) (sEx (eMeth run mp n_append (eV 1) 1 [] (esCons (eLst (esCons (eC (.str (PySem.Str.ofString "many"))) (esCons (e1 (oFld n_what) (eV 0)) esNil))) esNil) esNil)) sNx)
 (sSeq (sIf (tE (eIsi bs [.own n_Undefined] (eV 0))) (sEx (eMeth run mp n_append (eV 1) 1 [] (esCons (eLst (esCons (eC (.str (PySem.Str.ofString "undefined"))) (esCons (e1 (oFld n_what) (eV 0)) esNil))) esNil) esNil)) sNx)
 (sRet (eFrz (eV 1)))))))))))))
theorem t_law_shown : tab 0 n__law_shown = some ⟨1, 2, true, b_law_shown⟩ := by kernel_rfl
def b_law_rising (run : Gs.Run) : Gs.Stm :=
 (sSeq (sIf (tNot (tE (eIsi bs [.tuple] (eV 0)))) (sRet (eC (.bl false))) sNx)
 (sSeq (sFor (iRange1 (e1 oLen (eV 0))) (gV 2) (sSeq (sIf (tOr (tNot (tE (eCall run 0 n__law_whole (esP [.inl 0] [] (esCons (e2 oItem (eV 0) (eV 2)) esNil) esNil)))) (tOr (tE (e2 cLt (e2 oItem (eV 0) (eV 2)) (eC (.int (0))))) (tE (e2 cGe (e2 oItem (eV 0) (eV 2)) (eV 1))))) (sRet (eC (.bl false))) sNx)
 (sIf (tAnd (tE (e2 cGt (eV 2) (eC (.int (0))))) (tE (e2 cGe (e2 oItem (eV 0) (e2 oSub (eV 2) (eC (.int (1))))) (e2 oItem (eV 0) (eV 2))))) (sRet (eC (.bl false))) sNx)))
 (sRet (eC (.bl true)))))
theorem t_law_rising : tab 0 n__law_rising = some ⟨2, 3, true, b_law_rising⟩ := by kernel_rfl
def b_law_told (run : Gs.Run) : Gs.Stm :=
 (sTry bs (sSeq (sIf (tE (eV 2)) (sRet (eLst (esCons (eC (.str (PySem.Str.ofString "said"))) (esCons (eCall run 0 n_is_lot (esP [.inl 1, .inl 0] [] esNil (esCons (eV 1) (esCons (eV 0) esNil)))) esNil)))) sNx)
 (sRet (eLst (esCons (eC (.str (PySem.Str.ofString "said"))) (esCons (eCall run 0 n_is_lot (esP [.inl 0, .inl 1] [] (esCons (eV 0) (esCons (eV 1) esNil)) esNil)) esNil))))) [⟨[n_GiftError], none, sRet (eLst (esCons (eC (.str (PySem.Str.ofString "raised"))) esNil))⟩])
theorem t_law_told : tab 0 n__law_told = some ⟨3, 3, true, b_law_told⟩ := by kernel_rfl
def b_law_told_from (run : Gs.Run) : Gs.Stm :=
 (sTry bs (sSeq (sIf (tE (eV 2)) (sRet (eLst (esCons (eC (.str (PySem.Str.ofString "said"))) (esCons (eCall run 0 n_lot_from (esP [.inl 1, .inl 0] [] esNil (esCons (eV 1) (esCons (eV 0) esNil)))) esNil)))) sNx)
 (sRet (eLst (esCons (eC (.str (PySem.Str.ofString "said"))) (esCons (eCall run 0 n_lot_from (esP [.inl 0, .inl 1] [] (esCons (eV 0) (esCons (eV 1) esNil)) esNil)) esNil))))) [⟨[n_GiftError], some 3, sRet (eLst (esCons (eC (.str (PySem.Str.ofString "raised"))) (esCons (eShw bs shw_law_shown 3) esNil)))⟩])
theorem t_law_told_from : tab 0 n__law_told_from = some ⟨3, 4, true, b_law_told_from⟩ := by kernel_rfl
def b_law_spoilt (run : Gs.Run) : Gs.Stm :=
 (sSeq (sAsg (e1 oList (eV 1)) (gV 3))
 (sSeq (sAsg (eMut (eLst (esCons (e1 oList (eV 1)) (esCons (e2 oAdd (eV 1) (eTup (esCons (eV 2) esNil))) (esCons (e2 oAdd (eTup (esCons (e1 oNeg (eC (.int (1)))) esNil)) (eV 1)) (esCons (e2 oAdd (eV 1) (eV 1)) (esCons (e2 oAdd (eV 1) (eTup (esCons (eC .non) esNil))) (esCons (e2 oAdd (eV 1) (eTup (esCons (eC (.str (PySem.Str.ofString "a"))) esNil))) (esCons (e2 oAdd (eV 1) (eTup (esCons (eTup (esCons (eC (.int (0))) esNil)) esNil))) esNil))))))))) (gV 4))
 (sSeq (sEx (eMeth run mp n_append (eV 4) 1 [] (esCons (e2 oAdd (eV 1) (eTup (esCons (e2 oSub (eV 2) (eC (.int (1)))) esNil))) esNil) esNil))
 (sSeq (sIf (tE (e2 cGt (e1 oLen (eV 3)) (eC (.int (0))))) (sSeq (sAsg (eCall run 0 n__law_draw (esP [.inl 0, .inl 1] [] (esCons (eV 0) (esCons (e1 oLen (eV 3)) esNil)) esNil)) (gV 5))
 (sSeq (sFor (iSeq (eLst (esCons (eV 2) (esCons (e1 oNeg (eC (.int (1)))) (esCons (e1 oStr (e2 oItem (eV 3) (eV 5))) (esCons (eC .non) (esCons (eTup (esCons (e2 oItem (eV 3) (eV 5)) esNil)) (esCons (eLst (esCons (e2 oItem (eV 3) (eV 5)) esNil)) (esCons (e2 oPow (eC (.int (10))) (eC (.int (20)))) (esCons (e2 cEq (e2 oItem (eV 3) (eV 5)) (eC (.int (1)))) esNil)))))))))) (gV 6) (sSeq (sAsg (eMut (e1 oList (eV 3))) (gV 7))
 (sSeq (sSetItem (eV 7) (eV 5) (eV 6))
 (sEx (eMeth run mp n_append (eV 4) 1 [] (esCons (e1 oTuple (eV 7)) esNil) esNil)))))
 (sSeq (sEx (eMeth run mp n_append (eV 4) 1 [] (esCons (e2 oAdd (e2 oAdd (eCut (eV 1) pNo (pE (eV 5))) (eTup (esCons (e2 oItem (eV 3) (eV 5)) esNil))) (eCut (eV 1) (pE (eV 5)) pNo)) esNil) esNil))
 (sSeq (sAsg (eMut (e1 oList (eV 3))) (gV 8))
 (sSeq (sEx (eMeth run mp n_reverse (eV 8) 0 [] esNil esNil))
 (sEx (eMeth run mp n_append (eV 4) 1 [] (esCons (e1 oTuple (eV 8)) esNil) esNil))))))) sNx)
 (sSeq (sIf (tE (e2 cGt (e1 oLen (eV 3)) (eC (.int (1))))) (sSeq (sAsg (e2 oAdd (eC (.int (1))) (eCall run 0 n__law_draw (esP [.inl 0, .inl 1] [] (esCons (eV 0) (esCons (e2 oSub (e1 oLen (eV 3)) (eC (.int (1)))) esNil)) esNil))) (gV 5))
 (sEx (eMeth run mp n_append (eV 4) 1 [] (esCons (e2 oAdd (e2 oAdd (eCut (eV 1) pNo (pE (e2 oSub (eV 5) (eC (.int (1)))))) (eTup (esCons (e2 oItem (eV 1) (eV 5)) (esCons (e2 oItem (eV 1) (e2 oSub (eV 5) (eC (.int (1))))) esNil)))) (eCut (eV 1) (pE (e2 oAdd (eV 5) (eC (.int (1))))) pNo)) esNil) esNil))) sNx)
 (sRet (eFrz (eV 4))))))))
theorem t_law_spoilt : tab 0 n__law_spoilt = some ⟨3, 9, true, b_law_spoilt⟩ := by kernel_rfl
def b_law (run : Gs.Run) : Gs.Stm :=
 (sSeq (sAsg (eCall run 0 n__law_pool (esP [.inl 0] [] (esCons (eV 0) esNil) esNil)) (gV 1))
 (sSeq (sAsg (e2 oItem (eLst (esCons (e2 oAdd (eC (.int (1))) (eCall run 0 n__law_draw (esP [.inl 0, .inl 1] [] (esCons (eV 1) (esCons (eC (.int (8))) esNil)) esNil))) (esCons (eC (.int (8))) (esCons (eC (.int (1))) (esCons (eC (.int (5))) esNil))))) (eCall run 0 n__law_draw (esP [.inl 0, .inl 1] [] (esCons (eV 1) (esCons (eC (.int (4))) esNil)) esNil))) (gV 2))
 (sSeq (sAsg (e2 oMin2 (eC (.int (8))) (e2 oFdiv (eC (.int (40))) (eV 2))) (gV 3))
 (sSeq (sAsg (e2 oItem (eLst (esCons (e2 oAdd (eC (.int (1))) (eCall run 0 n__law_draw (esP [.inl 0, .inl 1] [] (esCons (eV 1) (esCons (eV 3) esNil)) esNil))) (esCons (eV 3) (esCons (eC (.int (1))) esNil)))) (eCall run 0 n__law_draw (esP [.inl 0, .inl 1] [] (esCons (eV 1) (esCons (eC (.int (3))) esNil)) esNil))) (gV 4))
 (sSeq (sAsg (e2 oMul (eV 4) (eV 2)) (gV 5))
 (sSeq (sTry bs (sAsg (eFrz (eNew run n_Frame [.inl 0, .inl 1, .inl 2] [] (esCons (eComp [18] (iRange1 (eV 4)) (gV 18) tYes (e2 oMul (eC (.str (PySem.Str.ofString "a"))) (e2 oAdd (eC (.int (1))) (eV 18)))) (esCons (eV 2) esNil)) esNil)) (gV 6)) [⟨[n_GiftError], none, sRet (eC (.bl false))⟩])
 (sSeq (sAsg (e2 oAdd (eC (.int (2))) (eCall run 0 n__law_draw (esP [.inl 0, .inl 1] [] (esCons (eV 1) (esCons (eC (.int (3))) esNil)) esNil))) (gV 7))
 (sSeq (sAsg (eComp [19] (iRange1 (eV 5)) (gV 19) (tE (e2 cEq (eCall run 0 n__law_draw (esP [.inl 0, .inl 1] [] (esCons (eV 1) (esCons (eV 7) esNil)) esNil)) (eC (.int (0))))) (eV 19)) (gV 8))
 (sSeq (sAsg (eLst (esCons (eTup esNil) (esCons (e1 (oRg1 .tup) (eV 5)) (esCons (eTup (esCons (e2 oSub (eV 5) (eC (.int (1)))) esNil)) (esCons (eTup (esCons (eC (.int (0))) esNil)) (esCons (e1 oTuple (eV 8)) esNil)))))) (gV 9))
 (sSeq (sAsg (eMut (eLst (esCons (eC .non) (esCons (eC (.bl true)) (esCons (eC (.bl false)) (esCons (eC (.int (0))) (esCons (eV 5) (esCons (e1 oNeg (eC (.int (1)))) (esCons (eC (.str (PySem.Str.ofString ""))) (esCons (eC (.str (PySem.Str.ofString "0"))) (esCons (eC (.str (PySem.Str.ofString "01"))) (esCons (eLst esNil) (esCons (eLst (esCons (eC (.int (0))) esNil)) (esCons (eTup (esCons (eC .non) esNil)) (esCons (eTup (esCons (eC (.str (PySem.Str.ofString "0"))) esNil)) (esCons (eTup (esCons (eTup esNil) esNil)) (esCons (eTup (esCons (eC (.bl true)) esNil)) (esCons (eTup (esCons (eC (.bl false)) esNil)) esNil)))))))))))))))))) (gV 10))
 (sSeq (sAsg (eMut (e2 oAdd (eV 10) (eLst (esCons (eTup (esCons (eC (.int (0))) (esCons (eC (.bl true)) esNil))) (esCons (eTup (esCons (eC (.bl false)) (esCons (eC (.int (1))) esNil))) (esCons (eTup (esCons (eC (.int (0))) (esCons (eC (.int (0))) esNil))) (esCons (eTup (esCons (eV 5) esNil)) (esCons (eTup (esCons (eC (.int (1))) (esCons (eC (.int (0))) esNil))) (esCons (eTup (esCons (eC (.int (0))) (esCons (eC (.int (1))) esNil))) esNil))))))))) (gV 10))
 (sSeq (sFor (iSeq (eV 9)) (gV 11) (sSeq (sEx (eMeth run mp n_append (eV 10) 1 [] (esCons (eV 11) esNil) esNil))
 (sAsg (eMut (e2 oAdd (eV 10) (eCall run 0 n__law_spoilt (esP [.inl 0, .inl 1, .inl 2] [] (esCons (eV 1) (esCons (eV 11) (esCons (eV 5) esNil))) esNil)))) (gV 10))))
 (sSeq (sFor (iSeq (eFrz (eV 10))) (gV 12) (sSeq (sAsg (eV 12) (gV 13))
 (sSeq (sIf (tE (eIsi bs [.list] (eV 12))) (sAsg (e1 oList (eV 12)) (gV 13)) sNx)
 (sSeq (sAsg (eLst (esCons (eC (.str (PySem.Str.ofString "said"))) (esCons (eCall run 0 n__law_rising (esP [.inl 0, .inl 1] [] (esCons (eV 12) (esCons (eV 5) esNil)) esNil)) esNil))) (gV 14))
 (sIf (tOr (tNot (tE (eCall run 0 n__law_same (esP [.inl 0, .inl 1] [] (esCons (eV 14) (esCons (eCall run 0 n__law_told (esP [.inl 0, .inl 1, .inl 2] [] (esCons (eV 6) (esCons (eV 13) (esCons (e2 cEq (eCall run 0 n__law_draw (esP [.inl 0, .inl 1] [] (esCons (eV 1) (esCons (eC (.int (2))) esNil)) esNil)) (eC (.int (0)))) esNil))) esNil)) esNil)) esNil)))) (tE (e2 cNe (eV 13) (eV 12)))) (sRet (eC (.bl false))) sNx)))))
 (sSeq (sFor (iRange1 (e2 oAdd (eV 2) (eC (.int (1))))) (gV 15) (sSeq (sAsg (eLst (esCons (eC (.str (PySem.Str.ofString "said"))) (esCons (e2 (oRg2 .tup) (e2 oMul (eV 15) (eV 4)) (eV 5)) esNil))) (gV 14))
 (sIf (tNot (tE (eCall run 0 n__law_same (esP [.inl 0, .inl 1] [] (esCons (eV 14) (esCons (eCall run 0 n__law_told_from (esP [.inl 0, .inl 1, .inl 2] [] (esCons (eV 6) (esCons (eV 15) (esCons (e2 cEq (eCall run 0 n__law_draw (esP [.inl 0, .inl 1] [] (esCons (eV 1) (esCons (eC (.int (2))) esNil)) esNil)) (eC (.int (0)))) esNil))) esNil)) esNil)) esNil)))) (sRet (eC (.bl false))) sNx)))
 (sSeq (sAsg (eLst (esCons (e1 oNeg (eC (.int (1)))) (esCons (e2 oAdd (eV 2) (eC (.int (1)))) (esCons (e1 oNeg (e2 oPow (eC (.int (10))) (eC (.int (20))))) (esCons (e2 oPow (eC (.int (10))) (eC (.int (20)))) (esCons (eC (.bl true)) (esCons (eC (.bl false)) (esCons (eC .non) (esCons (eC (.str (PySem.Str.ofString "0"))) (esCons (eTup (esCons (eC (.int (0))) esNil)) (esCons (eLst (esCons (eC (.int (0))) esNil)) esNil))))))))))) (gV 16))
 (sSeq (sFor (iSeq (e2 oAdd (eV 16) (eLst (esCons (e2 oAdd (e2 oAdd (eV 2) (eC (.int (2)))) (eCall run 0 n__law_draw (esP [.inl 0, .inl 1] [] (esCons (eV 1) (esCons (eC (.int (9))) esNil)) esNil))) esNil)))) (gV 17) (sSeq (sAsg (eLst (esCons (eC (.str (PySem.Str.ofString "raised"))) (esCons (eLst (esCons (eLst (esCons (eC (.str (PySem.Str.ofString "number"))) (esCons (eV 17) esNil))) esNil)) esNil))) (gV 14))
 (sIf (tNot (tE (eCall run 0 n__law_same (esP [.inl 0, .inl 1] [] (esCons (eV 14) (esCons (eCall run 0 n__law_told_from (esP [.inl 0, .inl 1, .inl 2] [] (esCons (eV 6) (esCons (eV 17) (esCons (e2 cEq (eCall run 0 n__law_draw (esP [.inl 0, .inl 1] [] (esCons (eV 1) (esCons (eC (.int (2))) esNil)) esNil)) (eC (.int (0)))) esNil))) esNil)) esNil)) esNil)))) (sRet (eC (.bl false))) sNx)))
 (sRet (eC (.bl true)))))))))))))))))))
theorem t_law : tab 0 n_law = some ⟨1, 20, true, b_law⟩ := by kernel_rfl
end Lw
namespace Lw
open PySem Gs
structure Pl (m : Mu) (h c : Nat) (cells : List Int) (i big cnt st : Int) : Prop where
  lt : h < m.nx
  get : m.get h = some (.lst [.lst (cells.map D.int), .int i, .int big, .int cnt, .int st])
  len : cells.length ≤ 63
  i0 : 0 ≤ i
  b0 : 0 ≤ big
  c0 : 0 ≤ cnt
  c1 : cnt ≤ c
  s0 : 0 ≤ st
  s1 : st < 2147483647
def PlK (m : Mu) (h c : Nat) : Prop := ∃ cells i big cnt st, Pl m h c cells i big cnt st
theorem PlK.le {m : Mu} {h c c' : Nat} (H : PlK m h c) (hc : c ≤ c') : PlK m h c' := by
  obtain ⟨cells, i, big, cnt, st, H⟩ := H
  exact ⟨cells, i, big, cnt, st, H.lt, H.get, H.len, H.i0, H.b0, H.c0, by have := H.c1; omega, H.s0, H.s1⟩
theorem PlK.lt {m : Mu} {h c : Nat} (H : PlK m h c) : h < m.nx := by
  obtain ⟨cells, i, big, cnt, st, H⟩ := H
  exact H.lt
theorem PlK.aft {m m' : Mu} {h c : Nat} {l : List Nat} (H : PlK m h c) (a : Aft l m m') (hl : h ∉ l) : PlK m' h c := by
  obtain ⟨cells, i, big, cnt, st, H⟩ := H
  exact ⟨cells, i, big, cnt, st, by have := H.lt; have := a.nx; omega, by rw [a.get h H.lt hl]; exact H.get, H.len, H.i0, H.b0, H.c0, H.c1, H.s0, H.s1⟩
theorem PlK.rs {m : Mu} {h c : Nat} (H : PlK m h c) : rs m (.ref h) = .ref h := by
  obtain ⟨cells, i, big, cnt, st, H⟩ := H
  exact rs_refL H.get
theorem spec_draw {n : Nat} {m : Mu} {h c : Nat} {k : Int} (H : PlK m h c) (hc : c ≤ 2 ^ 60) (hk : 0 < k) (hk2 : k < 2 ^ 64) :
    @Wp _ (runs tab (n + 1) 0 n__law_draw [.ref h, .int k] m) (fun v m' => ∃ d : Int, v = .int d ∧ 0 ≤ d ∧ d < k ∧ PlK m' h (c + 1) ∧ Aft [h] m m') noE := by
  obtain ⟨cells, i, big, cnt, st, H⟩ := H
  have hkn : k < 1606938044258990275541962092341162602522202993782792835301376 := by omega
  have r0 := fun x : Int => Int.emod_nonneg x (show k ≠ 0 by omega)
  have r1 := fun x : Int => Int.emod_lt_of_pos x hk
  have hi0 := H.i0
  have hc0 := H.c0
  have hc1 := H.c1
  have hs0 := H.s0
  have hs1 := H.s1
  have hlen := H.len
  rw [Wp_run t_law_draw rfl rfl]
  have G := H.get
  have G1 := get_put_same (c := .lst [.lst (cells.map D.int), .int i, .int big, .int (cnt + 1), .int st]) G
  have A1 : Aft [h] m (m.put h (.lst [.lst (cells.map D.int), .int i, .int big, .int (cnt + 1), .int st])) := aft_put (by simp)
  simp [b_law_draw, rs_refL G, oItem_ref G, putItem_ref G (ixN_4_3)]
  generalize hm1 : m.put h (.lst [.lst (cells.map D.int), .int i, .int big, .int (cnt + 1), .int st]) = m1
  rw [hm1] at G1 A1
  have lt1 : h < m1.nx := by rw [← hm1]; exact H.lt
  simp [rs_refL G1, oItem_ref G1]
  split
  · rename_i hb
    simp [rs_refL G1, oItem_ref G1, oMod_int hk, oFdiv_int hk hkn, putItem_ref G1 (ixN_4_2)]
    exact ⟨r0 _, r1 _, ⟨cells, i, big / k, cnt + 1, st, lt1, get_put_same G1, hlen, hi0, Int.ediv_nonneg H.b0 (by omega), by omega, by omega, hs0, hs1⟩, A1.trans (aft_put (by simp))⟩
  · rename_i hb
    simp [rs_refL G1, oItem_ref G1]
    refine Ws.mid (fun ρ' m' => m' = m1 ∧ ∃ cell : Int, ρ' = [some (.ref h), some (.int k), none, some (.int cell), none]) ?_ ?_
    · split
      · rename_i hl
        have hl0 : cells.length ≠ 0 := by intro z; rw [z] at hl; simp at hl
        have hx : (i % (cells.length : Int)).toNat < cells.length := by
          have h1 := Int.emod_nonneg i (show (cells.length : Int) ≠ 0 by omega)
          have h2 := Int.emod_lt_of_pos i (show (0 : Int) < cells.length by omega)
          omega
        have hx2 : cells[(i % (cells.length : Int)).toNat]? = some cells[(i % (cells.length : Int)).toNat] := List.getElem?_eq_getElem hx
        have h1 := Int.emod_nonneg i (show (cells.length : Int) ≠ 0 by omega)
        simp [rs_refL G1, oItem_ref G1]
        rw [oMod_int (by omega)]
        simp [atI_toNat h1, hx2]
      · simp only [Ws_nx]
        exact ⟨trivial, 0, rfl⟩
    · intro ρ' m' hh
      have hm := hh.1
      subst hm
      obtain ⟨cell, hc⟩ := hh.2
      subst hc
      have G2 := get_put_same (c := .lst [.lst (cells.map D.int), .int (i + 1), .int big, .int (cnt + 1), .int st]) G1
      have A2 : Aft [h] m' (m'.put h (.lst [.lst (cells.map D.int), .int (i + 1), .int big, .int (cnt + 1), .int st])) := aft_put (by simp)
      simp [rs_refL G1, oItem_ref G1, putItem_ref G1 (ixN_4_1)]
      generalize hm2 : m'.put h (.lst [.lst (cells.map D.int), .int (i + 1), .int big, .int (cnt + 1), .int st]) = m2
      rw [hm2] at G2 A2
      have lt2 : h < m2.nx := by rw [← hm2]; exact lt1
      have A12 := A1.trans A2
      simp [rs_refL G2, oItem_ref G2, oPow_int]
      refine Wp.mono (Q := fun b m' => m' = m2 ∧ (b = true → 1000000000000000000 ≤ cell)) ?_ ?_
      · split
        · rename_i hcl
          simp [rs_refL G2, oItem_ref G2, hcl]
        · simp
      intro b m3 hb3
      have e3 := hb3.1
      subst e3
      have hb4 := hb3.2
      cases b with
      | true =>
        have hcell := hb4 rfl
        simp [rs_refL G2, oMod_int hk, oFdiv_int hk hkn, putItem_ref G2 (ixN_4_2)]
        exact ⟨r0 _, r1 _, ⟨cells, i + 1, cell / k, cnt + 1, st, lt2, get_put_same G2, hlen, by omega, Int.ediv_nonneg (by omega) (by omega), by omega, by omega, hs0, hs1⟩, A12.trans (aft_put (by simp))⟩
      | false =>
        simp [rs_refL G2, oItem_ref G2]
        rw [oMul_small (a := 64) (b := 64) (by omega) (by decide)]
        simp [rs_refL G2, oItem_ref G2]
        rw [oMul_small (a := 64) (b := 64) (by omega) (by decide)]
        simp [oMod_int]
        generalize hx : (st * 48271 + cell + (cnt + 1) * 69621 + 11) % 2147483647 = x
        have x0 : 0 ≤ x := by rw [← hx]; exact Int.emod_nonneg _ (by decide)
        have x1 : x < 2147483647 := by rw [← hx]; exact Int.emod_lt_of_pos _ (by decide)
        rw [oMul_small (a := 64) (b := 64) (by omega) (by omega)]
        simp [oFdiv_int, oMod_int]
        generalize hy : (x * x + x / 4096 + 12345) % 1000000007 = y
        have y0 : 0 ≤ y := by rw [← hy]; exact Int.emod_nonneg _ (by decide)
        have y1 : y < 1000000007 := by rw [← hy]; exact Int.emod_lt_of_pos _ (by decide)
        rw [oMul_small (a := 64) (b := 64) (by omega) (by omega)]
        simp [oFdiv_int, oMod_int]
        generalize hw : (y * y + y / 4096 + 54321) % 998244353 = w
        have w0 : 0 ≤ w := by rw [← hw]; exact Int.emod_nonneg _ (by decide)
        have w1 : w < 998244353 := by rw [← hw]; exact Int.emod_lt_of_pos _ (by decide)
        simp [rs_refL G2, putItem_ref G2 (ixN_4_4), oFdiv_int, hk, oMod_int]
        exact ⟨r0 _, r1 _, ⟨cells, i + 1, big, cnt + 1, w, lt2, get_put_same G2, hlen, by omega, H.b0, by omega, by omega, by omega, by omega⟩, A12.trans (aft_put (by simp))⟩
theorem spec_pool {n : Nat} {ns : List Int} (h1 : ns.length ≤ 63) :
    @Wp _ (runs tab (n + 1) 0 n__law_pool [.rol (ns.map D.int)] ⟨0, []⟩) (fun v m' => v = .ref 0 ∧ PlK m' 0 0) noE := by
  rw [Wp_run t_law_pool rfl rfl]
  have ec : cutD (ns.map D.int) none (some 63) = ns.map D.int := by
    unfold cutD HT.sIx
    have h2 : min (63 : Nat) ns.length = ns.length := by omega
    simp [h2]
    rw [List.take_of_length_le (by simp)]
  simp [b_law_pool, oCut, ec]
  have hc := comp_mapL (g := gV 1) (e := e1 oInt (eV 1)) (ρ := [some (.rol (ns.map D.int)), none]) (m := ⟨0, []⟩) (ns.map D.int) (fun d => d) (by simp; omega) (fun x hx => by
      obtain ⟨i, _, rfl⟩ := List.mem_map.mp hx
      simp) (fun x hx => by
      obtain ⟨i, _, rfl⟩ := List.mem_map.mp hx
      simp)
  rw [List.length_map] at hc
  rw [hc]
  simp
  rw [Wp_mutL]
  generalize hm : (Mu.new { nx := 0, cs := [] } _) = m'
  have hg : m'.get 0 = some (.lst [.lst (ns.map D.int), .int 0, .int 0, .int 0, .int 7]) := by
    rw [← hm]; exact get_new_same (m := ⟨0, []⟩)
  have hn : m'.nx = 1 := by rw [← hm]; rfl
  exact ⟨rs_refL hg, ns, 0, 0, 0, 7, by omega, hg, h1, by omega, by omega, by omega, by omega, by omega, by omega⟩
theorem comp_drawn {g : Tgt} {t : Tst} {e : Ex} {ρ : Gs.Env} {m : Mu} {lo : Int} {n c : Nat} (H : PlK m 0 c) (hn : n ≤ 16777215)
    (step : ∀ (i : Nat) (m1 : Mu) (c1 : Nat), i < n → PlK m1 0 c1 → c1 = c + i → @Op _ (g (.int (lo + i)) ρ) fun ρ2 => @Wp _ (t ρ2 m1) (fun b m2 => (PlK m2 0 (c1 + 1) ∧ Aft [0] m1 m2) ∧ (b = true → @Wp _ (e ρ2 m2) (fun v m3 => v = .int (lo + i) ∧ m3 = m2) noE)) noE) :
    @Wp _ (compGo g t e ρ (wkRng lo n) n 0 [] m) (fun ys m' => (∃ is : List Nat, ys = is.map (fun i => .int (lo + (i : Nat))) ∧ is.Sublist (List.range n)) ∧ PlK m' 0 (c + n) ∧ Aft [0] m m') noE := by
  refine Wp_compN (w := wkRng lo n) rfl (fun i ys m' => (∃ is : List Nat, ys = is.map (fun i => .int (lo + (i : Nat))) ∧ is.Sublist (List.range i)) ∧ PlK m' 0 (c + i) ∧ Aft [0] m m') ⟨⟨[], rfl, by simp⟩, H, Aft.refl⟩ (fun _ _ _ _ => rfl) ?_ (fun _ _ h => h)
  rintro i ys m1 hi ⟨⟨is, rfl, hs⟩, H1, A1⟩
  have st := step i m1 _ hi H1 rfl
  simp only [wkRng_at, Op_some]
  cases hg : g (.int (lo + i)) ρ with
  | none => rw [hg] at st; exact st.elim
  | some ρ2 =>
    rw [hg] at st
    simp only [Op_some] at st ⊢
    refine Wp.mono st fun b m2 ⟨⟨H2, A2⟩, h3⟩ => ?_
    have e1 : List.range (i + 1) = List.range i ++ [i] := List.range_succ
    cases b with
    | false => exact ⟨⟨is, rfl, by rw [e1]; exact hs.trans (List.sublist_append_left _ _)⟩, H2, A1.trans A2⟩
    | true =>
      refine Wp.mono (h3 rfl) fun v m3 ⟨hv, hm⟩ => ?_
      subst hv
      subst hm
      have hl := hs.length_le
      simp at hl
      exact ⟨by simp; omega, ⟨is ++ [i], by simp, by rw [e1]; exact hs.append (List.Sublist.refl _)⟩, H2, A1.trans A2⟩
theorem sub_range {is : List Nat} {n : Nat} (h : is.Sublist (List.range n)) : is.length ≤ n ∧ (∀ i ∈ is, i < n) ∧ is.Pairwise (· < ·) :=
  ⟨by simpa using h.length_le, fun i hi => by simpa using h.subset hi, List.pairwise_lt_range.sublist h⟩
theorem same_seq {k n : Nat} {m : Mu} {d : D} {xs : List D} (hd : d = .tup xs ∨ d = .lst xs) (hx : xs.length ≤ 16777216) (hp : ∀ x ∈ xs, x.pl = true) (hall : ∀ x ∈ xs, runs tab n 0 n__law_same [x, x] m = .ok (.bl true) m) : runs tab (n + 1) 0 n__law_same [d, d] m = .ok (.bl true) m := by
  refine eq_of_wp ?_
  rw [Wp_run t_law_same rfl rfl]
  rcases hd with rfl | rfl
  all_goals
    simp [b_law_same]
    rw [rng1_ok (by omega) (by omega)]
    simp
    rw [comp_filR xs.length (fun _ => false) (fun i => .int i) hx (fun i hi => by
      have hxi : xs[i]? = some xs[i] := List.getElem?_eq_getElem hi
      have hm := List.getElem_mem hi
      simp [atI_nat, hxi, hp _ hm, hall _ hm])]
    simp
theorem spec_same : ∀ {k n : Nat} {m : Mu} {d : D}, D.dat k d = true → k ≤ 60 → runs tab (n + k + 2) 0 n__law_same [d, d] m = .ok (.bl true) m := by
  intro k
  induction k with
  | zero =>
    intro n m d h hk
    have hp := dat_pl h
    refine eq_of_wp ?_
    have e : n + 0 + 2 = n + 1 + 1 := rfl
    rw [e]
    rw [Wp_run t_law_same rfl rfl]
    cases d with
    | non => simp [b_law_same]
    | bl b => simp [b_law_same]
    | int i => simp [b_law_same]
    | str s => simp [b_law_same, cEq_dat h h, eqX_refl h]
    | _ => simp [D.dat] at h
  | succ k ih =>
    intro n m d h hk
    have hp := dat_pl h
    have e : n + (k + 1) + 2 = (n + k + 2) + 1 := by omega
    rw [e]
    have seq : ∀ (xs : List D), d = .tup xs ∨ d = .lst xs → runs tab (n + k + 2 + 1) 0 n__law_same [d, d] m = .ok (.bl true) m := by
      intro xs hd
      have hx : (decide (xs.length ≤ 16777216) && xs.all (D.dat k)) = true := by rcases hd with rfl | rfl <;> exact h
      rw [Bool.and_eq_true, decide_eq_true_eq] at hx
      have hall : ∀ x ∈ xs, D.dat k x = true := fun x hx' => List.all_eq_true.mp hx.2 x hx'
      exact same_seq (k := 0) hd hx.1 (fun x hx => dat_pl (hall x hx)) (fun x hx => ih (hall x hx) (by omega))
    cases d with
    | tup xs => exact seq xs (.inl rfl)
    | lst xs => exact seq xs (.inr rfl)
    | _ =>
      refine eq_of_wp ?_
      rw [Wp_run t_law_same rfl rfl]
      first
        | (simp [D.dat] at h; done)
        | (simp [b_law_same, cEq_dat h h, eqX_refl h]; done)
theorem same99 {m : Mu} {d : D} (h : D.dat 6 d = true) : runs tab 99 0 n__law_same [d, d] m = .ok (.bl true) m := by
  have hs := spec_same (n := 91) (m := m) h (by omega)
  exact hs
end Lw
namespace Lw
open PySem Gs
def isI : D → Bool
  | .int _ => true
  | _ => false
def inR (l h : Int) : D → Bool
  | .int i => decide (l ≤ i) && decide (i ≤ h)
  | _ => false
theorem spec_is_integer {n : Nat} {m : Mu} {d : D} (h : d.pl = true) : runs tab (n + 1) 0 n_is_integer [d] m = .ok (.bl (isI d)) m := by
  refine eq_of_wp ?_
  rw [Wp_run t_is_integer rfl rfl]
  cases d <;> first
    | (simp at h; done)
    | (simp [b_is_integer, isI, h]; done)
    | skip
  all_goals simp [b_is_integer, isI, h, known_pl]; try simp [isA]
theorem spec_whole {n : Nat} {m : Mu} {d : D} (h : d.pl = true) : runs tab (n + 1) 0 n__law_whole [d] m = .ok (.bl (isI d)) m := by
  refine eq_of_wp ?_
  rw [Wp_run t_law_whole rfl rfl]
  cases d <;> first
    | (simp at h; done)
    | (simp [b_law_whole, isI, h]; done)
    | skip
  all_goals simp [b_law_whole, isI, h, known_pl]; try simp [isA]
theorem spec_is_from_to {n : Nat} {m : Mu} {d : D} {l h : Int} (hd : d.pl = true) : runs tab (n + 2) 0 n_is_from_to [d, .int l, .int h] m = .ok (.bl (inR l h d)) m := by
  refine eq_of_wp ?_
  rw [Wp_run t_is_from_to rfl rfl]
  simp [b_is_from_to, hd, spec_is_integer]
  cases d <;> simp [isI, inR]
  split
  · simp_all
  · simp; intro; omega
def frameD (ws : List D) (s p : Int) : D := .obj n_Frame [(n_purposes, .tup ws), (n_periods, .int p), (n_size, .int s), (n_cells, .int (s * p))]
theorem fr_periods {m : Mu} {ws : List D} {s p : Int} : oFld n_periods m (frameD ws s p) = some (.int p) := (rfl)
theorem fr_size {m : Mu} {ws : List D} {s p : Int} : oFld n_size m (frameD ws s p) = some (.int s) := (rfl)
theorem fr_cells {m : Mu} {ws : List D} {s p : Int} : oFld n_cells m (frameD ws s p) = some (.int (s * p)) := (rfl)
theorem fr_rs {m : Mu} {ws : List D} {s p : Int} : rs m (frameD ws s p) = frameD ws s p := (rfl)
theorem fr_cls {m : Mu} {ws : List D} {s p : Int} : clsOf m (frameD ws s p) = some n_Frame := (rfl)
theorem fr_flds {m : Mu} {ws : List D} {s p : Int} : fldsOf m (frameD ws s p) = [(n_purposes, .tup ws), (n_periods, .int p), (n_size, .int s), (n_cells, .int (s * p))] := (rfl)
end Lw
namespace Lw
open PySem Gs
def letters : Str := PySem.Str.ofString "abcdefghijklmnopqrstuvwxyz"
def inL (c : Nat) : Bool := !(Builtin.Str.occurrences letters ⟨#[c]⟩ 0 letters.length 1).isEmpty
def isWord : D → Bool
  | .str s => (decide (1 ≤ s.length) && decide (s.length ≤ 12)) && s.cps.toList.all inL
  | _ => false
theorem spec_is_word {n : Nat} {m : Mu} {s : Str} (hl : s.length ≤ 16777216) : runs tab (n + 1) 0 n_is_word [.str s] m = .ok (.bl (isWord (.str s))) m := by
  refine eq_of_wp ?_
  rw [Wp_run t_is_word rfl rfl]
  have el : PySem.Str.ofString "abcdefghijklmnopqrstuvwxyz" = letters := rfl
  simp [b_is_word, oLen_str hl, el]
  have main : 1 ≤ s.length → s.length ≤ 12 → @Wp _ (e1 oAll (eComp [1] (iSeq (eV 0)) (gV 1) tYes (e2 cIn (eV 1) (eC (.str letters)))) [some (.str s), none] m) (fun d m' => (rs m' d = .bl (isWord (.str s))) ∧ m' = m) noE := by
    intro h1 h2
    simp [wkOf]
    have hc := comp_ix (g := gV 1) (t := tYes) (e := e2 cIn (eV 1) (eC (.str letters))) (ρ := [some (.str s), none]) (w := wkStr s) (m := m) s.cps.size (fun i => .str ⟨#[s.cps.toList.getD i 0]⟩) (fun _ => true) (fun i => .bl (inL (s.cps.toList.getD i 0))) rfl rfl (fun i hi => by
      have : s.cps[i]? = some s.cps[i] := Array.getElem?_eq_getElem hi
      simp [wkStr, this, List.getD]) (by
      have : s.length = s.cps.size := rfl
      omega) (fun i hi => by
      simp [cIn, inD, inL])
    rw [hc, filter_true]
    simp
    have hr := range_map_get s.cps.toList 0 (fun c => D.bl (inL c))
    rw [Array.length_toList] at hr
    simp at hr
    rw [hr, oAll_map]
    have e1 : (decide (1 ≤ s.length) && decide (s.length ≤ 12)) = true := by simp [h1, h2]
    simp [isWord, e1]
  by_cases h1 : (1 : Int) ≤ s.length
  · by_cases h2 : (s.length : Int) ≤ 12
    · have hm := main (by omega) (by omega)
      simp [h1, oLen_str hl, h2]
      simp at hm
      exact hm
    · have h3 : (12 : Int) < s.length := by omega
      have h4 : ¬ s.length ≤ 12 := by omega
      simp [h1, h3, isWord, h4]
  · have h4 : ¬ 1 ≤ s.length := by omega
    simp [h1, isWord, h4]
theorem spec_is_sequence {n : Nat} {m : Mu} {ws : List D} {d : D} (h : d = .lst ws ∨ d = .tup ws) : runs tab (n + 1) 0 n_is_sequence [d] m = .ok (.bl true) m := by
  refine eq_of_wp ?_
  rw [Wp_run t_is_sequence rfl rfl]
  rcases h with rfl | rfl <;> simp [b_is_sequence]
theorem setFld_ref {fl : Nat → List Nat} {n c f : Nat} {fs : List (Nat × D)} {m : Mu} {v : D} (h : m.get n = some (.ins c fs)) (hl : fs.length < 900) (hf : (fl c).contains f = true) : setFld fl (.ref n) f v m = some (m.put n (.ins c (putFld f v fs))) := by
  have : Nat.blt fs.length 900 = true := by simpa [Nat.blt_eq] using hl
  simp only [setFld, h, this, hf, Bool.and_self, if_true]
theorem setFld_to {fl : Nat → List Nat} {n c f : Nat} {fs fs' : List (Nat × D)} {m : Mu} {v : D} (h : m.get n = some (.ins c fs)) (hl : fs.length < 900) (hf : (fl c).contains f = true) (e : putFld f v fs = fs') : setFld fl (.ref n) f v m = some (m.put n (.ins c fs')) := by
  rw [← e]; exact setFld_ref h hl hf
structure Words (ws : List D) : Prop where
  l1 : 1 ≤ ws.length
  l2 : ws.length ≤ 8
  w : ∀ (i : Nat) (s : D), ws[i]? = some s → isWord s = true
  u : ∀ (i j : Nat), i < j → j < ws.length → ws[i]? ≠ ws[j]?
theorem isWord_str {d : D} (h : isWord d = true) : ∃ s : Str, d = .str s ∧ 1 ≤ s.length ∧ s.length ≤ 12 := by
  cases d with
  | str s =>
    simp only [isWord, Bool.and_eq_true, decide_eq_true_eq] at h
    exact ⟨s, rfl, h.1.1, h.1.2⟩
  | _ => simp [isWord] at h
theorem spec_frame_init {n r : Nat} {m : Mu} {ws : List D} {d : D} {p : Int} (hd : d = .lst ws ∨ d = .tup ws) (W : Words ws) (hp : 1 ≤ p) (hp2 : p ≤ 8) (hc : ws.length * p ≤ 40) (hr : m.get r = some (.ins n_Frame [])) :
    @Wp _ (runs tab (n + 3) n_Frame n_init [.ref r, d, .int p] m) (fun v m' => v = .non ∧ m'.get r = some (.ins n_Frame [(n_purposes, .tup ws), (n_periods, .int p), (n_size, .int ws.length), (n_cells, .int (ws.length * p))]) ∧ Aft [r] m m') noE := by
  rw [Wp_run t_Frame_init rfl rfl]
  have hl1 := W.l1
  have hl2 := W.l2
  have wpl : ws.all D.pl = true := List.all_eq_true.mpr fun x hx => by
    obtain ⟨i, hi, e⟩ := List.getElem_of_mem hx
    obtain ⟨s, rfl, _⟩ := isWord_str (W.w i x (by rw [List.getElem?_eq_getElem hi, e]))
    simp
  have dpl : d.pl = true := by rcases hd with rfl | rfl <;> simpa using wpl
  have hlen : oLen m d = some (.int ws.length) := by rcases hd with rfl | rfl <;> simp
  have htup : oTuple m d = some (.tup ws) := by rcases hd with rfl | rfl <;> simp
  have q1 : (1 : Int) ≤ ws.length := by omega
  have q2 : (ws.length : Int) ≤ 8 := by omega
  simp [b_Frame_init, dpl, spec_is_sequence hd, hlen, htup, q1, q2, wpl]
  have q3 : ws ≠ [] := by intro z; subst z; simp at hl1
  try simp [q3, hl2]
  have hmul : ∀ m' : Mu, oMul m' (.int ws.length) (.int p) = some (.int (ws.length * p)) := fun m' => oMul_small (a := 64) (b := 64) (by omega) (by omega)
  have hft : ∀ n, runs tab (n + 2) 0 n_is_from_to [.int p, .int 1, .int 8] m = .ok (.bl true) m := fun n => by
    rw [spec_is_from_to (by simp)]
    simp [inR, hp, hp2]
  refine Ws_forN (n := ws.length) (by simp) (fun i ρ m' => m' = m ∧ ∃ x y, ρ = [some (.ref r), some d, some (.int p), some (.tup ws), x, y]) ⟨rfl, _, _, rfl⟩ (fun _ _ _ _ => rfl) ?_ ?_
  · intro i ρ m' hi hI
    obtain ⟨hm, x, y, hx⟩ := hI
    subst hm
    subst hx
    have hwi : ws[i]? = some ws[i] := List.getElem?_eq_getElem hi
    have hiw := W.w i _ hwi
    obtain ⟨s, hs, hs1, hs2⟩ := isWord_str hiw
    rw [hs] at hiw
    have hcut : cutD ws none (some (i : Int)) = ws.take i := by
      have h2 : min i ws.length = i := by omega
      unfold cutD
      rw [HT.sIx_none, HT.sIx_nat, h2]
      simp
    have hin : inD m' (.str s) (.tup (ws.take i)) = some false := by
      have hflat : (ws.take i).all flatD = true := List.all_eq_true.mpr fun z hz => by
        obtain ⟨j, hj, e⟩ := List.getElem_of_mem (List.mem_of_mem_take hz)
        obtain ⟨t, ht, _⟩ := isWord_str (W.w j z (by rw [List.getElem?_eq_getElem hj, e]))
        rw [ht]; rfl
      have hno : inF (.str s) (ws.take i) = false := by
        unfold inF
        rw [List.any_eq_false]
        intro z hz
        obtain ⟨j, hj, e⟩ := List.getElem_of_mem hz
        rw [List.length_take] at hj
        have hj2 : j < i := by omega
        have e2 : ws[j]? = some z := by
          rw [List.getElem_take] at e
          rw [List.getElem?_eq_getElem (by omega), e]
        obtain ⟨t, ht, _⟩ := isWord_str (W.w j z e2)
        have hne := W.u j i hj2 hi
        rw [e2, hwi, hs, ht] at hne
        rw [ht]
        simp only [eqF, Bool.not_eq_true, beq_eq_false_iff_ne, ne_eq]
        intro q
        exact hne (by rw [q])
      unfold inD
      simp [flatD, hflat, hno]
    simp [hwi, hs, wpl]
    rw [spec_is_word (by omega), hiw]
    simp [oCut, hcut, cIn, hin, wpl]
  · intro ρ m' hI
    obtain ⟨hm, x, y, hx⟩ := hI
    subst hm
    subst hx
    have h40 : ¬ (40 : Int) < ws.length * p := by omega
    simp [hft, wpl, hmul, h40, rs_refI hr]
    have hf : ∀ f, (f = n_purposes ∨ f = n_periods ∨ f = n_size ∨ f = n_cells) → (flds n_Frame).contains f = true := fun f h => by
      rcases h with rfl | rfl | rfl | rfl <;> decide +kernel
    rw [setFld_to (fs' := [(n_purposes, .tup ws)]) hr (by simp) (hf _ (.inl rfl)) rfl]
    have g1 := get_put_same (c := .ins n_Frame [(n_purposes, .tup ws)]) hr
    simp [rs_refI g1]
    rw [setFld_to (fs' := [(n_purposes, .tup ws), (n_periods, .int p)]) g1 (by simp) (hf _ (.inr (.inl rfl))) rfl]
    have g2 := get_put_same (c := .ins n_Frame [(n_purposes, .tup ws), (n_periods, .int p)]) g1
    simp [rs_refI g2, wpl]
    rw [setFld_to (fs' := [(n_purposes, .tup ws), (n_periods, .int p), (n_size, .int ws.length)]) g2 (by simp) (hf _ (.inr (.inr (.inl rfl)))) rfl]
    have g3 := get_put_same (c := .ins n_Frame [(n_purposes, .tup ws), (n_periods, .int p), (n_size, .int ws.length)]) g2
    simp [rs_refI g3, wpl, hmul]
    rw [setFld_to (fs' := [(n_purposes, .tup ws), (n_periods, .int p), (n_size, .int ws.length), (n_cells, .int (ws.length * p))]) g3 (by simp) (hf _ (.inr (.inr (.inr rfl)))) rfl]
    have g4 := get_put_same (c := .ins n_Frame [(n_purposes, .tup ws), (n_periods, .int p), (n_size, .int ws.length), (n_cells, .int (ws.length * p))]) g3
    simp
    exact ⟨g4, (((aft_put (by simp)).put (by simp)).put (by simp)).put (by simp)⟩
theorem spec_frame {n : Nat} {m : Mu} {ws : List D} {d : D} {p : Int} {pl : List (Nat ⊕ Nat)} {ds es : List D} {Q : D → Mu → Prop} {E : EK} (hd : d = .lst ws ∨ d = .tup ws) (W : Words ws) (hp : 1 ≤ p) (hp2 : p ≤ 8) (hc : ws.length * p ≤ 40) (hpk : pickG (.ref m.nx :: ds ++ es) [] pl = some [.ref m.nx, d, .int p])
    (hQ : ∀ m', Aft [] m m' → Q (frameD ws ws.length p) m') : @Wp _ (newK (runs tab (n + 3)) n_Frame pl [] ds es m) (fun v m' => @Wp _ (frzD v m') Q E) E := by
  rw [Wp_newK, hpk]
  simp only [Op_some]
  have g0 : (m.new (.ins n_Frame [])).get m.nx = some (.ins n_Frame []) := get_new_same
  have hi := spec_frame_init (n := n) (r := m.nx) hd W hp hp2 hc g0
  refine Wp.mono hi ?_
  intro v m' hv
  refine ⟨hv.1, ?_⟩
  rw [Wp_frzI hv.2.1]
  refine hQ _ ?_
  exact ⟨by have := hv.2.2.nx; simp at this ⊢; omega, fun k h1 h2 => by
    rw [get_put_ne (by omega), hv.2.2.get k (by simp; omega) (by simp; omega), get_new_ne (by omega)], fun g => good_put (hv.2.2.good (good_new g))⟩
theorem spec_frame_new {n S : Nat} {m : Mu} {ws : List D} {d : D} {p : Int} {Q : D → Mu → Prop} {E : EK} (hd : d = .lst ws ∨ d = .tup ws) (W : Words ws) (hl : ws.length = S) (hp : 1 ≤ p) (hp2 : p ≤ 8) (hc : S * p ≤ 40)
    (hQ : ∀ m', Aft [] m m' → Q (frameD ws S p) m') : @Wp _ (runs tab (n + 3) n_Frame n_init [.ref m.nx, d, .int p] (m.new (.ins n_Frame []))) (fun v m' => v = .non ∧ @Wp _ (frzD (.ref m.nx) m') Q E) E := by
  subst hl
  have g0 : (m.new (.ins n_Frame [])).get m.nx = some (.ins n_Frame []) := get_new_same
  refine Wp.mono (spec_frame_init (n := n) (r := m.nx) hd W hp hp2 hc g0) ?_
  intro v m' hv
  refine ⟨hv.1, ?_⟩
  rw [Wp_frzI hv.2.1]
  refine hQ _ ?_
  exact ⟨by have := hv.2.2.nx; simp at this ⊢; omega, fun k h1 h2 => by
    rw [get_put_ne (by omega), hv.2.2.get k (by simp; omega) (by simp; omega), get_new_ne (by omega)], fun g => good_put (hv.2.2.good (good_new g))⟩
end Lw
namespace Lw
open PySem Gs
def rising (many : Int) : Int → List D → Bool
  | _, [] => true
  | l, .int i :: xs => (decide (l ≤ i) && decide (i ≤ many - 1)) && rising many (i + 1) xs
  | _, _ :: _ => false
def risD (many : Int) : D → Bool
  | .tup xs => rising many 0 xs
  | _ => false
theorem rising_cons {many l : Int} {x : D} {xs : List D} : rising many l (x :: xs) = true ↔ ∃ i, x = .int i ∧ l ≤ i ∧ i ≤ many - 1 ∧ rising many (i + 1) xs = true := by
  cases x <;> simp [rising, and_assoc]
theorem rising_no {many l : Int} {x : D} {xs : List D} (h : inR l (many - 1) x = false) : rising many l (x :: xs) = false := by
  cases x <;> simp [rising]
  rename_i i
  intro h1 h2
  simp [inR] at h
  omega
theorem drop_at {xs : List D} {i : Nat} {x : D} (h : xs[i]? = some x) : xs.drop i = x :: xs.drop (i + 1) := by
  obtain ⟨hi, e⟩ := List.getElem?_eq_some_iff.mp h
  rw [← e]
  exact List.drop_eq_getElem_cons hi
theorem spec_is_rising {n : Nat} {m : Mu} {d : D} {many : Int} (hd : d.pl = true) (hx : ∀ xs, d = .tup xs → ∀ x ∈ xs, x.pl = true) (hm : 0 ≤ many) (hm2 : many < 2 ^ 62) : runs tab (n + 3) 0 n_is_rising [d, .int many] m = .ok (.bl (risD many d)) m := by
  refine eq_of_wp ?_
  rw [Wp_run t_is_rising rfl rfl]
  cases d with
  | tup xs =>
    simp [b_is_rising]
    refine Ws_forN (w := wkL xs) (n := xs.length) rfl (fun i ρ m' => m' = m ∧ ∃ l y, ρ = [some (.tup xs), some (.int many), some (.int l), y] ∧ rising many l (xs.drop i) = rising many 0 xs) ⟨rfl, _, _, rfl, rfl⟩ (fun _ _ _ _ => rfl) ?_ ?_
    · intro i ρ m' hi hI
      obtain ⟨hm', l, y, hρ, hr⟩ := hI
      subst hm'
      subst hρ
      have hxi : xs[i]? = some xs[i] := List.getElem?_eq_getElem hi
      have hp := hx xs rfl _ (List.getElem_mem hi)
      generalize xs[i] = x at hxi hp
      rw [drop_at hxi] at hr
      simp [hxi, hp, spec_is_from_to]
      cases q : inR l (many - 1) x with
      | false =>
        rw [rising_no q] at hr
        simp [risD, ← hr]
      | true =>
        cases x <;> simp [inR] at q
        rename_i z
        simp
        simp [rising, q] at hr
        exact hr
    · intro ρ m' hI
      obtain ⟨hm', l, y, hρ, hr⟩ := hI
      subst hm'
      subst hρ
      simp [rising] at hr
      simp [risD, ← hr]
  | _ => first
    | (simp at hd; done)
    | (simp [b_is_rising, risD, known_pl, hd]; try simp [isA])
theorem spec_law_rising {n : Nat} {m : Mu} {d : D} {many : Int} (hd : d.pl = true) (hx : ∀ xs, d = .tup xs → xs.length ≤ 16777216 ∧ ∀ x ∈ xs, x.pl = true) : runs tab (n + 3) 0 n__law_rising [d, .int many] m = .ok (.bl (risD many d)) m := by
  refine eq_of_wp ?_
  rw [Wp_run t_law_rising rfl rfl]
  cases d with
  | tup xs =>
    have hl := (hx xs rfl).1
    have hx := (hx xs rfl).2
    simp [b_law_rising]
    rw [rng1_ok (by omega) (by omega)]
    simp
    refine Ws_forN (n := xs.length) (by simp) (fun i ρ m' => m' = m ∧ (∃ y, ρ = [some (.tup xs), some (.int many), y]) ∧ ∃ l, 0 ≤ l ∧ rising many l (xs.drop i) = rising many 0 xs ∧ (i = 0 → l = 0) ∧ ∀ j, i = j + 1 → ∃ z, xs[j]? = some (.int z) ∧ l = z + 1) ⟨rfl, ⟨_, rfl⟩, 0, by omega, rfl, fun _ => rfl, fun j hj => by omega⟩ (fun _ _ _ _ => rfl) ?_ ?_
    · intro i ρ m' hi hI
      obtain ⟨hm', ⟨y, hρ⟩, l, l0, hr, h0, h1⟩ := hI
      subst hm'
      subst hρ
      have hxi : xs[i]? = some xs[i] := List.getElem?_eq_getElem hi
      have hp := hx _ (List.getElem_mem hi)
      generalize xs[i] = x at hxi hp
      rw [drop_at hxi] at hr
      simp [hxi, hp, spec_whole, atI_nat]
      cases q : isI x with
      | false =>
        have : rising many l (x :: xs.drop (i + 1)) = false := by
          cases x <;> simp [isI] at q <;> simp [rising]
        rw [this] at hr
        simp [risD, ← hr]
      | true =>
        cases x <;> simp [isI] at q
        rename_i z
        simp [rising] at hr
        simp [atI_nat, hxi]
        by_cases c0 : z < 0
        · have : ¬ l ≤ z := by omega
          simp [this] at hr
          simp [c0, risD, ← hr]
        simp [c0, atI_nat, hxi]
        by_cases c1 : z ≥ many
        · have : ¬ z ≤ many - 1 := by omega
          simp [this] at hr
          simp [c1, risD, ← hr]
        simp [c1]
        have zm : z ≤ many - 1 := by omega
        cases i with
        | zero =>
          have e0 := h0 rfl
          subst e0
          have : 0 ≤ z := by omega
          simp [this, zm] at hr
          simp
          exact ⟨by omega, by simpa using hr⟩
        | succ j =>
          obtain ⟨y, hy, hl⟩ := h1 j rfl
          subst hl
          have e1 : ((j + 1 : Nat) : Int) - 1 = (j : Int) := by omega
          simp [e1]
          rw [atI_nat, hy]
          simp
          rw [show ((j : Int) + 1) = ((j + 1 : Nat) : Int) by omega, atI_nat, hxi]
          simp
          by_cases c2 : y ≥ z
          · have : ¬ y + 1 ≤ z := by omega
            simp [this] at hr
            simp [c2, risD, ← hr]
          · have : y + 1 ≤ z := by omega
            simp [this, zm] at hr
            simp [c2]
            exact ⟨by omega, by simpa using hr⟩
    · intro ρ m' hI
      obtain ⟨hm', ⟨y, hρ⟩, l, l0, hr, h0, h1⟩ := hI
      subst hm'
      subst hρ
      simp [rising] at hr
      simp [risD, ← hr]
  | _ => first
    | (simp at hd; done)
    | (simp [b_law_rising, risD, known_pl, hd]; try simp [isA])
def saidB (b : Bool) : D := .lst [.str (PySem.Str.ofString "said"), .bl b]
theorem spec_is_lot {n : Nat} {m : Mu} {ws : List D} {s p : Int} {d : D} (hd : d.pl = true) (hx : ∀ xs, d = .tup xs → ∀ x ∈ xs, x.pl = true) (h0 : 0 ≤ s * p) (h1 : s * p < 1000000) : runs tab (n + 4) 0 n_is_lot [frameD ws s p, d] m = .ok (.bl (risD (s * p) d)) m := by
  refine eq_of_wp ?_
  rw [Wp_run t_is_lot rfl rfl]
  simp [b_is_lot, fr_cells, fr_rs, hd]
  rw [spec_is_rising (n := n) hd hx h0 (by omega)]
  simp
theorem spec_told4 {n : Nat} {m : Mu} {ws : List D} {s p : Int} {d : D} {b : Bool} (hd : d.pl = true) (hx : ∀ xs, d = .tup xs → ∀ x ∈ xs, x.pl = true) (h0 : 0 ≤ s * p) (h1 : s * p < 1000000) : runs tab (n + 5) 0 n__law_told [frameD ws s p, d, .bl b] m = .ok (saidB (risD (s * p) d)) m := by
  refine eq_of_wp ?_
  rw [Wp_run t_law_told rfl rfl]
  cases b <;> simp [b_law_told, fr_rs, hd] <;> rw [spec_is_lot (n := n) hd hx h0 h1] <;> simp [saidB]
end Lw
namespace Lw
open PySem Gs
structure LotK (lot : List D) : Prop where
  l : lot.length ≤ 40
  z : ∀ x ∈ lot, ∃ i : Nat, x = .int i ∧ i < 40
theorem LotK.dat {lot : List D} (L : LotK lot) {x : D} (hx : x ∈ lot) {k : Nat} : D.dat k x = true := by
  obtain ⟨i, e, -⟩ := L.z x hx
  subst e
  simp
theorem str_ok : ∀ i : Nat, i < 40 → (∃ s : Str, (∀ m : Mu, oStr m (.int i) = some (.str s)) ∧ D.dat 0 (.str s) = true) := by
  intro i hi
  have h : ∀ i : Nat, i < 40 → Nat.blt ((i : Int).natAbs.log2) 1920 = true ∧ D.dat 0 (.str (Str.ofString (toString (i : Int)))) = true := by decide +kernel
  refine ⟨_, fun m => ?_, (h i hi).2⟩
  unfold oStr
  simp only [(h i hi).1, if_true]
abbrev V3 (x : D) : Prop := ∃ xs : List D, x = .tup xs ∧ xs.length ≤ 100 ∧ ∀ y ∈ xs, D.dat 1 y = true
theorem set_mem {xs : List D} {i : Nat} {v x : D} (h : x ∈ xs.set i v) : x ∈ xs ∨ x = v := List.mem_or_eq_of_mem_set h
theorem spec_spoilt {n : Nat} {m : Mu} {c : Nat} {lot : List D} {cells : Int} (H : PlK m 0 c) (hc : c + 10 ≤ 2 ^ 60) (L : LotK lot) :
    @Wp _ (runs tab (n + 4) 0 n__law_spoilt [.ref 0, .tup lot, .int cells] m) (fun v m' => (∃ vs, v = .lst vs ∧ vs.length ≤ 30 ∧ ∀ x ∈ vs, D.dat 2 x = true) ∧ PlK m' 0 (c + 2) ∧ Aft [0] m m') noE := by
  rw [Wp_run t_law_spoilt rfl rfl]
  have hl := L.l
  have one : ∀ y, D.dat 1 y = true → ∀ x ∈ lot ++ [y], D.dat 1 x = true := by
    intro y hy x hx
    rcases List.mem_append.mp hx with hx | hx
    · exact L.dat hx
    · simp at hx; subst hx; exact hy
  have A : Aft [0] m m := Aft.refl
  (try simp [b_law_spoilt, H.rs]; repeat ((focus (first | (with_reducible refine Op_addT ?_ ?_; (first | assumption | omega | (simp <;> omega))) | (with_reducible refine Op_addL ?_ ?_; (first | assumption | omega | (simp <;> omega))) | (with_reducible refine Op_mul ?_ ?_ ?_ ?_ ?_; (first | assumption | omega | (simp <;> omega)); (first | assumption | omega | (simp <;> omega)); (first | assumption | omega | (simp <;> omega)); (first | assumption | omega | (simp <;> omega))) | (with_reducible refine Op_div ?_ ?_ ?_; (first | assumption | omega | (simp <;> omega)); (first | assumption | omega | (simp <;> omega))) | (with_reducible refine Op_mod ?_ ?_; (first | assumption | omega | (simp <;> omega))) | (with_reducible refine Op_pow ?_ ?_ ?_ ?_ ?_; (first | assumption | omega | (simp <;> omega)); (first | assumption | omega | (simp <;> omega)); (first | assumption | omega | (simp <;> omega)); (first | assumption | omega | (simp <;> omega))) | (with_reducible refine Op_rng1 ?_ ?_ ?_; (first | assumption | omega | (simp <;> omega)); (first | assumption | omega | (simp <;> omega))) | (with_reducible refine Op_rng2 ?_ ?_ ?_ ?_ ?_; (first | assumption | omega | (simp <;> omega)); (first | assumption | omega | (simp <;> omega)); (first | assumption | omega | (simp <;> omega)); (first | assumption | omega | (simp <;> omega))) | (with_reducible refine Op_rg1 ?_ ?_ ?_; (first | assumption | omega | (simp <;> omega)); (first | assumption | omega | (simp <;> omega))) | (with_reducible refine Op_rg2 ?_ ?_ ?_ ?_ ?_; (first | assumption | omega | (simp <;> omega)); (first | assumption | omega | (simp <;> omega)); (first | assumption | omega | (simp <;> omega)); (first | assumption | omega | (simp <;> omega))) | (with_reducible refine Op_lenS ?_ ?_; (first | assumption | omega | (simp <;> omega))))); try simp [b_law_spoilt, H.rs]))
  (focus (refine mutK (7) (fun x => D.dat 2 x = true) H.lt (by (first | assumption | omega | (simp <;> omega))) ?_ ?_; rotate_left; intro r m_ hr V A_; replace H := H.aft A_ (by first | decide | (simp; done) | (simp; omega)); replace A := A.aft A_ (by first | decide | (simp; done) | (simp; omega)); clear A_; rotate_right))
  · intro x hx
    simp only [List.mem_cons, List.not_mem_nil, or_false] at hx
    rcases hx with h | h | h | h | h | h | h <;> subst h
    · exact lst_dat (by omega) fun x hx => L.dat hx
    · exact tup_dat (by simp; omega) (one _ (by simp))
    · refine tup_dat (by simp; omega) fun x hx => ?_
      rcases List.mem_cons.mp hx with hx | hx
      · subst hx; simp
      · exact L.dat hx
    · refine tup_dat (by simp; omega) fun x hx => ?_
      rcases List.mem_append.mp hx with hx | hx <;> exact L.dat hx
    · exact tup_dat (by simp; omega) (one _ (by simp))
    · exact tup_dat (by simp; omega) (one _ (by decide +kernel))
    · exact tup_dat (by simp; omega) (one _ (by decide +kernel))
  simp [V.rs]
  rw [V.meth (by decide +kernel)]
  (try simp; repeat ((focus (first | (with_reducible refine Op_addT ?_ ?_; (first | assumption | omega | (simp <;> omega))) | (with_reducible refine Op_addL ?_ ?_; (first | assumption | omega | (simp <;> omega))) | (with_reducible refine Op_mul ?_ ?_ ?_ ?_ ?_; (first | assumption | omega | (simp <;> omega)); (first | assumption | omega | (simp <;> omega)); (first | assumption | omega | (simp <;> omega)); (first | assumption | omega | (simp <;> omega))) | (with_reducible refine Op_div ?_ ?_ ?_; (first | assumption | omega | (simp <;> omega)); (first | assumption | omega | (simp <;> omega))) | (with_reducible refine Op_mod ?_ ?_; (first | assumption | omega | (simp <;> omega))) | (with_reducible refine Op_pow ?_ ?_ ?_ ?_ ?_; (first | assumption | omega | (simp <;> omega)); (first | assumption | omega | (simp <;> omega)); (first | assumption | omega | (simp <;> omega)); (first | assumption | omega | (simp <;> omega))) | (with_reducible refine Op_rng1 ?_ ?_ ?_; (first | assumption | omega | (simp <;> omega)); (first | assumption | omega | (simp <;> omega))) | (with_reducible refine Op_rng2 ?_ ?_ ?_ ?_ ?_; (first | assumption | omega | (simp <;> omega)); (first | assumption | omega | (simp <;> omega)); (first | assumption | omega | (simp <;> omega)); (first | assumption | omega | (simp <;> omega))) | (with_reducible refine Op_rg1 ?_ ?_ ?_; (first | assumption | omega | (simp <;> omega)); (first | assumption | omega | (simp <;> omega))) | (with_reducible refine Op_rg2 ?_ ?_ ?_ ?_ ?_; (first | assumption | omega | (simp <;> omega)); (first | assumption | omega | (simp <;> omega)); (first | assumption | omega | (simp <;> omega)); (first | assumption | omega | (simp <;> omega))) | (with_reducible refine Op_lenS ?_ ?_; (first | assumption | omega | (simp <;> omega))))); try simp))
  have hr0 := V.pos
  (focus (refine LstK.app V (by decide +kernel) (by omega) ?_ ?_; rotate_left; intro m_ V_ A_; replace H := H.aft A_ (by first | decide | (simp; done) | (simp; omega)); replace A := A.aft A_ (by first | decide | (simp; done) | (simp; omega)); clear A_; replace V := V_; clear V_; rotate_right))
  · exact tup_dat (by simp; omega) (one _ (by simp))
  refine Ws.mid (fun ρ m' => (∃ x5 x6 x7 x8, ρ = [some (.ref 0), some (.tup lot), some (.int cells), some (.lst lot), some (.ref r), x5, x6, x7, x8]) ∧ PlK m' 0 (c + 1) ∧ LstK m' r 18 (fun x => D.dat 2 x = true) ∧ Aft [0] m m') ?_ ?_
  · split
    · rename_i h0
      (try simp [H.rs]; repeat ((focus (first | (with_reducible refine Op_addT ?_ ?_; (first | assumption | omega | (simp <;> omega))) | (with_reducible refine Op_addL ?_ ?_; (first | assumption | omega | (simp <;> omega))) | (with_reducible refine Op_mul ?_ ?_ ?_ ?_ ?_; (first | assumption | omega | (simp <;> omega)); (first | assumption | omega | (simp <;> omega)); (first | assumption | omega | (simp <;> omega)); (first | assumption | omega | (simp <;> omega))) | (with_reducible refine Op_div ?_ ?_ ?_; (first | assumption | omega | (simp <;> omega)); (first | assumption | omega | (simp <;> omega))) | (with_reducible refine Op_mod ?_ ?_; (first | assumption | omega | (simp <;> omega))) | (with_reducible refine Op_pow ?_ ?_ ?_ ?_ ?_; (first | assumption | omega | (simp <;> omega)); (first | assumption | omega | (simp <;> omega)); (first | assumption | omega | (simp <;> omega)); (first | assumption | omega | (simp <;> omega))) | (with_reducible refine Op_rng1 ?_ ?_ ?_; (first | assumption | omega | (simp <;> omega)); (first | assumption | omega | (simp <;> omega))) | (with_reducible refine Op_rng2 ?_ ?_ ?_ ?_ ?_; (first | assumption | omega | (simp <;> omega)); (first | assumption | omega | (simp <;> omega)); (first | assumption | omega | (simp <;> omega)); (first | assumption | omega | (simp <;> omega))) | (with_reducible refine Op_rg1 ?_ ?_ ?_; (first | assumption | omega | (simp <;> omega)); (first | assumption | omega | (simp <;> omega))) | (with_reducible refine Op_rg2 ?_ ?_ ?_ ?_ ?_; (first | assumption | omega | (simp <;> omega)); (first | assumption | omega | (simp <;> omega)); (first | assumption | omega | (simp <;> omega)); (first | assumption | omega | (simp <;> omega))) | (with_reducible refine Op_lenS ?_ ?_; (first | assumption | omega | (simp <;> omega))))); try simp [H.rs]))
      (refine Wp.mono (spec_draw H (by omega) (by omega) (by omega)) ?_; intro v_ m_ hv_; obtain ⟨at_, hv_, a0, a1, H_, A_⟩ := hv_; subst hv_; replace V := V.aft A_ (by first | decide | (simp; done) | (simp; omega)); replace A := A.aft A_ (by first | decide | (simp; done) | (simp; omega)); replace H := H_; clear H_)
      obtain ⟨a, rfl⟩ : ∃ a : Nat, at_ = a := ⟨at_.toNat, by omega⟩
      obtain ⟨x, hx, i, hi, i40⟩ := at_pick (xs := lot) _ a0 (by omega) L.z
      subst hi
      obtain ⟨s, hs, hsd⟩ := str_ok i i40
      (try simp [hx, hs]; repeat ((focus (first | (with_reducible refine Op_addT ?_ ?_; (first | assumption | omega | (simp <;> omega))) | (with_reducible refine Op_addL ?_ ?_; (first | assumption | omega | (simp <;> omega))) | (with_reducible refine Op_mul ?_ ?_ ?_ ?_ ?_; (first | assumption | omega | (simp <;> omega)); (first | assumption | omega | (simp <;> omega)); (first | assumption | omega | (simp <;> omega)); (first | assumption | omega | (simp <;> omega))) | (with_reducible refine Op_div ?_ ?_ ?_; (first | assumption | omega | (simp <;> omega)); (first | assumption | omega | (simp <;> omega))) | (with_reducible refine Op_mod ?_ ?_; (first | assumption | omega | (simp <;> omega))) | (with_reducible refine Op_pow ?_ ?_ ?_ ?_ ?_; (first | assumption | omega | (simp <;> omega)); (first | assumption | omega | (simp <;> omega)); (first | assumption | omega | (simp <;> omega)); (first | assumption | omega | (simp <;> omega))) | (with_reducible refine Op_rng1 ?_ ?_ ?_; (first | assumption | omega | (simp <;> omega)); (first | assumption | omega | (simp <;> omega))) | (with_reducible refine Op_rng2 ?_ ?_ ?_ ?_ ?_; (first | assumption | omega | (simp <;> omega)); (first | assumption | omega | (simp <;> omega)); (first | assumption | omega | (simp <;> omega)); (first | assumption | omega | (simp <;> omega))) | (with_reducible refine Op_rg1 ?_ ?_ ?_; (first | assumption | omega | (simp <;> omega)); (first | assumption | omega | (simp <;> omega))) | (with_reducible refine Op_rg2 ?_ ?_ ?_ ?_ ?_; (first | assumption | omega | (simp <;> omega)); (first | assumption | omega | (simp <;> omega)); (first | assumption | omega | (simp <;> omega)); (first | assumption | omega | (simp <;> omega))) | (with_reducible refine Op_lenS ?_ ?_; (first | assumption | omega | (simp <;> omega))))); try simp [hx, hs]))
      have od1 : ∀ y ∈ ([D.int cells, D.int (-1), D.str s, D.non, D.tup [D.int i], D.lst [D.int i], D.int 100000000000000000000, D.bl (decide ((i : Int) = 1))] : List D), D.dat 1 y = true := by
        intro y hy
        simp only [List.mem_cons, List.not_mem_nil, or_false] at hy
        rcases hy with h | h | h | h | h | h | h | h <;> subst h <;> first | exact dat_up (by omega) hsd | simp | simp [D.dat]
      have odl : ([D.int cells, D.int (-1), D.str s, D.non, D.tup [D.int i], D.lst [D.int i], D.int 100000000000000000000, D.bl (decide ((i : Int) = 1))] : List D).length = 8 := rfl
      generalize ([D.int cells, D.int (-1), D.str s, D.non, D.tup [D.int i], D.lst [D.int i], D.int 100000000000000000000, D.bl (decide ((i : Int) = 1))] : List D) = od at od1 odl ⊢
      refine Ws_forL od _ odl (dat_pl2 od1) (fun k ρ m' => (∃ x6 x7, ρ = [some (.ref 0), some (.tup lot), some (.int cells), some (.lst lot), some (.ref r), some (.int a), x6, x7, none]) ∧ PlK m' 0 (c + 1) ∧ LstK m' r (8 + k) (fun x => D.dat 2 x = true) ∧ Aft [0] m m') ⟨⟨_, _, rfl⟩, H, V, A⟩ ?_ ?_
      · intro k ρ m' x hk hx0 xp xd hI
        obtain ⟨⟨x6, x7, e⟩, H, V, A⟩ := hI
        subst e
        have hVm := V.lt
        have hAm := A.nx
        (try simp; repeat ((focus (first | (with_reducible refine Op_addT ?_ ?_; (first | assumption | omega | (simp <;> omega))) | (with_reducible refine Op_addL ?_ ?_; (first | assumption | omega | (simp <;> omega))) | (with_reducible refine Op_mul ?_ ?_ ?_ ?_ ?_; (first | assumption | omega | (simp <;> omega)); (first | assumption | omega | (simp <;> omega)); (first | assumption | omega | (simp <;> omega)); (first | assumption | omega | (simp <;> omega))) | (with_reducible refine Op_div ?_ ?_ ?_; (first | assumption | omega | (simp <;> omega)); (first | assumption | omega | (simp <;> omega))) | (with_reducible refine Op_mod ?_ ?_; (first | assumption | omega | (simp <;> omega))) | (with_reducible refine Op_pow ?_ ?_ ?_ ?_ ?_; (first | assumption | omega | (simp <;> omega)); (first | assumption | omega | (simp <;> omega)); (first | assumption | omega | (simp <;> omega)); (first | assumption | omega | (simp <;> omega))) | (with_reducible refine Op_rng1 ?_ ?_ ?_; (first | assumption | omega | (simp <;> omega)); (first | assumption | omega | (simp <;> omega))) | (with_reducible refine Op_rng2 ?_ ?_ ?_ ?_ ?_; (first | assumption | omega | (simp <;> omega)); (first | assumption | omega | (simp <;> omega)); (first | assumption | omega | (simp <;> omega)); (first | assumption | omega | (simp <;> omega))) | (with_reducible refine Op_rg1 ?_ ?_ ?_; (first | assumption | omega | (simp <;> omega)); (first | assumption | omega | (simp <;> omega))) | (with_reducible refine Op_rg2 ?_ ?_ ?_ ?_ ?_; (first | assumption | omega | (simp <;> omega)); (first | assumption | omega | (simp <;> omega)); (first | assumption | omega | (simp <;> omega)); (first | assumption | omega | (simp <;> omega))) | (with_reducible refine Op_lenS ?_ ?_; (first | assumption | omega | (simp <;> omega))))); try simp))
        (refine mutO H.lt ?_; intro r2 m_ h2 h3 O A_; replace H := H.aft A_ (by first | decide | (simp; done) | (simp; omega)); replace V := V.aft A_ (by first | decide | (simp; done) | (simp; omega)); replace A := A.aft A_ (by first | decide | (simp; done) | (simp; omega)); clear A_)
        (try simp [O.rs, xp]; repeat ((focus (first | (with_reducible refine Op_addT ?_ ?_; (first | assumption | omega | (simp <;> omega))) | (with_reducible refine Op_addL ?_ ?_; (first | assumption | omega | (simp <;> omega))) | (with_reducible refine Op_mul ?_ ?_ ?_ ?_ ?_; (first | assumption | omega | (simp <;> omega)); (first | assumption | omega | (simp <;> omega)); (first | assumption | omega | (simp <;> omega)); (first | assumption | omega | (simp <;> omega))) | (with_reducible refine Op_div ?_ ?_ ?_; (first | assumption | omega | (simp <;> omega)); (first | assumption | omega | (simp <;> omega))) | (with_reducible refine Op_mod ?_ ?_; (first | assumption | omega | (simp <;> omega))) | (with_reducible refine Op_pow ?_ ?_ ?_ ?_ ?_; (first | assumption | omega | (simp <;> omega)); (first | assumption | omega | (simp <;> omega)); (first | assumption | omega | (simp <;> omega)); (first | assumption | omega | (simp <;> omega))) | (with_reducible refine Op_rng1 ?_ ?_ ?_; (first | assumption | omega | (simp <;> omega)); (first | assumption | omega | (simp <;> omega))) | (with_reducible refine Op_rng2 ?_ ?_ ?_ ?_ ?_; (first | assumption | omega | (simp <;> omega)); (first | assumption | omega | (simp <;> omega)); (first | assumption | omega | (simp <;> omega)); (first | assumption | omega | (simp <;> omega))) | (with_reducible refine Op_rg1 ?_ ?_ ?_; (first | assumption | omega | (simp <;> omega)); (first | assumption | omega | (simp <;> omega))) | (with_reducible refine Op_rg2 ?_ ?_ ?_ ?_ ?_; (first | assumption | omega | (simp <;> omega)); (first | assumption | omega | (simp <;> omega)); (first | assumption | omega | (simp <;> omega)); (first | assumption | omega | (simp <;> omega))) | (with_reducible refine Op_lenS ?_ ?_; (first | assumption | omega | (simp <;> omega))))); try simp [O.rs, xp]))
        (refine O.set a0 (by simpa using a1) ?_; intro m_ V_ A_; replace H := H.aft A_ (by first | decide | (simp; done) | (simp; omega)); replace V := V.aft A_ (by first | decide | (simp; done) | (simp; omega)); replace A := A.aft A_ (by first | decide | (simp; done) | (simp; omega)); clear A_; replace O := V_; clear V_)
        (try simp [V.rs]; repeat ((focus (first | (with_reducible refine Op_addT ?_ ?_; (first | assumption | omega | (simp <;> omega))) | (with_reducible refine Op_addL ?_ ?_; (first | assumption | omega | (simp <;> omega))) | (with_reducible refine Op_mul ?_ ?_ ?_ ?_ ?_; (first | assumption | omega | (simp <;> omega)); (first | assumption | omega | (simp <;> omega)); (first | assumption | omega | (simp <;> omega)); (first | assumption | omega | (simp <;> omega))) | (with_reducible refine Op_div ?_ ?_ ?_; (first | assumption | omega | (simp <;> omega)); (first | assumption | omega | (simp <;> omega))) | (with_reducible refine Op_mod ?_ ?_; (first | assumption | omega | (simp <;> omega))) | (with_reducible refine Op_pow ?_ ?_ ?_ ?_ ?_; (first | assumption | omega | (simp <;> omega)); (first | assumption | omega | (simp <;> omega)); (first | assumption | omega | (simp <;> omega)); (first | assumption | omega | (simp <;> omega))) | (with_reducible refine Op_rng1 ?_ ?_ ?_; (first | assumption | omega | (simp <;> omega)); (first | assumption | omega | (simp <;> omega))) | (with_reducible refine Op_rng2 ?_ ?_ ?_ ?_ ?_; (first | assumption | omega | (simp <;> omega)); (first | assumption | omega | (simp <;> omega)); (first | assumption | omega | (simp <;> omega)); (first | assumption | omega | (simp <;> omega))) | (with_reducible refine Op_rg1 ?_ ?_ ?_; (first | assumption | omega | (simp <;> omega)); (first | assumption | omega | (simp <;> omega))) | (with_reducible refine Op_rg2 ?_ ?_ ?_ ?_ ?_; (first | assumption | omega | (simp <;> omega)); (first | assumption | omega | (simp <;> omega)); (first | assumption | omega | (simp <;> omega)); (first | assumption | omega | (simp <;> omega))) | (with_reducible refine Op_lenS ?_ ?_; (first | assumption | omega | (simp <;> omega))))); try simp [V.rs]))
        rw [V.meth (by decide +kernel)]
        (try simp [O.rs, O.tuple]; repeat ((focus (first | (with_reducible refine Op_addT ?_ ?_; (first | assumption | omega | (simp <;> omega))) | (with_reducible refine Op_addL ?_ ?_; (first | assumption | omega | (simp <;> omega))) | (with_reducible refine Op_mul ?_ ?_ ?_ ?_ ?_; (first | assumption | omega | (simp <;> omega)); (first | assumption | omega | (simp <;> omega)); (first | assumption | omega | (simp <;> omega)); (first | assumption | omega | (simp <;> omega))) | (with_reducible refine Op_div ?_ ?_ ?_; (first | assumption | omega | (simp <;> omega)); (first | assumption | omega | (simp <;> omega))) | (with_reducible refine Op_mod ?_ ?_; (first | assumption | omega | (simp <;> omega))) | (with_reducible refine Op_pow ?_ ?_ ?_ ?_ ?_; (first | assumption | omega | (simp <;> omega)); (first | assumption | omega | (simp <;> omega)); (first | assumption | omega | (simp <;> omega)); (first | assumption | omega | (simp <;> omega))) | (with_reducible refine Op_rng1 ?_ ?_ ?_; (first | assumption | omega | (simp <;> omega)); (first | assumption | omega | (simp <;> omega))) | (with_reducible refine Op_rng2 ?_ ?_ ?_ ?_ ?_; (first | assumption | omega | (simp <;> omega)); (first | assumption | omega | (simp <;> omega)); (first | assumption | omega | (simp <;> omega)); (first | assumption | omega | (simp <;> omega))) | (with_reducible refine Op_rg1 ?_ ?_ ?_; (first | assumption | omega | (simp <;> omega)); (first | assumption | omega | (simp <;> omega))) | (with_reducible refine Op_rg2 ?_ ?_ ?_ ?_ ?_; (first | assumption | omega | (simp <;> omega)); (first | assumption | omega | (simp <;> omega)); (first | assumption | omega | (simp <;> omega)); (first | assumption | omega | (simp <;> omega))) | (with_reducible refine Op_lenS ?_ ?_; (first | assumption | omega | (simp <;> omega))))); try simp [O.rs, O.tuple]))
        (focus (refine LstK.app V (by decide +kernel) (by omega) ?_ ?_; rotate_left; intro m_ V_ A_; replace H := H.aft A_ (by first | decide | (simp; done) | (simp; omega)); replace A := A.aft A_ (by first | decide | (simp; done) | (simp; omega)); clear A_; replace V := V_; clear V_; rotate_right))
        · refine tup_dat (by simp; omega) fun y hy => ?_
          rcases List.mem_or_eq_of_mem_set hy with h | h
          · exact L.dat h
          · subst h; exact xd
        · exact ⟨H, V, A⟩
      · intro ρ m' hI
        obtain ⟨⟨x6, x7, e⟩, H, V, A⟩ := hI
        subst e
        (try simp [V.rs]; repeat ((focus (first | (with_reducible refine Op_addT ?_ ?_; (first | assumption | omega | (simp <;> omega))) | (with_reducible refine Op_addL ?_ ?_; (first | assumption | omega | (simp <;> omega))) | (with_reducible refine Op_mul ?_ ?_ ?_ ?_ ?_; (first | assumption | omega | (simp <;> omega)); (first | assumption | omega | (simp <;> omega)); (first | assumption | omega | (simp <;> omega)); (first | assumption | omega | (simp <;> omega))) | (with_reducible refine Op_div ?_ ?_ ?_; (first | assumption | omega | (simp <;> omega)); (first | assumption | omega | (simp <;> omega))) | (with_reducible refine Op_mod ?_ ?_; (first | assumption | omega | (simp <;> omega))) | (with_reducible refine Op_pow ?_ ?_ ?_ ?_ ?_; (first | assumption | omega | (simp <;> omega)); (first | assumption | omega | (simp <;> omega)); (first | assumption | omega | (simp <;> omega)); (first | assumption | omega | (simp <;> omega))) | (with_reducible refine Op_rng1 ?_ ?_ ?_; (first | assumption | omega | (simp <;> omega)); (first | assumption | omega | (simp <;> omega))) | (with_reducible refine Op_rng2 ?_ ?_ ?_ ?_ ?_; (first | assumption | omega | (simp <;> omega)); (first | assumption | omega | (simp <;> omega)); (first | assumption | omega | (simp <;> omega)); (first | assumption | omega | (simp <;> omega))) | (with_reducible refine Op_rg1 ?_ ?_ ?_; (first | assumption | omega | (simp <;> omega)); (first | assumption | omega | (simp <;> omega))) | (with_reducible refine Op_rg2 ?_ ?_ ?_ ?_ ?_; (first | assumption | omega | (simp <;> omega)); (first | assumption | omega | (simp <;> omega)); (first | assumption | omega | (simp <;> omega)); (first | assumption | omega | (simp <;> omega))) | (with_reducible refine Op_lenS ?_ ?_; (first | assumption | omega | (simp <;> omega))))); try simp [V.rs]))
        rw [V.meth (by decide +kernel)]
        (try simp [hx]; repeat ((focus (first | (with_reducible refine Op_addT ?_ ?_; (first | assumption | omega | (simp <;> omega))) | (with_reducible refine Op_addL ?_ ?_; (first | assumption | omega | (simp <;> omega))) | (with_reducible refine Op_mul ?_ ?_ ?_ ?_ ?_; (first | assumption | omega | (simp <;> omega)); (first | assumption | omega | (simp <;> omega)); (first | assumption | omega | (simp <;> omega)); (first | assumption | omega | (simp <;> omega))) | (with_reducible refine Op_div ?_ ?_ ?_; (first | assumption | omega | (simp <;> omega)); (first | assumption | omega | (simp <;> omega))) | (with_reducible refine Op_mod ?_ ?_; (first | assumption | omega | (simp <;> omega))) | (with_reducible refine Op_pow ?_ ?_ ?_ ?_ ?_; (first | assumption | omega | (simp <;> omega)); (first | assumption | omega | (simp <;> omega)); (first | assumption | omega | (simp <;> omega)); (first | assumption | omega | (simp <;> omega))) | (with_reducible refine Op_rng1 ?_ ?_ ?_; (first | assumption | omega | (simp <;> omega)); (first | assumption | omega | (simp <;> omega))) | (with_reducible refine Op_rng2 ?_ ?_ ?_ ?_ ?_; (first | assumption | omega | (simp <;> omega)); (first | assumption | omega | (simp <;> omega)); (first | assumption | omega | (simp <;> omega)); (first | assumption | omega | (simp <;> omega))) | (with_reducible refine Op_rg1 ?_ ?_ ?_; (first | assumption | omega | (simp <;> omega)); (first | assumption | omega | (simp <;> omega))) | (with_reducible refine Op_rg2 ?_ ?_ ?_ ?_ ?_; (first | assumption | omega | (simp <;> omega)); (first | assumption | omega | (simp <;> omega)); (first | assumption | omega | (simp <;> omega)); (first | assumption | omega | (simp <;> omega))) | (with_reducible refine Op_lenS ?_ ?_; (first | assumption | omega | (simp <;> omega))))); try simp [hx]))
        (focus (refine LstK.app V (by decide +kernel) (by omega) ?_ ?_; rotate_left; intro m_ V_ A_; replace H := H.aft A_ (by first | decide | (simp; done) | (simp; omega)); replace A := A.aft A_ (by first | decide | (simp; done) | (simp; omega)); clear A_; replace V := V_; clear V_; rotate_right))
        · refine tup_dat (by simp; omega) fun y hy => ?_
          simp only [List.mem_append, List.mem_cons, List.not_mem_nil, or_false] at hy
          rcases hy with h | h | h
          · exact L.dat (List.mem_of_mem_take h)
          · subst h; simp
          · exact L.dat (List.mem_of_mem_drop h)
        (try simp; repeat ((focus (first | (with_reducible refine Op_addT ?_ ?_; (first | assumption | omega | (simp <;> omega))) | (with_reducible refine Op_addL ?_ ?_; (first | assumption | omega | (simp <;> omega))) | (with_reducible refine Op_mul ?_ ?_ ?_ ?_ ?_; (first | assumption | omega | (simp <;> omega)); (first | assumption | omega | (simp <;> omega)); (first | assumption | omega | (simp <;> omega)); (first | assumption | omega | (simp <;> omega))) | (with_reducible refine Op_div ?_ ?_ ?_; (first | assumption | omega | (simp <;> omega)); (first | assumption | omega | (simp <;> omega))) | (with_reducible refine Op_mod ?_ ?_; (first | assumption | omega | (simp <;> omega))) | (with_reducible refine Op_pow ?_ ?_ ?_ ?_ ?_; (first | assumption | omega | (simp <;> omega)); (first | assumption | omega | (simp <;> omega)); (first | assumption | omega | (simp <;> omega)); (first | assumption | omega | (simp <;> omega))) | (with_reducible refine Op_rng1 ?_ ?_ ?_; (first | assumption | omega | (simp <;> omega)); (first | assumption | omega | (simp <;> omega))) | (with_reducible refine Op_rng2 ?_ ?_ ?_ ?_ ?_; (first | assumption | omega | (simp <;> omega)); (first | assumption | omega | (simp <;> omega)); (first | assumption | omega | (simp <;> omega)); (first | assumption | omega | (simp <;> omega))) | (with_reducible refine Op_rg1 ?_ ?_ ?_; (first | assumption | omega | (simp <;> omega)); (first | assumption | omega | (simp <;> omega))) | (with_reducible refine Op_rg2 ?_ ?_ ?_ ?_ ?_; (first | assumption | omega | (simp <;> omega)); (first | assumption | omega | (simp <;> omega)); (first | assumption | omega | (simp <;> omega)); (first | assumption | omega | (simp <;> omega))) | (with_reducible refine Op_lenS ?_ ?_; (first | assumption | omega | (simp <;> omega))))); try simp))
        have hVm := V.lt
        have hAm := A.nx
        (refine mutO H.lt ?_; intro r2 m_ h2 h3 O A_; replace H := H.aft A_ (by first | decide | (simp; done) | (simp; omega)); replace V := V.aft A_ (by first | decide | (simp; done) | (simp; omega)); replace A := A.aft A_ (by first | decide | (simp; done) | (simp; omega)); clear A_)
        (try simp [O.rs]; repeat ((focus (first | (with_reducible refine Op_addT ?_ ?_; (first | assumption | omega | (simp <;> omega))) | (with_reducible refine Op_addL ?_ ?_; (first | assumption | omega | (simp <;> omega))) | (with_reducible refine Op_mul ?_ ?_ ?_ ?_ ?_; (first | assumption | omega | (simp <;> omega)); (first | assumption | omega | (simp <;> omega)); (first | assumption | omega | (simp <;> omega)); (first | assumption | omega | (simp <;> omega))) | (with_reducible refine Op_div ?_ ?_ ?_; (first | assumption | omega | (simp <;> omega)); (first | assumption | omega | (simp <;> omega))) | (with_reducible refine Op_mod ?_ ?_; (first | assumption | omega | (simp <;> omega))) | (with_reducible refine Op_pow ?_ ?_ ?_ ?_ ?_; (first | assumption | omega | (simp <;> omega)); (first | assumption | omega | (simp <;> omega)); (first | assumption | omega | (simp <;> omega)); (first | assumption | omega | (simp <;> omega))) | (with_reducible refine Op_rng1 ?_ ?_ ?_; (first | assumption | omega | (simp <;> omega)); (first | assumption | omega | (simp <;> omega))) | (with_reducible refine Op_rng2 ?_ ?_ ?_ ?_ ?_; (first | assumption | omega | (simp <;> omega)); (first | assumption | omega | (simp <;> omega)); (first | assumption | omega | (simp <;> omega)); (first | assumption | omega | (simp <;> omega))) | (with_reducible refine Op_rg1 ?_ ?_ ?_; (first | assumption | omega | (simp <;> omega)); (first | assumption | omega | (simp <;> omega))) | (with_reducible refine Op_rg2 ?_ ?_ ?_ ?_ ?_; (first | assumption | omega | (simp <;> omega)); (first | assumption | omega | (simp <;> omega)); (first | assumption | omega | (simp <;> omega)); (first | assumption | omega | (simp <;> omega))) | (with_reducible refine Op_lenS ?_ ?_; (first | assumption | omega | (simp <;> omega))))); try simp [O.rs]))
        rw [O.meth (by decide +kernel)]
        (try simp; repeat ((focus (first | (with_reducible refine Op_addT ?_ ?_; (first | assumption | omega | (simp <;> omega))) | (with_reducible refine Op_addL ?_ ?_; (first | assumption | omega | (simp <;> omega))) | (with_reducible refine Op_mul ?_ ?_ ?_ ?_ ?_; (first | assumption | omega | (simp <;> omega)); (first | assumption | omega | (simp <;> omega)); (first | assumption | omega | (simp <;> omega)); (first | assumption | omega | (simp <;> omega))) | (with_reducible refine Op_div ?_ ?_ ?_; (first | assumption | omega | (simp <;> omega)); (first | assumption | omega | (simp <;> omega))) | (with_reducible refine Op_mod ?_ ?_; (first | assumption | omega | (simp <;> omega))) | (with_reducible refine Op_pow ?_ ?_ ?_ ?_ ?_; (first | assumption | omega | (simp <;> omega)); (first | assumption | omega | (simp <;> omega)); (first | assumption | omega | (simp <;> omega)); (first | assumption | omega | (simp <;> omega))) | (with_reducible refine Op_rng1 ?_ ?_ ?_; (first | assumption | omega | (simp <;> omega)); (first | assumption | omega | (simp <;> omega))) | (with_reducible refine Op_rng2 ?_ ?_ ?_ ?_ ?_; (first | assumption | omega | (simp <;> omega)); (first | assumption | omega | (simp <;> omega)); (first | assumption | omega | (simp <;> omega)); (first | assumption | omega | (simp <;> omega))) | (with_reducible refine Op_rg1 ?_ ?_ ?_; (first | assumption | omega | (simp <;> omega)); (first | assumption | omega | (simp <;> omega))) | (with_reducible refine Op_rg2 ?_ ?_ ?_ ?_ ?_; (first | assumption | omega | (simp <;> omega)); (first | assumption | omega | (simp <;> omega)); (first | assumption | omega | (simp <;> omega)); (first | assumption | omega | (simp <;> omega))) | (with_reducible refine Op_lenS ?_ ?_; (first | assumption | omega | (simp <;> omega))))); try simp))
        (refine O.rev (by decide +kernel) ?_; intro m_ V_ A_; replace H := H.aft A_ (by first | decide | (simp; done) | (simp; omega)); replace V := V.aft A_ (by first | decide | (simp; done) | (simp; omega)); replace A := A.aft A_ (by first | decide | (simp; done) | (simp; omega)); clear A_; replace O := V_; clear V_)
        (try simp [V.rs]; repeat ((focus (first | (with_reducible refine Op_addT ?_ ?_; (first | assumption | omega | (simp <;> omega))) | (with_reducible refine Op_addL ?_ ?_; (first | assumption | omega | (simp <;> omega))) | (with_reducible refine Op_mul ?_ ?_ ?_ ?_ ?_; (first | assumption | omega | (simp <;> omega)); (first | assumption | omega | (simp <;> omega)); (first | assumption | omega | (simp <;> omega)); (first | assumption | omega | (simp <;> omega))) | (with_reducible refine Op_div ?_ ?_ ?_; (first | assumption | omega | (simp <;> omega)); (first | assumption | omega | (simp <;> omega))) | (with_reducible refine Op_mod ?_ ?_; (first | assumption | omega | (simp <;> omega))) | (with_reducible refine Op_pow ?_ ?_ ?_ ?_ ?_; (first | assumption | omega | (simp <;> omega)); (first | assumption | omega | (simp <;> omega)); (first | assumption | omega | (simp <;> omega)); (first | assumption | omega | (simp <;> omega))) | (with_reducible refine Op_rng1 ?_ ?_ ?_; (first | assumption | omega | (simp <;> omega)); (first | assumption | omega | (simp <;> omega))) | (with_reducible refine Op_rng2 ?_ ?_ ?_ ?_ ?_; (first | assumption | omega | (simp <;> omega)); (first | assumption | omega | (simp <;> omega)); (first | assumption | omega | (simp <;> omega)); (first | assumption | omega | (simp <;> omega))) | (with_reducible refine Op_rg1 ?_ ?_ ?_; (first | assumption | omega | (simp <;> omega)); (first | assumption | omega | (simp <;> omega))) | (with_reducible refine Op_rg2 ?_ ?_ ?_ ?_ ?_; (first | assumption | omega | (simp <;> omega)); (first | assumption | omega | (simp <;> omega)); (first | assumption | omega | (simp <;> omega)); (first | assumption | omega | (simp <;> omega))) | (with_reducible refine Op_lenS ?_ ?_; (first | assumption | omega | (simp <;> omega))))); try simp [V.rs]))
        rw [V.meth (by decide +kernel)]
        (try simp [O.rs, O.tuple]; repeat ((focus (first | (with_reducible refine Op_addT ?_ ?_; (first | assumption | omega | (simp <;> omega))) | (with_reducible refine Op_addL ?_ ?_; (first | assumption | omega | (simp <;> omega))) | (with_reducible refine Op_mul ?_ ?_ ?_ ?_ ?_; (first | assumption | omega | (simp <;> omega)); (first | assumption | omega | (simp <;> omega)); (first | assumption | omega | (simp <;> omega)); (first | assumption | omega | (simp <;> omega))) | (with_reducible refine Op_div ?_ ?_ ?_; (first | assumption | omega | (simp <;> omega)); (first | assumption | omega | (simp <;> omega))) | (with_reducible refine Op_mod ?_ ?_; (first | assumption | omega | (simp <;> omega))) | (with_reducible refine Op_pow ?_ ?_ ?_ ?_ ?_; (first | assumption | omega | (simp <;> omega)); (first | assumption | omega | (simp <;> omega)); (first | assumption | omega | (simp <;> omega)); (first | assumption | omega | (simp <;> omega))) | (with_reducible refine Op_rng1 ?_ ?_ ?_; (first | assumption | omega | (simp <;> omega)); (first | assumption | omega | (simp <;> omega))) | (with_reducible refine Op_rng2 ?_ ?_ ?_ ?_ ?_; (first | assumption | omega | (simp <;> omega)); (first | assumption | omega | (simp <;> omega)); (first | assumption | omega | (simp <;> omega)); (first | assumption | omega | (simp <;> omega))) | (with_reducible refine Op_rg1 ?_ ?_ ?_; (first | assumption | omega | (simp <;> omega)); (first | assumption | omega | (simp <;> omega))) | (with_reducible refine Op_rg2 ?_ ?_ ?_ ?_ ?_; (first | assumption | omega | (simp <;> omega)); (first | assumption | omega | (simp <;> omega)); (first | assumption | omega | (simp <;> omega)); (first | assumption | omega | (simp <;> omega))) | (with_reducible refine Op_lenS ?_ ?_; (first | assumption | omega | (simp <;> omega))))); try simp [O.rs, O.tuple]))
        (focus (refine LstK.app V (by decide +kernel) (by omega) ?_ ?_; rotate_left; intro m_ V_ A_; replace H := H.aft A_ (by first | decide | (simp; done) | (simp; omega)); replace A := A.aft A_ (by first | decide | (simp; done) | (simp; omega)); clear A_; replace V := V_; clear V_; rotate_right))
        · exact tup_dat (by simp; omega) fun y hy => L.dat (List.mem_reverse.mp hy)
        exact ⟨H, V, A⟩
    · (try simp; repeat ((focus (first | (with_reducible refine Op_addT ?_ ?_; (first | assumption | omega | (simp <;> omega))) | (with_reducible refine Op_addL ?_ ?_; (first | assumption | omega | (simp <;> omega))) | (with_reducible refine Op_mul ?_ ?_ ?_ ?_ ?_; (first | assumption | omega | (simp <;> omega)); (first | assumption | omega | (simp <;> omega)); (first | assumption | omega | (simp <;> omega)); (first | assumption | omega | (simp <;> omega))) | (with_reducible refine Op_div ?_ ?_ ?_; (first | assumption | omega | (simp <;> omega)); (first | assumption | omega | (simp <;> omega))) | (with_reducible refine Op_mod ?_ ?_; (first | assumption | omega | (simp <;> omega))) | (with_reducible refine Op_pow ?_ ?_ ?_ ?_ ?_; (first | assumption | omega | (simp <;> omega)); (first | assumption | omega | (simp <;> omega)); (first | assumption | omega | (simp <;> omega)); (first | assumption | omega | (simp <;> omega))) | (with_reducible refine Op_rng1 ?_ ?_ ?_; (first | assumption | omega | (simp <;> omega)); (first | assumption | omega | (simp <;> omega))) | (with_reducible refine Op_rng2 ?_ ?_ ?_ ?_ ?_; (first | assumption | omega | (simp <;> omega)); (first | assumption | omega | (simp <;> omega)); (first | assumption | omega | (simp <;> omega)); (first | assumption | omega | (simp <;> omega))) | (with_reducible refine Op_rg1 ?_ ?_ ?_; (first | assumption | omega | (simp <;> omega)); (first | assumption | omega | (simp <;> omega))) | (with_reducible refine Op_rg2 ?_ ?_ ?_ ?_ ?_; (first | assumption | omega | (simp <;> omega)); (first | assumption | omega | (simp <;> omega)); (first | assumption | omega | (simp <;> omega)); (first | assumption | omega | (simp <;> omega))) | (with_reducible refine Op_lenS ?_ ?_; (first | assumption | omega | (simp <;> omega))))); try simp))
      exact ⟨H.le (by omega), V.le (by omega), A⟩
  · intro ρ m' hI
    obtain ⟨⟨x5, x6, x7, x8, e⟩, H, V, A⟩ := hI
    subst e
    (try simp; repeat ((focus (first | (with_reducible refine Op_addT ?_ ?_; (first | assumption | omega | (simp <;> omega))) | (with_reducible refine Op_addL ?_ ?_; (first | assumption | omega | (simp <;> omega))) | (with_reducible refine Op_mul ?_ ?_ ?_ ?_ ?_; (first | assumption | omega | (simp <;> omega)); (first | assumption | omega | (simp <;> omega)); (first | assumption | omega | (simp <;> omega)); (first | assumption | omega | (simp <;> omega))) | (with_reducible refine Op_div ?_ ?_ ?_; (first | assumption | omega | (simp <;> omega)); (first | assumption | omega | (simp <;> omega))) | (with_reducible refine Op_mod ?_ ?_; (first | assumption | omega | (simp <;> omega))) | (with_reducible refine Op_pow ?_ ?_ ?_ ?_ ?_; (first | assumption | omega | (simp <;> omega)); (first | assumption | omega | (simp <;> omega)); (first | assumption | omega | (simp <;> omega)); (first | assumption | omega | (simp <;> omega))) | (with_reducible refine Op_rng1 ?_ ?_ ?_; (first | assumption | omega | (simp <;> omega)); (first | assumption | omega | (simp <;> omega))) | (with_reducible refine Op_rng2 ?_ ?_ ?_ ?_ ?_; (first | assumption | omega | (simp <;> omega)); (first | assumption | omega | (simp <;> omega)); (first | assumption | omega | (simp <;> omega)); (first | assumption | omega | (simp <;> omega))) | (with_reducible refine Op_rg1 ?_ ?_ ?_; (first | assumption | omega | (simp <;> omega)); (first | assumption | omega | (simp <;> omega))) | (with_reducible refine Op_rg2 ?_ ?_ ?_ ?_ ?_; (first | assumption | omega | (simp <;> omega)); (first | assumption | omega | (simp <;> omega)); (first | assumption | omega | (simp <;> omega)); (first | assumption | omega | (simp <;> omega))) | (with_reducible refine Op_lenS ?_ ?_; (first | assumption | omega | (simp <;> omega))))); try simp))
    refine Ws.mid (fun ρ m' => (∃ x5 x6 x7 x8, ρ = [some (.ref 0), some (.tup lot), some (.int cells), some (.lst lot), some (.ref r), x5, x6, x7, x8]) ∧ PlK m' 0 (c + 2) ∧ LstK m' r 19 (fun x => D.dat 2 x = true) ∧ Aft [0] m m') ?_ ?_
    · split
      · (try simp [H.rs]; repeat ((focus (first | (with_reducible refine Op_addT ?_ ?_; (first | assumption | omega | (simp <;> omega))) | (with_reducible refine Op_addL ?_ ?_; (first | assumption | omega | (simp <;> omega))) | (with_reducible refine Op_mul ?_ ?_ ?_ ?_ ?_; (first | assumption | omega | (simp <;> omega)); (first | assumption | omega | (simp <;> omega)); (first | assumption | omega | (simp <;> omega)); (first | assumption | omega | (simp <;> omega))) | (with_reducible refine Op_div ?_ ?_ ?_; (first | assumption | omega | (simp <;> omega)); (first | assumption | omega | (simp <;> omega))) | (with_reducible refine Op_mod ?_ ?_; (first | assumption | omega | (simp <;> omega))) | (with_reducible refine Op_pow ?_ ?_ ?_ ?_ ?_; (first | assumption | omega | (simp <;> omega)); (first | assumption | omega | (simp <;> omega)); (first | assumption | omega | (simp <;> omega)); (first | assumption | omega | (simp <;> omega))) | (with_reducible refine Op_rng1 ?_ ?_ ?_; (first | assumption | omega | (simp <;> omega)); (first | assumption | omega | (simp <;> omega))) | (with_reducible refine Op_rng2 ?_ ?_ ?_ ?_ ?_; (first | assumption | omega | (simp <;> omega)); (first | assumption | omega | (simp <;> omega)); (first | assumption | omega | (simp <;> omega)); (first | assumption | omega | (simp <;> omega))) | (with_reducible refine Op_rg1 ?_ ?_ ?_; (first | assumption | omega | (simp <;> omega)); (first | assumption | omega | (simp <;> omega))) | (with_reducible refine Op_rg2 ?_ ?_ ?_ ?_ ?_; (first | assumption | omega | (simp <;> omega)); (first | assumption | omega | (simp <;> omega)); (first | assumption | omega | (simp <;> omega)); (first | assumption | omega | (simp <;> omega))) | (with_reducible refine Op_lenS ?_ ?_; (first | assumption | omega | (simp <;> omega))))); try simp [H.rs]))
        (refine Wp.mono (spec_draw H (by omega) (by omega) (by omega)) ?_; intro v_ m_ hv_; obtain ⟨at_, hv_, a0, a1, H_, A_⟩ := hv_; subst hv_; replace V := V.aft A_ (by first | decide | (simp; done) | (simp; omega)); replace A := A.aft A_ (by first | decide | (simp; done) | (simp; omega)); replace H := H_; clear H_)
        obtain ⟨a, rfl⟩ : ∃ a : Nat, at_ = a := ⟨at_.toNat, by omega⟩
        (try simp [V.rs]; repeat ((focus (first | (with_reducible refine Op_addT ?_ ?_; (first | assumption | omega | (simp <;> omega))) | (with_reducible refine Op_addL ?_ ?_; (first | assumption | omega | (simp <;> omega))) | (with_reducible refine Op_mul ?_ ?_ ?_ ?_ ?_; (first | assumption | omega | (simp <;> omega)); (first | assumption | omega | (simp <;> omega)); (first | assumption | omega | (simp <;> omega)); (first | assumption | omega | (simp <;> omega))) | (with_reducible refine Op_div ?_ ?_ ?_; (first | assumption | omega | (simp <;> omega)); (first | assumption | omega | (simp <;> omega))) | (with_reducible refine Op_mod ?_ ?_; (first | assumption | omega | (simp <;> omega))) | (with_reducible refine Op_pow ?_ ?_ ?_ ?_ ?_; (first | assumption | omega | (simp <;> omega)); (first | assumption | omega | (simp <;> omega)); (first | assumption | omega | (simp <;> omega)); (first | assumption | omega | (simp <;> omega))) | (with_reducible refine Op_rng1 ?_ ?_ ?_; (first | assumption | omega | (simp <;> omega)); (first | assumption | omega | (simp <;> omega))) | (with_reducible refine Op_rng2 ?_ ?_ ?_ ?_ ?_; (first | assumption | omega | (simp <;> omega)); (first | assumption | omega | (simp <;> omega)); (first | assumption | omega | (simp <;> omega)); (first | assumption | omega | (simp <;> omega))) | (with_reducible refine Op_rg1 ?_ ?_ ?_; (first | assumption | omega | (simp <;> omega)); (first | assumption | omega | (simp <;> omega))) | (with_reducible refine Op_rg2 ?_ ?_ ?_ ?_ ?_; (first | assumption | omega | (simp <;> omega)); (first | assumption | omega | (simp <;> omega)); (first | assumption | omega | (simp <;> omega)); (first | assumption | omega | (simp <;> omega))) | (with_reducible refine Op_lenS ?_ ?_; (first | assumption | omega | (simp <;> omega))))); try simp [V.rs]))
        rw [V.meth (by decide +kernel)]
        obtain ⟨x, hx, i, hi, i40⟩ := at_pick (i := 1 + (a : Int)) (xs := lot) _ (by omega) (by omega) L.z
        obtain ⟨x', hx', i', hi', i40'⟩ := at_pick (i := (a : Int)) (xs := lot) _ (by omega) (by omega) L.z
        subst hi
        subst hi'
        have e1 : 1 + (a : Int) - 1 = a := by omega
        have e2 : cutD lot (some (1 + (a : Int) + 1)) none = lot.drop (a + 2) := by
          rw [show 1 + (a : Int) + 1 = ((a + 2 : Nat) : Int) by omega]; exact cutD_from

        (try simp [hx, e1, e2, hx', V.rs]; repeat ((focus (first | (with_reducible refine Op_addT ?_ ?_; (first | assumption | omega | (simp <;> omega))) | (with_reducible refine Op_addL ?_ ?_; (first | assumption | omega | (simp <;> omega))) | (with_reducible refine Op_mul ?_ ?_ ?_ ?_ ?_; (first | assumption | omega | (simp <;> omega)); (first | assumption | omega | (simp <;> omega)); (first | assumption | omega | (simp <;> omega)); (first | assumption | omega | (simp <;> omega))) | (with_reducible refine Op_div ?_ ?_ ?_; (first | assumption | omega | (simp <;> omega)); (first | assumption | omega | (simp <;> omega))) | (with_reducible refine Op_mod ?_ ?_; (first | assumption | omega | (simp <;> omega))) | (with_reducible refine Op_pow ?_ ?_ ?_ ?_ ?_; (first | assumption | omega | (simp <;> omega)); (first | assumption | omega | (simp <;> omega)); (first | assumption | omega | (simp <;> omega)); (first | assumption | omega | (simp <;> omega))) | (with_reducible refine Op_rng1 ?_ ?_ ?_; (first | assumption | omega | (simp <;> omega)); (first | assumption | omega | (simp <;> omega))) | (with_reducible refine Op_rng2 ?_ ?_ ?_ ?_ ?_; (first | assumption | omega | (simp <;> omega)); (first | assumption | omega | (simp <;> omega)); (first | assumption | omega | (simp <;> omega)); (first | assumption | omega | (simp <;> omega))) | (with_reducible refine Op_rg1 ?_ ?_ ?_; (first | assumption | omega | (simp <;> omega)); (first | assumption | omega | (simp <;> omega))) | (with_reducible refine Op_rg2 ?_ ?_ ?_ ?_ ?_; (first | assumption | omega | (simp <;> omega)); (first | assumption | omega | (simp <;> omega)); (first | assumption | omega | (simp <;> omega)); (first | assumption | omega | (simp <;> omega))) | (with_reducible refine Op_lenS ?_ ?_; (first | assumption | omega | (simp <;> omega))))); try simp [hx, e1, e2, hx', V.rs]))
        (focus (refine LstK.app V (by decide +kernel) (by omega) ?_ ?_; rotate_left; intro m_ V_ A_; replace H := H.aft A_ (by first | decide | (simp; done) | (simp; omega)); replace A := A.aft A_ (by first | decide | (simp; done) | (simp; omega)); clear A_; replace V := V_; clear V_; rotate_right))
        · refine tup_dat (by simp; omega) fun y hy => ?_
          simp only [List.mem_append, List.mem_cons, List.not_mem_nil, or_false] at hy
          rcases hy with h | h | h | h
          · exact L.dat (List.mem_of_mem_take h)
          · subst h; simp
          · subst h; simp
          · exact L.dat (List.mem_of_mem_drop h)
        exact ⟨H, V, A⟩
      · (try simp; repeat ((focus (first | (with_reducible refine Op_addT ?_ ?_; (first | assumption | omega | (simp <;> omega))) | (with_reducible refine Op_addL ?_ ?_; (first | assumption | omega | (simp <;> omega))) | (with_reducible refine Op_mul ?_ ?_ ?_ ?_ ?_; (first | assumption | omega | (simp <;> omega)); (first | assumption | omega | (simp <;> omega)); (first | assumption | omega | (simp <;> omega)); (first | assumption | omega | (simp <;> omega))) | (with_reducible refine Op_div ?_ ?_ ?_; (first | assumption | omega | (simp <;> omega)); (first | assumption | omega | (simp <;> omega))) | (with_reducible refine Op_mod ?_ ?_; (first | assumption | omega | (simp <;> omega))) | (with_reducible refine Op_pow ?_ ?_ ?_ ?_ ?_; (first | assumption | omega | (simp <;> omega)); (first | assumption | omega | (simp <;> omega)); (first | assumption | omega | (simp <;> omega)); (first | assumption | omega | (simp <;> omega))) | (with_reducible refine Op_rng1 ?_ ?_ ?_; (first | assumption | omega | (simp <;> omega)); (first | assumption | omega | (simp <;> omega))) | (with_reducible refine Op_rng2 ?_ ?_ ?_ ?_ ?_; (first | assumption | omega | (simp <;> omega)); (first | assumption | omega | (simp <;> omega)); (first | assumption | omega | (simp <;> omega)); (first | assumption | omega | (simp <;> omega))) | (with_reducible refine Op_rg1 ?_ ?_ ?_; (first | assumption | omega | (simp <;> omega)); (first | assumption | omega | (simp <;> omega))) | (with_reducible refine Op_rg2 ?_ ?_ ?_ ?_ ?_; (first | assumption | omega | (simp <;> omega)); (first | assumption | omega | (simp <;> omega)); (first | assumption | omega | (simp <;> omega)); (first | assumption | omega | (simp <;> omega))) | (with_reducible refine Op_lenS ?_ ?_; (first | assumption | omega | (simp <;> omega))))); try simp))
        exact ⟨H.le (by omega), V.le (by omega), A⟩
    · intro ρ m' hI
      obtain ⟨⟨x5, x6, x7, x8, e⟩, H, V, A⟩ := hI
      subst e
      (try simp [V.rs]; repeat ((focus (first | (with_reducible refine Op_addT ?_ ?_; (first | assumption | omega | (simp <;> omega))) | (with_reducible refine Op_addL ?_ ?_; (first | assumption | omega | (simp <;> omega))) | (with_reducible refine Op_mul ?_ ?_ ?_ ?_ ?_; (first | assumption | omega | (simp <;> omega)); (first | assumption | omega | (simp <;> omega)); (first | assumption | omega | (simp <;> omega)); (first | assumption | omega | (simp <;> omega))) | (with_reducible refine Op_div ?_ ?_ ?_; (first | assumption | omega | (simp <;> omega)); (first | assumption | omega | (simp <;> omega))) | (with_reducible refine Op_mod ?_ ?_; (first | assumption | omega | (simp <;> omega))) | (with_reducible refine Op_pow ?_ ?_ ?_ ?_ ?_; (first | assumption | omega | (simp <;> omega)); (first | assumption | omega | (simp <;> omega)); (first | assumption | omega | (simp <;> omega)); (first | assumption | omega | (simp <;> omega))) | (with_reducible refine Op_rng1 ?_ ?_ ?_; (first | assumption | omega | (simp <;> omega)); (first | assumption | omega | (simp <;> omega))) | (with_reducible refine Op_rng2 ?_ ?_ ?_ ?_ ?_; (first | assumption | omega | (simp <;> omega)); (first | assumption | omega | (simp <;> omega)); (first | assumption | omega | (simp <;> omega)); (first | assumption | omega | (simp <;> omega))) | (with_reducible refine Op_rg1 ?_ ?_ ?_; (first | assumption | omega | (simp <;> omega)); (first | assumption | omega | (simp <;> omega))) | (with_reducible refine Op_rg2 ?_ ?_ ?_ ?_ ?_; (first | assumption | omega | (simp <;> omega)); (first | assumption | omega | (simp <;> omega)); (first | assumption | omega | (simp <;> omega)); (first | assumption | omega | (simp <;> omega))) | (with_reducible refine Op_lenS ?_ ?_; (first | assumption | omega | (simp <;> omega))))); try simp [V.rs]))
      refine V.frz fun xs m2 h1 h2 B => ?_
      have hr1 := V.pos
      exact ⟨⟨xs, rfl, by omega, h2⟩, H.aft B (by (first | decide | (simp; done) | (simp; omega))), A.aft B (by (first | decide | (simp; done) | (simp; omega)))⟩
end Lw
namespace Lw
open PySem Gs
def aWord (k : Nat) : D := .str (Txt.mul (PySem.Str.ofString "a") (1 + (k : Int)))
theorem aWord_ok : ∀ k : Nat, k < 8 → isWord (aWord k) = true := by decide +kernel
theorem aWord_ne : ∀ i : Nat, i < 8 → ∀ j : Nat, j < 8 → i < j → Txt.mul (PySem.Str.ofString "a") (1 + (i : Int)) ≠ Txt.mul (PySem.Str.ofString "a") (1 + (j : Int)) := by decide +kernel
theorem a_words {k : Nat} (h1 : 1 ≤ k) (h2 : k ≤ 8) : Words ((List.range k).map aWord) := by
  refine ⟨by simpa using h1, by simpa using h2, fun i s hs => ?_, fun i j hij hj e => ?_⟩
  · rw [List.getElem?_map] at hs
    obtain ⟨x, hx, rfl⟩ := Option.map_eq_some_iff.mp hs
    have hx2 : x < k := by
      have := List.mem_of_getElem? hx
      simpa using this
    exact aWord_ok x (by omega)
  · have hj2 : j < k := by simpa using hj
    rw [List.getElem?_map, List.getElem?_map, List.getElem?_range (by omega), List.getElem?_range hj2] at e
    simp only [Option.map_some, Option.some.injEq, aWord] at e
    injection e with e
    exact aWord_ne i (by omega) j (by omega) hij e
theorem oMul_a {m : Mu} {k : Nat} (hk : k < 8) : oMul m (.str (PySem.Str.ofString "a")) (.int (1 + (k : Int))) = some (aWord k) := by
  have h1 : (1 : Int) ≤ 1 + (k : Int) := by omega
  have h2 : 1 + (k : Int) ≤ 1000 := by omega
  have h3 : Nat.ble (PySem.Str.ofString "a").length 1000 = true := by decide +kernel
  simp only [oMul, vw_str, h1, h2, h3, decide_true, Bool.and_self, if_true]
  rfl
end Lw
namespace Lw
open PySem Gs
def saidD (d : D) : D := .lst [.str (PySem.Str.ofString "said"), d]
def raisedD (l : List D) : D := .lst [.str (PySem.Str.ofString "raised"), .lst l]
def numD (x : D) : D := .lst [.str (PySem.Str.ofString "number"), x]
def errN (a : D) : List (Nat × D) := [(n_value, a)]
theorem Wp_eShw {bs : Bases} {l : List ShwI} {i c : Nat} {fs : List (Nat × D)} {ds : List D} {ρ : Gs.Env} {m : Mu} {q : D → Mu → Prop} {E : EK} (h : ρ[i]? = some (some (.exc c fs))) (hd : shwD bs c fs l = some ds) : @Wp _ (eShw bs l i ρ m) q E = q (.lst ds) m := by
  unfold eShw
  simp only [h, hd, Wp_ok]
theorem hd_shown {K : SK} {ρ : Gs.Env} {m : Mu} {i c : Nat} {fs : List (Nat × D)} {ds : List D} (hd : shwD bs c fs shw_law_shown = some ds) (hc : ([n_GiftError].any fun k => (bs c).contains k) = true) (hi : i < ρ.length) (hk : K.rt (raisedD ds) m) :
    @Ws (hdGo bs c fs [⟨[n_GiftError], some i, sRet (eLst (esCons (eC (.str (PySem.Str.ofString "raised"))) (esCons (eShw bs shw_law_shown i) esNil)))⟩] ρ m) K := by
  rw [Ws_hdYes hc]
  simp
  rw [Wp_eShw (by simp [hi]) hd]
  exact hk
theorem rs_raised {m : Mu} {l : List D} : rs m (raisedD l) = raisedD l := (rfl)
theorem rs_said {m : Mu} {d : D} : rs m (saidD d) = saidD d := (rfl)
theorem said_dat {k : Nat} {d : D} (h : D.dat k d = true) : D.dat (k + 1) (saidD d) = true := by
  refine lst_dat (by simp) fun x hx => ?_
  simp only [List.mem_cons, List.not_mem_nil, or_false] at hx
  rcases hx with h2 | h2 <;> subst h2
  · exact dat_up (n := 0) (by omega) (by decide +kernel)
  · exact h
theorem raised_dat {k : Nat} {l : List D} (hl : l.length ≤ 100) (h : ∀ x ∈ l, D.dat k x = true) : D.dat (k + 2) (raisedD l) = true := by
  refine lst_dat (by simp) fun x hx => ?_
  simp only [List.mem_cons, List.not_mem_nil, or_false] at hx
  rcases hx with h2 | h2 <;> subst h2
  · exact dat_up (n := 0) (by omega) (by decide +kernel)
  · exact lst_dat (by omega) h
theorem num_dat {k : Nat} {x : D} (h : D.dat k x = true) : D.dat (k + 1) (numD x) = true := by
  refine lst_dat (by simp) fun y hy => ?_
  simp only [List.mem_cons, List.not_mem_nil, or_false] at hy
  rcases hy with h2 | h2 <;> subst h2
  · exact dat_up (n := 0) (by omega) (by decide +kernel)
  · exact h
end Lw
namespace Lw
open PySem Gs
def lotF (s p : Int) (d : D) : D := match d with
  | .int i => .tup (rgD (i * s) (s * p))
  | _ => .non
theorem shw_num {x : D} : shwD bs n_InvalidNumber (errN x) shw_law_shown = some [numD x] := by kernel_rfl
section
variable {n : Nat} {m : Mu} {ws : List D} {s p : Int} {a : D}
theorem spec_lot_from (hs : 0 ≤ s) (hs2 : s < 1000) (hp : 0 ≤ p) (hp2 : p < 1000) {i : Int} (h : inR 0 p (.int i) = true) : runs tab (n + 3) 0 n_lot_from [frameD ws s p, .int i] m = .ok (lotF s p (.int i)) m := by
  refine eq_of_wp ?_
  rw [Wp_run t_lot_from rfl rfl]
  have hi : 0 ≤ i ∧ i ≤ p := by simpa [inR] using h
  have h1 : 0 ≤ i * s := Int.mul_nonneg hi.1 hs
  have h2 : i * s ≤ 1000000 := by
    have : i * s ≤ p * s := Int.mul_le_mul_of_nonneg_right hi.2 hs
    have : p * s ≤ 999 * s := Int.mul_le_mul_of_nonneg_right (by omega) hs
    omega
  have h3 : 0 ≤ s * p := Int.mul_nonneg hs hp
  have h4 : s * p ≤ 1000000 := by
    have : s * p ≤ s * 999 := Int.mul_le_mul_of_nonneg_left (by omega) hs
    omega
  (try simp [b_lot_from, fr_rs, fr_periods, fr_size, fr_cells, spec_is_from_to, h]; repeat ((focus (first | (with_reducible refine Op_addT ?_ ?_; (first | assumption | omega | (simp <;> omega))) | (with_reducible refine Op_addL ?_ ?_; (first | assumption | omega | (simp <;> omega))) | (with_reducible refine Op_mul ?_ ?_ ?_ ?_ ?_; (first | assumption | omega | (simp <;> omega)); (first | assumption | omega | (simp <;> omega)); (first | assumption | omega | (simp <;> omega)); (first | assumption | omega | (simp <;> omega))) | (with_reducible refine Op_div ?_ ?_ ?_; (first | assumption | omega | (simp <;> omega)); (first | assumption | omega | (simp <;> omega))) | (with_reducible refine Op_mod ?_ ?_; (first | assumption | omega | (simp <;> omega))) | (with_reducible refine Op_pow ?_ ?_ ?_ ?_ ?_; (first | assumption | omega | (simp <;> omega)); (first | assumption | omega | (simp <;> omega)); (first | assumption | omega | (simp <;> omega)); (first | assumption | omega | (simp <;> omega))) | (with_reducible refine Op_rng1 ?_ ?_ ?_; (first | assumption | omega | (simp <;> omega)); (first | assumption | omega | (simp <;> omega))) | (with_reducible refine Op_rng2 ?_ ?_ ?_ ?_ ?_; (first | assumption | omega | (simp <;> omega)); (first | assumption | omega | (simp <;> omega)); (first | assumption | omega | (simp <;> omega)); (first | assumption | omega | (simp <;> omega))) | (with_reducible refine Op_rg1 ?_ ?_ ?_; (first | assumption | omega | (simp <;> omega)); (first | assumption | omega | (simp <;> omega))) | (with_reducible refine Op_rg2 ?_ ?_ ?_ ?_ ?_; (first | assumption | omega | (simp <;> omega)); (first | assumption | omega | (simp <;> omega)); (first | assumption | omega | (simp <;> omega)); (first | assumption | omega | (simp <;> omega))) | (with_reducible refine Op_lenS ?_ ?_; (first | assumption | omega | (simp <;> omega))))); try simp [b_lot_from, fr_rs, fr_periods, fr_size, fr_cells, spec_is_from_to, h]))
  simp [lotF]
theorem spec_lot_from_bad (ha : a.pl = true) (h : inR 0 p a = false) : runs tab (n + 3) 0 n_lot_from [frameD ws s p, a] m = .exc n_InvalidNumber (errN a) m := by
  refine exc_of_wp ?_
  rw [Wp_run t_lot_from rfl rfl]
  (try simp [b_lot_from, fr_rs, fr_periods, spec_is_from_to, h, ha]; repeat ((focus (first | (with_reducible refine Op_addT ?_ ?_; (first | assumption | omega | (simp <;> omega))) | (with_reducible refine Op_addL ?_ ?_; (first | assumption | omega | (simp <;> omega))) | (with_reducible refine Op_mul ?_ ?_ ?_ ?_ ?_; (first | assumption | omega | (simp <;> omega)); (first | assumption | omega | (simp <;> omega)); (first | assumption | omega | (simp <;> omega)); (first | assumption | omega | (simp <;> omega))) | (with_reducible refine Op_div ?_ ?_ ?_; (first | assumption | omega | (simp <;> omega)); (first | assumption | omega | (simp <;> omega))) | (with_reducible refine Op_mod ?_ ?_; (first | assumption | omega | (simp <;> omega))) | (with_reducible refine Op_pow ?_ ?_ ?_ ?_ ?_; (first | assumption | omega | (simp <;> omega)); (first | assumption | omega | (simp <;> omega)); (first | assumption | omega | (simp <;> omega)); (first | assumption | omega | (simp <;> omega))) | (with_reducible refine Op_rng1 ?_ ?_ ?_; (first | assumption | omega | (simp <;> omega)); (first | assumption | omega | (simp <;> omega))) | (with_reducible refine Op_rng2 ?_ ?_ ?_ ?_ ?_; (first | assumption | omega | (simp <;> omega)); (first | assumption | omega | (simp <;> omega)); (first | assumption | omega | (simp <;> omega)); (first | assumption | omega | (simp <;> omega))) | (with_reducible refine Op_rg1 ?_ ?_ ?_; (first | assumption | omega | (simp <;> omega)); (first | assumption | omega | (simp <;> omega))) | (with_reducible refine Op_rg2 ?_ ?_ ?_ ?_ ?_; (first | assumption | omega | (simp <;> omega)); (first | assumption | omega | (simp <;> omega)); (first | assumption | omega | (simp <;> omega)); (first | assumption | omega | (simp <;> omega))) | (with_reducible refine Op_lenS ?_ ?_; (first | assumption | omega | (simp <;> omega))))); try simp [b_lot_from, fr_rs, fr_periods, spec_is_from_to, h, ha]))
  simp [errN]
theorem spec_told_from (hs : 0 ≤ s) (hs2 : s < 1000) (hp : 0 ≤ p) (hp2 : p < 1000) (ha : a.pl = true) {b : Bool} : runs tab (n + 4) 0 n__law_told_from [frameD ws s p, a, .bl b] m = .ok (if inR 0 p a then saidD (lotF s p a) else raisedD [numD a]) m := by
  refine eq_of_wp ?_
  rw [Wp_run t_law_told_from rfl rfl]
  cases h : inR 0 p a with
  | true =>
    cases a <;> simp [inR] at h
    rename_i i
    have h' : inR 0 p (.int i) = true := by simp [inR, h]
    cases b <;> (try simp [b_law_told_from, fr_rs, spec_lot_from hs hs2 hp hp2 h']; repeat ((focus (first | (with_reducible refine Op_addT ?_ ?_; (first | assumption | omega | (simp <;> omega))) | (with_reducible refine Op_addL ?_ ?_; (first | assumption | omega | (simp <;> omega))) | (with_reducible refine Op_mul ?_ ?_ ?_ ?_ ?_; (first | assumption | omega | (simp <;> omega)); (first | assumption | omega | (simp <;> omega)); (first | assumption | omega | (simp <;> omega)); (first | assumption | omega | (simp <;> omega))) | (with_reducible refine Op_div ?_ ?_ ?_; (first | assumption | omega | (simp <;> omega)); (first | assumption | omega | (simp <;> omega))) | (with_reducible refine Op_mod ?_ ?_; (first | assumption | omega | (simp <;> omega))) | (with_reducible refine Op_pow ?_ ?_ ?_ ?_ ?_; (first | assumption | omega | (simp <;> omega)); (first | assumption | omega | (simp <;> omega)); (first | assumption | omega | (simp <;> omega)); (first | assumption | omega | (simp <;> omega))) | (with_reducible refine Op_rng1 ?_ ?_ ?_; (first | assumption | omega | (simp <;> omega)); (first | assumption | omega | (simp <;> omega))) | (with_reducible refine Op_rng2 ?_ ?_ ?_ ?_ ?_; (first | assumption | omega | (simp <;> omega)); (first | assumption | omega | (simp <;> omega)); (first | assumption | omega | (simp <;> omega)); (first | assumption | omega | (simp <;> omega))) | (with_reducible refine Op_rg1 ?_ ?_ ?_; (first | assumption | omega | (simp <;> omega)); (first | assumption | omega | (simp <;> omega))) | (with_reducible refine Op_rg2 ?_ ?_ ?_ ?_ ?_; (first | assumption | omega | (simp <;> omega)); (first | assumption | omega | (simp <;> omega)); (first | assumption | omega | (simp <;> omega)); (first | assumption | omega | (simp <;> omega))) | (with_reducible refine Op_lenS ?_ ?_; (first | assumption | omega | (simp <;> omega))))); try simp [b_law_told_from, fr_rs, spec_lot_from hs hs2 hp hp2 h'])) <;> simp [saidD, lotF]
  | false =>
    cases b <;> (try simp [b_law_told_from, fr_rs, ha, spec_lot_from_bad ha h]; repeat ((focus (first | (with_reducible refine Op_addT ?_ ?_; (first | assumption | omega | (simp <;> omega))) | (with_reducible refine Op_addL ?_ ?_; (first | assumption | omega | (simp <;> omega))) | (with_reducible refine Op_mul ?_ ?_ ?_ ?_ ?_; (first | assumption | omega | (simp <;> omega)); (first | assumption | omega | (simp <;> omega)); (first | assumption | omega | (simp <;> omega)); (first | assumption | omega | (simp <;> omega))) | (with_reducible refine Op_div ?_ ?_ ?_; (first | assumption | omega | (simp <;> omega)); (first | assumption | omega | (simp <;> omega))) | (with_reducible refine Op_mod ?_ ?_; (first | assumption | omega | (simp <;> omega))) | (with_reducible refine Op_pow ?_ ?_ ?_ ?_ ?_; (first | assumption | omega | (simp <;> omega)); (first | assumption | omega | (simp <;> omega)); (first | assumption | omega | (simp <;> omega)); (first | assumption | omega | (simp <;> omega))) | (with_reducible refine Op_rng1 ?_ ?_ ?_; (first | assumption | omega | (simp <;> omega)); (first | assumption | omega | (simp <;> omega))) | (with_reducible refine Op_rng2 ?_ ?_ ?_ ?_ ?_; (first | assumption | omega | (simp <;> omega)); (first | assumption | omega | (simp <;> omega)); (first | assumption | omega | (simp <;> omega)); (first | assumption | omega | (simp <;> omega))) | (with_reducible refine Op_rg1 ?_ ?_ ?_; (first | assumption | omega | (simp <;> omega)); (first | assumption | omega | (simp <;> omega))) | (with_reducible refine Op_rg2 ?_ ?_ ?_ ?_ ?_; (first | assumption | omega | (simp <;> omega)); (first | assumption | omega | (simp <;> omega)); (first | assumption | omega | (simp <;> omega)); (first | assumption | omega | (simp <;> omega))) | (with_reducible refine Op_lenS ?_ ?_; (first | assumption | omega | (simp <;> omega))))); try simp [b_law_told_from, fr_rs, ha, spec_lot_from_bad ha h])) <;> refine hd_shown shw_num (by decide +kernel) (by simp) ?_ <;> simp [rs_raised]
end
theorem k04 : ∀ ns : List Int, ns.length ≤ 63 → (∀ z ∈ ns, Builtin.Int.intBits z ≤ 1048576) → ∃ μ, runs tab 100 0 n_law [.rol (ns.map D.int)] ⟨0, []⟩ = .ok (.bl true) μ := by
  intro ns hl hb
  have hp : @Wp _ (runs tab 100 0 n_law [.rol (ns.map D.int)] ⟨0, []⟩) (fun v _ => v = .bl true) noE := by
    rw [Wp_run t_law rfl rfl]
    simp [b_law]
    refine Wp.mono (spec_pool hl) ?_
    intro v m ⟨hv, H⟩
    subst hv
    (try simp [H.rs]; repeat ((focus (first | (with_reducible refine Op_addT ?_ ?_; (first | assumption | omega | (simp <;> omega))) | (with_reducible refine Op_addL ?_ ?_; (first | assumption | omega | (simp <;> omega))) | (with_reducible refine Op_mul ?_ ?_ ?_ ?_ ?_; (first | assumption | omega | (simp <;> omega)); (first | assumption | omega | (simp <;> omega)); (first | assumption | omega | (simp <;> omega)); (first | assumption | omega | (simp <;> omega))) | (with_reducible refine Op_div ?_ ?_ ?_; (first | assumption | omega | (simp <;> omega)); (first | assumption | omega | (simp <;> omega))) | (with_reducible refine Op_mod ?_ ?_; (first | assumption | omega | (simp <;> omega))) | (with_reducible refine Op_pow ?_ ?_ ?_ ?_ ?_; (first | assumption | omega | (simp <;> omega)); (first | assumption | omega | (simp <;> omega)); (first | assumption | omega | (simp <;> omega)); (first | assumption | omega | (simp <;> omega))) | (with_reducible refine Op_rng1 ?_ ?_ ?_; (first | assumption | omega | (simp <;> omega)); (first | assumption | omega | (simp <;> omega))) | (with_reducible refine Op_rng2 ?_ ?_ ?_ ?_ ?_; (first | assumption | omega | (simp <;> omega)); (first | assumption | omega | (simp <;> omega)); (first | assumption | omega | (simp <;> omega)); (first | assumption | omega | (simp <;> omega))) | (with_reducible refine Op_rg1 ?_ ?_ ?_; (first | assumption | omega | (simp <;> omega)); (first | assumption | omega | (simp <;> omega))) | (with_reducible refine Op_rg2 ?_ ?_ ?_ ?_ ?_; (first | assumption | omega | (simp <;> omega)); (first | assumption | omega | (simp <;> omega)); (first | assumption | omega | (simp <;> omega)); (first | assumption | omega | (simp <;> omega))) | (with_reducible refine Op_lenS ?_ ?_; (first | assumption | omega | (simp <;> omega))))); try simp [H.rs]))
    (refine Wp.mono (spec_draw H (by omega) (by omega) (by omega)) ?_; intro v_ m_ hv_; obtain ⟨d1, hv_, a1, b1, H_, A_⟩ := hv_; subst hv_; replace H := H_; clear H_)
    (try simp [H.rs]; repeat ((focus (first | (with_reducible refine Op_addT ?_ ?_; (first | assumption | omega | (simp <;> omega))) | (with_reducible refine Op_addL ?_ ?_; (first | assumption | omega | (simp <;> omega))) | (with_reducible refine Op_mul ?_ ?_ ?_ ?_ ?_; (first | assumption | omega | (simp <;> omega)); (first | assumption | omega | (simp <;> omega)); (first | assumption | omega | (simp <;> omega)); (first | assumption | omega | (simp <;> omega))) | (with_reducible refine Op_div ?_ ?_ ?_; (first | assumption | omega | (simp <;> omega)); (first | assumption | omega | (simp <;> omega))) | (with_reducible refine Op_mod ?_ ?_; (first | assumption | omega | (simp <;> omega))) | (with_reducible refine Op_pow ?_ ?_ ?_ ?_ ?_; (first | assumption | omega | (simp <;> omega)); (first | assumption | omega | (simp <;> omega)); (first | assumption | omega | (simp <;> omega)); (first | assumption | omega | (simp <;> omega))) | (with_reducible refine Op_rng1 ?_ ?_ ?_; (first | assumption | omega | (simp <;> omega)); (first | assumption | omega | (simp <;> omega))) | (with_reducible refine Op_rng2 ?_ ?_ ?_ ?_ ?_; (first | assumption | omega | (simp <;> omega)); (first | assumption | omega | (simp <;> omega)); (first | assumption | omega | (simp <;> omega)); (first | assumption | omega | (simp <;> omega))) | (with_reducible refine Op_rg1 ?_ ?_ ?_; (first | assumption | omega | (simp <;> omega)); (first | assumption | omega | (simp <;> omega))) | (with_reducible refine Op_rg2 ?_ ?_ ?_ ?_ ?_; (first | assumption | omega | (simp <;> omega)); (first | assumption | omega | (simp <;> omega)); (first | assumption | omega | (simp <;> omega)); (first | assumption | omega | (simp <;> omega))) | (with_reducible refine Op_lenS ?_ ?_; (first | assumption | omega | (simp <;> omega))))); try simp [H.rs]))
    (refine Wp.mono (spec_draw H (by omega) (by omega) (by omega)) ?_; intro v_ m_ hv_; obtain ⟨d2, hv_, a2, b2, H_, A_⟩ := hv_; subst hv_; replace H := H_; clear H_)
    (try simp; repeat ((focus (first | (with_reducible refine Op_addT ?_ ?_; (first | assumption | omega | (simp <;> omega))) | (with_reducible refine Op_addL ?_ ?_; (first | assumption | omega | (simp <;> omega))) | (with_reducible refine Op_mul ?_ ?_ ?_ ?_ ?_; (first | assumption | omega | (simp <;> omega)); (first | assumption | omega | (simp <;> omega)); (first | assumption | omega | (simp <;> omega)); (first | assumption | omega | (simp <;> omega))) | (with_reducible refine Op_div ?_ ?_ ?_; (first | assumption | omega | (simp <;> omega)); (first | assumption | omega | (simp <;> omega))) | (with_reducible refine Op_mod ?_ ?_; (first | assumption | omega | (simp <;> omega))) | (with_reducible refine Op_pow ?_ ?_ ?_ ?_ ?_; (first | assumption | omega | (simp <;> omega)); (first | assumption | omega | (simp <;> omega)); (first | assumption | omega | (simp <;> omega)); (first | assumption | omega | (simp <;> omega))) | (with_reducible refine Op_rng1 ?_ ?_ ?_; (first | assumption | omega | (simp <;> omega)); (first | assumption | omega | (simp <;> omega))) | (with_reducible refine Op_rng2 ?_ ?_ ?_ ?_ ?_; (first | assumption | omega | (simp <;> omega)); (first | assumption | omega | (simp <;> omega)); (first | assumption | omega | (simp <;> omega)); (first | assumption | omega | (simp <;> omega))) | (with_reducible refine Op_rg1 ?_ ?_ ?_; (first | assumption | omega | (simp <;> omega)); (first | assumption | omega | (simp <;> omega))) | (with_reducible refine Op_rg2 ?_ ?_ ?_ ?_ ?_; (first | assumption | omega | (simp <;> omega)); (first | assumption | omega | (simp <;> omega)); (first | assumption | omega | (simp <;> omega)); (first | assumption | omega | (simp <;> omega))) | (with_reducible refine Op_lenS ?_ ?_; (first | assumption | omega | (simp <;> omega))))); try simp))
    refine Op_pick (fun x => ∃ P : Int, x = .int P ∧ 1 ≤ P ∧ P ≤ 8) a2 (by simpa using b2) ?_ ?_
    · intro x hx
      simp only [List.mem_cons, List.not_mem_nil, or_false] at hx
      rcases hx with h | h | h | h <;> subst h <;> exact ⟨_, rfl, by omega, by omega⟩
    rintro x ⟨P, e, P1, P8⟩ -
    subst e
    (try simp; repeat ((focus (first | (with_reducible refine Op_addT ?_ ?_; (first | assumption | omega | (simp <;> omega))) | (with_reducible refine Op_addL ?_ ?_; (first | assumption | omega | (simp <;> omega))) | (with_reducible refine Op_mul ?_ ?_ ?_ ?_ ?_; (first | assumption | omega | (simp <;> omega)); (first | assumption | omega | (simp <;> omega)); (first | assumption | omega | (simp <;> omega)); (first | assumption | omega | (simp <;> omega))) | (with_reducible refine Op_div ?_ ?_ ?_; (first | assumption | omega | (simp <;> omega)); (first | assumption | omega | (simp <;> omega))) | (with_reducible refine Op_mod ?_ ?_; (first | assumption | omega | (simp <;> omega))) | (with_reducible refine Op_pow ?_ ?_ ?_ ?_ ?_; (first | assumption | omega | (simp <;> omega)); (first | assumption | omega | (simp <;> omega)); (first | assumption | omega | (simp <;> omega)); (first | assumption | omega | (simp <;> omega))) | (with_reducible refine Op_rng1 ?_ ?_ ?_; (first | assumption | omega | (simp <;> omega)); (first | assumption | omega | (simp <;> omega))) | (with_reducible refine Op_rng2 ?_ ?_ ?_ ?_ ?_; (first | assumption | omega | (simp <;> omega)); (first | assumption | omega | (simp <;> omega)); (first | assumption | omega | (simp <;> omega)); (first | assumption | omega | (simp <;> omega))) | (with_reducible refine Op_rg1 ?_ ?_ ?_; (first | assumption | omega | (simp <;> omega)); (first | assumption | omega | (simp <;> omega))) | (with_reducible refine Op_rg2 ?_ ?_ ?_ ?_ ?_; (first | assumption | omega | (simp <;> omega)); (first | assumption | omega | (simp <;> omega)); (first | assumption | omega | (simp <;> omega)); (first | assumption | omega | (simp <;> omega))) | (with_reducible refine Op_lenS ?_ ?_; (first | assumption | omega | (simp <;> omega))))); try simp))
    have hM : ∃ M : Int, 1 ≤ M ∧ M ≤ 8 ∧ M * P ≤ 40 ∧ (if 40 / P < 8 then 40 / P else 8) = M := by
      refine ⟨_, ?_, ?_, ?_, rfl⟩
      · split
        · exact (Int.le_ediv_iff_mul_le (by omega)).mpr (by omega)
        · omega
      · split <;> omega
      · split
        · exact Int.ediv_mul_le 40 (by omega)
        · rename_i h8
          have h9 : 8 ≤ 40 / P := by omega
          exact (Int.le_ediv_iff_mul_le (by omega)).mp h9
    obtain ⟨M, M1, M8, MP, hMe⟩ := hM
    rw [hMe]
    (try simp [H.rs]; repeat ((focus (first | (with_reducible refine Op_addT ?_ ?_; (first | assumption | omega | (simp <;> omega))) | (with_reducible refine Op_addL ?_ ?_; (first | assumption | omega | (simp <;> omega))) | (with_reducible refine Op_mul ?_ ?_ ?_ ?_ ?_; (first | assumption | omega | (simp <;> omega)); (first | assumption | omega | (simp <;> omega)); (first | assumption | omega | (simp <;> omega)); (first | assumption | omega | (simp <;> omega))) | (with_reducible refine Op_div ?_ ?_ ?_; (first | assumption | omega | (simp <;> omega)); (first | assumption | omega | (simp <;> omega))) | (with_reducible refine Op_mod ?_ ?_; (first | assumption | omega | (simp <;> omega))) | (with_reducible refine Op_pow ?_ ?_ ?_ ?_ ?_; (first | assumption | omega | (simp <;> omega)); (first | assumption | omega | (simp <;> omega)); (first | assumption | omega | (simp <;> omega)); (first | assumption | omega | (simp <;> omega))) | (with_reducible refine Op_rng1 ?_ ?_ ?_; (first | assumption | omega | (simp <;> omega)); (first | assumption | omega | (simp <;> omega))) | (with_reducible refine Op_rng2 ?_ ?_ ?_ ?_ ?_; (first | assumption | omega | (simp <;> omega)); (first | assumption | omega | (simp <;> omega)); (first | assumption | omega | (simp <;> omega)); (first | assumption | omega | (simp <;> omega))) | (with_reducible refine Op_rg1 ?_ ?_ ?_; (first | assumption | omega | (simp <;> omega)); (first | assumption | omega | (simp <;> omega))) | (with_reducible refine Op_rg2 ?_ ?_ ?_ ?_ ?_; (first | assumption | omega | (simp <;> omega)); (first | assumption | omega | (simp <;> omega)); (first | assumption | omega | (simp <;> omega)); (first | assumption | omega | (simp <;> omega))) | (with_reducible refine Op_lenS ?_ ?_; (first | assumption | omega | (simp <;> omega))))); try simp [H.rs]))
    (refine Wp.mono (spec_draw H (by omega) (by omega) (by omega)) ?_; intro v_ m_ hv_; obtain ⟨d3, hv_, a3, b3, H_, A_⟩ := hv_; subst hv_; replace H := H_; clear H_)
    (try simp [H.rs]; repeat ((focus (first | (with_reducible refine Op_addT ?_ ?_; (first | assumption | omega | (simp <;> omega))) | (with_reducible refine Op_addL ?_ ?_; (first | assumption | omega | (simp <;> omega))) | (with_reducible refine Op_mul ?_ ?_ ?_ ?_ ?_; (first | assumption | omega | (simp <;> omega)); (first | assumption | omega | (simp <;> omega)); (first | assumption | omega | (simp <;> omega)); (first | assumption | omega | (simp <;> omega))) | (with_reducible refine Op_div ?_ ?_ ?_; (first | assumption | omega | (simp <;> omega)); (first | assumption | omega | (simp <;> omega))) | (with_reducible refine Op_mod ?_ ?_; (first | assumption | omega | (simp <;> omega))) | (with_reducible refine Op_pow ?_ ?_ ?_ ?_ ?_; (first | assumption | omega | (simp <;> omega)); (first | assumption | omega | (simp <;> omega)); (first | assumption | omega | (simp <;> omega)); (first | assumption | omega | (simp <;> omega))) | (with_reducible refine Op_rng1 ?_ ?_ ?_; (first | assumption | omega | (simp <;> omega)); (first | assumption | omega | (simp <;> omega))) | (with_reducible refine Op_rng2 ?_ ?_ ?_ ?_ ?_; (first | assumption | omega | (simp <;> omega)); (first | assumption | omega | (simp <;> omega)); (first | assumption | omega | (simp <;> omega)); (first | assumption | omega | (simp <;> omega))) | (with_reducible refine Op_rg1 ?_ ?_ ?_; (first | assumption | omega | (simp <;> omega)); (first | assumption | omega | (simp <;> omega))) | (with_reducible refine Op_rg2 ?_ ?_ ?_ ?_ ?_; (first | assumption | omega | (simp <;> omega)); (first | assumption | omega | (simp <;> omega)); (first | assumption | omega | (simp <;> omega)); (first | assumption | omega | (simp <;> omega))) | (with_reducible refine Op_lenS ?_ ?_; (first | assumption | omega | (simp <;> omega))))); try simp [H.rs]))
    (refine Wp.mono (spec_draw H (by omega) (by omega) (by omega)) ?_; intro v_ m_ hv_; obtain ⟨d4, hv_, a4, b4, H_, A_⟩ := hv_; subst hv_; replace H := H_; clear H_)
    (try simp; repeat ((focus (first | (with_reducible refine Op_addT ?_ ?_; (first | assumption | omega | (simp <;> omega))) | (with_reducible refine Op_addL ?_ ?_; (first | assumption | omega | (simp <;> omega))) | (with_reducible refine Op_mul ?_ ?_ ?_ ?_ ?_; (first | assumption | omega | (simp <;> omega)); (first | assumption | omega | (simp <;> omega)); (first | assumption | omega | (simp <;> omega)); (first | assumption | omega | (simp <;> omega))) | (with_reducible refine Op_div ?_ ?_ ?_; (first | assumption | omega | (simp <;> omega)); (first | assumption | omega | (simp <;> omega))) | (with_reducible refine Op_mod ?_ ?_; (first | assumption | omega | (simp <;> omega))) | (with_reducible refine Op_pow ?_ ?_ ?_ ?_ ?_; (first | assumption | omega | (simp <;> omega)); (first | assumption | omega | (simp <;> omega)); (first | assumption | omega | (simp <;> omega)); (first | assumption | omega | (simp <;> omega))) | (with_reducible refine Op_rng1 ?_ ?_ ?_; (first | assumption | omega | (simp <;> omega)); (first | assumption | omega | (simp <;> omega))) | (with_reducible refine Op_rng2 ?_ ?_ ?_ ?_ ?_; (first | assumption | omega | (simp <;> omega)); (first | assumption | omega | (simp <;> omega)); (first | assumption | omega | (simp <;> omega)); (first | assumption | omega | (simp <;> omega))) | (with_reducible refine Op_rg1 ?_ ?_ ?_; (first | assumption | omega | (simp <;> omega)); (first | assumption | omega | (simp <;> omega))) | (with_reducible refine Op_rg2 ?_ ?_ ?_ ?_ ?_; (first | assumption | omega | (simp <;> omega)); (first | assumption | omega | (simp <;> omega)); (first | assumption | omega | (simp <;> omega)); (first | assumption | omega | (simp <;> omega))) | (with_reducible refine Op_lenS ?_ ?_; (first | assumption | omega | (simp <;> omega))))); try simp))
    refine Op_pick (fun x => ∃ S : Nat, x = .int S ∧ 1 ≤ S ∧ (S : Int) ≤ M) a4 (by simpa using b4) ?_ ?_
    · intro x hx
      simp only [List.mem_cons, List.not_mem_nil, or_false] at hx
      rcases hx with h | h | h <;> subst h
      · exact ⟨(1 + d3).toNat, by simp; omega, by omega, by omega⟩
      · exact ⟨M.toNat, by simp; omega, by omega, by omega⟩
      · exact ⟨1, by simp, by omega, by omega⟩
    rintro x ⟨S, e, S1, SM⟩ -
    subst e
    have SP : (S : Int) * P ≤ 40 := Int.le_trans (Int.mul_le_mul_of_nonneg_right SM (by omega)) MP
    have SP0 : 0 < (S : Int) * P := Int.mul_pos (by omega) (by omega)
    (try simp; repeat ((focus (first | (with_reducible refine Op_addT ?_ ?_; (first | assumption | omega | (simp <;> omega))) | (with_reducible refine Op_addL ?_ ?_; (first | assumption | omega | (simp <;> omega))) | (with_reducible refine Op_mul ?_ ?_ ?_ ?_ ?_; (first | assumption | omega | (simp <;> omega)); (first | assumption | omega | (simp <;> omega)); (first | assumption | omega | (simp <;> omega)); (first | assumption | omega | (simp <;> omega))) | (with_reducible refine Op_div ?_ ?_ ?_; (first | assumption | omega | (simp <;> omega)); (first | assumption | omega | (simp <;> omega))) | (with_reducible refine Op_mod ?_ ?_; (first | assumption | omega | (simp <;> omega))) | (with_reducible refine Op_pow ?_ ?_ ?_ ?_ ?_; (first | assumption | omega | (simp <;> omega)); (first | assumption | omega | (simp <;> omega)); (first | assumption | omega | (simp <;> omega)); (first | assumption | omega | (simp <;> omega))) | (with_reducible refine Op_rng1 ?_ ?_ ?_; (first | assumption | omega | (simp <;> omega)); (first | assumption | omega | (simp <;> omega))) | (with_reducible refine Op_rng2 ?_ ?_ ?_ ?_ ?_; (first | assumption | omega | (simp <;> omega)); (first | assumption | omega | (simp <;> omega)); (first | assumption | omega | (simp <;> omega)); (first | assumption | omega | (simp <;> omega))) | (with_reducible refine Op_rg1 ?_ ?_ ?_; (first | assumption | omega | (simp <;> omega)); (first | assumption | omega | (simp <;> omega))) | (with_reducible refine Op_rg2 ?_ ?_ ?_ ?_ ?_; (first | assumption | omega | (simp <;> omega)); (first | assumption | omega | (simp <;> omega)); (first | assumption | omega | (simp <;> omega)); (first | assumption | omega | (simp <;> omega))) | (with_reducible refine Op_lenS ?_ ?_; (first | assumption | omega | (simp <;> omega))))); try simp))
    rw [comp_mapR S aWord (by omega) (fun i hi => by simp [oMul_a (show i < 8 by omega), aWord])]
    (try simp; repeat ((focus (first | (with_reducible refine Op_addT ?_ ?_; (first | assumption | omega | (simp <;> omega))) | (with_reducible refine Op_addL ?_ ?_; (first | assumption | omega | (simp <;> omega))) | (with_reducible refine Op_mul ?_ ?_ ?_ ?_ ?_; (first | assumption | omega | (simp <;> omega)); (first | assumption | omega | (simp <;> omega)); (first | assumption | omega | (simp <;> omega)); (first | assumption | omega | (simp <;> omega))) | (with_reducible refine Op_div ?_ ?_ ?_; (first | assumption | omega | (simp <;> omega)); (first | assumption | omega | (simp <;> omega))) | (with_reducible refine Op_mod ?_ ?_; (first | assumption | omega | (simp <;> omega))) | (with_reducible refine Op_pow ?_ ?_ ?_ ?_ ?_; (first | assumption | omega | (simp <;> omega)); (first | assumption | omega | (simp <;> omega)); (first | assumption | omega | (simp <;> omega)); (first | assumption | omega | (simp <;> omega))) | (with_reducible refine Op_rng1 ?_ ?_ ?_; (first | assumption | omega | (simp <;> omega)); (first | assumption | omega | (simp <;> omega))) | (with_reducible refine Op_rng2 ?_ ?_ ?_ ?_ ?_; (first | assumption | omega | (simp <;> omega)); (first | assumption | omega | (simp <;> omega)); (first | assumption | omega | (simp <;> omega)); (first | assumption | omega | (simp <;> omega))) | (with_reducible refine Op_rg1 ?_ ?_ ?_; (first | assumption | omega | (simp <;> omega)); (first | assumption | omega | (simp <;> omega))) | (with_reducible refine Op_rg2 ?_ ?_ ?_ ?_ ?_; (first | assumption | omega | (simp <;> omega)); (first | assumption | omega | (simp <;> omega)); (first | assumption | omega | (simp <;> omega)); (first | assumption | omega | (simp <;> omega))) | (with_reducible refine Op_lenS ?_ ?_; (first | assumption | omega | (simp <;> omega))))); try simp))
    refine spec_frame_new (n := 96) (.inl rfl) (a_words (k := S) (by omega) (by omega)) (by simp) P1 P8 SP ?_
    intro m' A
    replace H := H.aft A (by simp)
    generalize (List.range S).map aWord = ws
    (try simp [H.rs, fr_rs]; repeat ((focus (first | (with_reducible refine Op_addT ?_ ?_; (first | assumption | omega | (simp <;> omega))) | (with_reducible refine Op_addL ?_ ?_; (first | assumption | omega | (simp <;> omega))) | (with_reducible refine Op_mul ?_ ?_ ?_ ?_ ?_; (first | assumption | omega | (simp <;> omega)); (first | assumption | omega | (simp <;> omega)); (first | assumption | omega | (simp <;> omega)); (first | assumption | omega | (simp <;> omega))) | (with_reducible refine Op_div ?_ ?_ ?_; (first | assumption | omega | (simp <;> omega)); (first | assumption | omega | (simp <;> omega))) | (with_reducible refine Op_mod ?_ ?_; (first | assumption | omega | (simp <;> omega))) | (with_reducible refine Op_pow ?_ ?_ ?_ ?_ ?_; (first | assumption | omega | (simp <;> omega)); (first | assumption | omega | (simp <;> omega)); (first | assumption | omega | (simp <;> omega)); (first | assumption | omega | (simp <;> omega))) | (with_reducible refine Op_rng1 ?_ ?_ ?_; (first | assumption | omega | (simp <;> omega)); (first | assumption | omega | (simp <;> omega))) | (with_reducible refine Op_rng2 ?_ ?_ ?_ ?_ ?_; (first | assumption | omega | (simp <;> omega)); (first | assumption | omega | (simp <;> omega)); (first | assumption | omega | (simp <;> omega)); (first | assumption | omega | (simp <;> omega))) | (with_reducible refine Op_rg1 ?_ ?_ ?_; (first | assumption | omega | (simp <;> omega)); (first | assumption | omega | (simp <;> omega))) | (with_reducible refine Op_rg2 ?_ ?_ ?_ ?_ ?_; (first | assumption | omega | (simp <;> omega)); (first | assumption | omega | (simp <;> omega)); (first | assumption | omega | (simp <;> omega)); (first | assumption | omega | (simp <;> omega))) | (with_reducible refine Op_lenS ?_ ?_; (first | assumption | omega | (simp <;> omega))))); try simp [H.rs, fr_rs]))
    (refine Wp.mono (spec_draw H (by omega) (by omega) (by omega)) ?_; intro v_ m_ hv_; obtain ⟨d5, hv_, a5, b5, H_, A_⟩ := hv_; subst hv_; replace H := H_; clear H_)
    (try simp; repeat ((focus (first | (with_reducible refine Op_addT ?_ ?_; (first | assumption | omega | (simp <;> omega))) | (with_reducible refine Op_addL ?_ ?_; (first | assumption | omega | (simp <;> omega))) | (with_reducible refine Op_mul ?_ ?_ ?_ ?_ ?_; (first | assumption | omega | (simp <;> omega)); (first | assumption | omega | (simp <;> omega)); (first | assumption | omega | (simp <;> omega)); (first | assumption | omega | (simp <;> omega))) | (with_reducible refine Op_div ?_ ?_ ?_; (first | assumption | omega | (simp <;> omega)); (first | assumption | omega | (simp <;> omega))) | (with_reducible refine Op_mod ?_ ?_; (first | assumption | omega | (simp <;> omega))) | (with_reducible refine Op_pow ?_ ?_ ?_ ?_ ?_; (first | assumption | omega | (simp <;> omega)); (first | assumption | omega | (simp <;> omega)); (first | assumption | omega | (simp <;> omega)); (first | assumption | omega | (simp <;> omega))) | (with_reducible refine Op_rng1 ?_ ?_ ?_; (first | assumption | omega | (simp <;> omega)); (first | assumption | omega | (simp <;> omega))) | (with_reducible refine Op_rng2 ?_ ?_ ?_ ?_ ?_; (first | assumption | omega | (simp <;> omega)); (first | assumption | omega | (simp <;> omega)); (first | assumption | omega | (simp <;> omega)); (first | assumption | omega | (simp <;> omega))) | (with_reducible refine Op_rg1 ?_ ?_ ?_; (first | assumption | omega | (simp <;> omega)); (first | assumption | omega | (simp <;> omega))) | (with_reducible refine Op_rg2 ?_ ?_ ?_ ?_ ?_; (first | assumption | omega | (simp <;> omega)); (first | assumption | omega | (simp <;> omega)); (first | assumption | omega | (simp <;> omega)); (first | assumption | omega | (simp <;> omega))) | (with_reducible refine Op_lenS ?_ ?_; (first | assumption | omega | (simp <;> omega))))); try simp))
    have hN : (↑S * P).toNat ≤ 40 := by omega
    refine Wp.mono (comp_drawn H (by omega) ?_) ?_
    · intro i m1 c1 hi H1 hc1
      (try simp [H1.rs]; repeat ((focus (first | (with_reducible refine Op_addT ?_ ?_; (first | assumption | omega | (simp <;> omega))) | (with_reducible refine Op_addL ?_ ?_; (first | assumption | omega | (simp <;> omega))) | (with_reducible refine Op_mul ?_ ?_ ?_ ?_ ?_; (first | assumption | omega | (simp <;> omega)); (first | assumption | omega | (simp <;> omega)); (first | assumption | omega | (simp <;> omega)); (first | assumption | omega | (simp <;> omega))) | (with_reducible refine Op_div ?_ ?_ ?_; (first | assumption | omega | (simp <;> omega)); (first | assumption | omega | (simp <;> omega))) | (with_reducible refine Op_mod ?_ ?_; (first | assumption | omega | (simp <;> omega))) | (with_reducible refine Op_pow ?_ ?_ ?_ ?_ ?_; (first | assumption | omega | (simp <;> omega)); (first | assumption | omega | (simp <;> omega)); (first | assumption | omega | (simp <;> omega)); (first | assumption | omega | (simp <;> omega))) | (with_reducible refine Op_rng1 ?_ ?_ ?_; (first | assumption | omega | (simp <;> omega)); (first | assumption | omega | (simp <;> omega))) | (with_reducible refine Op_rng2 ?_ ?_ ?_ ?_ ?_; (first | assumption | omega | (simp <;> omega)); (first | assumption | omega | (simp <;> omega)); (first | assumption | omega | (simp <;> omega)); (first | assumption | omega | (simp <;> omega))) | (with_reducible refine Op_rg1 ?_ ?_ ?_; (first | assumption | omega | (simp <;> omega)); (first | assumption | omega | (simp <;> omega))) | (with_reducible refine Op_rg2 ?_ ?_ ?_ ?_ ?_; (first | assumption | omega | (simp <;> omega)); (first | assumption | omega | (simp <;> omega)); (first | assumption | omega | (simp <;> omega)); (first | assumption | omega | (simp <;> omega))) | (with_reducible refine Op_lenS ?_ ?_; (first | assumption | omega | (simp <;> omega))))); try simp [H1.rs]))
      refine Wp.mono (spec_draw H1 (by omega) (by omega) (by omega)) ?_
      intro v m2 hv
      obtain ⟨d6, hv, a6, b6, H2, A2⟩ := hv
      subst hv
      (try simp; repeat ((focus (first | (with_reducible refine Op_addT ?_ ?_; (first | assumption | omega | (simp <;> omega))) | (with_reducible refine Op_addL ?_ ?_; (first | assumption | omega | (simp <;> omega))) | (with_reducible refine Op_mul ?_ ?_ ?_ ?_ ?_; (first | assumption | omega | (simp <;> omega)); (first | assumption | omega | (simp <;> omega)); (first | assumption | omega | (simp <;> omega)); (first | assumption | omega | (simp <;> omega))) | (with_reducible refine Op_div ?_ ?_ ?_; (first | assumption | omega | (simp <;> omega)); (first | assumption | omega | (simp <;> omega))) | (with_reducible refine Op_mod ?_ ?_; (first | assumption | omega | (simp <;> omega))) | (with_reducible refine Op_pow ?_ ?_ ?_ ?_ ?_; (first | assumption | omega | (simp <;> omega)); (first | assumption | omega | (simp <;> omega)); (first | assumption | omega | (simp <;> omega)); (first | assumption | omega | (simp <;> omega))) | (with_reducible refine Op_rng1 ?_ ?_ ?_; (first | assumption | omega | (simp <;> omega)); (first | assumption | omega | (simp <;> omega))) | (with_reducible refine Op_rng2 ?_ ?_ ?_ ?_ ?_; (first | assumption | omega | (simp <;> omega)); (first | assumption | omega | (simp <;> omega)); (first | assumption | omega | (simp <;> omega)); (first | assumption | omega | (simp <;> omega))) | (with_reducible refine Op_rg1 ?_ ?_ ?_; (first | assumption | omega | (simp <;> omega)); (first | assumption | omega | (simp <;> omega))) | (with_reducible refine Op_rg2 ?_ ?_ ?_ ?_ ?_; (first | assumption | omega | (simp <;> omega)); (first | assumption | omega | (simp <;> omega)); (first | assumption | omega | (simp <;> omega)); (first | assumption | omega | (simp <;> omega))) | (with_reducible refine Op_lenS ?_ ?_; (first | assumption | omega | (simp <;> omega))))); try simp))
      exact ⟨H2, A2⟩
    intro ys m1 hv
    obtain ⟨⟨is, e, hs⟩, H, A⟩ := hv
    subst e
    obtain ⟨is1, is2, is3⟩ := sub_range hs
    (try simp; repeat ((focus (first | (with_reducible refine Op_addT ?_ ?_; (first | assumption | omega | (simp <;> omega))) | (with_reducible refine Op_addL ?_ ?_; (first | assumption | omega | (simp <;> omega))) | (with_reducible refine Op_mul ?_ ?_ ?_ ?_ ?_; (first | assumption | omega | (simp <;> omega)); (first | assumption | omega | (simp <;> omega)); (first | assumption | omega | (simp <;> omega)); (first | assumption | omega | (simp <;> omega))) | (with_reducible refine Op_div ?_ ?_ ?_; (first | assumption | omega | (simp <;> omega)); (first | assumption | omega | (simp <;> omega))) | (with_reducible refine Op_mod ?_ ?_; (first | assumption | omega | (simp <;> omega))) | (with_reducible refine Op_pow ?_ ?_ ?_ ?_ ?_; (first | assumption | omega | (simp <;> omega)); (first | assumption | omega | (simp <;> omega)); (first | assumption | omega | (simp <;> omega)); (first | assumption | omega | (simp <;> omega))) | (with_reducible refine Op_rng1 ?_ ?_ ?_; (first | assumption | omega | (simp <;> omega)); (first | assumption | omega | (simp <;> omega))) | (with_reducible refine Op_rng2 ?_ ?_ ?_ ?_ ?_; (first | assumption | omega | (simp <;> omega)); (first | assumption | omega | (simp <;> omega)); (first | assumption | omega | (simp <;> omega)); (first | assumption | omega | (simp <;> omega))) | (with_reducible refine Op_rg1 ?_ ?_ ?_; (first | assumption | omega | (simp <;> omega)); (first | assumption | omega | (simp <;> omega))) | (with_reducible refine Op_rg2 ?_ ?_ ?_ ?_ ?_; (first | assumption | omega | (simp <;> omega)); (first | assumption | omega | (simp <;> omega)); (first | assumption | omega | (simp <;> omega)); (first | assumption | omega | (simp <;> omega))) | (with_reducible refine Op_lenS ?_ ?_; (first | assumption | omega | (simp <;> omega))))); try simp))
    have N40 : (S : Int) * P = ((↑S * P).toNat : Int) := by omega
    generalize (↑S * P).toNat = N at *
    rw [N40]
    (focus (refine mutK (16) (fun x => D.dat 2 x = true) H.lt (by (first | assumption | omega | (simp <;> omega))) ?_ ?_; rotate_left; intro r m_ hr V A_; replace H := H.aft A_ (by first | decide | (simp; done) | (simp; omega)); clear A_; rotate_right))
    · intro x hx
      simp only [List.mem_cons, List.not_mem_nil, or_false] at hx
      rcases hx with h | h | h | h | h | h | h | h | h | h | h | h | h | h | h | h <;> subst h <;> first | rfl | decide +kernel
    (try simp [V.rs]; repeat ((focus (first | (with_reducible refine Op_addT ?_ ?_; (first | assumption | omega | (simp <;> omega))) | (with_reducible refine Op_addL ?_ ?_; (first | assumption | omega | (simp <;> omega))) | (with_reducible refine Op_mul ?_ ?_ ?_ ?_ ?_; (first | assumption | omega | (simp <;> omega)); (first | assumption | omega | (simp <;> omega)); (first | assumption | omega | (simp <;> omega)); (first | assumption | omega | (simp <;> omega))) | (with_reducible refine Op_div ?_ ?_ ?_; (first | assumption | omega | (simp <;> omega)); (first | assumption | omega | (simp <;> omega))) | (with_reducible refine Op_mod ?_ ?_; (first | assumption | omega | (simp <;> omega))) | (with_reducible refine Op_pow ?_ ?_ ?_ ?_ ?_; (first | assumption | omega | (simp <;> omega)); (first | assumption | omega | (simp <;> omega)); (first | assumption | omega | (simp <;> omega)); (first | assumption | omega | (simp <;> omega))) | (with_reducible refine Op_rng1 ?_ ?_ ?_; (first | assumption | omega | (simp <;> omega)); (first | assumption | omega | (simp <;> omega))) | (with_reducible refine Op_rng2 ?_ ?_ ?_ ?_ ?_; (first | assumption | omega | (simp <;> omega)); (first | assumption | omega | (simp <;> omega)); (first | assumption | omega | (simp <;> omega)); (first | assumption | omega | (simp <;> omega))) | (with_reducible refine Op_rg1 ?_ ?_ ?_; (first | assumption | omega | (simp <;> omega)); (first | assumption | omega | (simp <;> omega))) | (with_reducible refine Op_rg2 ?_ ?_ ?_ ?_ ?_; (first | assumption | omega | (simp <;> omega)); (first | assumption | omega | (simp <;> omega)); (first | assumption | omega | (simp <;> omega)); (first | assumption | omega | (simp <;> omega))) | (with_reducible refine Op_lenS ?_ ?_; (first | assumption | omega | (simp <;> omega))))); try simp [V.rs]))
    obtain ⟨zs, z1, z2, z3⟩ := V.add (ys := [D.tup [D.int 0, D.bl true], D.tup [D.bl false, D.int 1], D.tup [D.int 0, D.int 0], D.tup [D.int ↑N], D.tup [D.int 1, D.int 0], D.tup [D.int 0, D.int 1]]) (by simp) (by
      intro x hx
      simp only [List.mem_cons, List.not_mem_nil, or_false] at hx
      rcases hx with h | h | h | h | h | h <;> subst h <;> rfl)
    simp only [List.length_cons, List.length_nil] at z2
    (try simp [z1]; repeat ((focus (first | (with_reducible refine Op_addT ?_ ?_; (first | assumption | omega | (simp <;> omega))) | (with_reducible refine Op_addL ?_ ?_; (first | assumption | omega | (simp <;> omega))) | (with_reducible refine Op_mul ?_ ?_ ?_ ?_ ?_; (first | assumption | omega | (simp <;> omega)); (first | assumption | omega | (simp <;> omega)); (first | assumption | omega | (simp <;> omega)); (first | assumption | omega | (simp <;> omega))) | (with_reducible refine Op_div ?_ ?_ ?_; (first | assumption | omega | (simp <;> omega)); (first | assumption | omega | (simp <;> omega))) | (with_reducible refine Op_mod ?_ ?_; (first | assumption | omega | (simp <;> omega))) | (with_reducible refine Op_pow ?_ ?_ ?_ ?_ ?_; (first | assumption | omega | (simp <;> omega)); (first | assumption | omega | (simp <;> omega)); (first | assumption | omega | (simp <;> omega)); (first | assumption | omega | (simp <;> omega))) | (with_reducible refine Op_rng1 ?_ ?_ ?_; (first | assumption | omega | (simp <;> omega)); (first | assumption | omega | (simp <;> omega))) | (with_reducible refine Op_rng2 ?_ ?_ ?_ ?_ ?_; (first | assumption | omega | (simp <;> omega)); (first | assumption | omega | (simp <;> omega)); (first | assumption | omega | (simp <;> omega)); (first | assumption | omega | (simp <;> omega))) | (with_reducible refine Op_rg1 ?_ ?_ ?_; (first | assumption | omega | (simp <;> omega)); (first | assumption | omega | (simp <;> omega))) | (with_reducible refine Op_rg2 ?_ ?_ ?_ ?_ ?_; (first | assumption | omega | (simp <;> omega)); (first | assumption | omega | (simp <;> omega)); (first | assumption | omega | (simp <;> omega)); (first | assumption | omega | (simp <;> omega))) | (with_reducible refine Op_lenS ?_ ?_; (first | assumption | omega | (simp <;> omega))))); try simp [z1]))
    clear V z1 hr r
    (focus (refine mutK (22) (fun x => D.dat 2 x = true) H.lt (by (first | assumption | omega | (simp <;> omega))) ?_ ?_; rotate_left; intro r m_ hr V A_; replace H := H.aft A_ (by first | decide | (simp; done) | (simp; omega)); clear A_; rotate_right))
    · exact z3
    have hlots : ∀ x ∈ ([D.tup [], D.tup (rgD 0 ↑N), D.tup [D.int (↑N - 1)], D.tup [D.int 0], D.tup (List.map (fun (i : Nat) => D.int ↑i) is)] : List D), x.pl = true ∧ ∃ lot, x = .tup lot ∧ LotK lot := by
      intro x hx
      have one : ∀ k : Nat, k < 40 → LotK [D.int (k : Int)] := fun k hk => ⟨by simp, fun y hy => ⟨k, by simpa using hy, hk⟩⟩
      have N0 : 0 < N := by omega
      have rg : LotK (rgD 0 ↑N) := ⟨by rw [rgD_len]; omega, fun y hy => by
        obtain ⟨k, rfl, k0, k1⟩ := rgD_mem hy
        exact ⟨k.toNat, by simp; omega, by omega⟩⟩
      have im : LotK (List.map (fun (i : Nat) => D.int ↑i) is) := ⟨by simp; omega, fun y hy => by
        obtain ⟨k, hk, rfl⟩ := List.mem_map.mp hy
        exact ⟨k, rfl, by have := is2 k hk; omega⟩⟩
      have pl : ∀ lot, LotK lot → (D.tup lot).pl = true := fun lot L => dat_pl (tup_dat (k := 0) (by have := L.l; omega) fun x hx => L.dat hx)
      simp only [List.mem_cons, List.not_mem_nil, or_false] at hx
      rcases hx with h | h | h | h | h <;> subst h
      · exact ⟨rfl, _, rfl, by simp, by simp⟩
      · exact ⟨pl _ rg, _, rfl, rg⟩
      · have := one (N - 1) (by omega)
        rw [show ((N - 1 : Nat) : Int) = (N : Int) - 1 by omega] at this
        exact ⟨rfl, _, rfl, this⟩
      · exact ⟨rfl, _, rfl, one 0 (by omega)⟩
      · exact ⟨pl _ im, _, rfl, im⟩
    have hll : ([D.tup [], D.tup (rgD 0 ↑N), D.tup [D.int (↑N - 1)], D.tup [D.int 0], D.tup (List.map (fun (i : Nat) => D.int ↑i) is)] : List D).length = 5 := rfl
    generalize ([D.tup [], D.tup (rgD 0 ↑N), D.tup [D.int (↑N - 1)], D.tup [D.int 0], D.tup (List.map (fun (i : Nat) => D.int ↑i) is)] : List D) = ls at hlots hll ⊢
    generalize D.lst (List.map (fun (i : Nat) => D.int ↑i) is) = dr0
    refine Ws_forL ls _ hll hlots (fun k ρ m' => (∃ r x11, ρ = [some (.rol (ns.map D.int)), some (.ref 0), some (.int P), some (.int M), some (.int S), some (.int N), some (frameD ws S P), some (.int (2 + d5)), some dr0, some (.lst ls), some (.ref r), x11, none, none, none, none, none, none, none, none] ∧ LstK m' r (22 + 31 * k) (fun x => D.dat 2 x = true)) ∧ PlK m' 0 (5 + N + 2 * k)) ⟨⟨_, _, rfl, V⟩, H.le (by omega)⟩ ?_ ?_
    · intro k ρ m' x hk hx xp hlot hI
      obtain ⟨⟨r, x11, e, V⟩, H⟩ := hI
      obtain ⟨lot, e2, L⟩ := hlot
      subst e
      subst e2
      have hr0 := V.pos
      (try simp [V.rs]; repeat ((focus (first | (with_reducible refine Op_addT ?_ ?_; (first | assumption | omega | (simp <;> omega))) | (with_reducible refine Op_addL ?_ ?_; (first | assumption | omega | (simp <;> omega))) | (with_reducible refine Op_mul ?_ ?_ ?_ ?_ ?_; (first | assumption | omega | (simp <;> omega)); (first | assumption | omega | (simp <;> omega)); (first | assumption | omega | (simp <;> omega)); (first | assumption | omega | (simp <;> omega))) | (with_reducible refine Op_div ?_ ?_ ?_; (first | assumption | omega | (simp <;> omega)); (first | assumption | omega | (simp <;> omega))) | (with_reducible refine Op_mod ?_ ?_; (first | assumption | omega | (simp <;> omega))) | (with_reducible refine Op_pow ?_ ?_ ?_ ?_ ?_; (first | assumption | omega | (simp <;> omega)); (first | assumption | omega | (simp <;> omega)); (first | assumption | omega | (simp <;> omega)); (first | assumption | omega | (simp <;> omega))) | (with_reducible refine Op_rng1 ?_ ?_ ?_; (first | assumption | omega | (simp <;> omega)); (first | assumption | omega | (simp <;> omega))) | (with_reducible refine Op_rng2 ?_ ?_ ?_ ?_ ?_; (first | assumption | omega | (simp <;> omega)); (first | assumption | omega | (simp <;> omega)); (first | assumption | omega | (simp <;> omega)); (first | assumption | omega | (simp <;> omega))) | (with_reducible refine Op_rg1 ?_ ?_ ?_; (first | assumption | omega | (simp <;> omega)); (first | assumption | omega | (simp <;> omega))) | (with_reducible refine Op_rg2 ?_ ?_ ?_ ?_ ?_; (first | assumption | omega | (simp <;> omega)); (first | assumption | omega | (simp <;> omega)); (first | assumption | omega | (simp <;> omega)); (first | assumption | omega | (simp <;> omega))) | (with_reducible refine Op_lenS ?_ ?_; (first | assumption | omega | (simp <;> omega))))); try simp [V.rs]))
      rw [V.meth (by decide +kernel)]
      (try simp; repeat ((focus (first | (with_reducible refine Op_addT ?_ ?_; (first | assumption | omega | (simp <;> omega))) | (with_reducible refine Op_addL ?_ ?_; (first | assumption | omega | (simp <;> omega))) | (with_reducible refine Op_mul ?_ ?_ ?_ ?_ ?_; (first | assumption | omega | (simp <;> omega)); (first | assumption | omega | (simp <;> omega)); (first | assumption | omega | (simp <;> omega)); (first | assumption | omega | (simp <;> omega))) | (with_reducible refine Op_div ?_ ?_ ?_; (first | assumption | omega | (simp <;> omega)); (first | assumption | omega | (simp <;> omega))) | (with_reducible refine Op_mod ?_ ?_; (first | assumption | omega | (simp <;> omega))) | (with_reducible refine Op_pow ?_ ?_ ?_ ?_ ?_; (first | assumption | omega | (simp <;> omega)); (first | assumption | omega | (simp <;> omega)); (first | assumption | omega | (simp <;> omega)); (first | assumption | omega | (simp <;> omega))) | (with_reducible refine Op_rng1 ?_ ?_ ?_; (first | assumption | omega | (simp <;> omega)); (first | assumption | omega | (simp <;> omega))) | (with_reducible refine Op_rng2 ?_ ?_ ?_ ?_ ?_; (first | assumption | omega | (simp <;> omega)); (first | assumption | omega | (simp <;> omega)); (first | assumption | omega | (simp <;> omega)); (first | assumption | omega | (simp <;> omega))) | (with_reducible refine Op_rg1 ?_ ?_ ?_; (first | assumption | omega | (simp <;> omega)); (first | assumption | omega | (simp <;> omega))) | (with_reducible refine Op_rg2 ?_ ?_ ?_ ?_ ?_; (first | assumption | omega | (simp <;> omega)); (first | assumption | omega | (simp <;> omega)); (first | assumption | omega | (simp <;> omega)); (first | assumption | omega | (simp <;> omega))) | (with_reducible refine Op_lenS ?_ ?_; (first | assumption | omega | (simp <;> omega))))); try simp))
      (focus (refine LstK.app V (by decide +kernel) (by omega) ?_ ?_; rotate_left; intro m_ V_ A_; replace H := H.aft A_ (by first | decide | (simp; done) | (simp; omega)); clear A_; replace V := V_; clear V_; rotate_right))
      · exact tup_dat (by have := L.l; omega) fun x hx => L.dat hx
      (try simp [V.rs, H.rs]; repeat ((focus (first | (with_reducible refine Op_addT ?_ ?_; (first | assumption | omega | (simp <;> omega))) | (with_reducible refine Op_addL ?_ ?_; (first | assumption | omega | (simp <;> omega))) | (with_reducible refine Op_mul ?_ ?_ ?_ ?_ ?_; (first | assumption | omega | (simp <;> omega)); (first | assumption | omega | (simp <;> omega)); (first | assumption | omega | (simp <;> omega)); (first | assumption | omega | (simp <;> omega))) | (with_reducible refine Op_div ?_ ?_ ?_; (first | assumption | omega | (simp <;> omega)); (first | assumption | omega | (simp <;> omega))) | (with_reducible refine Op_mod ?_ ?_; (first | assumption | omega | (simp <;> omega))) | (with_reducible refine Op_pow ?_ ?_ ?_ ?_ ?_; (first | assumption | omega | (simp <;> omega)); (first | assumption | omega | (simp <;> omega)); (first | assumption | omega | (simp <;> omega)); (first | assumption | omega | (simp <;> omega))) | (with_reducible refine Op_rng1 ?_ ?_ ?_; (first | assumption | omega | (simp <;> omega)); (first | assumption | omega | (simp <;> omega))) | (with_reducible refine Op_rng2 ?_ ?_ ?_ ?_ ?_; (first | assumption | omega | (simp <;> omega)); (first | assumption | omega | (simp <;> omega)); (first | assumption | omega | (simp <;> omega)); (first | assumption | omega | (simp <;> omega))) | (with_reducible refine Op_rg1 ?_ ?_ ?_; (first | assumption | omega | (simp <;> omega)); (first | assumption | omega | (simp <;> omega))) | (with_reducible refine Op_rg2 ?_ ?_ ?_ ?_ ?_; (first | assumption | omega | (simp <;> omega)); (first | assumption | omega | (simp <;> omega)); (first | assumption | omega | (simp <;> omega)); (first | assumption | omega | (simp <;> omega))) | (with_reducible refine Op_lenS ?_ ?_; (first | assumption | omega | (simp <;> omega))))); try simp [V.rs, H.rs]))
      refine Wp.mono (spec_spoilt (n := 95) H (by omega) L) ?_
      intro v m2 hv
      obtain ⟨⟨vs, e, hv1, hv2⟩, H2, A⟩ := hv
      subst e
      replace V := V.aft A (by (first | decide | (simp; done) | (simp; omega)))
      obtain ⟨zs, z1, z2, z3⟩ := V.add (ys := vs) (by omega) hv2
      have ers : ∀ m, rs m (D.lst vs) = .lst vs := fun _ => rfl
      (try simp [z1, V.rs]; repeat ((focus (first | (with_reducible refine Op_addT ?_ ?_; (first | assumption | omega | (simp <;> omega))) | (with_reducible refine Op_addL ?_ ?_; (first | assumption | omega | (simp <;> omega))) | (with_reducible refine Op_mul ?_ ?_ ?_ ?_ ?_; (first | assumption | omega | (simp <;> omega)); (first | assumption | omega | (simp <;> omega)); (first | assumption | omega | (simp <;> omega)); (first | assumption | omega | (simp <;> omega))) | (with_reducible refine Op_div ?_ ?_ ?_; (first | assumption | omega | (simp <;> omega)); (first | assumption | omega | (simp <;> omega))) | (with_reducible refine Op_mod ?_ ?_; (first | assumption | omega | (simp <;> omega))) | (with_reducible refine Op_pow ?_ ?_ ?_ ?_ ?_; (first | assumption | omega | (simp <;> omega)); (first | assumption | omega | (simp <;> omega)); (first | assumption | omega | (simp <;> omega)); (first | assumption | omega | (simp <;> omega))) | (with_reducible refine Op_rng1 ?_ ?_ ?_; (first | assumption | omega | (simp <;> omega)); (first | assumption | omega | (simp <;> omega))) | (with_reducible refine Op_rng2 ?_ ?_ ?_ ?_ ?_; (first | assumption | omega | (simp <;> omega)); (first | assumption | omega | (simp <;> omega)); (first | assumption | omega | (simp <;> omega)); (first | assumption | omega | (simp <;> omega))) | (with_reducible refine Op_rg1 ?_ ?_ ?_; (first | assumption | omega | (simp <;> omega)); (first | assumption | omega | (simp <;> omega))) | (with_reducible refine Op_rg2 ?_ ?_ ?_ ?_ ?_; (first | assumption | omega | (simp <;> omega)); (first | assumption | omega | (simp <;> omega)); (first | assumption | omega | (simp <;> omega)); (first | assumption | omega | (simp <;> omega))) | (with_reducible refine Op_lenS ?_ ?_; (first | assumption | omega | (simp <;> omega))))); try simp [z1, V.rs]))
      (focus (refine mutK (22 + 31 * (k + 1)) (fun x => D.dat 2 x = true) H2.lt (by (first | assumption | omega | (simp <;> omega))) ?_ ?_; rotate_left; intro r2 m_ hr2 W A_; replace H2 := H2.aft A_ (by first | decide | (simp; done) | (simp; omega)); clear A_; rotate_right))
      · exact z3
      exact ⟨⟨r2, by simp, W⟩, H2.le (by omega)⟩
    · intro ρ m' hI
      obtain ⟨⟨r, x11, e, V⟩, H⟩ := hI
      subst e
      (try simp [V.rs]; repeat ((focus (first | (with_reducible refine Op_addT ?_ ?_; (first | assumption | omega | (simp <;> omega))) | (with_reducible refine Op_addL ?_ ?_; (first | assumption | omega | (simp <;> omega))) | (with_reducible refine Op_mul ?_ ?_ ?_ ?_ ?_; (first | assumption | omega | (simp <;> omega)); (first | assumption | omega | (simp <;> omega)); (first | assumption | omega | (simp <;> omega)); (first | assumption | omega | (simp <;> omega))) | (with_reducible refine Op_div ?_ ?_ ?_; (first | assumption | omega | (simp <;> omega)); (first | assumption | omega | (simp <;> omega))) | (with_reducible refine Op_mod ?_ ?_; (first | assumption | omega | (simp <;> omega))) | (with_reducible refine Op_pow ?_ ?_ ?_ ?_ ?_; (first | assumption | omega | (simp <;> omega)); (first | assumption | omega | (simp <;> omega)); (first | assumption | omega | (simp <;> omega)); (first | assumption | omega | (simp <;> omega))) | (with_reducible refine Op_rng1 ?_ ?_ ?_; (first | assumption | omega | (simp <;> omega)); (first | assumption | omega | (simp <;> omega))) | (with_reducible refine Op_rng2 ?_ ?_ ?_ ?_ ?_; (first | assumption | omega | (simp <;> omega)); (first | assumption | omega | (simp <;> omega)); (first | assumption | omega | (simp <;> omega)); (first | assumption | omega | (simp <;> omega))) | (with_reducible refine Op_rg1 ?_ ?_ ?_; (first | assumption | omega | (simp <;> omega)); (first | assumption | omega | (simp <;> omega))) | (with_reducible refine Op_rg2 ?_ ?_ ?_ ?_ ?_; (first | assumption | omega | (simp <;> omega)); (first | assumption | omega | (simp <;> omega)); (first | assumption | omega | (simp <;> omega)); (first | assumption | omega | (simp <;> omega))) | (with_reducible refine Op_lenS ?_ ?_; (first | assumption | omega | (simp <;> omega))))); try simp [V.rs]))
      refine V.frz fun xs m2 h1 h2 A => ?_
      replace H := H.aft A (by have := V.pos; (first | decide | (simp; done) | (simp; omega)))
      (try simp; repeat ((focus (first | (with_reducible refine Op_addT ?_ ?_; (first | assumption | omega | (simp <;> omega))) | (with_reducible refine Op_addL ?_ ?_; (first | assumption | omega | (simp <;> omega))) | (with_reducible refine Op_mul ?_ ?_ ?_ ?_ ?_; (first | assumption | omega | (simp <;> omega)); (first | assumption | omega | (simp <;> omega)); (first | assumption | omega | (simp <;> omega)); (first | assumption | omega | (simp <;> omega))) | (with_reducible refine Op_div ?_ ?_ ?_; (first | assumption | omega | (simp <;> omega)); (first | assumption | omega | (simp <;> omega))) | (with_reducible refine Op_mod ?_ ?_; (first | assumption | omega | (simp <;> omega))) | (with_reducible refine Op_pow ?_ ?_ ?_ ?_ ?_; (first | assumption | omega | (simp <;> omega)); (first | assumption | omega | (simp <;> omega)); (first | assumption | omega | (simp <;> omega)); (first | assumption | omega | (simp <;> omega))) | (with_reducible refine Op_rng1 ?_ ?_ ?_; (first | assumption | omega | (simp <;> omega)); (first | assumption | omega | (simp <;> omega))) | (with_reducible refine Op_rng2 ?_ ?_ ?_ ?_ ?_; (first | assumption | omega | (simp <;> omega)); (first | assumption | omega | (simp <;> omega)); (first | assumption | omega | (simp <;> omega)); (first | assumption | omega | (simp <;> omega))) | (with_reducible refine Op_rg1 ?_ ?_ ?_; (first | assumption | omega | (simp <;> omega)); (first | assumption | omega | (simp <;> omega))) | (with_reducible refine Op_rg2 ?_ ?_ ?_ ?_ ?_; (first | assumption | omega | (simp <;> omega)); (first | assumption | omega | (simp <;> omega)); (first | assumption | omega | (simp <;> omega)); (first | assumption | omega | (simp <;> omega))) | (with_reducible refine Op_lenS ?_ ?_; (first | assumption | omega | (simp <;> omega))))); try simp))
      refine Ws_forL xs (fun x => D.dat 2 x = true) rfl (fun x hx => ⟨dat_pl (h2 x hx), h2 x hx⟩) (fun k ρ m' => (∃ x11 x12 x13 x14, ρ = [some (.rol (ns.map D.int)), some (.ref 0), some (.int P), some (.int M), some (.int S), some (.int N), some (frameD ws S P), some (.int (2 + d5)), some dr0, some (.lst ls), some (.ref r), x11, x12, x13, x14, none, none, none, none, none]) ∧ PlK m' 0 (15 + N + k)) ⟨⟨_, _, _, _, rfl⟩, H.le (by omega)⟩ ?_ ?_
      · intro k ρ m' x hk hx xp xd hI
        obtain ⟨⟨x11, x12, x13, x14, e⟩, H⟩ := hI
        subst e
        (try simp [xp]; repeat ((focus (first | (with_reducible refine Op_addT ?_ ?_; (first | assumption | omega | (simp <;> omega))) | (with_reducible refine Op_addL ?_ ?_; (first | assumption | omega | (simp <;> omega))) | (with_reducible refine Op_mul ?_ ?_ ?_ ?_ ?_; (first | assumption | omega | (simp <;> omega)); (first | assumption | omega | (simp <;> omega)); (first | assumption | omega | (simp <;> omega)); (first | assumption | omega | (simp <;> omega))) | (with_reducible refine Op_div ?_ ?_ ?_; (first | assumption | omega | (simp <;> omega)); (first | assumption | omega | (simp <;> omega))) | (with_reducible refine Op_mod ?_ ?_; (first | assumption | omega | (simp <;> omega))) | (with_reducible refine Op_pow ?_ ?_ ?_ ?_ ?_; (first | assumption | omega | (simp <;> omega)); (first | assumption | omega | (simp <;> omega)); (first | assumption | omega | (simp <;> omega)); (first | assumption | omega | (simp <;> omega))) | (with_reducible refine Op_rng1 ?_ ?_ ?_; (first | assumption | omega | (simp <;> omega)); (first | assumption | omega | (simp <;> omega))) | (with_reducible refine Op_rng2 ?_ ?_ ?_ ?_ ?_; (first | assumption | omega | (simp <;> omega)); (first | assumption | omega | (simp <;> omega)); (first | assumption | omega | (simp <;> omega)); (first | assumption | omega | (simp <;> omega))) | (with_reducible refine Op_rg1 ?_ ?_ ?_; (first | assumption | omega | (simp <;> omega)); (first | assumption | omega | (simp <;> omega))) | (with_reducible refine Op_rg2 ?_ ?_ ?_ ?_ ?_; (first | assumption | omega | (simp <;> omega)); (first | assumption | omega | (simp <;> omega)); (first | assumption | omega | (simp <;> omega)); (first | assumption | omega | (simp <;> omega))) | (with_reducible refine Op_lenS ?_ ?_; (first | assumption | omega | (simp <;> omega))))); try simp [xp]))
        refine Ws.mid (fun ρ m2 => m2 = m' ∧ ρ = [some (.rol (ns.map D.int)), some (.ref 0), some (.int P), some (.int M), some (.int S), some (.int N), some (frameD ws S P), some (.int (2 + d5)), some dr0, some (.lst ls), some (.ref r), x11, some x, some x, x14, none, none, none, none, none]) ?_ ?_
        · split
          · rename_i hl2
            cases x <;> simp [isA] at hl2 xp <;> first | (simp [D.dat] at xd; done) | (try simp; repeat ((focus (first | (with_reducible refine Op_addT ?_ ?_; (first | assumption | omega | (simp <;> omega))) | (with_reducible refine Op_addL ?_ ?_; (first | assumption | omega | (simp <;> omega))) | (with_reducible refine Op_mul ?_ ?_ ?_ ?_ ?_; (first | assumption | omega | (simp <;> omega)); (first | assumption | omega | (simp <;> omega)); (first | assumption | omega | (simp <;> omega)); (first | assumption | omega | (simp <;> omega))) | (with_reducible refine Op_div ?_ ?_ ?_; (first | assumption | omega | (simp <;> omega)); (first | assumption | omega | (simp <;> omega))) | (with_reducible refine Op_mod ?_ ?_; (first | assumption | omega | (simp <;> omega))) | (with_reducible refine Op_pow ?_ ?_ ?_ ?_ ?_; (first | assumption | omega | (simp <;> omega)); (first | assumption | omega | (simp <;> omega)); (first | assumption | omega | (simp <;> omega)); (first | assumption | omega | (simp <;> omega))) | (with_reducible refine Op_rng1 ?_ ?_ ?_; (first | assumption | omega | (simp <;> omega)); (first | assumption | omega | (simp <;> omega))) | (with_reducible refine Op_rng2 ?_ ?_ ?_ ?_ ?_; (first | assumption | omega | (simp <;> omega)); (first | assumption | omega | (simp <;> omega)); (first | assumption | omega | (simp <;> omega)); (first | assumption | omega | (simp <;> omega))) | (with_reducible refine Op_rg1 ?_ ?_ ?_; (first | assumption | omega | (simp <;> omega)); (first | assumption | omega | (simp <;> omega))) | (with_reducible refine Op_rg2 ?_ ?_ ?_ ?_ ?_; (first | assumption | omega | (simp <;> omega)); (first | assumption | omega | (simp <;> omega)); (first | assumption | omega | (simp <;> omega)); (first | assumption | omega | (simp <;> omega))) | (with_reducible refine Op_lenS ?_ ?_; (first | assumption | omega | (simp <;> omega))))); try simp))
          · (try simp; repeat ((focus (first | (with_reducible refine Op_addT ?_ ?_; (first | assumption | omega | (simp <;> omega))) | (with_reducible refine Op_addL ?_ ?_; (first | assumption | omega | (simp <;> omega))) | (with_reducible refine Op_mul ?_ ?_ ?_ ?_ ?_; (first | assumption | omega | (simp <;> omega)); (first | assumption | omega | (simp <;> omega)); (first | assumption | omega | (simp <;> omega)); (first | assumption | omega | (simp <;> omega))) | (with_reducible refine Op_div ?_ ?_ ?_; (first | assumption | omega | (simp <;> omega)); (first | assumption | omega | (simp <;> omega))) | (with_reducible refine Op_mod ?_ ?_; (first | assumption | omega | (simp <;> omega))) | (with_reducible refine Op_pow ?_ ?_ ?_ ?_ ?_; (first | assumption | omega | (simp <;> omega)); (first | assumption | omega | (simp <;> omega)); (first | assumption | omega | (simp <;> omega)); (first | assumption | omega | (simp <;> omega))) | (with_reducible refine Op_rng1 ?_ ?_ ?_; (first | assumption | omega | (simp <;> omega)); (first | assumption | omega | (simp <;> omega))) | (with_reducible refine Op_rng2 ?_ ?_ ?_ ?_ ?_; (first | assumption | omega | (simp <;> omega)); (first | assumption | omega | (simp <;> omega)); (first | assumption | omega | (simp <;> omega)); (first | assumption | omega | (simp <;> omega))) | (with_reducible refine Op_rg1 ?_ ?_ ?_; (first | assumption | omega | (simp <;> omega)); (first | assumption | omega | (simp <;> omega))) | (with_reducible refine Op_rg2 ?_ ?_ ?_ ?_ ?_; (first | assumption | omega | (simp <;> omega)); (first | assumption | omega | (simp <;> omega)); (first | assumption | omega | (simp <;> omega)); (first | assumption | omega | (simp <;> omega))) | (with_reducible refine Op_lenS ?_ ?_; (first | assumption | omega | (simp <;> omega))))); try simp))
        rintro ρ m2 ⟨rfl, rfl⟩
        (try simp [xp]; repeat ((focus (first | (with_reducible refine Op_addT ?_ ?_; (first | assumption | omega | (simp <;> omega))) | (with_reducible refine Op_addL ?_ ?_; (first | assumption | omega | (simp <;> omega))) | (with_reducible refine Op_mul ?_ ?_ ?_ ?_ ?_; (first | assumption | omega | (simp <;> omega)); (first | assumption | omega | (simp <;> omega)); (first | assumption | omega | (simp <;> omega)); (first | assumption | omega | (simp <;> omega))) | (with_reducible refine Op_div ?_ ?_ ?_; (first | assumption | omega | (simp <;> omega)); (first | assumption | omega | (simp <;> omega))) | (with_reducible refine Op_mod ?_ ?_; (first | assumption | omega | (simp <;> omega))) | (with_reducible refine Op_pow ?_ ?_ ?_ ?_ ?_; (first | assumption | omega | (simp <;> omega)); (first | assumption | omega | (simp <;> omega)); (first | assumption | omega | (simp <;> omega)); (first | assumption | omega | (simp <;> omega))) | (with_reducible refine Op_rng1 ?_ ?_ ?_; (first | assumption | omega | (simp <;> omega)); (first | assumption | omega | (simp <;> omega))) | (with_reducible refine Op_rng2 ?_ ?_ ?_ ?_ ?_; (first | assumption | omega | (simp <;> omega)); (first | assumption | omega | (simp <;> omega)); (first | assumption | omega | (simp <;> omega)); (first | assumption | omega | (simp <;> omega))) | (with_reducible refine Op_rg1 ?_ ?_ ?_; (first | assumption | omega | (simp <;> omega)); (first | assumption | omega | (simp <;> omega))) | (with_reducible refine Op_rg2 ?_ ?_ ?_ ?_ ?_; (first | assumption | omega | (simp <;> omega)); (first | assumption | omega | (simp <;> omega)); (first | assumption | omega | (simp <;> omega)); (first | assumption | omega | (simp <;> omega))) | (with_reducible refine Op_lenS ?_ ?_; (first | assumption | omega | (simp <;> omega))))); try simp [xp]))
        have hxs : ∀ ys, x = .tup ys → ys.length ≤ 16777216 ∧ ∀ y ∈ ys, y.pl = true := fun ys e => by
          subst e
          obtain ⟨q1, q2⟩ := dat_tup (k := 1) xd
          exact ⟨q1, fun y hy => dat_pl (q2 y hy)⟩
        rw [spec_law_rising (n := 96) xp hxs]
        (try simp [fr_rs, xp, H.rs]; repeat ((focus (first | (with_reducible refine Op_addT ?_ ?_; (first | assumption | omega | (simp <;> omega))) | (with_reducible refine Op_addL ?_ ?_; (first | assumption | omega | (simp <;> omega))) | (with_reducible refine Op_mul ?_ ?_ ?_ ?_ ?_; (first | assumption | omega | (simp <;> omega)); (first | assumption | omega | (simp <;> omega)); (first | assumption | omega | (simp <;> omega)); (first | assumption | omega | (simp <;> omega))) | (with_reducible refine Op_div ?_ ?_ ?_; (first | assumption | omega | (simp <;> omega)); (first | assumption | omega | (simp <;> omega))) | (with_reducible refine Op_mod ?_ ?_; (first | assumption | omega | (simp <;> omega))) | (with_reducible refine Op_pow ?_ ?_ ?_ ?_ ?_; (first | assumption | omega | (simp <;> omega)); (first | assumption | omega | (simp <;> omega)); (first | assumption | omega | (simp <;> omega)); (first | assumption | omega | (simp <;> omega))) | (with_reducible refine Op_rng1 ?_ ?_ ?_; (first | assumption | omega | (simp <;> omega)); (first | assumption | omega | (simp <;> omega))) | (with_reducible refine Op_rng2 ?_ ?_ ?_ ?_ ?_; (first | assumption | omega | (simp <;> omega)); (first | assumption | omega | (simp <;> omega)); (first | assumption | omega | (simp <;> omega)); (first | assumption | omega | (simp <;> omega))) | (with_reducible refine Op_rg1 ?_ ?_ ?_; (first | assumption | omega | (simp <;> omega)); (first | assumption | omega | (simp <;> omega))) | (with_reducible refine Op_rg2 ?_ ?_ ?_ ?_ ?_; (first | assumption | omega | (simp <;> omega)); (first | assumption | omega | (simp <;> omega)); (first | assumption | omega | (simp <;> omega)); (first | assumption | omega | (simp <;> omega))) | (with_reducible refine Op_lenS ?_ ?_; (first | assumption | omega | (simp <;> omega))))); try simp [fr_rs, xp, H.rs]))
        (refine Wp.mono (spec_draw H (by omega) (by omega) (by omega)) ?_; intro v_ m_ hv_; obtain ⟨d7, hv_, a7, b7, H_, A_⟩ := hv_; subst hv_; replace H := H_; clear H_)
        (try simp; repeat ((focus (first | (with_reducible refine Op_addT ?_ ?_; (first | assumption | omega | (simp <;> omega))) | (with_reducible refine Op_addL ?_ ?_; (first | assumption | omega | (simp <;> omega))) | (with_reducible refine Op_mul ?_ ?_ ?_ ?_ ?_; (first | assumption | omega | (simp <;> omega)); (first | assumption | omega | (simp <;> omega)); (first | assumption | omega | (simp <;> omega)); (first | assumption | omega | (simp <;> omega))) | (with_reducible refine Op_div ?_ ?_ ?_; (first | assumption | omega | (simp <;> omega)); (first | assumption | omega | (simp <;> omega))) | (with_reducible refine Op_mod ?_ ?_; (first | assumption | omega | (simp <;> omega))) | (with_reducible refine Op_pow ?_ ?_ ?_ ?_ ?_; (first | assumption | omega | (simp <;> omega)); (first | assumption | omega | (simp <;> omega)); (first | assumption | omega | (simp <;> omega)); (first | assumption | omega | (simp <;> omega))) | (with_reducible refine Op_rng1 ?_ ?_ ?_; (first | assumption | omega | (simp <;> omega)); (first | assumption | omega | (simp <;> omega))) | (with_reducible refine Op_rng2 ?_ ?_ ?_ ?_ ?_; (first | assumption | omega | (simp <;> omega)); (first | assumption | omega | (simp <;> omega)); (first | assumption | omega | (simp <;> omega)); (first | assumption | omega | (simp <;> omega))) | (with_reducible refine Op_rg1 ?_ ?_ ?_; (first | assumption | omega | (simp <;> omega)); (first | assumption | omega | (simp <;> omega))) | (with_reducible refine Op_rg2 ?_ ?_ ?_ ?_ ?_; (first | assumption | omega | (simp <;> omega)); (first | assumption | omega | (simp <;> omega)); (first | assumption | omega | (simp <;> omega)); (first | assumption | omega | (simp <;> omega))) | (with_reducible refine Op_lenS ?_ ?_; (first | assumption | omega | (simp <;> omega))))); try simp))
        rw [spec_told4 (n := 94) xp (fun ys e => (hxs ys e).2) (by omega) (by omega)]
        (try simp; repeat ((focus (first | (with_reducible refine Op_addT ?_ ?_; (first | assumption | omega | (simp <;> omega))) | (with_reducible refine Op_addL ?_ ?_; (first | assumption | omega | (simp <;> omega))) | (with_reducible refine Op_mul ?_ ?_ ?_ ?_ ?_; (first | assumption | omega | (simp <;> omega)); (first | assumption | omega | (simp <;> omega)); (first | assumption | omega | (simp <;> omega)); (first | assumption | omega | (simp <;> omega))) | (with_reducible refine Op_div ?_ ?_ ?_; (first | assumption | omega | (simp <;> omega)); (first | assumption | omega | (simp <;> omega))) | (with_reducible refine Op_mod ?_ ?_; (first | assumption | omega | (simp <;> omega))) | (with_reducible refine Op_pow ?_ ?_ ?_ ?_ ?_; (first | assumption | omega | (simp <;> omega)); (first | assumption | omega | (simp <;> omega)); (first | assumption | omega | (simp <;> omega)); (first | assumption | omega | (simp <;> omega))) | (with_reducible refine Op_rng1 ?_ ?_ ?_; (first | assumption | omega | (simp <;> omega)); (first | assumption | omega | (simp <;> omega))) | (with_reducible refine Op_rng2 ?_ ?_ ?_ ?_ ?_; (first | assumption | omega | (simp <;> omega)); (first | assumption | omega | (simp <;> omega)); (first | assumption | omega | (simp <;> omega)); (first | assumption | omega | (simp <;> omega))) | (with_reducible refine Op_rg1 ?_ ?_ ?_; (first | assumption | omega | (simp <;> omega)); (first | assumption | omega | (simp <;> omega))) | (with_reducible refine Op_rg2 ?_ ?_ ?_ ?_ ?_; (first | assumption | omega | (simp <;> omega)); (first | assumption | omega | (simp <;> omega)); (first | assumption | omega | (simp <;> omega)); (first | assumption | omega | (simp <;> omega))) | (with_reducible refine Op_lenS ?_ ?_; (first | assumption | omega | (simp <;> omega))))); try simp))
        rw [N40]
        have sd : D.dat 6 (saidB (risD (↑N) x)) = true := dat_up (n := 1) (by omega) (said_dat (k := 0) rfl)
        have es : D.lst [D.str (PySem.Str.ofString "said"), D.bl (risD (↑N) x)] = saidB (risD (↑N) x) := rfl
        rw [es, same99 sd]
        (try simp [xp]; repeat ((focus (first | (with_reducible refine Op_addT ?_ ?_; (first | assumption | omega | (simp <;> omega))) | (with_reducible refine Op_addL ?_ ?_; (first | assumption | omega | (simp <;> omega))) | (with_reducible refine Op_mul ?_ ?_ ?_ ?_ ?_; (first | assumption | omega | (simp <;> omega)); (first | assumption | omega | (simp <;> omega)); (first | assumption | omega | (simp <;> omega)); (first | assumption | omega | (simp <;> omega))) | (with_reducible refine Op_div ?_ ?_ ?_; (first | assumption | omega | (simp <;> omega)); (first | assumption | omega | (simp <;> omega))) | (with_reducible refine Op_mod ?_ ?_; (first | assumption | omega | (simp <;> omega))) | (with_reducible refine Op_pow ?_ ?_ ?_ ?_ ?_; (first | assumption | omega | (simp <;> omega)); (first | assumption | omega | (simp <;> omega)); (first | assumption | omega | (simp <;> omega)); (first | assumption | omega | (simp <;> omega))) | (with_reducible refine Op_rng1 ?_ ?_ ?_; (first | assumption | omega | (simp <;> omega)); (first | assumption | omega | (simp <;> omega))) | (with_reducible refine Op_rng2 ?_ ?_ ?_ ?_ ?_; (first | assumption | omega | (simp <;> omega)); (first | assumption | omega | (simp <;> omega)); (first | assumption | omega | (simp <;> omega)); (first | assumption | omega | (simp <;> omega))) | (with_reducible refine Op_rg1 ?_ ?_ ?_; (first | assumption | omega | (simp <;> omega)); (first | assumption | omega | (simp <;> omega))) | (with_reducible refine Op_rg2 ?_ ?_ ?_ ?_ ?_; (first | assumption | omega | (simp <;> omega)); (first | assumption | omega | (simp <;> omega)); (first | assumption | omega | (simp <;> omega)); (first | assumption | omega | (simp <;> omega))) | (with_reducible refine Op_lenS ?_ ?_; (first | assumption | omega | (simp <;> omega))))); try simp [xp]))
        rw [cNe_dat xd xd, eqX_refl xd]
        (try simp; repeat ((focus (first | (with_reducible refine Op_addT ?_ ?_; (first | assumption | omega | (simp <;> omega))) | (with_reducible refine Op_addL ?_ ?_; (first | assumption | omega | (simp <;> omega))) | (with_reducible refine Op_mul ?_ ?_ ?_ ?_ ?_; (first | assumption | omega | (simp <;> omega)); (first | assumption | omega | (simp <;> omega)); (first | assumption | omega | (simp <;> omega)); (first | assumption | omega | (simp <;> omega))) | (with_reducible refine Op_div ?_ ?_ ?_; (first | assumption | omega | (simp <;> omega)); (first | assumption | omega | (simp <;> omega))) | (with_reducible refine Op_mod ?_ ?_; (first | assumption | omega | (simp <;> omega))) | (with_reducible refine Op_pow ?_ ?_ ?_ ?_ ?_; (first | assumption | omega | (simp <;> omega)); (first | assumption | omega | (simp <;> omega)); (first | assumption | omega | (simp <;> omega)); (first | assumption | omega | (simp <;> omega))) | (with_reducible refine Op_rng1 ?_ ?_ ?_; (first | assumption | omega | (simp <;> omega)); (first | assumption | omega | (simp <;> omega))) | (with_reducible refine Op_rng2 ?_ ?_ ?_ ?_ ?_; (first | assumption | omega | (simp <;> omega)); (first | assumption | omega | (simp <;> omega)); (first | assumption | omega | (simp <;> omega)); (first | assumption | omega | (simp <;> omega))) | (with_reducible refine Op_rg1 ?_ ?_ ?_; (first | assumption | omega | (simp <;> omega)); (first | assumption | omega | (simp <;> omega))) | (with_reducible refine Op_rg2 ?_ ?_ ?_ ?_ ?_; (first | assumption | omega | (simp <;> omega)); (first | assumption | omega | (simp <;> omega)); (first | assumption | omega | (simp <;> omega)); (first | assumption | omega | (simp <;> omega))) | (with_reducible refine Op_lenS ?_ ?_; (first | assumption | omega | (simp <;> omega))))); try simp))
        exact H.le (by omega)
      · intro ρ m' hI
        obtain ⟨⟨x11, x12, x13, x14, e⟩, H⟩ := hI
        subst e
        (try simp; repeat ((focus (first | (with_reducible refine Op_addT ?_ ?_; (first | assumption | omega | (simp <;> omega))) | (with_reducible refine Op_addL ?_ ?_; (first | assumption | omega | (simp <;> omega))) | (with_reducible refine Op_mul ?_ ?_ ?_ ?_ ?_; (first | assumption | omega | (simp <;> omega)); (first | assumption | omega | (simp <;> omega)); (first | assumption | omega | (simp <;> omega)); (first | assumption | omega | (simp <;> omega))) | (with_reducible refine Op_div ?_ ?_ ?_; (first | assumption | omega | (simp <;> omega)); (first | assumption | omega | (simp <;> omega))) | (with_reducible refine Op_mod ?_ ?_; (first | assumption | omega | (simp <;> omega))) | (with_reducible refine Op_pow ?_ ?_ ?_ ?_ ?_; (first | assumption | omega | (simp <;> omega)); (first | assumption | omega | (simp <;> omega)); (first | assumption | omega | (simp <;> omega)); (first | assumption | omega | (simp <;> omega))) | (with_reducible refine Op_rng1 ?_ ?_ ?_; (first | assumption | omega | (simp <;> omega)); (first | assumption | omega | (simp <;> omega))) | (with_reducible refine Op_rng2 ?_ ?_ ?_ ?_ ?_; (first | assumption | omega | (simp <;> omega)); (first | assumption | omega | (simp <;> omega)); (first | assumption | omega | (simp <;> omega)); (first | assumption | omega | (simp <;> omega))) | (with_reducible refine Op_rg1 ?_ ?_ ?_; (first | assumption | omega | (simp <;> omega)); (first | assumption | omega | (simp <;> omega))) | (with_reducible refine Op_rg2 ?_ ?_ ?_ ?_ ?_; (first | assumption | omega | (simp <;> omega)); (first | assumption | omega | (simp <;> omega)); (first | assumption | omega | (simp <;> omega)); (first | assumption | omega | (simp <;> omega))) | (with_reducible refine Op_lenS ?_ ?_; (first | assumption | omega | (simp <;> omega))))); try simp))
        have hPn : (P + 1).toNat ≤ 9 := by omega
        refine Ws_forR (fun k ρ m' => (∃ x14 x15, ρ = [some (.rol (ns.map D.int)), some (.ref 0), some (.int P), some (.int M), some (.int S), some (.int N), some (frameD ws S P), some (.int (2 + d5)), some dr0, some (.lst ls), some (.ref r), x11, x12, x13, x14, x15, none, none, none, none]) ∧ PlK m' 0 (15 + N + xs.length + k)) ⟨⟨_, _, rfl⟩, H⟩ ?_ ?_
        · intro k ρ m' hk hI
          obtain ⟨⟨x14, x15, e⟩, H⟩ := hI
          subst e
          have k1 : (k : Int) * S ≤ P * S := Int.mul_le_mul_of_nonneg_right (by omega) (by omega)
          have k2 : P * (S : Int) ≤ 40 := by rw [Int.mul_comm]; exact SP
          have k3 : 0 ≤ (k : Int) * S := Int.mul_nonneg (by omega) (by omega)
          (try simp [fr_rs, H.rs]; repeat ((focus (first | (with_reducible refine Op_addT ?_ ?_; (first | assumption | omega | (simp <;> omega))) | (with_reducible refine Op_addL ?_ ?_; (first | assumption | omega | (simp <;> omega))) | (with_reducible refine Op_mul ?_ ?_ ?_ ?_ ?_; (first | assumption | omega | (simp <;> omega)); (first | assumption | omega | (simp <;> omega)); (first | assumption | omega | (simp <;> omega)); (first | assumption | omega | (simp <;> omega))) | (with_reducible refine Op_div ?_ ?_ ?_; (first | assumption | omega | (simp <;> omega)); (first | assumption | omega | (simp <;> omega))) | (with_reducible refine Op_mod ?_ ?_; (first | assumption | omega | (simp <;> omega))) | (with_reducible refine Op_pow ?_ ?_ ?_ ?_ ?_; (first | assumption | omega | (simp <;> omega)); (first | assumption | omega | (simp <;> omega)); (first | assumption | omega | (simp <;> omega)); (first | assumption | omega | (simp <;> omega))) | (with_reducible refine Op_rng1 ?_ ?_ ?_; (first | assumption | omega | (simp <;> omega)); (first | assumption | omega | (simp <;> omega))) | (with_reducible refine Op_rng2 ?_ ?_ ?_ ?_ ?_; (first | assumption | omega | (simp <;> omega)); (first | assumption | omega | (simp <;> omega)); (first | assumption | omega | (simp <;> omega)); (first | assumption | omega | (simp <;> omega))) | (with_reducible refine Op_rg1 ?_ ?_ ?_; (first | assumption | omega | (simp <;> omega)); (first | assumption | omega | (simp <;> omega))) | (with_reducible refine Op_rg2 ?_ ?_ ?_ ?_ ?_; (first | assumption | omega | (simp <;> omega)); (first | assumption | omega | (simp <;> omega)); (first | assumption | omega | (simp <;> omega)); (first | assumption | omega | (simp <;> omega))) | (with_reducible refine Op_lenS ?_ ?_; (first | assumption | omega | (simp <;> omega))))); try simp [fr_rs, H.rs]))
          (refine Wp.mono (spec_draw H (by omega) (by omega) (by omega)) ?_; intro v_ m_ hv_; obtain ⟨d7, hv_, a7, b7, H_, A_⟩ := hv_; subst hv_; replace H := H_; clear H_)
          (try simp; repeat ((focus (first | (with_reducible refine Op_addT ?_ ?_; (first | assumption | omega | (simp <;> omega))) | (with_reducible refine Op_addL ?_ ?_; (first | assumption | omega | (simp <;> omega))) | (with_reducible refine Op_mul ?_ ?_ ?_ ?_ ?_; (first | assumption | omega | (simp <;> omega)); (first | assumption | omega | (simp <;> omega)); (first | assumption | omega | (simp <;> omega)); (first | assumption | omega | (simp <;> omega))) | (with_reducible refine Op_div ?_ ?_ ?_; (first | assumption | omega | (simp <;> omega)); (first | assumption | omega | (simp <;> omega))) | (with_reducible refine Op_mod ?_ ?_; (first | assumption | omega | (simp <;> omega))) | (with_reducible refine Op_pow ?_ ?_ ?_ ?_ ?_; (first | assumption | omega | (simp <;> omega)); (first | assumption | omega | (simp <;> omega)); (first | assumption | omega | (simp <;> omega)); (first | assumption | omega | (simp <;> omega))) | (with_reducible refine Op_rng1 ?_ ?_ ?_; (first | assumption | omega | (simp <;> omega)); (first | assumption | omega | (simp <;> omega))) | (with_reducible refine Op_rng2 ?_ ?_ ?_ ?_ ?_; (first | assumption | omega | (simp <;> omega)); (first | assumption | omega | (simp <;> omega)); (first | assumption | omega | (simp <;> omega)); (first | assumption | omega | (simp <;> omega))) | (with_reducible refine Op_rg1 ?_ ?_ ?_; (first | assumption | omega | (simp <;> omega)); (first | assumption | omega | (simp <;> omega))) | (with_reducible refine Op_rg2 ?_ ?_ ?_ ?_ ?_; (first | assumption | omega | (simp <;> omega)); (first | assumption | omega | (simp <;> omega)); (first | assumption | omega | (simp <;> omega)); (first | assumption | omega | (simp <;> omega))) | (with_reducible refine Op_lenS ?_ ?_; (first | assumption | omega | (simp <;> omega))))); try simp))
          rw [spec_told_from (n := 95) (by omega) (by omega) (by omega) (by omega) (by simp)]
          have hin : inR 0 P (.int k) = true := by simp [inR]; omega
          rw [hin]
          have eN : D.lst [D.str (PySem.Str.ofString "said"), D.tup (rgD ((k : Int) * S) N)] = saidD (lotF S P (.int k)) := by simp [saidD, lotF, N40]
          have sd : D.dat 6 (saidD (lotF S P (.int k))) = true := by
            refine dat_up (n := 2) (by omega) (said_dat (k := 1) (tup_dat (by rw [rgD_len]; omega) fun x hx => ?_))
            obtain ⟨i, rfl, -, -⟩ := rgD_mem hx
            simp
          (try simp [rs_said]; repeat ((focus (first | (with_reducible refine Op_addT ?_ ?_; (first | assumption | omega | (simp <;> omega))) | (with_reducible refine Op_addL ?_ ?_; (first | assumption | omega | (simp <;> omega))) | (with_reducible refine Op_mul ?_ ?_ ?_ ?_ ?_; (first | assumption | omega | (simp <;> omega)); (first | assumption | omega | (simp <;> omega)); (first | assumption | omega | (simp <;> omega)); (first | assumption | omega | (simp <;> omega))) | (with_reducible refine Op_div ?_ ?_ ?_; (first | assumption | omega | (simp <;> omega)); (first | assumption | omega | (simp <;> omega))) | (with_reducible refine Op_mod ?_ ?_; (first | assumption | omega | (simp <;> omega))) | (with_reducible refine Op_pow ?_ ?_ ?_ ?_ ?_; (first | assumption | omega | (simp <;> omega)); (first | assumption | omega | (simp <;> omega)); (first | assumption | omega | (simp <;> omega)); (first | assumption | omega | (simp <;> omega))) | (with_reducible refine Op_rng1 ?_ ?_ ?_; (first | assumption | omega | (simp <;> omega)); (first | assumption | omega | (simp <;> omega))) | (with_reducible refine Op_rng2 ?_ ?_ ?_ ?_ ?_; (first | assumption | omega | (simp <;> omega)); (first | assumption | omega | (simp <;> omega)); (first | assumption | omega | (simp <;> omega)); (first | assumption | omega | (simp <;> omega))) | (with_reducible refine Op_rg1 ?_ ?_ ?_; (first | assumption | omega | (simp <;> omega)); (first | assumption | omega | (simp <;> omega))) | (with_reducible refine Op_rg2 ?_ ?_ ?_ ?_ ?_; (first | assumption | omega | (simp <;> omega)); (first | assumption | omega | (simp <;> omega)); (first | assumption | omega | (simp <;> omega)); (first | assumption | omega | (simp <;> omega))) | (with_reducible refine Op_lenS ?_ ?_; (first | assumption | omega | (simp <;> omega))))); try simp [rs_said]))
          rw [eN, same99 sd]
          (try simp; repeat ((focus (first | (with_reducible refine Op_addT ?_ ?_; (first | assumption | omega | (simp <;> omega))) | (with_reducible refine Op_addL ?_ ?_; (first | assumption | omega | (simp <;> omega))) | (with_reducible refine Op_mul ?_ ?_ ?_ ?_ ?_; (first | assumption | omega | (simp <;> omega)); (first | assumption | omega | (simp <;> omega)); (first | assumption | omega | (simp <;> omega)); (first | assumption | omega | (simp <;> omega))) | (with_reducible refine Op_div ?_ ?_ ?_; (first | assumption | omega | (simp <;> omega)); (first | assumption | omega | (simp <;> omega))) | (with_reducible refine Op_mod ?_ ?_; (first | assumption | omega | (simp <;> omega))) | (with_reducible refine Op_pow ?_ ?_ ?_ ?_ ?_; (first | assumption | omega | (simp <;> omega)); (first | assumption | omega | (simp <;> omega)); (first | assumption | omega | (simp <;> omega)); (first | assumption | omega | (simp <;> omega))) | (with_reducible refine Op_rng1 ?_ ?_ ?_; (first | assumption | omega | (simp <;> omega)); (first | assumption | omega | (simp <;> omega))) | (with_reducible refine Op_rng2 ?_ ?_ ?_ ?_ ?_; (first | assumption | omega | (simp <;> omega)); (first | assumption | omega | (simp <;> omega)); (first | assumption | omega | (simp <;> omega)); (first | assumption | omega | (simp <;> omega))) | (with_reducible refine Op_rg1 ?_ ?_ ?_; (first | assumption | omega | (simp <;> omega)); (first | assumption | omega | (simp <;> omega))) | (with_reducible refine Op_rg2 ?_ ?_ ?_ ?_ ?_; (first | assumption | omega | (simp <;> omega)); (first | assumption | omega | (simp <;> omega)); (first | assumption | omega | (simp <;> omega)); (first | assumption | omega | (simp <;> omega))) | (with_reducible refine Op_lenS ?_ ?_; (first | assumption | omega | (simp <;> omega))))); try simp))
          exact H.le (by omega)
        · intro ρ m' hI
          obtain ⟨⟨x14, x15, e⟩, H⟩ := hI
          subst e
          (try simp [H.rs]; repeat ((focus (first | (with_reducible refine Op_addT ?_ ?_; (first | assumption | omega | (simp <;> omega))) | (with_reducible refine Op_addL ?_ ?_; (first | assumption | omega | (simp <;> omega))) | (with_reducible refine Op_mul ?_ ?_ ?_ ?_ ?_; (first | assumption | omega | (simp <;> omega)); (first | assumption | omega | (simp <;> omega)); (first | assumption | omega | (simp <;> omega)); (first | assumption | omega | (simp <;> omega))) | (with_reducible refine Op_div ?_ ?_ ?_; (first | assumption | omega | (simp <;> omega)); (first | assumption | omega | (simp <;> omega))) | (with_reducible refine Op_mod ?_ ?_; (first | assumption | omega | (simp <;> omega))) | (with_reducible refine Op_pow ?_ ?_ ?_ ?_ ?_; (first | assumption | omega | (simp <;> omega)); (first | assumption | omega | (simp <;> omega)); (first | assumption | omega | (simp <;> omega)); (first | assumption | omega | (simp <;> omega))) | (with_reducible refine Op_rng1 ?_ ?_ ?_; (first | assumption | omega | (simp <;> omega)); (first | assumption | omega | (simp <;> omega))) | (with_reducible refine Op_rng2 ?_ ?_ ?_ ?_ ?_; (first | assumption | omega | (simp <;> omega)); (first | assumption | omega | (simp <;> omega)); (first | assumption | omega | (simp <;> omega)); (first | assumption | omega | (simp <;> omega))) | (with_reducible refine Op_rg1 ?_ ?_ ?_; (first | assumption | omega | (simp <;> omega)); (first | assumption | omega | (simp <;> omega))) | (with_reducible refine Op_rg2 ?_ ?_ ?_ ?_ ?_; (first | assumption | omega | (simp <;> omega)); (first | assumption | omega | (simp <;> omega)); (first | assumption | omega | (simp <;> omega)); (first | assumption | omega | (simp <;> omega))) | (with_reducible refine Op_lenS ?_ ?_; (first | assumption | omega | (simp <;> omega))))); try simp [H.rs]))
          (refine Wp.mono (spec_draw H (by omega) (by omega) (by omega)) ?_; intro v_ m_ hv_; obtain ⟨d8, hv_, a8, b8, H_, A_⟩ := hv_; subst hv_; replace H := H_; clear H_)
          (try simp; repeat ((focus (first | (with_reducible refine Op_addT ?_ ?_; (first | assumption | omega | (simp <;> omega))) | (with_reducible refine Op_addL ?_ ?_; (first | assumption | omega | (simp <;> omega))) | (with_reducible refine Op_mul ?_ ?_ ?_ ?_ ?_; (first | assumption | omega | (simp <;> omega)); (first | assumption | omega | (simp <;> omega)); (first | assumption | omega | (simp <;> omega)); (first | assumption | omega | (simp <;> omega))) | (with_reducible refine Op_div ?_ ?_ ?_; (first | assumption | omega | (simp <;> omega)); (first | assumption | omega | (simp <;> omega))) | (with_reducible refine Op_mod ?_ ?_; (first | assumption | omega | (simp <;> omega))) | (with_reducible refine Op_pow ?_ ?_ ?_ ?_ ?_; (first | assumption | omega | (simp <;> omega)); (first | assumption | omega | (simp <;> omega)); (first | assumption | omega | (simp <;> omega)); (first | assumption | omega | (simp <;> omega))) | (with_reducible refine Op_rng1 ?_ ?_ ?_; (first | assumption | omega | (simp <;> omega)); (first | assumption | omega | (simp <;> omega))) | (with_reducible refine Op_rng2 ?_ ?_ ?_ ?_ ?_; (first | assumption | omega | (simp <;> omega)); (first | assumption | omega | (simp <;> omega)); (first | assumption | omega | (simp <;> omega)); (first | assumption | omega | (simp <;> omega))) | (with_reducible refine Op_rg1 ?_ ?_ ?_; (first | assumption | omega | (simp <;> omega)); (first | assumption | omega | (simp <;> omega))) | (with_reducible refine Op_rg2 ?_ ?_ ?_ ?_ ?_; (first | assumption | omega | (simp <;> omega)); (first | assumption | omega | (simp <;> omega)); (first | assumption | omega | (simp <;> omega)); (first | assumption | omega | (simp <;> omega))) | (with_reducible refine Op_lenS ?_ ?_; (first | assumption | omega | (simp <;> omega))))); try simp))
          have hods : ∀ x ∈ ([D.int (-1), D.int (P + 1), D.int (-100000000000000000000), D.int 100000000000000000000, D.bl true, D.bl false, D.non, D.str (PySem.Str.ofString "0"), D.tup [D.int 0], D.lst [D.int 0], D.int (P + 2 + d8)] : List D), x.pl = true ∧ D.dat 1 x = true ∧ inR 0 P x = false := by
            intro x hx
            simp only [List.mem_cons, List.not_mem_nil, or_false] at hx
            rcases hx with h | h | h | h | h | h | h | h | h | h | h <;> subst h <;> refine ⟨rfl, by first | rfl | decide +kernel, ?_⟩ <;> first | rfl | (simp [inR]; done) | (simp [inR]; omega)
          have hol : ([D.int (-1), D.int (P + 1), D.int (-100000000000000000000), D.int 100000000000000000000, D.bl true, D.bl false, D.non, D.str (PySem.Str.ofString "0"), D.tup [D.int 0], D.lst [D.int 0], D.int (P + 2 + d8)] : List D).length = 11 := rfl
          generalize ([D.int (-1), D.int (P + 1), D.int (-100000000000000000000), D.int 100000000000000000000, D.bl true, D.bl false, D.non, D.str (PySem.Str.ofString "0"), D.tup [D.int 0], D.lst [D.int 0], D.int (P + 2 + d8)] : List D) = od at hods hol ⊢
          generalize D.lst [D.int (-1), D.int (P + 1), D.int (-100000000000000000000), D.int 100000000000000000000, D.bl true, D.bl false, D.non, D.str (PySem.Str.ofString "0"), D.tup [D.int 0], D.lst [D.int 0]] = od2
          refine Ws_forL od _ hol hods (fun k ρ m' => (∃ x14 x17, ρ = [some (.rol (ns.map D.int)), some (.ref 0), some (.int P), some (.int M), some (.int S), some (.int N), some (frameD ws S P), some (.int (2 + d5)), some dr0, some (.lst ls), some (.ref r), x11, x12, x13, x14, x15, some od2, x17, none, none]) ∧ PlK m' 0 (100 + xs.length + k)) ⟨⟨_, _, rfl⟩, H.le (by omega)⟩ ?_ ?_
          · intro k ρ m' x hk hx xp xd hI
            obtain ⟨⟨x14, x17, e⟩, H⟩ := hI
            obtain ⟨xd, xr⟩ := xd
            subst e
            (try simp [fr_rs, H.rs, xp]; repeat ((focus (first | (with_reducible refine Op_addT ?_ ?_; (first | assumption | omega | (simp <;> omega))) | (with_reducible refine Op_addL ?_ ?_; (first | assumption | omega | (simp <;> omega))) | (with_reducible refine Op_mul ?_ ?_ ?_ ?_ ?_; (first | assumption | omega | (simp <;> omega)); (first | assumption | omega | (simp <;> omega)); (first | assumption | omega | (simp <;> omega)); (first | assumption | omega | (simp <;> omega))) | (with_reducible refine Op_div ?_ ?_ ?_; (first | assumption | omega | (simp <;> omega)); (first | assumption | omega | (simp <;> omega))) | (with_reducible refine Op_mod ?_ ?_; (first | assumption | omega | (simp <;> omega))) | (with_reducible refine Op_pow ?_ ?_ ?_ ?_ ?_; (first | assumption | omega | (simp <;> omega)); (first | assumption | omega | (simp <;> omega)); (first | assumption | omega | (simp <;> omega)); (first | assumption | omega | (simp <;> omega))) | (with_reducible refine Op_rng1 ?_ ?_ ?_; (first | assumption | omega | (simp <;> omega)); (first | assumption | omega | (simp <;> omega))) | (with_reducible refine Op_rng2 ?_ ?_ ?_ ?_ ?_; (first | assumption | omega | (simp <;> omega)); (first | assumption | omega | (simp <;> omega)); (first | assumption | omega | (simp <;> omega)); (first | assumption | omega | (simp <;> omega))) | (with_reducible refine Op_rg1 ?_ ?_ ?_; (first | assumption | omega | (simp <;> omega)); (first | assumption | omega | (simp <;> omega))) | (with_reducible refine Op_rg2 ?_ ?_ ?_ ?_ ?_; (first | assumption | omega | (simp <;> omega)); (first | assumption | omega | (simp <;> omega)); (first | assumption | omega | (simp <;> omega)); (first | assumption | omega | (simp <;> omega))) | (with_reducible refine Op_lenS ?_ ?_; (first | assumption | omega | (simp <;> omega))))); try simp [fr_rs, H.rs, xp]))
            (refine Wp.mono (spec_draw H (by omega) (by omega) (by omega)) ?_; intro v_ m_ hv_; obtain ⟨d7, hv_, a7, b7, H_, A_⟩ := hv_; subst hv_; replace H := H_; clear H_)
            (try simp [xp]; repeat ((focus (first | (with_reducible refine Op_addT ?_ ?_; (first | assumption | omega | (simp <;> omega))) | (with_reducible refine Op_addL ?_ ?_; (first | assumption | omega | (simp <;> omega))) | (with_reducible refine Op_mul ?_ ?_ ?_ ?_ ?_; (first | assumption | omega | (simp <;> omega)); (first | assumption | omega | (simp <;> omega)); (first | assumption | omega | (simp <;> omega)); (first | assumption | omega | (simp <;> omega))) | (with_reducible refine Op_div ?_ ?_ ?_; (first | assumption | omega | (simp <;> omega)); (first | assumption | omega | (simp <;> omega))) | (with_reducible refine Op_mod ?_ ?_; (first | assumption | omega | (simp <;> omega))) | (with_reducible refine Op_pow ?_ ?_ ?_ ?_ ?_; (first | assumption | omega | (simp <;> omega)); (first | assumption | omega | (simp <;> omega)); (first | assumption | omega | (simp <;> omega)); (first | assumption | omega | (simp <;> omega))) | (with_reducible refine Op_rng1 ?_ ?_ ?_; (first | assumption | omega | (simp <;> omega)); (first | assumption | omega | (simp <;> omega))) | (with_reducible refine Op_rng2 ?_ ?_ ?_ ?_ ?_; (first | assumption | omega | (simp <;> omega)); (first | assumption | omega | (simp <;> omega)); (first | assumption | omega | (simp <;> omega)); (first | assumption | omega | (simp <;> omega))) | (with_reducible refine Op_rg1 ?_ ?_ ?_; (first | assumption | omega | (simp <;> omega)); (first | assumption | omega | (simp <;> omega))) | (with_reducible refine Op_rg2 ?_ ?_ ?_ ?_ ?_; (first | assumption | omega | (simp <;> omega)); (first | assumption | omega | (simp <;> omega)); (first | assumption | omega | (simp <;> omega)); (first | assumption | omega | (simp <;> omega))) | (with_reducible refine Op_lenS ?_ ?_; (first | assumption | omega | (simp <;> omega))))); try simp [xp]))
            rw [spec_told_from (n := 95) (by omega) (by omega) (by omega) (by omega) xp, xr]
            have sd : D.dat 6 (raisedD [numD x]) = true := dat_up (n := 4) (by omega) (raised_dat (k := 2) (by simp) (by simpa using num_dat (k := 1) xd))
            have eN : D.lst [D.str (PySem.Str.ofString "raised"), D.lst [D.lst [D.str (PySem.Str.ofString "number"), x]]] = raisedD [numD x] := rfl
            (try simp [rs_raised]; repeat ((focus (first | (with_reducible refine Op_addT ?_ ?_; (first | assumption | omega | (simp <;> omega))) | (with_reducible refine Op_addL ?_ ?_; (first | assumption | omega | (simp <;> omega))) | (with_reducible refine Op_mul ?_ ?_ ?_ ?_ ?_; (first | assumption | omega | (simp <;> omega)); (first | assumption | omega | (simp <;> omega)); (first | assumption | omega | (simp <;> omega)); (first | assumption | omega | (simp <;> omega))) | (with_reducible refine Op_div ?_ ?_ ?_; (first | assumption | omega | (simp <;> omega)); (first | assumption | omega | (simp <;> omega))) | (with_reducible refine Op_mod ?_ ?_; (first | assumption | omega | (simp <;> omega))) | (with_reducible refine Op_pow ?_ ?_ ?_ ?_ ?_; (first | assumption | omega | (simp <;> omega)); (first | assumption | omega | (simp <;> omega)); (first | assumption | omega | (simp <;> omega)); (first | assumption | omega | (simp <;> omega))) | (with_reducible refine Op_rng1 ?_ ?_ ?_; (first | assumption | omega | (simp <;> omega)); (first | assumption | omega | (simp <;> omega))) | (with_reducible refine Op_rng2 ?_ ?_ ?_ ?_ ?_; (first | assumption | omega | (simp <;> omega)); (first | assumption | omega | (simp <;> omega)); (first | assumption | omega | (simp <;> omega)); (first | assumption | omega | (simp <;> omega))) | (with_reducible refine Op_rg1 ?_ ?_ ?_; (first | assumption | omega | (simp <;> omega)); (first | assumption | omega | (simp <;> omega))) | (with_reducible refine Op_rg2 ?_ ?_ ?_ ?_ ?_; (first | assumption | omega | (simp <;> omega)); (first | assumption | omega | (simp <;> omega)); (first | assumption | omega | (simp <;> omega)); (first | assumption | omega | (simp <;> omega))) | (with_reducible refine Op_lenS ?_ ?_; (first | assumption | omega | (simp <;> omega))))); try simp [rs_raised]))
            rw [eN, same99 sd]
            (try simp; repeat ((focus (first | (with_reducible refine Op_addT ?_ ?_; (first | assumption | omega | (simp <;> omega))) | (with_reducible refine Op_addL ?_ ?_; (first | assumption | omega | (simp <;> omega))) | (with_reducible refine Op_mul ?_ ?_ ?_ ?_ ?_; (first | assumption | omega | (simp <;> omega)); (first | assumption | omega | (simp <;> omega)); (first | assumption | omega | (simp <;> omega)); (first | assumption | omega | (simp <;> omega))) | (with_reducible refine Op_div ?_ ?_ ?_; (first | assumption | omega | (simp <;> omega)); (first | assumption | omega | (simp <;> omega))) | (with_reducible refine Op_mod ?_ ?_; (first | assumption | omega | (simp <;> omega))) | (with_reducible refine Op_pow ?_ ?_ ?_ ?_ ?_; (first | assumption | omega | (simp <;> omega)); (first | assumption | omega | (simp <;> omega)); (first | assumption | omega | (simp <;> omega)); (first | assumption | omega | (simp <;> omega))) | (with_reducible refine Op_rng1 ?_ ?_ ?_; (first | assumption | omega | (simp <;> omega)); (first | assumption | omega | (simp <;> omega))) | (with_reducible refine Op_rng2 ?_ ?_ ?_ ?_ ?_; (first | assumption | omega | (simp <;> omega)); (first | assumption | omega | (simp <;> omega)); (first | assumption | omega | (simp <;> omega)); (first | assumption | omega | (simp <;> omega))) | (with_reducible refine Op_rg1 ?_ ?_ ?_; (first | assumption | omega | (simp <;> omega)); (first | assumption | omega | (simp <;> omega))) | (with_reducible refine Op_rg2 ?_ ?_ ?_ ?_ ?_; (first | assumption | omega | (simp <;> omega)); (first | assumption | omega | (simp <;> omega)); (first | assumption | omega | (simp <;> omega)); (first | assumption | omega | (simp <;> omega))) | (with_reducible refine Op_lenS ?_ ?_; (first | assumption | omega | (simp <;> omega))))); try simp))
            exact H.le (by omega)
          · intro ρ m' hI
            obtain ⟨⟨x14, x17, e⟩, H⟩ := hI
            subst e
            (try simp; repeat ((focus (first | (with_reducible refine Op_addT ?_ ?_; (first | assumption | omega | (simp <;> omega))) | (with_reducible refine Op_addL ?_ ?_; (first | assumption | omega | (simp <;> omega))) | (with_reducible refine Op_mul ?_ ?_ ?_ ?_ ?_; (first | assumption | omega | (simp <;> omega)); (first | assumption | omega | (simp <;> omega)); (first | assumption | omega | (simp <;> omega)); (first | assumption | omega | (simp <;> omega))) | (with_reducible refine Op_div ?_ ?_ ?_; (first | assumption | omega | (simp <;> omega)); (first | assumption | omega | (simp <;> omega))) | (with_reducible refine Op_mod ?_ ?_; (first | assumption | omega | (simp <;> omega))) | (with_reducible refine Op_pow ?_ ?_ ?_ ?_ ?_; (first | assumption | omega | (simp <;> omega)); (first | assumption | omega | (simp <;> omega)); (first | assumption | omega | (simp <;> omega)); (first | assumption | omega | (simp <;> omega))) | (with_reducible refine Op_rng1 ?_ ?_ ?_; (first | assumption | omega | (simp <;> omega)); (first | assumption | omega | (simp <;> omega))) | (with_reducible refine Op_rng2 ?_ ?_ ?_ ?_ ?_; (first | assumption | omega | (simp <;> omega)); (first | assumption | omega | (simp <;> omega)); (first | assumption | omega | (simp <;> omega)); (first | assumption | omega | (simp <;> omega))) | (with_reducible refine Op_rg1 ?_ ?_ ?_; (first | assumption | omega | (simp <;> omega)); (first | assumption | omega | (simp <;> omega))) | (with_reducible refine Op_rg2 ?_ ?_ ?_ ?_ ?_; (first | assumption | omega | (simp <;> omega)); (first | assumption | omega | (simp <;> omega)); (first | assumption | omega | (simp <;> omega)); (first | assumption | omega | (simp <;> omega))) | (with_reducible refine Op_lenS ?_ ?_; (first | assumption | omega | (simp <;> omega))))); try simp))
  obtain ⟨v, μ, e, hv⟩ := ok_of_wp hp
  subst hv
  exact ⟨μ, e⟩
end Lw
namespace Lw
open PySem PySem.Spec PyProof.Rows L2 Gs
abbrev R : PySem.W.OpenRow := PySem.W.OpenLaw.row PySem.Challenge.rw_giftspared_k04_lots_told
abbrev hk : PySem.W.Hook := He.hookQ 6 [] spc.fn spc.chk
def ob (s : PySem.W.SharedT) : He.AlG := He.obsQG 6 [] spc.fn spc.chk (HandSHeadRun.getT s)
theorem ob_eq (s : PySem.W.SharedT) : ob s = hk.obs s.abs := He.obsQG_eq (HandSHeadRun.getT_eq s)
def loose : List PySem.Str := ([(PySem.Str.ofString "_wall"), (PySem.Str.ofString "GiftError"), (PySem.Str.ofString "InvalidNumber"), (PySem.Str.ofString "InvalidFrame"), (PySem.Str.ofString "InvalidGift"), (PySem.Str.ofString "InvalidGifts"), (PySem.Str.ofString "InvalidNeeds"), (PySem.Str.ofString "InvalidLot"), (PySem.Str.ofString "InvalidTable"), (PySem.Str.ofString "TooMany"), (PySem.Str.ofString "Undefined"), (PySem.Str.ofString "MOST_WORD"), (PySem.Str.ofString "LETTERS"), (PySem.Str.ofString "is_integer"), (PySem.Str.ofString "is_from_to"), (PySem.Str.ofString "is_sequence"), (PySem.Str.ofString "is_word"), (PySem.Str.ofString "is_rising"), (PySem.Str.ofString "MOST_PURPOSES"), (PySem.Str.ofString "MOST_PERIODS")] : List PySem.Str) ++ ([(PySem.Str.ofString "MOST_CELLS"), (PySem.Str.ofString "Frame"), (PySem.Str.ofString "is_lot"), (PySem.Str.ofString "lot_from"), (PySem.Str.ofString "_law_pool"), (PySem.Str.ofString "_law_draw"), (PySem.Str.ofString "_law_same"), (PySem.Str.ofString "_law_whole"), (PySem.Str.ofString "_law_shown"), (PySem.Str.ofString "_law_rising"), (PySem.Str.ofString "_law_told"), (PySem.Str.ofString "_law_told_from"), (PySem.Str.ofString "_law_spoilt")] : List PySem.Str)
theorem run (w : World) : HandSHeadRun.RunEq R (PySem.W.view R.prog [37]) hk ob 4000 loose w := by
  intro os
  kernel_rfl
theorem hd : (∀ ns : List Int, ns.length ≤ 63 → (∀ z ∈ ns, Builtin.Int.intBits z ≤ 1048576) → ∃ μ, runs tab 100 0 n_law [.rol (ns.map D.int)] ⟨0, []⟩ = .ok (.bl true) μ) → PySem.Challenge.rw_giftspared_k04_lots_told.Holds := by
  intro hrun
  w_on; o_law
  refine HandSHeadRun.head_any (r := PySem.W.OpenLaw.row PySem.Challenge.rw_giftspared_k04_lots_told) (q := PySem.W.view (PySem.W.OpenLaw.row PySem.Challenge.rw_giftspared_k04_lots_told).prog [37]) (H := hk) (ob := ob) (M := 4000) (loose := loose) (d := HandSHeadRun.topDef (PySem.W.OpenLaw.row PySem.Challenge.rw_giftspared_k04_lots_told).prog 37) (kwd := []) ob_eq
    (by kernel_rfl) (fun s => by kernel_rfl) run (by kernel_rfl) (by kernel_rfl) (by kernel_rfl) (by rfl) (by first | assumption | decide +kernel) (by decide +kernel) ⟨rfl, rfl, rfl, rfl, rfl, by decide +kernel⟩ ?hw ?hc
  case hw => w_witness2
  case hc =>
    refine law_end (l := PySem.Challenge.rw_giftspared_k04_lots_told) (n := 63) (k := 201) (x := "script") rfl (by decide) (by kernel_rfl) ⟨rfl, by decide, by decide⟩ ?_
    intro w mg fa h Y G hmg0
    have hmg : mg ("law" : PySem.Str) = some (.ref fa) := by
      have e : (HandSHeadRun.topDef (PySem.W.OpenLaw.row PySem.Challenge.rw_giftspared_k04_lots_told).prog 37).name = ("law" : PySem.Str) := by kernel_rfl
      rw [← e]
      exact hmg0
    exact law_F (S := spc) spc_ok (q := q_law) (List.mem_of_getElem? (i := 23) rfl) rfl rfl rfl rfl (n := 100) hrun w mg fa h Y G hmg
end Lw
theorem PySem.Challenge.cw_giftspared_k04_lots_told_holds : PySem.Challenge.rw_giftspared_k04_lots_told.Holds := by
  exact Lw.hd Lw.k04
