import PyProof.Rows.All
import Wide.All
import OpenK.AllK
import Wide.FinOn
import HandS.ForMost
import HandS.ForExc
import KE.IntTextLaws
import HandS.IsInst
import HandS.SortKw
import KE.DataMinMax
import HandS.More
import PyProof.Rows.SortShellAny
import KE.DatumOrd
import HandS.ExcOwn
import HandS.Defaults
import HandS.WordsExc
import HandS.TryMany
import HandS.ExcField
import HandS.ExcInit
import HandS.CallSlots
import HandS.ClsMeth
import HandS.HeadHook4
import HandS.Head0
import HandS.Head1
import HandS.Head2
import HandS.HeadEnd
import KE.KIntText
import KE.IntTextText
import KE.KStateDown
import PyProof.P3Eq
import PySem.Challenge.RW_lodepath_k37_values_written_and_read
set_option Elab.async false
set_option linter.all false
set_option maxRecDepth 100000
/-! A small language with plain data, its runs -/
namespace Lp
abbrev S := List Nat
abbrev DKey := Sum Int S
inductive D where
  | non | bl (b : Bool) | int (i : Int) | str (s : S)
  | lst (xs : List D) | tup (xs : List D) | dic (kvs : List (DKey × D))
  | cell (c : Nat)
  deriving Inhabited
structure Exn where
  cls : String
  fs : List (S × D)
inductive Sl where
  | no | d (d : D) | own (d : D) | exn (x : Exn)
  deriving Inhabited
abbrev Fr := List Sl
abbrev Mem := List D
inductive Res (α : Type) where
  | ok (a : α) (M : Mem)
  | exc (x : Exn) (M : Mem)
  | stuck
def Res.bind {α β : Type} (r : Res α) (f : α → Mem → Res β) : Res β :=
  match r with
  | .ok a M => f a M
  | .exc x M => .exc x M
  | .stuck => .stuck
@[simp] theorem Res.bind_ok {α β : Type} {a : α} {M : Mem} {f : α → Mem → Res β} : (Res.ok a M).bind f = f a M := rfl
@[simp] theorem Res.bind_exc {α β : Type} {x : Exn} {M : Mem} {f : α → Mem → Res β} : (Res.exc x M : Res α).bind f = .exc x M := rfl
@[simp] theorem Res.bind_stuck {α β : Type} {f : α → Mem → Res β} : (Res.stuck : Res α).bind f = .stuck := rfl
def Res.of {α : Type} (o : Option α) (M : Mem) : Res α :=
  match o with
  | some a => .ok a M
  | none => .stuck
@[simp] theorem Res.of_some {α : Type} {a : α} {M : Mem} : Res.of (some a) M = .ok a M := rfl
@[simp] theorem Res.of_none {α : Type} {M : Mem} : Res.of (none : Option α) M = .stuck := rfl

inductive BOp where | add | sub | mul | mod | fdiv | pow
  deriving DecidableEq
inductive COp where | eq | ne | lt | le | gt | ge | isn | notn | inn | nin
  deriving DecidableEq
inductive Blt where | len | all | any | sum | int | str | tuple
  deriving DecidableEq
inductive Mth where | join | startswith
  deriving DecidableEq
inductive Ty where | non | bool | int | str | list | tuple | dict
  deriving DecidableEq
def Ty.name : Ty → String
  | .non => "NoneType" | .bool => "bool" | .int => "int" | .str => "str" | .list => "list" | .tuple => "tuple" | .dict => "dict"
/-- a type under another -/
@[simp] def Ty.sub (a b : Ty) : Bool := decide (a = b) || (decide (a = .bool) && decide (b = .int))
/-- a target -/
inductive TG' where
  | name (i : Nat)
  | tup (is : List Nat)
  deriving DecidableEq
@[simp] def TG'.slots : TG' → List Nat
  | .name i => [i]
  | .tup is => is
mutual
inductive EX where
  | var (i : Nat)
  | peek (i : Nat)
  | c (d : D)
  | bin (o : BOp) (a b : EX)
  | neg (a : EX)
  | not (a : EX)
  | cmp (o : COp) (a b : EX)
  | chain (o o' : COp) (a b c : EX)
  | and (a b : EX)
  | or (a b : EX)
  | ite (c a b : EX)
  | isi (a : EX) (t : Ty)
  | call (f : String) (args : EXs) (dfl : List D)
  | blt (f : Blt) (a : EX)
  | minD (a b : EX)
  | mth (m : Mth) (o a : EX)
  | idx (a b : EX)
  | slc (a : EX) (lo hi : Option EX)
  | tup (args : EXs)
  | frz (f : FX)
  | alloc (f : FX)
inductive EXs where
  | nil
  | cons (e : EX) (r : EXs)
inductive FX where
  | lst (args : EXs)
  | dic
  | comp (g : TG') (it : IX) (cond : Option EX) (elt : EX)
  | compK (g : TG') (d : Nat) (cond : Option EX) (elt : EX)
  | sorted (a : EX)
  | listOf (a : EX)
  | dictOf (a : EX)
  | cat (a b : EX)
  | rep (a b : EX)
  | slc (a : EX) (lo hi : Option EX)
inductive IX where
  | rng1 (a : EX)
  | rng2 (a b : EX)
  | seq (a : EX)
  | chars (a : EX)
end
inductive TX where
  | name (i : Nat)
  | item (i : Nat) (k : EX)
mutual
inductive SX where
  | pass
  | set (i : Nat) (e : EX)
  | own (i : Nat) (f : FX)
  | frz (i : Nat)
  | unpack (ts : List TX) (e : EX)
  | append (p e : EX)
  | setit (p k e : EX)
  | aug (i : Nat) (o : BOp) (e : EX)
  | expr (e : EX)
  | ret (e : EX)
  | raise (cls : String) (args : EXs)
  | ite (c : EX) (a b : SXs)
  | forr (g : TG') (it : IX) (body : SXs)
  | loop (c : EX) (body : SXs)
  | brk
  | cnt
  | tryF (body : SXs) (cls : String) (i j : Nat) (field : S)
inductive SXs where
  | nil
  | cons (s : SX) (r : SXs)
end

/-! ### the plain operations -/
def L : Nat := 16777216
def powOk (i j : Int) : Bool := decide (0 ≤ j) && decide (j.natAbs ≤ 1000000) && decide (i.natAbs < 18446744073709551616)
def mulOk (i j : Int) : Bool := decide (i.natAbs < 18446744073709551616) || decide (j.natAbs < 18446744073709551616)
def addD : D → D → Option D
  | .int i, .int j => some (.int (i + j))
  | .str s, .str t => if s.length + t.length ≤ L then some (.str (s ++ t)) else none
  | .tup xs, .tup ys => if xs.length + ys.length ≤ L ∧ xs ≠ [] then some (.tup (xs ++ ys)) else none
  | _, _ => none
def subD : D → D → Option D
  | .int i, .int j => some (.int (i - j))
  | _, _ => none
def mulD : D → D → Option D
  | .int i, .int j => if mulOk i j then some (.int (i * j)) else none
  | .str s, .int k => if s.length * k.toNat ≤ L ∧ k.natAbs < 1000000000 then some (.str (List.replicate k.toNat s).flatten) else none
  | _, _ => none
def modD : D → D → Option D
  | .int i, .int j => if j ≠ 0 then some (.int (i.fmod j)) else none
  | _, _ => none
def fdivD : D → D → Option D
  | .int i, .int j => if j ≠ 0 ∧ j.natAbs < 1073741824 then some (.int (i.fdiv j)) else none
  | _, _ => none
def powD : D → D → Option D
  | .int i, .int j => if powOk i j then some (.int (i ^ j.toNat)) else none
  | _, _ => none
@[simp] def binD : BOp → D → D → Option D
  | .add => addD | .sub => subD | .mul => mulD | .mod => modD | .fdiv => fdivD | .pow => powD
/-- lexicographic -/
def ltS : S → S → Bool
  | [], [] => false
  | [], _ :: _ => true
  | _ :: _, [] => false
  | a :: s, b :: t => decide (a < b) || (decide (a = b) && ltS s t)
mutual
def toPy : D → Option PySem.PyData
  | .non => some .none
  | .bl b => some (.bool b)
  | .int i => some (.int i)
  | .str s => some (.str ⟨s.toArray⟩)
  | .lst xs => (toPys xs).map .list
  | .tup xs => (toPys xs).map .tuple
  | .dic _ => none
  | .cell _ => none
def toPys : List D → Option (List PySem.PyData)
  | [] => some []
  | d :: ds => (toPy d).bind fun p => (toPys ds).map (p :: ·)
end
/-- == of data without records -/
def eqD (a b : D) : Option Bool := (toPy a).bind fun p => (toPy b).bind fun q => if PySem.SeqAt.shaped p = true ∧ PySem.SeqAt.shaped q = true then some (PySem.PyData.eqv p q) else none
def dlook (kvs : List (DKey × D)) (k : DKey) : Option D :=
  match kvs with
  | [] => none
  | (k', d) :: r => if k' = k then some d else dlook r k
/-- flat things -/
def flatD : D → Bool
  | .non => true | .bl _ => true | .int _ => true | .str _ => true
  | _ => false
/-- == of flat things -/
def eqF : D → D → Bool
  | .non, .non => true
  | .bl a, .bl b => a == b
  | .bl a, .int b => (if a then 1 else 0) == b
  | .int a, .bl b => a == (if b then 1 else 0)
  | .int a, .int b => a == b
  | .str a, .str b => a == b
  | _, _ => false
def isIn1 : D → D → Option Bool
  | d, .lst xs => if flatD d = true ∧ xs.all flatD = true then some (xs.any fun y => eqF y d) else none
  | d, .tup xs => if flatD d = true ∧ xs.all flatD = true then some (xs.any fun y => eqF y d) else none
  | .str [c], .str t => some (t.contains c)
  | .str s, .dic kvs => some (dlook kvs (.inr s)).isSome
  | .int i, .dic kvs => some (dlook kvs (.inl i)).isSome
  | _, _ => none
def ltD : D → D → Option Bool
  | .int i, .int j => some (decide (i < j))
  | .str s, .str t => some (ltS s t)
  | _, _ => none
def leD : D → D → Option Bool
  | .int i, .int j => some (decide (i ≤ j))
  | .str s, .str t => some (!ltS t s)
  | _, _ => none
@[simp] def isNon : D → Bool
  | .non => true
  | _ => false
def isD : D → D → Option Bool
  | d, .non => some (isNon d)
  | _, _ => none
@[simp] def cmpD : COp → D → D → Option Bool
  | .eq => eqD | .ne => fun a b => (eqD a b).map not
  | .lt => ltD | .le => leD | .gt => fun a b => ltD b a | .ge => fun a b => leD b a
  | .isn => isD | .notn => fun a b => (isD a b).map not
  | .inn => isIn1 | .nin => fun a b => (isIn1 a b).map not
/-- what stands in a place -/
def con (M : Mem) : D → Option D
  | .cell c => match M[c]? with
    | some (.lst xs) => some (.lst xs)
    | some (.dic kvs) => some (.dic kvs)
    | _ => none
  | d => some d
@[simp] def tyOf : D → Option Ty
  | .non => some .non | .bl _ => some .bool | .int _ => some .int | .str _ => some .str | .lst _ => some .list | .tup _ => some .tuple | .dic _ => some .dict
  | .cell _ => none
@[simp] def kindOf (M : Mem) (d : D) : Option Ty := (con M d).bind tyOf
def lenD (M : Mem) (d : D) : Option D :=
  match con M d with
  | some (.str s) => if s.length ≤ L then some (.int s.length) else none
  | some (.lst xs) => some (.int xs.length)
  | some (.tup xs) => some (.int xs.length)
  | some (.dic kvs) => some (.int kvs.length)
  | _ => none
def boolsD : List D → Option (List Bool)
  | [] => some []
  | .bl b :: r => (boolsD r).map (b :: ·)
  | _ :: _ => none
def intsD : List D → Option (List Int)
  | [] => some []
  | .int b :: r => (intsD r).map (b :: ·)
  | _ :: _ => none
def strsD : List D → Option (List S)
  | [] => some []
  | .str b :: r => (strsD r).map (b :: ·)
  | _ :: _ => none
/-- an int's text -/
def intText (i : Int) : S := (toString i).toList.map Char.toNat
/-- a text of figures, with or without a sign, as an int -/
def isFig (c : Nat) : Bool := decide (48 ≤ c) && decide (c ≤ 57)
def figVal (s : S) : Nat := s.foldl (fun n c => n * 10 + (c - 48)) 0
def negText : S → Option S
  | 45 :: t => some t
  | _ => none
def textInt (s : S) : Option Int :=
  match negText s with
  | some t => if t ≠ [] ∧ t.all isFig = true ∧ t.length ≤ 600 then some (-(figVal t : Int)) else none
  | none => if s ≠ [] ∧ s.all isFig = true ∧ s.length ≤ 600 then some (figVal s : Int) else none
def joinS (sep : S) : List S → S
  | [] => []
  | [x] => x
  | x :: y :: r => x ++ sep ++ joinS sep (y :: r)
def allD : D → Option D
  | .lst xs => (boolsD xs).map fun bs => .bl (bs.all id)
  | _ => none
def anyD : D → Option D
  | .lst xs => (boolsD xs).map fun bs => .bl (bs.any id)
  | _ => none
def sumD : D → Option D
  | .lst xs => (intsD xs).map fun ns => .int ns.sum
  | _ => none
def intD : D → Option D
  | .int i => some (.int i)
  | .bl b => some (.int (if b then 1 else 0))
  | .str s => (textInt s).map .int
  | _ => none
def strD : D → Option D
  | .int i => if i.natAbs.log2 < 1920 then some (.str (intText i)) else none
  | _ => none
@[simp] def tupleD : D → Option D
  | .lst xs => some (.tup xs)
  | .tup xs => some (.tup xs)
  | _ => none
@[simp] def bltD (M : Mem) : Blt → D → Option D
  | .len => lenD M | .all => allD | .any => anyD | .sum => sumD | .int => intD | .str => strD | .tuple => tupleD
@[simp] def joinD : D → D → Option D
  | .str s, .lst xs => (strsD xs).bind fun ys => if (ys.map List.length).sum + ys.length * s.length ≤ L then some (.str (joinS s ys)) else none
  | .str s, .tup xs => (strsD xs).bind fun ys => if (ys.map List.length).sum + ys.length * s.length ≤ L then some (.str (joinS s ys)) else none
  | _, _ => none
def startsD : D → D → Option D
  | .str s, .str t => some (.bl (t.isPrefixOf s))
  | _, _ => none
@[simp] def mthD : Mth → D → D → Option D
  | .join => joinD | .startswith => startsD
/-- the place of an index -/
def ixD (n : Nat) (i : Int) : Option Nat :=
  if 0 ≤ i then (if i.toNat < n then some i.toNat else none)
  else if -(n : Int) ≤ i then some (i + n).toNat else none
def dput (kvs : List (DKey × D)) (k : DKey) (v : D) : List (DKey × D) :=
  match kvs with
  | [] => [(k, v)]
  | (k', d) :: r => if k' = k then (k', v) :: r else (k', d) :: dput r k v
def idxD (M : Mem) (a i : D) : Option D :=
  match con M a, i with
  | some (.lst xs), .int i => (ixD xs.length i).bind fun j => xs[j]?
  | some (.tup xs), .int i => (ixD xs.length i).bind fun j => xs[j]?
  | some (.str s), .int i => if s.length ≤ L then (ixD s.length i).bind fun j => (s[j]?).map fun c => .str [c] else none
  | some (.dic kvs), .str s => dlook kvs (.inr s)
  | some (.dic kvs), .int i => dlook kvs (.inl i)
  | _, _ => none
/-- an end of a slice -/
def sEnd (n : Nat) (d : Nat) : Option Int → Nat
  | none => d
  | some i => if i < 0 then (i + n).toNat else min i.toNat n
def cutL {α : Type} (xs : List α) (lo hi : Option Int) : List α :=
  (xs.drop (sEnd xs.length 0 lo)).take (sEnd xs.length xs.length hi - sEnd xs.length 0 lo)
@[simp] def endD : Option D → Option (Option Int)
  | none => some none
  | some (.int i) => some (some i)
  | _ => none
def slcD (a : D) (lo hi : Option Int) : Option D :=
  match a with
  | .str s => if s.length ≤ L then some (.str (cutL s lo hi)) else none
  | _ => none
/-- the items that are walked -/
def rngD (a b : Int) : Option (List D) :=
  if a.natAbs < 1000000000 ∧ b.natAbs < 1000000000 then some ((List.range (b - a).toNat).map fun k => .int (a + (k : Nat))) else none
def keyD : DKey → D
  | .inl i => .int i
  | .inr s => .str s
def isKey : D → Option DKey
  | .int i => some (.inl i)
  | .str s => some (.inr s)
  | _ => none
def pairsD : List D → Option (List (DKey × D))
  | [] => some []
  | .tup [k, v] :: r => (isKey k).bind fun k => (pairsD r).map ((k, v) :: ·)
  | _ :: _ => none
/-- rising texts -/
def insS (s : S) : List S → List S
  | [] => [s]
  | t :: r => if ltS t s then t :: insS s r else s :: t :: r
def sortS : List S → List S
  | [] => []
  | s :: r => insS s (sortS r)

/-! ### runs -/
structure Orc where
  call : String → List D → Mem → Res D
  mkx : String → List D → Option Exn
  sub : String → String → Option Bool
  fuel : Nat
/-- the elements of a comprehension: nothing may be raised there -/
def compGo (f : D → Mem → Res (Option D)) : List D → List D → Mem → Res (List D)
  | acc, [], M => .ok acc M
  | acc, x :: r, M => match f x M with
    | .ok none M1 => compGo f acc r M1
    | .ok (some d) M1 => if acc.length < L then compGo f (acc ++ [d]) r M1 else .stuck
    | _ => .stuck
def asB : D → Mem → Res Bool
  | .bl b, M => .ok b M
  | _, _ => .stuck
@[simp] def wipeF (ρ : Fr) : List Nat → Fr
  | [] => ρ
  | v :: vs => (wipeF ρ vs).set v .no
@[simp] def setAll : List Nat → List D → Fr → Option Fr
  | [], [], ρ => some ρ
  | i :: is, d :: ds, ρ => setAll is ds (ρ.set i (.d d))
  | _, _, _ => none
@[simp] def bindT : TG' → D → Fr → Option Fr
  | .name i, d, ρ => some (ρ.set i (.d d))
  | .tup is, .tup ds, ρ => setAll is ds ρ
  | _, _, _ => none
/-- one turn of a comprehension -/
@[simp] def compF (g : TG') (ρ : Fr) (cond : Fr → Mem → Res Bool) (elt : Fr → Mem → Res D) (x : D) (M : Mem) : Res (Option D) :=
  match bindT g x (wipeF ρ g.slots) with
  | none => .stuck
  | some ρ1 => (cond ρ1 M).bind fun b M3 => if b = true then (elt ρ1 M3).bind fun y M4 => .ok (some y) M4 else .ok none M3
mutual
@[simp] def ev (C : Orc) : EX → Fr → Mem → Res D
  | .var i, ρ, M => match ρ[i]? with
    | some (.d d) => .ok d M
    | _ => .stuck
  | .peek i, ρ, M => match ρ[i]? with
    | some (.own d) => .ok d M
    | _ => .stuck
  | .c d, _, M => .ok d M
  | .bin o a b, ρ, M => (ev C a ρ M).bind fun x M1 => (ev C b ρ M1).bind fun y M2 => Res.of (binD o x y) M2
  | .neg a, ρ, M => (ev C a ρ M).bind fun x M1 => match x with
    | .int i => .ok (.int (-i)) M1
    | _ => .stuck
  | .not a, ρ, M => (ev C a ρ M).bind fun x M1 => (asB x M1).bind fun b M2 => .ok (.bl (!b)) M2
  | .cmp o a b, ρ, M => (ev C a ρ M).bind fun x M1 => (ev C b ρ M1).bind fun y M2 => (Res.of (cmpD o x y) M2).bind fun b M3 => .ok (.bl b) M3
  | .chain o o' a b c, ρ, M => (ev C a ρ M).bind fun x M1 => (ev C b ρ M1).bind fun y M2 => (Res.of (cmpD o x y) M2).bind fun k M3 =>
      if k = true then (ev C c ρ M3).bind fun z M4 => (Res.of (cmpD o' y z) M4).bind fun b M5 => .ok (.bl b) M5 else .ok (.bl false) M3
  | .and a b, ρ, M => (ev C a ρ M).bind fun x M1 => (asB x M1).bind fun k M2 => if k = true then (ev C b ρ M2).bind fun y M3 => (asB y M3).bind fun b M4 => .ok (.bl b) M4 else .ok (.bl false) M2
  | .or a b, ρ, M => (ev C a ρ M).bind fun x M1 => (asB x M1).bind fun k M2 => if k = true then .ok (.bl true) M2 else (ev C b ρ M2).bind fun y M3 => (asB y M3).bind fun b M4 => .ok (.bl b) M4
  | .ite c a b, ρ, M => (ev C c ρ M).bind fun x M1 => (asB x M1).bind fun k M2 => if k = true then ev C a ρ M2 else ev C b ρ M2
  | .isi a t, ρ, M => (ev C a ρ M).bind fun x M1 => match kindOf M1 x with
    | some u => .ok (.bl (u.sub t)) M1
    | none => .stuck
  | .call f args dfl, ρ, M => (evs C args ρ M).bind fun xs M1 => C.call f (xs ++ dfl) M1
  | .blt f a, ρ, M => (ev C a ρ M).bind fun x M1 => Res.of (bltD M1 f x) M1
  | .minD a b, ρ, M => (ev C a ρ M).bind fun x M1 => (ev C b ρ M1).bind fun y M2 => match x with
    | .lst xs => Res.of ((intsD xs).map fun ns => match ns.min? with | some m => D.int m | none => y) M2
    | _ => .stuck
  | .mth m o a, ρ, M => (ev C o ρ M).bind fun x M1 => match x with
    | .str s => (ev C a ρ M1).bind fun y M2 => Res.of (mthD m (.str s) y) M2
    | _ => .stuck
  | .idx a b, ρ, M => (ev C a ρ M).bind fun x M1 => (ev C b ρ M1).bind fun y M2 => Res.of (idxD M2 x y) M2
  | .slc a lo hi, ρ, M => (ev C a ρ M).bind fun x M1 => (evo C lo ρ M1).bind fun y M2 => (evo C hi ρ M2).bind fun z M3 => Res.of (slcD x y z) M3
  | .tup args, ρ, M => (evs C args ρ M).bind fun xs M1 => if xs.length ≤ L then .ok (.tup xs) M1 else .stuck
  | .frz f, ρ, M => evf C f ρ M
  | .alloc f, ρ, M => (evf C f ρ M).bind fun d M1 => .ok (.cell M1.length) (M1 ++ [d])
@[simp] def evo (C : Orc) : Option EX → Fr → Mem → Res (Option Int)
  | none, _, M => .ok none M
  | some a, ρ, M => (ev C a ρ M).bind fun x M1 => match x with
    | .int i => .ok (some i) M1
    | _ => .stuck
@[simp] def evc (C : Orc) : Option EX → Fr → Mem → Res Bool
  | none, _, M => .ok true M
  | some e, ρ, M => (ev C e ρ M).bind asB
@[simp] def evs (C : Orc) : EXs → Fr → Mem → Res (List D)
  | .nil, _, M => .ok [] M
  | .cons e r, ρ, M => (ev C e ρ M).bind fun x M1 => (evs C r ρ M1).bind fun xs M2 => .ok (x :: xs) M2
/-- a new object -/
@[simp] def evf (C : Orc) : FX → Fr → Mem → Res D
  | .lst args, ρ, M => (evs C args ρ M).bind fun xs M1 => if xs.length ≤ L then .ok (.lst xs) M1 else .stuck
  | .dic, _, M => .ok (.dic []) M
  | .comp g it cond elt, ρ, M => (evi C it ρ M).bind fun xs M1 => (compGo (compF g ρ (fun ρ1 M2 => evc C cond ρ1 M2) (fun ρ1 M2 => ev C elt ρ1 M2)) [] xs M1).bind fun ys M5 => .ok (.lst ys) M5
  | .compK g i cond elt, ρ, M => match ρ[i]? with
    | some (.d (.dic kvs)) => (compGo (compF g ρ (fun ρ1 M2 => evc C cond ρ1 M2) (fun ρ1 M2 => ev C elt ρ1 M2)) [] (kvs.map fun p => keyD p.1) M).bind fun ys M5 => .ok (.lst ys) M5
    | _ => .stuck
  | .sorted a, ρ, M => (ev C a ρ M).bind fun x M1 => match x with
    | .lst xs => Res.of ((strsD xs).map fun ss => .lst ((sortS ss).map .str)) M1
    | .dic kvs => Res.of ((strsD (kvs.map fun p => keyD p.1)).map fun ss => .lst ((sortS ss).map .str)) M1
    | _ => .stuck
  | .listOf a, ρ, M => (ev C a ρ M).bind fun x M1 => match x with
    | .lst xs => .ok (.lst xs) M1
    | .tup xs => .ok (.lst xs) M1
    | _ => .stuck
  | .dictOf a, ρ, M => (ev C a ρ M).bind fun x M1 => match x with
    | .lst xs => Res.of ((pairsD xs).map fun ps => .dic (ps.foldl (fun kvs p => dput kvs p.1 p.2) [])) M1
    | _ => .stuck
  | .cat a b, ρ, M => (ev C a ρ M).bind fun x M1 => (ev C b ρ M1).bind fun y M2 => match x, y with
    | .lst xs, .lst ys => if xs.length + ys.length ≤ L then .ok (.lst (xs ++ ys)) M2 else .stuck
    | _, _ => .stuck
  | .rep a b, ρ, M => (ev C a ρ M).bind fun x M1 => (ev C b ρ M1).bind fun y M2 => match x, y with
    | .lst xs, .int k => if xs.length * k.toNat ≤ L ∧ k.natAbs < 1000000000 then .ok (.lst (List.replicate k.toNat xs).flatten) M2 else .stuck
    | _, _ => .stuck
  | .slc a lo hi, ρ, M => (ev C a ρ M).bind fun x M1 => (evo C lo ρ M1).bind fun y M2 => (evo C hi ρ M2).bind fun z M3 => match x with
    | .lst xs => .ok (.lst (cutL xs y z)) M3
    | _ => .stuck
@[simp] def evi (C : Orc) : IX → Fr → Mem → Res (List D)
  | .rng1 a, ρ, M => (ev C a ρ M).bind fun x M1 => match x with
    | .int i => Res.of (rngD 0 i) M1
    | _ => .stuck
  | .rng2 a b, ρ, M => (ev C a ρ M).bind fun x M1 => (ev C b ρ M1).bind fun y M2 => match x, y with
    | .int i, .int j => Res.of (rngD i j) M2
    | _, _ => .stuck
  | .seq a, ρ, M => (ev C a ρ M).bind fun x M1 => match x with
    | .lst xs => .ok xs M1
    | .tup xs => .ok xs M1
    | _ => .stuck
  | .chars a, ρ, M => (ev C a ρ M).bind fun x M1 => match x with
    | .str s => .ok (s.map fun c => .str [c]) M1
    | _ => .stuck
end

inductive Flow where
  | next (ρ : Fr) (M : Mem)
  | ret (d : D) (M : Mem)
  | brk (ρ : Fr) (M : Mem)
  | cnt (ρ : Fr) (M : Mem)
  | exc (x : Exn) (ρ : Fr) (M : Mem)
  | stuck
/-- a value, then a statement's rest -/
def Res.fl {α : Type} (r : Res α) (ρ : Fr) (f : α → Mem → Flow) : Flow :=
  match r with
  | .ok a M => f a M
  | .exc x M => .exc x ρ M
  | .stuck => .stuck
@[simp] theorem Res.fl_ok {α : Type} {a : α} {M : Mem} {ρ : Fr} {f : α → Mem → Flow} : (Res.ok a M).fl ρ f = f a M := rfl
@[simp] theorem Res.fl_exc {α : Type} {x : Exn} {M : Mem} {ρ : Fr} {f : α → Mem → Flow} : (Res.exc x M : Res α).fl ρ f = .exc x ρ M := rfl
@[simp] theorem Res.fl_stuck {α : Type} {ρ : Fr} {f : α → Mem → Flow} : (Res.stuck : Res α).fl ρ f = .stuck := rfl
def Flow.seq (fl : Flow) (f : Fr → Mem → Flow) : Flow :=
  match fl with
  | .next ρ M => f ρ M
  | .ret d M => .ret d M
  | .brk ρ M => .brk ρ M
  | .cnt ρ M => .cnt ρ M
  | .exc x ρ M => .exc x ρ M
  | .stuck => .stuck
@[simp] theorem Flow.seq_next {ρ : Fr} {M : Mem} {f : Fr → Mem → Flow} : (Flow.next ρ M).seq f = f ρ M := rfl
@[simp] theorem Flow.seq_ret {d : D} {M : Mem} {f : Fr → Mem → Flow} : (Flow.ret d M).seq f = .ret d M := rfl
@[simp] theorem Flow.seq_brk {ρ : Fr} {M : Mem} {f : Fr → Mem → Flow} : (Flow.brk ρ M).seq f = .brk ρ M := rfl
@[simp] theorem Flow.seq_cnt {ρ : Fr} {M : Mem} {f : Fr → Mem → Flow} : (Flow.cnt ρ M).seq f = .cnt ρ M := rfl
@[simp] theorem Flow.seq_exc {x : Exn} {ρ : Fr} {M : Mem} {f : Fr → Mem → Flow} : (Flow.exc x ρ M).seq f = .exc x ρ M := rfl
@[simp] theorem Flow.seq_stuck {f : Fr → Mem → Flow} : Flow.stuck.seq f = .stuck := rfl
def forGo (f : D → Fr → Mem → Flow) : List D → Fr → Mem → Flow
  | [], ρ, M => .next ρ M
  | x :: r, ρ, M => match f x ρ M with
    | .next ρ1 M1 => forGo f r ρ1 M1
    | .cnt ρ1 M1 => forGo f r ρ1 M1
    | .brk ρ1 M1 => .next ρ1 M1
    | .ret d M1 => .ret d M1
    | .exc x ρ1 M1 => .exc x ρ1 M1
    | .stuck => .stuck
/-- while True -/
def loopGo (f : Fr → Mem → Flow) : Nat → Fr → Mem → Flow
  | 0, _, _ => .stuck
  | n + 1, ρ, M => match f ρ M with
    | .next ρ1 M1 => loopGo f n ρ1 M1
    | .cnt ρ1 M1 => loopGo f n ρ1 M1
    | .brk ρ1 M1 => .next ρ1 M1
    | .ret d M1 => .ret d M1
    | .exc x ρ1 M1 => .exc x ρ1 M1
    | .stuck => .stuck
/-- in its place, or at the end -/
def dputA (kvs : List (DKey × D)) (k : DKey) (v : D) : List (DKey × D) :=
  if (kvs.any fun p => decide (p.1 = k)) = true then kvs.map (fun p => if p.1 = k then (p.1, v) else p) else kvs ++ [(k, v)]
@[simp] def augD : BOp → D → D → Option D
  | .add, .int i, .int j => some (.int (i + j))
  | .sub, .int i, .int j => some (.int (i - j))
  | _, _, _ => none
/-- o[k] = v in an own thing -/
def putIn : D → D → D → Option D
  | .lst xs, .int i, v => (ixD xs.length i).map fun j => .lst (xs.set j v)
  | .dic kvs, .int i, v => if kvs.length < L then some (.dic (dputA kvs (.inl i) v)) else none
  | .dic kvs, .str s, v => if kvs.length < L then some (.dic (dputA kvs (.inr s) v)) else none
  | _, _, _ => none
def pushIn : D → D → Option D
  | .lst xs, v => if xs.length < L then some (.lst (xs ++ [v])) else none
  | _, _ => none
/-- change what stands at an own slot or a cell -/
@[simp] def change (p : EX) (f : D → Option D) (C : Orc) (ρ : Fr) (M : Mem) : Flow :=
  match p with
  | .peek i => match ρ[i]? with
    | some (.own d) => match f d with
      | some d' => .next (ρ.set i (.own d')) M
      | none => .stuck
    | _ => .stuck
  | .var i => match ρ[i]? with
    | some (.d (.cell c)) => match M[c]? with
      | some d => match f d with
        | some d' => .next ρ (M.set c d')
        | none => .stuck
      | none => .stuck
    | _ => .stuck
  | _ => .stuck
@[simp] def storeAll (C : Orc) : List TX → List D → Fr → Mem → Flow
  | [], [], ρ, M => .next ρ M
  | .name i :: ts, d :: ds, ρ, M => storeAll C ts ds (ρ.set i (.d d)) M
  | .item i k :: ts, d :: ds, ρ, M => (ev C (.peek i) ρ M).fl ρ fun _ M0 => (ev C k ρ M0).fl ρ fun kd M1 => (change (.peek i) (fun o => putIn o kd d) C ρ M1).seq fun ρ2 M2 => storeAll C ts ds ρ2 M2
  | _, _, _, _ => .stuck
mutual
@[simp] def ex (C : Orc) : SX → Fr → Mem → Flow
  | .pass, ρ, M => .next ρ M
  | .set i e, ρ, M => (ev C e ρ M).fl ρ fun d M1 => .next (ρ.set i (.d d)) M1
  | .own i f, ρ, M => (evf C f ρ M).fl ρ fun d M1 => .next (ρ.set i (.own d)) M1
  | .frz i, ρ, M => match ρ[i]? with
    | some (.own d) => .next (ρ.set i (.d d)) M
    | _ => .stuck
  | .unpack ts e, ρ, M => (ev C e ρ M).fl ρ fun d M1 => match d with
    | .tup xs => if xs.length = ts.length then storeAll C ts xs ρ M1 else .stuck
    | _ => .stuck
  | .append p e, ρ, M => (ev C p ρ M).fl ρ fun d0 M0 => match con M0 d0 with
    | some (.lst _) => (ev C e ρ M0).fl ρ fun d M1 => change p (fun o => pushIn o d) C ρ M1
    | _ => .stuck
  | .setit p k e, ρ, M => (ev C e ρ M).fl ρ fun d M1 => (ev C p ρ M1).fl ρ fun _ M0 => (ev C k ρ M0).fl ρ fun kd M2 => change p (fun o => putIn o kd d) C ρ M2
  | .aug i o e, ρ, M => match ρ[i]? with
    | some (.d x) => (ev C e ρ M).fl ρ fun y M1 => match augD o x y with
      | some d => .next (ρ.set i (.d d)) M1
      | none => .stuck
    | _ => .stuck
  | .expr e, ρ, M => (ev C e ρ M).fl ρ fun _ M1 => .next ρ M1
  | .ret e, ρ, M => (ev C e ρ M).fl ρ fun d M1 => .ret d M1
  | .raise c args, ρ, M => (evs C args ρ M).fl ρ fun xs M1 => match C.mkx c xs with
    | some x => .exc x ρ M1
    | none => .stuck
  | .ite c a b, ρ, M => (ev C c ρ M).fl ρ fun d M1 => (asB d M1).fl ρ fun k M2 => if k = true then exs C a ρ M2 else exs C b ρ M2
  | .forr g it body, ρ, M => (evi C it ρ M).fl ρ fun xs M1 => forGo (fun x ρ M => match bindT g x ρ with
      | none => .stuck
      | some ρ1 => exs C body ρ1 M) xs ρ M1
  | .loop c body, ρ, M => loopGo (fun ρ M => (ev C c ρ M).fl ρ fun d M1 => (asB d M1).fl ρ fun k M2 => if k = true then exs C body ρ M2 else .brk ρ M2) C.fuel ρ M
  | .brk, ρ, M => .brk ρ M
  | .cnt, ρ, M => .cnt ρ M
  | .tryF body cls i j field, ρ, M => match exs C body ρ M with
    | .exc x ρ1 M1 => match C.sub x.cls cls with
      | some true => (match x.fs.lookup field with
        | some d => if i < ρ1.length then .next (((ρ1.set i .no).set j (.d d)).set i .no) M1 else .stuck
        | none => .stuck)
      | some false => .exc x ρ1 M1
      | none => .stuck
    | fl => fl
@[simp] def exs (C : Orc) : SXs → Fr → Mem → Flow
  | .nil, ρ, M => .next ρ M
  | .cons s r, ρ, M => (ex C s ρ M).seq fun ρ1 M1 => exs C r ρ1 M1
end

structure Def where
  np : Nat
  nl : Nat
  body : SXs
abbrev Tab := String → Option Def
def Flow.res : Flow → Res D
  | .next _ M => .ok .non M
  | .ret d M => .ok d M
  | .exc x _ M => .exc x M
  | _ => .stuck
structure Txs where
  T : Tab
  mkx : String → List D → Option Exn
  sub : String → String → Option Bool
  fuel : Nat
@[simp] def start (d : Def) (args : List D) : Fr := args.map .d ++ List.replicate (d.nl - args.length) .no
def callN (G : Txs) : Nat → String → List D → Mem → Res D
  | 0, _, _, _ => .stuck
  | k + 1, f, args, M => match G.T f with
    | some d => if args.length = d.np then (exs ⟨callN G k, G.mkx, G.sub, G.fuel⟩ d.body (start d args) M).res else .stuck
    | none => .stuck
abbrev orc (G : Txs) (k : Nat) : Orc := ⟨callN G k, G.mkx, G.sub, G.fuel⟩
end Lp

set_option Elab.async false
set_option linter.all false
set_option maxRecDepth 100000
set_option maxHeartbeats 1000000
namespace Lp
open PySem L2
abbrev Frag := PySem.W.Frag
/-- a text as the model has it -/
def tx (s : S) : Str := ⟨s.toArray⟩
theorem tx_inj {s t : S} (h : tx s = tx t) : s = t := by
  have e : (tx s).cps.toList = (tx t).cps.toList := by rw [h]
  simpa [tx] using e
theorem tx_length (s : S) : (tx s).length = s.length := by simp [tx, Str.length]
theorem tx_app (s t : S) : tx s ++ tx t = tx (s ++ t) := by
  show Str.append (tx s) (tx t) = tx (s ++ t)
  simp [tx, Str.append]
def kT : DKey → Key
  | .inl i => .inl i
  | .inr s => .inr (tx s)
theorem kT_inj {a b : DKey} (h : kT a = kT b) : a = b := by
  cases a <;> cases b <;> simp only [kT, Sum.inl.injEq, Sum.inr.injEq, reduceCtorEq] at h ⊢
  · exact h
  · exact tx_inj h
/-- a view: the cells' places, what stands still -/
structure Vw where
  n : Nat
  φ : Nat → Addr
  G : Hp
mutual
/-- the value v is the datum d -/
inductive Rep (K : Frag) (w : Vw) : V → D → Prop
  | non : Rep K w .non .non
  | bl (b : Bool) : Rep K w (.bl b) (.bl b)
  | int (i : Int) : Rep K w (.int i) (.int i)
  | str (s : S) : Rep K w (.str (tx s)) (.str s)
  | lst {a : Addr} {vs : List V} {xs : List D} : SqL K w.G a vs → Reps K w vs xs → Rep K w (.ref a) (.lst xs)
  | tup {a : Addr} {vs : List V} {xs : List D} : SqT K w.G a vs → Reps K w vs xs → Rep K w (.ref a) (.tup xs)
  | dic {a : Addr} {vs : List (Key × V)} {xs : List (DKey × D)} : Rd w.G a (.dK vs) → RepK K w vs xs → Rep K w (.ref a) (.dic xs)
  | cell {c : Nat} : c < w.n → Rep K w (.ref (w.φ c)) (.cell c)
inductive Reps (K : Frag) (w : Vw) : List V → List D → Prop
  | nil : Reps K w [] []
  | cons {v : V} {vs : List V} {d : D} {ds : List D} : Rep K w v d → Reps K w vs ds → Reps K w (v :: vs) (d :: ds)
inductive RepK (K : Frag) (w : Vw) : List (Key × V) → List (DKey × D) → Prop
  | nil : RepK K w [] []
  | cons {k : DKey} {v : V} {vs : List (Key × V)} {d : D} {ds : List (DKey × D)} : Rep K w v d → RepK K w vs ds → RepK K w ((kT k, v) :: vs) ((k, d) :: ds)
end
/-- what is asked of a new view: all that was read may be read -/
structure Ge (w w' : Vw) : Prop where
  nn : w.n ≤ w'.n
  ph : ∀ c, c < w.n → w'.φ c = w.φ c
  lst : ∀ a vs, Rd w.G a (.lst vs) → Rd w'.G a (.lst vs)
  tup : ∀ a vs, Rd w.G a (.tup vs) → Rd w'.G a (.tup vs)
  dic : ∀ a vs, Rd w.G a (.dK vs) → Rd w'.G a (.dK vs)
theorem SqL.ge {K : Frag} {w w' : Vw} (g : Ge w w') {a : Addr} {vs : List V} (h : SqL K w.G a vs) : SqL K w'.G a vs := by
  rcases h with h | h
  · exact .inl (g.lst a vs h)
  · exact .inr h
theorem SqT.ge {K : Frag} {w w' : Vw} (g : Ge w w') {a : Addr} {vs : List V} (h : SqT K w.G a vs) : SqT K w'.G a vs := by
  rcases h with h | h
  · exact .inl (g.tup a vs h)
  · exact .inr h
mutual
theorem Rep.ge {K : Frag} {w w' : Vw} (g : Ge w w') : ∀ {v : V} {d : D}, Rep K w v d → Rep K w' v d
  | _, _, .non => .non
  | _, _, .bl b => .bl b
  | _, _, .int i => .int i
  | _, _, .str s => .str s
  | _, _, .lst h r => .lst (SqL.ge g h) (Reps.ge g r)
  | _, _, .tup h r => .tup (SqT.ge g h) (Reps.ge g r)
  | _, _, .dic h r => .dic (g.dic _ _ h) (RepK.ge g r)
  | _, _, .cell h => by rw [← g.ph _ h]; exact .cell (Nat.lt_of_lt_of_le h g.nn)
theorem Reps.ge {K : Frag} {w w' : Vw} (g : Ge w w') : ∀ {v : List V} {d : List D}, Reps K w v d → Reps K w' v d
  | _, _, .nil => .nil
  | _, _, .cons h r => .cons (Rep.ge g h) (Reps.ge g r)
theorem RepK.ge {K : Frag} {w w' : Vw} (g : Ge w w') : ∀ {v : List (Key × V)} {d : List (DKey × D)}, RepK K w v d → RepK K w' v d
  | _, _, .nil => .nil
  | _, _, .cons h r => .cons (Rep.ge g h) (RepK.ge g r)
end
theorem Reps.length {K : Frag} {w : Vw} : ∀ {v : List V} {d : List D}, Reps K w v d → v.length = d.length
  | _, _, .nil => rfl
  | _, _, .cons _ r => congrArg Nat.succ r.length
theorem RepK.length {K : Frag} {w : Vw} : ∀ {v : List (Key × V)} {d : List (DKey × D)}, RepK K w v d → v.length = d.length
  | _, _, .nil => rfl
  | _, _, .cons _ r => congrArg Nat.succ r.length
theorem Reps.append {K : Frag} {w : Vw} : ∀ {v v' : List V} {d d' : List D}, Reps K w v d → Reps K w v' d' → Reps K w (v ++ v') (d ++ d')
  | _, _, _, _, .nil, s => s
  | _, _, _, _, .cons h r, s => .cons h (r.append s)
theorem Reps.get {K : Frag} {w : Vw} : ∀ {v : List V} {d : List D} {i : Nat} {x : D}, Reps K w v d → d[i]? = some x → ∃ u, v[i]? = some u ∧ Rep K w u x
  | _, _, _, _, .nil, e => by simp at e
  | _, _, 0, _, .cons h _, e => by simp at e; subst e; exact ⟨_, rfl, h⟩
  | _, _, i + 1, _, .cons _ r, e => by
    obtain ⟨u, h1, h2⟩ := r.get (i := i) (by simpa using e)
    exact ⟨u, by simpa using h1, h2⟩
theorem Reps.get' {K : Frag} {w : Vw} : ∀ {v : List V} {d : List D} {i : Nat} {u : V}, Reps K w v d → v[i]? = some u → ∃ x, d[i]? = some x ∧ Rep K w u x
  | _, _, _, _, .nil, e => by simp at e
  | _, _, 0, _, .cons h _, e => by simp at e; subst e; exact ⟨_, rfl, h⟩
  | _, _, i + 1, _, .cons _ r, e => by
    obtain ⟨u, h1, h2⟩ := r.get' (i := i) (by simpa using e)
    exact ⟨u, by simpa using h1, h2⟩
theorem Reps.set {K : Frag} {w : Vw} {u : V} {x : D} (q : Rep K w u x) : ∀ {v : List V} {d : List D} (i : Nat), Reps K w v d → Reps K w (v.set i u) (d.set i x)
  | _, _, _, .nil => .nil
  | _, _, 0, .cons _ r => .cons q r
  | _, _, i + 1, .cons h r => .cons h (r.set q i)
theorem Reps.take {K : Frag} {w : Vw} : ∀ {v : List V} {d : List D} (n : Nat), Reps K w v d → Reps K w (v.take n) (d.take n)
  | _, _, 0, _ => .nil
  | _, _, _ + 1, .nil => .nil
  | _, _, n + 1, .cons h r => .cons h (r.take n)
theorem Reps.drop {K : Frag} {w : Vw} : ∀ {v : List V} {d : List D} (n : Nat), Reps K w v d → Reps K w (v.drop n) (d.drop n)
  | _, _, 0, r => r
  | _, _, _ + 1, .nil => .nil
  | _, _, n + 1, .cons _ r => r.drop n
/-- all that stood and is not ours stands, all that we had we have -/
structure Ext (w : Vw) (H : Hp) (w' : Vw) (H' : Hp) : Prop where
  nn : w.n ≤ w'.n
  ph : ∀ c, c < w.n → w'.φ c = w.φ c
  gg : ∀ a o, w.G a = some o → w'.G a = some o
  th : ∀ a, H' a = none → H a = none
  fr : ∀ a o, H a = some o → w.G a = none → (∀ c, c < w.n → w.φ c ≠ a) → H' a = some o ∧ w'.G a = none ∧ ∀ c, c < w'.n → w'.φ c ≠ a
theorem Rd.ext {w w' : Vw} (g : ∀ a o, w.G a = some o → w'.G a = some o) {a : Addr} {u : HO} (h : Rd w.G a u) : Rd w'.G a u := by
  rcases h with h | ⟨o, h⟩
  · exact .inl (g a _ h)
  · exact .inr ⟨o, g a _ h⟩
theorem Ext.ge {w w' : Vw} {H H' : Hp} (e : Ext w H w' H') : Ge w w' :=
  ⟨e.nn, e.ph, fun _ _ h => Rd.ext e.gg h, fun _ _ h => Rd.ext e.gg h, fun _ _ h => Rd.ext e.gg h⟩
theorem Ext.refl (w : Vw) (H : Hp) : Ext w H w H := ⟨Nat.le_refl _, fun _ _ => rfl, fun _ _ h => h, fun _ h => h, fun _ _ h1 h2 h3 => ⟨h1, h2, h3⟩⟩
theorem Ext.trans {w w' w2 : Vw} {H H' H2 : Hp} (a : Ext w H w' H') (b : Ext w' H' w2 H2) : Ext w H w2 H2 :=
  ⟨Nat.le_trans a.nn b.nn, fun c h => (b.ph c (Nat.lt_of_lt_of_le h a.nn)).trans (a.ph c h), fun x o h => b.gg x o (a.gg x o h), fun x h => a.th x (b.th x h), fun x o h1 h2 h3 => by
    obtain ⟨q1, q2, q3⟩ := a.fr x o h1 h2 h3
    exact b.fr x o q1 q2 q3⟩
theorem Rep.ext {K : Frag} {w w' : Vw} {H H' : Hp} {v : V} {d : D} (h : Rep K w v d) (e : Ext w H w' H') : Rep K w' v d := h.ge e.ge
theorem Reps.ext {K : Frag} {w w' : Vw} {H H' : Hp} {v : List V} {d : List D} (h : Reps K w v d) (e : Ext w H w' H') : Reps K w' v d := h.ge e.ge
theorem RepK.ext {K : Frag} {w w' : Vw} {H H' : Hp} {v : List (Key × V)} {d : List (DKey × D)} (h : RepK K w v d) (e : Ext w H w' H') : RepK K w' v d := h.ge e.ge
/-- an object that may be changed, its content -/
inductive CR (K : Frag) (w : Vw) : HO → D → Prop
  | lst {vs : List V} {xs : List D} : Reps K w vs xs → CR K w (.lst vs) (.lst xs)
  | dic {vs : List (Key × V)} {xs : List (DKey × D)} : RepK K w vs xs → CR K w (.dK vs) (.dic xs)
theorem CR.ge {K : Frag} {w w' : Vw} (g : Ge w w') {o : HO} {d : D} (h : CR K w o d) : CR K w' o d := by
  cases h with
  | lst r => exact .lst (r.ge g)
  | dic r => exact .dic (r.ge g)
/-- the state -/
structure SR (K : Frag) (M : Mem) (w : Vw) (H : Hp) : Prop where
  len : M.length = w.n
  sub : ∀ a o, w.G a = some o → H a = some o
  there : ∀ c, c < w.n → ∃ o, H (w.φ c) = some o
  cel : ∀ (c : Nat) (d : D), M[c]? = some d → d ≠ .non → w.G (w.φ c) = none ∧ ∃ o, H (w.φ c) = some o ∧ CR K w o d
  inj : ∀ (c c' : Nat) (d d' : D), M[c]? = some d → M[c']? = some d' → d ≠ .non → d' ≠ .non → w.φ c = w.φ c' → c = c'
theorem SqL.sub {K : Frag} {M : Mem} {w : Vw} {H : Hp} (s : SR K M w H) {a : Addr} {vs : List V} (h : SqL K w.G a vs) : SqL K H a vs := by
  rcases h with (h | ⟨o, h⟩) | h
  · exact .inl (.inl (s.sub _ _ h))
  · exact .inl (.inr ⟨o, s.sub _ _ h⟩)
  · exact .inr h
theorem SqT.sub {K : Frag} {M : Mem} {w : Vw} {H : Hp} (s : SR K M w H) {a : Addr} {vs : List V} (h : SqT K w.G a vs) : SqT K H a vs := by
  rcases h with (h | ⟨o, h⟩) | h
  · exact .inl (.inl (s.sub _ _ h))
  · exact .inl (.inr ⟨o, s.sub _ _ h⟩)
  · exact .inr h
theorem Rd.sub {K : Frag} {M : Mem} {w : Vw} {H : Hp} (s : SR K M w H) {a : Addr} {u : HO} (h : Rd w.G a u) : Rd H a u := by
  rcases h with h | ⟨o, h⟩
  · exact .inl (s.sub _ _ h)
  · exact .inr ⟨o, s.sub _ _ h⟩
/-- an own object -/
structure Own (K : Frag) (w : Vw) (H : Hp) (a : Addr) (d : D) : Prop where
  free : w.G a = none
  nocell : ∀ c, c < w.n → w.φ c ≠ a
  ob : ∃ o, H a = some o ∧ CR K w o d
theorem Own.ext {K : Frag} {w w' : Vw} {H H' : Hp} {a : Addr} {d : D} (h : Own K w H a d) (e : Ext w H w' H') : Own K w' H' a d := by
  obtain ⟨o, h1, h2⟩ := h.ob
  obtain ⟨q1, q2, q3⟩ := e.fr a o h1 h.free h.nocell
  exact ⟨q2, q3, o, q1, h2.ge e.ge⟩
/-- a slot -/
inductive SlR (K : Frag) (H0 : Hp) (w : Vw) (H : Hp) : Option (Option V) → Sl → Prop
  | no (x : Option (Option V)) : SlR K H0 w H x .no
  | d {v : V} {d : D} : Rep K w v d → SlR K H0 w H (some (some v)) (.d d)
  | own {a : Addr} {d : D} : Own K w H a d → H0 a = none → SlR K H0 w H (some (some (.ref a))) (.own d)
theorem SlR.ext {K : Frag} {H0 : Hp} {w w' : Vw} {H H' : Hp} {x : Option (Option V)} {s : Sl} (h : SlR K H0 w H x s) (e : Ext w H w' H') : SlR K H0 w' H' x s := by
  cases h with
  | no => exact .no _
  | d r => exact .d (r.ext e)
  | own r n => exact .own (r.ext e) n
/-- the frame -/
structure EnvR (K : Frag) (H0 : Hp) (w : Vw) (H : Hp) (σ : St) (ρ : Fr) : Prop where
  len : σ.length = ρ.length
  at_ : ∀ (i : Nat) (s : Sl), ρ[i]? = some s → SlR K H0 w H σ[i]? s
  dis : ∀ (i j : Nat) (d e : D) (a : Addr), i ≠ j → ρ[i]? = some (.own d) → ρ[j]? = some (.own e) → σ[i]? = some (some (.ref a)) → σ[j]? ≠ some (some (.ref a))
theorem EnvR.ext {K : Frag} {H0 : Hp} {w w' : Vw} {H H' : Hp} {σ : St} {ρ : Fr} (h : EnvR K H0 w H σ ρ) (e : Ext w H w' H') : EnvR K H0 w' H' σ ρ :=
  ⟨h.len, fun i s q => (h.at_ i s q).ext e, h.dis⟩
/-- an exception as the model has it -/
structure XR (K : Frag) (ca : String → Value) (w : Vw) (H : Hp) (x : Exn) (cls : Value) (dx : Option Addr) : Prop where
  cl : cls = ca x.cls
  fs : ∃ dd fs, dx = some dd ∧ H dd = some (.xd fs) ∧ ∀ f d, x.fs.lookup f = some d → ∃ v, fs.lookup (tx f) = some v ∧ Rep K w v d
  old : ∀ dd, dx = some dd → w.G dd = none ∧ ∀ c, c < w.n → w.φ c ≠ dd

/-! ### what is wanted behind a run -/
section
variable (K : Frag) (ca : String → Value)
def Post {α β : Type} (R : Vw → Hp → β → α → Prop) (W : WX) (w : Vw) (H : Hp) (σ : St) (r : Res α) (Q : β → Hp → Prop) : Prop :=
  match r with
  | .ok d M' => ∀ v w' H', Ext w H w' H' → SR K M' w' H' → R w' H' v d → Q v H'
  | .exc x M' => ∀ cls dx w' H', Ext w H w' H' → SR K M' w' H' → XR K ca w' H' x cls dx → W cls dx σ H'
  | .stuck => False
/-- behind statements: w0, H0 stood at the entry -/
def PostS (W : WX) (w0 : Vw) (H0 : Hp) (fl : Flow) (E : Ends) : Prop :=
  match fl with
  | .next ρ M => ∀ σ' w' H', Ext w0 H0 w' H' → SR K M w' H' → EnvR K H0 w' H' σ' ρ → E.nx σ' H'
  | .ret d M => ∀ v w' H', Ext w0 H0 w' H' → SR K M w' H' → Rep K w' v d → E.rt v H'
  | .brk ρ M => ∀ σ' w' H', Ext w0 H0 w' H' → SR K M w' H' → EnvR K H0 w' H' σ' ρ → E.bk σ' H'
  | .cnt ρ M => ∀ σ' w' H', Ext w0 H0 w' H' → SR K M w' H' → EnvR K H0 w' H' σ' ρ → E.ct σ' H'
  | .exc x ρ M => ∀ cls dx σ' w' H', Ext w0 H0 w' H' → SR K M w' H' → EnvR K H0 w' H' σ' ρ → XR K ca w' H' x cls dx → W cls dx σ' H'
  | .stuck => False
end
section
variable {K : Frag} {ca : String → Value} {α β γ δ : Type} {R : Vw → Hp → β → α → Prop} {R' : Vw → Hp → δ → γ → Prop} {W : WX} {w w' : Vw} {H H' : Hp} {σ : St}
theorem Post.ext {r : Res α} {Q : β → Hp → Prop} (h : Post K ca R W w H σ r Q) (e : Ext w H w' H') : Post K ca R W w' H' σ r Q := by
  cases r with
  | ok d M => intro v w2 H2 e2 s q; exact h v w2 H2 (e.trans e2) s q
  | exc x M => intro cls dx w2 H2 e2 s q; exact h cls dx w2 H2 (e.trans e2) s q
  | stuck => exact h
theorem Post.imp {r : Res α} {Q Q' : β → Hp → Prop} (h : Post K ca R W w H σ r Q) (hq : ∀ v H', Q v H' → Q' v H') : Post K ca R W w H σ r Q' := by
  cases r with
  | ok d M => intro v w2 H2 e2 s q; exact hq _ _ (h v w2 H2 e2 s q)
  | exc x M => exact h
  | stuck => exact h
/-- a run, then another -/
theorem Post.bind {r : Res α} {f : α → Mem → Res γ} {Q : δ → Hp → Prop} (h : Post K ca R' W w H σ (r.bind f) Q) :
    Post K ca R W w H σ r (fun v H1 => ∃ w1 M1 d, Ext w H w1 H1 ∧ SR K M1 w1 H1 ∧ R w1 H1 v d ∧ Post K ca R' W w1 H1 σ (f d M1) Q) := by
  cases r with
  | ok d M => intro v w2 H2 e2 s q; exact ⟨w2, M, d, e2, s, q, Post.ext (r := f d M) h e2⟩
  | exc x M => exact h
  | stuck => exact h
theorem Post.fl {w0 : Vw} {H0 : Hp} {r : Res α} {ρ : Fr} {f : α → Mem → Flow} {E : Ends} (x : Ext w0 H0 w H) (en : EnvR K H0 w H σ ρ) (h : PostS K ca W w0 H0 (r.fl ρ f) E) :
    Post K ca R W w H σ r (fun v H1 => ∃ w1 M1 d, Ext w H w1 H1 ∧ SR K M1 w1 H1 ∧ R w1 H1 v d ∧ PostS K ca W w0 H0 (f d M1) E) := by
  cases r with
  | ok d M => intro v w2 H2 e2 s q; exact ⟨w2, M, d, e2, s, q, h⟩
  | exc y M => intro cls dx w2 H2 e2 s q; exact h cls dx σ w2 H2 (x.trans e2) s (en.ext e2) q
  | stuck => exact h
theorem PostS.seq {w0 : Vw} {H0 : Hp} {fl : Flow} {f : Fr → Mem → Flow} {E : Ends} (h : PostS K ca W w0 H0 (fl.seq f) E) :
    PostS K ca W w0 H0 fl { E with nx := fun σ1 H1 => ∃ w1 M1 ρ1, Ext w0 H0 w1 H1 ∧ SR K M1 w1 H1 ∧ EnvR K H0 w1 H1 σ1 ρ1 ∧ PostS K ca W w0 H0 (f ρ1 M1) E } := by
  cases fl with
  | next ρ M => intro σ' w2 H2 e2 s q; exact ⟨w2, M, ρ, e2, s, q, h⟩
  | ret d M => exact h
  | brk ρ M => exact h
  | cnt ρ M => exact h
  | exc y ρ M => exact h
  | stuck => exact h
theorem Post.of {o : Option α} {M : Mem} {Q : β → Hp → Prop} (h : Post K ca R W w H σ (Res.of o M) Q) : ∃ d, o = some d ∧ Post K ca R W w H σ (.ok d M) Q := by
  cases o with
  | none => exact h.elim
  | some d => exact ⟨d, rfl, h⟩
/-- the end of a run -/
theorem Post.done {d : α} {M : Mem} {Q : β → Hp → Prop} (h : Post K ca R W w H σ (.ok d M) Q) {v : β} (s : SR K M w H) (r : R w H v d) : Q v H := h v w H (Ext.refl _ _) s r
end

/-! ### new objects -/
section
variable {K : Frag} {M : Mem} {w w' : Vw} {H H' : Hp} {p : Addr} {o : HO} {d : D}
def Vw.add (w : Vw) (p : Addr) (o : HO) : Vw := { w with G := upd w.G p o }
theorem SR.fresh (s : SR K M w H) (hp : H p = none) : w.G p = none := by
  cases e : w.G p with
  | none => rfl
  | some u => rw [s.sub _ _ e] at hp; cases hp
theorem SR.nocell (s : SR K M w H) (hp : H p = none) : ∀ c, c < w.n → w.φ c ≠ p := fun c hc e => by
  obtain ⟨o, h⟩ := s.there c hc
  rw [e, hp] at h; cases h
theorem upd_none {H : Hp} {p a : Addr} {o : HO} (h : upd H p o a = none) : a ≠ p ∧ H a = none := by
  by_cases e : a = p
  · subst e; rw [upd_same] at h; cases h
  · rw [upd_ne e] at h; exact ⟨e, h⟩
/-- an object is laid -/
theorem Ext.laid (s : SR K M w H) (hp : H p = none) : Ext w H w (upd H p o) :=
  ⟨Nat.le_refl _, fun _ _ => rfl, fun _ _ h => h, fun a h => (upd_none h).2, fun a u h1 h2 h3 => ⟨by rw [upd_ne (ne_of_none h1 hp)]; exact h1, h2, h3⟩⟩
theorem SR.laid (s : SR K M w H) (hp : H p = none) : SR K M w (upd H p o) :=
  ⟨s.len, fun a u h => by rw [upd_ne (ne_of_none (s.sub _ _ h) hp)]; exact s.sub _ _ h, fun c hc => by
    rw [upd_ne (s.nocell hp c hc)]; exact s.there c hc, fun c d h n => by
    obtain ⟨h1, u, h2, h3⟩ := s.cel c d h n
    exact ⟨h1, u, by rw [upd_ne (ne_of_none h2 hp)]; exact h2, h3⟩, s.inj⟩
theorem Own.laid (s : SR K M w H) (hp : H p = none) (c : CR K w o d) : Own K w (upd H p o) p d := ⟨s.fresh hp, s.nocell hp, o, upd_same, c⟩
/-- an own object stands still from now on -/
theorem Ge.add (g : w.G p = none) : Ge w (w.add p o) := by
  have k : ∀ a u, w.G a = some u → (upd w.G p o) a = some u := fun a u h => by rw [upd_ne (ne_of_none h g)]; exact h
  exact ⟨Nat.le_refl _, fun _ _ => rfl, fun a vs h => Rd.ext (w' := w.add p o) k h, fun a vs h => Rd.ext (w' := w.add p o) k h, fun a vs h => Rd.ext (w' := w.add p o) k h⟩
theorem SR.frz (s : SR K M w H) (ow : Own K w H p d) : ∃ o, H p = some o ∧ SR K M (w.add p o) H ∧ Rep K (w.add p o) (.ref p) d := by
  obtain ⟨o, h1, h2⟩ := ow.ob
  refine ⟨o, h1, ⟨s.len, fun a u h => ?_, s.there, fun c d h n => ?_, s.inj⟩, ?_⟩
  · by_cases e : a = p
    · subst e
      have h' : upd w.G a o a = some u := h
      rw [upd_same] at h'; cases h'; exact h1
    · have h' : upd w.G p o a = some u := h
      rw [upd_ne e] at h'; exact s.sub _ _ h'
  · obtain ⟨q1, u, q2, q3⟩ := s.cel c d h n
    have hc : c < w.n := by rw [← s.len]; exact (List.getElem?_eq_some_iff.mp h).1
    refine ⟨?_, u, q2, q3.ge (Ge.add ow.free)⟩
    show upd w.G p o (w.φ c) = none
    rw [upd_ne (ow.nocell c hc)]; exact q1
  · have e : (w.add p o).G p = some o := upd_same
    have g := Ge.add (o := o) ow.free
    cases h2 with
    | lst r => exact .lst (SqL.of e) (r.ge g)
    | dic r => exact .dic (.inl e) (r.ge g)
theorem Ext.frz (x : Ext w H w' H') (ow : Own K w' H' p d) (hp : H p = none) : Ext w H (w'.add p o) H' :=
  ⟨x.nn, x.ph, fun a u h => by
    have q := x.gg a u h
    show upd w'.G p o a = some u
    rw [upd_ne (ne_of_none q ow.free)]; exact q, x.th, fun a u h1 h2 h3 => by
    obtain ⟨q1, q2, q3⟩ := x.fr a u h1 h2 h3
    refine ⟨q1, ?_, q3⟩
    show upd w'.G p o a = none
    rw [upd_ne (ne_of_none h1 hp)]; exact q2⟩
/-- a new object that stands still -/
theorem new_frz (s : SR K M w H) (hp : H p = none) (c : CR K w o d) : Ext w H (w.add p o) (upd H p o) ∧ SR K M (w.add p o) (upd H p o) ∧ Rep K (w.add p o) (.ref p) d := by
  have ow := Own.laid s hp c
  obtain ⟨o', h1, h2, h3⟩ := (s.laid hp).frz ow
  rw [upd_same] at h1; cases h1
  exact ⟨(Ext.laid s hp).frz ow hp, h2, h3⟩
theorem new_tup (s : SR K M w H) (hp : H p = none) {vs : List V} {xs : List D} (r : Reps K w vs xs) :
    Ext w H (w.add p (.tup vs)) (upd H p (.tup vs)) ∧ SR K M (w.add p (.tup vs)) (upd H p (.tup vs)) ∧ Rep K (w.add p (.tup vs)) (.ref p) (.tup xs) := by
  have s1 := s.laid (o := .tup vs) hp
  have g := Ge.add (o := HO.tup vs) (s.fresh hp)
  refine ⟨⟨Nat.le_refl _, fun _ _ => rfl, fun a u h => ?_, fun a h => (upd_none h).2, fun a u h1 h2 h3 => ⟨?_, ?_, h3⟩⟩, ⟨s.len, fun a u h => ?_, s1.there, fun c d h n => ?_, s.inj⟩, .tup (SqT.of upd_same) (r.ge g)⟩
  · show upd w.G p _ a = some u
    rw [upd_ne (ne_of_none h (s.fresh hp))]; exact h
  · rw [upd_ne (ne_of_none h1 hp)]; exact h1
  · show upd w.G p _ a = none
    rw [upd_ne (ne_of_none h1 hp)]; exact h2
  · by_cases e : a = p
    · subst e
      have h' : upd w.G a (.tup vs) a = some u := h
      rw [upd_same] at h'; cases h'; exact upd_same
    · have h' : upd w.G p (.tup vs) a = some u := h
      rw [upd_ne e] at h'; exact s1.sub _ _ h'
  · obtain ⟨q1, u, q2, q3⟩ := s1.cel c d h n
    have hc : c < w.n := by rw [← s.len]; exact (List.getElem?_eq_some_iff.mp h).1
    refine ⟨?_, u, q2, q3.ge g⟩
    show upd w.G p _ (w.φ c) = none
    rw [upd_ne (s.nocell hp c hc)]; exact q1
/-- an own object becomes a cell -/
theorem SR.cellz (s : SR K M w H) (ow : Own K w H p d) (old : ∀ c d', M[c]? = some d' → d' ≠ .non → w.φ c ≠ p) : SR K (M ++ [d]) { w with n := w.n + 1, φ := fun c => if c = w.n then p else w.φ c } H ∧ Ge w { w with n := w.n + 1, φ := fun c => if c = w.n then p else w.φ c } := by
  have g : Ge w { w with n := w.n + 1, φ := fun c => if c = w.n then p else w.φ c } := ⟨Nat.le_succ _, fun c hc => if_neg (Nat.ne_of_lt hc), fun _ _ h => h, fun _ _ h => h, fun _ _ h => h⟩
  refine ⟨⟨by simp [s.len], s.sub, fun c hc => ?_, fun c d' h n => ?_, fun c c' d1 d2 h1 h2 n1 n2 e => ?_⟩, g⟩
  · by_cases e : c = w.n
    · obtain ⟨o, h, _⟩ := ow.ob
      exact ⟨o, by simp [e, h]⟩
    · have hc' : c < w.n + 1 := hc
      have := s.there c (by omega)
      simpa [e] using this
  · by_cases e : c = w.n
    · subst e
      rw [← s.len] at h
      simp at h
      subst h
      obtain ⟨o, h, r⟩ := ow.ob
      refine ⟨?_, o, ?_, r.ge g⟩
      · simpa using ow.free
      · simpa using h
    · have hl : c < M.length := by
        have z := (List.getElem?_eq_some_iff.mp h).1
        rw [List.length_append, s.len] at z
        rw [s.len]
        simp at z; omega
      rw [List.getElem?_append_left hl] at h
      obtain ⟨q1, u, q2, q3⟩ := s.cel c d' h n
      exact ⟨by simpa [e] using q1, u, by simpa [e] using q2, q3.ge g⟩
  · have lt : ∀ x dx, (M ++ [d])[x]? = some dx → x ≤ w.n := fun x dx h => by
      have z := (List.getElem?_eq_some_iff.mp h).1
      rw [List.length_append, s.len] at z
      simp at z; omega
    have old' : ∀ x dx, (M ++ [d])[x]? = some dx → x ≠ w.n → M[x]? = some dx := fun x dx h ne => by
      have := lt x dx h
      rw [List.getElem?_append_left (by rw [s.len]; omega)] at h
      exact h
    by_cases e1 : c = w.n <;> by_cases e2 : c' = w.n
    · rw [e1, e2]
    · simp only [e1, e2, if_true, if_false] at e
      exact absurd e.symm (old c' d2 (old' _ _ h2 e2) n2)
    · simp only [e1, e2, if_true, if_false] at e
      exact absurd e (old c d1 (old' _ _ h1 e1) n1)
    · simp only [e1, e2, if_false] at e
      exact s.inj c c' d1 d2 (old' _ _ h1 e1) (old' _ _ h2 e2) n1 n2 e
end
end Lp

set_option Elab.async false
set_option linter.all false
set_option maxRecDepth 100000
set_option maxHeartbeats 1000000
namespace Lp
open PySem L2
theorem L_eq : sizeLine = L := sizeLine_eq
section
variable {X : Cx} {K : Frag} {M : Mem} {w : Vw} {H : Hp}
/-- behind an operation: the value r -/
def Gives (K : Frag) (M : Mem) (w : Vw) (H : Hp) (r : D) (Q : VK) : Prop := ∀ v w' H', Ext w H w' H' → SR K M w' H' → Rep K w' v r → Q v H'
theorem Gives.here {r : D} {Q : VK} {v : V} (g : Gives K M w H r Q) (s : SR K M w H) (h : Rep K w v r) : Q v H := g v w H (Ext.refl _ _) s h
/-- read: a datum, or an own thing -/
def RP (K : Frag) (w : Vw) (H : Hp) (v : V) (d : D) : Prop := Rep K w v d ∨ ∃ p, v = .ref p ∧ Own K w H p d
theorem RP.ext {w' : Vw} {H' : Hp} {v : V} {d : D} (h : RP K w H v d) (e : Ext w H w' H') : RP K w' H' v d := by
  rcases h with h | ⟨p, e1, o⟩
  · exact .inl (h.ext e)
  · exact .inr ⟨p, e1, o.ext e⟩
/-- what is read where a thing stands -/
theorem con_lst {v : V} {d : D} {xs : List D} (s : SR K M w H) (h : RP K w H v d) (e : con M d = some (.lst xs)) : ∃ a vs, v = .ref a ∧ SqL K H a vs ∧ Reps K w vs xs := by
  rcases h with h | ⟨p, rfl, o⟩
  · cases h with
    | lst q r =>
      simp only [con, Option.some.injEq, D.lst.injEq] at e
      subst e
      exact ⟨_, _, rfl, SqL.sub s q, r⟩
    | @cell c hc =>
      unfold con at e
      cases q : M[c]? with
      | none => simp only [q] at e; cases e
      | some d' =>
        simp only [q] at e
        cases d' <;> simp only [Option.some.injEq, D.lst.injEq, reduceCtorEq] at e
        subst e
        obtain ⟨_, o, h1, h2⟩ := s.cel c _ q (by intro z; cases z)
        cases h2 with
        | lst r => exact ⟨_, _, rfl, SqL.of h1, r⟩
    | _ => simp [con] at e
  · obtain ⟨o, h1, h2⟩ := o.ob
    cases h2 with
    | lst r =>
      simp only [con, Option.some.injEq, D.lst.injEq] at e
      subst e
      exact ⟨_, _, rfl, SqL.of h1, r⟩
    | dic r => simp [con] at e
theorem con_dic {v : V} {d : D} {xs : List (DKey × D)} (s : SR K M w H) (h : RP K w H v d) (e : con M d = some (.dic xs)) : ∃ a vs, v = .ref a ∧ Rd H a (.dK vs) ∧ RepK K w vs xs := by
  rcases h with h | ⟨p, rfl, o⟩
  · cases h with
    | dic q r =>
      simp only [con, Option.some.injEq, D.dic.injEq] at e
      subst e
      exact ⟨_, _, rfl, Rd.sub s q, r⟩
    | @cell c hc =>
      unfold con at e
      cases q : M[c]? with
      | none => simp only [q] at e; cases e
      | some d' =>
        simp only [q] at e
        cases d' <;> simp only [Option.some.injEq, D.dic.injEq, reduceCtorEq] at e
        subst e
        obtain ⟨_, o, h1, h2⟩ := s.cel c _ q (by intro z; cases z)
        cases h2 with
        | dic r => exact ⟨_, _, rfl, .inl h1, r⟩
    | _ => simp [con] at e
  · obtain ⟨o, h1, h2⟩ := o.ob
    cases h2 with
    | dic r =>
      simp only [con, Option.some.injEq, D.dic.injEq] at e
      subst e
      exact ⟨_, _, rfl, .inl h1, r⟩
    | lst r => simp [con] at e
theorem con_cell {c : Nat} {d : D} (e : con M (.cell c) = some d) : (∃ xs, d = .lst xs) ∨ ∃ kvs, d = .dic kvs := by
  unfold con at e
  cases q : M[c]? with
  | none => simp only [q] at e; cases e
  | some d' =>
    simp only [q] at e
    cases d' <;> simp only [Option.some.injEq, reduceCtorEq] at e
    · exact .inl ⟨_, e.symm⟩
    · exact .inr ⟨_, e.symm⟩
theorem con_tup {v : V} {d : D} {xs : List D} (s : SR K M w H) (h : RP K w H v d) (e : con M d = some (.tup xs)) : ∃ a vs, v = .ref a ∧ SqT K H a vs ∧ Reps K w vs xs := by
  rcases h with h | ⟨p, rfl, o⟩
  · cases h with
    | tup q r =>
      simp only [con, Option.some.injEq, D.tup.injEq] at e
      subst e
      exact ⟨_, _, rfl, SqT.sub s q, r⟩
    | @cell c hc => rcases con_cell e with ⟨_, z⟩ | ⟨_, z⟩ <;> cases z
    | _ => simp [con] at e
  · obtain ⟨o, h1, h2⟩ := o.ob
    cases h2 <;> simp [con] at e
theorem con_str {v : V} {d : D} {t : S} (h : RP K w H v d) (e : con M d = some (.str t)) : v = .str (tx t) := by
  rcases h with h | ⟨p, rfl, o⟩
  · cases h with
    | str s =>
      simp only [con, Option.some.injEq, D.str.injEq] at e
      subst e
      rfl
    | @cell c hc => rcases con_cell e with ⟨_, z⟩ | ⟨_, z⟩ <;> cases z
    | _ => simp [con] at e
  · obtain ⟨o, h1, h2⟩ := o.ob
    cases h2 <;> simp [con] at e
/-- an operator on two data -/
def rB (K : Frag) (f : D → D → Option D) : R2 := fun x y H Q => ∃ w M d1 d2 r, SR K M w H ∧ Rep K w x d1 ∧ Rep K w y d2 ∧ f d1 d2 = some r ∧ Gives K M w H r Q
/-- a comparison -/
def rC (K : Frag) (f : D → D → Option Bool) : R2 := fun x y H Q => ∃ w M d1 d2 b, SR K M w H ∧ RP K w H x d1 ∧ RP K w H y d2 ∧ f d1 d2 = some b ∧ Q (.bl b) H
theorem OpR.weak {f : Value → Value → Sem Value} {r r' : R2} (h : OpR X f r) (i : ∀ x y H Q, r' x y H Q → r x y H Q) : OpR X f r' :=
  fun pins s σ H x y v u Q I rx ry q => h pins s σ H x y v u Q I rx ry (i _ _ _ _ q)
theorem op_addD : OpR X (binaryOp .Add) (rB X.K addD) := by
  refine OpR.weak (OpR.or op_add (OpR.or op_add_str op_catT)) ?_
  rintro x y H Q ⟨w, M, d1, d2, r, sr, r1, r2, e, q⟩
  unfold addD at e
  split at e
  · cases e
    cases r1; cases r2
    exact .inl ⟨_, _, rfl, rfl, q.here sr (.int _)⟩
  · split at e <;> cases e
    rename_i s t hl
    cases r1; cases r2
    refine .inr (.inl ⟨_, _, rfl, rfl, by rw [tx_length, tx_length, L_eq]; exact hl, ?_⟩)
    rw [tx_app]
    exact q.here sr (.str _)
  · split at e <;> cases e
    rename_i xs ys hl
    cases r1 with
    | tup h1 p1 =>
      cases r2 with
      | tup h2 p2 =>
        refine .inr (.inr ⟨_, _, _, _, rfl, rfl, SqT.sub sr h1, SqT.sub sr h2, ?_, ?_, ?_, ?_⟩)
        · intro z
          subst z
          have := p1.length
          cases xs with
          | nil => exact hl.2 rfl
          | cons _ _ => cases this
        · rw [p1.length, p2.length, L_eq]; exact hl.1
        · intro z
          subst z
          have := p2.length
          cases ys with
          | nil => exact q.here sr (by rw [List.append_nil]; exact .tup h1 p1)
          | cons _ _ => cases this
        · intro _ p hp
          obtain ⟨n1, n2, n3⟩ := new_tup sr hp (p1.append p2)
          exact q _ _ _ n1 n2 n3
  · cases e
theorem op_subD : OpR X (binaryOp .Sub) (rB X.K subD) := by
  refine OpR.weak op_sub ?_
  rintro x y H Q ⟨w, M, d1, d2, r, sr, r1, r2, e, q⟩
  unfold subD at e
  split at e <;> cases e
  cases r1; cases r2
  exact ⟨_, _, rfl, rfl, q.here sr (.int _)⟩
theorem op_modD : OpR X (binaryOp .Mod) (rB X.K modD) := by
  refine OpR.weak op_modN ?_
  rintro x y H Q ⟨w, M, d1, d2, r, sr, r1, r2, e, q⟩
  unfold modD at e
  split at e
  · split at e <;> cases e
    rename_i hc
    cases r1; cases r2
    exact ⟨_, _, rfl, rfl, hc, q.here sr (.int _)⟩
  · cases e
theorem op_fdivD : OpR X (binaryOp .FloorDiv) (rB X.K fdivD) := by
  refine OpR.weak op_fdivN ?_
  rintro x y H Q ⟨w, M, d1, d2, r, sr, r1, r2, e, q⟩
  unfold fdivD at e
  split at e
  · split at e <;> cases e
    rename_i hc
    cases r1; cases r2
    exact ⟨_, _, rfl, rfl, hc, q.here sr (.int _)⟩
  · cases e
theorem powOk_of {i j : Int} (h : powOk i j = true) : CPow i j := by
  unfold powOk at h
  simp only [Bool.and_eq_true, decide_eq_true_eq] at h
  exact ⟨h.1.1, by have := h.1.2; omega, h.2⟩
theorem mulOk_of {i j : Int} (h : mulOk i j = true) : CMul i j := by
  unfold mulOk at h
  simp only [Bool.or_eq_true, decide_eq_true_eq] at h
  rcases h with h | h
  · exact .inl ⟨by omega, by omega⟩
  · exact .inr ⟨by omega, by omega⟩
theorem op_powD : OpR X (binaryOp .Pow) (rB X.K powD) := by
  refine OpR.weak op_pow ?_
  rintro x y H Q ⟨w, M, d1, d2, r, sr, r1, r2, e, q⟩
  unfold powD at e
  split at e
  · split at e <;> cases e
    rename_i hc
    cases r1; cases r2
    exact ⟨_, _, rfl, rfl, powOk_of hc, q.here sr (.int _)⟩
  · cases e
theorem txt_mul (s : S) (k : Int) : Txt.mul (tx s) k = tx (List.replicate k.toNat s).flatten := by
  unfold Txt.mul
  have key : ∀ (n : Nat) (acc : Array Nat), ((List.replicate n (tx s).cps).foldl (· ++ ·) acc).toList = acc.toList ++ (List.replicate n s).flatten := by
    intro n
    induction n with
    | zero => intro acc; simp
    | succ n ih =>
      intro acc
      rw [List.replicate_succ, List.foldl_cons, ih, List.replicate_succ, List.flatten_cons]
      simp [tx]
  by_cases h1 : k < 1
  · rw [if_pos h1]
    have : k.toNat = 0 := by omega
    simp [this, tx, Str.empty]
  · rw [if_neg h1]
    by_cases h2 : (k == 1 || (tx s).length == 0) = true
    · rw [if_pos h2]
      simp only [Bool.or_eq_true, beq_iff_eq] at h2
      rcases h2 with h2 | h2
      · subst h2; simp
      · rw [tx_length] at h2
        have : s = [] := List.length_eq_zero_iff.mp h2
        subst this; simp
    · rw [if_neg h2]
      have := key k.toNat #[]
      unfold tx
      congr 1
      apply Array.toList_inj.mp
      simpa [tx] using this
theorem op_mul_str : OpR X (binaryOp .Mult) (fun x y H Q => ∃ z k, x = .str z ∧ y = .int k ∧ z.length * k.toNat ≤ sizeLine ∧ -1000000000 ≤ k ∧ k < 1000000000 ∧ Q (.str (Txt.mul z k)) H) := by
  intro pins s σ H x y v u Q I rx ry h
  obtain ⟨z, k, rfl, rfl, hl, h1, h2, q⟩ := h
  obtain ⟨t, rfl⟩ := rx
  obtain ⟨t', rfl⟩ := ry
  have hs : sizeLine = 16777216 := sizeLine_eq
  refine SB.mul ⟨?_, fun g1 g2 => ?_, fun g1 g2 => ?_⟩ fun t' tk => ⟨.str (Txt.mul z k), H, I.tok _, ⟨_, rfl⟩, q⟩
  · simp; omega
  · have e : (0 : Int) < k := by omega
    have hz : (z.length : Int) ≤ 16777216 := by
      have : z.length * 1 ≤ z.length * k.toNat := Nat.mul_le_mul_left _ (by omega)
      omega
    have : (9223372036 : Int) ≤ (2 ^ 63 - 1) / k := by
      refine (Int.le_ediv_iff_mul_le e).mpr ?_
      have : (9223372036 : Int) * k ≤ 9223372036 * 1000000000 := Int.mul_le_mul_of_nonneg_left (by omega) (by omega)
      omega
    omega
  · simp only [Builtin.Str.tooLong, decide_eq_false_iff_not]
    omega
theorem op_mulD : OpR X (binaryOp .Mult) (rB X.K mulD) := by
  refine OpR.weak (OpR.or op_mul op_mul_str) ?_
  rintro x y H Q ⟨w, M, d1, d2, r, sr, r1, r2, e, q⟩
  unfold mulD at e
  split at e
  · split at e <;> cases e
    rename_i hc
    cases r1; cases r2
    exact .inl ⟨_, _, rfl, rfl, mulOk_of hc, q.here sr (.int _)⟩
  · split at e <;> cases e
    rename_i hc
    cases r1; cases r2
    refine .inr ⟨_, _, rfl, rfl, by rw [tx_length, L_eq]; exact hc.1, by have := hc.2; omega, by have := hc.2; omega, ?_⟩
    rw [txt_mul]
    exact q.here sr (.str _)
  · cases e

/-! ### comparisons -/
theorem ltS_iff : ∀ (s t : S), ltS s t = decide (s < t)
  | [], [] => by simp [ltS]
  | [], _ :: _ => by simp [ltS]
  | _ :: _, [] => by simp [ltS]
  | a :: s, b :: t => by
    rw [ltS, ltS_iff s t]
    rw [Bool.eq_iff_iff]
    simp only [Bool.or_eq_true, Bool.and_eq_true, decide_eq_true_eq, List.cons_lt_cons_iff]
theorem ltS_tx (s t : S) : ltS s t = decide ((tx s).cps.toList < (tx t).cps.toList) := by
  rw [ltS_iff, Bool.eq_iff_iff, decide_eq_true_eq, decide_eq_true_eq]
  show s < t ↔ (s.toArray.toList < t.toArray.toList)
  rw [List.toList_toArray, List.toList_toArray]
theorem rp_int {v : V} {i : Int} (h : RP K w H v (.int i)) : v = .int i := by
  rcases h with h | ⟨p, rfl, o⟩
  · cases h; rfl
  · obtain ⟨o, _, h2⟩ := o.ob; cases h2
theorem rp_str {v : V} {i : S} (h : RP K w H v (.str i)) : v = .str (tx i) := by
  rcases h with h | ⟨p, rfl, o⟩
  · cases h; rfl
  · obtain ⟨o, _, h2⟩ := o.ob; cases h2
theorem rp_non {v : V} (h : RP K w H v .non) : v = .non := by
  rcases h with h | ⟨p, rfl, o⟩
  · cases h; rfl
  · obtain ⟨o, _, h2⟩ := o.ob; cases h2
theorem rp_bl {v : V} {b : Bool} (h : RP K w H v (.bl b)) : v = .bl b := by
  rcases h with h | ⟨p, rfl, o⟩
  · cases h; rfl
  · obtain ⟨o, _, h2⟩ := o.ob; cases h2
theorem op_ltD : OpR X (compareOp .Lt) (rC X.K ltD) := by
  refine OpR.weak (OpR.or op_lt op_lt_str) ?_
  rintro x y H Q ⟨w, M, d1, d2, r, sr, r1, r2, e, q⟩
  unfold ltD at e
  split at e <;> cases e
  · cases rp_int r1; cases rp_int r2
    exact .inl ⟨_, _, rfl, rfl, q⟩
  · cases rp_str r1; cases rp_str r2
    rw [ltS_tx] at q
    exact .inr ⟨_, _, rfl, rfl, q⟩
theorem op_gtD : OpR X (compareOp .Gt) (rC X.K fun a b => ltD b a) := by
  refine OpR.weak (OpR.or op_gt op_gt_str) ?_
  rintro x y H Q ⟨w, M, d1, d2, r, sr, r1, r2, e, q⟩
  dsimp only at e
  unfold ltD at e
  split at e <;> cases e
  · cases rp_int r1; cases rp_int r2
    exact .inl ⟨_, _, rfl, rfl, q⟩
  · cases rp_str r1; cases rp_str r2
    rw [ltS_tx] at q
    exact .inr ⟨_, _, rfl, rfl, q⟩
theorem op_leD : OpR X (compareOp .LtE) (rC X.K leD) := by
  refine OpR.weak (OpR.or op_le op_le_str) ?_
  rintro x y H Q ⟨w, M, d1, d2, r, sr, r1, r2, e, q⟩
  unfold leD at e
  split at e <;> cases e
  · cases rp_int r1; cases rp_int r2
    exact .inl ⟨_, _, rfl, rfl, q⟩
  · cases rp_str r1; cases rp_str r2
    rw [ltS_tx] at q
    exact .inr ⟨_, _, rfl, rfl, q⟩
theorem op_geD : OpR X (compareOp .GtE) (rC X.K fun a b => leD b a) := by
  refine OpR.weak (OpR.or op_ge op_ge_str) ?_
  rintro x y H Q ⟨w, M, d1, d2, r, sr, r1, r2, e, q⟩
  dsimp only at e
  unfold leD at e
  split at e <;> cases e
  · cases rp_int r1; cases rp_int r2
    exact .inl ⟨_, _, rfl, rfl, q⟩
  · cases rp_str r1; cases rp_str r2
    rw [ltS_tx] at q
    exact .inr ⟨_, _, rfl, rfl, q⟩
theorem isNon_of {v : V} {d : D} (h : RP K w H v d) : decide (v = .non) = isNon d := by
  rcases h with h | ⟨p, rfl, o⟩
  · cases h <;> rfl
  · obtain ⟨o, _, h2⟩ := o.ob; cases h2 <;> rfl
theorem op_isD : OpR X (compareOp .Is) (rC X.K isD) := by
  refine OpR.weak op_isN ?_
  rintro x y H Q ⟨w, M, d1, d2, r, sr, r1, r2, e, q⟩
  unfold isD at e
  split at e <;> cases e
  cases rp_non r2
  exact ⟨rfl, by rw [isNon_of r1]; exact q⟩
theorem op_notD : OpR X (compareOp .IsNot) (rC X.K fun a b => (isD a b).map not) := by
  refine OpR.weak op_notN ?_
  rintro x y H Q ⟨w, M, d1, d2, r, sr, r1, r2, e, q⟩
  dsimp only at e
  cases d2 <;> simp only [isD, Option.map_none, Option.map_some, Option.some.injEq, reduceCtorEq] at e
  subst e
  cases rp_non r2
  exact ⟨rfl, by rw [isNon_of r1]; exact q⟩
end
end Lp

set_option Elab.async false
set_option linter.all false
set_option maxRecDepth 100000
set_option maxHeartbeats 1000000
namespace Lp
open PySem L2
section
variable {X : Cx} {K : Frag} {M : Mem} {w : Vw} {H : Hp}
mutual
theorem dp_of (s : SR K M w H) : ∀ {v : V} {d : D} {p : PyData}, Rep K w v d → toPy d = some p → Dp K H v p
  | _, _, p, .non, e => by cases e; exact .non
  | _, _, p, .bl b, e => by cases e; exact .bl b
  | _, _, p, .int i, e => by cases e; exact .int i
  | _, _, p, .str t, e => by cases e; exact .str _
  | _, _, p, .lst q r, e => by
    simp only [toPy, Option.map_eq_some_iff] at e
    obtain ⟨ps, e, rfl⟩ := e
    exact .lst (SqL.sub s q) (dps_of s r e)
  | _, _, p, .tup q r, e => by
    simp only [toPy, Option.map_eq_some_iff] at e
    obtain ⟨ps, e, rfl⟩ := e
    exact .tup (SqT.sub s q) (dps_of s r e)
  | _, _, p, .dic q r, e => by cases e
  | _, _, p, .cell q, e => by cases e
theorem dps_of (s : SR K M w H) : ∀ {v : List V} {d : List D} {p : List PyData}, Reps K w v d → toPys d = some p → DpAll K H v p
  | _, _, p, .nil, e => by cases e; exact .nil
  | _, _, p, .cons h r, e => by
    simp only [toPys, Option.bind_eq_some_iff, Option.map_eq_some_iff] at e
    obtain ⟨a, e1, b, e2, rfl⟩ := e
    exact .cons (dp_of s h e1) (dps_of s r e2)
end
theorem dp_rp (s : SR K M w H) {v : V} {d : D} {p : PyData} (h : RP K w H v d) (e : toPy d = some p) : Dp K H v p := by
  rcases h with h | ⟨a, rfl, o⟩
  · exact dp_of s h e
  · obtain ⟨o, h1, h2⟩ := o.ob
    cases h2 with
    | lst r =>
      simp only [toPy, Option.map_eq_some_iff] at e
      obtain ⟨ps, e, rfl⟩ := e
      exact .lst (SqL.of h1) (dps_of s r e)
    | dic r => cases e
theorem op_eqD' (hu : X.A.units + 64 < cLine) : OpR X (compareOp .Eq) (rC X.K eqD) := by
  refine OpR.weak (L2.op_eqD hu) ?_
  rintro x y H Q ⟨w, M, d1, d2, r, sr, r1, r2, e, q⟩
  simp only [eqD, Option.bind_eq_some_iff] at e
  obtain ⟨p1, e1, p2, e2, e⟩ := e
  split at e <;> cases e
  rename_i h
  exact ⟨p1, p2, dp_rp sr r1 e1, dp_rp sr r2 e2, h.1, h.2, q⟩
theorem op_neD' (hu : X.A.units + 64 < cLine) : OpR X (compareOp .NotEq) (rC X.K fun a b => (eqD a b).map not) := by
  refine OpR.weak (L2.op_neD hu) ?_
  rintro x y H Q ⟨w, M, d1, d2, r, sr, r1, r2, e, q⟩
  simp only [eqD, Option.bind_eq_some_iff, Option.map_eq_some_iff] at e
  obtain ⟨b, ⟨p1, e1, p2, e2, e⟩, rfl⟩ := e
  split at e <;> cases e
  rename_i h
  exact ⟨p1, p2, dp_rp sr r1 e1, dp_rp sr r2 e2, h.1, h.2, q⟩
/-! ### in -/
theorem flat_of {v : V} {d : D} (h : RP K w H v d) (f : flatD d = true) : flatV v = true := by
  rcases h with h | ⟨a, rfl, o⟩
  · cases h <;> first | rfl | cases f
  · obtain ⟨o, h1, h2⟩ := o.ob
    cases h2 <;> cases f
theorem tx_beq (s t : S) : (tx s == tx t) = (s == t) := by
  rw [Bool.eq_iff_iff]
  simp only [beq_iff_eq]
  exact ⟨tx_inj, fun e => by rw [e]⟩
theorem eqF_of {v u : V} {d e : D} (h : RP K w H v d) (h' : RP K w H u e) (f : flatD d = true) (f' : flatD e = true) : eqV v u = eqF d e := by
  rcases h with h | ⟨a, rfl, o⟩
  · rcases h' with h' | ⟨a, rfl, o⟩
    · cases h <;> cases h' <;> first | rfl | exact tx_beq _ _ | (exfalso; exact absurd f Bool.false_ne_true) | (exfalso; exact absurd f' Bool.false_ne_true)
    · obtain ⟨o, h1, h2⟩ := o.ob
      cases h2 <;> cases f'
  · obtain ⟨o, h1, h2⟩ := o.ob
    cases h2 <;> cases f
theorem flats_of : ∀ {vs : List V} {ds : List D}, Reps K w vs ds → ds.all flatD = true → vs.all flatV = true
  | _, _, .nil, _ => rfl
  | _, _, .cons h r, e => by
    simp only [List.all_cons, Bool.and_eq_true] at e ⊢
    exact ⟨flat_of (H := fun _ => none) (.inl h) e.1, flats_of r e.2⟩
theorem inV_of {v : V} {d : D} (h : RP K w H v d) (f : flatD d = true) : ∀ {vs : List V} {ds : List D}, Reps K w vs ds → ds.all flatD = true → inV v vs = ds.any fun y => eqF y d
  | _, _, .nil, _ => rfl
  | _, _, .cons h' r, e => by
    simp only [List.all_cons, Bool.and_eq_true] at e
    have ih := inV_of h f r e.2
    unfold inV at ih ⊢
    rw [List.any_cons, List.any_cons, ih, eqF_of (H := H) (.inl h') h e.1 f]
theorem kT_val : ∀ {vs : List (Key × V)} {ds : List (DKey × D)} (k : DKey), RepK K w vs ds → (∀ d, dlook ds k = some d → ∃ v, valV vs (kT k) = some v ∧ Rep K w v d) ∧ (dlook ds k = none → valV vs (kT k) = none)
  | _, _, k, .nil => ⟨fun d e => (by (have e' : (none : Option D) = some d := e); cases e'), fun _ => rfl⟩
  | _, _, k, .cons (k := k') h r => by
    obtain ⟨i1, i2⟩ := kT_val k r
    unfold dlook
    by_cases e : k' = k
    · subst e
      rw [if_pos rfl]
      refine ⟨fun d e => ?_, fun e => by cases e⟩
      cases e
      exact ⟨_, valV_pos rfl, h⟩
    · rw [if_neg e]
      have ne : ¬ kT k' = kT k := fun z => e (kT_inj z)
      rw [valV_neg (by exact ne)]
      exact ⟨i1, i2⟩
theorem dget_of {v : V} {d : D} {kvs : List (DKey × D)} (s : SR K M w H) (h : RP K w H v d) (e : con M d = some (.dic kvs)) (k : DKey) :
    ∃ a, v = .ref a ∧ ∃ o, DGet H a (L2.kV (kT k)) o ∧ (∀ x, dlook kvs k = some x → ∃ u, o = some u ∧ Rep K w u x) ∧ (dlook kvs k = none → o = none) := by
  obtain ⟨a, vs, rfl, rd, r⟩ := con_dic s h e
  obtain ⟨h1, h2⟩ := kT_val k r
  exact ⟨a, rfl, _, .inl ⟨vs, kT k, rd, rfl, rfl⟩, h1, h2⟩
theorem op_din (hu : X.A.units + 1 < cLine) : OpR X (compareOp .In) (fun x y H Q => ∃ a o, y = .ref a ∧ DGet H a x o ∧ Q (.bl o.isSome) H) := by
  intro pins s σ H x y v u Q I rx ry h
  obtain ⟨a, o, rfl, g, q⟩ := h
  cases ry
  exact d_in hu I g rx fun s3 I3 => ⟨.bl o.isSome, H, I3, rfl, q⟩
theorem op_dnotin (hu : X.A.units + 1 < cLine) : OpR X (compareOp .NotIn) (fun x y H Q => ∃ a o, y = .ref a ∧ DGet H a x o ∧ Q (.bl (!o.isSome)) H) := by
  intro pins s σ H x y v u Q I rx ry h
  obtain ⟨a, o, rfl, g, q⟩ := h
  cases ry
  exact d_notIn hu I g rx fun s3 I3 => ⟨.bl (!o.isSome), H, I3, rfl, q⟩
theorem rp_con {v : V} {d : D} (h : RP K w H v d) (nc : ∀ c, d ≠ .cell c) : con M d = some d := by
  cases d <;> first | rfl | exact absurd rfl (nc _)
theorem sr_nil (s : SR K M w H) : True := trivial
theorem op_inD (hu : X.A.units + 1 < cLine) : OpR X (compareOp .In) (rC X.K isIn1) := by
  refine OpR.weak (OpR.or op_in_seq (OpR.or op_in_sign (op_din hu))) ?_
  rintro x y H Q ⟨w, M, d1, d2, r, sr, r1, r2, e, q⟩
  unfold isIn1 at e
  split at e
  · split at e <;> cases e
    rename_i xs h
    obtain ⟨a, vs, rfl, sq, rr⟩ := con_lst sr r2 rfl
    exact .inl ⟨a, vs, rfl, .inl sq, flat_of r1 h.1, flats_of rr h.2, by rw [if_neg Bool.false_ne_true, inV_of r1 h.1 rr h.2]; exact q⟩
  · split at e <;> cases e
    rename_i xs h
    obtain ⟨a, vs, rfl, sq, rr⟩ := con_tup sr r2 rfl
    exact .inl ⟨a, vs, rfl, .inr sq, flat_of r1 h.1, flats_of rr h.2, by rw [if_neg Bool.false_ne_true, inV_of r1 h.1 rr h.2]; exact q⟩
  · cases e
    rename_i c t
    cases rp_str r1; cases rp_str r2
    refine .inr (.inl ⟨c, tx t, rfl, rfl, ?_⟩)
    rw [show decide (c ∈ (tx t).cps.toList) = t.contains c by rw [Bool.eq_iff_iff, decide_eq_true_eq]; simp [tx]]
    exact q
  · cases e
    rename_i t kvs
    cases rp_str r1
    obtain ⟨a, rfl, o, g, h1, h2⟩ := dget_of sr r2 (show con M (.dic kvs) = some (.dic kvs) from rfl) (.inr t)
    refine .inr (.inr ⟨a, o, rfl, g, ?_⟩)
    cases hk : dlook kvs (.inr t) with
    | none => rw [h2 hk]; rw [hk] at q; exact q
    | some z => obtain ⟨u, e1, _⟩ := h1 z hk; rw [e1]; rw [hk] at q; exact q
  · cases e
    rename_i i kvs
    cases rp_int r1
    obtain ⟨a, rfl, o, g, h1, h2⟩ := dget_of sr r2 (show con M (.dic kvs) = some (.dic kvs) from rfl) (.inl i)
    refine .inr (.inr ⟨a, o, rfl, g, ?_⟩)
    cases hk : dlook kvs (.inl i) with
    | none => rw [h2 hk]; rw [hk] at q; exact q
    | some z => obtain ⟨u, e1, _⟩ := h1 z hk; rw [e1]; rw [hk] at q; exact q
  · cases e
theorem op_ninD (hu : X.A.units + 1 < cLine) : OpR X (compareOp .NotIn) (rC X.K fun a b => (isIn1 a b).map not) := by
  refine OpR.weak (OpR.or op_notIn_seq (OpR.or op_notIn_sign (op_dnotin hu))) ?_
  rintro x y H Q ⟨w, M, d1, d2, r, sr, r1, r2, e, q⟩
  simp only [Option.map_eq_some_iff] at e
  obtain ⟨b, e, rfl⟩ := e
  unfold isIn1 at e
  split at e
  · split at e <;> cases e
    rename_i xs h
    obtain ⟨a, vs, rfl, sq, rr⟩ := con_lst sr r2 rfl
    exact .inl ⟨a, vs, rfl, .inl sq, flat_of r1 h.1, flats_of rr h.2, by rw [if_pos rfl, inV_of r1 h.1 rr h.2]; exact q⟩
  · split at e <;> cases e
    rename_i xs h
    obtain ⟨a, vs, rfl, sq, rr⟩ := con_tup sr r2 rfl
    exact .inl ⟨a, vs, rfl, .inr sq, flat_of r1 h.1, flats_of rr h.2, by rw [if_pos rfl, inV_of r1 h.1 rr h.2]; exact q⟩
  · cases e
    rename_i c t
    cases rp_str r1; cases rp_str r2
    refine .inr (.inl ⟨c, tx t, rfl, rfl, ?_⟩)
    rw [show decide (c ∈ (tx t).cps.toList) = t.contains c by rw [Bool.eq_iff_iff, decide_eq_true_eq]; simp [tx]]
    exact q
  · cases e
    rename_i t kvs
    cases rp_str r1
    obtain ⟨a, rfl, o, g, h1, h2⟩ := dget_of sr r2 (show con M (.dic kvs) = some (.dic kvs) from rfl) (.inr t)
    refine .inr (.inr ⟨a, o, rfl, g, ?_⟩)
    cases hk : dlook kvs (.inr t) with
    | none => rw [h2 hk]; rw [hk] at q; exact q
    | some z => obtain ⟨u, e1, _⟩ := h1 z hk; rw [e1]; rw [hk] at q; exact q
  · cases e
    rename_i i kvs
    cases rp_int r1
    obtain ⟨a, rfl, o, g, h1, h2⟩ := dget_of sr r2 (show con M (.dic kvs) = some (.dic kvs) from rfl) (.inl i)
    refine .inr (.inr ⟨a, o, rfl, g, ?_⟩)
    cases hk : dlook kvs (.inl i) with
    | none => rw [h2 hk]; rw [hk] at q; exact q
    | some z => obtain ⟨u, e1, _⟩ := h1 z hk; rw [e1]; rw [hk] at q; exact q
  · cases e
/-! ### an item -/
/-- a[i] -/
def rIdx (K : Frag) : R2 := fun x y H Q => ∃ w M d i r, SR K M w H ∧ RP K w H x d ∧ Rep K w y i ∧ idxD M d i = some r ∧ Gives K M w H r Q
theorem ix_dict (hu : X.A.units + 1 < cLine) : IxR X (fun x y H Q => ∃ a v, x = .ref a ∧ DGet H a y (some v) ∧ Q v H) := by
  intro value slice pins s σ H x y v u Q I rx ry h hs
  obtain ⟨a, z, rfl, g, q⟩ := h
  cases rx
  exact PyProof.Rows.tail_any (dict_typeIs I g) PySem.F.slot_dict_getitem.lookup (d_getItem hu I g ry fun w' s3 I3 rw' => ⟨z, H, I3, rw', q⟩) hs
theorem ixD_eq (n : Nat) (i : Int) : ixD n i = ixN n i := by
  unfold ixD ixN
  by_cases h : 0 ≤ i
  · rw [if_pos h, if_pos h]
    by_cases h' : i.toNat < n
    · rw [if_pos h', if_pos (by omega)]
    · rw [if_neg h', if_neg (by omega)]
  · rw [if_neg h, if_neg h]
theorem IxR.weak {r r' : R2} (h : IxR X r) (i : ∀ x y H Q, r' x y H Q → r x y H Q) : IxR X r' :=
  fun value slice pins s σ H x y v u Q I rx ry q hs => h value slice pins s σ H x y v u Q I rx ry (i _ _ _ _ q) hs
theorem ix_D (hu : X.A.units + 1 < cLine) : IxR X (rIdx X.K) := by
  refine IxR.weak (IxR.or ix_seq (ix_dict hu)) ?_
  rintro x y H Q ⟨w, M, d, i, r, sr, r1, r2, e, q⟩
  unfold idxD at e
  split at e
  · rename_i xs j hc
    simp only [Option.bind_eq_some_iff] at e
    obtain ⟨k, e1, e2⟩ := e
    obtain ⟨a, vs, rfl, sq, rr⟩ := con_lst sr r1 hc
    obtain ⟨u, e3, ru⟩ := rr.get e2
    cases r2
    refine .inl (.inl ⟨a, vs, _, u, rfl, rfl, sq, ?_, q.here sr ru⟩)
    unfold atI
    rw [rr.length, ← ixD_eq, e1]
    exact e3
  · rename_i xs j hc
    simp only [Option.bind_eq_some_iff] at e
    obtain ⟨k, e1, e2⟩ := e
    obtain ⟨a, vs, rfl, sq, rr⟩ := con_tup sr r1 hc
    obtain ⟨u, e3, ru⟩ := rr.get e2
    cases r2
    refine .inl (.inr (.inl ⟨a, vs, _, u, rfl, rfl, sq, ?_, q.here sr ru⟩))
    unfold atI
    rw [rr.length, ← ixD_eq, e1]
    exact e3
  · rename_i t j hc
    split at e
    · rename_i hl
      simp only [Option.bind_eq_some_iff, Option.map_eq_some_iff] at e
      obtain ⟨k, e1, c, e2, rfl⟩ := e
      cases con_str r1 hc
      cases r2
      refine .inl (.inr (.inr ⟨tx t, _, c, rfl, rfl, by rw [tx_length, L_eq]; exact hl, ?_, ?_⟩))
      · unfold atI
        rw [show (tx t).cps.toList = t by simp [tx], ← ixD_eq, e1]
        exact e2
      · exact q.here sr (.str [c])
    · cases e
  · rename_i kvs t hc
    obtain ⟨a, rfl, o, g, h1, h2⟩ := dget_of sr r1 hc (.inr t)
    obtain ⟨u, rfl, ru⟩ := h1 r e
    cases r2
    exact .inr ⟨a, u, rfl, g, q.here sr ru⟩
  · rename_i kvs t hc
    obtain ⟨a, rfl, o, g, h1, h2⟩ := dget_of sr r1 hc (.inl t)
    obtain ⟨u, rfl, ru⟩ := h1 r e
    cases r2
    exact .inr ⟨a, u, rfl, g, q.here sr ru⟩
  · cases e

/-! ### calls of built-in things -/
/-- f(x) -/
def rF (K : Frag) (f : Mem → D → Option D) : List V → Hp → VK → Prop := fun xs H Q => ∃ w M x d r, xs = [x] ∧ SR K M w H ∧ RP K w H x d ∧ f M d = some r ∧ Gives K M w H r Q
theorem CallR.weak {f : Value} {r r' : List V → Hp → VK → Prop} (h : CallR X f r) (i : ∀ xs H Q, r' xs H Q → r xs H Q) : CallR X f r' :=
  fun pins s σ H xs us Q I rv q => h pins s σ H xs us Q I rv (i _ _ _ q)
theorem CallR.or {f : Value} {r r' : List V → Hp → VK → Prop} (h : CallR X f r) (h' : CallR X f r') : CallR X f (fun xs H Q => r xs H Q ∨ r' xs H Q) := by
  intro pins s σ H xs us Q I rv q
  rcases q with q | q
  · exact h pins s σ H xs us Q I rv q
  · exact h' pins s σ H xs us Q I rv q
theorem call_dlen : CallR X (.builtin "len") (fun xs H Q => ∃ a kvs, xs = [.ref a] ∧ Rd H a (.dK kvs) ∧ Q (.int kvs.length) H) := by
  intro pins s σ H xs us Q I r h
  obtain ⟨a, kvs, rfl, rd, q⟩ := h
  obtain ⟨u, rfl, r1⟩ := vals1 r
  cases r1
  exact d_len I rd fun t s' I' => ⟨.int kvs.length, H, I', ⟨_, rfl⟩, q⟩
theorem cb_len : CallR X (.builtin "len") (rF X.K lenD) := by
  refine CallR.weak (CallR.or call_len call_dlen) ?_
  rintro xs H Q ⟨w, M, x, d, r, rfl, sr, r1, e, q⟩
  unfold lenD at e
  split at e
  · rename_i t hc
    split at e <;> cases e
    rename_i hl
    cases con_str r1 hc
    refine .inl ⟨_, t.length, rfl, ⟨by rw [tx_length, L_eq]; exact hl, (tx_length t).symm⟩, q.here sr (.int _)⟩
  · rename_i ys hc
    cases e
    obtain ⟨a, vs, rfl, sq, rr⟩ := con_lst sr r1 hc
    exact .inl ⟨_, ys.length, rfl, .inl ⟨vs, sq, rr.length.symm⟩, q.here sr (.int _)⟩
  · rename_i ys hc
    cases e
    obtain ⟨a, vs, rfl, sq, rr⟩ := con_tup sr r1 hc
    exact .inl ⟨_, ys.length, rfl, .inr ⟨vs, sq, rr.length.symm⟩, q.here sr (.int _)⟩
  · rename_i ys hc
    cases e
    obtain ⟨a, vs, rfl, sq, rr⟩ := con_dic sr r1 hc
    exact .inr ⟨a, vs, rfl, sq, by rw [rr.length]; exact q.here sr (.int _)⟩
  · cases e
theorem bools_of : ∀ {vs : List V} {ds : List D} {bs : List Bool}, Reps K w vs ds → boolsD ds = some bs → vs = bs.map V.bl
  | _, _, _, .nil, e => by cases e; rfl
  | _, _, _, .cons h r, e => by
    cases h <;> simp only [boolsD, Option.map_eq_some_iff, reduceCtorEq] at e
    obtain ⟨bs, e, rfl⟩ := e
    rw [bools_of r e]
    rfl
theorem ints_of : ∀ {vs : List V} {ds : List D} {bs : List Int}, Reps K w vs ds → intsD ds = some bs → vs = bs.map V.int
  | _, _, _, .nil, e => by cases e; rfl
  | _, _, _, .cons h r, e => by
    cases h <;> simp only [intsD, Option.map_eq_some_iff, reduceCtorEq] at e
    obtain ⟨bs, e, rfl⟩ := e
    rw [ints_of r e]
    rfl
theorem strs_of : ∀ {vs : List V} {ds : List D} {bs : List S}, Reps K w vs ds → strsD ds = some bs → vs = (bs.map tx).map V.str
  | _, _, _, .nil, e => by cases e; rfl
  | _, _, _, .cons h r, e => by
    cases h <;> simp only [strsD, Option.map_eq_some_iff, reduceCtorEq] at e
    obtain ⟨bs, e, rfl⟩ := e
    rw [strs_of r e]
    rfl
theorem rp_lst {v : V} {xs : List D} (s : SR K M w H) (h : RP K w H v (.lst xs)) : ∃ a vs, v = .ref a ∧ SqL K H a vs ∧ Reps K w vs xs := con_lst (M := M) s h rfl
theorem rp_tup {v : V} {xs : List D} (s : SR K M w H) (h : RP K w H v (.tup xs)) : ∃ a vs, v = .ref a ∧ SqT K H a vs ∧ Reps K w vs xs := con_tup (M := M) s h rfl
theorem cb_all (hc : X.calm = true) : CallR X (.builtin "all") (rF X.K fun _ => allD) := by
  refine CallR.weak (cr_all hc) ?_
  rintro xs H Q ⟨w, M, x, d, r, rfl, sr, r1, e, q⟩
  cases d <;> simp only [allD, Option.map_eq_some_iff, reduceCtorEq] at e
  obtain ⟨bs, e, rfl⟩ := e
  obtain ⟨a, vs, rfl, sq, rr⟩ := rp_lst sr r1
  rw [bools_of rr e] at sq
  exact ⟨a, bs, rfl, sq, q.here sr (.bl _)⟩
theorem cb_any (hc : X.calm = true) : CallR X (.builtin "any") (rF X.K fun _ => anyD) := by
  refine CallR.weak (cr_any hc) ?_
  rintro xs H Q ⟨w, M, x, d, r, rfl, sr, r1, e, q⟩
  cases d <;> simp only [anyD, Option.map_eq_some_iff, reduceCtorEq] at e
  obtain ⟨bs, e, rfl⟩ := e
  obtain ⟨a, vs, rfl, sq, rr⟩ := rp_lst sr r1
  rw [bools_of rr e] at sq
  exact ⟨a, bs, rfl, sq, q.here sr (.bl _)⟩
theorem cb_sum (hc : X.calm = true) : CallR X (.builtin "sum") (rF X.K fun _ => sumD) := by
  refine CallR.weak (cr_sum hc) ?_
  rintro xs H Q ⟨w, M, x, d, r, rfl, sr, r1, e, q⟩
  cases d <;> simp only [sumD, Option.map_eq_some_iff, reduceCtorEq] at e
  obtain ⟨bs, e, rfl⟩ := e
  obtain ⟨a, vs, rfl, sq, rr⟩ := rp_lst sr r1
  rw [ints_of rr e] at sq
  exact ⟨a, bs, rfl, sq, q.here sr (.int _)⟩
theorem figs_all {t : S} (h : t.all isFig = true) : PySem.NumText.AllDigits t := by
  intro c hc
  have := List.all_eq_true.mp h c hc
  unfold isFig at this
  simp only [Bool.and_eq_true, decide_eq_true_eq] at this
  exact this
theorem intText_is {t : S} {n : Int} (h : textInt t = some n) : PySem.intText? (tx t) = some n ∧ (tx t).length ≤ 640 := by
  unfold textInt at h
  split at h
  · rename_i r hr
    split at h <;> cases h
    rename_i hc
    have ht : t = 45 :: r := by
      unfold negText at hr
      split at hr <;> cases hr
      rfl
    subst ht
    refine ⟨?_, by rw [tx_length, List.length_cons]; omega⟩
    exact PySem.intText_neg (x := tx (45 :: r)) (by simp [tx]) (figs_all hc.2.1) hc.1 (by rw [tx_length, List.length_cons]; omega)
  · split at h <;> cases h
    rename_i hc
    refine ⟨?_, by rw [tx_length]; omega⟩
    have e : (tx t).cps.toList = t := by simp [tx]
    have := PySem.intText_digits (x := tx t) (by rw [e]; exact figs_all hc.2.1) (by rw [e]; exact hc.1) (by rw [tx_length]; omega)
    rw [this, e]
    rfl
theorem cb_int : CallR X (.type "int") (rF X.K fun _ => intD) := by
  refine CallR.weak (CallR.or call_int1 call_int_str) ?_
  rintro xs H Q ⟨w, M, x, d, r, rfl, sr, r1, e, q⟩
  cases d <;> simp only [intD, Option.map_eq_some_iff, reduceCtorEq, Option.some.injEq] at e
  · subst e
    cases rp_bl r1
    exact .inl (.inr ⟨_, rfl, q.here sr (.int _)⟩)
  · subst e
    cases rp_int r1
    exact .inl (.inl ⟨_, rfl, q.here sr (.int _)⟩)
  · obtain ⟨n, e, rfl⟩ := e
    cases rp_str r1
    obtain ⟨h1, h2⟩ := intText_is e
    exact .inr ⟨_, n, rfl, h1, h2, q.here sr (.int _)⟩
theorem cb_str : CallR X (.type "str") (rF X.K fun _ => strD) := by
  refine CallR.weak call_str_int ?_
  rintro xs H Q ⟨w, M, x, d, r, rfl, sr, r1, e, q⟩
  cases d <;> simp only [strD, reduceCtorEq] at e
  split at e <;> cases e
  rename_i hl
  cases rp_int r1
  refine ⟨_, rfl, hl, ?_⟩
  rw [Str.ofString_eq_toList]
  exact q.here sr (.str _)
theorem cb_tuple : CallR X (.type "tuple") (rF X.K fun _ => tupleD) := by
  refine CallR.weak call_tuple_of ?_
  rintro xs H Q ⟨w, M, x, d, r, rfl, sr, r1, e, q⟩
  cases d <;> simp only [tupleD, reduceCtorEq, Option.some.injEq] at e
  · subst e
    obtain ⟨a, vs, rfl, sq, rr⟩ := rp_lst sr r1
    refine ⟨a, vs, rfl, .inl ⟨sq, fun p hp => ?_⟩⟩
    obtain ⟨n1, n2, n3⟩ := new_tup sr hp rr
    exact q _ _ _ n1 n2 n3
  · subst e
    rcases r1 with r1 | ⟨p, rfl, o⟩
    · cases r1 with
      | tup h1 rr => exact ⟨_, _, rfl, .inr ⟨SqT.sub sr h1, q.here sr (.tup h1 rr)⟩⟩
    · obtain ⟨o, _, h2⟩ := o.ob; cases h2
/-! ### methods of texts -/
theorem foldl_app (sep : Array Nat) : ∀ (l : List Str) (acc : Array Nat), (l.foldl (fun acc p => acc ++ sep ++ p.cps) acc).toList = acc.toList ++ (l.map fun p => sep.toList ++ p.cps.toList).flatten
  | [], acc => by simp
  | p :: l, acc => by
    rw [List.foldl_cons, foldl_app sep l]
    simp
theorem join_tx (s : S) (ys : List S) : Txt.join (tx s) (ys.map tx) = tx (joinS s ys) := by
  have key : ∀ (y : S) (r : List S), y ++ (r.map fun p => s ++ p).flatten = joinS s (y :: r) := by
    intro y r
    induction r generalizing y with
    | nil => simp [joinS]
    | cons z r ih =>
      rw [joinS, ← ih z]
      simp
  unfold Txt.join Builtin.Str.glued
  cases ys with
  | nil => rfl
  | cons y r =>
    rw [← key]
    unfold tx
    congr 1
    apply Array.toList_inj.mp
    rw [List.map_cons, List.drop_one, List.tail_cons, foldl_app]
    simp [tx, List.map_map, Function.comp_def]
theorem lens_tx (ys : List S) : ((ys.map tx).map (·.length)).sum = (ys.map List.length).sum := by
  rw [List.map_map]
  exact congrArg List.sum (List.map_congr_left fun t _ => tx_length t)
def rM (K : Frag) (f : D → D → Option D) : V → List V → Hp → VK → Prop := fun x xs H Q => ∃ w M y d1 d2 r, xs = [y] ∧ SR K M w H ∧ Rep K w x d1 ∧ RP K w H y d2 ∧ f d1 d2 = some r ∧ Gives K M w H r Q
theorem MtR.weak {id : String} {r r' : V → List V → Hp → VK → Prop} (h : MtR X id r) (i : ∀ x xs H Q, r' x xs H Q → r x xs H Q) : MtR X id r' :=
  fun pins s σ H x xs v us Q I rx rv q => h pins s σ H x xs v us Q I rx rv (i _ _ _ _ q)
theorem mb_join : MtR X "str.join" (rM X.K joinD) := by
  refine MtR.weak mt_join ?_
  rintro x xs H Q ⟨w, M, y, d1, d2, r, rfl, sr, r1, r2, e, q⟩
  unfold joinD at e
  split at e
  · simp only [Option.bind_eq_some_iff] at e
    obtain ⟨ys, e1, e⟩ := e
    split at e <;> cases e
    rename_i s zs hl
    cases r1
    obtain ⟨a, vs, rfl, sq, rr⟩ := rp_lst sr r2
    rw [strs_of rr e1] at sq
    refine ⟨tx s, a, ys.map tx, rfl, rfl, .inl sq, by rw [lens_tx, List.length_map, tx_length]; exact hl, ?_⟩
    rw [join_tx]
    exact q.here sr (.str _)
  · simp only [Option.bind_eq_some_iff] at e
    obtain ⟨ys, e1, e⟩ := e
    split at e <;> cases e
    rename_i s zs hl
    cases r1
    obtain ⟨a, vs, rfl, sq, rr⟩ := rp_tup sr r2
    rw [strs_of rr e1] at sq
    refine ⟨tx s, a, ys.map tx, rfl, rfl, .inr sq, by rw [lens_tx, List.length_map, tx_length]; exact hl, ?_⟩
    rw [join_tx]
    exact q.here sr (.str _)
  · cases e
end
end Lp

set_option Elab.async false
set_option linter.all false
set_option maxRecDepth 100000
set_option maxHeartbeats 1000000
namespace Lp
open PySem L2
theorem PE.imp {X : Cx} {e : Expr} {t t' : TE} (h : PE X e t) (i : ∀ σ H Q, t' σ H Q → t σ H Q) : PE X e t' := ⟨fun pins s σ H Q I q => h.run pins s σ H Q I (i _ _ _ q)⟩
theorem PT.imp {X : Cx} {e : Expr} {t t' : TT} (h : PT X e t) (i : ∀ σ H Q, t' σ H Q → t σ H Q) : PT X e t' := ⟨fun pins s σ H Q I q => h.run pins s σ H Q I (i _ _ _ q)⟩
theorem PW.imp {X : Cx} {e : Expr} {t t' : TT} (h : PW X e t) (i : ∀ σ H Q, t' σ H Q → t σ H Q) : PW X e t' := ⟨fun wh pins s σ H Q I q => h.run wh pins s σ H Q I (i _ _ _ q)⟩
theorem PA.imp {X : Cx} {e : List Expr} {t t' : TA} (h : PA X e t) (i : ∀ σ H Q, t' σ H Q → t σ H Q) : PA X e t' := ⟨fun pos pins s σ H Q I q => h.run pos pins s σ H Q I (i _ _ _ q)⟩
theorem PS.imp {X : Cx} {e : Stmt} {t t' : TS} (h : PS X e t) (i : ∀ D σ H, t' D σ H → t D σ H) : PS X e t' := ⟨fun pins s σ H D I q => h.run pins s σ H D I (i _ _ _ q)⟩
theorem PSs.imp {X : Cx} {e : List Stmt} {t t' : TS} (h : PSs X e t) (i : ∀ D σ H, t' D σ H → t D σ H) : PSs X e t' := ⟨fun pins s σ H D I q => h.run pins s σ H D I (i _ _ _ q)⟩
theorem PO.imp {X : Cx} {e : Option Expr} {t t' : TO} (h : PO X e t) (i : ∀ σ H Q, t' σ H Q → t σ H Q) : PO X e t' := ⟨fun pins s σ H Q I q => h.run pins s σ H Q I (i _ _ _ q)⟩
theorem PI.imp {X : Cx} {tg e : Expr} {t t' : TI} (h : PI X tg e t) (i : ∀ σ H Q, t' σ H Q → t σ H Q) : PI X tg e t' := ⟨fun pins s σ H Q I q => h.run pins s σ H Q I (i _ _ _ q)⟩
/-- what a body is walked with: the classes' places, the runs of calls, the wish of errors -/
structure Ct where
  ca : String → Value
  C : Orc
  W : WX
def RV (K : Frag) : Vw → Hp → V → D → Prop := fun w _ v d => Rep K w v d
def RVs (K : Frag) : Vw → Hp → List V → List D → Prop := fun w _ v d => Reps K w v d
def RF (K : Frag) (H0 : Hp) : Vw → Hp → V → D → Prop := fun w H v d => ∃ p, v = .ref p ∧ Own K w H p d ∧ H0 p = none
def REq {α : Type} : Vw → Hp → α → α → Prop := fun _ _ a b => a = b
section
variable (K : Frag) (c : Ct)
def tE (e : EX) : TE := fun σ H Q => ∃ ρ M w H0, SR K M w H ∧ EnvR K H0 w H σ ρ ∧ Post K c.ca (RV K) c.W w H σ (ev c.C e ρ M) Q
def tP (e : EX) : TE := fun σ H Q => ∃ ρ M w H0, SR K M w H ∧ EnvR K H0 w H σ ρ ∧ Post K c.ca (RP K) c.W w H σ (ev c.C e ρ M) Q
def tF (f : FX) : TE := fun σ H Q => ∃ ρ M w H0, SR K M w H ∧ EnvR K H0 w H σ ρ ∧ Post K c.ca (RF K H) c.W w H σ (evf c.C f ρ M) Q
def tAs (es : EXs) : TA := fun σ H Q => ∃ ρ M w H0, SR K M w H ∧ EnvR K H0 w H σ ρ ∧ Post K c.ca (RVs K) c.W w H σ (evs c.C es ρ M) Q
def tTe (e : EX) : TT := fun σ H Q => ∃ ρ M w H0, SR K M w H ∧ EnvR K H0 w H σ ρ ∧ Post K c.ca REq c.W w H σ ((ev c.C e ρ M).bind asB) Q
def tOe (e : Option EX) : TO := fun σ H Q => ∃ ρ M w H0, SR K M w H ∧ EnvR K H0 w H σ ρ ∧ Post K c.ca REq c.W w H σ (evo c.C e ρ M) Q
end
abbrev SE (X : Cx) (c : Ct) (e : Expr) (x : EX) : Prop := PE X e (tE X.K c x)
abbrev SP' (X : Cx) (c : Ct) (e : Expr) (x : EX) : Prop := PE X e (tP X.K c x)
abbrev SF (X : Cx) (c : Ct) (e : Expr) (x : FX) : Prop := PE X e (tF X.K c x)
abbrev SA (X : Cx) (c : Ct) (e : List Expr) (x : EXs) : Prop := PA X e (tAs X.K c x)
abbrev ST (X : Cx) (c : Ct) (e : Expr) (x : EX) : Prop := PT X e (tTe X.K c x)
abbrev SW (X : Cx) (c : Ct) (e : Expr) (x : EX) : Prop := PW X e (tTe X.K c x)
abbrev SO (X : Cx) (c : Ct) (e : Option Expr) (x : Option EX) : Prop := PO X e (tOe X.K c x)
section
variable {K : Frag} {c : Ct} {w : Vw} {H : Hp} {σ : St} {α β γ : Type}
theorem Post.strong {R R' : Vw → Hp → β → α → Prop} {ca : String → Value} {W : WX} {r : Res α} {Q : β → Hp → Prop} (h : Post K ca R W w H σ r Q) (i : ∀ w' H' v d, R' w' H' v d → R w' H' v d) : Post K ca R' W w H σ r Q := by
  cases r with
  | ok d M => intro v w' H' e s q; exact h v w' H' e s (i _ _ _ _ q)
  | exc x M => exact h
  | stuck => exact h
/-- a run, then the rest; what is known in between -/
theorem step {R' : Vw → Hp → γ → β → Prop} {r : Res D} {f : D → Mem → Res β} {Q : γ → Hp → Prop} {ρ : Fr} {H0 : Hp} (en : EnvR K H0 w H σ ρ)
    (h : Post K c.ca R' c.W w H σ (r.bind f) Q) {R : Vw → Hp → V → D → Prop} {Q' : V → Hp → Prop}
    (k : ∀ v H1 w1 M1 d, Ext w H w1 H1 → SR K M1 w1 H1 → EnvR K H0 w1 H1 σ ρ → R w1 H1 v d → Post K c.ca R' c.W w1 H1 σ (f d M1) Q → Q' v H1) : Post K c.ca R c.W w H σ r Q' := by
  refine (Post.bind (R := R) h).imp ?_
  rintro v H1 ⟨w1, M1, d, e, s, q, p⟩
  exact k v H1 w1 M1 d e s (en.ext e) q p
end
section
variable {X : Cx} {c : Ct} {a b : Expr} {x y : EX} {pos : Pos}
theorem se_p (h : SE X c a x) : SP' X c a x := PE.imp h fun σ H Q ⟨ρ, M, w, H0, s, en, q⟩ => ⟨ρ, M, w, H0, s, en, q.strong fun _ _ _ _ r => .inl r⟩
theorem st_of (h : PT X a (fun σ H Q => tE X.K c x σ H fun v H1 => ∃ k, v = .bl k ∧ Q k H1)) : ST X c a x := by
  refine PT.imp h ?_
  rintro σ H Q ⟨ρ, M, w, H0, s, en, q⟩
  refine ⟨ρ, M, w, H0, s, en, step en q ?_⟩
  intro v H1 w1 M1 d e1 s1 en1 r1 p1
  cases d <;> first | exact p1.elim | skip
  cases r1
  exact ⟨_, rfl, p1.done s1 rfl⟩
/-- any expression as a test -/
theorem st_val (h : SE X c a x) (he : ∀ whole, isTrue a X.env whole = (do let v ← whole; standAt a.pos; holding [v] (truthy v)) := by intro _; rfl) : ST X c a x := st_of (pt_val h he)
theorem se_var {i : Nat} {n : Str} (hN : X.N[i]? = some n) (hv : Vis X.env.scope n) (hd : (n == ("__debug__" : Str)) = false := by decide +kernel) (hcd : (n == ("__classdict__" : Str)) = false := by decide +kernel) : SE X c (.Name n pos) (.var i) := by
  refine PE.imp (pe_var hN hv hd hcd) ?_
  rintro σ H Q ⟨ρ, M, w, H0, s, en, q⟩
  unfold ev at q
  split at q
  · rename_i d h
    have := en.at_ i _ h
    generalize hx : σ[i]? = o at this
    cases this with
    | d r => exact ⟨_, hx, q.done s r⟩
  · exact q.elim
theorem se_peek {i : Nat} {n : Str} (hN : X.N[i]? = some n) (hv : Vis X.env.scope n) (hd : (n == ("__debug__" : Str)) = false := by decide +kernel) (hcd : (n == ("__classdict__" : Str)) = false := by decide +kernel) : SP' X c (.Name n pos) (.peek i) := by
  refine PE.imp (pe_var hN hv hd hcd) ?_
  rintro σ H Q ⟨ρ, M, w, H0, s, en, q⟩
  unfold ev at q
  split at q
  · rename_i d h
    have := en.at_ i _ h
    generalize hx : σ[i]? = o at this
    cases this with
    | own r n => exact ⟨_, hx, q.done s (.inr ⟨_, rfl, r⟩)⟩
  · exact q.elim
theorem se_c {t : TE} {d : D} {v : V} (h : PE X a t) (ht : ∀ σ H Q, Q v H → t σ H Q) (r : ∀ w, Rep X.K w v d) : SE X c a (.c d) := by
  refine PE.imp h ?_
  rintro σ H Q ⟨ρ, M, w, H0, s, en, q⟩
  exact ht _ _ _ (q.done s (r w))
theorem se_int {i j} : SE X c (.Constant (.int i) j pos) (.c (.int i)) := se_c pe_int (fun _ _ _ q => q) fun _ => .int i
theorem se_bl {b j} : SE X c (.Constant (.bool b) j pos) (.c (.bl b)) := se_c pe_bl (fun _ _ _ q => q) fun _ => .bl b
theorem se_non {j} : SE X c (.Constant .none j pos) (.c .non) := se_c pe_non (fun _ _ _ q => q) fun _ => .non
theorem se_str {n : Str} {t : S} {j} (h : n = tx t) : SE X c (.Constant (.str n) j pos) (.c (.str t)) := by subst h; exact se_c pe_str (fun _ _ _ q => q) fun _ => .str t
/-- a module's constant -/
theorem se_gint {n : Str} {i : Int} {u : Value} (hg : Gl X n) (hm : X.mg n = some u) (hu : ∃ t, u = .int i t) (hd : (n == ("__debug__" : Str)) = false := by decide +kernel) : SE X c (.Name n pos) (.c (.int i)) :=
  se_c (v := .int i) (pe_glob (v := .int i) hg hm hu hd) (fun _ _ _ q => q) fun _ => .int i
theorem se_gstr {n : Str} {i : S} {u : Value} (hg : Gl X n) (hm : X.mg n = some u) (hu : ∃ t, u = .str (tx i) t) (hd : (n == ("__debug__" : Str)) = false := by decide +kernel) : SE X c (.Name n pos) (.c (.str i)) :=
  se_c (v := .str (tx i)) (pe_glob (v := .str (tx i)) hg hm hu hd) (fun _ _ _ q => q) fun _ => .str i
/-! ### operators -/
theorem se_op {op : Operator} {o : BOp} (ho : OpR X (binaryOp op) (rB X.K (binD o))) (ha : SE X c a x) (hb : SE X c b y) : SE X c (.BinOp a op b pos) (.bin o x y) := by
  refine PE.imp (pe_op ho ha hb) ?_
  rintro σ H Q ⟨ρ, M, w, H0, s, en, q⟩
  unfold ev at q
  refine ⟨ρ, M, w, H0, s, en, step en q ?_⟩
  intro v H1 w1 M1 d e1 s1 en1 r1 p1
  refine ⟨ρ, M1, w1, H0, s1, en1, step en1 p1 ?_⟩
  intro u H2 w2 M2 d' e2 s2 en2 r2 p2
  obtain ⟨r, hr, p3⟩ := p2.of
  exact ⟨w2, M2, d, d', r, s2, Rep.ext r1 e2, r2, hr, p3⟩
theorem se_add (ha : SE X c a x) (hb : SE X c b y) : SE X c (.BinOp a .Add b pos) (.bin .add x y) := se_op op_addD ha hb
theorem se_sub (ha : SE X c a x) (hb : SE X c b y) : SE X c (.BinOp a .Sub b pos) (.bin .sub x y) := se_op op_subD ha hb
theorem se_mul (ha : SE X c a x) (hb : SE X c b y) : SE X c (.BinOp a .Mult b pos) (.bin .mul x y) := se_op op_mulD ha hb
theorem se_mod (ha : SE X c a x) (hb : SE X c b y) : SE X c (.BinOp a .Mod b pos) (.bin .mod x y) := se_op op_modD ha hb
theorem se_fdiv (ha : SE X c a x) (hb : SE X c b y) : SE X c (.BinOp a .FloorDiv b pos) (.bin .fdiv x y) := se_op op_fdivD ha hb
theorem se_pow (ha : SE X c a x) (hb : SE X c b y) : SE X c (.BinOp a .Pow b pos) (.bin .pow x y) := se_op op_powD ha hb
theorem se_neg (ha : SE X c a x) : SE X c (.UnaryOp .USub a pos) (.neg x) := by
  refine PE.imp (pe_un un_neg ha) ?_
  rintro σ H Q ⟨ρ, M, w, H0, s, en, q⟩
  unfold ev at q
  refine ⟨ρ, M, w, H0, s, en, step en q ?_⟩
  intro v H1 w1 M1 d e1 s1 en1 r1 p1
  cases d <;> first | exact p1.elim | skip
  cases r1
  exact ⟨_, rfl, p1.done s1 (.int _)⟩
/-! ### comparisons -/
theorem cmp_core {o : COp} {r : R2} (hr : r = rC X.K (cmpD o)) {σ : St} {H : Hp} {Q : VK} (h : tE X.K c (.cmp o x y) σ H Q) : tOp r (tP X.K c x) (tP X.K c y) σ H Q := by
  subst hr
  obtain ⟨ρ, M, w, H0, s, en, q⟩ := h
  unfold ev at q
  refine ⟨ρ, M, w, H0, s, en, step en q ?_⟩
  intro v H1 w1 M1 d e1 s1 en1 r1 p1
  refine ⟨ρ, M1, w1, H0, s1, en1, step en1 p1 ?_⟩
  intro u H2 w2 M2 d' e2 s2 en2 r2 p2
  cases hk : cmpD o d d' with
  | none => rw [hk] at p2; exact p2.elim
  | some k =>
    rw [hk] at p2
    exact ⟨w2, M2, d, d', k, s2, RP.ext r1 e2, r2, hk, p2.done s2 (.bl k)⟩
theorem se_cmp {op : CmpOp} {o : COp} (ho : OpR X (compareOp op) (rC X.K (cmpD o))) (ha : SP' X c a x) (hb : SP' X c b y) (hm : behindInMarks op b = false) : SE X c (.Compare a [op] [b] pos) (.cmp o x y) :=
  PE.imp (pe_cmpR ho ha hb hm) fun σ H Q h => cmp_core rfl h
theorem st_cmp {op : CmpOp} {o : COp} (ho : OpR X (compareOp op) (rC X.K (cmpD o))) (ha : SP' X c a x) (hb : SP' X c b y) (hm : behindInMarks op b = false) : ST X c (.Compare a [op] [b] pos) (.cmp o x y) :=
  st_of (PT.imp (pt_cmpR ho ha hb hm) fun σ H Q h => cmp_core rfl h)
theorem chain_core {o o' : COp} {z : EX} {σ : St} {H : Hp} {Q : VK} (h : tE X.K c (.chain o o' x y z) σ H Q) : tChain (rC X.K (cmpD o)) (rC X.K (cmpD o')) (tP X.K c x) (tP X.K c y) (tP X.K c z) σ H Q := by
  obtain ⟨ρ, M, w, H0, s, en, q⟩ := h
  unfold ev at q
  refine ⟨ρ, M, w, H0, s, en, step en q ?_⟩
  intro v H1 w1 M1 d e1 s1 en1 r1 p1
  refine ⟨ρ, M1, w1, H0, s1, en1, step en1 p1 ?_⟩
  intro u H2 w2 M2 d' e2 s2 en2 r2 p2
  cases hk : cmpD o d d' with
  | none => rw [hk] at p2; exact p2.elim
  | some k =>
    rw [hk] at p2
    refine ⟨w2, M2, d, d', k, s2, RP.ext r1 e2, r2, hk, k, rfl, ?_⟩
    simp only [Res.of_some, Res.bind_ok] at p2
    cases k with
    | false => exact p2.done s2 (.bl false)
    | true =>
      rw [if_pos rfl] at p2
      rw [if_pos rfl]
      refine ⟨ρ, M2, w2, H0, s2, en2, step en2 p2 ?_⟩
      intro u3 H3 w3 M3 d3 e3 s3 en3 r3 p3
      cases hk' : cmpD o' d' d3 with
      | none => rw [hk'] at p3; exact p3.elim
      | some k =>
        rw [hk'] at p3
        exact ⟨w3, M3, d', d3, k, s3, RP.ext r2 e3, r3, hk', p3.done s3 (.bl k)⟩
theorem se_chain {op op' : CmpOp} {o o' : COp} {e : Expr} {z : EX} (ho : OpR X (compareOp op) (rC X.K (cmpD o))) (ho' : OpR X (compareOp op') (rC X.K (cmpD o'))) (ha : SP' X c a x) (hb : SP' X c b y) (he : SP' X c e z)
    (hm : lastMarks [op, op'] [b, e] = false := by with_unfolding_all rfl) : SE X c (.Compare a [op, op'] [b, e] pos) (.chain o o' x y z) := PE.imp (pe_chain ho ho' ha hb he hm) fun σ H Q h => chain_core h
theorem st_chain {op op' : CmpOp} {o o' : COp} {e : Expr} {z : EX} (ho : OpR X (compareOp op) (rC X.K (cmpD o))) (ho' : OpR X (compareOp op') (rC X.K (cmpD o'))) (ha : SP' X c a x) (hb : SP' X c b y) (he : SP' X c e z)
    (hm : lastMarks [op, op'] [b, e] = false := by with_unfolding_all rfl) : ST X c (.Compare a [op, op'] [b, e] pos) (.chain o o' x y z) := st_of (PT.imp (pt_chain ho ho' ha hb he hm) fun σ H Q h => chain_core h)
/-! ### and, or, not -/
theorem se_not (ha : SE X c a x) : SE X c (.UnaryOp .Not a pos) (.not x) := by
  refine PE.imp (pe_not ha) ?_
  rintro σ H Q ⟨ρ, M, w, H0, s, en, q⟩
  unfold ev at q
  refine ⟨ρ, M, w, H0, s, en, step en q ?_⟩
  intro v H1 w1 M1 d e1 s1 en1 r1 p1
  cases d <;> first | exact p1.elim | skip
  cases r1
  exact ⟨_, rfl, p1.done s1 (.bl _)⟩
theorem bindB {r : Res Bool} {g : Bool → Bool} : ((r.bind fun b M => .ok (.bl (g b)) M : Res D).bind asB) = r.bind fun b M => .ok (g b) M := by
  cases r <;> rfl
theorem bind_assoc {α β γ : Type} {r : Res α} {f : α → Mem → Res β} {g : β → Mem → Res γ} : (r.bind f).bind g = r.bind fun a M => (f a M).bind g := by
  cases r <;> rfl
theorem asB_bind {d : D} {M : Mem} {f : Bool → Mem → Res Bool} : ((asB d M).bind fun b M' => .ok b M') = asB d M := by
  cases d <;> rfl
theorem Post.bindB {w : Vw} {H : Hp} {σ : St} {r : Res Bool} {f : Bool → Mem → Res Bool} {Q : Bool → Hp → Prop} {K : Frag} (h : Post K c.ca REq c.W w H σ (r.bind f) Q) :
    Post K c.ca REq c.W w H σ r (fun v H1 => ∃ w1 M1, Ext w H w1 H1 ∧ SR K M1 w1 H1 ∧ Post K c.ca REq c.W w1 H1 σ (f v M1) Q) := by
  refine (Post.bind (R := REq) h).imp ?_
  rintro v H1 ⟨w1, M1, d, e, s, q, p⟩
  cases q
  exact ⟨w1, M1, e, s, p⟩
theorem st_not (ha : ST X c a x) : ST X c (.UnaryOp .Not a pos) (.not x) := by
  refine PT.imp (pt_not ha) ?_
  rintro σ H Q ⟨ρ, M, w, H0, s, en, q⟩
  rw [ev] at q
  have e : ((ev c.C x ρ M).bind fun x M1 => (asB x M1).bind fun b M2 => .ok (.bl (!b)) M2 : Res D).bind asB = ((ev c.C x ρ M).bind asB).bind fun b M => .ok (!b) M := by
    rw [bind_assoc, bind_assoc]
    congr 1
    funext d M1
    exact bindB
  rw [e] at q
  refine ⟨ρ, M, w, H0, s, en, (Post.bindB q).imp ?_⟩
  rintro v H1 ⟨w1, M1, e, s1, p⟩
  exact p.done s1 rfl
theorem se_one {op} (h : SE X c a x) : SE X c (.BoolOp op [a] pos) x := pe_one h
theorem se_and {rest : List Expr} (ha : SE X c a x) (hb : SE X c (.BoolOp .And (b :: rest) pos) y) : SE X c (.BoolOp .And (a :: b :: rest) pos) (.and x y) := by
  refine PE.imp (pe_and ha hb) ?_
  rintro σ H Q ⟨ρ, M, w, H0, s, en, q⟩
  unfold ev at q
  refine ⟨ρ, M, w, H0, s, en, step en q ?_⟩
  intro v H1 w1 M1 d e1 s1 en1 r1 p1
  cases d <;> first | exact p1.elim | skip
  rename_i k
  cases r1
  simp only [asB, Res.bind_ok] at p1
  refine ⟨k, rfl, ?_⟩
  cases k with
  | false => exact p1.done s1 (.bl false)
  | true =>
    rw [if_pos rfl] at p1 ⊢
    refine ⟨ρ, M1, w1, H0, s1, en1, step en1 p1 ?_⟩
    intro u H2 w2 M2 d2 e2 s2 en2 r2 p2
    cases d2 <;> first | exact p2.elim | skip
    exact p2.done s2 r2
theorem se_or {rest : List Expr} (ha : SE X c a x) (hb : SE X c (.BoolOp .Or (b :: rest) pos) y) : SE X c (.BoolOp .Or (a :: b :: rest) pos) (.or x y) := by
  refine PE.imp (pe_or ha hb) ?_
  rintro σ H Q ⟨ρ, M, w, H0, s, en, q⟩
  unfold ev at q
  refine ⟨ρ, M, w, H0, s, en, step en q ?_⟩
  intro v H1 w1 M1 d e1 s1 en1 r1 p1
  cases d <;> first | exact p1.elim | skip
  rename_i k
  cases r1
  simp only [asB, Res.bind_ok] at p1
  refine ⟨k, rfl, ?_⟩
  cases k with
  | true => exact p1.done s1 (.bl true)
  | false =>
    rw [if_neg Bool.false_ne_true] at p1 ⊢
    refine ⟨ρ, M1, w1, H0, s1, en1, step en1 p1 ?_⟩
    intro u H2 w2 M2 d2 e2 s2 en2 r2 p2
    cases d2 <;> first | exact p2.elim | skip
    exact p2.done s2 r2
theorem sw_and1 (ha : ST X c a x) : SW X c (.BoolOp .And [a] pos) x := pw_and1 ha
theorem sw_or1 (ha : ST X c a x) : SW X c (.BoolOp .Or [a] pos) x := pw_or1 ha
theorem and_test {C : Orc} {x y : EX} {ρ : Fr} {M : Mem} : (ev C (.and x y) ρ M).bind asB = ((ev C x ρ M).bind asB).bind fun k M2 => if k = true then (ev C y ρ M2).bind asB else .ok false M2 := by
  rw [ev]
  rw [bind_assoc, bind_assoc]
  congr 1
  funext d M1
  cases d <;> first | rfl | skip
  rename_i k
  cases k with
  | false => rfl
  | true =>
    simp only [asB, Res.bind_ok, if_true]
    rw [bind_assoc]
    congr 1
    funext d2 M2
    cases d2 <;> rfl
theorem or_test {C : Orc} {x y : EX} {ρ : Fr} {M : Mem} : (ev C (.or x y) ρ M).bind asB = ((ev C x ρ M).bind asB).bind fun k M2 => if k = true then .ok true M2 else (ev C y ρ M2).bind asB := by
  rw [ev]
  rw [bind_assoc, bind_assoc]
  congr 1
  funext d M1
  cases d <;> first | rfl | skip
  rename_i k
  cases k with
  | true => rfl
  | false =>
    simp only [asB, Res.bind_ok, if_neg Bool.false_ne_true]
    rw [bind_assoc]
    congr 1
    funext d2 M2
    cases d2 <;> rfl
theorem sw_and {rest : List Expr} (ha : ST X c a x) (hb : SW X c (.BoolOp .And (b :: rest) pos) y) : SW X c (.BoolOp .And (a :: b :: rest) pos) (.and x y) := by
  refine PW.imp (pw_and ha hb) ?_
  rintro σ H Q ⟨ρ, M, w, H0, s, en, q⟩
  rw [and_test] at q
  refine ⟨ρ, M, w, H0, s, en, (Post.bindB q).imp ?_⟩
  rintro k H1 ⟨w1, M1, e1, s1, p1⟩
  cases k with
  | false => exact p1.done s1 rfl
  | true => exact ⟨ρ, M1, w1, H0, s1, en.ext e1, p1⟩
theorem sw_or {rest : List Expr} (ha : ST X c a x) (hb : SW X c (.BoolOp .Or (b :: rest) pos) y) : SW X c (.BoolOp .Or (a :: b :: rest) pos) (.or x y) := by
  refine PW.imp (pw_or ha hb) ?_
  rintro σ H Q ⟨ρ, M, w, H0, s, en, q⟩
  rw [or_test] at q
  refine ⟨ρ, M, w, H0, s, en, (Post.bindB q).imp ?_⟩
  rintro k H1 ⟨w1, M1, e1, s1, p1⟩
  cases k with
  | true => exact p1.done s1 rfl
  | false => exact ⟨ρ, M1, w1, H0, s1, en.ext e1, p1⟩
theorem se_ite {e : Expr} {z : EX} (he : ST X c e z) (ha : SE X c a x) (hb : SE X c b y) : SE X c (.IfExp e a b pos) (.ite z x y) := by
  refine PE.imp (pe_ifExp he ha hb) ?_
  rintro σ H Q ⟨ρ, M, w, H0, s, en, q⟩
  unfold ev at q
  rw [← bind_assoc] at q
  refine ⟨ρ, M, w, H0, s, en, (Post.bind (R := REq) q).imp ?_⟩
  rintro k H1 ⟨w1, M1, k', e1, s1, r1, p1⟩
  cases r1
  cases k with
  | true => exact ⟨ρ, M1, w1, H0, s1, en.ext e1, p1⟩
  | false => exact ⟨ρ, M1, w1, H0, s1, en.ext e1, p1⟩
/-! ### arguments -/
theorem sa_nil : SA X c [] .nil := by
  refine PA.imp pa_nil ?_
  rintro σ H Q ⟨ρ, M, w, H0, s, en, q⟩
  exact q.done s .nil
theorem sa_cons {es : List Expr} {xs : EXs} (ha : SE X c a x) (hr : SA X c es xs) (hs : starEach (a :: es) X.env = (false, eval a X.env) :: starEach es X.env := by rfl) : SA X c (a :: es) (.cons x xs) := by
  refine PA.imp (pa_cons ha hr hs) ?_
  rintro σ H Q ⟨ρ, M, w, H0, s, en, q⟩
  unfold evs at q
  refine ⟨ρ, M, w, H0, s, en, step en q ?_⟩
  intro v H1 w1 M1 d e1 s1 en1 r1 p1
  refine ⟨ρ, M1, w1, H0, s1, en1, (Post.bind (R := RVs X.K) p1).imp ?_⟩
  rintro vs H2 ⟨w2, M2, ds, e2, s2, r2, p2⟩
  exact p2.done s2 (.cons (Rep.ext r1 e2) r2)
theorem se_tup {es : List Expr} {xs : EXs} {k} (h : SA X c es xs) : SE X c (.Tuple es k pos) (.tup xs) := by
  refine PE.imp (pe_tup h) ?_
  rintro σ H Q ⟨ρ, M, w, H0, s, en, q⟩
  unfold ev at q
  refine ⟨ρ, M, w, H0, s, en, (Post.bind (R := RVs X.K) q).imp ?_⟩
  rintro vs H1 ⟨w1, M1, ds, e1, s1, r1, p1⟩
  split at p1
  · rename_i hl
    refine ⟨by rw [Reps.length r1, L_eq]; exact hl, fun p hp => ?_⟩
    obtain ⟨n1, n2, n3⟩ := new_tup s1 hp r1
    exact p1 _ _ _ n1 n2 n3
  · exact p1.elim
theorem sf_lst {es : List Expr} {xs : EXs} (h : SA X c es xs) : SF X c (.List es pos) (.lst xs) := by
  refine PE.imp (pe_lst h) ?_
  rintro σ H Q ⟨ρ, M, w, H0, s, en, q⟩
  unfold evf at q
  refine ⟨ρ, M, w, H0, s, en, (Post.bind (R := RVs X.K) q).imp ?_⟩
  rintro vs H1 ⟨w1, M1, ds, e1, s1, r1, p1⟩
  split at p1
  · rename_i hl
    refine ⟨by rw [Reps.length r1, L_eq]; exact hl, fun p hp => ?_⟩
    exact p1 _ _ _ (Ext.laid s1 hp) (s1.laid hp) ⟨p, rfl, Own.laid s1 hp (.lst r1), e1.th _ hp⟩
  · exact p1.elim
theorem sf_dic : SF X c (.Dict [] [] pos) .dic := by
  refine PE.imp pe_dnewK ?_
  rintro σ H Q ⟨ρ, M, w, H0, s, en, q⟩
  intro p hp
  exact q _ _ _ (Ext.laid s hp) (s.laid hp) ⟨p, rfl, Own.laid s hp (.dic .nil), hp⟩
/-- a new thing, from now on still -/
theorem se_frz {f : FX} (h : SF X c a f) : SE X c a (.frz f) := by
  refine PE.imp h ?_
  rintro σ H Q ⟨ρ, M, w, H0, s, en, q⟩
  unfold ev at q
  refine ⟨ρ, M, w, H0, s, en, ?_⟩
  generalize evf c.C f ρ M = r at q
  cases r with
  | stuck => exact q
  | exc x M' => exact q
  | ok d M' =>
    rintro v w1 H1 e1 s1 ⟨p, rfl, ow, hp⟩
    obtain ⟨o, h1, h2, h3⟩ := s1.frz ow
    exact q _ _ _ (e1.frz ow hp) h2 h3
/-- a new thing, from now on a cell -/
theorem se_alloc {f : FX} (h : SF X c a f) : SE X c a (.alloc f) := by
  refine PE.imp h ?_
  rintro σ H Q ⟨ρ, M, w, H0, s, en, q⟩
  unfold ev at q
  refine ⟨ρ, M, w, H0, s, en, ?_⟩
  generalize evf c.C f ρ M = r at q
  cases r with
  | stuck => exact q
  | exc x M' => exact q
  | ok d M' =>
    rintro v w1 H1 e1 s1 ⟨p, rfl, ow, hp⟩
    obtain ⟨h1, h2⟩ := s1.cellz ow fun k d' hk _ => ow.nocell k (by rw [← s1.len]; exact (List.getElem?_eq_some_iff.mp hk).1)
    have hφ : (fun c => if c = w1.n then p else w1.φ c) M'.length = p := by simp [s1.len]
    refine q _ { w1 with n := w1.n + 1, φ := fun c => if c = w1.n then p else w1.φ c } _ ⟨Nat.le_trans e1.nn (Nat.le_succ _), fun k hk => ?_, e1.gg, e1.th, fun a o q1 q2 q3 => ?_⟩ h1 ?_
    · show (if k = w1.n then p else w1.φ k) = w.φ k
      rw [if_neg (Nat.ne_of_lt (Nat.lt_of_lt_of_le hk e1.nn))]
      exact e1.ph k hk
    · obtain ⟨z1, z2, z3⟩ := e1.fr a o q1 q2 q3
      refine ⟨z1, z2, fun k hk => ?_⟩
      show (if k = w1.n then p else w1.φ k) ≠ a
      by_cases hc : k = w1.n
      · rw [if_pos hc]; intro e; subst e; rw [hp] at q1; cases q1
      · rw [if_neg hc]
        have hk' : k < w1.n + 1 := hk
        exact z3 k (by omega)
    · have : Rep X.K { w1 with n := w1.n + 1, φ := fun c => if c = w1.n then p else w1.φ c } (.ref ((fun c => if c = w1.n then p else w1.φ c) M'.length)) (.cell M'.length) := Rep.cell (by rw [s1.len]; exact Nat.lt_succ_self _)
      rw [hφ] at this
      exact this
/-! ### items, slices -/
theorem se_idx (hu : X.A.units + 1 < cLine) (ha : SP' X c a x) (hb : SE X c b y) (hs : PlainIx b) : SE X c (.Subscript a b pos) (.idx x y) := by
  refine PE.imp (pe_ix (ix_D hu) ha hb hs) ?_
  rintro σ H Q ⟨ρ, M, w, H0, s, en, q⟩
  unfold ev at q
  refine ⟨ρ, M, w, H0, s, en, step en q ?_⟩
  intro v H1 w1 M1 d e1 s1 en1 r1 p1
  refine ⟨ρ, M1, w1, H0, s1, en1, step en1 p1 ?_⟩
  intro u H2 w2 M2 d' e2 s2 en2 r2 p2
  obtain ⟨r, hr, p3⟩ := p2.of
  exact ⟨w2, M2, d, d', r, s2, RP.ext r1 e2, r2, hr, p3⟩
theorem so_none : SO X c none none := by
  refine PO.imp po_none ?_
  rintro σ H Q ⟨ρ, M, w, H0, s, en, q⟩
  exact q.done s rfl
theorem so_some (h : SE X c a x) : SO X c (some a) (some x) := by
  refine PO.imp (po_some h) ?_
  rintro σ H Q ⟨ρ, M, w, H0, s, en, q⟩
  unfold evo at q
  refine ⟨ρ, M, w, H0, s, en, step en q ?_⟩
  intro v H1 w1 M1 d e1 s1 en1 r1 p1
  cases d <;> first | exact p1.elim | skip
  cases r1
  exact ⟨_, rfl, p1.done s1 rfl⟩
theorem cut_eq {α : Type} (xs : List α) (lo hi : Option Int) : cutL xs lo hi = (xs.drop (HT.sIx xs.length 0 lo)).take (HT.sIx xs.length xs.length hi - HT.sIx xs.length 0 lo) := by
  have e : ∀ n d o, sEnd n d o = HT.sIx n d o := fun n d o => by cases o <;> rfl
  unfold cutL
  rw [e, e]
theorem se_slc {lo hi : Option Expr} {l u : Option EX} {p2 : Pos} (ha : SE X c a x) (hl : SO X c lo l) (hh : SO X c hi u) : SE X c (.Subscript a (.Slice lo hi none p2) pos) (.slc x l u) := by
  refine PE.imp (pe_slice sl_str ha hl hh) ?_
  rintro σ H Q ⟨ρ, M, w, H0, s, en, q⟩
  unfold ev at q
  refine ⟨ρ, M, w, H0, s, en, step en q ?_⟩
  intro v H1 w1 M1 d e1 s1 en1 r1 p1
  refine ⟨ρ, M1, w1, H0, s1, en1, (Post.bind (R := REq) p1).imp ?_⟩
  rintro l' H2 ⟨w2, M2, l2, e2, s2, r2, p2⟩
  cases r2
  refine ⟨ρ, M2, w2, H0, s2, en1.ext e2, (Post.bind (R := REq) p2).imp ?_⟩
  rintro h' H3 ⟨w3, M3, h2, e3, s3, r3, p3⟩
  cases r3
  obtain ⟨r, hr, p4⟩ := p3.of
  unfold slcD at hr
  split at hr
  · split at hr <;> cases hr
    rename_i t hl
    cases r1
    refine ⟨tx t, rfl, by rw [tx_length, L_eq]; exact hl, ?_⟩
    have e : cutS (tx t) l' h' = tx (cutL t l' h') := by
      unfold cutS
      rw [cut_eq, tx_length]
      rfl
    rw [e]
    exact p4.done s3 (.str _)
  · cases hr
theorem sf_slc {lo hi : Option Expr} {l u : Option EX} {p2 : Pos} (ha : SP' X c a x) (hl : SO X c lo l) (hh : SO X c hi u) : SF X c (.Subscript a (.Slice lo hi none p2) pos) (.slc x l u) := by
  refine PE.imp (pe_slice sl_list ha hl hh) ?_
  rintro σ H Q ⟨ρ, M, w, H0, s, en, q⟩
  unfold evf at q
  refine ⟨ρ, M, w, H0, s, en, step en q ?_⟩
  intro v H1 w1 M1 d e1 s1 en1 r1 p1
  refine ⟨ρ, M1, w1, H0, s1, en1, (Post.bind (R := REq) p1).imp ?_⟩
  rintro l' H2 ⟨w2, M2, l2, e2, s2, r2, p2⟩
  cases r2
  refine ⟨ρ, M2, w2, H0, s2, en1.ext e2, (Post.bind (R := REq) p2).imp ?_⟩
  rintro h' H3 ⟨w3, M3, h2, e3, s3, r3, p3⟩
  cases r3
  split at p3
  · rename_i xs
    obtain ⟨a, vs, rfl, sq, rr⟩ := rp_lst s3 ((RP.ext r1 e2).ext e3)
    refine ⟨a, vs, rfl, sq, fun p hp => ?_⟩
    have r : Reps X.K w3 (cutV vs l' h') (cutL xs l' h') := by
      unfold cutV
      rw [cut_eq, rr.length]
      exact (rr.drop _).take _
    exact p3 _ _ _ (Ext.laid s3 hp) (s3.laid hp) ⟨p, rfl, Own.laid s3 hp (.lst r), e1.th _ (e2.th _ (e3.th _ hp))⟩
  · exact p3.elim
/-! ### built-in functions, methods -/
theorem call_core {f : Mem → D → Option D} {σ : St} {H : Hp} {Q : VK} (h : ∃ ρ M w H0, SR X.K M w H ∧ EnvR X.K H0 w H σ ρ ∧ Post X.K c.ca (RV X.K) c.W w H σ ((ev c.C x ρ M).bind fun x M1 => Res.of (f M1 x) M1) Q) :
    tCB (rF X.K f) (tCons (tP X.K c x) tNil) σ H Q := by
  obtain ⟨ρ, M, w, H0, s, en, q⟩ := h
  refine ⟨ρ, M, w, H0, s, en, step en q ?_⟩
  intro v H1 w1 M1 d e1 s1 en1 r1 p1
  obtain ⟨r, hr, p2⟩ := p1.of
  exact ⟨w1, M1, v, d, r, rfl, s1, r1, hr, p2⟩
theorem se_blt {n : Str} {id : String} {f : Blt} {p : Pos} (hc : CallR X (.builtin id) (rF X.K fun M => bltD M f)) (hg : Gl X n) (hm : X.mg n = none) (hv : bootBuiltins n = some (.builtin id)) (ha : SP' X c a x)
    (hn : n ≠ "__name__" := by decide +kernel) (hdb : (n == ("__debug__" : Str)) = false := by decide +kernel)
    (he : starEach [a] X.env = [(false, eval a X.env)] := by rfl) : SE X c (.Call (.Name n p) [a] [] pos) (.blt f x) := by
  refine PE.imp (pe_callB hc hg hm hv (pa_cons ha pa_nil he) hn hdb he rfl) ?_
  rintro σ H Q h
  unfold tE at h
  unfold ev at h
  exact call_core h
theorem se_bty {n : Str} {T : String} {f : Blt} {p : Pos} (hc : CallR X (.type T) (rF X.K fun M => bltD M f)) (hg : Gl X n) (hm : X.mg n = none) (hv : bootBuiltins n = some (.type T)) (ha : SP' X c a x)
    (hn : n ≠ "__name__" := by decide +kernel) (hdb : (n == ("__debug__" : Str)) = false := by decide +kernel)
    (he : starEach [a] X.env = [(false, eval a X.env)] := by rfl) : SE X c (.Call (.Name n p) [a] [] pos) (.blt f x) := by
  refine PE.imp (pe_callTy hc hg hm hv (pa_cons ha pa_nil he) hn hdb he rfl) ?_
  rintro σ H Q h
  unfold tE at h
  unfold ev at h
  exact call_core h
/-! ### isinstance -/
theorem kit_all (a b : Ty) (hb : b ≠ .non) : kitB a.name b.name = some (a.sub b) := by
  cases a <;> cases b <;> first | exact absurd rfl hb | decide +kernel
theorem typx_of {w : Vw} {M : Mem} {H : Hp} {v : V} {d : D} {t : Ty} (s : SR X.K M w H) (h : RP X.K w H v d) (e : kindOf M d = some t) : TyX X.K H v (.type t.name) := by
  unfold kindOf at e
  simp only [Option.bind_eq_some_iff] at e
  obtain ⟨d', hc, ht⟩ := e
  have sq : ∀ {a : Addr} {vs : List V}, SqL X.K H a vs → TyX X.K H (.ref a) (.type Ty.list.name) := fun {a vs} q => by
    rcases q with (q | ⟨o, q⟩) | ⟨o, its, n, q1, q2, _⟩
    · exact .base (.lst q)
    · exact .base (.frz q)
    · exact .kList q1 q2
  have st : ∀ {a : Addr} {vs : List V}, SqT X.K H a vs → TyX X.K H (.ref a) (.type Ty.tuple.name) := fun {a vs} q => by
    rcases q with (q | ⟨o, q⟩) | ⟨o, its, n, q1, q2, _⟩
    · exact .base (.tup q)
    · exact .fTuple q
    · exact .kTuple q1 q2
  cases d' with
  | non =>
    cases ht
    rcases h with h | ⟨p, rfl, o⟩
    · cases h <;> first | exact .base .non | (rcases con_cell hc with ⟨_, z⟩ | ⟨_, z⟩ <;> cases z) | (simp [con] at hc; done)
    · obtain ⟨o, _, h2⟩ := o.ob; cases h2 <;> simp [con] at hc
  | bl b =>
    cases ht
    rcases h with h | ⟨p, rfl, o⟩
    · cases h <;> first | exact .base (.bl _) | (rcases con_cell hc with ⟨_, z⟩ | ⟨_, z⟩ <;> cases z) | (simp [con] at hc; done)
    · obtain ⟨o, _, h2⟩ := o.ob; cases h2 <;> simp [con] at hc
  | int b =>
    cases ht
    rcases h with h | ⟨p, rfl, o⟩
    · cases h <;> first | exact .base (.int _) | (rcases con_cell hc with ⟨_, z⟩ | ⟨_, z⟩ <;> cases z) | (simp [con] at hc; done)
    · obtain ⟨o, _, h2⟩ := o.ob; cases h2 <;> simp [con] at hc
  | str b =>
    cases ht
    rw [con_str h hc]
    exact .base (.str _)
  | lst xs =>
    cases ht
    obtain ⟨a, vs, rfl, q, _⟩ := con_lst s h hc
    exact sq q
  | tup xs =>
    cases ht
    obtain ⟨a, vs, rfl, q, _⟩ := con_tup s h hc
    exact st q
  | dic xs =>
    cases ht
    obtain ⟨a, vs, rfl, q, _⟩ := con_dic s h hc
    rcases q with q | ⟨o, q⟩
    · exact .base (.dK q)
    · exact .fDict q
  | cell k => cases ht
theorem se_isi {n m : Str} {p p' : Pos} {t : Ty} (hg : Gl X n) (hm : X.mg n = none) (hv : bootBuiltins n = some (.builtin "isinstance")) (ha : SP' X c a x)
    (hg' : Gl X m) (hm' : X.mg m = none) (hv' : bootBuiltins m = some (.type t.name)) (ht : t ≠ .non) (hn : n ≠ "__name__" := by decide +kernel) (hdb : (n == ("__debug__" : Str)) = false := by decide +kernel)
    (hn' : m ≠ "__name__" := by decide +kernel) (hdb' : (m == ("__debug__" : Str)) = false := by decide +kernel)
    (he : starEach [a, .Name m p'] X.env = (false, eval a X.env) :: starEach [.Name m p'] X.env := by rfl) : SE X c (.Call (.Name n p) [a, .Name m p'] [] pos) (.isi x t) := by
  refine PE.imp (pe_callB call_isi hg hm hv (pa_cons ha (pa_cons (pe_bltn hg' hm' hv' (v := .ty t.name) rfl hn' hdb') pa_nil rfl) he) hn hdb he rfl) ?_
  rintro σ H Q ⟨ρ, M, w, H0, s, en, q⟩
  unfold ev at q
  refine ⟨ρ, M, w, H0, s, en, step en q ?_⟩
  intro v H1 w1 M1 d e1 s1 en1 r1 p1
  split at p1
  · rename_i u hu
    exact ⟨v, .ty t.name, .type u.name, .type t.name, u.sub t, rfl, .ty _, typx_of s1 r1 hu, kit_ty (kit_all u t ht), p1.done s1 (.bl _)⟩
  · exact p1.elim
end
end Lp

set_option Elab.async false
set_option linter.all false
set_option maxRecDepth 100000
set_option maxHeartbeats 1000000
namespace Lp
open PySem L2
/-! ### slots -/
section
variable {K : Frag} {H0 : Hp} {w w' : Vw} {H H' : Hp} {σ : St} {ρ : Fr}
theorem EnvR.setD (en : EnvR K H0 w H σ ρ) (i : Nat) {v : V} {d : D} (r : Rep K w v d) : EnvR K H0 w H (σ.set i (some v)) (ρ.set i (.d d)) := by
  have hl := en.len
  refine ⟨by simp [hl], fun j s e => ?_, fun j k d1 d2 a hjk e1 e2 e3 => ?_⟩
  · by_cases h : i = j
    · subst h
      have hi : i < ρ.length := by simpa using (List.getElem?_eq_some_iff.mp e).1
      rw [List.getElem?_set_self hi] at e
      cases e
      rw [List.getElem?_set_self (by omega)]
      exact .d r
    · rw [List.getElem?_set_ne h] at e ⊢
      exact en.at_ j s e
  · have n1 : i ≠ j := by
      rintro rfl
      have hi : i < ρ.length := by simpa using (List.getElem?_eq_some_iff.mp e1).1
      rw [List.getElem?_set_self hi] at e1; cases e1
    have n2 : i ≠ k := by
      rintro rfl
      have hi : i < ρ.length := by simpa using (List.getElem?_eq_some_iff.mp e2).1
      rw [List.getElem?_set_self hi] at e2; cases e2
    rw [List.getElem?_set_ne n1] at e1 e3
    rw [List.getElem?_set_ne n2] at e2 ⊢
    exact en.dis j k d1 d2 a hjk e1 e2 e3
theorem EnvR.setNo (en : EnvR K H0 w H σ ρ) (i : Nat) (x : Option V) : EnvR K H0 w H (σ.set i x) (ρ.set i .no) := by
  have hl := en.len
  refine ⟨by simp [hl], fun j s e => ?_, fun j k d1 d2 a hjk e1 e2 e3 => ?_⟩
  · by_cases h : i = j
    · subst h
      have hi : i < ρ.length := by simpa using (List.getElem?_eq_some_iff.mp e).1
      rw [List.getElem?_set_self hi] at e
      cases e
      exact .no _
    · rw [List.getElem?_set_ne h] at e ⊢
      exact en.at_ j s e
  · have n1 : i ≠ j := by
      rintro rfl
      have hi : i < ρ.length := by simpa using (List.getElem?_eq_some_iff.mp e1).1
      rw [List.getElem?_set_self hi] at e1; cases e1
    have n2 : i ≠ k := by
      rintro rfl
      have hi : i < ρ.length := by simpa using (List.getElem?_eq_some_iff.mp e2).1
      rw [List.getElem?_set_self hi] at e2; cases e2
    rw [List.getElem?_set_ne n1] at e1 e3
    rw [List.getElem?_set_ne n2] at e2 ⊢
    exact en.dis j k d1 d2 a hjk e1 e2 e3
theorem EnvR.wipe (en : EnvR K H0 w H σ ρ) : ∀ vs : List Nat, EnvR K H0 w H (L2.wipe σ vs) (wipeF ρ vs)
  | [] => en
  | v :: vs => (EnvR.wipe en vs).setNo v none
theorem wipe_set {i : Nat} {x : Option V} : ∀ {vs : List Nat} {σ : St}, i ∈ vs → L2.wipe (σ.set i x) vs = L2.wipe σ vs
  | v :: vs, σ, h => by
    show (L2.wipe (σ.set i x) vs).set v none = (L2.wipe σ vs).set v none
    by_cases hi : i ∈ vs
    · rw [wipe_set hi]
    · have e : i = v := by
        rcases List.mem_cons.mp h with e | e
        · exact e
        · exact absurd e hi
      subst e
      have com : ∀ (us : List Nat) (τ : St), i ∉ us → L2.wipe (τ.set i x) us = (L2.wipe τ us).set i x := by
        intro us
        induction us with
        | nil => intro τ _; rfl
        | cons u us ih =>
          intro τ hu
          show (L2.wipe (τ.set i x) us).set u none = ((L2.wipe τ us).set u none).set i x
          rw [ih τ fun z => hu (List.mem_cons_of_mem _ z), List.set_comm _ _ (fun z => hu (by rw [z]; exact List.mem_cons_self))]
      rw [com vs σ hi, List.set_set]
theorem wipe_wipe : ∀ (us vs : List Nat) (σ : St), (∀ u ∈ us, u ∈ vs) → L2.wipe (L2.wipe σ us) vs = L2.wipe σ vs
  | [], vs, σ, _ => rfl
  | u :: us, vs, σ, h => by
    show L2.wipe ((L2.wipe σ us).set u none) vs = L2.wipe σ vs
    rw [wipe_set (h u List.mem_cons_self)]
    exact wipe_wipe us vs σ fun z hz => h z (List.mem_cons_of_mem _ hz)
end
/-! ### targets -/
/-- a target takes a datum -/
def tG (K : Frag) (g : TG') : TG := fun v σ H Q => ∃ ρ d ρ' M w H0, SR K M w H ∧ EnvR K H0 w H σ ρ ∧ Rep K w v d ∧ bindT g d ρ = some ρ' ∧ ∀ σ', EnvR K H0 w H σ' ρ' → (∀ vs, (∀ i ∈ g.slots, i ∈ vs) → L2.wipe σ' vs = L2.wipe σ vs) → Q σ' H
theorem PG.imp {X : Cx} {e : Expr} {t t' : TG} (h : PG X e t) (i : ∀ v σ H Q, t' v σ H Q → t v σ H Q) : PG X e t' := ⟨fun pins s σ H v u Q I r q => h.run pins s σ H v u Q I r (i _ _ _ _ q)⟩
section
variable {X : Cx} {c : Ct} {a b : Expr} {x y : EX} {pos : Pos}
theorem sg_name {i : Nat} {n : Str} (hN : X.N.Nodup) (hi : X.N[i]? = some n) (hx : Loc X.env.scope n) (hf : X.fn n = true ∨ X.env.scope.names.lookup n = some .local := by first | exact .inl rfl | exact .inr rfl | assumption) : PG X (.Name n pos) (tG X.K (.name i)) := by
  refine PG.imp (pg_name hN hi hx hf) ?_
  rintro v σ H Q ⟨ρ, d, ρ', M, w, H0, s, en, r, e, q⟩
  cases e
  exact q _ (en.setD i r) fun vs h => wipe_set (h i List.mem_cons_self)
/-- names for a tuple's items -/
def gNames : List Nat → TGs
  | [] => gNil
  | i :: is => gCons (gName i) (gNames is)
theorem names_core {K : Frag} {M : Mem} {w : Vw} {H0 : Hp} {H : Hp} (s : SR K M w H) (Q : St → Hp → Prop) : ∀ (is : List Nat) (vs : List V) (ds : List D) (σ : St) (ρ ρ' : Fr), EnvR K H0 w H σ ρ → Reps K w vs ds → setAll is ds ρ = some ρ' →
    (∀ σ', EnvR K H0 w H σ' ρ' → (∀ us, (∀ i ∈ is, i ∈ us) → L2.wipe σ' us = L2.wipe σ us) → Q σ' H) → gNames is vs σ H Q
  | [], _, _, σ, ρ, ρ', en, .nil, e, q => by cases e; exact ⟨rfl, q σ en fun _ _ => rfl⟩
  | [], _, _, σ, ρ, ρ', en, .cons _ _, e, q => by cases e
  | i :: is, _, _, σ, ρ, ρ', en, .nil, e, q => by cases e
  | i :: is, _, _, σ, ρ, ρ', en, .cons r rs, e, q => by
    refine ⟨_, _, rfl, ?_⟩
    refine names_core s Q is _ _ (σ.set i (some _)) _ ρ' (en.setD i r) rs e fun σ' en' hw => q σ' en' fun us hu => ?_
    rw [hw us fun j hj => hu j (List.mem_cons_of_mem _ hj)]
    exact wipe_set (hu i List.mem_cons_self)
theorem setAll_length : ∀ {is : List Nat} {ds : List D} {ρ ρ' : Fr}, setAll is ds ρ = some ρ' → ds.length = is.length
  | [], [], _, _, _ => rfl
  | [], _ :: _, _, _, e => by cases e
  | _ :: _, [], _, _, e => by cases e
  | i :: is, d :: ds, ρ, ρ', e => congrArg Nat.succ (setAll_length (is := is) (ds := ds) e)
theorem sg_tup {es : List Expr} {k : Nat} {is : List Nat} (hc : X.calm = true) (h : PGs X es (gNames is)) (hn : (assignEach es X.env).length = is.length := by rfl) (hst : (assignEach es X.env).findIdx? (·.1) = none := by rfl) : PG X (.Tuple es k pos) (tG X.K (.tup is)) := by
  refine PG.imp (pg_tup hc h hn hst) ?_
  rintro v σ H Q ⟨ρ, d, ρ', M, w, H0, s, en, r, e, q⟩
  cases d <;> simp only [bindT, reduceCtorEq] at e
  cases r with
  | tup sq rr => exact ⟨_, _, rfl, SqT.sub s sq, by rw [rr.length]; exact setAll_length e, names_core s Q is _ _ σ ρ ρ' en rr e q⟩
end
/-! ### what is walked -/
/-- J yields the data xs, one a turn -/
structure JR (K : Frag) (w : Vw) (J : It) (xs : List D) : Prop where
  go : ∀ i x M' w' H', Ge w w' → SR K M' w' H' → xs[i]? = some x → J.go i H' ∧ ∀ v H'', J.yld i H' v H'' → ∃ w'', Ext w' H' w'' H'' ∧ SR K M' w'' H'' ∧ Rep K w'' v x
  stop : ∀ i M' w' H', Ge w w' → SR K M' w' H' → xs.length ≤ i → J.stop i H'
def tIx (K : Frag) (c : Ct) (it : IX) : TI := fun σ H R => ∃ ρ M w H0, SR K M w H ∧ EnvR K H0 w H σ ρ ∧ Post K c.ca (fun w _ J xs => JR K w J xs) c.W w H σ (evi c.C it ρ M) R
abbrev SI (X : Cx) (c : Ct) (tg e : Expr) (x : IX) : Prop := PI X tg e (tIx X.K c x)
section
variable {X : Cx} {c : Ct} {a b tg : Expr} {x y : EX} {pos : Pos}
theorem jr_range {K : Frag} {w : Vw} {i j : Int} {xs : List D} (h : rngD i j = some xs) : JR K w (Itr i (j - i).toNat) xs := by
  unfold rngD at h
  split at h <;> cases h
  refine ⟨fun n z M' w' H' g s e => ?_, fun n M' w' H' g s e => ?_⟩
  · have hn : n < (j - i).toNat := by simpa using (List.getElem?_eq_some_iff.mp e).1
    refine ⟨hn, fun v H'' y => ?_⟩
    obtain ⟨e1, e2⟩ := y
    subst e1 e2
    refine ⟨w', Ext.refl _ _, s, ?_⟩
    rw [List.getElem?_map, List.getElem?_range hn] at e
    cases e
    exact .int _
  · show (j - i).toNat ≤ n
    simpa using e
theorem si_rng1 {n : Str} {p : Pos} (hn : n = "range") (hg : Gl X n) (hm : X.mg n = none) (ha : SE X c a x) (hs : starEach [a] X.env = [(false, eval a X.env)] := by rfl) : SI X c tg (.Call (.Name n p) [a] [] pos) (.rng1 x) := by
  subst hn
  refine PI.imp (pi_range1 hg hm (pa_cons ha pa_nil hs) hs) ?_
  rintro σ H R ⟨ρ, M, w, H0, s, en, q⟩
  unfold evi at q
  refine ⟨ρ, M, w, H0, s, en, step en q ?_⟩
  intro v H1 w1 M1 d e1 s1 en1 r1 p1
  cases d <;> first | exact p1.elim | skip
  rename_i i
  cases r1
  obtain ⟨xs, hx, p2⟩ := p1.of
  have hb : -1000000000 ≤ i ∧ i < 1000000000 := by
    unfold rngD at hx
    split at hx
    · rename_i h; have := h.2; exact ⟨by omega, by omega⟩
    · cases hx
  have j := jr_range (K := X.K) (w := w1) hx
  rw [show (i - 0).toNat = i.toNat by simp] at j
  refine ⟨i, rfl, by omega, by omega, p2.done s1 j⟩
theorem si_rng2 {n : Str} {p : Pos} (hn : n = "range") (hg : Gl X n) (hm : X.mg n = none) (ha : SE X c a x) (hb : SE X c b y) (hs : starEach [a, b] X.env = [(false, eval a X.env), (false, eval b X.env)] := by rfl) (hs2 : starEach [b] X.env = [(false, eval b X.env)] := by rfl) :
    SI X c tg (.Call (.Name n p) [a, b] [] pos) (.rng2 x y) := by
  subst hn
  refine PI.imp (pi_range2 hg hm (pa_cons ha (pa_cons hb pa_nil hs2) (by rw [hs, hs2])) hs hs2) ?_
  rintro σ H R ⟨ρ, M, w, H0, s, en, q⟩
  unfold evi at q
  refine ⟨ρ, M, w, H0, s, en, step en q ?_⟩
  intro v H1 w1 M1 d e1 s1 en1 r1 p1
  refine ⟨ρ, M1, w1, H0, s1, en1, step en1 p1 ?_⟩
  intro u H2 w2 M2 d' e2 s2 en2 r2 p2
  cases d <;> first | exact p2.elim | skip
  cases d' <;> first | exact p2.elim | skip
  cases r1
  cases r2
  obtain ⟨xs, hx, p3⟩ := p2.of
  have hb := hx
  unfold rngD at hb
  split at hb
  · rename_i h
    exact ⟨_, _, rfl, ⟨by omega, by omega, by omega, by omega⟩, p3.done s2 (jr_range hx)⟩
  · cases hb
theorem jr_lst {K : Frag} {w : Vw} {a : Addr} {vs : List V} {xs : List D} (sq : SqL K w.G a vs) (r : Reps K w vs xs) : JR K w (Itl K a) xs := by
  refine ⟨fun n z M' w' H' g s e => ?_, fun n M' w' H' g s e => ⟨vs, SqL.sub s (SqL.ge g sq), by rw [r.length]; exact e⟩⟩
  obtain ⟨u, hu, ru⟩ := r.get e
  have q := SqL.sub s (SqL.ge g sq)
  refine ⟨⟨vs, u, q, hu⟩, fun v H'' y => ?_⟩
  obtain ⟨e1, e2⟩ := y
  subst e1
  have e3 := e2 vs q
  rw [hu] at e3
  cases e3
  exact ⟨w', Ext.refl _ _, s, ru.ge g⟩
theorem jr_tup {K : Frag} {w : Vw} {a : Addr} {vs : List V} {xs : List D} (sq : SqT K w.G a vs) (r : Reps K w vs xs) : JR K w (Itt K a) xs := by
  refine ⟨fun n z M' w' H' g s e => ?_, fun n M' w' H' g s e => ⟨vs, SqT.sub s (SqT.ge g sq), by rw [r.length]; exact e⟩⟩
  obtain ⟨u, hu, ru⟩ := r.get e
  have q := SqT.sub s (SqT.ge g sq)
  refine ⟨⟨vs, u, q, hu⟩, fun v H'' y => ?_⟩
  obtain ⟨e1, e2⟩ := y
  subst e1
  have e3 := e2 vs q
  rw [hu] at e3
  cases e3
  exact ⟨w', Ext.refl _ _, s, ru.ge g⟩
/-- two readings: the one that the datum asks for -/
theorem PI.or {tg e : Expr} {t t' : TI} (h : PI X tg e t) (h' : PI X tg e t') : PI X tg e (fun σ H R => t σ H R ∨ t' σ H R) := ⟨fun pins s σ H R I q => by
  rcases q with q | q
  · exact h.run pins s σ H R I q
  · exact h'.run pins s σ H R I q⟩
theorem si_seq (ha : SE X c a x) : SI X c tg a (.seq x) := by
  refine PI.imp (PI.or (pi_list ha) (pi_tup ha)) ?_
  rintro σ H R ⟨ρ, M, w, H0, s, en, q⟩
  unfold evi at q
  generalize hr : ev c.C x ρ M = r at q
  cases r with
  | stuck => exact q.elim
  | exc z M' => exact .inl ⟨ρ, M, w, H0, s, en, by rw [hr]; exact q⟩
  | ok d M' =>
    cases d <;> first | exact q.elim | skip
    · refine .inl ⟨ρ, M, w, H0, s, en, ?_⟩
      rw [hr]
      intro v w1 H1 e1 s1 r1
      cases r1 with
      | lst sq rr => exact ⟨_, rfl, ⟨_, SqL.sub s1 sq⟩, q _ _ _ e1 s1 (jr_lst sq rr)⟩
    · refine .inr ⟨ρ, M, w, H0, s, en, ?_⟩
      rw [hr]
      intro v w1 H1 e1 s1 r1
      cases r1 with
      | tup sq rr => exact ⟨_, rfl, ⟨_, SqT.sub s1 sq⟩, q _ _ _ e1 s1 (jr_tup sq rr)⟩
theorem jr_str {K : Frag} {w : Vw} {t : S} : JR K w (Its (tx t)) (t.map fun c => .str [c]) := by
  refine ⟨fun n z M' w' H' g s e => ?_, fun n M' w' H' g s e => ?_⟩
  · rw [List.getElem?_map] at e
    cases hc : t[n]? with
    | none => rw [hc] at e; cases e
    | some k =>
      rw [hc] at e; cases e
      have hn := (List.getElem?_eq_some_iff.mp hc).1
      refine ⟨by show n < t.toArray.size; simpa using hn, fun v H'' y => ?_⟩
      obtain ⟨e1, k', e2, e3⟩ := y
      subst e1 e3
      have e4 : t[n]? = some k' := by simpa [tx] using e2
      rw [hc] at e4; cases e4
      exact ⟨w', Ext.refl _ _, s, .str [k]⟩
  · show t.toArray.size ≤ n
    simpa using e
theorem si_chars (ha : SE X c a x) : SI X c tg a (.chars x) := by
  refine PI.imp (pi_str ha) ?_
  rintro σ H R ⟨ρ, M, w, H0, s, en, q⟩
  unfold evi at q
  refine ⟨ρ, M, w, H0, s, en, step en q ?_⟩
  intro v H1 w1 M1 d e1 s1 en1 r1 p1
  cases d <;> first | exact p1.elim | skip
  cases r1
  exact ⟨tx _, rfl, p1.done s1 jr_str⟩
end
/-! ### comprehensions -/
def Ct.nox (c : Ct) : Ct := { c with W := fun _ _ _ _ => False }
/-- the tests of a comprehension -/
def tTs (K : Frag) (c : Ct) (cond : Option EX) : TT := fun σ H Q => ∃ ρ M w H0, SR K M w H ∧ EnvR K H0 w H σ ρ ∧ Post K c.ca REq c.W w H σ (evc c.C cond ρ M) Q
theorem PTs.imp {X : Cx} {e : List Expr} {t t' : TT} (h : PTs X e t) (i : ∀ σ H Q, t' σ H Q → t σ H Q) : PTs X e t' := ⟨fun pins s σ H Q I q => h.run pins s σ H Q I (i _ _ _ q)⟩
section
variable {X : Cx} {c : Ct} {tg elt iter : Expr} {ifs : List Expr}
theorem sts_nil : PTs X [] (tTs X.K c none) := PTs.imp pts_nil fun σ H Q ⟨ρ, M, w, H0, s, en, q⟩ => q.done s rfl
theorem sts_one {e : Expr} {x : EX} (h : ST X c e x) : PTs X [e] (tTs X.K c (some x)) := pts_one h
/-- the block's rules -/
structure CompS (X : Cx) (c : Ct) (g : TG') (scope : Scope) (own : List (Str × Nat)) (tg elt : Expr) (ifs : List Expr) (cond : Option EX) (x : EX) : Prop where
  sl : own.map (·.2) = g.slots
  ok : BlkOk X.N X.env.scope scope own
  tg : ∀ (s : Shared) (H : Hp) (C : Addr) (cl : List (Str × Addr)) (fp : List Addr), PG (X.blk s H scope (compEnvC scope cl C X.env) fp) tg (tG X.K g)
  ifs : ∀ (s : Shared) (H : Hp) (C : Addr) (cl : List (Str × Addr)) (fp : List Addr), PTs (X.blk s H scope (compEnvC scope cl C X.env) fp) ifs (tTs X.K c.nox cond)
  elt : ∀ (s : Shared) (H : Hp) (C : Addr) (cl : List (Str × Addr)) (fp : List Addr), PE (X.blk s H scope (compEnvC scope cl C X.env) fp) elt (tE X.K c.nox x)
/-- what yields, while the record is locked in every later view -/
structure JRx (K : Frag) (w : Vw) (H : Hp) (J : It) (xs : List D) : Prop where
  go : ∀ i x M' w' H', Ext w H w' H' → SR K M' w' H' → xs[i]? = some x → J.go i H' ∧ ∀ v H'', J.yld i H' v H'' → ∃ w'', Ext w' H' w'' H'' ∧ SR K M' w'' H'' ∧ Rep K w'' v x
  stop : ∀ i M' w' H', Ext w H w' H' → SR K M' w' H' → xs.length ≤ i → J.stop i H'
theorem JR.x {K : Frag} {w : Vw} {H : Hp} {J : It} {xs : List D} (j : JR K w J xs) : JRx K w H J xs := ⟨fun i x M' w' H' g s e => j.go i x M' w' H' g.ge s e, fun i M' w' H' g s e => j.stop i M' w' H' g.ge s e⟩
/-- the loop of a comprehension -/
theorem comp_core {K : Frag} {c : Ct} {g : TG'} {cond : Option EX} {x : EX} {J : It} {Q : VK} {σ : St} {ρ : Fr} {H0 : Hp} {w1 : Vw} {H1 : Hp} {M1 : Mem} {Hs : Hp} {xs : List D}
    (s1 : SR K M1 w1 H1) (en : EnvR K H0 w1 H1 σ ρ) (j : JRx K w1 H1 J xs) (hs : ∀ p, H1 p = none → Hs p = none)
    (q : Post K c.ca (RF K Hs) c.W w1 H1 σ ((compGo (compF g ρ (fun ρ1 M2 => evc c.C cond ρ1 M2) (fun ρ1 M2 => ev c.C x ρ1 M2)) [] xs M1).bind fun ys M5 => .ok (.lst ys) M5) Q) :
    ∀ D, H1 D = none → ∃ W : Nat → Nat → Hp → Prop, (∃ m, W 0 m (upd H1 D (.lst []))) ∧ ∀ i m H, W i m H →
      (J.stop i H ∧ Q (.ref D) H) ∨ (J.go i H ∧ ∃ Nx : Hp → Prop, (∀ H', Nx H' → ∃ m', m' < m ∧ W (i + 1) m' H') ∧ ∀ z H', J.yld i H z H' → tG K g z (L2.wipe σ g.slots) H' fun σ2 H2 => L2.wipe σ2 g.slots = L2.wipe σ g.slots ∧ tTs K c.nox cond σ2 H2 fun b H3 =>
        if b = true then tE K c.nox x σ2 H3 fun y H4 => ∃ acc, H4 D = some (.lst acc) ∧ acc.length < sizeLine ∧ Nx (upd H4 D (.lst (acc ++ [y]))) else Nx H3) := by
  intro P hP
  generalize hf : compF g ρ (fun ρ1 M2 => evc c.C cond ρ1 M2) (fun ρ1 M2 => ev c.C x ρ1 M2) = f at q
  let W : Nat → Nat → Hp → Prop := fun i m H => m = xs.length - i ∧ i ≤ xs.length ∧ ∃ (acc : List D) (M : Mem) (w : Vw), Ext w1 H1 w H ∧ SR K M w H ∧ Own K w H P (.lst acc) ∧
    Post K c.ca (RF K Hs) c.W w1 H1 σ ((compGo f acc (xs.drop i) M).bind fun ys M5 => .ok (.lst ys) M5) Q
  refine ⟨W, ⟨xs.length, by simp, Nat.zero_le _, [], M1, w1, Ext.laid s1 hP, s1.laid hP, Own.laid s1 hP (.lst .nil), by rw [List.drop_zero]; exact q⟩, ?_⟩
  rintro i m H ⟨rfl, hi, acc, M, w, e, s, ow, q⟩
  by_cases hlt : i < xs.length
  · refine .inr ?_
    have hx : xs[i]? = some xs[i] := by simp [hlt]
    obtain ⟨jg, jy⟩ := j.go i xs[i] M w H e s hx
    refine ⟨jg, W (i + 1) (xs.length - (i + 1)), fun H' hW => ⟨_, by omega, hW⟩, fun z H' y => ?_⟩
    obtain ⟨w', e', s', r⟩ := jy z H' y
    rw [List.drop_eq_getElem_cons hlt, compGo] at q
    generalize hfx : f xs[i] M = rr at q
    rw [← hf] at hfx
    unfold compF at hfx
    cases hb : bindT g xs[i] (wipeF ρ g.slots) with
    | none => rw [hb] at hfx; subst hfx; exact q.elim
    | some ρ1 =>
      rw [hb] at hfx
      simp only at hfx
      have enw := (en.ext (e.trans e')).wipe g.slots
      refine ⟨wipeF ρ g.slots, xs[i], ρ1, M, w', H0, s', enw, r, hb, fun σ2 en2 hw => ⟨(hw _ fun _ z => z).trans (wipe_wipe _ _ _ fun _ z => z), ?_⟩⟩
      have ow' := ow.ext e'
      refine ⟨ρ1, M, w', H0, s', en2, ?_⟩
      show Post K c.nox.ca REq c.nox.W w' H' σ2 (evc c.C cond ρ1 M) _
      generalize hc : evc c.C cond ρ1 M = rc at hfx ⊢
      cases rc with
      | stuck => subst hfx; exact q.elim
      | exc z M' => subst hfx; exact q.elim
      | ok b M3 =>
        intro b' w3 H3 e3 s3 eb
        have eb' : b' = b := eb
        subst eb'
        cases b' with
        | false =>
          simp only [Res.bind_ok, Bool.false_eq_true, if_false] at hfx
          rw [if_neg Bool.false_ne_true]
          subst hfx
          exact ⟨rfl, hlt, acc, M3, w3, (e.trans e').trans e3, s3, ow'.ext e3, q⟩
        | true =>
          simp only [Res.bind_ok, if_true] at hfx
          rw [if_pos rfl]
          refine ⟨ρ1, M3, w3, H0, s3, en2.ext e3, ?_⟩
          show Post K c.nox.ca (RV K) c.nox.W w3 H3 σ2 (ev c.C x ρ1 M3) _
          generalize hv : ev c.C x ρ1 M3 = rv at hfx ⊢
          cases rv with
          | stuck => subst hfx; exact q.elim
          | exc z M' => subst hfx; exact q.elim
          | ok d M4 =>
            intro yv w4 H4 e4 s4 ry
            subst hfx
            simp only [Res.bind_ok] at q
            split at q
            · rename_i hl
              have ow4 := (ow'.ext e3).ext e4
              obtain ⟨o, ho, cr⟩ := ow4.ob
              cases cr with
              | lst rs =>
                rename_i vs
                refine ⟨vs, ho, by rw [rs.length, L_eq]; exact hl, rfl, hlt, acc ++ [d], M4, w4, ?_, ?_, ?_, q⟩
                · have ee := ((e.trans e').trans e3).trans e4
                  refine ⟨ee.nn, ee.ph, ee.gg, fun b hb => ee.th b (upd_none hb).2, fun b u h1 h2 h3 => ?_⟩
                  obtain ⟨z1, z2, z3⟩ := ee.fr b u h1 h2 h3
                  exact ⟨by rw [upd_ne (ne_of_none h1 hP)]; exact z1, z2, z3⟩
                · refine ⟨s4.len, fun b u h => ?_, fun k hk => ?_, fun k d' h n => ?_, s4.inj⟩
                  · rw [upd_ne (fun z => by subst z; rw [ow4.free] at h; cases h)]; exact s4.sub _ _ h
                  · rw [upd_ne (ow4.nocell k hk)]; exact s4.there k hk
                  · obtain ⟨q1, u, q2, q3⟩ := s4.cel k d' h n
                    exact ⟨q1, u, by rw [upd_ne (ow4.nocell k (by rw [← s4.len]; exact (List.getElem?_eq_some_iff.mp h).1))]; exact q2, q3⟩
                · exact ⟨ow4.free, ow4.nocell, _, upd_same, .lst (rs.append (.cons ry .nil))⟩
            · exact q.elim
  · have ei : i = xs.length := by omega
    subst ei
    refine .inl ⟨j.stop _ M w H e s (Nat.le_refl _), ?_⟩
    rw [List.drop_length] at q
    exact q _ _ _ e s ⟨P, rfl, ow, hs P hP⟩
variable {g : TG'} {scope : Scope} {own : List (Str × Nat)} {cond : Option EX} {x : EX} {it : IX} {pos : Pos}
theorem sf_comp (hc : X.calm = true) (hN : X.N.Nodup) (hi : SI X c tg iter it) (B : CompS X c g scope own tg elt ifs cond x) (hs : ∀ z, foldedSetIterable iter X.env z = pure z := by intro _; rfl) :
    SF X c (.ListComp elt [⟨tg, iter, ifs, 0⟩] scope pos) (.comp g it cond x) := by
  refine PE.imp (pe_lc hc hN hi B.ok B.tg B.ifs B.elt hs) ?_
  rintro σ H Q ⟨ρ, M, w, H0, s, en, q⟩
  rw [B.sl]
  unfold evf at q
  refine ⟨ρ, M, w, H0, s, en, (Post.bind (R := fun w _ J xs => JR X.K w J xs) q).imp ?_⟩
  rintro J H1 ⟨w1, M1, xs, e1, s1, j, q1⟩
  exact comp_core s1 (en.ext e1) j.x (fun p h => e1.th p h) q1
/-! ### a record that is walked -/
/-- the view with the record at d locked -/
theorem lock_view {K : Frag} {M : Mem} {w : Vw} {H : Hp} {d : Addr} {kvs : List (Key × V)} {od : Obj} (s : SR K M w H) (h : w.G d = some (.dK kvs)) :
    Ge w (w.add d (.frz od (.dK kvs))) ∧ SR K M (w.add d (.frz od (.dK kvs))) (upd H d (.frz od (.dK kvs))) := by
  have g : Ge w (w.add d (.frz od (.dK kvs))) := by
    refine ⟨Nat.le_refl _, fun _ _ => rfl, fun a vs r => ?_, fun a vs r => ?_, fun a vs r => ?_⟩
    all_goals
      by_cases e : a = d
      · subst e
        rcases r with r | ⟨o, r⟩
        · rw [h] at r; cases r
          try exact .inr ⟨od, upd_same⟩
        · rw [h] at r; cases r
      · rcases r with r | ⟨o, r⟩
        · exact .inl (by show upd w.G d _ a = _; rw [upd_ne e]; exact r)
        · exact .inr ⟨o, by show upd w.G d _ a = _; rw [upd_ne e]; exact r⟩
  refine ⟨g, s.len, fun a u r => ?_, fun k hk => ?_, fun k d' r n => ?_, s.inj⟩
  · by_cases e : a = d
    · subst e
      have r' : upd w.G a (.frz od (.dK kvs)) a = some u := r
      rw [upd_same] at r' ⊢; exact r'
    · have r' : upd w.G d (.frz od (.dK kvs)) a = some u := r
      rw [upd_ne e] at r' ⊢; exact s.sub _ _ r'
  · obtain ⟨o, z⟩ := s.there k hk
    by_cases e : w.φ k = d
    · exact ⟨_, by show upd H d _ (w.φ k) = _; rw [e]; exact upd_same⟩
    · exact ⟨o, by show upd H d _ (w.φ k) = _; rw [upd_ne e]; exact z⟩
  · obtain ⟨q1, u, q2, q3⟩ := s.cel k d' r n
    have e : w.φ k ≠ d := fun z => by rw [z, h] at q1; cases q1
    exact ⟨by show upd w.G d _ (w.φ k) = none; rw [upd_ne e]; exact q1, u, by show upd H d _ (w.φ k) = _; rw [upd_ne e]; exact q2, q3.ge g⟩
theorem lock_env {K : Frag} {M : Mem} {w : Vw} {H H0 : Hp} {σ : St} {ρ : Fr} {d : Addr} {kvs : List (Key × V)} {od : Obj} (s : SR K M w H) (h : w.G d = some (.dK kvs)) (en : EnvR K H0 w H σ ρ) :
    EnvR K H0 (w.add d (.frz od (.dK kvs))) (upd H d (.frz od (.dK kvs))) σ ρ := by
  obtain ⟨g, _⟩ := lock_view (od := od) s h
  refine ⟨en.len, fun i sl e => ?_, en.dis⟩
  have := en.at_ i sl e
  generalize σ[i]? = o at this
  cases this with
  | no => exact .no _
  | d r => exact .d (r.ge g)
  | @own a d' ow n =>
    have e : a ≠ d := fun z => by
      have := ow.free
      rw [z, h] at this; cases this
    obtain ⟨u, q2, q3⟩ := ow.ob
    exact .own ⟨by show upd w.G d _ a = none; rw [upd_ne e]; exact ow.free, ow.nocell, u, by rw [upd_ne e]; exact q2, q3.ge g⟩ n
theorem unlock_view {K : Frag} {M M1 : Mem} {w w1 : Vw} {H H1 : Hp} {d : Addr} {kvs : List (Key × V)} {od : Obj} (s : SR K M w H) (h : w.G d = some (.dK kvs))
    (e : Ext (w.add d (.frz od (.dK kvs))) (upd H d (.frz od (.dK kvs))) w1 H1) (s1 : SR K M1 w1 H1) :
    H1 d = some (.frz od (.dK kvs)) ∧ Ext w H (w1.add d (.dK kvs)) (upd H1 d (.dK kvs)) ∧ SR K M1 (w1.add d (.dK kvs)) (upd H1 d (.dK kvs)) ∧ Ge w1 (w1.add d (.dK kvs)) ∧ w1.G d = some (.frz od (.dK kvs)) := by
  have g1 : w1.G d = some (.frz od (.dK kvs)) := e.gg d _ upd_same
  have hd : H d = some (.dK kvs) := s.sub _ _ h
  have g : Ge w1 (w1.add d (.dK kvs)) := by
    refine ⟨Nat.le_refl _, fun _ _ => rfl, fun a vs r => ?_, fun a vs r => ?_, fun a vs r => ?_⟩
    all_goals
      by_cases ea : a = d
      · subst ea
        rcases r with r | ⟨o, r⟩
        · rw [g1] at r; cases r
        · rw [g1] at r; cases r
          try exact .inl upd_same
      · rcases r with r | ⟨o, r⟩
        · exact .inl (by show upd w1.G d _ a = _; rw [upd_ne ea]; exact r)
        · exact .inr ⟨o, by show upd w1.G d _ a = _; rw [upd_ne ea]; exact r⟩
  refine ⟨s1.sub _ _ g1, ⟨e.nn, e.ph, fun a u r => ?_, fun a r => ?_, fun a u h1 h2 h3 => ?_⟩, ⟨s1.len, fun a u r => ?_, fun k hk => ?_, fun k d' r n => ?_, s1.inj⟩, g, g1⟩
  · by_cases ea : a = d
    · subst ea
      rw [h] at r; cases r
      exact upd_same
    · show upd w1.G d _ a = some u
      rw [upd_ne ea]
      exact e.gg a u (by show upd w.G d _ a = _; rw [upd_ne ea]; exact r)
  · obtain ⟨ea, r⟩ := upd_none r
    have := e.th a r
    rw [upd_ne ea] at this; exact this
  · have ea : a ≠ d := fun z => by rw [z, h] at h2; cases h2
    obtain ⟨z1, z2, z3⟩ := e.fr a u (by rw [upd_ne ea]; exact h1) (by show upd w.G d _ a = none; rw [upd_ne ea]; exact h2) h3
    exact ⟨by rw [upd_ne ea]; exact z1, by show upd w1.G d _ a = none; rw [upd_ne ea]; exact z2, z3⟩
  · by_cases ea : a = d
    · subst ea
      have r' : upd w1.G a (.dK kvs) a = some u := r
      rw [upd_same] at r' ⊢; exact r'
    · have r' : upd w1.G d (.dK kvs) a = some u := r
      rw [upd_ne ea] at r' ⊢; exact s1.sub _ _ r'
  · obtain ⟨o, z⟩ := s1.there k hk
    by_cases ea : w1.φ k = d
    · exact ⟨_, by show upd H1 d _ (w1.φ k) = _; rw [ea]; exact upd_same⟩
    · exact ⟨o, by show upd H1 d _ (w1.φ k) = _; rw [upd_ne ea]; exact z⟩
  · obtain ⟨q1, u, q2, q3⟩ := s1.cel k d' r n
    have ea : w1.φ k ≠ d := fun z => by rw [z, g1] at q1; cases q1
    exact ⟨by show upd w1.G d _ (w1.φ k) = none; rw [upd_ne ea]; exact q1, u, by show upd H1 d _ (w1.φ k) = _; rw [upd_ne ea]; exact q2, q3.ge g⟩
theorem keys_at {K : Frag} {w : Vw} : ∀ {vs : List (Key × V)} {kvs : List (DKey × D)}, RepK K w vs kvs → ∀ (i : Nat) (x : D), (kvs.map fun p => keyD p.1)[i]? = some x → ∃ (k : Key) (v : V), vs[i]? = some (k, v) ∧ ∀ w', Rep K w' (L2.kV k) x
  | _, _, .nil, i, x, e => by simp at e
  | _, _, .cons (k := k) (v := v) r rs, 0, x, e => by
    simp at e
    subst e
    refine ⟨kT k, v, rfl, fun w' => ?_⟩
    cases k with
    | inl i => exact .int i
    | inr t => exact .str t
  | _, _, .cons r rs, i + 1, x, e => keys_at rs i x (by simpa using e)
theorem compGo_noexc {f : D → Mem → Res (Option D)} : ∀ (xs acc : List D) (M : Mem) (z : Exn) (M' : Mem), compGo f acc xs M ≠ .exc z M'
  | [], acc, M, z, M', e => by cases e
  | x :: r, acc, M, z, M', e => by
    rw [compGo] at e
    split at e
    · exact compGo_noexc r _ _ _ _ e
    · split at e
      · exact compGo_noexc r _ _ _ _ e
      · cases e
    · cases e
theorem jrx_keys {K : Frag} {w : Vw} {H : Hp} {d : Addr} {o : Obj} {vs : List (Key × V)} {kvs : List (DKey × D)} (h : w.G d = some (.frz o (.dK vs))) (r : RepK K w vs kvs) : JRx K w H (Itk d o vs) (kvs.map fun p => keyD p.1) := by
  refine ⟨fun i x M' w' H' g s e => ?_, fun i M' w' H' g s e => ?_⟩
  · obtain ⟨k, v, hv, rk⟩ := keys_at r i x e
    have hl := (List.getElem?_eq_some_iff.mp hv).1
    refine ⟨⟨s.sub _ _ (g.gg _ _ h), hl⟩, fun u H'' y => ?_⟩
    obtain ⟨e1, k', v', e2, e3⟩ := y
    subst e1 e3
    rw [hv] at e2
    cases e2
    exact ⟨w', Ext.refl _ _, s, rk w'⟩
  · exact ⟨s.sub _ _ (g.gg _ _ h), by rw [r.length]; simpa using e⟩
theorem sf_compK {i : Nat} {n : Str} {p : Pos} (hc : X.calm = true) (hN : X.N.Nodup) (hi : X.N[i]? = some n) (hv : Vis X.env.scope n) (B : CompS X c g scope own tg elt ifs cond x) (hs : ∀ z, foldedSetIterable (.Name n p) X.env z = pure z := by intro _; rfl)
    (hd : (n == ("__debug__" : Str)) = false := by decide +kernel) (hcd : (n == ("__classdict__" : Str)) = false := by decide +kernel) :
    SF X c (.ListComp elt [⟨tg, .Name n p, ifs, 0⟩] scope pos) (.compK g i cond x) := by
  have P := pe_lc (pos := pos) hc hN (pi_keys (pe_var (pos := p) hi hv hd hcd)) B.ok B.tg B.ifs B.elt hs
  refine ⟨fun pins s σ H Q I q => ?_⟩
  obtain ⟨ρ, M, w, H0, sr, en, q⟩ := q
  unfold evf at q
  split at q
  · rename_i kvs hρ
    have hslot := en.at_ i _ hρ
    generalize hx : σ[i]? = o at hslot
    cases hslot with
    | d r =>
      cases r with
      | @dic a vs _ rd rk =>
        rcases rd with rd | ⟨o, rd⟩
        · refine (pe_lock P).run pins s σ H Q I ⟨a, .dK vs, sr.sub _ _ rd, trivial, fun od => ?_⟩
          obtain ⟨ge, sl⟩ := lock_view (od := od) sr rd
          have el := lock_env (od := od) sr rd en
          refine ⟨.ref a, hx, a, od, rfl, .inl ⟨vs, upd_same, ?_⟩⟩
          rw [B.sl]
          refine comp_core (c := c) (g := g) (cond := cond) (x := x) (Q := fun v H' => H' a = some (.frz od (.dK vs)) ∧ Q v (upd H' a (.dK vs))) (Hs := H) sl el (jrx_keys (w := w.add a (.frz od (.dK vs))) upd_same (rk.ge ge)) (fun b hb => (upd_none hb).2) ?_
          generalize hr : compGo _ _ _ _ = rr at q ⊢
          cases rr with
          | stuck => exact q
          | exc z M' => exact absurd hr (compGo_noexc _ _ _ _ _)
          | ok ys M5 =>
            rintro v w' H' e1 s1 ⟨b, rfl, ow, hb⟩
            obtain ⟨u1, u2, u3, u4, u5⟩ := unlock_view sr rd e1 s1
            have nb : b ≠ a := fun z => by
              have := ow.free
              rw [z, u5] at this; cases this
            refine ⟨u1, q _ _ _ u2 u3 ⟨b, rfl, ⟨?_, ow.nocell, ?_⟩, hb⟩⟩
            · show upd w'.G a _ b = none
              rw [upd_ne nb]; exact ow.free
            · obtain ⟨o, h1, h2⟩ := ow.ob
              exact ⟨o, by rw [upd_ne nb]; exact h1, h2.ge u4⟩
        · refine P.run pins s σ H Q I ⟨.ref a, hx, a, o, rfl, .inl ⟨vs, sr.sub _ _ rd, ?_⟩⟩
          rw [B.sl]
          exact comp_core (Hs := H) sr en (jrx_keys rd rk) (fun b hb => hb) q
  · exact q.elim
end
end Lp

set_option Elab.async false
set_option linter.all false
set_option maxRecDepth 100000
set_option maxHeartbeats 1000000
namespace Lp
open PySem L2
/-! ### lists joined, repeated -/
section
variable {X : Cx} {c : Ct} {a b : Expr} {x y : EX} {pos : Pos}
def rCatR (X : Cx) : R2 := fun v u H Q => ∃ l b xs zs, v = .ref l ∧ u = .ref b ∧ SqL X.K H l xs ∧ SqL X.K H b zs ∧ xs.length + zs.length ≤ sizeLine ∧ ∀ p, H p = none → Q (.ref p) (upd H p (.lst (xs ++ zs)))
theorem op_catR : OpR X (binaryOp .Add) (rCatR X) := by
  rintro pins s σ H v u vv uu Q I rv ru ⟨l, b, xs, zs, rfl, rfl, h1, h2, hz, q⟩
  obtain rfl : vv = Value.ref l := rv
  obtain rfl : uu = Value.ref b := ru
  obtain ⟨i1, r1, hl1, _⟩ := I.list h1
  obtain ⟨i2, r2, hl2, _⟩ := I.list h2
  have l1 := r1.length
  have l2 := r2.length
  obtain ⟨⟨cls, dd, data, sl⟩, n, ho, hc, hdn, hd⟩ := id hl1
  obtain ⟨⟨cls2, dd2, data2, sl2⟩, n2, ho2, hc2, hdn2, hd2⟩ := id hl2
  simp only at hc hd hc2 hd2
  subst hc hd hc2 hd2
  refine concat_meets ⟨_, ho, rfl⟩ ⟨_, ho2, rfl⟩ PySem.noFill_list_add PySem.seq_list_add PySem.F.slot_list_add PySem.F.entry_list_add (PySem.F.args_list_add_2 _ _) (PyProof.Rows.list_addW l b i1.toArray i2.toArray n n2 dd dd2 sl sl2 (by simp; omega)) ⟨ho, ho2, ?_⟩
  rw [show i1.toArray ++ i2.toArray = (i1 ++ i2).toArray from by simp]
  have hn := I.lnew (t' := s.toks) (r1.append r2) (by rw [List.length_append]; exact hz)
  exact ⟨V.ref s.heap.objs.size, _, hn, rfl, q _ I.fresh⟩
theorem sf_cat (ha : SP' X c a x) (hb : SP' X c b y) : SF X c (.BinOp a .Add b pos) (.cat x y) := by
  refine PE.imp (pe_op op_catR ha hb) ?_
  rintro σ H Q ⟨ρ, M, w, H0, s, en, q⟩
  unfold evf at q
  refine ⟨ρ, M, w, H0, s, en, step en q ?_⟩
  intro v H1 w1 M1 d e1 s1 en1 r1 p1
  refine ⟨ρ, M1, w1, H0, s1, en1, step en1 p1 ?_⟩
  intro u H2 w2 M2 d' e2 s2 en2 r2 p2
  split at p2
  · rename_i xs ys
    split at p2
    · rename_i hl
      obtain ⟨l, vs, rfl, h1, k1⟩ := con_lst (M := M2) s2 (RP.ext r1 e2) rfl
      obtain ⟨l', vs', rfl, h2, k2⟩ := con_lst (M := M2) s2 r2 rfl
      refine ⟨l, l', vs, vs', rfl, rfl, h1, h2, by rw [k1.length, k2.length, L_eq]; exact hl, fun p hp => ?_⟩
      exact p2 _ _ _ (Ext.laid s2 hp) (s2.laid hp) ⟨p, rfl, Own.laid s2 hp (.lst (k1.append k2)), e1.th _ (e2.th _ hp)⟩
    · exact p2.elim
  · exact p2.elim
theorem Reps.rep {K : Frag} {w : Vw} {vs : List V} {xs : List D} (r : Reps K w vs xs) : ∀ n : Nat, Reps K w (List.replicate n vs).flatten (List.replicate n xs).flatten
  | 0 => .nil
  | n + 1 => by
    rw [List.replicate_succ, List.replicate_succ, List.flatten_cons, List.flatten_cons]
    exact r.append (Reps.rep r n)
theorem sf_rep (ha : SF X c a z) (hb : SE X c b y) : SF X c (.BinOp a .Mult b pos) (.rep (.frz z) y) := by
  refine PE.imp (pe_op op_rep ha hb) ?_
  rintro σ H Q ⟨ρ, M, w, H0, s, en, q⟩
  unfold evf at q
  rw [ev] at q
  refine ⟨ρ, M, w, H0, s, en, (Post.bind (R := RF X.K H) q).imp ?_⟩
  rintro v H1 ⟨w1, M1, d, e1, s1, ⟨p, rfl, ow, hp⟩, p1⟩
  refine ⟨ρ, M1, w1, H0, s1, en.ext e1, step (en.ext e1) p1 ?_⟩
  intro u H2 w2 M2 d' e2 s2 en2 r2 p2
  split at p2
  · rename_i xs k
    split at p2
    · rename_i hl
      cases r2
      obtain ⟨o, h1, h2⟩ := (ow.ext e2).ob
      cases h2 with
      | lst rs =>
        rename_i vs
        refine ⟨p, k, vs, rfl, rfl, h1, by omega, by omega, by rw [rs.length, L_eq]; exact hl.1, fun p' hp' => ?_⟩
        exact p2 _ _ _ (Ext.laid s2 hp') (s2.laid hp') ⟨p', rfl, Own.laid s2 hp' (.lst (rs.rep _)), e1.th _ (e2.th _ hp')⟩
    · exact p2.elim
  · exact p2.elim
/-! ### list(x), dict(pairs) -/
theorem call1 {r : List V → Hp → VK → Prop} {σ : St} {H : Hp} {Q : VK} {f : D → Mem → Res D} {R : Vw → Hp → V → D → Prop} {ρ : Fr} {M : Mem} {w : Vw} {H0 : Hp} (s : SR X.K M w H) (en : EnvR X.K H0 w H σ ρ)
    (q : Post X.K c.ca R c.W w H σ ((ev c.C x ρ M).bind f) Q)
    (k : ∀ v H1 w1 M1 d, Ext w H w1 H1 → SR X.K M1 w1 H1 → RP X.K w1 H1 v d → Post X.K c.ca R c.W w1 H1 σ (f d M1) Q → r [v] H1 Q) : tCB r (tCons (tP X.K c x) tNil) σ H Q :=
  ⟨ρ, M, w, H0, s, en, step en q fun v H1 w1 M1 d e1 s1 en1 r1 p1 => k v H1 w1 M1 d e1 s1 r1 p1⟩
theorem sf_listOf {n : Str} {p : Pos} (hg : Gl X n) (hm : X.mg n = none) (hv : bootBuiltins n = some (.type "list")) (ha : SP' X c a x)
    (hn : n ≠ "__name__" := by decide +kernel) (hdb : (n == ("__debug__" : Str)) = false := by decide +kernel) (he : starEach [a] X.env = [(false, eval a X.env)] := by rfl) : SF X c (.Call (.Name n p) [a] [] pos) (.listOf x) := by
  refine PE.imp (pe_callTy call_list_of hg hm hv (pa_cons ha pa_nil he) hn hdb he rfl) ?_
  rintro σ H Q ⟨ρ, M, w, H0, s, en, q⟩
  unfold evf at q
  refine call1 s en q ?_
  intro v H1 w1 M1 d e1 s1 r1 p1
  split at p1
  · obtain ⟨l, vs, rfl, h1, k1⟩ := rp_lst s1 r1
    exact ⟨l, vs, rfl, .inl h1, fun p hp => p1 _ _ _ (Ext.laid s1 hp) (s1.laid hp) ⟨p, rfl, Own.laid s1 hp (.lst k1), e1.th _ hp⟩⟩
  · obtain ⟨l, vs, rfl, h1, k1⟩ := rp_tup s1 r1
    exact ⟨l, vs, rfl, .inr h1, fun p hp => p1 _ _ _ (Ext.laid s1 hp) (s1.laid hp) ⟨p, rfl, Own.laid s1 hp (.lst k1), e1.th _ hp⟩⟩
  · exact p1.elim
theorem kV_key {K : Frag} {w : Vw} {v : V} {d : D} {k : DKey} (r : Rep K w v d) (h : isKey d = some k) : v = L2.kV (kT k) := by
  cases r <;> simp only [isKey, reduceCtorEq, Option.some.injEq] at h
  · subst h; rfl
  · subst h; rfl
/-- pairs of data, as records' entries -/
theorem pairs_of {K : Frag} {M : Mem} {w : Vw} {H : Hp} (s : SR K M w H) : ∀ {vs : List V} {ds : List D} {ps : List (DKey × D)}, Reps K w vs ds → pairsD ds = some ps →
    ∃ (as : List Addr) (kvs : List (Key × V)), vs = as.map V.ref ∧ Paired (fun p kv => SqT K H p [L2.kV kv.1, kv.2]) as kvs ∧ RepK K w kvs ps
  | _, _, _, .nil, e => by cases e; exact ⟨[], [], rfl, .nil, .nil⟩
  | _, _, _, .cons h r, e => by
    unfold pairsD at e
    split at e
    · rename_i heq
      cases heq
    · rename_i k v ds heq
      simp only [Option.bind_eq_some_iff, Option.map_eq_some_iff] at e
      obtain ⟨k', e1, ps, e2, rfl⟩ := e
      cases heq
      obtain ⟨as, kvs, rfl, h2, h3⟩ := pairs_of s r e2
      cases h with
      | tup sq rr =>
        cases rr with
        | cons r1 rr =>
          cases rr with
          | cons r2 rr =>
            cases rr
            cases kV_key r1 e1
            exact ⟨_ :: as, (kT k', _) :: kvs, rfl, .cons (SqT.sub s sq) h2, .cons r2 h3⟩
    · cases e
theorem putK_eq (kvs : List (Key × V)) (k : Key) (v : V) (nd : (kvs.map (·.1)).Nodup) : L2.putK kvs k v = (match kvs with
    | [] => [(k, v)]
    | (k', d) :: r => if k' = k then (k', v) :: r else (k', d) :: L2.putK r k v) := by
  cases kvs with
  | nil => simp [L2.putK]
  | cons p r =>
    obtain ⟨k', d⟩ := p
    simp only [List.map_cons, List.nodup_cons] at nd
    by_cases e : k' = k
    · subst e
      simp only [L2.putK, List.any_cons, decide_true, Bool.true_or, if_true, List.map_cons]
      congr 1
      refine (List.map_congr_left fun q hq => ?_).trans (List.map_id _)
      rw [if_neg]
      · rfl
      · rintro h
        exact nd.1 (List.mem_map.mpr ⟨q, hq, h⟩)
    · simp only [L2.putK, List.any_cons, e, decide_false, Bool.false_or, if_false, List.map_cons]
      by_cases h : (r.any fun kv => decide (kv.1 = k)) = true
      · rw [if_pos h, if_pos h]
      · rw [if_neg h, if_neg h]; rfl
theorem keys_dput (kvs : List (DKey × D)) (k : DKey) (v : D) : ∀ x, x ∈ (dput kvs k v).map (·.1) → x = k ∨ x ∈ kvs.map (·.1) := by
  induction kvs with
  | nil => intro x h; simp [dput] at h; exact .inl h
  | cons p r ih =>
    obtain ⟨k', d⟩ := p
    intro x h
    unfold dput at h
    by_cases e : k' = k
    · rw [if_pos e] at h
      simp at h ⊢
      rcases h with h | h
      · exact .inr (.inl h)
      · exact .inr (.inr h)
    · rw [if_neg e, List.map_cons] at h
      rcases List.mem_cons.mp h with h | h
      · exact .inr (by rw [h]; simp)
      · rcases ih x h with h | h
        · exact .inl h
        · exact .inr (by rw [List.map_cons]; exact List.mem_cons_of_mem _ h)
theorem nodup_dput (kvs : List (DKey × D)) (k : DKey) (v : D) (nd : (kvs.map (·.1)).Nodup) : ((dput kvs k v).map (·.1)).Nodup := by
  induction kvs with
  | nil => simp [dput]
  | cons p r ih =>
    obtain ⟨k', d⟩ := p
    simp only [List.map_cons, List.nodup_cons] at nd
    unfold dput
    by_cases e : k' = k
    · rw [if_pos e]; simpa using nd
    · rw [if_neg e, List.map_cons, List.nodup_cons]
      refine ⟨fun h => ?_, ih nd.2⟩
      rcases keys_dput r k v k' h with h | h
      · exact e h
      · exact nd.1 h
theorem keys_of {K : Frag} {w : Vw} : ∀ {vs : List (Key × V)} {ds : List (DKey × D)}, RepK K w vs ds → vs.map (·.1) = ds.map fun p => kT p.1
  | _, _, .nil => rfl
  | _, _, .cons _ r => by rw [List.map_cons, List.map_cons, keys_of r]
theorem nodup_kT : ∀ {l : List DKey}, l.Nodup → (l.map kT).Nodup
  | [], _ => List.nodup_nil
  | a :: l, h => by
    rw [List.nodup_cons] at h
    rw [List.map_cons, List.nodup_cons]
    refine ⟨fun z => ?_, nodup_kT h.2⟩
    obtain ⟨b, hb, e⟩ := List.mem_map.mp z
    exact h.1 (by rw [← kT_inj e]; exact hb)
theorem keys_nodup {K : Frag} {w : Vw} {vs : List (Key × V)} {ds : List (DKey × D)} (r : RepK K w vs ds) (nd : (ds.map (·.1)).Nodup) : (vs.map (·.1)).Nodup := by
  rw [keys_of r, show (fun p : DKey × D => kT p.1) = kT ∘ (·.1) from rfl, ← List.map_map]
  exact nodup_kT nd
theorem RepK.put {K : Frag} {w : Vw} {v : V} {d : D} (q : Rep K w v d) (k : DKey) : ∀ {vs : List (Key × V)} {ds : List (DKey × D)}, RepK K w vs ds → (ds.map (·.1)).Nodup → RepK K w (L2.putK vs (kT k) v) (dput ds k d)
  | _, _, .nil, _ => by simp only [L2.putK, dput]; exact .cons q .nil
  | _, _, .cons (k := k') h r, nd => by
    have ndv := keys_nodup (.cons (k := k') h r) nd
    rw [putK_eq _ _ _ ndv]
    simp only [List.map_cons, List.nodup_cons] at nd
    unfold dput
    by_cases e : k' = k
    · subst e
      rw [if_pos rfl]
      simp only [if_true]
      exact .cons q r
    · rw [if_neg e]
      have e' : ¬ kT k' = kT k := fun z => e (kT_inj z)
      simp only [e', if_false]
      exact .cons h (RepK.put q k r nd.2)
theorem merge_of {K : Frag} {w : Vw} : ∀ {more : List (Key × V)} {ps : List (DKey × D)} {vs : List (Key × V)} {ds : List (DKey × D)}, RepK K w more ps → RepK K w vs ds → (ds.map (·.1)).Nodup →
    RepK K w (L2.mergeK vs more) (ps.foldl (fun kvs p => dput kvs p.1 p.2) ds)
  | _, _, _, _, .nil, r, _ => r
  | _, _, _, _, .cons h rm, r, nd => by
    rw [List.foldl_cons]
    exact merge_of (vs := L2.putK _ _ _) rm (RepK.put h _ r nd) (nodup_dput _ _ _ nd)
theorem sf_dictOf {n : Str} {p : Pos} (hc : X.calm = true) (hg : Gl X n) (hm : X.mg n = none) (hv : bootBuiltins n = some (.type "dict")) (ha : SP' X c a x)
    (hn : n ≠ "__name__" := by decide +kernel) (hdb : (n == ("__debug__" : Str)) = false := by decide +kernel) (he : starEach [a] X.env = [(false, eval a X.env)] := by rfl) : SF X c (.Call (.Name n p) [a] [] pos) (.dictOf x) := by
  refine PE.imp (pe_callTy (call_dictP hc) hg hm hv (pa_cons ha pa_nil he) hn hdb he rfl) ?_
  rintro σ H Q ⟨ρ, M, w, H0, s, en, q⟩
  unfold evf at q
  refine call1 s en q ?_
  intro v H1 w1 M1 d e1 s1 r1 p1
  split at p1
  · obtain ⟨d, hd, p2⟩ := p1.of
    simp only [Option.map_eq_some_iff] at hd
    obtain ⟨ps, hps, rfl⟩ := hd
    obtain ⟨l, vs, rfl, h1, k1⟩ := rp_lst s1 r1
    obtain ⟨as, kvs, rfl, h2, h3⟩ := pairs_of s1 k1 hps
    exact ⟨l, as, kvs, rfl, h1, h2, fun p hp => p2 _ _ _ (Ext.laid s1 hp) (s1.laid hp) ⟨p, rfl, Own.laid s1 hp (.dic (merge_of h3 .nil List.nodup_nil)), e1.th _ hp⟩⟩
  · exact p1.elim
/-! ### sorted texts -/
theorem tx_map_inj : ∀ {a b : List S}, a.map tx = b.map tx → a = b
  | [], [], _ => rfl
  | [], _ :: _, e => by cases e
  | _ :: _, [], e => by cases e
  | x :: a, y :: b, e => by
    rw [List.map_cons, List.map_cons] at e
    injection e with e1 e2
    rw [tx_inj e1, tx_map_inj e2]
def leS (s t : S) : Prop := ltS t s = false
theorem ltS_irr (s : S) : ltS s s = false := by rw [ltS_iff]; simp [List.lt_irrefl]
theorem leS_trans {a b c : S} (h1 : leS a b) (h2 : leS b c) : leS a c := by
  unfold leS at *
  rw [ltS_iff] at *
  simp only [decide_eq_false_iff_not, List.not_lt] at *
  exact List.le_trans h1 h2
theorem leS_anti {a b : S} (h1 : leS a b) (h2 : leS b a) : a = b := by
  unfold leS at *
  rw [ltS_iff] at *
  simp only [decide_eq_false_iff_not, List.not_lt] at *
  exact List.le_antisymm h1 h2
theorem leS_total (a b : S) : leS a b ∨ leS b a := by
  unfold leS
  rw [ltS_iff, ltS_iff]
  simp only [decide_eq_false_iff_not, List.not_lt]
  exact List.le_total a b
theorem leS_of_lt {a b : S} (h : ltS a b = true) : leS a b := by
  rcases leS_total a b with z | z
  · exact z
  · unfold leS at z; rw [h] at z; cases z
theorem insS_perm (s : S) : ∀ l : List S, (insS s l).Perm (s :: l)
  | [] => .refl _
  | t :: r => by
    unfold insS
    split
    · exact ((insS_perm s r).cons t).trans (.swap s t r)
    · exact .refl _
theorem sortS_perm : ∀ l : List S, (sortS l).Perm l
  | [] => .refl _
  | s :: r => (insS_perm s (sortS r)).trans ((sortS_perm r).cons s)
theorem insS_sorted (s : S) : ∀ {l : List S}, l.Pairwise leS → (insS s l).Pairwise leS
  | [], _ => List.pairwise_cons.mpr ⟨fun _ h => (by cases h), .nil⟩
  | t :: r, h => by
    unfold insS
    have h' := List.pairwise_cons.mp h
    split
    · rename_i hl
      refine List.pairwise_cons.mpr ⟨fun u hu => ?_, insS_sorted s h'.2⟩
      rcases List.mem_cons.mp ((insS_perm s r).mem_iff.mp hu) with e | e
      · rw [e]; exact leS_of_lt hl
      · exact h'.1 u e
    · rename_i hl
      have hs : leS s t := by unfold leS; simpa using hl
      refine List.pairwise_cons.mpr ⟨fun u hu => ?_, h⟩
      rcases List.mem_cons.mp hu with e | e
      · rw [e]; exact hs
      · exact leS_trans hs (h'.1 u e)
theorem sortS_sorted : ∀ l : List S, (sortS l).Pairwise leS
  | [] => .nil
  | s :: r => insS_sorted s (sortS_sorted r)
theorem ltCps_S : ∀ s t : S, PySem.Spec.ltCps s t = ltS s t
  | [], [] => rfl
  | [], _ :: _ => rfl
  | _ :: _, [] => rfl
  | a :: s, b :: t => by
    rw [PySem.Spec.ltCps, ltS, ltCps_S s t]
    rfl
theorem rising_pw : ∀ (ss : List S) (p : S), PyProof.Rows.risingS (tx p) (ss.map tx) = true → (p :: ss).Pairwise leS
  | [], p, _ => List.pairwise_cons.mpr ⟨fun _ h => (by cases h), .nil⟩
  | x :: r, p, h => by
    rw [List.map_cons, PyProof.Rows.risingS, Bool.and_eq_true] at h
    have ih := rising_pw r x h.2
    have hp : leS p x := by
      have := h.1
      rw [show (tx x).cps.toList = x by simp [tx], show (tx p).cps.toList = p by simp [tx], ltCps_S] at this
      unfold leS
      simpa using this
    refine List.pairwise_cons.mpr ⟨fun u hu => ?_, ih⟩
    rcases List.mem_cons.mp hu with e | e
    · rw [e]; exact hp
    · exact leS_trans hp ((List.pairwise_cons.mp ih).1 u e)
theorem sorted_pw {ss : List S} (h : PyProof.Rows.sortedS (ss.map tx) = true) : ss.Pairwise leS := by
  cases ss with
  | nil => exact .nil
  | cons x r => exact rising_pw r x h
theorem back_tx (z : Str) : ∃ s : S, z = tx s := ⟨z.cps.toList, by unfold tx; simp⟩
theorem backs_tx : ∀ l : List Str, ∃ ss : List S, l = ss.map tx
  | [] => ⟨[], rfl⟩
  | z :: r => by
    obtain ⟨s, rfl⟩ := back_tx z
    obtain ⟨ss, rfl⟩ := backs_tx r
    exact ⟨s :: ss, rfl⟩
theorem perm_tx : ∀ {a b : List S}, (a.map tx).Perm (b.map tx) → a.Perm b := by
  intro a b h
  have := h.map (fun z : Str => z.cps.toList)
  rw [List.map_map, List.map_map] at this
  have e : ∀ l : List S, l.map ((fun z : Str => z.cps.toList) ∘ tx) = l := fun l => by
    refine (List.map_congr_left fun s _ => ?_).trans (List.map_id l)
    simp [tx]
  rwa [e, e] at this
theorem sorted_is {ys : List Str} {ss : List S} (hp : ys.Perm (ss.map tx)) (hs : PyProof.Rows.sortedS ys = true) : ys = (sortS ss).map tx := by
  obtain ⟨zs, rfl⟩ := backs_tx ys
  have p : zs.Perm (sortS ss) := (perm_tx hp).trans (sortS_perm ss).symm
  rw [List.Perm.eq_of_pairwise (fun a b _ _ h1 h2 => leS_anti h1 h2) (sorted_pw hs) (sortS_sorted ss) p]
/-- sorted(xs) of texts, however many -/
theorem cr_sortedT : CallR X (.builtin "sorted") (fun vs H Q => ∃ (l : Addr) (ss : List S), vs = [V.ref l] ∧ SqL X.K H l ((ss.map tx).map V.str) ∧ ∀ p, H p = none → Q (.ref p) (upd H p (.lst (((sortS ss).map tx).map V.str)))) := by
  rintro pins s σ H vs us Q I r ⟨l, ss, rfl, hs, q⟩
  obtain ⟨its, rv, hl, hz⟩ := I.list hs
  obtain ⟨u, rfl, rx⟩ := vals1 r
  obtain rfl : u = Value.ref l := rx
  have hlen : its.length ≤ sizeLine := by rw [← rv.length]; exact hz
  refine PyProof.Rows.sorted_strsAny hl.isList rv.strs hlen fun out ys h1 h2 h3 => ?_
  obtain ⟨ep, he⟩ := PyProof.Rows.sortedAll_at s.heap its out
  have e := sorted_is h2 h3
  subst e
  have hz' : (((sortS ss).map tx).map V.str).length ≤ sizeLine := by
    rw [List.length_map, h2.length_eq]; rw [List.length_map] at hz; exact hz
  have J := I.laid (a := s.heap.objs.size + 1) (o := .lst (((sortS ss).map tx).map V.str)) (t' := s.toks) (fun _ _ => PyProof.Rows.sortedAll_old) (Nat.le_succ _) ⟨hz', out.toList, ep, vals_of_strs h1, he⟩
  exact ⟨V.ref (s.heap.objs.size + 1), _, J, rfl, q _ (I.hok.fresh (Nat.le_succ _))⟩
theorem keys_strs {K : Frag} {w : Vw} : ∀ {vs : List (Key × V)} {kvs : List (DKey × D)} {ss : List S}, RepK K w vs kvs → strsD (kvs.map fun p => keyD p.1) = some ss → vs.map (·.1) = (ss.map tx).map Sum.inr
  | _, _, _, .nil, e => by cases e; rfl
  | _, _, _, .cons (k := k) h r, e => by
    rw [List.map_cons] at e
    cases k with
    | inl i => cases e
    | inr t =>
      simp only [keyD, strsD, Option.map_eq_some_iff] at e
      obtain ⟨ss, e, rfl⟩ := e
      rw [List.map_cons, keys_strs r e]
      rfl
/-- sorted(d) of a record, however many names -/
theorem cr_sortedK (hcalm : X.calm = true) : CallR X (.builtin "sorted") (fun vs H Q => ∃ (l : Addr) (kvs : List (Key × V)) (ss : List S), vs = [V.ref l] ∧ Rd H l (.dK kvs) ∧ kvs.map (·.1) = (ss.map tx).map Sum.inr ∧
    ∀ p, H p = none → Q (.ref p) (upd H p (.lst (((sortS ss).map tx).map V.str)))) := by
  rintro pins s σ H vs us Q I r ⟨l, kvs, ss, rfl, hd, hks, q⟩
  obtain ⟨u, rfl, rx⟩ := vals1 r
  obtain rfl : u = Value.ref l := rx
  obtain ⟨hz, lo, ps, rel, dd⟩ := dk_rd I.hok hd
  obtain ⟨ep, hat⟩ := dd.dictAt
  have hkeys : ps.map (·.1) = (ss.map tx).map Sum.inr := rel.keys.symm.trans hks
  have hn : ps.length = (ss.map tx).length := by simpa using congrArg List.length hkeys
  have hm : ps.length ≤ sizeLine := by rw [← rel.length]; exact hz
  refine Calls.call_function_entry PyProof.Rows.kind_sorted PyProof.Rows.plain_sorted PyProof.Rows.entry_sorted (PyProof.Rows.args_sorted1 (.ref l)) ?_
  unfold Builtin.«sorted»
  refine wpAny_bind (m := checkCount "sorted" 1 1 _) (wpAny_pure ?_)
  refine wpAny_bind (PySem.W.kdu_collect (A := X.A.in1) (PySem.W.kdl_dict (knd := mixKind X.prog X.w) (kvs := ps) (ep := ep) lo) (I.ok.hd hcalm) hat hm fun h' tk acc hk hacc => ?_)
  have hal : acc.toList.length = (ss.map tx).length := by rw [Array.length_toList, hacc.1, hn]
  have hS : PyProof.Rows.StrsAre acc.toList (ss.map tx) := by
    refine strs_at hal fun j v e => ?_
    rw [Array.getElem?_toList] at e
    obtain ⟨k, y, e1, e2⟩ := hacc.2 j v e
    have e3 : ((ss.map tx).map (Sum.inr : Str → Key))[j]? = some k := by rw [← hkeys, List.getElem?_map, e1]; rfl
    rw [List.getElem?_map, Option.map_eq_some_iff] at e3
    obtain ⟨z, e4, rfl⟩ := e3
    obtain ⟨t, ev⟩ := Value.isStrOf_shape (x := z) (v := v) e2
    exact ⟨z, t, e4, ev⟩
  have hlen : acc.toList.length ≤ sizeLine := by rw [hal, ← hn]; exact hm
  have I1 : Inv X pins σ H { s with heap := h', toks := tk } := I.kept hk
  refine wpAny_bind (wpAny_newList ?_ hlen)
  have ho : (h'.push (PyProof.Rows.seqObj "list" acc.toList.toArray 0)).get? h'.objs.size = some (PyProof.Rows.seqObj "list" acc.toList.toArray 0) := Heap.get?_push_size _ rfl
  show wpAny _ _ _ _ _ { s with heap := h'.push (PyProof.Rows.seqObj "list" acc.toList.toArray 0), toks := tk }
  refine wpAny_bind (wpAny_holding (wpAny_call_entry PyProof.Rows.slot_list_sort ⟨_, ho, rfl⟩ PyProof.Rows.entry_list_sort ?_ (PyProof.Rows.args_list_sort _)))
  refine PyProof.Rows.list_sort_treeKAny PyProof.Rows.strKind_oneLt (s := { s with heap := h'.push (PyProof.Rows.seqObj "list" acc.toList.toArray 0), toks := tk }) ho hS.keysOf (fun v₁ v₂ rest e => PyProof.Rows.keyKind_strs (by rw [← e]; exact hS)) hlen fun st hp hs => ⟨_, rfl, ?_⟩
  obtain ⟨ys, g1, g2, g3⟩ := PyProof.Rows.sorted_out_str hS hp hs
  have e := sorted_is g2 g3
  subst e
  obtain ⟨ep', he⟩ := PyProof.Rows.sortedHeap_at (vs := acc.toList) (out := (PyProof.Rows.arrOf st).map (·.2)) ho
  have hz' : (((sortS ss).map tx).map V.str).length ≤ sizeLine := by
    rw [List.length_map, g2.length_eq, ← hn]; exact hm
  have J := I1.laid (a := h'.objs.size) (o := .lst (((sortS ss).map tx).map V.str)) (t' := tk) (h' := PyProof.Rows.sortedHeap (h'.push (PyProof.Rows.seqObj "list" acc.toList.toArray 0)) h'.objs.size acc.toList ((PyProof.Rows.arrOf st).map (·.2))) (fun b u z => by
    have hb : b < h'.objs.size := Heap.lt_size z
    rw [PyProof.Rows.sortedHeap_old (Nat.ne_of_lt hb) (by rw [PyProof.Rows.size_push']; exact Nat.lt_succ_of_lt hb)]
    exact Heap.get?_push_of_some _ z) (Nat.le_refl _) ⟨hz', ((PyProof.Rows.arrOf st).map (·.2)).toList, ep', vals_of_strs g1, by rw [Array.toArray_toList]; exact he⟩
  exact wpAny_pure ⟨_, rfl, V.ref h'.objs.size, _, J, rfl, q _ (I1.hok.fresh (Nat.le_refl _))⟩
theorem sf_sorted {n : Str} {p : Pos} (hc : X.calm = true) (hg : Gl X n) (hm : X.mg n = none) (hv : bootBuiltins n = some (.builtin "sorted")) (ha : SP' X c a x)
    (hn : n ≠ "__name__" := by decide +kernel) (hdb : (n == ("__debug__" : Str)) = false := by decide +kernel) (he : starEach [a] X.env = [(false, eval a X.env)] := by rfl) : SF X c (.Call (.Name n p) [a] [] pos) (.sorted x) := by
  refine PE.imp (pe_callB (CallR.or cr_sortedT (cr_sortedK hc)) hg hm hv (pa_cons ha pa_nil he) hn hdb he rfl) ?_
  rintro σ H Q ⟨ρ, M, w, H0, s, en, q⟩
  unfold evf at q
  refine call1 s en q ?_
  intro v H1 w1 M1 d e1 s1 r1 p1
  have fin : ∀ (ss : List S) (w : Vw), Reps X.K w (((sortS ss).map tx).map V.str) ((sortS ss).map .str) := by
    intro ss w
    induction sortS ss with
    | nil => exact .nil
    | cons t r ih => exact .cons (.str t) ih
  split at p1
  · obtain ⟨d, hd, p2⟩ := p1.of
    simp only [Option.map_eq_some_iff] at hd
    obtain ⟨ss, hss, rfl⟩ := hd
    obtain ⟨l, vs, rfl, h1, k1⟩ := rp_lst s1 r1
    rw [strs_of k1 hss] at h1
    exact .inl ⟨l, ss, rfl, h1, fun p hp => p2 _ _ _ (Ext.laid s1 hp) (s1.laid hp) ⟨p, rfl, Own.laid s1 hp (.lst (fin ss w1)), e1.th _ hp⟩⟩
  · obtain ⟨d, hd, p2⟩ := p1.of
    simp only [Option.map_eq_some_iff] at hd
    obtain ⟨ss, hss, rfl⟩ := hd
    obtain ⟨l, vs, rfl, h1, k1⟩ := con_dic (M := M1) s1 r1 rfl
    exact .inr ⟨l, vs, ss, rfl, h1, keys_strs k1 hss, fun p hp => p2 _ _ _ (Ext.laid s1 hp) (s1.laid hp) ⟨p, rfl, Own.laid s1 hp (.lst (fin ss w1)), e1.th _ hp⟩⟩
  · exact p1.elim
/-! ### min(xs, default=d) -/
theorem ck_min (hc : X.calm = true) (hu : X.A.units + 1 < cLine) : CallRK X (.builtin "min") [Str.ofString "default"] (fun vs zs H Q => ∃ (l : Addr) (ns : List Int) (z : V), vs = [V.ref l] ∧ zs = [z] ∧ SqL X.K H l (ns.map V.int) ∧
    Q (match ns.min? with | some m => .int m | none => z) H) := by
  rintro pins s σ H vs zs us ws Q I r rz ⟨l, ns, z, rfl, rfl, hs, q⟩
  obtain ⟨its, rv, hl, hz⟩ := I.list hs
  obtain ⟨u, rfl, rx⟩ := vals1 r
  obtain rfl : u = Value.ref l := rx
  obtain ⟨d, rfl, rd⟩ := vals1 rz
  refine PySem.W.min_list_datum_default (α := Int) (d := d) (xs := ns) (I.ok.hd hc) hl.isList (by simpa using PySem.W.HoldAll.of_ints (intsAre_of rv)) hu (fun e h' tk k => ?_) fun y ys i v h' tk e hi hv k => ?_
  · subst e
    exact ⟨z, H, I.kept k, rd, q⟩
  · subst e
    obtain ⟨as, rds⟩ := hv
    have hm : PySem.W.minOf y ys = ys.foldl min y := by
      unfold PySem.W.minOf
      congr 1
      funext a b
      show (if decide (b < a) = true then b else a) = min a b
      by_cases h : b < a
      · rw [if_pos (by simpa using h)]; omega
      · rw [if_neg (by simpa using h)]; omega
    rw [hm] at rds
    have hq : Q (.int (ys.foldl min y)) H := q
    cases rds with
    | int n t => exact ⟨.int _, H, I.kept k, ⟨_, rfl⟩, hq⟩
theorem se_minD {n kn : Str} {p kp : Pos} (hkn : kn = "default") (hc : X.calm = true) (hu : X.A.units + 1 < cLine) (hg : Gl X n) (hm : X.mg n = none) (hv : bootBuiltins n = some (.builtin "min")) (ha : SP' X c a x) (hb : SE X c b y)
    (hn : n ≠ "__name__" := by decide +kernel) (hdb : (n == ("__debug__" : Str)) = false := by decide +kernel) (hs : starEach [a] X.env = [(false, eval a X.env)] := by rfl)
    (he : backTo pos (starEach [a] X.env) = (false, eval a X.env) :: backTo pos (starEach [] X.env) := by rfl) (hpl : (backTo pos (starEach [a] X.env)).any (·.1) = false := by rfl)
    (hall : (backToKw pos (keywordEach [⟨some kn, b, kp⟩] X.env)).all (·.1.isSome) = true := by rfl) (hnone : (backToKw pos (keywordEach [⟨some kn, b, kp⟩] X.env)).any (·.1.isNone) = false := by rfl) (hks : (backToKw pos (keywordEach [⟨some kn, b, kp⟩] X.env)).filterMap (·.1) = [kn] := by rfl) :
    SE X c (.Call (.Name n p) [a] [⟨some kn, b, kp⟩] pos) (.minD x y) := by
  subst hkn
  refine PE.imp (pe_callBK (ck_min hc hu) hg hm hv (pa_cons ha pa_nil hs) (pk_cons hb pk_nil) hn hdb he hpl hall hnone hks) ?_
  rintro σ H Q ⟨ρ, M, w, H0, s, en, q⟩
  unfold ev at q
  refine ⟨ρ, M, w, H0, s, en, step en q ?_⟩
  intro v H1 w1 M1 d e1 s1 en1 r1 p1
  refine ⟨ρ, M1, w1, H0, s1, en1, step en1 p1 ?_⟩
  intro u H2 w2 M2 d' e2 s2 en2 r2 p2
  split at p2
  · obtain ⟨r, hr, p3⟩ := p2.of
    simp only [Option.map_eq_some_iff] at hr
    obtain ⟨ns, hns, rfl⟩ := hr
    obtain ⟨l, vs, rfl, h1, k1⟩ := rp_lst s2 (RP.ext r1 e2)
    rw [ints_of k1 hns] at h1
    refine ⟨l, ns, u, rfl, rfl, h1, ?_⟩
    cases hm : ns.min? with
    | none => rw [hm] at p3; exact p3.done s2 r2
    | some m => rw [hm] at p3; exact p3.done s2 (.int m)
  · exact p2.elim
/-! ### methods of texts -/
theorem starts_tx (s t : S) : Txt.startswith (tx s) (tx t) = t.isPrefixOf s := by
  rw [Bool.eq_iff_iff, List.isPrefixOf_iff_prefix]
  unfold Txt.startswith Builtin.Str.subAt
  rw [tx_length, tx_length, Bool.and_eq_true, decide_eq_true_eq, beq_iff_eq]
  have e : ((tx s).cps.extract 0 (0 + t.length) = (tx t).cps) ↔ s.take t.length = t := by
    unfold tx
    rw [← Array.toList_inj]
    simp
  rw [e]
  constructor
  · rintro ⟨_, h⟩
    refine ⟨s.drop t.length, ?_⟩
    have z := List.take_append_drop t.length s
    rw [h] at z
    exact z
  · rintro ⟨r, rfl⟩
    exact ⟨by simp, by simp⟩
theorem mb_starts : MtR X "str.startswith" (rM X.K startsD) := by
  refine MtR.weak mt_startswith ?_
  rintro x xs H Q ⟨w, M, y, d1, d2, r, rfl, sr, r1, r2, e, q⟩
  unfold startsD at e
  split at e <;> cases e
  cases r1
  cases rp_str r2
  refine ⟨_, _, rfl, rfl, ?_⟩
  rw [starts_tx]
  exact q.here sr (.bl _)
theorem se_mth {id : String} {name : Str} {apos : Pos} {m : Mth} (slot : Slot "str" name id) (ty : typeOf (.builtin id) = pure (.type "method_descriptor")) (rule : MtR X id (rM X.K (mthD m))) (ho : SE X c a x) (hb : SP' X c b y)
    (hs : starEach [b] X.env = [(false, eval b X.env)] := by rfl) (hbase : attributeBase a name X.env (eval a X.env) = eval a X.env := by rfl) (hline : (apos.endLine == pos.line) = true := by rfl) :
    SE X c (.Call (.Attribute a name apos) [b] [] pos) (.mth m x y) := by
  refine PE.imp (pe_m1 slot ty rule ho hb hs hbase hline) ?_
  rintro σ H Q ⟨ρ, M, w, H0, s, en, q⟩
  unfold ev at q
  refine ⟨ρ, M, w, H0, s, en, step en q ?_⟩
  intro v H1 w1 M1 d e1 s1 en1 r1 p1
  split at p1
  · cases r1
    refine ⟨⟨_, rfl⟩, ρ, M1, w1, H0, s1, en1, step en1 p1 ?_⟩
    intro u H2 w2 M2 d' e2 s2 en2 r2 p2
    obtain ⟨r, hr, p3⟩ := p2.of
    exact ⟨w2, M2, u, _, d', r, rfl, s2, .str _, r2, hr, p3⟩
  · exact p1.elim
end
end Lp

set_option Elab.async false
set_option linter.all false
set_option maxRecDepth 100000
set_option maxHeartbeats 1000000
namespace Lp
open PySem L2
section
variable (K : Frag) (c : Ct)
def tS (s : SX) : TS := fun D σ H => ∃ ρ M w w0 H0, SR K M w H ∧ Ext w0 H0 w H ∧ EnvR K H0 w H σ ρ ∧ PostS K c.ca c.W w0 H0 (ex c.C s ρ M) D
def tSs (s : SXs) : TS := fun D σ H => ∃ ρ M w w0 H0, SR K M w H ∧ Ext w0 H0 w H ∧ EnvR K H0 w H σ ρ ∧ PostS K c.ca c.W w0 H0 (exs c.C s ρ M) D
end
abbrev SS (X : Cx) (c : Ct) (st : Stmt) (s : SX) : Prop := PS X st (tS X.K c s)
abbrev SSs (X : Cx) (c : Ct) (st : List Stmt) (s : SXs) : Prop := PSs X st (tSs X.K c s)
section
variable {X : Cx} {c : Ct} {e a b : Expr} {x y z : EX} {pos : Pos} {st : Stmt} {rest : List Stmt} {s : SX} {r : SXs}
theorem sss_nil : SSs X c [] .nil := PSs.imp pss_nil fun D σ H ⟨ρ, M, w, w0, H0, sr, xt, en, q⟩ => q _ _ _ xt sr en
theorem sss_cons (h1 : SS X c st s) (h2 : SSs X c rest r) : SSs X c (st :: rest) (.cons s r) := by
  refine PSs.imp (pss_cons h1 h2) ?_
  rintro D σ H ⟨ρ, M, w, w0, H0, sr, xt, en, q⟩
  refine ⟨ρ, M, w, w0, H0, sr, xt, en, ?_⟩
  unfold exs at q
  have q' := PostS.seq q
  generalize ex c.C s ρ M = fl at q'
  cases fl with
  | next ρ1 M1 =>
    intro σ' w' H' e1 s1 en1
    obtain ⟨w2, M2, ρ2, e2, s2, en2, p⟩ := q' σ' w' H' e1 s1 en1
    exact ⟨ρ2, M2, w2, w0, H0, s2, e2, en2, p⟩
  | ret d M1 => exact q'
  | brk ρ1 M1 => exact q'
  | cnt ρ1 M1 => exact q'
  | exc z ρ1 M1 => exact q'
  | stuck => exact q'
/-- a silent step: an own thing from now on still -/
theorem sss_frz {i : Nat} {sts : List Stmt} (h : SSs X c sts r) : SSs X c sts (.cons (.frz i) r) := by
  refine PSs.imp h ?_
  rintro D σ H ⟨ρ, M, w, w0, H0, sr, xt, en, q⟩
  unfold exs ex at q
  split at q
  · rename_i d hρ
    have hs := en.at_ i _ hρ
    generalize hx : σ[i]? = o at hs
    cases hs with
    | @own p _ ow hn =>
      obtain ⟨o, h1, h2, h3⟩ := sr.frz ow
      have g : Ge w (w.add p o) := Ge.add ow.free
      refine ⟨ρ.set i (.d d), M, w.add p o, w0, H0, h2, xt.frz ow hn, ?_, q⟩
      have hl := en.len
      have hi : i < ρ.length := (List.getElem?_eq_some_iff.mp hρ).1
      refine ⟨by simp [hl], fun j sl e => ?_, fun j k d1 d2 a hjk e1 e2 e3 => ?_⟩
      · by_cases hji : i = j
        · subst hji
          rw [List.getElem?_set_self hi] at e
          cases e
          rw [hx]
          exact .d h3
        · rw [List.getElem?_set_ne hji] at e
          have hs := en.at_ j sl e
          generalize hy : σ[j]? = oj at hs
          cases hs with
          | no => exact .no _
          | d r => exact .d (r.ge g)
          | @own a d' ow' n' =>
            have ne : a ≠ p := fun z => en.dis i j d d' p hji hρ e hx (by rw [hy, z])
            obtain ⟨u, q1, q2⟩ := ow'.ob
            exact .own ⟨by show upd w.G p o a = none; rw [upd_ne ne]; exact ow'.free, ow'.nocell, u, q1, q2.ge g⟩ n'
      · have n1 : i ≠ j := by rintro rfl; rw [List.getElem?_set_self hi] at e1; cases e1
        have n2 : i ≠ k := by rintro rfl; rw [List.getElem?_set_self hi] at e2; cases e2
        rw [List.getElem?_set_ne n1] at e1
        rw [List.getElem?_set_ne n2] at e2
        exact en.dis j k d1 d2 a hjk e1 e2 e3
  · exact q.elim
/-- a value, then the statement's rest -/
theorem stepS {α β : Type} {R : Vw → Hp → β → α → Prop} {K : Frag} {w w0 : Vw} {H H0 : Hp} {σ : St} {ρ : Fr} {r : Res α} {f : α → Mem → Flow} {D : Ends} {Q' : β → Hp → Prop} (xt : Ext w0 H0 w H) (en : EnvR K H0 w H σ ρ)
    (h : PostS K c.ca c.W w0 H0 (r.fl ρ f) D)
    (k : ∀ v H1 w1 M1 d, Ext w H w1 H1 → SR K M1 w1 H1 → Ext w0 H0 w1 H1 → EnvR K H0 w1 H1 σ ρ → R w1 H1 v d → PostS K c.ca c.W w0 H0 (f d M1) D → Q' v H1) : Post K c.ca R c.W w H σ r Q' := by
  refine (Post.fl (R := R) xt en h).imp ?_
  rintro v H1 ⟨w1, M1, d, e, s, q, p⟩
  exact k v H1 w1 M1 d e s (xt.trans e) (en.ext e) q p
theorem ss_pass : SS X c (.Pass pos) .pass := PS.imp ps_pass fun D σ H ⟨ρ, M, w, w0, H0, sr, xt, en, q⟩ => q _ _ _ xt sr en
theorem ss_expr (he : SE X c e x) (hs : swapsWith e none pos.line X.env = pure false := by rfl) : SS X c (.Expr e pos) (.expr x) := by
  refine PS.imp (ps_expr he hs) ?_
  rintro D σ H ⟨ρ, M, w, w0, H0, sr, xt, en, q⟩
  unfold ex at q
  exact ⟨ρ, M, w, H0, sr, en, stepS xt en q fun v H1 w1 M1 d e1 s1 x1 en1 r1 p1 => p1 _ _ _ x1 s1 en1⟩
theorem ss_ret (he : SE X c e x) : SS X c (.Return (some e) pos) (.ret x) := by
  refine PS.imp (ps_ret he) ?_
  rintro D σ H ⟨ρ, M, w, w0, H0, sr, xt, en, q⟩
  unfold ex at q
  exact ⟨ρ, M, w, H0, sr, en, stepS xt en q fun v H1 w1 M1 d e1 s1 x1 en1 r1 p1 => p1 _ _ _ x1 s1 r1⟩
theorem ss_retN : SS X c (.Return none pos) (.ret (.c .non)) := by
  refine PS.imp ps_retN ?_
  rintro D σ H ⟨ρ, M, w, w0, H0, sr, xt, en, q⟩
  unfold ex at q
  rw [ev] at q
  exact q _ _ _ xt sr .non
theorem ss_set {i : Nat} {n : Str} {pos' : Pos} (hN : X.N.Nodup) (hi : X.N[i]? = some n) (hx : Loc X.env.scope n) (he : SE X c e x) (hs : swapsWith e (some (.Name n pos')) pos.line X.env = pure false := by rfl)
    (hf : X.fn n = true ∨ X.env.scope.names.lookup n = some .local := by first | exact .inl rfl | exact .inr rfl | assumption) : SS X c (.Assign [.Name n pos'] e pos) (.set i x) := by
  refine PS.imp (ps_set hN hi hx he hs hf) ?_
  rintro D σ H ⟨ρ, M, w, w0, H0, sr, xt, en, q⟩
  unfold ex at q
  exact ⟨ρ, M, w, H0, sr, en, stepS xt en q fun v H1 w1 M1 d e1 s1 x1 en1 r1 p1 => p1 _ _ _ x1 s1 (en1.setD i r1)⟩
theorem EnvR.setOwn {K : Frag} {H0 : Hp} {w : Vw} {H : Hp} {σ : St} {ρ : Fr} (en : EnvR K H0 w H σ ρ) (i : Nat) {p : Addr} {d : D} (ow : Own K w H p d) (hn : H0 p = none) (hd : ∀ (j : Nat) (d' : D), ρ[j]? = some (.own d') → σ[j]? ≠ some (some (.ref p))) :
    EnvR K H0 w H (σ.set i (some (.ref p))) (ρ.set i (.own d)) := by
  have hl := en.len
  refine ⟨by simp [hl], fun j s e => ?_, fun j k d1 d2 a hjk e1 e2 e3 => ?_⟩
  · by_cases h : i = j
    · subst h
      have hi : i < ρ.length := by simpa using (List.getElem?_eq_some_iff.mp e).1
      rw [List.getElem?_set_self hi] at e
      cases e
      rw [List.getElem?_set_self (by omega)]
      exact .own ow hn
    · rw [List.getElem?_set_ne h] at e ⊢
      exact en.at_ j s e
  · by_cases h1 : i = j
    · subst h1
      have hi : i < ρ.length := by simpa using (List.getElem?_eq_some_iff.mp e1).1
      rw [List.getElem?_set_self (by omega)] at e3
      cases e3
      rw [List.getElem?_set_ne hjk] at e2 ⊢
      exact hd k d2 e2
    · rw [List.getElem?_set_ne h1] at e1 e3
      by_cases h2 : i = k
      · subst h2
        have hi : i < ρ.length := by simpa using (List.getElem?_eq_some_iff.mp e2).1
        rw [List.getElem?_set_self (by omega)]
        intro z
        cases z
        exact hd j d1 e1 e3
      · rw [List.getElem?_set_ne h2] at e2 ⊢
        exact en.dis j k d1 d2 a hjk e1 e2 e3
theorem ss_own {i : Nat} {n : Str} {pos' : Pos} {f : FX} (hN : X.N.Nodup) (hi : X.N[i]? = some n) (hx : Loc X.env.scope n) (he : SF X c e f) (hs : swapsWith e (some (.Name n pos')) pos.line X.env = pure false := by rfl)
    (hf : X.fn n = true ∨ X.env.scope.names.lookup n = some .local := by first | exact .inl rfl | exact .inr rfl | assumption) : SS X c (.Assign [.Name n pos'] e pos) (.own i f) := by
  refine PS.imp (ps_set hN hi hx he hs hf) ?_
  rintro D σ H ⟨ρ, M, w, w0, H0, sr, xt, en, q⟩
  unfold ex at q
  refine ⟨ρ, M, w, H0, sr, en, stepS xt en q ?_⟩
  rintro v H1 w1 M1 d e1 s1 x1 en1 ⟨p, rfl, ow, hp⟩ p1
  refine p1 _ _ _ x1 s1 (EnvR.setOwn en1 i ow (xt.th _ hp) fun j d' hj hσ => ?_)
  have hs := en.at_ j _ hj
  rw [hσ] at hs
  cases hs with
  | own ow' n' =>
    obtain ⟨o, h1, _⟩ := ow'.ob
    rw [hp] at h1; cases h1
theorem ss_ite {A B : List Stmt} {sa sb : SXs} (he : ST X c e x) (ha : SSs X c A sa) (hb : SSs X c B sb) : SS X c (.If e A B pos) (.ite x sa sb) := by
  refine PS.imp (ps_if he ha hb) ?_
  rintro D σ H ⟨ρ, M, w, w0, H0, sr, xt, en, q⟩
  unfold ex at q
  have e1 : ((ev c.C x ρ M).fl ρ fun d M1 => (asB d M1).fl ρ fun k M2 => if k = true then exs c.C sa ρ M2 else exs c.C sb ρ M2) = ((ev c.C x ρ M).bind asB).fl ρ fun k M2 => if k = true then exs c.C sa ρ M2 else exs c.C sb ρ M2 := by
    cases ev c.C x ρ M <;> rfl
  rw [e1] at q
  refine ⟨ρ, M, w, H0, sr, en, stepS xt en q ?_⟩
  intro k H1 w1 M1 d e1 s1 x1 en1 r1 p1
  cases r1
  cases k with
  | true => exact ⟨ρ, M1, w1, w0, H0, s1, x1, en1, p1⟩
  | false => exact ⟨ρ, M1, w1, w0, H0, s1, x1, en1, p1⟩
/-! ### things changed -/
/-- a place is changed: what must be known of it, and what is known behind -/
theorem change_own {K : Frag} {w w0 : Vw} {H H0 : Hp} {σ : St} {ρ : Fr} {M : Mem} {i : Nat} {d d' : D} {p : Addr} {o' : HO} (sr : SR K M w H) (xt : Ext w0 H0 w H) (en : EnvR K H0 w H σ ρ) (hρ : ρ[i]? = some (.own d)) (hσ : σ[i]? = some (some (.ref p))) (cr : CR K w o' d') :
    SR K M w (upd H p o') ∧ Ext w0 H0 w (upd H p o') ∧ EnvR K H0 w (upd H p o') σ (ρ.set i (.own d')) := by
  have hs := en.at_ i _ hρ
  rw [hσ] at hs
  cases hs with
  | own ow hn =>
    have hi : i < ρ.length := (List.getElem?_eq_some_iff.mp hρ).1
    refine ⟨⟨sr.len, fun a u h => ?_, fun k hk => ?_, fun k d2 h n => ?_, sr.inj⟩, ⟨xt.nn, xt.ph, xt.gg, fun a h => xt.th a (upd_none h).2, fun a u h1 h2 h3 => ?_⟩, ⟨by simp [en.len], fun j sl e => ?_, fun j k d1 d2 a hjk e1 e2 e3 => ?_⟩⟩
    · rw [upd_ne (fun z => by rw [z, ow.free] at h; cases h)]; exact sr.sub _ _ h
    · rw [upd_ne (ow.nocell k hk)]; exact sr.there k hk
    · obtain ⟨q1, u, q2, q3⟩ := sr.cel k d2 h n
      exact ⟨q1, u, by rw [upd_ne (ow.nocell k (by rw [← sr.len]; exact (List.getElem?_eq_some_iff.mp h).1))]; exact q2, q3⟩
    · obtain ⟨z1, z2, z3⟩ := xt.fr a u h1 h2 h3
      exact ⟨by rw [upd_ne (ne_of_none h1 hn)]; exact z1, z2, z3⟩
    · by_cases hji : i = j
      · subst hji
        rw [List.getElem?_set_self hi] at e
        cases e
        rw [hσ]
        exact .own ⟨ow.free, ow.nocell, o', upd_same, cr⟩ hn
      · rw [List.getElem?_set_ne hji] at e
        have hs := en.at_ j sl e
        generalize hy : σ[j]? = oj at hs
        cases hs with
        | no => exact .no _
        | d r => exact .d r
        | @own a d2 ow' n' =>
          have ne : a ≠ p := fun z => en.dis i j d d2 p hji hρ e hσ (by rw [hy, z])
          obtain ⟨u, q1, q2⟩ := ow'.ob
          exact .own ⟨ow'.free, ow'.nocell, u, by rw [upd_ne ne]; exact q1, q2⟩ n'
    · have key : ∀ (l : Nat) (dl : D), (ρ.set i (.own d'))[l]? = some (.own dl) → ∃ dl', ρ[l]? = some (.own dl') := fun l dl h => by
        by_cases hl : i = l
        · subst hl; exact ⟨d, hρ⟩
        · rw [List.getElem?_set_ne hl] at h; exact ⟨dl, h⟩
      obtain ⟨d1', f1⟩ := key j d1 e1
      obtain ⟨d2', f2⟩ := key k d2 e2
      exact en.dis j k d1' d2' a hjk f1 f2 e3
/-- a cell is changed -/
theorem change_cell {K : Frag} {w w0 : Vw} {H H0 : Hp} {σ : St} {ρ : Fr} {M : Mem} {k : Nat} {d d' : D} {o' : HO} (sr : SR K M w H) (xt : Ext w0 H0 w H) (en : EnvR K H0 w H σ ρ) (hk : M[k]? = some d) (hd : d ≠ .non) (hd' : d' ≠ .non) (cr : CR K w o' d') :
    SR K (M.set k d') w (upd H (w.φ k) o') ∧ Ext w0 H0 w (upd H (w.φ k) o') ∧ EnvR K H0 w (upd H (w.φ k) o') σ ρ := by
  have hkl : k < M.length := (List.getElem?_eq_some_iff.mp hk).1
  obtain ⟨q1, u, q2, q3⟩ := sr.cel k d hk hd
  have hkn : k < w.n := by rw [← sr.len]; exact hkl
  have get : ∀ (l : Nat) (dl : D), (M.set k d')[l]? = some dl → (l = k ∧ dl = d') ∨ (l ≠ k ∧ M[l]? = some dl) := fun l dl h => by
    by_cases hl : k = l
    · subst hl
      rw [List.getElem?_set_self hkl] at h
      cases h
      exact .inl ⟨rfl, rfl⟩
    · rw [List.getElem?_set_ne hl] at h
      exact .inr ⟨Ne.symm hl, h⟩
  refine ⟨⟨by simp [sr.len], fun a v h => ?_, fun l hl => ?_, fun l dl h n => ?_, fun l l' dl dl' h h' n n' e => ?_⟩, ⟨xt.nn, xt.ph, xt.gg, fun a h => xt.th a (upd_none h).2, fun a v h1 h2 h3 => ?_⟩, ⟨en.len, fun j sl e => ?_, en.dis⟩⟩
  · rw [upd_ne (fun z => by rw [z, q1] at h; cases h)]; exact sr.sub _ _ h
  · by_cases e : w.φ l = w.φ k
    · exact ⟨o', by rw [e]; exact upd_same⟩
    · obtain ⟨v, z⟩ := sr.there l hl
      exact ⟨v, by rw [upd_ne e]; exact z⟩
  · rcases get l dl h with ⟨rfl, rfl⟩ | ⟨hl, h⟩
    · exact ⟨q1, o', upd_same, cr⟩
    · obtain ⟨z1, v, z2, z3⟩ := sr.cel l dl h n
      exact ⟨z1, v, by rw [upd_ne (fun e => hl (sr.inj l k dl d h hk n hd e))]; exact z2, z3⟩
  · rcases get l dl h with ⟨e1, _⟩ | ⟨_, g1⟩
    · rcases get l' dl' h' with ⟨e2, _⟩ | ⟨_, g2⟩
      · rw [e1, e2]
      · subst e1; exact sr.inj _ _ d dl' hk g2 hd n' e
    · rcases get l' dl' h' with ⟨e2, _⟩ | ⟨_, g2⟩
      · subst e2; exact sr.inj _ _ dl d g1 hk n hd e
      · exact sr.inj _ _ dl dl' g1 g2 n n' e
  · obtain ⟨z1, z2, z3⟩ := xt.fr a v h1 h2 h3
    exact ⟨by rw [upd_ne (fun z => z3 k hkn z.symm)]; exact z1, z2, z3⟩
  · have hs := en.at_ j sl e
    generalize hy : σ[j]? = oj at hs
    cases hs with
    | no => exact .no _
    | d r => exact .d r
    | @own a d2 ow' n' =>
      obtain ⟨v, z1, z2⟩ := ow'.ob
      exact .own ⟨ow'.free, ow'.nocell, v, by rw [upd_ne (fun z => ow'.nocell k hkn z.symm)]; exact z1, z2⟩ n'
/-- a change of a place p, whose value is v: f on its content, g on its object -/
theorem change_core {K : Frag} {w w0 : Vw} {H H0 : Hp} {σ : St} {ρ : Fr} {M : Mem} {E : Ends} {p : EX} {v : V} {f : Lp.D → Option Lp.D} (sr : SR K M w H) (xt : Ext w0 H0 w H) (en : EnvR K H0 w H σ ρ)
    (hv : ∃ d0 M0, ev c.C p ρ M = .ok d0 M0 ∧ RP K w H v d0 ∧ ∀ i, p = .peek i → σ[i]? = some (some v)) (hf : ∀ d', f d' ≠ some .non) (hn0 : f .non = none)
    (q : PostS K c.ca c.W w0 H0 (change p f c.C ρ M) E) : ∃ (a : Addr) (o : HO) (d d' : Lp.D), v = .ref a ∧ H a = some o ∧ CR K w o d ∧ f d = some d' ∧ ∀ o', CR K w o' d' → E.nx σ (upd H a o') := by
  obtain ⟨d0, M0, he, r, hp⟩ := hv
  unfold change at q
  split at q
  · rename_i i
    split at q
    · rename_i d hρ
      split at q
      · rename_i d' hfd
        have hσ := hp i rfl
        have hs := en.at_ i _ hρ
        rw [hσ] at hs
        cases hs with
        | @own a _ ow hn =>
          obtain ⟨o, h1, h2⟩ := ow.ob
          refine ⟨a, o, d, d', rfl, h1, h2, hfd, fun o' cr => ?_⟩
          obtain ⟨s1, x1, en1⟩ := change_own sr xt en hρ hσ cr
          exact q _ _ _ x1 s1 en1
      · exact q.elim
    · exact q.elim
  · rename_i i
    split at q
    · rename_i k hρ
      split at q
      · rename_i d hk
        split at q
        · rename_i d' hfd
          unfold ev at he
          rw [hρ] at he
          cases he
          have hd : d ≠ .non := fun z => by
            subst z
            rw [hn0] at hfd; cases hfd
          have ek : v = .ref (w.φ k) := by
            rcases r with r | ⟨b, rfl, ow⟩
            · cases r; rfl
            · obtain ⟨o, _, h2⟩ := ow.ob; cases h2
          subst ek
          obtain ⟨q1, o, q2, q3⟩ := sr.cel k d hk hd
          refine ⟨w.φ k, o, d, d', rfl, q2, q3, hfd, fun o' cr => ?_⟩
          obtain ⟨s1, x1, en1⟩ := change_cell sr xt en hk hd (fun z => hf d (z ▸ hfd)) cr
          exact q _ _ _ x1 s1 en1
        · exact q.elim
      · exact q.elim
    · exact q.elim
  · exact q.elim
end
end Lp

set_option Elab.async false
set_option linter.all false
set_option maxRecDepth 100000
set_option maxHeartbeats 1000000
namespace Lp
open PySem L2
/-- a place: an own slot, or a cell's -/
inductive IsPl (i : Nat) : EX → Prop
  | own : IsPl i (.peek i)
  | cell : IsPl i (.var i)
section
variable {K : Frag} {c : Ct} {w w0 w' : Vw} {H H0 H' : Hp} {σ : St} {ρ : Fr} {M : Mem} {E : Ends} {p : EX} {i : Nat}
theorem place_core (pl : IsPl i p) (sr : SR K M w H) (en : EnvR K H0 w H σ ρ) {f : D → Mem → Flow} (q : PostS K c.ca c.W w0 H0 ((ev c.C p ρ M).fl ρ f) E) :
    ∃ v d0, σ[i]? = some (some v) ∧ (∀ M1, ev c.C p ρ M1 = .ok d0 M1) ∧ RP K w H v d0 ∧ PostS K c.ca c.W w0 H0 (f d0 M) E := by
  cases pl with
  | own =>
    unfold ev at q
    split at q
    · rename_i d h
      have hs := en.at_ i _ h
      generalize hx : σ[i]? = o at hs
      cases hs with
      | own r n => exact ⟨_, d, rfl, fun M1 => by unfold ev; rw [h], .inr ⟨_, rfl, r⟩, q⟩
    · exact q.elim
  | cell =>
    unfold ev at q
    split at q
    · rename_i d h
      have hs := en.at_ i _ h
      generalize hx : σ[i]? = o at hs
      cases hs with
      | d r => exact ⟨_, d, rfl, fun M1 => by unfold ev; rw [h], .inl r, q⟩
    · exact q.elim
theorem IsPl.peek_eq (pl : IsPl i p) {j : Nat} (e : p = .peek j) : j = i := by cases pl <;> cases e; rfl
/-- a place is changed -/
theorem place_change {v : V} {d0 : D} {f : D → Option D} (pl : IsPl i p) (sr : SR K M w H) (xt : Ext w0 H0 w H) (en : EnvR K H0 w H σ ρ) (hσ : σ[i]? = some (some v)) (he : ∀ M1, ev c.C p ρ M1 = .ok d0 M1) (r : RP K w H v d0) (hf : ∀ o d', f o = some d' → d' ≠ .non) (hn0 : f .non = none)
    (q : PostS K c.ca c.W w0 H0 (change p f c.C ρ M) E) : ∃ (a : Addr) (o : HO) (d d' : D), v = .ref a ∧ H a = some o ∧ CR K w o d ∧ f d = some d' ∧ ∀ o', CR K w o' d' → E.nx σ (upd H a o') :=
  change_core sr xt en ⟨d0, M, he M, r, fun j ej => by rw [pl.peek_eq ej]; exact hσ⟩ (fun o z => hf o _ z rfl) hn0 q
end
section
variable {X : Cx} {c : Ct} {e a b k : Expr} {x y z : EX} {pos : Pos} {st : Stmt} {rest : List Stmt} {s : SX} {r : SXs}
theorem push_notnon {d : D} : ∀ o d' : D, pushIn o d = some d' → d' ≠ .non := by
  intro o d' h
  cases o <;> simp only [pushIn, reduceCtorEq] at h
  split at h <;> cases h
  exact fun z => by cases z
theorem put_notnon {kd d : D} : ∀ o d' : D, putIn o kd d = some d' → d' ≠ .non := by
  intro o d' h
  cases o <;> cases kd <;> simp only [putIn, reduceCtorEq] at h
  · simp only [Option.map_eq_some_iff] at h
    obtain ⟨j, _, rfl⟩ := h
    exact fun z => by cases z
  all_goals
    split at h <;> cases h
    exact fun z => by cases z
theorem put_non {kd d : D} : putIn .non kd d = none := by cases kd <;> rfl
/-- p.append(e) -/
theorem ss_append {i : Nat} {n m : Str} {p : EX} {pp apos cpos : Pos} (pl : IsPl i p) (hm : m = "append") (hN : X.N[i]? = some n) (hv : Vis X.env.scope n) (he : SE X c e x)
    (hs : swapsWith (.Call (.Attribute (.Name n pp) m apos) [e] [] cpos) none pos.line X.env = pure false := by rfl)
    (hbase : attributeBase (.Name n pp) m X.env (eval (.Name n pp) X.env) = eval (.Name n pp) X.env := by rfl)
    (hfew : ((backTo cpos (starEach [e] X.env)).all (fun x => !x.1) && (backToKw cpos (keywordEach [] X.env)).all (fun x => x.1.isSome)
      && decide ([e].length + ([] : List Keyword).length + (if ([] : List Keyword).isEmpty then 0 else 1) < 30)) = true := by rfl)
    (hline : (apos.endLine == cpos.line) = true := by rfl) (hse : starEach [e] X.env = [(false, eval e X.env)] := by rfl)
    (hd : (n == ("__debug__" : Str)) = false := by decide +kernel) (hcd : (n == ("__classdict__" : Str)) = false := by decide +kernel) :
    SS X c (.Expr (.Call (.Attribute (.Name n pp) m apos) [e] [] cpos) pos) (.append p x) := by
  subst hm
  refine PS.imp (ps_expr (pe_bm (T := "list") PySem.F.plainAttrs_list PySem.F.slot_list_append PySem.F.type_list_append mt_append (pe_var hN hv hd hcd) (pa_cons he pa_nil hse) hbase hfew hline hse rfl) hs) ?_
  rintro D σ H ⟨ρ, M, w, w0, H0, sr, xt, en, q⟩
  unfold ex at q
  obtain ⟨v, d0, hσ, hev, r, q⟩ := place_core pl sr en q
  refine ⟨v, hσ, ?_⟩
  split at q
  · rename_i xs hc
    obtain ⟨a, vs, rfl, hl, _⟩ := con_lst sr r hc
    refine ⟨.inl ⟨rfl, vs, hl⟩, ρ, M, w, H0, sr, en, stepS xt en q ?_⟩
    intro u H1 w1 M1 d e1 s1 x1 en1 r1 p1
    obtain ⟨a', o, d1, d', e2, h1, cr, hf, go⟩ := place_change pl s1 x1 en1 hσ hev (r.ext e1) push_notnon rfl p1
    cases e2
    cases cr with
    | lst rr =>
      simp only [pushIn] at hf
      split at hf <;> cases hf
      rename_i hL
      exact ⟨a, _, u, rfl, rfl, h1, by rw [rr.length, L_eq]; exact hL, go _ (.lst (rr.append (.cons r1 .nil)))⟩
    | dic rr => cases hf
  · exact q.elim
theorem anyK {K : Frag} {w : Vw} {k : DKey} : ∀ {vs : List (Key × V)} {ds : List (DKey × D)}, RepK K w vs ds → (vs.any fun kv => decide (kv.1 = kT k)) = ds.any fun p => decide (p.1 = k)
  | _, _, .nil => rfl
  | _, _, .cons (k := k') _ r => by
    simp only [List.any_cons, anyK r]
    congr 1
    exact decide_eq_decide.mpr ⟨kT_inj, fun h => by rw [h]⟩
theorem RepK.append {K : Frag} {w : Vw} : ∀ {v v' : List (Key × V)} {d d' : List (DKey × D)}, RepK K w v d → RepK K w v' d' → RepK K w (v ++ v') (d ++ d')
  | _, _, _, _, .nil, s => s
  | _, _, _, _, .cons h r, s => .cons h (r.append s)
theorem mapK {K : Frag} {w : Vw} {k : DKey} {u : V} {x : D} (q : Rep K w u x) : ∀ {vs : List (Key × V)} {ds : List (DKey × D)}, RepK K w vs ds → RepK K w (vs.map fun kv => if kv.1 = kT k then (kv.1, u) else kv) (ds.map fun p => if p.1 = k then (p.1, x) else p)
  | _, _, .nil => .nil
  | _, _, .cons (k := k') h r => by
    by_cases e : k' = k
    · subst e
      simp only [List.map_cons, if_true]
      exact .cons q (mapK q r)
    · have e' : ¬ kT k' = kT k := fun z => e (kT_inj z)
      simp only [List.map_cons, e, e', if_false]
      exact .cons h (mapK q r)
theorem RepK.putA {K : Frag} {w : Vw} {vs : List (Key × V)} {ds : List (DKey × D)} {u : V} {x : D} (r : RepK K w vs ds) (q : Rep K w u x) (k : DKey) : RepK K w (L2.putK vs (kT k) u) (dputA ds k x) := by
  unfold L2.putK dputA
  rw [anyK r]
  split
  · exact mapK q r
  · exact r.append (.cons q .nil)
/-- o[k] = v by values -/
def rSetB : TSet := fun o i v H Q => rSetL o i v H Q ∨ ∃ a H', o = .ref a ∧ L2.DPut H a i v H' ∧ Q H'
theorem set_both (hu : X.A.units + 1 < cLine) : PSet X rSetB := by
  intro pins s σ H o i v ov iv u Q I ro ri rv h
  rcases h with h | ⟨a, H', rfl, g, q⟩
  · exact set_list pins s σ H o i v ov iv u Q I ro ri rv h
  · obtain rfl : ov = Value.ref a := ro
    exact d_setItem hu I g ri rv fun s4 I4 => ⟨H', I4, q⟩
theorem set_core {K : Frag} {w : Vw} {H : Hp} {a : Addr} {o : HO} {d d' kd x : D} {kv u : V} {Q : Hp → Prop} (h1 : H a = some o) (cr : CR K w o d) (rk : Rep K w kv kd) (rx : Rep K w u x) (hf : putIn d kd x = some d')
    (go : ∀ o', CR K w o' d' → Q (upd H a o')) : rSetB (.ref a) kv u H Q := by
  cases cr with
  | lst rr =>
    cases kd <;> simp only [putIn, reduceCtorEq] at hf
    simp only [Option.map_eq_some_iff] at hf
    obtain ⟨j, hj, rfl⟩ := hf
    cases rk
    exact .inl ⟨a, _, _, j, rfl, rfl, h1, by rw [rr.length, ← ixD_eq]; exact hj, go _ (.lst (rr.set rx j))⟩
  | dic rr =>
    cases kd <;> simp only [putIn, reduceCtorEq] at hf
    all_goals
      split at hf <;> cases hf
      rename_i hL
      cases rk
    · exact .inr ⟨a, _, rfl, L2.DPut.k (k := kT (.inl _)) h1 (by rw [rr.length, L_eq]; exact hL), go _ (.dic (rr.putA rx _))⟩
    · exact .inr ⟨a, _, rfl, L2.DPut.k (k := kT (.inr _)) h1 (by rw [rr.length, L_eq]; exact hL), go _ (.dic (rr.putA rx _))⟩
/-- p[k] = e -/
theorem ss_setit {i : Nat} {n : Str} {p : EX} {pp pos' : Pos} (hu : X.A.units + 1 < cLine) (pl : IsPl i p) (hN : X.N[i]? = some n) (hv : Vis X.env.scope n) (hk : SE X c k y) (he : SE X c e x)
    (hs : swapsWithSole [.Subscript (.Name n pp) k pos'] e pos.line X.env = pure false := by rfl) (hw : swappedStores [.Subscript (.Name n pp) k pos'] e X.env = pure none := by rfl)
    (h1 : (assignEach [.Subscript (.Name n pp) k pos'] X.env).map (·.2) = [assign (.Subscript (.Name n pp) k pos') X.env] := by rfl)
    (ha : ∀ v, assign (.Subscript (.Name n pp) k pos') X.env v = (do
      let ov ← holding [v] (eval (.Name n pp) X.env)
      let iv ← holding [v, ov] (eval k X.env)
      standAt pos'
      holding [v, ov, iv] (setItem ov iv v)
      release [v, ov, iv] []) := by intro _; rfl)
    (hd : (n == ("__debug__" : Str)) = false := by decide +kernel) (hcd : (n == ("__classdict__" : Str)) = false := by decide +kernel) :
    SS X c (.Assign [.Subscript (.Name n pp) k pos'] e pos) (.setit p y x) := by
  refine PS.imp (ps_asg he (pg_sub (pe_var hN hv hd hcd) hk (set_both hu) ha) hs hw h1) ?_
  rintro D σ H ⟨ρ, M, w, w0, H0, sr, xt, en, q⟩
  unfold ex at q
  refine ⟨ρ, M, w, H0, sr, en, stepS xt en q ?_⟩
  intro u H1 w1 M1 d e1 s1 x1 en1 r1 p1
  obtain ⟨v, d0, hσ, hev, r, p1⟩ := place_core pl s1 en1 p1
  refine ⟨v, hσ, ρ, M1, w1, H0, s1, en1, stepS x1 en1 p1 ?_⟩
  intro kv H2 w2 M2 kd e2 s2 x2 en2 r2 p2
  obtain ⟨a', o, d1, d', e3, h1, cr, hf, go⟩ := place_change pl s2 x2 en2 hσ hev (r.ext e2) put_notnon put_non p2
  subst e3
  exact set_core h1 cr r2 (r1.ext e2) hf go
/-- name += e, of ints -/
theorem ss_aug {i : Nat} {n : Str} {op : Operator} {o : BOp} {pos' : Pos} (hN : X.N.Nodup) (hi : X.N[i]? = some n) (hx : Loc X.env.scope n) (he : SE X c e x)
    (ho : (op = .Add ∧ o = .add) ∨ (op = .Sub ∧ o = .sub)) (hf : X.fn n = true ∨ X.env.scope.names.lookup n = some .local := by first | exact .inl rfl | exact .inr rfl | assumption) :
    SS X c (.AugAssign (.Name n pos') op e pos) (.aug i o x) := by
  have go : ∀ (f : Int → Int → Int), PIp X op (ipI f) → (∀ i j, augD o (.int i) (.int j) = some (.int (f i j))) → SS X c (.AugAssign (.Name n pos') op e pos) (.aug i o x) := by
    intro f hp hfo
    refine PS.imp (ps_aug hN hi hx he hp hf) ?_
    rintro D σ H ⟨ρ, M, w, w0, H0, sr, xt, en, q⟩
    unfold ex at q
    split at q
    · rename_i d h
      have hs := en.at_ i _ h
      generalize hx : σ[i]? = oo at hs
      cases hs with
      | @d v _ r =>
        refine ⟨v, hx, ρ, M, w, H0, sr, en, stepS xt en q ?_⟩
        intro u H1 w1 M1 d2 e1 s1 x1 en1 r1 p1
        split at p1
        · rename_i d3 hd3
          have : ∃ a b, d = .int a ∧ d2 = .int b := by
            cases o <;> cases d <;> cases d2 <;> simp only [augD, reduceCtorEq] at hd3 <;> exact ⟨_, _, rfl, rfl⟩
          obtain ⟨a, b, rfl, rfl⟩ := this
          rw [hfo] at hd3
          cases hd3
          cases r
          cases r1
          exact ⟨a, b, rfl, rfl, p1 _ _ _ x1 s1 (en1.setD i (.int _))⟩
        · exact p1.elim
    · exact q.elim
  rcases ho with ⟨rfl, rfl⟩ | ⟨rfl, rfl⟩
  · exact go _ ip_add fun _ _ => rfl
  · exact go _ ip_sub fun _ _ => rfl
end
end Lp

set_option Elab.async false
set_option linter.all false
set_option maxRecDepth 100000
set_option maxHeartbeats 1000000
namespace Lp
open PySem L2
section
variable {K : Frag} {ca : String → Value} {W : WX} {w w0 w1 w' : Vw} {H H0 H1 H' : Hp} {σ : St} {ρ : Fr} {M : Mem} {E : Ends}
theorem Ext.shift (x : Ext w0 H0 w1 H1) : Ext w1 H0 w1 H1 := by
  refine ⟨Nat.le_refl _, fun _ _ => rfl, fun _ _ h => h, x.th, fun a o h1 h2 h3 => ?_⟩
  have g0 : w0.G a = none := by
    cases e : w0.G a with
    | none => rfl
    | some u => rw [x.gg a u e] at h2; cases h2
  obtain ⟨q1, q2, q3⟩ := x.fr a o h1 g0 fun c hc e => h3 c (Nat.lt_of_lt_of_le hc x.nn) (by rw [x.ph c hc]; exact e)
  exact ⟨q1, h2, h3⟩
theorem Ext.comp (x : Ext w0 H0 w1 H1) (y : Ext w1 H0 w' H') : Ext w0 H0 w' H' := by
  refine ⟨Nat.le_trans x.nn y.nn, fun c h => (y.ph c (Nat.lt_of_lt_of_le h x.nn)).trans (x.ph c h), fun a o h => y.gg a o (x.gg a o h), y.th, fun a o h1 h2 h3 => ?_⟩
  obtain ⟨q1, q2, q3⟩ := x.fr a o h1 h2 h3
  exact y.fr a o h1 q2 q3
theorem PostS.shift (x : Ext w0 H0 w1 H1) {fl : Flow} (h : PostS K ca W w0 H0 fl E) : PostS K ca W w1 H0 fl E := by
  cases fl with
  | next ρ M => intro σ' w' H' e s q; exact h σ' w' H' (x.comp e) s q
  | ret d M => intro v w' H' e s q; exact h v w' H' (x.comp e) s q
  | brk ρ M => intro σ' w' H' e s q; exact h σ' w' H' (x.comp e) s q
  | cnt ρ M => intro σ' w' H' e s q; exact h σ' w' H' (x.comp e) s q
  | exc y ρ M => intro cls dx σ' w' H' e s q z; exact h cls dx σ' w' H' (x.comp e) s q z
  | stuck => exact h
end
section
variable (K : Frag) (c : Ct)
/-- targets take data -/
def tGs (ts : List TX) : TGs := fun vs σ H Q => ∃ ds ρ M w w0 H0 E, SR K M w H ∧ Ext w0 H0 w H ∧ EnvR K H0 w H σ ρ ∧ Reps K w vs ds ∧ PostS K c.ca c.W w0 H0 (storeAll c.C ts ds ρ M) E ∧ E.nx = Q
end
theorem PGs.imp {X : Cx} {e : List Expr} {t t' : TGs} (h : PGs X e t) (i : ∀ v σ H Q, t' v σ H Q → t v σ H Q) : PGs X e t' := ⟨fun pins s σ H v u Q I r q => h.run pins s σ H v u Q I r (i _ _ _ _ q)⟩
section
variable {X : Cx} {c : Ct} {e a b k : Expr} {x y z : EX} {pos : Pos} {st : Stmt} {rest : List Stmt} {s : SX} {r : SXs} {es : List Expr} {ts : List TX}
theorem sgs_nil : PGs X [] (tGs X.K c []) := by
  refine PGs.imp pgs_nil ?_
  rintro vs σ H Q ⟨ds, ρ, M, w, w0, H0, E, sr, xt, en, rs, q, rfl⟩
  cases rs with
  | nil => exact ⟨rfl, q _ _ _ xt sr en⟩
  | cons _ _ => exact q.elim
theorem sgs_name {i : Nat} {n : Str} {p : Pos} (hN : X.N.Nodup) (hi : X.N[i]? = some n) (hx : Loc X.env.scope n) (h : PGs X es (tGs X.K c ts))
    (hs : (assignEach (.Name n p :: es) X.env).map (·.2) = assign (.Name n p) X.env :: (assignEach es X.env).map (·.2) := by rfl)
    (hf : X.fn n = true ∨ X.env.scope.names.lookup n = some .local := by first | exact .inl rfl | exact .inr rfl | assumption) : PGs X (.Name n p :: es) (tGs X.K c (.name i :: ts)) := by
  refine PGs.imp (pgs_cons (pg_name hN hi hx hf) h hs) ?_
  rintro vs σ H Q ⟨ds, ρ, M, w, w0, H0, E, sr, xt, en, rs, q, rfl⟩
  cases rs with
  | nil => exact q.elim
  | cons r rs => exact ⟨_, _, rfl, _, _, M, w, w0, H0, E, sr, xt, en.setD i r, rs, q, rfl⟩
theorem sgs_item {i : Nat} {n : Str} {pp pos' : Pos} (hu : X.A.units + 1 < cLine) (hN : X.N[i]? = some n) (hv : Vis X.env.scope n) (hk : SE X c k y) (h : PGs X es (tGs X.K c ts))
    (hs : (assignEach (.Subscript (.Name n pp) k pos' :: es) X.env).map (·.2) = assign (.Subscript (.Name n pp) k pos') X.env :: (assignEach es X.env).map (·.2) := by rfl)
    (ha : ∀ v, assign (.Subscript (.Name n pp) k pos') X.env v = (do
      let ov ← holding [v] (eval (.Name n pp) X.env)
      let iv ← holding [v, ov] (eval k X.env)
      standAt pos'
      holding [v, ov, iv] (setItem ov iv v)
      release [v, ov, iv] []) := by intro _; rfl)
    (hd : (n == ("__debug__" : Str)) = false := by decide +kernel) (hcd : (n == ("__classdict__" : Str)) = false := by decide +kernel) :
    PGs X (.Subscript (.Name n pp) k pos' :: es) (tGs X.K c (.item i y :: ts)) := by
  refine PGs.imp (pgs_cons (pg_sub (pe_var hN hv hd hcd) hk (set_both hu) ha) h hs) ?_
  rintro vs σ H Q ⟨ds, ρ, M, w, w0, H0, E, sr, xt, en, rs, q, rfl⟩
  cases rs with
  | nil => exact q.elim
  | @cons u us d ds r rs =>
    unfold storeAll at q
    obtain ⟨v, d0, hσ, hev, rp, q⟩ := place_core .own sr en q
    refine ⟨u, us, rfl, v, hσ, ρ, M, w, H0, sr, en, stepS xt en q ?_⟩
    intro kv H2 w2 M2 kd e2 s2 x2 en2 r2 p2
    have p3 := PostS.seq (PostS.shift x2 p2)
    obtain ⟨a', o, d1, d', e3, h1, cr, hf, go⟩ := place_change .own s2 x2.shift en2 hσ hev (rp.ext e2) put_notnon put_non p3
    subst e3
    refine set_core h1 cr r2 (r.ext e2) hf fun o' cr' => ?_
    obtain ⟨w3, M3, ρ3, e3, s3, en3, p4⟩ := go o' cr'
    exact ⟨ds, ρ3, M3, w3, w2, H0, E, s3, e3, en3, (rs.ext e2).ge e3.ge, p4, rfl⟩
/-- a, b[k] = e -/
theorem ss_unpack {kk : Nat} {tpos : Pos} (hc : X.calm = true) (he : SE X c e x) (hg : PGs X es (tGs X.K c ts)) (hn : (assignEach es X.env).length = ts.length := by rfl) (hst : (assignEach es X.env).findIdx? (·.1) = none := by rfl)
    (hs : swapsWithSole [.Tuple es kk tpos] e pos.line X.env = pure false := by rfl) (hw : swappedStores [.Tuple es kk tpos] e X.env = pure none := by rfl)
    (h1 : (assignEach [.Tuple es kk tpos] X.env).map (·.2) = [assign (.Tuple es kk tpos) X.env] := by rfl) : SS X c (.Assign [.Tuple es kk tpos] e pos) (.unpack ts x) := by
  refine PS.imp (ps_asg he (pg_tup hc hg hn hst) hs hw h1) ?_
  rintro D σ H ⟨ρ, M, w, w0, H0, sr, xt, en, q⟩
  unfold ex at q
  refine ⟨ρ, M, w, H0, sr, en, stepS xt en q ?_⟩
  intro u H1 w1 M1 d e1 s1 x1 en1 r1 p1
  split at p1
  · split at p1
    · rename_i hl
      cases r1 with
      | tup sq rr => exact ⟨_, _, rfl, SqT.sub s1 sq, by rw [rr.length]; exact hl, _, ρ, M1, w1, w0, H0, D, s1, x1, en1, rr, p1, rfl⟩
    · exact p1.elim
  · exact p1.elim
theorem ss_brk : SS X c (.Break pos) .brk := PS.imp ps_break fun D σ H ⟨ρ, M, w, w0, H0, sr, xt, en, q⟩ => q _ _ _ xt sr en
theorem ss_cnt : SS X c (.Continue pos) .cnt := PS.imp ps_continue fun D σ H ⟨ρ, M, w, w0, H0, sr, xt, en, q⟩ => q _ _ _ xt sr en
/-- the invariant of a loop over the data xs -/
def WFor (K : Frag) (c : Ct) (w0 w1 : Vw) (H0 : Hp) (f : Lp.D → Fr → Mem → Flow) (xs : List Lp.D) (E : Ends) (i m : Nat) (σ : St) (H : Hp) : Prop :=
  ∃ ρ M w, m = xs.length - i ∧ SR K M w H ∧ Ext w1 H0 w H ∧ EnvR K H0 w H σ ρ ∧ PostS K c.ca c.W w1 H0 (forGo f (xs.drop i) ρ M) E
theorem ss_for {tg iter : Expr} {g : TG'} {it : IX} {body : List Stmt} {tb : SXs} (hp : PassesOwn (model X.prog X.w) X.A X.env X.xe) (hc : X.calm = true) (hi : SI X c tg iter it) (hg : PG X tg (tG X.K g)) (hb : SSs X c body tb)
    (hs : ∀ x, foldedSetIterable iter X.env x = pure x := by intro _; rfl) : SS X c (.For tg iter body [] pos) (.forr g it tb) := by
  refine PS.imp (ps_for hp hc hi hg hb hs) ?_
  rintro D σ H ⟨ρ, M, w, w0, H0, sr, xt, en, q⟩
  unfold ex at q
  refine ⟨ρ, M, w, H0, sr, en, (Post.fl (R := fun w _ J xs => JR X.K w J xs) xt en q).imp ?_⟩
  rintro J H1 ⟨w1, M1, xs, e1, s1, jr, p1⟩
  have x1 := xt.trans e1
  refine ⟨WFor X.K c w0 w1 H0 _ xs D, ⟨_, ρ, M1, w1, rfl, s1, x1.shift, en.ext e1, PostS.shift x1 p1⟩, ?_⟩
  rintro i m σ' H' ⟨ρ', M', w', hm, s', x', en', p'⟩
  by_cases hlt : i < xs.length
  · have hd : xs.drop i = xs[i] :: xs.drop (i + 1) := List.drop_eq_getElem_cons hlt
    have hx : xs[i]? = some xs[i] := List.getElem?_eq_getElem hlt
    obtain ⟨hgo, hy⟩ := jr.go i _ M' w' H' x'.ge s' hx
    refine .inr ⟨hgo, WFor X.K c w0 w1 H0 _ xs D (i + 1) (m - 1), fun σ2 H2 h2 => ⟨m - 1, by omega, h2⟩, ?_⟩
    intro v H2 hv
    obtain ⟨w2, e2, s2, r2⟩ := hy v H2 hv
    rw [hd] at p'
    unfold forGo at p'
    cases hb' : bindT g xs[i] ρ' with
    | none => simp only [hb'] at p'; exact p'.elim
    | some ρ2 =>
      simp only [hb'] at p'
      refine ⟨ρ', _, ρ2, M', w2, H0, s2, en'.ext e2, r2, hb', fun σ3 en3 _ => ?_⟩
      refine ⟨ρ2, M', w2, w1, H0, s2, x'.trans e2, en3, ?_⟩
      generalize exs c.C tb ρ2 M' = fl at p'
      cases fl with
      | next ρ3 M3 => intro σ4 w4 H4 e4 s4 en4; exact ⟨ρ3, M3, w4, by omega, s4, e4, en4, p'⟩
      | cnt ρ3 M3 => intro σ4 w4 H4 e4 s4 en4; exact ⟨ρ3, M3, w4, by omega, s4, e4, en4, p'⟩
      | brk ρ3 M3 => intro σ4 w4 H4 e4 s4 en4; exact p' _ _ _ e4 s4 en4
      | ret d M3 => exact p'
      | exc z ρ3 M3 => exact p'
      | stuck => exact p'
  · have hd : xs.drop i = [] := List.drop_eq_nil_of_le (by omega)
    rw [hd] at p'
    exact .inl ⟨jr.stop i M' w' H' x'.ge s' (by omega), p' _ _ _ x' s' en'⟩
/-- while c: body -/
theorem ss_loop {body : List Stmt} {tb : SXs} (hp : PassesOwn (model X.prog X.w) X.A X.env X.xe) (hc : ST X c e x) (hb : SSs X c body tb) : SS X c (.While e body [] pos) (.loop x tb) := by
  refine PS.imp (ps_while hp hc hb) ?_
  rintro D σ H ⟨ρ, M, w, w0, H0, sr, xt, en, q⟩
  unfold ex at q
  refine ⟨fun m σ' H' => ∃ ρ' M' w', SR X.K M' w' H' ∧ Ext w0 H0 w' H' ∧ EnvR X.K H0 w' H' σ' ρ' ∧ PostS X.K c.ca c.W w0 H0 (loopGo (fun ρ M => (ev c.C x ρ M).fl ρ fun d M1 => (asB d M1).fl ρ fun k M2 => if k = true then exs c.C tb ρ M2 else .brk ρ M2) m ρ' M') D, ⟨_, ρ, M, w, sr, xt, en, q⟩, ?_⟩
  rintro m σ' H' ⟨ρ', M', w', s', x', en', p'⟩
  cases m with
  | zero => exact p'.elim
  | succ m =>
    unfold loopGo at p'
    have q2 : PostS X.K c.ca c.W w0 H0 (((ev c.C x ρ' M').bind asB).fl ρ' fun k M2 => if k = true then (match exs c.C tb ρ' M2 with
        | .next ρ1 M1 => loopGo (fun ρ M => (ev c.C x ρ M).fl ρ fun d M1 => (asB d M1).fl ρ fun k M2 => if k = true then exs c.C tb ρ M2 else .brk ρ M2) m ρ1 M1
        | .cnt ρ1 M1 => loopGo (fun ρ M => (ev c.C x ρ M).fl ρ fun d M1 => (asB d M1).fl ρ fun k M2 => if k = true then exs c.C tb ρ M2 else .brk ρ M2) m ρ1 M1
        | .brk ρ1 M1 => .next ρ1 M1
        | .ret d M1 => .ret d M1
        | .exc x ρ1 M1 => .exc x ρ1 M1
        | .stuck => .stuck) else .next ρ' M2) D := by
      generalize hev : ev c.C x ρ' M' = r at p' ⊢
      cases r with
      | ok d M1 =>
        simp only [Res.fl_ok, Res.bind_ok] at p' ⊢
        generalize hb2 : asB d M1 = r2 at p' ⊢
        cases r2 with
        | ok k M2 =>
          cases k
          · exact p'
          · generalize hfl : exs c.C tb ρ' M2 = fl at p' ⊢
            cases fl <;> exact p'
        | exc z M2 => exact p'
        | stuck => exact p'
      | exc z M1 => exact p'
      | stuck => exact p'
    refine ⟨ρ', M', w', H0, s', en', stepS x' en' q2 ?_⟩
    intro k H1 w1 M1 k' e1 s1 x1 en1 r1 p1
    cases r1
    cases k with
    | false => exact p1 _ _ _ x1 s1 en1
    | true =>
      refine ⟨_, fun σ2 H2 h2 => ⟨m, Nat.lt_succ_self m, h2⟩, ρ', M1, w1, w0, H0, s1, x1, en1, ?_⟩
      simp only [if_true] at p1
      generalize exs c.C tb ρ' M1 = fl at p1
      cases fl with
      | next ρ3 M3 => intro σ4 w4 H4 e4 s4 en4; exact ⟨ρ3, M3, w4, s4, e4, en4, p1⟩
      | cnt ρ3 M3 => intro σ4 w4 H4 e4 s4 en4; exact ⟨ρ3, M3, w4, s4, e4, en4, p1⟩
      | brk ρ3 M3 => intro σ4 w4 H4 e4 s4 en4; exact p1 _ _ _ e4 s4 en4
      | ret d M3 => exact p1
      | exc z ρ3 M3 => exact p1
      | stuck => exact p1
/-! ### raise -/
/-- what is made: an exception -/
def tMx (K : Frag) (c : Ct) (cls : String) (es : EXs) : St → Hp → XK → Prop := fun σ H Q => ∃ ρ M w H0, SR K M w H ∧ EnvR K H0 w H σ ρ ∧
  Post K c.ca (fun w H (z : Value × Option Addr) x => XR K c.ca w H x z.1 z.2) c.W w H σ ((evs c.C es ρ M).bind fun xs M1 => Res.of (c.C.mkx cls xs) M1) (fun z H' => Q z.1 z.2 H')
theorem ss_raise {cls : String} {xs : EXs} (hc : X.calm = true) (tk : Takes X c.W) (hm : PMk X e (tMx X.K c cls xs)) : SS X c (.Raise (some e) none pos) (.raise cls xs) := by
  refine PS.imp (ps_raise hc tk hm) ?_
  rintro D σ H ⟨ρ, M, w, w0, H0, sr, xt, en, q⟩
  unfold ex at q
  have q : PostS X.K c.ca c.W w0 H0 (((evs c.C xs ρ M).bind fun ys M1 => Res.of (c.C.mkx cls ys) M1).fl ρ fun x M1 => .exc x ρ M1) D := by
    generalize evs c.C xs ρ M = r at q ⊢
    cases r with
    | ok ys M1 =>
      simp only [Res.fl_ok, Res.bind_ok] at q ⊢
      generalize c.C.mkx cls ys = o at q ⊢
      cases o <;> exact q
    | exc z M1 => exact q
    | stuck => exact q
  refine ⟨ρ, M, w, H0, sr, en, (Post.fl (R := fun w H (z : Value × Option Addr) x => XR X.K c.ca w H x z.1 z.2) xt en q).imp ?_⟩
  rintro z H1 ⟨w1, M1, x1, e1, s1, xr, p1⟩
  exact p1 _ _ _ _ _ (xt.trans e1) s1 (en.ext e1) xr
/-- the suite `m = n.field` -/
def tSuite (K : Frag) (i j : Nat) (f : Str) (a : Addr) (cls : Value) (d : Option Addr) : TS := fun D σ H => ∃ C : Addr, cls = .ref C ∧ XfC K C ∧ PySem.W.findIn K (.ref C) f = some none ∧
  ∃ (dd : Addr) (fs : List (Str × V)) (v : V), σ[i]? = some (some (.ref a)) ∧ d = some dd ∧ H dd = some (.xd fs) ∧ fs.lookup f = some v ∧ D.nx (σ.set j (some v)) H
/-- try: body / except C as n: m = n.field -/
theorem ss_tryF {body : List Stmt} {tb : SXs} {cls : String} {field : S} {i j : Nat} {n m xn f : Str} {C : Value} {np p1 p2 p3 p4 p5 : Pos}
    (hst : X.stack = X.env :: X.outer) (hfr : X.env.frame = some X.env.locals) (hN : X.N.Nodup) (hi : X.N[i]? = some n) (hj : X.N[j]? = some m) (hln : X.env.kindOf n = some .local) (hlm : Loc X.env.scope m) (hvn : Vis X.env.scope n)
    (hc : Names X xn C) (tk : Takes X c.W) (hij : i ≠ j)
    (hsub : ∀ d b, c.C.sub d cls = some b → PySem.W.exmOne X.K (c.ca d) C = some b) (hfield : f = tx field)
    (hcls : ∀ d, c.C.sub d cls = some true → ∃ A, c.ca d = .ref A ∧ XfC X.K A ∧ PySem.W.findIn X.K (.ref A) f = some none)
    (hb : ∀ (W : WX) (pn : List (Addr × Obj)) (xe : Value → Shared → Prop), Takes (X.tr pn xe) W → PassesOwn (model X.prog X.w) X.A X.env xe → SSs (X.tr pn xe) { c with W := W } body tb)
    (hbase : attributeBase (.Name n p2) f X.env (eval (.Name n p2) X.env) = eval (.Name n p2) X.env := by rfl)
    (hs : swapsWith (.Attribute (.Name n p2) f p3) (some (.Name m p1)) p4.line X.env = pure false := by rfl)
    (hd : (n == ("__debug__" : Str)) = false := by decide +kernel) (hcd : (n == ("__classdict__" : Str)) = false := by decide +kernel)
    (hf : X.fn m = true ∨ X.env.scope.names.lookup m = some .local := by first | exact .inl rfl | exact .inr rfl | assumption) :
    SS X c (.Try body [.ExceptHandler (some (.Name xn np)) (some n) [.Assign [.Name m p1] (.Attribute (.Name n p2) f p3) p4] p5] [] [] pos) (.tryF tb cls i j field) := by
  subst hfield
  refine PS.imp (ps_try_as (tb := fun W => tSs X.K { c with W := W } tb) (ts := tSuite X.K i j (tx field)) hst hfr hN hi hln hc tk hb ?_) ?_
  · intro a oe cls' d pn hz hfs
    refine pss_one ⟨fun pins s σ H D I ⟨A, hA, T, hno, dd, fs, v, h1, h2, h3, h4, h5⟩ => ?_⟩
    refine (ps_set (X := X.suite a ((a, oe) :: pn)) hN hj hlm (pe_xf (C := A) T hno hz hfs (pe_var hi hvn hd hcd) hbase) hs hf).run pins s σ H D I ?_
    exact ⟨_, h1, rfl, hA, dd, fs, v, h2, h3, h4, h5⟩
  · rintro D σ H ⟨ρ, M, w, w0, H0, sr, xt, en, q⟩
    refine ⟨ρ, M, w, w0, H0, sr, xt, en, ?_⟩
    unfold ex at q
    generalize exs c.C tb ρ M = fl at q ⊢
    cases fl with
    | next ρ1 M1 => exact q
    | ret d M1 => exact q
    | brk ρ1 M1 => exact q
    | cnt ρ1 M1 => exact q
    | stuck => exact q
    | exc x ρ1 M1 =>
      intro cl dx σ' w' H' e1 s1 en1 xr
      simp only at q
      cases hsb : c.C.sub x.cls cls with
      | none => rw [hsb] at q; exact q.elim
      | some b =>
        rw [hsb] at q
        refine ⟨b, by rw [xr.cl]; exact hsub _ _ hsb, ?_, ?_⟩
        · rintro rfl a ha
          simp only at q
          cases hl : x.fs.lookup field with
          | none => rw [hl] at q; exact q.elim
          | some d =>
            rw [hl] at q
            simp only at q
            split at q
            case isFalse => exact q.elim
            rename_i hlt
            obtain ⟨A, hA, T, hno⟩ := hcls _ hsb
            obtain ⟨dd, fs, hdx, hdd, hfs⟩ := xr.fs
            obtain ⟨v, hv, rv⟩ := hfs _ _ hl
            have hσi : (σ'.set i (some (.ref a)))[i]? = some (some (.ref a)) := List.getElem?_set_self (by rw [en1.len]; exact hlt)
            refine ⟨A, by rw [xr.cl]; exact hA, T, hno, dd, fs, v, hσi, hdx, hdd, hv, ?_⟩
            exact q _ _ _ e1 s1 (((en1.setNo i _).setD j rv).setNo i none)
        · rintro rfl
          exact q _ _ _ _ _ e1 s1 en1 xr
end
section
variable {X : Cx} {c : Ct} {g : TG'} {scope : Scope} {own : List (Str × Nat)} {tg elt iter : Expr} {ifs : List Expr} {cond : Option EX} {x : EX} {it : IX} {pos spos py : Pos}
/-- name = [..], the name on the same line -/
theorem ss_ownLc {i : Nat} {y : Str} (hc : X.calm = true) (hN : X.N.Nodup) (hy : X.N[i]? = some y) (hyl : X.env.scope.names.lookup y = some .local)
    (hsw : swapsWith (.ListComp elt [⟨tg, iter, ifs, 0⟩] scope pos) (some (.Name y py)) spos.line X.env = pure true) (hi : SI X c tg iter it) (B : CompS X c g scope own tg elt ifs cond x) (hs : ∀ z, foldedSetIterable iter X.env z = pure z := by intro _; rfl) :
    SS X c (.Assign [.Name y py] (.ListComp elt [⟨tg, iter, ifs, 0⟩] scope pos) spos) (.own i (.comp g it cond x)) := by
  refine PS.imp (ps_setLc hc hN hy hyl hsw hi B.ok B.tg B.ifs B.elt hs) ?_
  rintro D σ H ⟨ρ, M, w, w0, H0, sr, xt, en, q⟩
  unfold ex at q
  rw [B.sl]
  have q3 : Post X.K c.ca (RF X.K H) c.W w H σ (evf c.C (.comp g it cond x) ρ M) (fun v H1 => gName i v σ H1 D.nx) := by
    refine stepS xt en q ?_
    rintro v H1 w1 M1 d e1 s1 x1 en1 ⟨p, rfl, ow, hp⟩ p1
    refine p1 _ _ _ x1 s1 (EnvR.setOwn en1 i ow (xt.th _ hp) fun j d' hj hσ => ?_)
    have hs := en.at_ j _ hj
    rw [hσ] at hs
    cases hs with
    | own ow' n' =>
      obtain ⟨o, h1, _⟩ := ow'.ob
      rw [hp] at h1; cases h1
  unfold evf at q3
  refine ⟨ρ, M, w, H0, sr, en, (Post.bind (R := fun w _ J xs => JR X.K w J xs) q3).imp ?_⟩
  rintro J H1 ⟨w1, M1, xs, e1, s1, j, q1⟩
  exact comp_core s1 (en.ext e1) j.x (fun p h => e1.th p h) q1
end
end Lp

set_option Elab.async false
set_option linter.all false
set_option maxRecDepth 100000
set_option maxHeartbeats 1000000
namespace Lp
open PySem L2
section
variable {X : Cx} {CX : CXT} {k : Nat} {f C B : Addr} {fd : FuncData} {ps : List Str} {sp : Sp} {E : St → XK} {x m : Str} {p p1 p2 pos : Pos} {e : Expr} {es : List Expr} {t : TA} {mc : Value} {ds : List Value} {dvs : List V}
/-- C.m(e, ..), C a class, m a def of it -/
theorem pe_clscall {pl : Sem Bool} (F : FnOk X.prog X.w X.K X.mg X.base CX k f fd ps sp) (hr : Room k X.A) (hg : Gl X x) (hm : X.mg x = some (.ref C)) (r : ClX.CRead X.K C mc) (kv : ClX.CVal X.K C mc m (.ref f) (.ref f)) (hk : PySem.W.keepIn X.K (.ref f) = true)
    (hb : Binds X.K fd ps ds) (hd : Vals dvs ds) (hx : ∀ σ, PassesAt CX X σ (E σ)) (ha : PA X (e :: es) t)
    (hc : eval (.Call (.Attribute (.Name x p1) m p2) (e :: es) [] pos) X.env = (do
      let ov ← eval (.Name x p1) X.env
      standAt p2.atName
      let (f, first) ← holding [ov] (getMethod ov m pl)
      callWith pos f first (backTo pos (starEach (e :: es) X.env)) (backToKw pos (keywordEach [] X.env))) := by rfl)
    (he : starEach (e :: es) X.env = (false, eval e X.env) :: starEach es X.env := by rfl) (hpl : (backTo pos (starEach es X.env)).any (·.1) = false := by rfl)
    (hdb : (x == ("__debug__" : Str)) = false := by decide) :
    PE X (.Call (.Attribute (.Name x p1) m p2) (e :: es) [] pos) (tCallSD sp dvs E t) := by
  refine ⟨fun pins s σ H Q I h => ?_⟩
  refine PySem.W.methodCall_KW (ld_glob I hg hm ?_ hdb) hc
  refine PySem.W.method_cls I.kIn r.ga (ClX.getcval_ok I r kv fun s' I' => ?_)
  show wpAny _ _ (callWith pos (Value.ref f) [] (backTo pos (starEach (e :: es) X.env)) []) _ _ _
  refine PySem.W.callWith_K (h₀ := X.base) I'.ok.mod.kin hk (thn (ha.run pos pins s' σ H _ I' h) fun us s1 ⟨vs, H1, I1, r, q⟩ => ⟨I1.kIn, ?_⟩) he hpl
  exact run_fnSD F hr hb hd (hx σ) I1 r q
/-- C(): C's own __init__ keeping sp -/
theorem pmk_oex0 {fI : Addr} (T : OexC X.K C) (iC : PySem.W.findIn X.K (.ref C) "__init__" = some (some (.ref fI))) (tI : PySem.W.typeIn X.K (.ref fI) = some (.type "function"))
    (F1 : FnOk X.prog X.w X.K X.mg X.base CX k fI fd ps sp) (hr : Room (k + 1) X.A) (hb : Binds X.K fd ps ds) (hd : Vals dvs ds) (hx : Passes CX X (fun _ _ _ => False)) (hg : Gl X x) (hm : X.mg x = some (.ref C))
    (hdb : (x == ("__debug__" : Str)) = false := by decide) :
    PMk X (.Call (.Name x p) [] [] pos) (tMkO C sp dvs (fun _ H Q => Q [] H)) := by
  intro pins s σ H Q I h
  obtain ⟨nm, q, N, bs, bm, sn, sub, ab, col, dd, k0, k1, k2, k3, k5, hC, hbm⟩ := T.cls
  refine wpAny_Call_Name_kw (ld_glob I hg hm ?_ hdb)
  refine PySem.W.callWith_K0 I.kIn T.kC ?_
  show wpAny _ _ (call (.ref C) []) _ _ _
  obtain ⟨hp, g, dr, tk, os⟩ := s
  have hsz : hp.objs.size ≤ hp.objs.size + 1 := Nat.le_succ _
  have hn : H (hp.objs.size + 1) = none := I.hok.fresh hsz
  have hq := h.2 (hp.objs.size + 1) hn
  have kk : ∀ b o, hp.get? b = some o → ((hp.push (PySem.W.kdv_tup [])).push (PySem.HandSPX.excO C hp.objs.size)).get? b = some o := fun b o e => Heap.get?_push_of_some _ (Heap.get?_push_of_some _ e)
  have hget : ((hp.push (PySem.W.kdv_tup [])).push (PySem.HandSPX.excO C hp.objs.size)).get? (hp.objs.size + 1) = some (PySem.HandSPX.excO C hp.objs.size) := by heap_get
  have I2 : Inv X pins σ (upd H (hp.objs.size + 1) (exo (hp.objs.size + 1) C none)) ⟨(hp.push (PySem.W.kdv_tup [])).push (PySem.HandSPX.excO C hp.objs.size), g, dr, tk, os⟩ :=
    I.laid (t' := tk) (a := hp.objs.size + 1) (o := exo (hp.objs.size + 1) C none) (h' := (hp.push (PySem.W.kdv_tup [])).push (PySem.HandSPX.excO C hp.objs.size)) kk hsz (exo_ok hget)
  have r2 : Vals (V.ref (hp.objs.size + 1) :: dvs) (Value.ref (hp.objs.size + 1) :: ds) := .cons rfl hd
  have hl : (Value.ref (hp.objs.size + 1) :: [] ++ ds).length = ps.length := by
    have e := r2.length
    have e2 := F1.len _ _ _ _ hq
    exact e.symm.trans e2
  refine wpAny_call (PySem.HandSPX.call_own PySem.F.excBase_ValueError (fun Y => PySem.HandSPX.refsVE_contains Y bm hbm) (I.kIn _ _ hC) (PySem.W.looks_findIn I.kIn iC) (fun self => PySem.W.bind_fn I.kIn self tI) (Nat.zero_le _)
    (codeAny_mono (F1.run _ X.stack _ _ ⟨Value.ref (hp.objs.size + 1) :: [], []⟩ (Value.ref (hp.objs.size + 1) :: ds) _ _ (fun _ _ _ => False) (hr.make C [] []) (I2.env0.make C [] []) (hb _ (Value.ref (hp.objs.size + 1) :: []) I2.kIn hl) r2 hq) fun r s' hq' => ?_))
  cases r with
  | error er => exact hx pins σ _ _ er s' I2 hq'
  | ok fl =>
    cases fl with
    | ret u =>
      obtain ⟨v, H2, os2, bare2, un2, hok2, rv, ev, d, fs, ea, ed, hd1, q2⟩ := hq'
      subst ev
      obtain ⟨h2, g2, d2, t2, os'⟩ := s'
      exact ⟨rv, mk_end (raises_own T.exC T.tyC) I hsz kk un2 hok2 os2 bare2 ea ed hd1 q2⟩
    | next => exact False.elim hq'
    | brk => exact False.elim hq'
    | cont => exact False.elim hq'
end
/-! ### what the inits keep -/
/-- the exception at a gets the fields fs of the arguments -/
def spE (K : Frag) (fs : List V → Option (List (Str × V))) (need : List Str) : Sp := fun vs H Q _ => ∃ a C ws l, vs = .ref a :: ws ∧ OexC K C ∧ H a = some (exo a C none) ∧ (∀ f ∈ need, PySem.W.findIn K (.ref C) f = some none) ∧ fs ws = some l ∧
  ∀ dx, H dx = none → dx ≠ a → Q .non (upd (upd H dx (exd dx l)) a (exo a C (some dx)))
def sCalled : Str := "called"
def fsL : List V → Option (List (Str × V))
  | [y] => some [(sCalled, y)]
  | _ => none
def fs0 (code : S) : List V → Option (List (Str × V))
  | [] => some [(sCalled, .str (tx code))]
  | _ => none
def fs1 (f : Str) (code : S) : List V → Option (List (Str × V))
  | [r] => some [(f, r), (sCalled, .str (tx code))]
  | _ => none
theorem spE_len {K : Frag} {fs : List V → Option (List (Str × V))} {need : List Str} {n : Nat} (h : ∀ ws l, fs ws = some l → ws.length = n) : ∀ vs H Q E, spE K fs need vs H Q E → vs.length = n + 1 := by
  rintro vs H Q E ⟨a, C, ws, l, rfl, _, _, _, e, _⟩
  simp [h ws l e]
theorem fsL_len : ∀ ws l, fsL ws = some l → ws.length = 1 := fun ws l h => by
  unfold fsL at h
  split at h
  · rfl
  · cases h
theorem fs0_len {code : S} : ∀ ws l, fs0 code ws = some l → ws.length = 0 := fun ws l h => by
  unfold fs0 at h
  split at h
  · rfl
  · cases h
theorem fs1_len {f : Str} {code : S} : ∀ ws l, fs1 f code ws = some l → ws.length = 1 := fun ws l h => by
  unfold fs1 at h
  split at h
  · rfl
  · cases h
section
variable {X : Cx} {CX : CXT} {k : Nat} {f C B : Addr} {fd : FuncData} {ps : List Str} {E : St → XK} {mc : Value}
/-- slots -/
def tIn (K : Frag) (fs : List V → Option (List (Str × V))) (need : List Str) (slots : List V → List (Option V)) : TS := fun D σ H => ∃ a C ws l, σ = slots (.ref a :: ws) ∧ OexC K C ∧ H a = some (exo a C none) ∧ (∀ f ∈ need, PySem.W.findIn K (.ref C) f = some none) ∧ fs ws = some l ∧
  ∀ dx, H dx = none → dx ≠ a → D.nx σ (upd (upd H dx (exd dx l)) a (exo a C (some dx)))
theorem init_L {n0 n1 : Str} {p1 p2 p3 p4 p5 p6 q1 q2 q3 q4 : Pos} {pl : Sem Bool} (h0 : X.N[0]? = some n0) (h1 : X.N[1]? = some n1) (v0 : Vis X.env.scope n0) (v1 : Vis X.env.scope n1)
    (hg : Gl X "ValueError") (hm : X.mg "ValueError" = none) (vV : PySem.W.findCls X.K (.type "ValueError") (.type "type") "__init__" = some (.val (.builtin "ValueError.__init__")))
    (hc : eval (.Call (.Attribute (.Name "ValueError" p1) "__init__" p2) [.Name n0 p3, .Name n1 p4] [] p5) X.env = (do
      let ov ← eval (.Name "ValueError" p1) X.env
      standAt p2.atName
      let (f, first) ← holding [ov] (getMethod ov "__init__" pl)
      callWith p5 f first (backTo p5 (starEach [.Name n0 p3, .Name n1 p4] X.env)) (backToKw p5 (keywordEach [] X.env))) := by rfl)
    (he : starEach [.Name n0 p3, .Name n1 p4] X.env = (false, eval (.Name n0 p3) X.env) :: starEach [.Name n1 p4] X.env := by rfl) (he1 : starEach [.Name n1 p4] X.env = [(false, eval (.Name n1 p4) X.env)] := by rfl) (hpl : (backTo p5 (starEach [.Name n1 p4] X.env)).any (·.1) = false := by rfl)
    (hs1 : swapsWith (.Call (.Attribute (.Name "ValueError" p1) "__init__" p2) [.Name n0 p3, .Name n1 p4] [] p5) none p6.line X.env = pure false := by rfl)
    (hs2 : swapsWith (.Name n1 q3) (some (.Attribute (.Name n0 q1) "called" q2)) q4.line X.env = pure false := by rfl)
    (d0 : (n0 == ("__debug__" : Str)) = false := by decide +kernel) (c0 : (n0 == ("__classdict__" : Str)) = false := by decide +kernel) (d1 : (n1 == ("__debug__" : Str)) = false := by decide +kernel) (c1 : (n1 == ("__classdict__" : Str)) = false := by decide +kernel) :
    PSs X [.Expr (.Call (.Attribute (.Name "ValueError" p1) "__init__" p2) [.Name n0 p3, .Name n1 p4] [] p5) p6, .Assign [.Attribute (.Name n0 q1) "called" q2] (.Name n1 q3) q4] (tIn X.K fsL [sCalled] (fun vs => vs.map some)) := by
  refine PSs.imp (pss_cons (ps_expr (pe_veinit hg hm vV (pa_cons (pe_var h0 v0 d0 c0) (pa_cons (pe_var h1 v1 d1 c1) pa_nil he1) he) hc he hpl) hs1) (pss_one (ps_ost (pe_var h0 v0 d0 c0) (pe_var h1 v1 d1 c1) hs2))) ?_
  rintro D σ H ⟨a, C, ws, l, rfl, T, ha, hno, e, go⟩
  unfold fsL at e
  split at e
  · rename_i y
    cases e
    refine ⟨_, rfl, _, rfl, a, C, [y], rfl, by simp, T, ha, ?_⟩
    refine ⟨_, rfl, _, rfl, a, C, rfl, T, hno _ (List.mem_singleton.mpr rfl), .inl ⟨ha, fun dx n ne => go dx n ne⟩⟩
  · cases e
end
end Lp

set_option Elab.async false
set_option linter.all false
set_option maxRecDepth 100000
set_option maxHeartbeats 1000000
namespace Lp
open PySem L2
theorem upd_upd {H : Hp} {a b : Addr} {o o' : HO} : upd (upd H a o) a o' = upd H a o' := by
  funext b; unfold upd; split <;> rfl
theorem upd_swap {H : Hp} {a b : Addr} {o o' : HO} (h : a ≠ b) : upd (upd H a o) b o' = upd (upd H b o') a o := by
  funext z; unfold upd
  by_cases h1 : z = a
  · subst h1
    simp [h]
  · by_cases h2 : z = b
    · subst h2; simp [h1]
    · simp [h1, h2]
section
variable {X : Cx} {k : Nat} {f C B : Addr} {fd : FuncData} {ps : List Str} {mc : Value}
/-- B.__init__(self, 'code'), and no more -/
theorem init_0 {n0 x : Str} {cd : S} {cs : Str} {j : Nat} {p1 p2 p3 p4 p5 p6 : Pos} {pl : Sem Bool} (hcs : cs = tx cd) (F : FnOk X.prog X.w X.K X.mg X.base (L2.CX X.prog X.w) k f fd ps (spE X.K fsL [sCalled])) (hr : Room k X.A)
    (h0 : X.N[0]? = some n0) (v0 : Vis X.env.scope n0)
    (hg : Gl X x) (hm : X.mg x = some (.ref B)) (r : ClX.CRead X.K B mc) (kv : ClX.CVal X.K B mc "__init__" (.ref f) (.ref f)) (hk : PySem.W.keepIn X.K (.ref f) = true) (hb : Binds X.K fd ps [])
    (hc : eval (.Call (.Attribute (.Name x p1) "__init__" p2) [.Name n0 p3, .Constant (.str cs) j p4] [] p5) X.env = (do
      let ov ← eval (.Name x p1) X.env
      standAt p2.atName
      let (f, first) ← holding [ov] (getMethod ov "__init__" pl)
      callWith p5 f first (backTo p5 (starEach [.Name n0 p3, .Constant (.str cs) j p4] X.env)) (backToKw p5 (keywordEach [] X.env))) := by rfl)
    (he : starEach [.Name n0 p3, .Constant (.str cs) j p4] X.env = (false, eval (.Name n0 p3) X.env) :: starEach [.Constant (.str cs) j p4] X.env := by rfl) (he1 : starEach [.Constant (.str cs) j p4] X.env = [(false, eval (.Constant (.str cs) j p4) X.env)] := by rfl)
    (hpl : (backTo p5 (starEach [.Constant (.str cs) j p4] X.env)).any (·.1) = false := by rfl)
    (hs1 : swapsWith (.Call (.Attribute (.Name x p1) "__init__" p2) [.Name n0 p3, .Constant (.str cs) j p4] [] p5) none p6.line X.env = pure false := by rfl)
    (d0 : (n0 == ("__debug__" : Str)) = false := by decide +kernel) (c0 : (n0 == ("__classdict__" : Str)) = false := by decide +kernel) (hdb : (x == ("__debug__" : Str)) = false := by decide) :
    PSs X [.Expr (.Call (.Attribute (.Name x p1) "__init__" p2) [.Name n0 p3, .Constant (.str cs) j p4] [] p5) p6] (tIn X.K (fs0 cd) [sCalled] (fun vs => vs.map some)) := by
  subst hcs
  refine PSs.imp (pss_one (ps_expr (pe_clscall F hr hg hm r kv hk hb .nil (fun σ => passAt (W := fun _ _ _ _ => False) takes_none5 σ) (pa_cons (pe_var h0 v0 d0 c0) (pa_cons pe_str pa_nil he1) he) hc he hpl hdb) hs1)) ?_
  rintro D σ H ⟨a, C, ws, l, rfl, T, ha, hno, e, go⟩
  unfold fs0 at e
  split at e
  · cases e
    exact ⟨_, rfl, a, C, [_], _, rfl, T, ha, hno, rfl, fun dx n ne => go dx n ne⟩
  · cases e
/-- B.__init__(self, 'code'); self.g = r -/
theorem init_1 {n0 n1 g x : Str} {cd : S} {cs : Str} {j : Nat} {p1 p2 p3 p4 p5 p6 q1 q2 q3 q4 : Pos} {pl : Sem Bool} (hcs : cs = tx cd) (F : FnOk X.prog X.w X.K X.mg X.base (L2.CX X.prog X.w) k f fd ps (spE X.K fsL [sCalled])) (hr : Room k X.A)
    (h0 : X.N[0]? = some n0) (h1 : X.N[1]? = some n1) (v0 : Vis X.env.scope n0) (v1 : Vis X.env.scope n1)
    (hg : Gl X x) (hm : X.mg x = some (.ref B)) (r : ClX.CRead X.K B mc) (kv : ClX.CVal X.K B mc "__init__" (.ref f) (.ref f)) (hk : PySem.W.keepIn X.K (.ref f) = true) (hb : Binds X.K fd ps [])
    (hc : eval (.Call (.Attribute (.Name x p1) "__init__" p2) [.Name n0 p3, .Constant (.str cs) j p4] [] p5) X.env = (do
      let ov ← eval (.Name x p1) X.env
      standAt p2.atName
      let (f, first) ← holding [ov] (getMethod ov "__init__" pl)
      callWith p5 f first (backTo p5 (starEach [.Name n0 p3, .Constant (.str cs) j p4] X.env)) (backToKw p5 (keywordEach [] X.env))) := by rfl)
    (he : starEach [.Name n0 p3, .Constant (.str cs) j p4] X.env = (false, eval (.Name n0 p3) X.env) :: starEach [.Constant (.str cs) j p4] X.env := by rfl) (he1 : starEach [.Constant (.str cs) j p4] X.env = [(false, eval (.Constant (.str cs) j p4) X.env)] := by rfl)
    (hpl : (backTo p5 (starEach [.Constant (.str cs) j p4] X.env)).any (·.1) = false := by rfl)
    (hs1 : swapsWith (.Call (.Attribute (.Name x p1) "__init__" p2) [.Name n0 p3, .Constant (.str cs) j p4] [] p5) none p6.line X.env = pure false := by rfl)
    (hs2 : swapsWith (.Name n1 q3) (some (.Attribute (.Name n0 q1) g q2)) q4.line X.env = pure false := by rfl)
    (d0 : (n0 == ("__debug__" : Str)) = false := by decide +kernel) (c0 : (n0 == ("__classdict__" : Str)) = false := by decide +kernel) (d1 : (n1 == ("__debug__" : Str)) = false := by decide +kernel) (c1 : (n1 == ("__classdict__" : Str)) = false := by decide +kernel) (hdb : (x == ("__debug__" : Str)) = false := by decide) :
    PSs X [.Expr (.Call (.Attribute (.Name x p1) "__init__" p2) [.Name n0 p3, .Constant (.str cs) j p4] [] p5) p6, .Assign [.Attribute (.Name n0 q1) g q2] (.Name n1 q3) q4] (tIn X.K (fs1 g cd) [sCalled, g] (fun vs => vs.map some)) := by
  subst hcs
  refine PSs.imp (pss_cons (ps_expr (pe_clscall F hr hg hm r kv hk hb .nil (fun σ => passAt (W := fun _ _ _ _ => False) takes_none5 σ) (pa_cons (pe_var h0 v0 d0 c0) (pa_cons pe_str pa_nil he1) he) hc he hpl hdb) hs1) (pss_one (ps_ost (pe_var h0 v0 d0 c0) (pe_var h1 v1 d1 c1) hs2))) ?_
  rintro D σ H ⟨a, C, ws, l, rfl, T, ha, hno, e, go⟩
  unfold fs1 at e
  split at e
  · rename_i y
    cases e
    refine ⟨_, rfl, a, C, [_], _, rfl, T, ha, fun z hz => hno z (by rw [List.mem_singleton.mp hz]; exact List.mem_cons_self), rfl, fun dx n ne => ?_⟩
    refine ⟨_, rfl, _, rfl, a, C, rfl, T, hno _ (List.mem_cons_of_mem _ List.mem_cons_self), .inr ⟨dx, _, upd_same, by rw [upd_ne ne]; exact upd_same, by simp, ?_⟩⟩
    have e1 : upd (upd (upd H dx (exd dx [(sCalled, .str (tx cd))])) a (exo a C (some dx))) dx (exd dx [(g, y), (sCalled, .str (tx cd))]) = upd (upd H dx (exd dx [(g, y), (sCalled, .str (tx cd))])) a (exo a C (some dx)) := by
      funext z
      unfold upd
      by_cases h1 : z = dx
      · simp [h1, ne]
      · simp [h1]
    rw [e1]
    exact go dx n ne
  · cases e
end
/-! ### raise C(..) -/
section
variable {X : Cx} {c : Ct} {e : Expr} {es : EXs} {C : Addr} {dvs : List V} {fs : List V → Option (List (Str × V))} {need : List Str} {cls : String}
theorem mk_rule (h : PMk X e (tMkO C (spE X.K fs need) dvs (tAs X.K c es))) (T : OexC X.K C) (hneed : ∀ f ∈ need, PySem.W.findIn X.K (.ref C) f = some none)
    (hx : ∀ (w : Vw) vs ds x0, Reps X.K w vs ds → c.C.mkx cls ds = some x0 → ds.length ≤ 1000 ∧ c.ca x0.cls = .ref C ∧ ∃ l, fs (vs ++ dvs) = some l ∧ ∀ f d, x0.fs.lookup f = some d → ∃ v, l.lookup (tx f) = some v ∧ Rep X.K w v d) : PMk X e (tMx X.K c cls es) := by
  intro pins s σ H Q I ⟨ρ, M, w, H0, sr, en, q⟩
  refine h pins s σ H Q I ⟨ρ, M, w, H0, sr, en, (Post.bind (R := RVs X.K) q).imp ?_⟩
  rintro vs H1 ⟨w1, M1, ds, e1, s1, rs, p1⟩
  obtain ⟨x0, hmk, p2⟩ := p1.of
  obtain ⟨hl, hc, l, hfs, hr⟩ := hx w1 vs ds x0 rs hmk
  refine ⟨by rw [rs.length]; exact hl, fun a ha => ⟨a, C, vs ++ dvs, l, rfl, T, upd_same, hneed, hfs, fun dx hdx hne => ⟨rfl, dx, l, upd_same, ?_, ?_, ?_⟩⟩⟩
  · rw [upd_ne hne]; exact upd_same
  · rw [upd_ne hne] at hdx; exact hdx
  · rw [upd_ne hne] at hdx
    have eH : upd (del (upd (upd (upd H1 a (exo a C none)) dx (exd dx l)) a (exo a C (some dx))) a) dx (.xd l) = upd H1 dx (.xd l) := by
      funext z
      unfold upd del
      by_cases h1 : z = dx
      · simp [h1]
      · by_cases h2 : z = a
        · subst h2; simp [h1, ha]
        · simp [h1, h2]
    rw [eH]
    refine p2 (.ref C, some dx) w1 _ (Ext.laid s1 hdx) (s1.laid hdx) ⟨hc.symm, ⟨dx, l, rfl, upd_same, hr⟩, ?_⟩
    rintro dd hdd
    cases hdd
    exact ⟨s1.fresh hdx, s1.nocell hdx⟩
theorem tAs_nil {σ : St} {H : Hp} {Q : List V → Hp → Prop} (h : tAs X.K c .nil σ H Q) : Q [] H := by
  obtain ⟨ρ, M, w, H0, sr, en, q⟩ := h
  unfold evs at q
  exact q.done sr .nil
theorem mk_nil (h : PMk X e (tMkO C (spE X.K fs need) dvs (fun _ H Q => Q [] H))) : PMk X e (tMkO C (spE X.K fs need) dvs (tAs X.K c .nil)) := by
  intro pins s σ H Q I q
  exact h pins s σ H Q I (tAs_nil q)
end
def cdCalled : S := [99, 97, 108, 108, 101, 100]
theorem sCalled_eq : sCalled = tx cdCalled := by decide +kernel
/-- the table of the classes -/
def mk0 (cls : String) (code : S) : List D → Option Exn
  | [] => some ⟨cls, [(cdCalled, .str code)]⟩
  | _ => none
def mk1 (cls : String) (f code : S) : List D → Option Exn
  | [d] => some ⟨cls, [(f, d), (cdCalled, .str code)]⟩
  | _ => none
def mk1d (cls : String) (f code : S) (d : D) : List D → Option Exn
  | [] => some ⟨cls, [(f, d), (cdCalled, .str code)]⟩
  | _ => none
theorem tx_ne {a b : S} (h : a ≠ b) : (tx a == tx b) = false := beq_false_of_ne fun e => h (tx_inj e)
theorem look_rep {K : Frag} {w : Vw} : ∀ {l : List (S × D)} {m : List (Str × V)}, l.map (fun p => tx p.1) = m.map (·.1) → (∀ p ∈ l.zip m, Rep K w p.2.2 p.1.2) → ∀ f d, l.lookup f = some d → ∃ v, m.lookup (tx f) = some v ∧ Rep K w v d
  | [], _, _, _, f, d, e => by cases e
  | (g, x) :: l, [], h, _, f, d, e => by cases h
  | (g, x) :: l, (n, v) :: m, h, r, f, d, e => by
    simp only [List.map_cons, List.cons.injEq] at h
    obtain ⟨h1, h2⟩ := h
    subst h1
    by_cases hf : f = g
    · subst hf
      simp only [List.lookup_cons, beq_self_eq_true, Option.some.injEq] at e ⊢
      subst e
      exact ⟨v, rfl, r ((f, x), (tx f, v)) (by simp)⟩
    · have e1 : (f == g) = false := beq_false_of_ne hf
      simp only [List.lookup_cons, e1, tx_ne hf] at e ⊢
      exact look_rep h2 (fun p hp => r p (by simp [hp])) f d e
theorem rep_f0 {K : Frag} {w : Vw} {cls : String} {code : S} : ∀ f d, (Exn.mk cls [(cdCalled, .str code)]).fs.lookup f = some d → ∃ v, [(sCalled, V.str (tx code))].lookup (tx f) = some v ∧ Rep K w v d := by
  refine look_rep (by simp only [List.map_cons, List.map_nil, ← sCalled_eq]) fun p hp => ?_
  rw [List.mem_singleton.mp (show p ∈ [((cdCalled, D.str code), (sCalled, V.str (tx code)))] from hp)]
  exact .str _
theorem rep_f1 {K : Frag} {w : Vw} {cls : String} {code fn : S} {v : V} {d : D} (r : Rep K w v d) : ∀ f d', (Exn.mk cls [(fn, d), (cdCalled, .str code)]).fs.lookup f = some d' → ∃ v', [(tx fn, v), (sCalled, V.str (tx code))].lookup (tx f) = some v' ∧ Rep K w v' d' := by
  refine look_rep (by simp only [List.map_cons, List.map_nil, ← sCalled_eq]) fun p hp => ?_
  rcases List.mem_cons.mp (show p ∈ ((fn, d), (tx fn, v)) :: [((cdCalled, D.str code), (sCalled, V.str (tx code)))] from hp) with e | hp
  · rw [e]; exact r
  · rw [List.mem_singleton.mp hp]; exact .str _
section
variable {K : Frag} {ca : String → Value} {C : Addr} {cls : String} {code fn : S}
theorem mk0_ok (hca : ca cls = .ref C) (w : Vw) (vs : List V) (ds : List D) (x0 : Exn) (r : Reps K w vs ds) (h : mk0 cls code ds = some x0) :
    ds.length ≤ 1000 ∧ ca x0.cls = .ref C ∧ ∃ l, fs0 code (vs ++ []) = some l ∧ ∀ f d, x0.fs.lookup f = some d → ∃ v, l.lookup (tx f) = some v ∧ Rep K w v d := by
  unfold mk0 at h
  split at h <;> cases h
  cases r
  exact ⟨Nat.zero_le _, hca, _, rfl, rep_f0⟩
theorem mk1_ok {g : Str} (hg : g = tx fn) (hca : ca cls = .ref C) (w : Vw) (vs : List V) (ds : List D) (x0 : Exn) (r : Reps K w vs ds) (h : mk1 cls fn code ds = some x0) :
    ds.length ≤ 1000 ∧ ca x0.cls = .ref C ∧ ∃ l, fs1 g code (vs ++ []) = some l ∧ ∀ f d, x0.fs.lookup f = some d → ∃ v, l.lookup (tx f) = some v ∧ Rep K w v d := by
  subst hg
  unfold mk1 at h
  split at h <;> cases h
  cases r with
  | cons r rs =>
    cases rs
    exact ⟨by simp, hca, _, rfl, rep_f1 r⟩
theorem mk1d_ok {g : Str} {d0 : D} {v0 : V} (hg : g = tx fn) (hca : ca cls = .ref C) (r0 : ∀ w, Rep K w v0 d0) (w : Vw) (vs : List V) (ds : List D) (x0 : Exn) (r : Reps K w vs ds) (h : mk1d cls fn code d0 ds = some x0) :
    ds.length ≤ 1000 ∧ ca x0.cls = .ref C ∧ ∃ l, fs1 g code (vs ++ [v0]) = some l ∧ ∀ f d, x0.fs.lookup f = some d → ∃ v, l.lookup (tx f) = some v ∧ Rep K w v d := by
  subst hg
  unfold mk1d at h
  split at h <;> cases h
  cases r
  exact ⟨Nat.zero_le _, hca, _, rfl, rep_f1 (r0 w)⟩
end
section
variable {X : Cx} {k : Nat} {C fI : Addr} {fd : FuncData} {ps : List Str} {sp : Sp} {x : Str} {p pos : Pos} {e : Expr} {es : List Expr} {ta : TA} {dvs : List V}
theorem pass_no : Passes (L2.CX X.prog X.w) X (fun _ _ _ => False) := fun pins σ H s e s' I c => passes_call (W := fun _ _ _ _ => False) takes_none5 (fun _ _ _ _ h => h) pins σ H s e s' I c
theorem mko_0 (T : OexC X.K C) (iC : PySem.W.findIn X.K (.ref C) "__init__" = some (some (.ref fI))) (tI : PySem.W.typeIn X.K (.ref fI) = some (.type "function"))
    (F1 : FnOk X.prog X.w X.K X.mg X.base (L2.CX X.prog X.w) k fI fd ps sp) (hr : Room (k + 1) X.A) (hb : ∃ ds, Vals dvs ds ∧ Binds X.K fd ps ds) (hg : Gl X x) (hm : X.mg x = some (.ref C))
    (hdb : (x == ("__debug__" : Str)) = false := by decide) : PMk X (.Call (.Name x p) [] [] pos) (tMkO C sp dvs (fun _ H Q => Q [] H)) := by
  obtain ⟨ds, hd, hb⟩ := hb
  exact pmk_oex0 T iC tI F1 hr hb hd pass_no hg hm hdb
theorem mko_1 (T : OexC X.K C) (iC : PySem.W.findIn X.K (.ref C) "__init__" = some (some (.ref fI))) (tI : PySem.W.typeIn X.K (.ref fI) = some (.type "function"))
    (F1 : FnOk X.prog X.w X.K X.mg X.base (L2.CX X.prog X.w) k fI fd ps sp) (hr : Room (k + 1) X.A) (hb : ∃ ds, Vals dvs ds ∧ Binds X.K fd ps ds) (hg : Gl X x) (hm : X.mg x = some (.ref C)) (ha : PA X (e :: es) ta)
    (hdb : (x == ("__debug__" : Str)) = false := by decide) (he : starEach (e :: es) X.env = (false, eval e X.env) :: starEach es X.env := by rfl) (hpl : (backTo pos (starEach es X.env)).any (·.1) = false := by rfl) :
    PMk X (.Call (.Name x p) (e :: es) [] pos) (tMkO C sp dvs ta) := by
  obtain ⟨ds, hd, hb⟩ := hb
  exact pmk_oex T iC tI F1 hr hb hd pass_no hg hm ha hdb he hpl
end
end Lp

set_option Elab.async false
set_option linter.all false
set_option maxRecDepth 100000
set_option maxHeartbeats 1000000
namespace Lp
open PySem L2
/-- what a def of the table keeps, at the fuel k -/
def spF (K : Frag) (ca : String → Value) (G : Txs) (k : Nat) (f : String) : Sp := fun vs H Q E => ∃ w M ds, SR K M w H ∧ Reps K w vs ds ∧ Post K ca (RV K) (fun cls dx _ H' => E cls dx H') w H [] (callN G k f ds M) Q
theorem Post.call {K : Frag} {ca : String → Value} {W : WX} {w : Vw} {H : Hp} {σ : St} {r : Res D} {Q : VK} (h : Post K ca (RV K) W w H σ r Q) : Post K ca (RV K) (fun cls dx _ H' => WE W σ cls dx H') w H [] r Q := by
  cases r with
  | ok d M => exact h
  | exc x M => exact h
  | stuck => exact h
theorem spF_len {K : Frag} {ca : String → Value} {G : Txs} {k : Nat} {f : String} {d : Def} {n : Nat} (hT : G.T f = some d) (hn : d.np = n) : ∀ vs H Q E, spF K ca G k f vs H Q E → vs.length = n := by
  rintro vs H Q E ⟨w, M, ds, sr, rs, q⟩
  cases k with
  | zero => exact q.elim
  | succ k =>
    unfold callN at q
    rw [hT] at q
    simp only at q
    split at q
    · rename_i h
      rw [rs.length, h, hn]
    · exact q.elim
section
variable {X : Cx} {c : Ct} {kk k : Nat} {fa : Addr} {fd : FuncData} {ps : List Str} {G : Txs} {fn : String} {x : Str} {p pos : Pos} {e : Expr} {es : List Expr} {xs : EXs} {ds : List Value} {dvs : List V} {dfl : List D}
theorem Reps.all {K : Frag} {w : Vw} : ∀ {vs : List V} {ds : List D}, Reps K w vs ds → Reps K w vs ds := fun h => h
theorem se_call (F : FnOk X.prog X.w X.K X.mg X.base (L2.CX X.prog X.w) kk fa fd ps (spF X.K c.ca G k fn)) (hr : Room kk X.A) (hg : Gl X x) (hm : X.mg x = some (.ref fa)) (hk : PySem.W.keepIn X.K (.ref fa) = true) (hb : ∃ ds, Vals dvs ds ∧ Binds X.K fd ps ds)
    (hdr : ∀ w, Reps X.K w dvs dfl) (tk : Takes X c.W) (ha : SA X c (e :: es) xs) (hC : c.C.call = callN G k)
    (hdb : (x == ("__debug__" : Str)) = false := by decide) (he : starEach (e :: es) X.env = (false, eval e X.env) :: starEach es X.env := by rfl) (hpl : (backTo pos (starEach es X.env)).any (·.1) = false := by rfl) :
    SE X c (.Call (.Name x p) (e :: es) [] pos) (.call fn xs dfl) := by
  obtain ⟨ds, hd, hb⟩ := hb
  refine PE.imp (pe_callSD F hr hg hm hk hb hd (fun σ => passAt tk σ) ha hdb he hpl) ?_
  rintro σ H Q ⟨ρ, M, w, H0, s, en, q⟩
  unfold ev at q
  refine ⟨ρ, M, w, H0, s, en, (Post.bind (R := RVs X.K) q).imp ?_⟩
  rintro vs H1 ⟨w1, M1, xs1, e1, s1, rs, p1⟩
  rw [hC] at p1
  exact ⟨w1, M1, _, s1, rs.append (hdr w1), p1.call⟩
end
/-- a def keeps its promise at k + 1 if its body does over the calls at k -/
theorem def_ok {P : Program} {w : World} {K : Frag} {mg : Str → Option Value} {base : Heap} {ca : String → Value} {G : Txs} {k kk : Nat} {fn : String} {d : Def} {x qual : Str} {params : Arguments} {body : List Stmt} {scope : Scope} {dvs : List V} {kws : List (Str × V)} {f : Addr} {fd : FuncData} {N ps : List Str}
    (F : FunD K x qual params body scope dvs kws f fd) (S : FnScope N ps scope) (hT : G.T fn = some d) (hnp : d.np = ps.length) (hnl : d.nl = N.length) (hle : ps.length ≤ N.length)
    (hbody : ∀ (cdv : Value) (A : Around) (outer : List Env) (s : Shared) (H : Hp) (E : XK), Room kk (cxOf (L2.CX P w) P w K mg base N qual scope f cdv A outer s H E).A →
      SSs (cxOf (L2.CX P w) P w K mg base N qual scope f cdv A outer s H E) ⟨ca, orc G k, fun cls dx _ H' => E cls dx H'⟩ body d.body) :
    FnOk P w K mg base (L2.CX P w) (kk + 1) f fd ps (spF K ca G (k + 1) fn) := by
  refine F.ok S (spF_len hT hnp) (fun cdv A outer s H vs Q E hr hsp => ⟨_, hbody cdv A outer s H E hr, ?_⟩)
  obtain ⟨w0, M, ds, sr, rs, q⟩ := hsp
  unfold callN at q
  rw [hT] at q
  simp only at q
  split at q
  case isFalse => exact q.elim
  rename_i hlen
  have hl : vs.length = ps.length := by rw [rs.length, hlen, hnp]
  refine ⟨Lp.start d ds, M, w0, w0, H, sr, Ext.refl _ _, ⟨?_, ?_, ?_⟩, ?_⟩
  · unfold L2.start Lp.start
    simp only [List.length_append, List.length_map, List.length_replicate, rs.length, hnl]
  · intro i sl e
    unfold Lp.start at e
    by_cases hi : i < ds.length
    · rw [List.getElem?_append_left (by simpa using hi), List.getElem?_map] at e
      cases hd : ds[i]? with
      | none => rw [hd] at e; cases e
      | some dd =>
        rw [hd] at e; cases e
        obtain ⟨v, hv, rv⟩ := rs.get hd
        have : (L2.start N vs)[i]? = some (some v) := by
          unfold L2.start
          rw [List.getElem?_append_left (by rw [List.length_map, rs.length]; exact hi), List.getElem?_map, hv]
          rfl
        rw [this]
        exact .d rv
    · rw [List.getElem?_append_right (by simpa using hi), List.getElem?_replicate] at e
      split at e <;> cases e
      exact .no _
  · intro i j d1 d2 a hij e1
    unfold Lp.start at e1
    by_cases hi : i < ds.length
    · rw [List.getElem?_append_left (by simpa using hi), List.getElem?_map] at e1
      cases hd : ds[i]? with
      | none => rw [hd] at e1; cases e1
      | some dd => rw [hd] at e1; cases e1
    · rw [List.getElem?_append_right (by simpa using hi), List.getElem?_replicate] at e1
      split at e1 <;> cases e1
  · have q2 : Post K ca (RV K) (fun cls dx _ H' => E cls dx H') w0 H [] (exs (orc G k) d.body (Lp.start d ds) M).res Q := q
    show PostS K ca (fun cls dx _ H' => E cls dx H') w0 H (exs (orc G k) d.body (Lp.start d ds) M) _
    generalize exs (orc G k) d.body (Lp.start d ds) M = fl at q2 ⊢
    cases fl with
    | next ρ M1 => intro σ' w' H' e s' en; exact q2 _ _ _ e s' .non
    | ret dd M1 => intro v w' H' e s' r; exact q2 _ _ _ e s' r
    | brk ρ M1 => exact q2.elim
    | cnt ρ M1 => exact q2.elim
    | exc z ρ M1 => intro cls dx σ' w' H' e s' en xr; exact q2 _ _ _ _ e s' xr
    | stuck => exact q2.elim
/-- at the fuel 0 nothing is promised -/
theorem fn_zero {P : Program} {w : World} {K : Frag} {mg : Str → Option Value} {base : Heap} {ca : String → Value} {G : Txs} {kk : Nat} {fn : String} {f : Addr} {fd : FuncData} {ps : List Str} : FnOk P w K mg base (L2.CX P w) kk f fd ps (spF K ca G 0 fn) :=
  ⟨fun vs H Q E ⟨_, _, _, _, _, q⟩ => q.elim, fun A outer s H args us vs Q E _ _ _ _ ⟨_, _, _, _, _, q⟩ => q.elim⟩
end Lp

set_option Elab.async false
set_option linter.all false
set_option maxRecDepth 100000
set_option maxHeartbeats 1000000
namespace Lp
open PySem L2
theorem boot_isinstance : bootBuiltins "isinstance" = some (.builtin "isinstance") := by decide +kernel
theorem boot_all : bootBuiltins "all" = some (.builtin "all") := by decide +kernel
theorem boot_any : bootBuiltins "any" = some (.builtin "any") := by decide +kernel
theorem boot_sum : bootBuiltins "sum" = some (.builtin "sum") := by decide +kernel
theorem boot_min : bootBuiltins "min" = some (.builtin "min") := by decide +kernel
theorem boot_sorted : bootBuiltins "sorted" = some (.builtin "sorted") := by decide +kernel
theorem boot_int : bootBuiltins "int" = some (.type "int") := by decide +kernel
theorem boot_bool : bootBuiltins "bool" = some (.type "bool") := by decide +kernel
theorem boot_str : bootBuiltins "str" = some (.type "str") := by decide +kernel
theorem boot_list : bootBuiltins "list" = some (.type "list") := by decide +kernel
theorem boot_tuple : bootBuiltins "tuple" = some (.type "tuple") := by decide +kernel
theorem boot_dict : bootBuiltins "dict" = some (.type "dict") := by decide +kernel
theorem vInit {K : Frag} : PySem.W.findCls K (.type "ValueError") (.type "type") "__init__" = some (.val (.builtin "ValueError.__init__")) := by kernel_rfl
section
variable {X : Cx} {c : Ct} {pos : Pos}
theorem se_gintx {n : Str} {i : Int} (hg : Gl X n) (hm : ∃ t, X.mg n = some (.int i t)) (hd : (n == ("__debug__" : Str)) = false := by decide +kernel) : SE X c (.Name n pos) (.c (.int i)) := by
  obtain ⟨t, hm⟩ := hm
  exact se_gint hg hm ⟨t, rfl⟩ hd
theorem se_gstrx {n z : Str} {i : S} (hg : Gl X n) (hm : ∃ t, X.mg n = some (.str z t)) (hz : z = tx i) (hd : (n == ("__debug__" : Str)) = false := by decide +kernel) : SE X c (.Name n pos) (.c (.str i)) := by
  subst hz
  obtain ⟨t, hm⟩ := hm
  exact se_gstr hg hm ⟨t, rfl⟩ hd
end
/-! ### facts of the heap behind the top, as Bools -/
/-- an own exception class over ValueError -/
def oexB (K : Frag) (C : Addr) : Bool := (match K.lookup C with
  | some ⟨.type t, dd, .cls cd, sl⟩ => decide (t = "type") && ((match cd.mro with
    | .ref C' :: bm => decide (C' = C) && PySem.HandSPX.refsVE bm
    | _ => false) && (cd.hasDict && (!cd.hasDel && (match sl.toList with
      | [k0, k1, k2, k3, some (.builtin n), k5] => decide (n = "ValueError.__new__")
      | _ => false))))
  | _ => false) && (He.eqO (PySem.W.findIn K (.ref C) "__setattr__") (some (some (.builtin "object.__setattr__"))) && (decide (PySem.W.subIn K (.ref C) (.type "BaseException") = some true) && (decide (PySem.W.typeIn K (.ref C) = some (.type "type")) && PySem.W.keepIn K (.ref C))))
theorem oexB_ok {K : Frag} {C : Addr} (h : oexB K C = true) : OexC K C := by
  obtain ⟨h1, h⟩ := Bool.and_eq_true_iff.mp h
  obtain ⟨h2, h⟩ := Bool.and_eq_true_iff.mp h
  obtain ⟨h3, h⟩ := Bool.and_eq_true_iff.mp h
  obtain ⟨h4, h5⟩ := Bool.and_eq_true_iff.mp h
  refine ⟨?_, He.eqO_ok h2, of_decide_eq_true h3, of_decide_eq_true h4, h5⟩
  split at h1
  · rename_i t dd cd sl hK
    obtain ⟨g1, h1⟩ := Bool.and_eq_true_iff.mp h1
    obtain ⟨g2, h1⟩ := Bool.and_eq_true_iff.mp h1
    obtain ⟨g3, h1⟩ := Bool.and_eq_true_iff.mp h1
    obtain ⟨g4, g5⟩ := Bool.and_eq_true_iff.mp h1
    split at g2
    · rename_i C' bm hm
      obtain ⟨g2a, g2b⟩ := Bool.and_eq_true_iff.mp g2
      split at g5
      · rename_i k0 k1 k2 k3 n k5 hs
        obtain rfl := of_decide_eq_true g1
        obtain rfl := of_decide_eq_true g2a
        obtain rfl := of_decide_eq_true g5
        obtain ⟨nm, bs, mro, ns, qn, hd, sn, sub, ab, col, del⟩ := cd
        obtain ⟨l⟩ := sl
        dsimp only at hm g3 g4 hs
        subst hm hs
        have g3' : hd = true := g3
        have g4' : del = false := by simpa using g4
        subst g3' g4'
        exact ⟨nm, qn, ns, bs, bm, sn, sub, ab, col, dd, k0, k1, k2, k3, k5, hK, g2b⟩
      · cases g5
    · cases g2
  · cases h1
/-- C.__init__ may be read, and is the def at f -/
def ciB (K : Frag) (C f : Addr) : Bool := PySem.W.readsIn K C (.type "type") && (He.eqO (PySem.W.specialIn K (.ref C) "__getattribute__") (some (some (.builtin "type.__getattribute__"))) && ((match PySem.W.findCls K (.ref C) (.type "type") "__init__" with
  | some (.val (.ref a)) => decide (a = f)
  | _ => false) && (He.eqO (PySem.W.findIn K (.ref C) "__init__") (some (some (.ref f))) && decide (PySem.W.typeIn K (.ref f) = some (.type "function")))))
structure CiOk (K : Frag) (C f : Addr) : Prop where
  rd : ClX.CRead K C (.type "type")
  vl : ClX.CVal K C (.type "type") "__init__" (.ref f) (.ref f)
  fi : PySem.W.findIn K (.ref C) "__init__" = some (some (.ref f))
  ty : PySem.W.typeIn K (.ref f) = some (.type "function")
theorem ciB_ok {K : Frag} {C f : Addr} (h : ciB K C f = true) : CiOk K C f := by
  obtain ⟨h1, h⟩ := Bool.and_eq_true_iff.mp h
  obtain ⟨h2, h⟩ := Bool.and_eq_true_iff.mp h
  obtain ⟨h3, h⟩ := Bool.and_eq_true_iff.mp h
  obtain ⟨h4, h5⟩ := Bool.and_eq_true_iff.mp h
  refine ⟨⟨h1, He.eqO_ok h2⟩, ⟨?_, rfl⟩, He.eqO_ok h4, of_decide_eq_true h5⟩
  split at h3
  · rename_i a e
    rw [← of_decide_eq_true h3]
    exact e
  · cases h3
/-- C has no f of its own -/
def noB (K : Frag) (C : Addr) (fs : List Str) : Bool := fs.all fun f => He.eqO (PySem.W.findIn K (.ref C) f) (some none)
theorem noB_ok {K : Frag} {C : Addr} {fs : List Str} (h : noB K C fs = true) : ∀ f ∈ fs, PySem.W.findIn K (.ref C) f = some none := fun f hf => He.eqO_ok (List.all_eq_true.mp h f hf)
def exmB (K : Frag) (x y : Value) (b : Bool) : Bool := decide (PySem.W.exmOne K x y = some b)
theorem exmB_ok {K : Frag} {x y : Value} {b : Bool} (h : exmB K x y b = true) : PySem.W.exmOne K x y = some b := of_decide_eq_true h
def clsSt (s : Stmt) (i : Nat) : Stmt := match s with
  | .ClassDef _ _ _ b _ _ _ _ _ _ _ => b.getD i (.Pass ⟨0, 0, 0, 0⟩)
  | _ => .Pass ⟨0, 0, 0, 0⟩
theorem ulim1 {k : Nat} {A : Around} (hr : Room k A) : A.units + 1 < cLine := by have := hr.un; omega
theorem ulim64 {k : Nat} {A : Around} (hr : Room k A) : A.units + 64 < cLine := by have := hr.un; omega
theorem reps_ints {K : Frag} {w : Vw} : ∀ ns : List Int, Reps K w (ns.map V.int) (ns.map D.int)
  | [] => .nil
  | n :: r => .cons (.int n) (reps_ints r)
/-- the law's def is entered with the script -/
theorem law_enter {K : Frag} {H : Hp} {a : Addr} {ns : List Int} {ca : String → Value} {G : Txs} {k : Nat} {fn : String} (hS : SqL K H a (ns.map V.int)) (h : ∃ M', callN G k fn [.lst (ns.map D.int)] [] = .ok (.bl true) M') :
    spF K ca G k fn [.ref a] H (fun v _ => v = .bl true) (fun _ _ _ => False) := by
  obtain ⟨M', h⟩ := h
  refine ⟨⟨0, fun _ => 0, H⟩, [], [.lst (ns.map D.int)], ⟨rfl, fun _ _ h => h, fun c hc => absurd hc (Nat.not_lt_zero _), fun c d hc => by simp at hc, fun c c' d d' hc => by simp at hc⟩, .cons (.lst hS (reps_ints ns)) .nil, ?_⟩
  rw [h]
  intro v w' H' e s r
  cases r
  rfl
/-! ### the Hook: what the module's names reach, and the statics -/
def kL (n : Nat) (g : Addr → Option Obj) : Frag := He.frG g (cStatics :: He.asD g n)
abbrev AlL : Type := He.AlD × Bool
def obsL (n : Nat) (fa : List He.Fa) (fn : List He.DefD) (ex : Frag → Bool) (g : Addr → Option Obj) : AlL := (He.obsD fa fn (kL n g), ex (kL n g))
structure SaysL (fa : List He.Fa) (fn : List He.DefD) (ex : Frag → Bool) (K : Frag) : Prop where
  d : He.SaysD fa fn K
  more : ex K = true
def hookL (n : Nat) (fa : List He.Fa) (fn : List He.DefD) (ex : Frag → Bool) : PySem.W.Hook where
  α := AlL
  obs := fun s => obsL n fa fn ex s.heap.get?
  val := fun _ => (He.valD fn, true)
  says := fun _ h => ∃ K : Frag, K.In h ∧ SaysL fa fn ex K
  of := fun _ _ e => ⟨_, He.frG_in, ⟨congrArg (fun z : AlL => z.1) e, congrArg (fun z : AlL => z.2) e⟩⟩
  keeps := fun _ _ _ ⟨K, hK, c⟩ k => ⟨K, PySem.W.Frag.In.keeps hK k, c⟩
theorem obsL_eq {n : Nat} {fa : List He.Fa} {fn : List He.DefD} {ex : Frag → Bool} {g : Addr → Option Obj} {s : Shared} (h : ∀ a, g a = s.heap.get? a) : obsL n fa fn ex g = (hookL n fa fn ex).obs s := by
  have e : g = s.heap.get? := funext h
  rw [e] <;> rfl
theorem fn_no {P : Program} {w : World} {K : Frag} {mg : Str → Option Value} {base : Heap} {CX' : CXT} {k : Nat} {f : Addr} {fd : FuncData} {ps : List Str} {sp : Sp} (F : FnOk P w K mg base (L2.CX P w) k f fd ps sp) : FnOk P w K mg base CX' k f fd ps (fun vs H Q _ => sp vs H Q fun _ _ _ => False) :=
  ⟨fun vs H Q E h => F.len vs H Q _ h, fun A outer s H args us vs Q E hr e0 hb hv hs => codeAny_mono (F.run A outer s H args us vs Q _ hr e0 hb hv hs) fun r s' h => by
    cases r with
    | error e =>
      obtain ⟨_, _, _, _, _, _, _, _, _, _, _, _, z⟩ := h
      exact z.elim
    | ok fl => cases fl <;> exact h⟩
end Lp

set_option Elab.async false
set_option linter.all false
set_option maxRecDepth 100000
set_option maxHeartbeats 1000000
namespace Lp
open PySem
theorem compGo_map {f : D → Mem → Res (Option D)} {g : D → D} {M : Mem} : ∀ (xs acc : List D), (∀ x ∈ xs, f x M = .ok (some (g x)) M) → acc.length + xs.length ≤ L → compGo f acc xs M = .ok (acc ++ xs.map g) M
  | [], acc, _, _ => by simp [compGo]
  | x :: r, acc, h, hl => by
    rw [compGo, h x List.mem_cons_self]
    simp only [List.length_cons] at hl
    simp only [if_pos (show acc.length < L by omega)]
    rw [compGo_map r (acc ++ [g x]) (fun y hy => h y (List.mem_cons_of_mem _ hy)) (by simp; omega)]
    simp
theorem compGo_opt {f : D → Mem → Res (Option D)} {g : D → Option D} {M : Mem} : ∀ (xs acc : List D), (∀ x ∈ xs, f x M = .ok (g x) M) → acc.length + xs.length ≤ L → compGo f acc xs M = .ok (acc ++ xs.filterMap g) M
  | [], acc, _, _ => by simp [compGo]
  | x :: r, acc, h, hl => by
    rw [compGo, h x List.mem_cons_self]
    simp only [List.length_cons] at hl
    cases e : g x with
    | none =>
      simp only
      rw [compGo_opt r acc (fun y hy => h y (List.mem_cons_of_mem _ hy)) (by omega)]
      simp [e]
    | some d =>
      simp only [if_pos (show acc.length < L by omega)]
      rw [compGo_opt r (acc ++ [d]) (fun y hy => h y (List.mem_cons_of_mem _ hy)) (by simp; omega)]
      simp [e]
theorem boolsD_map : ∀ (bs : List Bool), boolsD (bs.map .bl) = some bs
  | [] => rfl
  | b :: r => by simp [boolsD, boolsD_map r]
theorem strsD_map : ∀ (ss : List S), strsD (ss.map .str) = some ss
  | [] => rfl
  | b :: r => by simp [strsD, strsD_map r]
theorem intsD_map : ∀ (ss : List Int), intsD (ss.map .int) = some ss
  | [] => rfl
  | b :: r => by simp [intsD, intsD_map r]
@[simp] theorem allD_map {α : Type} (xs : List α) (p : α → Bool) : allD (.lst (xs.map fun x => .bl (p x))) = some (.bl (xs.all p)) := by
  have e : (xs.map fun x => D.bl (p x)) = (xs.map p).map D.bl := by simp
  simp only [allD, e, boolsD_map, Option.map_some]
  simp [List.all_map, Function.comp_def]
end Lp
namespace Lp
@[simp] theorem L_ge0 : 0 ≤ L := by decide
@[simp] theorem L_ge1 : 1 ≤ L := by decide
@[simp] theorem L_ge2 : 2 ≤ L := by decide
@[simp] theorem L_ge3 : 3 ≤ L := by decide
@[simp] theorem L_pos : 0 < L := by decide
theorem orc_call {G : Txs} {k : Nat} : (orc G k).call = callN G k := rfl
theorem orc_mkx {G : Txs} {k : Nat} : (orc G k).mkx = G.mkx := rfl
theorem orc_sub {G : Txs} {k : Nat} : (orc G k).sub = G.sub := rfl
theorem orc_fuel {G : Txs} {k : Nat} : (orc G k).fuel = G.fuel := rfl
theorem kindOf_int {M : Mem} {i : Int} : kindOf M (.int i) = some .int := rfl
theorem kindOf_str {M : Mem} {i : S} : kindOf M (.str i) = some .str := rfl
theorem kindOf_non {M : Mem} : kindOf M .non = some .non := rfl
theorem kindOf_bl {M : Mem} {i : Bool} : kindOf M (.bl i) = some .bool := rfl
theorem kindOf_lst {M : Mem} {i : List D} : kindOf M (.lst i) = some .list := rfl
theorem kindOf_tup {M : Mem} {i : List D} : kindOf M (.tup i) = some .tuple := rfl
theorem kindOf_dic {M : Mem} {i : List (DKey × D)} : kindOf M (.dic i) = some .dict := rfl
theorem isNon_int {i : Int} : isNon (.int i) = false := rfl
theorem isNon_str {i : S} : isNon (.str i) = false := rfl
theorem isNon_non : isNon .non = true := rfl
theorem isNon_bl {i : Bool} : isNon (.bl i) = false := rfl
theorem isNon_lst {i : List D} : isNon (.lst i) = false := rfl
theorem isNon_tup {i : List D} : isNon (.tup i) = false := rfl
theorem isNon_dic {i : List (DKey × D)} : isNon (.dic i) = false := rfl
theorem len0_L : (0 ≤ L) = True := by simp
theorem len1_L : (0 + 1 ≤ L) = True := by simp
theorem len2_L : (0 + 1 + 1 ≤ L) = True := by simp
theorem len3_L : (0 + 1 + 1 + 1 ≤ L) = True := by simp
theorem len4_L : (0 + 1 + 1 + 1 + 1 ≤ L) = True := eq_true (by decide)
theorem len5_L : (0 + 1 + 1 + 1 + 1 + 1 ≤ L) = True := eq_true (by decide)
theorem len6_L : (0 + 1 + 1 + 1 + 1 + 1 + 1 ≤ L) = True := eq_true (by decide)
@[simp] theorem intD_str {s : S} : intD (.str s) = (textInt s).map .int := rfl
@[simp] theorem intD_int {s : Int} : intD (.int s) = some (.int s) := rfl
@[simp] theorem addD_int {i j : Int} : addD (.int i) (.int j) = some (.int (i + j)) := rfl
@[simp] theorem addD_str {i j : S} : addD (.str i) (.str j) = if i.length + j.length ≤ L then some (.str (i ++ j)) else none := rfl
@[simp] theorem subD_int {i j : Int} : subD (.int i) (.int j) = some (.int (i - j)) := rfl
@[simp] theorem leD_int {i j : Int} : leD (.int i) (.int j) = some (decide (i ≤ j)) := rfl
@[simp] theorem leD_str {i j : S} : leD (.str i) (.str j) = some (!ltS j i) := rfl
@[simp] theorem ltD_int {i j : Int} : ltD (.int i) (.int j) = some (decide (i < j)) := rfl
@[simp] theorem ltD_str {i j : S} : ltD (.str i) (.str j) = some (ltS i j) := rfl
@[simp] theorem isD_non {d : D} : isD d .non = some (isNon d) := by cases d <;> rfl
/-- s begins with t -/
def pre (t s : S) : Bool := t.isPrefixOf s
@[simp] theorem startsD_str {s t : S} : startsD (.str s) (.str t) = some (.bl (pre t s)) := rfl
theorem step_next {C : Orc} {s : SX} {r : SXs} {ρ ρ1 : Fr} {M M1 : Mem} (h : ex C s ρ M = .next ρ1 M1) : exs C (.cons s r) ρ M = exs C r ρ1 M1 := by rw [exs, h]; rfl
theorem step_ret {C : Orc} {s : SX} {r : SXs} {ρ : Fr} {M M1 : Mem} {d : D} (h : ex C s ρ M = .ret d M1) : exs C (.cons s r) ρ M = .ret d M1 := by rw [exs, h]; rfl
theorem step_exc {C : Orc} {s : SX} {r : SXs} {ρ ρ1 : Fr} {M M1 : Mem} {x : Exn} (h : ex C s ρ M = .exc x ρ1 M1) : exs C (.cons s r) ρ M = .exc x ρ1 M1 := by rw [exs, h]; rfl
theorem iteB {α : Type} {b : Bool} {x y : α} : (if b = true then x else y) = if b = true then x else y := rfl
@[simp] theorem asB_bl {M : Mem} {b : Bool} : asB (.bl b) M = .ok b M := rfl
@[simp] theorem fres_next {ρ : Fr} {M : Mem} : (Flow.next ρ M).res = .ok .non M := rfl
@[simp] theorem fres_ret {d : D} {M : Mem} : (Flow.ret d M).res = .ok d M := rfl
@[simp] theorem fres_exc {x : Exn} {ρ : Fr} {M : Mem} : (Flow.exc x ρ M).res = .exc x M := rfl
@[simp] theorem fres_stuck : Flow.stuck.res = .stuck := rfl
@[simp] theorem con_ints {M : Mem} {i : Int} : con M (.int i) = some (.int i) := rfl
@[simp] theorem con_strs {M : Mem} {i : S} : con M (.str i) = some (.str i) := rfl
@[simp] theorem con_nons {M : Mem} : con M .non = some .non := rfl
@[simp] theorem con_bls {M : Mem} {b : Bool} : con M (.bl b) = some (.bl b) := rfl
@[simp] theorem con_lsts {M : Mem} {b : List D} : con M (.lst b) = some (.lst b) := rfl
@[simp] theorem con_tups {M : Mem} {b : List D} : con M (.tup b) = some (.tup b) := rfl
@[simp] theorem con_dics {M : Mem} {b : List (DKey × D)} : con M (.dic b) = some (.dic b) := rfl
theorem con_cel {M : Mem} {c : Nat} {xs : List D} (h : M[c]? = some (.lst xs)) : con M (.cell c) = some (.lst xs) := by simp [con, h]
@[simp] theorem lenD_str {M : Mem} {s : S} : lenD M (.str s) = if s.length ≤ L then some (.int s.length) else none := rfl
@[simp] theorem lenD_lst {M : Mem} {s : List D} : lenD M (.lst s) = some (.int s.length) := rfl
@[simp] theorem lenD_tup {M : Mem} {s : List D} : lenD M (.tup s) = some (.int s.length) := rfl
@[simp] theorem lenD_dic {M : Mem} {s : List (DKey × D)} : lenD M (.dic s) = some (.int s.length) := rfl
@[simp] theorem isIn1_chr {c : Nat} {t : S} : isIn1 (.str [c]) (.str t) = some (t.contains c) := rfl
/-- a def is run -/
theorem callN_run {G : Txs} {f : String} {d : Def} (h : G.T f = some d) (k : Nat) (args : List D) (M : Mem) (hn : args.length = d.np) : callN G (k + 1) f args M = (exs (orc G k) d.body (Lp.start d args) M).res := by
  rw [callN, h]
  simp only [hn, if_true, orc]
theorem comp_all {f : Nat → Bool} {F : D → Mem → Res (Option D)} {M : Mem} (s : S) (hs : s.length ≤ L) (h : ∀ c ∈ s, F (.str [c]) M = .ok (some (.bl (f c))) M) : compGo F [] (s.map fun c => .str [c]) M = .ok (s.map fun c => .bl (f c)) M := by
  have := compGo_map (f := F) (g := fun d => match d with | .str [c] => .bl (f c) | _ => .non) (M := M) (s.map fun c => .str [c]) [] (by
    intro x hx
    obtain ⟨c, hc, rfl⟩ := List.mem_map.mp hx
    exact h c hc) (by simpa using hs)
  rw [this]
  simp
end Lp

set_option Elab.async false
set_option linter.all false
set_option maxRecDepth 100000
set_option maxHeartbeats 1000000
namespace Lp
/-! ### numbers -/
def nT (m : Nat) : S := (Nat.toDigits 10 m).map Char.toNat
theorem intText_nat (m : Nat) : intText (m : Int) = nT m := by
  unfold intText nT
  show (toString m).toList.map Char.toNat = _
  rw [show toString m = Nat.repr m from rfl, Nat.toList_repr]
theorem intText_neg' (m : Nat) : intText (-((m + 1 : Nat) : Int)) = 45 :: nT (m + 1) := by
  unfold intText nT
  rw [show (-((m + 1 : Nat) : Int)) = Int.negSucc m from rfl]
  show ("-" ++ Nat.repr (m + 1)).toList.map Char.toNat = _
  rw [String.toList_append, Nat.toList_repr]
  rfl
theorem digitChar_code {d : Nat} (h : d < 10) : (Nat.digitChar d).toNat = 48 + d := by
  match d, h with
  | 0, _ => rfl | 1, _ => rfl | 2, _ => rfl | 3, _ => rfl | 4, _ => rfl | 5, _ => rfl | 6, _ => rfl | 7, _ => rfl | 8, _ => rfl | 9, _ => rfl
theorem nT_small {m : Nat} (h : m < 10) : nT m = [48 + m] := by
  unfold nT
  rw [Nat.toDigits_of_lt_base h]
  simp [digitChar_code h]
theorem nT_big {m : Nat} (h : 10 ≤ m) : nT m = nT (m / 10) ++ [48 + m % 10] := by
  unfold nT
  rw [Nat.toDigits_of_base_le (by decide) h]
  simp [digitChar_code (Nat.mod_lt m (by decide : 10 > 0))]
theorem nT_figs : ∀ m : Nat, (nT m).all isFig = true := by
  intro m
  induction m using Nat.strongRecOn with
  | ind m ih =>
    by_cases h : m < 10
    · rw [nT_small h]
      simp [isFig]; omega
    · rw [nT_big (by omega), List.all_append, ih (m / 10) (by omega)]
      simp [isFig]; omega
theorem nT_head : ∀ m : Nat, 0 < m → ∃ c r, nT m = c :: r ∧ 49 ≤ c ∧ c ≤ 57 := by
  intro m
  induction m using Nat.strongRecOn with
  | ind m ih =>
    intro h0
    by_cases h : m < 10
    · exact ⟨48 + m, [], nT_small h, by omega, by omega⟩
    · obtain ⟨c, r, e, h1, h2⟩ := ih (m / 10) (by omega) (by omega)
      exact ⟨c, r ++ [48 + m % 10], by rw [nT_big (by omega), e]; rfl, h1, h2⟩
theorem nT_len {m k : Nat} (h : 0 < k) : (nT m).length ≤ k ↔ m < 10 ^ k := by
  unfold nT
  rw [List.length_map]
  exact Nat.length_toDigits_le_iff (by decide) h
theorem nT_pos (m : Nat) : 1 ≤ (nT m).length := by
  unfold nT
  rw [List.length_map]
  exact Nat.length_toDigits_pos
theorem figVal_app (f : S) (c : Nat) : figVal (f ++ [c]) = figVal f * 10 + (c - 48) := by
  unfold figVal
  rw [List.foldl_append]
  rfl
theorem nT_val : ∀ m : Nat, figVal (nT m) = m := by
  intro m
  induction m using Nat.strongRecOn with
  | ind m ih =>
    by_cases h : m < 10
    · rw [nT_small h]
      show 0 * 10 + (48 + m - 48) = m
      omega
    · rw [nT_big (by omega), figVal_app, ih (m / 10) (by omega)]
      omega
theorem figs_map : ∀ {f : S}, f.all isFig = true → (f.map Char.ofNat).map Char.toNat = f
  | [], _ => rfl
  | c :: r, h => by
    simp only [List.all_cons, Bool.and_eq_true] at h
    have hc : 48 ≤ c ∧ c ≤ 57 := by
      have := h.1
      unfold isFig at this
      simpa using this
    simp only [List.map_cons, figs_map h.2]
    congr 1
    exact (by decide : ∀ c : Nat, c < 58 → (Char.ofNat c).toNat = c) c (by omega)
theorem nT_of {f : S} (h : f.all isFig = true) (hn : f ≠ []) (hh : f.length = 1 ∨ ∃ c r, f = c :: r ∧ 49 ≤ c) : nT (figVal f) = f := by
  have hl : f.length = (f.length - 1) + 1 := by
    cases f with
    | nil => exact absurd rfl hn
    | cons _ _ => simp
  have := PySem.NumText.toDigits_digitsVal (f.length - 1) f hl (by
    intro c hc
    have := List.all_eq_true.mp h c hc
    unfold isFig at this
    simpa using this) (by
    rcases hh with e | e
    · exact .inl (by omega)
    · exact .inr e)
  unfold nT
  rw [show figVal f = PySem.NumText.digitsVal f from rfl, this, figs_map h]
def figsOf (w : S) : S := if [45].isPrefixOf w then w.drop 1 else w
def numOk (w : S) : Bool := decide (1 ≤ (figsOf w).length) && (decide ((figsOf w).length ≤ 30) && ((figsOf w).all isFig && !(!decide (w = [48]) && [48].isPrefixOf (figsOf w))))
def pNum (w : S) : Option Int := if numOk w = true then textInt w else none
theorem isPre1 {c : Nat} {w : S} : [c].isPrefixOf w = true ↔ ∃ r, w = c :: r := by
  cases w with
  | nil => simp
  | cons d r => exact ⟨fun h => ⟨r, by simp only [List.isPrefixOf, Bool.and_eq_true, beq_iff_eq] at h; rw [h.1]⟩, fun ⟨t, e⟩ => by cases e; simp [List.isPrefixOf]⟩
theorem noPre {a c : Nat} {r : S} (h : c ≠ a) : [a].isPrefixOf (c :: r) = false := by
  cases hh : [a].isPrefixOf (c :: r) with
  | false => rfl
  | true =>
    obtain ⟨t, et⟩ := isPre1.mp hh
    cases et
    exact absurd rfl h
/-- a number that is read is its own text -/
theorem pNum_text {w : S} {i : Int} (h : pNum w = some i) : w = intText i ∧ i.natAbs < 10 ^ 30 := by
  unfold pNum at h
  split at h
  case isFalse => cases h
  rename_i hk
  unfold numOk at hk
  simp only [Bool.and_eq_true, decide_eq_true_eq, Bool.not_eq_true', Bool.and_eq_false_iff, Bool.not_eq_false'] at hk
  obtain ⟨h1, h2, h3, h4⟩ := hk
  by_cases hp : [45].isPrefixOf w = true
  · obtain ⟨r, rfl⟩ := isPre1.mp hp
    have ef : figsOf (45 :: r) = r := by simp [figsOf]
    rw [ef] at h1 h2 h3 h4
    have hr : r ≠ [] := by rintro rfl; simp at h1
    have e : textInt (45 :: r) = some (-(figVal r : Int)) := by
      unfold textInt negText
      simp only [h3, ne_eq, hr, not_false_eq_true, true_and]
      rw [if_pos (by omega)]
    rw [e] at h
    cases h
    have hz : ¬ ∃ t, r = 48 :: t := by
      rintro ⟨t, rfl⟩
      rcases h4 with h4 | h4
      · simp at h4
      · simp at h4
    have hd : ∃ c t, r = c :: t ∧ 49 ≤ c := by
      cases r with
      | nil => exact absurd rfl hr
      | cons c t =>
        refine ⟨c, t, rfl, ?_⟩
        simp only [List.all_cons, Bool.and_eq_true] at h3
        have h5 := h3.1
        unfold isFig at h5
        simp only [Bool.and_eq_true, decide_eq_true_eq] at h5
        have : c ≠ 48 := fun z => hz ⟨t, by rw [z]⟩
        omega
    have hv := nT_of h3 hr (.inr hd)
    have hpos : 0 < figVal r := by
      rcases Nat.eq_zero_or_pos (figVal r) with z | z
      · rw [z] at hv
        obtain ⟨c, t, e, hc⟩ := hd
        rw [e] at hv
        have : nT 0 = [48] := nT_small (by decide)
        rw [this] at hv
        simp at hv
        omega
      · exact z
    obtain ⟨m, hm⟩ : ∃ m, figVal r = m + 1 := ⟨figVal r - 1, by omega⟩
    refine ⟨?_, ?_⟩
    · rw [hm, intText_neg', ← hm, hv]
    · have := (nT_len (m := figVal r) (k := 30) (by decide)).mp (by rw [hv]; exact h2)
      simpa using this
  · have ef : figsOf w = w := by simp only [figsOf, hp, if_false, Bool.false_eq_true]
    rw [ef] at h1 h2 h3 h4
    have hr : w ≠ [] := by rintro rfl; simp at h1
    have hng : negText w = none := by
      cases w with
      | nil => rfl
      | cons c t =>
        have : c ≠ 45 := fun z => hp (isPre1.mpr ⟨t, by rw [z]⟩)
        unfold negText
        split
        · rename_i e; cases e; exact absurd rfl this
        · rfl
    have e : textInt w = some (figVal w : Int) := by
      unfold textInt
      simp only [hng, h3, ne_eq, hr, not_false_eq_true, true_and]
      rw [if_pos (by omega)]
    rw [e] at h
    cases h
    have hd : w.length = 1 ∨ ∃ c t, w = c :: t ∧ 49 ≤ c := by
      cases w with
      | nil => exact absurd rfl hr
      | cons c t =>
        simp only [List.all_cons, Bool.and_eq_true] at h3
        have h5 := h3.1
        unfold isFig at h5
        simp only [Bool.and_eq_true, decide_eq_true_eq] at h5
        by_cases hc : c = 48
        · rcases h4 with h4 | h4
          · rw [h4]; exact .inl rfl
          · subst hc; simp at h4
        · exact .inr ⟨c, t, rfl, by omega⟩
    have hv := nT_of h3 hr hd
    exact ⟨by rw [intText_nat, hv], by
      have := (nT_len (m := figVal w) (k := 30) (by decide)).mp (by rw [hv]; exact h2)
      simpa using this⟩
theorem nT_ne (m : Nat) : nT m ≠ [] := fun e => by have := nT_pos m; rw [e] at this; simp at this
theorem nT_nopre (m : Nat) : [45].isPrefixOf (nT m) = false := by
  cases h : [45].isPrefixOf (nT m) with
  | false => rfl
  | true =>
    obtain ⟨r, e⟩ := isPre1.mp h
    have := nT_figs m
    rw [e] at this
    simp [isFig] at this
/-- a number's text is read -/
theorem pNum_of {i : Int} (h : i.natAbs < 10 ^ 30) : pNum (intText i) = some i := by
  by_cases h0 : 0 ≤ i
  · obtain ⟨m, rfl⟩ := Int.eq_ofNat_of_zero_le h0
    rw [intText_nat]
    have hm : m < 10 ^ 30 := by simpa using h
    have ef : figsOf (nT m) = nT m := by simp only [figsOf, nT_nopre, Bool.false_eq_true, if_false]
    have hz : nT m = [48] ∨ [48].isPrefixOf (nT m) = false := by
      by_cases hp : 0 < m
      · right
        obtain ⟨c, r, e, hc, _⟩ := nT_head m hp
        rw [e]
        exact noPre (by omega)
      · left
        rw [show m = 0 by omega]; exact nT_small (by decide)
    have hk : numOk (nT m) = true := by
      unfold numOk
      rw [ef]
      simp only [Bool.and_eq_true, decide_eq_true_eq, Bool.not_eq_true', Bool.and_eq_false_iff, Bool.not_eq_false']
      exact ⟨nT_pos m, (nT_len (by decide)).mpr hm, nT_figs m, hz⟩
    unfold pNum
    rw [if_pos hk]
    have hng : negText (nT m) = none := by
      unfold negText
      split
      · rename_i r e
        have := nT_nopre m
        rw [e] at this; simp at this
      · rfl
    unfold textInt
    simp only [hng]
    rw [if_pos ⟨nT_ne m, nT_figs m, by have := (nT_len (m := m) (k := 30) (by decide)).mpr hm; omega⟩, nT_val]
  · obtain ⟨m, rfl⟩ : ∃ m : Nat, i = -((m + 1 : Nat) : Int) := ⟨i.natAbs - 1, by omega⟩
    rw [intText_neg']
    have hm : m + 1 < 10 ^ 30 := by
      have e : (-((m + 1 : Nat) : Int)).natAbs = m + 1 := by omega
      rw [e] at h
      exact h
    have ef : figsOf (45 :: nT (m + 1)) = nT (m + 1) := by simp [figsOf]
    have hz : [48].isPrefixOf (nT (m + 1)) = false := by
      obtain ⟨c, r, e, hc, _⟩ := nT_head (m + 1) (by omega)
      rw [e]
      exact noPre (by omega)
    have hk : numOk (45 :: nT (m + 1)) = true := by
      unfold numOk
      rw [ef]
      simp only [Bool.and_eq_true, decide_eq_true_eq, Bool.not_eq_true', Bool.and_eq_false_iff, Bool.not_eq_false']
      exact ⟨nT_pos _, (nT_len (by decide)).mpr hm, nT_figs _, .inr hz⟩
    unfold pNum
    rw [if_pos hk]
    unfold textInt negText
    simp only
    rw [if_pos ⟨nT_ne _, nT_figs _, by have := (nT_len (m := m + 1) (k := 30) (by decide)).mpr hm; omega⟩, nT_val]
theorem log2_lt {n : Nat} (h : n < 10 ^ 30) : n.log2 < 1920 := by
  rcases Nat.eq_zero_or_pos n with z | z
  · subst z; decide
  · exact (Nat.log2_lt (by omega)).mpr (Nat.lt_of_lt_of_le h (Nat.le_trans (m := 2 ^ 100) (by decide) (Nat.pow_le_pow_right (by decide) (by decide))))
end Lp

set_option Elab.async false
set_option linter.all false
set_option maxRecDepth 100000
set_option maxHeartbeats 1000000
namespace Lp
/-! ### names, texts, values -/
def lower : S := [97, 98, 99, 100, 101, 102, 103, 104, 105, 106, 107, 108, 109, 110, 111, 112, 113, 114, 115, 116, 117, 118, 119, 120, 121, 122]
def signS : S := [97, 98, 99, 100, 101, 102, 103, 104, 105, 106, 107, 108, 109, 110, 111, 112, 113, 114, 115, 116, 117, 118, 119, 120, 121, 122, 48, 49, 50, 51, 52, 53, 54, 55, 56, 57, 32]
def isNameS (s : S) : Bool := decide (1 ≤ s.length) && (decide (s.length ≤ 8) && s.all fun c => lower.contains c)
def textOkS (s : S) : Bool := decide (s.length ≤ 12) && s.all fun c => signS.contains c
def kS : DKey → S
  | .inr s => s
  | .inl _ => []
def ksOf (kvs : List (DKey × D)) : List S := kvs.map fun p => kS p.1
def lkS (k : S) : List (S × S) → S
  | [] => []
  | (k', t) :: r => if k' = k then t else lkS k r
mutual
def vT : D → S
  | .non => [45]
  | .bl _ => []
  | .int i => intText i
  | .str s => 39 :: (s ++ [39])
  | .lst xs => 91 :: (joinS [44] (vTs xs) ++ [93])
  | .tup _ => []
  | .dic kvs => 123 :: (joinS [44] ((sortS (kvs.map fun p => kS p.1)).map fun k => k ++ 58 :: lkS k (vTk kvs)) ++ [125])
  | .cell _ => []
def vTs : List D → List S
  | [] => []
  | x :: r => vT x :: vTs r
def vTk : List (DKey × D) → List (S × S)
  | [] => []
  | (k, x) :: r => (kS k, vT x) :: vTk r
end
mutual
def wf : D → Bool
  | .non => true
  | .bl _ => false
  | .int i => decide (i.natAbs < 10 ^ 30)
  | .str s => textOkS s
  | .lst xs => wfs xs
  | .tup _ => false
  | .dic kvs => wfk kvs && decide (kvs.map fun p => p.1).Nodup
  | .cell _ => false
def wfs : List D → Bool
  | [] => true
  | x :: r => wf x && wfs r
def wfk : List (DKey × D) → Bool
  | [] => true
  | (.inr s, x) :: r => isNameS s && (wf x && wfk r)
  | (.inl _, _) :: _ => false
end
mutual
def dep : D → Nat
  | .lst xs => deps xs + 1
  | .dic kvs => depk kvs + 1
  | .non => 0
  | .bl _ => 0
  | .int _ => 0
  | .str _ => 0
  | .tup _ => 0
  | .cell _ => 0
def deps : List D → Nat
  | [] => 0
  | x :: r => max (dep x) (deps r)
def depk : List (DKey × D) → Nat
  | [] => 0
  | (_, x) :: r => max (dep x) (depk r)
end
/-! ### the reader, plain -/
def stopP : S := [44, 93, 125, 32, 58]
def spanS (p : Nat → Bool) (s : S) : S × S := (s.takeWhile p, s.dropWhile p)
def pPlain : S → Option (D × S)
  | 39 :: r => match r.dropWhile (fun c => !([39] : S).contains c) with
    | [] => none
    | _ :: t => if textOkS (r.takeWhile fun c => !([39] : S).contains c) = true then some (.str (r.takeWhile fun c => !([39] : S).contains c), t) else none
  | s => if s.takeWhile (fun c => !stopP.contains c) = [45] then some (.non, s.dropWhile fun c => !stopP.contains c)
    else (pNum (s.takeWhile fun c => !stopP.contains c)).map fun i => (.int i, s.dropWhile fun c => !stopP.contains c)
def pListGo (it : S → Option (D × S)) : Nat → List D → S → Option (D × S)
  | 0, _, _ => none
  | m + 1, acc, s => match it s with
    | some (v, 93 :: r) => some (.lst (acc ++ [v]), r)
    | some (v, 44 :: r) => pListGo it m (acc ++ [v]) r
    | _ => none
def nmOf (s : S) : S := s.takeWhile fun c => !([58] : S).contains c
def aftOf (s : S) : S := s.dropWhile fun c => !([58] : S).contains c
def pRecGo (it : S → Option (D × S)) : Nat → List (DKey × D) → S → S → Option (D × S)
  | 0, _, _, _ => none
  | m + 1, acc, last, s => match aftOf s with
    | [] => none
    | _ :: t => if isNameS (nmOf s) = true ∧ ltS last (nmOf s) = true then (match it t with
      | some (v, 125 :: r) => some (.dic (acc ++ [(.inr (nmOf s), v)]), r)
      | some (v, 44 :: r) => pRecGo it m (acc ++ [(.inr (nmOf s), v)]) (nmOf s) r
      | _ => none) else none
def pItem : Nat → S → Option (D × S)
  | 0, _ => none
  | n + 1, s => match s with
    | [] => none
    | 91 :: r => (match r with
      | 93 :: t => some (.lst [], t)
      | _ => pListGo (pItem n) 16777216 [] r)
    | 123 :: r => (match r with
      | 125 :: t => some (.dic [], t)
      | _ => pRecGo (pItem n) 16777216 [] [] r)
    | _ => pPlain s
/-! ### what is read was written so -/
theorem drop_head {p : Nat → Bool} : ∀ {s : S} {c : Nat} {t : S}, s.dropWhile p = c :: t → p c = false
  | [], c, t, h => by simp at h
  | d :: s, c, t, h => by
    rw [List.dropWhile_cons] at h
    split at h
    · exact drop_head h
    · rename_i hp
      cases h
      simpa using hp
theorem take_drop (p : Nat → Bool) (s : S) : s = s.takeWhile p ++ s.dropWhile p := (List.takeWhile_append_dropWhile).symm
theorem not1 {a c : Nat} (h : (!([a] : S).contains c) = false) : c = a := by simpa using h
theorem pPlain_sound {s r : S} {v : D} (h : pPlain s = some (v, r)) : s = vT v ++ r ∧ wf v = true ∧ dep v = 0 := by
  unfold pPlain at h
  split at h
  · rename_i q
    split at h
    · cases h
    · rename_i c t hd
      split at h <;> cases h
      rename_i hk
      have hc := not1 (drop_head hd)
      subst hc
      have e := take_drop (fun c => !([39] : S).contains c) q
      rw [hd] at e
      refine ⟨?_, by simpa [wf] using hk, rfl⟩
      show 39 :: q = 39 :: (_ ++ [39]) ++ r
      simp only [List.cons_append, List.append_assoc, List.nil_append]
      rw [← e]
  · have e := take_drop (fun c => !stopP.contains c) s
    split at h
    · rename_i hw
      cases h
      rw [hw] at e
      exact ⟨e, rfl, rfl⟩
    · simp only [Option.map_eq_some_iff, Prod.mk.injEq] at h
      obtain ⟨i, hi, rfl, rfl⟩ := h
      obtain ⟨h1, h2⟩ := pNum_text hi
      rw [h1] at e
      exact ⟨e, by simpa [wf] using h2, rfl⟩
theorem joinS_cons {sep x : S} {r : List S} (h : r ≠ []) : joinS sep (x :: r) = x ++ sep ++ joinS sep r := by
  cases r with
  | nil => exact absurd rfl h
  | cons y r => rfl
theorem vTs_map : ∀ xs : List D, vTs xs = xs.map vT
  | [] => rfl
  | x :: r => by simp [vTs, vTs_map r]
theorem wfs_all : ∀ xs : List D, wfs xs = xs.all wf
  | [] => rfl
  | x :: r => by simp [wfs, wfs_all r]
theorem deps_le : ∀ (xs : List D) (n : Nat), (∀ x ∈ xs, dep x ≤ n) → deps xs ≤ n
  | [], n, _ => Nat.zero_le _
  | x :: r, n, h => by
    have := deps_le r n fun y hy => h y (List.mem_cons_of_mem _ hy)
    have := h x List.mem_cons_self
    simp only [deps]; omega
theorem pListGo_sound {it : S → Option (D × S)} {P : D → Prop} (hi : ∀ s v r, it s = some (v, r) → s = vT v ++ r ∧ P v) : ∀ (m : Nat) (acc : List D) (s : S) (v : D) (r : S), pListGo it m acc s = some (v, r) →
    ∃ vs, vs ≠ [] ∧ v = .lst (acc ++ vs) ∧ s = joinS [44] (vs.map vT) ++ 93 :: r ∧ ∀ x ∈ vs, P x
  | 0, acc, s, v, r, h => by cases h
  | m + 1, acc, s, v, r, h => by
    unfold pListGo at h
    split at h
    · rename_i v1 r1 h1
      cases h
      obtain ⟨e, p⟩ := hi _ _ _ h1
      exact ⟨[v1], by simp, rfl, by simpa [joinS] using e, by simpa using p⟩
    · rename_i v1 r1 h1
      obtain ⟨e, p⟩ := hi _ _ _ h1
      obtain ⟨vs, hn, e2, e3, p2⟩ := pListGo_sound hi m _ _ _ _ h
      refine ⟨v1 :: vs, by simp, by rw [e2]; simp, ?_, ?_⟩
      · rw [List.map_cons, joinS_cons (by simpa using hn), e, e3]
        simp
      · intro x hx
        rcases List.mem_cons.mp hx with rfl | hx
        · exact p
        · exact p2 x hx
    · cases h


theorem ltS_iff2 : ∀ s t : S, ltS s t = true ↔ s < t
  | [], [] => by simp [ltS]
  | [], _ :: _ => by simp [ltS]
  | _ :: _, [] => by simp [ltS]
  | a :: s, b :: t => by
    simp only [ltS, Bool.or_eq_true, decide_eq_true_eq, Bool.and_eq_true, ltS_iff2 s t, List.cons_lt_cons_iff]
theorem ltS_tr {a b c : S} (h : ltS a b = true) (h2 : ltS b c = true) : ltS a c = true := by
  rw [ltS_iff2] at *
  exact List.lt_trans h h2
theorem pRecGo_sound {it : S → Option (D × S)} {P : D → Prop} (hi : ∀ s v r, it s = some (v, r) → s = vT v ++ r ∧ P v) : ∀ (m : Nat) (acc : List (DKey × D)) (last s : S) (v : D) (r : S), pRecGo it m acc last s = some (v, r) →
    ∃ ps : List (S × D), ps ≠ [] ∧ v = .dic (acc ++ ps.map fun p => (.inr p.1, p.2)) ∧ s = joinS [44] (ps.map fun p => p.1 ++ 58 :: vT p.2) ++ 125 :: r ∧ (∀ p ∈ ps, isNameS p.1 = true ∧ P p.2) ∧ (last :: ps.map (·.1)).Pairwise (fun a b => ltS a b = true)
  | 0, acc, last, s, v, r, h => by cases h
  | m + 1, acc, last, s, v, r, h => by
    unfold pRecGo at h
    split at h
    · cases h
    · rename_i c t ha
      split at h
      case isFalse => cases h
      rename_i hk
      have hc := not1 (drop_head ha)
      subst hc
      have es : s = nmOf s ++ 58 :: t := by
        have e := take_drop (fun c => !([58] : S).contains c) s
        rw [show s.dropWhile (fun c => !([58] : S).contains c) = aftOf s from rfl, ha] at e
        exact e
      split at h
      · rename_i v1 r1 h1
        cases h
        obtain ⟨e, p⟩ := hi _ _ _ h1
        refine ⟨[(nmOf s, v1)], by simp, rfl, ?_, by simpa using ⟨hk.1, p⟩, by simpa using hk.2⟩
        simp only [List.map_cons, List.map_nil, joinS]
        rw [List.append_assoc, List.cons_append, ← e]
        exact es
      · rename_i v1 r1 h1
        obtain ⟨e, p⟩ := hi _ _ _ h1
        obtain ⟨ps, hn, e2, e3, p2, hp⟩ := pRecGo_sound hi m _ _ _ _ _ h
        refine ⟨(nmOf s, v1) :: ps, by simp, by rw [e2]; simp, ?_, ?_, ?_⟩
        · rw [List.map_cons, joinS_cons (by simpa using hn)]
          simp only [List.append_assoc, List.cons_append, List.nil_append]
          rw [← e3, ← e]
          exact es
        · intro x hx
          rcases List.mem_cons.mp hx with rfl | hx
          · exact ⟨hk.1, p⟩
          · exact p2 x hx
        · simp only [List.map_cons, List.pairwise_cons] at hp ⊢
          refine ⟨?_, hp⟩
          intro a ha
          rcases List.mem_cons.mp ha with rfl | ha
          · exact hk.2
          · exact ltS_tr hk.2 (hp.1 a ha)
      · cases h
theorem leS_of {a b : S} (h : ltS a b = true) : ltS b a = false := by
  cases h2 : ltS b a with
  | false => rfl
  | true =>
    rw [ltS_iff2] at h h2
    exact absurd (List.lt_trans h h2) (List.lt_irrefl a)
theorem insS_head {s : S} : ∀ {l : List S}, (∀ x ∈ l, ltS s x = true) → insS s l = s :: l
  | [], _ => rfl
  | t :: r, h => by
    unfold insS
    rw [leS_of (h t List.mem_cons_self)]
    rfl
theorem sortS_id : ∀ {l : List S}, l.Pairwise (fun a b => ltS a b = true) → sortS l = l
  | [], _ => rfl
  | s :: r, h => by
    rw [List.pairwise_cons] at h
    unfold sortS
    rw [sortS_id h.2, insS_head h.1]
theorem vTk_map : ∀ ps : List (S × D), vTk (ps.map fun p => (.inr p.1, p.2)) = ps.map fun p => (p.1, vT p.2)
  | [] => rfl
  | p :: r => by simp [vTk, vTk_map r, kS]
theorem ltS_irr2 (a : S) : ltS a a = false := by
  cases h : ltS a a with
  | false => rfl
  | true => rw [ltS_iff2] at h; exact absurd h (List.lt_irrefl a)
theorem rising_nodup : ∀ {l : List S}, l.Pairwise (fun a b => ltS a b = true) → l.Nodup
  | [], _ => .nil
  | s :: r, h => by
    rw [List.pairwise_cons] at h
    refine List.nodup_cons.mpr ⟨fun hm => ?_, rising_nodup h.2⟩
    have := h.1 s hm
    rw [ltS_irr2] at this; cases this
theorem lkS_at : ∀ {ps : List (S × S)}, (ps.map (·.1)).Nodup → ∀ p ∈ ps, lkS p.1 ps = p.2
  | [], _, p, h => by cases h
  | q :: r, nd, p, h => by
    simp only [List.map_cons, List.nodup_cons] at nd
    obtain ⟨k, t⟩ := q
    unfold lkS
    rcases List.mem_cons.mp h with rfl | h
    · simp
    · have : k ≠ p.1 := fun z => nd.1 (List.mem_map.mpr ⟨p, h, z.symm⟩)
      rw [if_neg this]
      exact lkS_at nd.2 p h
theorem map_lk {ps : List (S × S)} (nd : (ps.map (·.1)).Nodup) : (ps.map (·.1)).map (fun k => k ++ 58 :: lkS k ps) = ps.map fun p => p.1 ++ 58 :: p.2 := by
  rw [List.map_map]
  apply List.map_congr_left
  intro p hp
  show p.1 ++ 58 :: lkS p.1 ps = _
  rw [lkS_at nd p hp]
theorem vT_dic (kvs : List (DKey × D)) : vT (.dic kvs) = 123 :: (joinS [44] ((sortS (kvs.map fun p => kS p.1)).map fun k => k ++ 58 :: lkS k (vTk kvs)) ++ [125]) := by rw [vT]
theorem vT_lst (xs : List D) : vT (.lst xs) = 91 :: (joinS [44] (xs.map vT) ++ [93]) := by rw [vT, vTs_map]
theorem vT_str (s : S) : vT (.str s) = 39 :: (s ++ [39]) := by rw [vT]
theorem vT_int (i : Int) : vT (.int i) = intText i := by rw [vT]
theorem vT_non : vT .non = [45] := by rw [vT]
/-- a record with rising names -/
theorem vT_rec {ps : List (S × D)} (h : (ps.map (·.1)).Pairwise fun a b => ltS a b = true) : vT (.dic (ps.map fun p => (.inr p.1, p.2))) = 123 :: (joinS [44] (ps.map fun p => p.1 ++ 58 :: vT p.2) ++ [125]) := by
  rw [vT_dic, vTk_map]
  have e : ((ps.map fun p => ((.inr p.1 : DKey), p.2)).map fun p => kS p.1) = ps.map (·.1) := by
    rw [List.map_map]; rfl
  rw [e, sortS_id h]
  have e2 : (ps.map fun p => (p.1, vT p.2)).map (·.1) = ps.map (·.1) := by rw [List.map_map]; rfl
  have := map_lk (ps := ps.map fun p => (p.1, vT p.2)) (by rw [e2]; exact rising_nodup h)
  rw [e2] at this
  rw [this, List.map_map]
  rfl
theorem wfk_map : ∀ ps : List (S × D), (∀ p ∈ ps, isNameS p.1 = true ∧ wf p.2 = true) → wfk (ps.map fun p => (.inr p.1, p.2)) = true
  | [], _ => rfl
  | p :: r, h => by
    have h1 := h p List.mem_cons_self
    simp [wfk, h1.1, h1.2, wfk_map r fun q hq => h q (List.mem_cons_of_mem _ hq)]
theorem depk_le : ∀ (ps : List (S × D)) (n : Nat), (∀ p ∈ ps, dep p.2 ≤ n) → depk (ps.map fun p => (.inr p.1, p.2)) ≤ n
  | [], n, _ => Nat.zero_le _
  | p :: r, n, h => by
    have := depk_le r n fun y hy => h y (List.mem_cons_of_mem _ hy)
    have := h p List.mem_cons_self
    simp only [List.map_cons, depk]; omega
theorem inr_nodup {ps : List (S × D)} (h : (ps.map (·.1)).Nodup) : ((ps.map fun p => ((.inr p.1 : DKey), p.2)).map fun p => p.1).Nodup := by
  have e : ((ps.map fun p => ((.inr p.1 : DKey), p.2)).map fun p => p.1) = (ps.map (·.1)).map Sum.inr := by simp [List.map_map, Function.comp_def]
  rw [e]
  generalize ps.map (·.1) = l at h
  induction l with
  | nil => exact .nil
  | cons a l ih =>
    rw [List.nodup_cons] at h
    rw [List.map_cons, List.nodup_cons]
    refine ⟨fun hm => ?_, ih h.2⟩
    obtain ⟨b, hb, e⟩ := List.mem_map.mp hm
    cases e
    exact h.1 hb
/-- what is read was written so -/
theorem pItem_sound : ∀ (n : Nat) (s : S) (v : D) (r : S), pItem n s = some (v, r) → s = vT v ++ r ∧ wf v = true ∧ dep v ≤ n
  | 0, s, v, r, h => by cases h
  | n + 1, s, v, r, h => by
    have ih : ∀ s v r, pItem n s = some (v, r) → s = vT v ++ r ∧ (wf v = true ∧ dep v ≤ n) := fun s v r h => pItem_sound n s v r h
    unfold pItem at h
    split at h
    · cases h
    · rename_i q
      split at h
      · rename_i t
        cases h
        exact ⟨rfl, rfl, by simp [dep, deps]⟩
      · obtain ⟨vs, hn, e, e2, p⟩ := pListGo_sound (P := fun v => wf v = true ∧ dep v ≤ n) ih _ _ _ _ _ h
        rw [List.nil_append] at e
        subst e
        refine ⟨?_, ?_, ?_⟩
        · rw [vT_lst, e2]
          simp
        · unfold wf
          rw [wfs_all, List.all_eq_true]
          exact fun x hx => (p x hx).1
        · unfold dep
          have := deps_le vs n fun x hx => (p x hx).2
          omega
    · rename_i q
      split at h
      · rename_i t
        cases h
        exact ⟨rfl, rfl, by simp [dep, depk]⟩
      · obtain ⟨ps, hn, e, e2, p, hp⟩ := pRecGo_sound (P := fun v => wf v = true ∧ dep v ≤ n) ih _ _ _ _ _ _ h
        rw [List.nil_append] at e
        subst e
        rw [List.pairwise_cons] at hp
        refine ⟨?_, ?_, ?_⟩
        · rw [vT_rec hp.2, e2]
          simp
        · unfold wf
          rw [wfk_map ps fun q hq => ⟨(p q hq).1, (p q hq).2.1⟩]
          simp only [Bool.true_and, decide_eq_true_eq]
          exact inr_nodup (rising_nodup hp.2)
        · unfold dep
          have := depk_le ps n fun q hq => (p q hq).2.2
          omega
    · obtain ⟨h1, h2, h3⟩ := pPlain_sound h
      exact ⟨h1, h2, by omega⟩
end Lp

set_option Elab.async false
set_option linter.all false
set_option maxRecDepth 100000
set_option maxHeartbeats 1000000
namespace Lp
def cok (s : S) : Prop := ∀ c ∈ s, c < 1114112
theorem eqD_str {s t : S} (hs : cok s) (ht : cok t) : eqD (.str s) (.str t) = some (decide (s = t)) := by
  simp only [eqD, toPy, Option.bind_some]
  have h1 : ∀ u : S, cok u → PySem.SeqAt.shaped (PySem.PyData.str ⟨u.toArray⟩) = true := fun u hu => by
    simp [PySem.SeqAt.shaped, PySem.PyData.canLay0, PySem.PyData.depth, PySem.PyData.strOk, PySem.Str.length, PySem.sizeLine_eq]
    exact hu
  rw [if_pos ⟨h1 s hs, h1 t ht⟩]
  congr 1
  show ((⟨s.toArray⟩ : PySem.Str) == ⟨t.toArray⟩) = _
  by_cases h : s = t
  · subst h; simp
  · simp [h]
@[simp] theorem eqD_int (s t : Int) : eqD (.int s) (.int t) = some (decide (s = t)) := by
  simp only [eqD, toPy, Option.bind_some]
  have h1 : PySem.SeqAt.shaped (PySem.PyData.int s) = true := rfl
  have h2 : PySem.SeqAt.shaped (PySem.PyData.int t) = true := rfl
  rw [if_pos ⟨h1, h2⟩]
  congr 1
@[simp] theorem eqD_bl (s t : Bool) : eqD (.bl s) (.bl t) = some (decide (s = t)) := by cases s <;> cases t <;> rfl
theorem sEnd_nat (n d a : Nat) : sEnd n d (some (a : Int)) = min a n := by
  have h : ¬ (a : Int) < 0 := by omega
  simp [sEnd, h]
theorem cutL_nat {α : Type} (xs : List α) (a b : Nat) (ha : a ≤ xs.length) (hb : b ≤ xs.length) : cutL xs (some (a : Int)) (some (b : Int)) = (xs.drop a).take (b - a) := by
  unfold cutL
  rw [sEnd_nat, sEnd_nat, Nat.min_eq_left ha, Nat.min_eq_left hb]
theorem cutL_one {α : Type} (xs : List α) (a : Nat) (ha : a ≤ xs.length) : cutL xs (some (a : Int)) (some ((a : Int) + 1)) = (xs.drop a).take 1 := by
  unfold cutL
  rw [show ((a : Int) + 1) = ((a + 1 : Nat) : Int) by omega, sEnd_nat, sEnd_nat, Nat.min_eq_left ha]
  by_cases h : a + 1 ≤ xs.length
  · rw [Nat.min_eq_left h, show a + 1 - a = 1 by omega]
  · have e : xs.length = a := by omega
    rw [Nat.min_eq_right (by omega), e, Nat.sub_self]
    rw [List.drop_eq_nil_of_le (by omega)]
    rfl
/-- the places of signs -/
def plc (stops : S) : Nat → S → List Int
  | _, [] => []
  | a, c :: u => if stops.contains c = true then (a : Int) :: plc stops (a + 1) u else plc stops (a + 1) u
theorem plc_ge {stops : S} : ∀ {u : S} {a : Nat} {x : Int}, x ∈ plc stops a u → (a : Int) ≤ x
  | [], a, x, h => by cases h
  | c :: u, a, x, h => by
    unfold plc at h
    split at h
    · rcases List.mem_cons.mp h with rfl | h
      · exact Int.le_refl _
      · have := plc_ge h; omega
    · have := plc_ge h; omega
theorem plc_min {stops : S} : ∀ {u : S} {a : Nat}, (match (plc stops a u).min? with | some m => m | none => ((a + u.length : Nat) : Int)) = ((a + (u.takeWhile fun c => !stops.contains c).length : Nat) : Int)
  | [], a => by simp [plc]
  | c :: u, a => by
    unfold plc
    by_cases h : stops.contains c = true
    · rw [if_pos h]
      have e : ((a : Int) :: plc stops (a + 1) u).min? = some (a : Int) := by
        rw [List.min?_eq_some_iff]
        refine ⟨List.mem_cons_self, fun b hb => ?_⟩
        rcases List.mem_cons.mp hb with rfl | hb
        · exact Int.le_refl _
        · have := plc_ge hb; omega
      rw [e, List.takeWhile_cons]
      simp only [h, Bool.not_true, Bool.false_eq_true, if_false]
      simp
    · rw [if_neg h, List.takeWhile_cons]
      have ih := plc_min (stops := stops) (u := u) (a := a + 1)
      have h' : stops.contains c = false := by simpa using h
      simp only [h', Bool.not_false, if_true, List.length_cons] at ih ⊢
      rw [show a + (u.length + 1) = a + 1 + u.length by omega, ih]
      congr 1
      omega
end Lp
namespace Lp
theorem ixD_nat {n a : Nat} (h : a < n) : ixD n (a : Int) = some a := by
  unfold ixD
  rw [if_pos (by omega), if_pos (by simpa using h)]
  simp
theorem idx_str {M : Mem} {t : S} {a c : Nat} (ht : t.length ≤ L) (h : t[a]? = some c) : idxD M (.str t) (.int (a : Int)) = some (.str [c]) := by
  have hl := (List.getElem?_eq_some_iff.mp h).1
  unfold idxD
  simp only [con_strs]
  rw [if_pos ht, ixD_nat hl]
  simp only [Option.bind_some, h, Option.map_some]
theorem rngD_nat {a b : Nat} (ha : a ≤ L) (hb : b ≤ L) : rngD (a : Int) (b : Int) = some ((List.range (b - a)).map fun k => .int ((a + k : Nat) : Int)) := by
  unfold rngD
  have hL : L = 16777216 := rfl
  rw [if_pos (by omega)]
  rw [show ((b : Int) - (a : Int)).toNat = b - a by omega]
  congr 1
/-- which signs stop -/
def stopG (t stops : S) : D → Option D
  | .int p => match t[p.toNat]? with
    | some c => if stops.contains c = true then some (.int p) else none
    | none => none
  | _ => none
theorem stops_plc (t stops : S) : ∀ (n a : Nat), a + n = t.length → ((List.range n).map fun k => D.int ((a + k : Nat) : Int)).filterMap (stopG t stops) = (plc stops a (t.drop a)).map .int
  | 0, a, h => by
    rw [List.drop_eq_nil_of_le (by omega)]
    rfl
  | n + 1, a, h => by
    have hl : a < t.length := by omega
    have ih := stops_plc t stops n (a + 1) (by omega)
    rw [List.range_succ_eq_map, List.map_cons, List.map_map, List.filterMap_cons]
    have e : ((fun k => D.int ((a + k : Nat) : Int)) ∘ Nat.succ) = fun k => D.int ((a + 1 + k : Nat) : Int) := by
      funext k
      show D.int ((a + (k + 1) : Nat) : Int) = _
      rw [show a + (k + 1) = a + 1 + k by omega]
    rw [e, ih, List.drop_eq_getElem_cons hl]
    rw [show plc stops a (t[a] :: t.drop (a + 1)) = if stops.contains t[a] = true then (a : Int) :: plc stops (a + 1) (t.drop (a + 1)) else plc stops (a + 1) (t.drop (a + 1)) from by rw [plc]]
    have e2 : stopG t stops (.int ((a + 0 : Nat) : Int)) = if stops.contains t[a] = true then some (.int (a : Int)) else none := by
      unfold stopG
      simp [List.getElem?_eq_getElem hl]
    rw [e2]
    by_cases hc : stops.contains t[a] = true
    · simp only [hc, if_true, List.map_cons]
    · simp only [hc, if_false, Bool.false_eq_true]
/-- how far to the next stop -/
def farS (stops u : S) : Nat := (u.takeWhile fun c => !stops.contains c).length
theorem min_plc {t stops : S} {a : Nat} (ha : a ≤ t.length) : (match (plc stops a (t.drop a)).min? with | some m => D.int m | none => D.int (t.length : Int)) = .int ((a + farS stops (t.drop a) : Nat) : Int) := by
  have := plc_min (stops := stops) (u := t.drop a) (a := a)
  rw [List.length_drop, show a + (t.length - a) = t.length by omega] at this
  unfold farS
  rw [← this]
  cases (plc stops a (t.drop a)).min? <;> rfl
end Lp

set_option Elab.async false
set_option linter.all false
set_option maxRecDepth 100000
set_option maxHeartbeats 1000000
namespace Lp
theorem joinS_len (c : Nat) : ∀ (ys : List S), ys ≠ [] → (joinS [c] ys).length + 1 = (ys.map List.length).sum + ys.length
  | [], h => absurd rfl h
  | [x], _ => by simp [joinS]
  | x :: y :: r, _ => by
    have ih := joinS_len c (y :: r) (by simp)
    rw [joinS_cons (by simp)]
    simp only [List.length_append, List.length_cons, List.length_nil, List.map_cons, List.sum_cons] at ih ⊢
    omega
theorem joinS_ge {c : Nat} : ∀ {ys : List S} {y : S}, y ∈ ys → y.length ≤ (joinS [c] ys).length
  | [x], y, h => by
    rw [List.mem_singleton.mp h]
    exact Nat.le_refl _
  | x :: z :: r, y, h => by
    rw [joinS_cons (by simp)]
    rcases List.mem_cons.mp h with rfl | h
    · simp
    · have := joinS_ge (c := c) h
      simp only [List.length_append]; omega
theorem sum_len : ∀ (ys : List S), (∀ y ∈ ys, 1 ≤ y.length) → ys.length ≤ (ys.map List.length).sum
  | [], _ => Nat.le_refl _
  | y :: r, h => by
    have := sum_len r fun z hz => h z (List.mem_cons_of_mem _ hz)
    have := h y List.mem_cons_self
    simp only [List.map_cons, List.sum_cons, List.length_cons]; omega
theorem joinD_ok {c : Nat} {ys : List S} (h : (joinS [c] ys).length + 1 ≤ L) : joinD (.str [c]) (.lst (ys.map .str)) = some (.str (joinS [c] ys)) := by
  show (strsD (ys.map .str)).bind _ = _
  rw [strsD_map]
  simp only [Option.bind_some]
  rw [if_pos]
  cases ys with
  | nil => simp
  | cons y r =>
    have := joinS_len c (y :: r) (by simp)
    simp only [List.length_cons, List.length_nil, Nat.zero_add, Nat.mul_one] at this ⊢
    omega
/-- records of names -/
def keyed : List (DKey × D) → Bool
  | [] => true
  | (.inr _, _) :: r => keyed r
  | (.inl _, _) :: _ => false
theorem keyed_wf : ∀ {kvs : List (DKey × D)}, wfk kvs = true → keyed kvs = true
  | [], _ => rfl
  | (.inr s, x) :: r, h => by
    simp only [wfk, Bool.and_eq_true] at h
    exact keyed_wf (kvs := r) h.2.2
  | (.inl _, _) :: _, h => by simp [wfk] at h
theorem keyed_keys : ∀ {kvs : List (DKey × D)}, keyed kvs = true → kvs.map (fun p => keyD p.1) = (kvs.map fun p => kS p.1).map D.str
  | [], _ => rfl
  | (.inr s, x) :: r, h => by
    simp only [List.map_cons, keyed_keys (kvs := r) h]
    rfl
  | (.inl _, _) :: _, h => by simp [keyed] at h
theorem lk_text : ∀ {kvs : List (DKey × D)}, keyed kvs = true → ∀ k ∈ kvs.map (fun p => kS p.1), ∃ x, dlook kvs (.inr k) = some x ∧ lkS k (vTk kvs) = vT x ∧ ∃ p ∈ kvs, p.2 = x
  | [], _, k, hk => by cases hk
  | (.inr s, x) :: r, h, k, hk => by
    unfold dlook
    by_cases e : s = k
    · subst e
      refine ⟨x, by simp, ?_, _, List.mem_cons_self, rfl⟩
      rw [vTk, lkS]
      simp [kS]
    · rcases List.mem_cons.mp hk with e2 | hk
      · exact absurd e2.symm e
      · obtain ⟨y, h1, h2, p, hp, e3⟩ := lk_text (kvs := r) h k hk
        have ne : ¬ (Sum.inr s : DKey) = .inr k := fun z => e (by cases z; rfl)
        refine ⟨y, by rw [if_neg ne]; exact h1, ?_, p, List.mem_cons_of_mem _ hp, e3⟩
        rw [vTk, lkS]
        rw [if_neg (show ¬ kS (.inr s) = k from e)]
        exact h2
  | (.inl _, _) :: _, h, k, hk => by simp [keyed] at h
theorem wf_mem : ∀ {xs : List D}, wfs xs = true → ∀ x ∈ xs, wf x = true
  | xs, h, x, hx => by rw [wfs_all] at h; exact List.all_eq_true.mp h x hx
theorem wfk_mem : ∀ {kvs : List (DKey × D)}, wfk kvs = true → ∀ p ∈ kvs, wf p.2 = true ∧ isNameS (kS p.1) = true
  | [], _, p, hp => by cases hp
  | (.inr s, x) :: r, h, p, hp => by
    simp only [wfk, Bool.and_eq_true] at h
    rcases List.mem_cons.mp hp with rfl | hp
    · exact ⟨h.2.1, h.1⟩
    · exact wfk_mem h.2.2 p hp
  | (.inl _, _) :: _, h, p, hp => by simp [wfk] at h
theorem deps_mem : ∀ {xs : List D}, ∀ x ∈ xs, dep x ≤ deps xs
  | [], x, h => by cases h
  | y :: r, x, h => by
    unfold deps
    rcases List.mem_cons.mp h with rfl | h
    · omega
    · have := deps_mem x h; omega
theorem depk_mem : ∀ {xs : List (DKey × D)}, ∀ p ∈ xs, dep p.2 ≤ depk xs
  | [], x, h => by cases h
  | y :: r, x, h => by
    obtain ⟨k, d⟩ := y
    unfold depk
    rcases List.mem_cons.mp h with rfl | h
    · show dep d ≤ _; omega
    · have := depk_mem x h; omega
theorem insS_mem {s x : S} : ∀ {l : List S}, x ∈ insS s l → x = s ∨ x ∈ l
  | [], h => by simpa [insS] using h
  | t :: r, h => by
    unfold insS at h
    split at h
    · rcases List.mem_cons.mp h with rfl | h
      · exact .inr List.mem_cons_self
      · rcases insS_mem h with h | h
        · exact .inl h
        · exact .inr (List.mem_cons_of_mem _ h)
    · rcases List.mem_cons.mp h with rfl | h
      · exact .inl rfl
      · exact .inr h
theorem sortS_mem {x : S} : ∀ {l : List S}, x ∈ sortS l → x ∈ l
  | [], h => by cases h
  | t :: r, h => by
    unfold sortS at h
    rcases insS_mem h with rfl | h
    · exact List.mem_cons_self
    · exact List.mem_cons_of_mem _ (sortS_mem h)
theorem insS_len (s : S) : ∀ l : List S, (insS s l).length = l.length + 1
  | [] => rfl
  | t :: r => by
    unfold insS
    split
    · simp [insS_len s r]
    · simp
theorem sortS_len : ∀ l : List S, (sortS l).length = l.length
  | [] => rfl
  | t :: r => by
    unfold sortS
    rw [insS_len, sortS_len r]; rfl
end Lp
namespace Lp
theorem insS_has {s x : S} : ∀ {l : List S}, (x = s ∨ x ∈ l) → x ∈ insS s l
  | [], h => by
    rcases h with rfl | h
    · simp [insS]
    · cases h
  | t :: r, h => by
    unfold insS
    split
    · rcases h with rfl | h
      · exact List.mem_cons_of_mem _ (insS_has (.inl rfl))
      · rcases List.mem_cons.mp h with rfl | h
        · exact List.mem_cons_self
        · exact List.mem_cons_of_mem _ (insS_has (.inr h))
    · rcases h with rfl | h
      · exact List.mem_cons_self
      · exact List.mem_cons_of_mem _ h
theorem sortS_has {x : S} : ∀ {l : List S}, x ∈ l → x ∈ sortS l
  | [], h => by cases h
  | t :: r, h => by
    unfold sortS
    rcases List.mem_cons.mp h with rfl | h
    · exact insS_has (.inl rfl)
    · exact insS_has (.inr (sortS_has h))
theorem keyed_inr : ∀ {kvs : List (DKey × D)}, keyed kvs = true → ∀ p ∈ kvs, ∃ s, p.1 = .inr s
  | [], _, p, hp => by cases hp
  | (.inr s, x) :: r, h, p, hp => by
    rcases List.mem_cons.mp hp with rfl | hp
    · exact ⟨s, rfl⟩
    · exact keyed_inr (kvs := r) h p hp
  | (.inl _, _) :: _, h, p, hp => by simp [keyed] at h
end Lp
namespace Lp
section
variable {C : Orc} {ρ : Fr} {M M1 M2 : Mem}
theorem ret_ok {e : EX} {d : D} (h : ev C e ρ M = .ok d M1) : ex C (.ret e) ρ M = .ret d M1 := by rw [ex, h]; rfl
theorem frz_ok {f : FX} {d : D} (h : evf C f ρ M = .ok d M1) : ev C (.frz f) ρ M = .ok d M1 := by rw [ev, h]
theorem ite_t {c : EX} {a b : SXs} {fl : Flow} (h : ev C c ρ M = .ok (.bl true) M1) (h2 : exs C a ρ M1 = fl) : ex C (.ite c a b) ρ M = fl := by rw [ex, h, ← h2]; rfl
theorem ite_f {c : EX} {a b : SXs} {fl : Flow} (h : ev C c ρ M = .ok (.bl false) M1) (h2 : exs C b ρ M1 = fl) : ex C (.ite c a b) ρ M = fl := by rw [ex, h, ← h2]; rfl
theorem comp_ok {g : TG'} {it : IX} {cond : Option EX} {elt : EX} {xs ys : List D} (h : evi C it ρ M = .ok xs M1) (h2 : compGo (compF g ρ (fun ρ1 M2 => evc C cond ρ1 M2) (fun ρ1 M2 => ev C elt ρ1 M2)) [] xs M1 = .ok ys M2) : evf C (.comp g it cond elt) ρ M = .ok (.lst ys) M2 := by
  rw [evf, h]
  show (compGo _ [] xs M1).bind _ = _
  rw [h2]; rfl
theorem compK_ok {g : TG'} {i : Nat} {cond : Option EX} {elt : EX} {kvs : List (DKey × D)} {ys : List D} (h : ρ[i]? = some (.d (.dic kvs))) (h2 : compGo (compF g ρ (fun ρ1 M2 => evc C cond ρ1 M2) (fun ρ1 M2 => ev C elt ρ1 M2)) [] (kvs.map fun p => keyD p.1) M = .ok ys M2) : evf C (.compK g i cond elt) ρ M = .ok (.lst ys) M2 := by
  rw [evf, h]
  show (compGo _ [] _ M).bind _ = _
  rw [h2]; rfl
theorem dictOf_ok {a : EX} {xs : List D} {ps : List (DKey × D)} (h : ev C a ρ M = .ok (.lst xs) M1) (h2 : pairsD xs = some ps) : evf C (.dictOf a) ρ M = .ok (.dic (ps.foldl (fun kvs p => dput kvs p.1 p.2) [])) M1 := by
  rw [evf, h]
  simp only [Res.bind_ok, h2, Option.map_some, Res.of_some]
theorem blt_ok {f : Blt} {a : EX} {d r : D} (h : ev C a ρ M = .ok d M1) (h2 : bltD M1 f d = some r) : ev C (.blt f a) ρ M = .ok r M1 := by
  rw [ev, h]
  simp only [Res.bind_ok, h2, Res.of_some]
theorem seq_ok {a : EX} {xs : List D} (h : ev C a ρ M = .ok (.lst xs) M1) : evi C (.seq a) ρ M = .ok xs M1 := by rw [evi, h]; rfl
theorem var_ok {i : Nat} {d : D} (h : ρ[i]? = some (.d d)) : ev C (.var i) ρ M = .ok d M := by rw [ev, h]
end
end Lp
namespace Lp
theorem and_ok {C : Orc} {ρ : Fr} {M M1 M2 : Mem} {a b : EX} {b2 : Bool} (h : ev C a ρ M = .ok (.bl true) M1) (h2 : ev C b ρ M1 = .ok (.bl b2) M2) : ev C (.and a b) ρ M = .ok (.bl b2) M2 := by
  rw [ev, h]
  simp only [Res.bind_ok, asB_bl, if_true, h2]
end Lp

set_option Elab.async false
set_option linter.all false
set_option maxRecDepth 100000
set_option maxHeartbeats 1000000
namespace Lp
def lkD (k : S) : List (S × D) → D
  | [] => .non
  | (k', t) :: r => if k' = k then t else lkD k r
mutual
/-- the records in the order of their names -/
def nm : D → D
  | .lst xs => .lst (nms xs)
  | .dic kvs => .dic ((sortS (kvs.map fun p => kS p.1)).map fun k => (.inr k, lkD k (nmk kvs)))
  | .non => .non
  | .bl b => .bl b
  | .int i => .int i
  | .str s => .str s
  | .tup xs => .tup xs
  | .cell c => .cell c
def nms : List D → List D
  | [] => []
  | x :: r => nm x :: nms r
def nmk : List (DKey × D) → List (S × D)
  | [] => []
  | (k, x) :: r => (kS k, nm x) :: nmk r
end
theorem nms_map : ∀ xs : List D, nms xs = xs.map nm
  | [] => rfl
  | x :: r => by simp [nms, nms_map r]
theorem nm_lst (xs : List D) : nm (.lst xs) = .lst (xs.map nm) := by rw [nm, nms_map]
theorem nm_dic (kvs : List (DKey × D)) : nm (.dic kvs) = .dic ((sortS (kvs.map fun p => kS p.1)).map fun k => (.inr k, lkD k (nmk kvs))) := by rw [nm]
theorem lk_nm : ∀ {kvs : List (DKey × D)}, keyed kvs = true → ∀ k ∈ kvs.map (fun p => kS p.1), ∃ x, dlook kvs (.inr k) = some x ∧ lkS k (vTk kvs) = vT x ∧ lkD k (nmk kvs) = nm x ∧ ∃ p ∈ kvs, p.2 = x
  | [], _, k, hk => by cases hk
  | (.inr s, x) :: r, h, k, hk => by
    unfold dlook
    by_cases e : s = k
    · subst e
      refine ⟨x, by simp, ?_, ?_, _, List.mem_cons_self, rfl⟩
      · rw [vTk, lkS]
        simp [kS]
      · rw [nmk, lkD]
        simp [kS]
    · rcases List.mem_cons.mp hk with e2 | hk
      · exact absurd e2.symm e
      · obtain ⟨y, h1, h2, h4, p, hp, e3⟩ := lk_nm (kvs := r) h k hk
        have ne : ¬ (Sum.inr s : DKey) = .inr k := fun z => e (by cases z; rfl)
        refine ⟨y, by rw [if_neg ne]; exact h1, ?_, ?_, p, List.mem_cons_of_mem _ hp, e3⟩
        · rw [vTk, lkS]
          rw [if_neg (show ¬ kS (.inr s) = k from e)]
          exact h2
        · rw [nmk, lkD]
          rw [if_neg (show ¬ kS (.inr s) = k from e)]
          exact h4
  | (.inl _, _) :: _, h, k, hk => by simp [keyed] at h
def Stop (r : S) : Prop := r = [] ∨ ∃ c t, r = c :: t ∧ stopP.contains c = true
theorem take_app {p : Nat → Bool} : ∀ {a r : S}, a.all p = true → (r = [] ∨ ∃ c t, r = c :: t ∧ p c = false) → (a ++ r).takeWhile p = a ∧ (a ++ r).dropWhile p = r
  | [], r, _, h => by
    rcases h with rfl | ⟨c, t, rfl, hc⟩
    · exact ⟨rfl, rfl⟩
    · simp [hc]
  | c :: a, r, ha, h => by
    simp only [List.all_cons, Bool.and_eq_true] at ha
    obtain ⟨h1, h2⟩ := take_app ha.2 h
    simp only [List.cons_append, List.takeWhile_cons, List.dropWhile_cons, ha.1, if_true, h1, h2]
    exact ⟨trivial, trivial⟩
theorem sign_ok {c : Nat} (h : signS.contains c = true) : (!([39] : S).contains c) = true := by
  have : c ∈ signS := by simpa using h
  simp only [signS, List.mem_cons, List.not_mem_nil, or_false] at this
  simp; omega
theorem lower_ok {c : Nat} (h : lower.contains c = true) : (!([58] : S).contains c) = true := by
  have : c ∈ lower := by simpa using h
  simp only [lower, List.mem_cons, List.not_mem_nil, or_false] at this
  simp; omega
theorem fig_stop {c : Nat} (h : isFig c = true ∨ c = 45) : (!stopP.contains c) = true := by
  have : (48 ≤ c ∧ c ≤ 57) ∨ c = 45 := by
    rcases h with h | h
    · unfold isFig at h
      left; simpa using h
    · exact .inr h
  simp [stopP]; omega
theorem all_imp {p q : Nat → Bool} (h : ∀ c, p c = true → q c = true) {s : S} (hs : s.all p = true) : s.all q = true := List.all_eq_true.mpr fun c hc => h c (List.all_eq_true.mp hs c hc)
theorem int_chars (i : Int) : (intText i).all (fun c => !stopP.contains c) = true ∧ ∃ c t, intText i = c :: t ∧ c ≠ 39 ∧ c ≠ 91 ∧ c ≠ 123 ∧ intText i ≠ [45] := by
  by_cases h0 : 0 ≤ i
  · obtain ⟨m, rfl⟩ := Int.eq_ofNat_of_zero_le h0
    rw [intText_nat]
    have hf := nT_figs m
    refine ⟨all_imp (fun c h => fig_stop (.inl h)) hf, ?_⟩
    cases hn : nT m with
    | nil => exact absurd hn (nT_ne m)
    | cons c t =>
      rw [hn] at hf
      simp only [List.all_cons, Bool.and_eq_true] at hf
      have h1 : 48 ≤ c ∧ c ≤ 57 := by
        have := hf.1
        unfold isFig at this
        simpa using this
      refine ⟨c, t, rfl, by omega, by omega, by omega, fun e => ?_⟩
      cases e
      omega
  · obtain ⟨m, rfl⟩ : ∃ m : Nat, i = -((m + 1 : Nat) : Int) := ⟨i.natAbs - 1, by omega⟩
    rw [intText_neg']
    refine ⟨?_, 45, nT (m + 1), rfl, by decide, by decide, by decide, fun e => ?_⟩
    · rw [List.all_cons, fig_stop (.inr rfl), Bool.true_and]
      exact all_imp (fun c h => fig_stop (.inl h)) (nT_figs _)
    · have : nT (m + 1) = [] := by injection e
      exact nT_ne _ this
theorem stop_not {r : S} (h : Stop r) : r = [] ∨ ∃ c t, r = c :: t ∧ (!stopP.contains c) = false := by
  rcases h with h | ⟨c, t, e, hc⟩
  · exact .inl h
  · exact .inr ⟨c, t, e, by rw [hc]; rfl⟩
theorem pListGo_of {it : S → Option (D × S)} : ∀ (vs : List D) (N : Nat) (acc : List D) (r : S), vs ≠ [] → vs.length ≤ N → (∀ v ∈ vs, ∀ r', Stop r' → it (vT v ++ r') = some (nm v, r')) →
    pListGo it N acc (joinS [44] (vs.map vT) ++ 93 :: r) = some (.lst (acc ++ vs.map nm), r)
  | [], N, acc, r, h, _, _ => absurd rfl h
  | [v], 0, acc, r, _, hN, _ => by simp at hN
  | [v], N + 1, acc, r, _, hN, h => by
    have e := h v List.mem_cons_self (93 :: r) (.inr ⟨93, r, rfl, by decide⟩)
    show pListGo it (N + 1) acc (vT v ++ 93 :: r) = _
    rw [pListGo, e]
    rfl
  | v :: w :: vs, 0, acc, r, _, hN, _ => by simp at hN
  | v :: w :: vs, N + 1, acc, r, _, hN, h => by
    rw [List.map_cons, joinS_cons (by simp)]
    have e := h v List.mem_cons_self (44 :: (joinS [44] ((w :: vs).map vT) ++ 93 :: r)) (.inr ⟨44, _, rfl, by decide⟩)
    have ih := pListGo_of (it := it) (w :: vs) N (acc ++ [nm v]) r (by simp) (by simp only [List.length_cons] at hN ⊢; omega) fun x hx => h x (List.mem_cons_of_mem _ hx)
    rw [show vT v ++ [44] ++ joinS [44] ((w :: vs).map vT) ++ 93 :: r = vT v ++ 44 :: (joinS [44] ((w :: vs).map vT) ++ 93 :: r) by simp]
    rw [pListGo, e]
    show pListGo it N (acc ++ [nm v]) _ = _
    rw [ih]
    simp
theorem nm_split {s rest : S} (h : isNameS s = true) : nmOf (s ++ 58 :: rest) = s ∧ aftOf (s ++ 58 :: rest) = 58 :: rest := by
  unfold isNameS at h
  simp only [Bool.and_eq_true] at h
  exact take_app (all_imp (fun c hc => lower_ok hc) h.2.2) (.inr ⟨58, rest, rfl, by decide⟩)
theorem pRecGo_of {it : S → Option (D × S)} : ∀ (ps : List (S × D)) (N : Nat) (acc : List (DKey × D)) (last r : S), ps ≠ [] → ps.length ≤ N → (∀ p ∈ ps, isNameS p.1 = true ∧ ∀ r', Stop r' → it (vT p.2 ++ r') = some (nm p.2, r')) → (last :: ps.map (·.1)).Pairwise (fun a b => ltS a b = true) →
    pRecGo it N acc last (joinS [44] (ps.map fun p => p.1 ++ 58 :: vT p.2) ++ 125 :: r) = some (.dic (acc ++ ps.map fun p => (.inr p.1, nm p.2)), r)
  | [], N, acc, last, r, h, _, _, _ => absurd rfl h
  | [p], 0, acc, last, r, _, hN, _, _ => by simp at hN
  | [p], N + 1, acc, last, r, _, hN, h, hp => by
    obtain ⟨h1, h2⟩ := h p List.mem_cons_self
    have e := h2 (125 :: r) (.inr ⟨125, r, rfl, by decide⟩)
    simp only [List.map_cons, List.map_nil, List.pairwise_cons] at hp
    have hl := hp.1 p.1 List.mem_cons_self
    obtain ⟨q1, q2⟩ := nm_split (rest := vT p.2 ++ 125 :: r) h1
    show pRecGo it (N + 1) acc last ((p.1 ++ 58 :: vT p.2) ++ 125 :: r) = _
    rw [List.append_assoc, List.cons_append, pRecGo, q1, q2]
    simp only [h1, hl, and_self, if_true, e]
    rfl
  | p :: q :: ps, 0, acc, last, r, _, hN, _, _ => by simp at hN
  | p :: q :: ps, N + 1, acc, last, r, _, hN, h, hp => by
    obtain ⟨h1, h2⟩ := h p List.mem_cons_self
    rw [List.map_cons, List.pairwise_cons] at hp
    have hl := hp.1 p.1 List.mem_cons_self
    rw [List.map_cons, joinS_cons (by simp)]
    have e := h2 (44 :: (joinS [44] ((q :: ps).map fun p => p.1 ++ 58 :: vT p.2) ++ 125 :: r)) (.inr ⟨44, _, rfl, by decide⟩)
    have ih := pRecGo_of (it := it) (q :: ps) N (acc ++ [(.inr p.1, nm p.2)]) p.1 r (by simp) (by simp only [List.length_cons] at hN ⊢; omega) (fun x hx => h x (List.mem_cons_of_mem _ hx)) hp.2
    obtain ⟨q1, q2⟩ := nm_split (rest := vT p.2 ++ 44 :: (joinS [44] ((q :: ps).map fun p => p.1 ++ 58 :: vT p.2) ++ 125 :: r)) h1
    rw [show (p.1 ++ 58 :: vT p.2) ++ [44] ++ joinS [44] ((q :: ps).map fun p => p.1 ++ 58 :: vT p.2) ++ 125 :: r = p.1 ++ 58 :: (vT p.2 ++ 44 :: (joinS [44] ((q :: ps).map fun p => p.1 ++ 58 :: vT p.2) ++ 125 :: r)) by simp]
    rw [pRecGo, q1, q2]
    simp only [h1, hl, and_self, if_true, e]
    rw [ih]
    simp
theorem strict_of : ∀ {l : List S}, l.Pairwise leS → l.Nodup → l.Pairwise fun a b => ltS a b = true
  | [], _, _ => .nil
  | s :: r, h, nd => by
    rw [List.pairwise_cons] at h ⊢
    rw [List.nodup_cons] at nd
    refine ⟨fun b hb => ?_, strict_of h.2 nd.2⟩
    cases e : ltS s b with
    | true => rfl
    | false => exact absurd (leS_anti (h.1 b hb) e) fun z => nd.1 (by rw [z]; exact hb)
end Lp

set_option Elab.async false
set_option linter.all false
set_option maxRecDepth 100000
set_option maxHeartbeats 4000000
namespace K37
open PySem L2 Lp
def D_is_name : Def := ⟨1, 2, (.cons (.ret (.and (.isi (.var 0) .str) (.and (.chain .le .le (.c (.int 1)) (.blt .len (.var 0)) (.c (.int 8))) (.blt .all (.frz (.comp (.name 1) (.chars (.var 0)) none (.cmp .inn (.var 1) (.c (.str [97, 98, 99, 100, 101, 102, 103, 104, 105, 106, 107, 108, 109, 110, 111, 112, 113, 114, 115, 116, 117, 118, 119, 120, 121, 122]))))))))) .nil)⟩
def D_is_plain : Def := ⟨1, 2, (.cons (.ite (.isi (.var 0) .str) (.cons (.ret (.and (.cmp .le (.blt .len (.var 0)) (.c (.int 12))) (.blt .all (.frz (.comp (.name 1) (.chars (.var 0)) none (.cmp .inn (.var 1) (.c (.str [97, 98, 99, 100, 101, 102, 103, 104, 105, 106, 107, 108, 109, 110, 111, 112, 113, 114, 115, 116, 117, 118, 119, 120, 121, 122, 48, 49, 50, 51, 52, 53, 54, 55, 56, 57, 32])))))))) .nil) .nil) (.cons (.ret (.or (.cmp .isn (.var 0) (.c .non)) (.and (.isi (.var 0) .int) (.not (.isi (.var 0) .bool))))) .nil))⟩
def D_value_text : Def := ⟨1, 3, (.cons (.ite (.cmp .isn (.var 0) (.c .non)) (.cons (.ret (.c (.str [45]))) .nil) .nil) (.cons (.ite (.isi (.var 0) .str) (.cons (.ret (.bin .add (.bin .add (.c (.str [39])) (.var 0)) (.c (.str [39])))) .nil) .nil) (.cons (.ite (.isi (.var 0) .list) (.cons (.ret (.bin .add (.bin .add (.c (.str [91])) (.mth .join (.c (.str [44])) (.frz (.comp (.name 1) (.seq (.var 0)) none (.call "value_text" (.cons (.var 1) .nil) []))))) (.c (.str [93])))) .nil) .nil) (.cons (.ite (.isi (.var 0) .dict) (.cons (.ret (.bin .add (.bin .add (.c (.str [123])) (.mth .join (.c (.str [44])) (.frz (.comp (.name 2) (.seq (.frz (.sorted (.var 0)))) none (.bin .add (.bin .add (.var 2) (.c (.str [58]))) (.call "value_text" (.cons (.idx (.var 0) (.var 2)) .nil) [])))))) (.c (.str [125])))) .nil) .nil) (.cons (.ret (.blt .str (.var 0))) .nil)))))⟩
def D_read_number : Def := ⟨1, 3, (.cons (.set 1 (.ite (.mth .startswith (.var 0) (.c (.str [45]))) (.slc (.var 0) (some (.c (.int 1))) none) (.var 0))) (.cons (.ite (.or (.not (.chain .le .le (.c (.int 1)) (.blt .len (.var 1)) (.c (.int 30)))) (.not (.blt .all (.frz (.comp (.name 2) (.chars (.var 1)) none (.cmp .inn (.var 2) (.c (.str [48, 49, 50, 51, 52, 53, 54, 55, 56, 57])))))))) (.cons (.raise "BadText/0" .nil) .nil) .nil) (.cons (.ite (.and (.cmp .nin (.var 0) (.tup (.cons (.c (.str [48])) .nil))) (.mth .startswith (.var 1) (.c (.str [48])))) (.cons (.raise "BadText/0" .nil) .nil) .nil) (.cons (.ret (.blt .int (.var 0))) .nil))))⟩
def D_word_end : Def := ⟨3, 5, (.cons (.own 3 (.comp (.name 4) (.rng2 (.var 1) (.blt .len (.var 0))) (some (.cmp .inn (.idx (.var 0) (.var 4)) (.var 2))) (.var 4))) (.cons (.frz 3) (.cons (.ret (.minD (.var 3) (.blt .len (.var 0)))) .nil)))⟩
def D_read_plain : Def := ⟨2, 5, (.cons (.ite (.cmp .eq (.idx (.var 0) (.var 1)) (.c (.str [39]))) (.cons (.set 2 (.call "word_end" (.cons (.var 0) (.cons (.bin .add (.var 1) (.c (.int 1))) (.cons (.c (.str [39])) .nil))) [])) (.cons (.set 4 (.slc (.var 0) (some (.bin .add (.var 1) (.c (.int 1)))) (some (.var 2)))) (.cons (.ite (.or (.cmp .eq (.var 2) (.blt .len (.var 0))) (.not (.call "is_plain" (.cons (.var 4) .nil) []))) (.cons (.raise "BadText/0" .nil) .nil) .nil) (.cons (.ret (.tup (.cons (.var 4) (.cons (.bin .add (.var 2) (.c (.int 1))) .nil)))) .nil)))) .nil) (.cons (.set 2 (.call "word_end" (.cons (.var 0) (.cons (.var 1) (.cons (.c (.str [44, 93, 125, 32, 58])) .nil))) [])) (.cons (.set 3 (.slc (.var 0) (some (.var 1)) (some (.var 2)))) (.cons (.ret (.tup (.cons (.ite (.cmp .eq (.var 3) (.c (.str [45]))) (.c .non) (.call "read_number" (.cons (.var 3) .nil) [])) (.cons (.var 2) .nil)))) .nil))))⟩
def D_read_item : Def := ⟨3, 3, (.cons (.ite (.or (.cmp .ge (.var 1) (.blt .len (.var 0))) (.cmp .gt (.var 2) (.c (.int 40)))) (.cons (.raise "BadText/0" .nil) .nil) .nil) (.cons (.ite (.cmp .eq (.idx (.var 0) (.var 1)) (.c (.str [91]))) (.cons (.ret (.call "read_list" (.cons (.var 0) (.cons (.bin .add (.var 1) (.c (.int 1))) (.cons (.bin .add (.var 2) (.c (.int 1))) .nil))) [])) .nil) .nil) (.cons (.ite (.cmp .eq (.idx (.var 0) (.var 1)) (.c (.str [123]))) (.cons (.ret (.call "read_record" (.cons (.var 0) (.cons (.bin .add (.var 1) (.c (.int 1))) (.cons (.bin .add (.var 2) (.c (.int 1))) .nil))) [])) .nil) .nil) (.cons (.ret (.call "read_plain" (.cons (.var 0) (.cons (.var 1) .nil)) [])) .nil))))⟩
def D_read_list : Def := ⟨3, 5, (.cons (.own 3 (.lst .nil)) (.cons (.ite (.cmp .eq (.slc (.var 0) (some (.var 1)) (some (.bin .add (.var 1) (.c (.int 1))))) (.c (.str [93]))) (.cons (.frz 3) (.cons (.ret (.tup (.cons (.var 3) (.cons (.bin .add (.var 1) (.c (.int 1))) .nil)))) .nil)) .nil) (.cons (.loop (.c (.bl true)) (.cons (.unpack [.name 4, .name 1] (.call "read_item" (.cons (.var 0) (.cons (.var 1) (.cons (.var 2) .nil))) [])) (.cons (.append (.peek 3) (.var 4)) (.cons (.ite (.cmp .eq (.slc (.var 0) (some (.var 1)) (some (.bin .add (.var 1) (.c (.int 1))))) (.c (.str [93]))) (.cons (.frz 3) (.cons (.ret (.tup (.cons (.var 3) (.cons (.bin .add (.var 1) (.c (.int 1))) .nil)))) .nil)) .nil) (.cons (.ite (.cmp .ne (.slc (.var 0) (some (.var 1)) (some (.bin .add (.var 1) (.c (.int 1))))) (.c (.str [44]))) (.cons (.raise "BadText/0" .nil) .nil) .nil) (.cons (.aug 1 .add (.c (.int 1))) .nil)))))) .nil)))⟩
def D_read_record : Def := ⟨3, 7, (.cons (.own 3 .dic) (.cons (.ite (.cmp .eq (.slc (.var 0) (some (.var 1)) (some (.bin .add (.var 1) (.c (.int 1))))) (.c (.str [125]))) (.cons (.frz 3) (.cons (.ret (.tup (.cons (.var 3) (.cons (.bin .add (.var 1) (.c (.int 1))) .nil)))) .nil)) .nil) (.cons (.set 4 (.c (.str []))) (.cons (.loop (.c (.bl true)) (.cons (.set 5 (.call "word_end" (.cons (.var 0) (.cons (.var 1) (.cons (.c (.str [58])) .nil))) [])) (.cons (.set 6 (.slc (.var 0) (some (.var 1)) (some (.var 5)))) (.cons (.ite (.or (.cmp .eq (.var 5) (.blt .len (.var 0))) (.or (.not (.call "is_name" (.cons (.var 6) .nil) [])) (.cmp .le (.var 6) (.var 4)))) (.cons (.raise "BadText/0" .nil) .nil) .nil) (.cons (.unpack [.item 3 (.var 6), .name 1] (.call "read_item" (.cons (.var 0) (.cons (.bin .add (.var 5) (.c (.int 1))) (.cons (.var 2) .nil))) [])) (.cons (.set 4 (.var 6)) (.cons (.ite (.cmp .eq (.slc (.var 0) (some (.var 1)) (some (.bin .add (.var 1) (.c (.int 1))))) (.c (.str [125]))) (.cons (.frz 3) (.cons (.ret (.tup (.cons (.var 3) (.cons (.bin .add (.var 1) (.c (.int 1))) .nil)))) .nil)) .nil) (.cons (.ite (.cmp .ne (.slc (.var 0) (some (.var 1)) (some (.bin .add (.var 1) (.c (.int 1))))) (.c (.str [44]))) (.cons (.raise "BadText/0" .nil) .nil) .nil) (.cons (.aug 1 .add (.c (.int 1))) .nil))))))))) .nil))))⟩
def D_read_value : Def := ⟨1, 3, (.cons (.unpack [.name 1, .name 2] (.call "read_item" (.cons (.var 0) (.cons (.c (.int 0)) .nil)) [.int 0])) (.cons (.ite (.cmp .ne (.var 2) (.blt .len (.var 0))) (.cons (.raise "BadText/0" .nil) .nil) .nil) (.cons (.ret (.var 1)) .nil)))⟩
def D_write_value : Def := ⟨1, 1, (.cons (.ret (.call "value_text" (.cons (.var 0) .nil) [])) .nil)⟩
def D__law_open : Def := ⟨1, 1, (.cons (.ret (.alloc (.lst (.cons (.frz (.listOf (.frz (.slc (.var 0) none (some (.c (.int 63))))))) (.cons (.c (.int 0)) (.cons (.c (.int 0)) (.cons (.c (.int 43)) .nil))))))) .nil)⟩
def D__law_pull : Def := ⟨2, 4, (.cons (.ite (.and (.cmp .lt (.idx (.var 0) (.c (.int 2))) (.var 1)) (.cmp .lt (.idx (.var 0) (.c (.int 1))) (.blt .len (.idx (.var 0) (.c (.int 0)))))) (.cons (.set 2 (.idx (.idx (.var 0) (.c (.int 0))) (.idx (.var 0) (.c (.int 1))))) (.cons (.setit (.var 0) (.c (.int 1)) (.bin .add (.idx (.var 0) (.c (.int 1))) (.c (.int 1)))) (.cons (.setit (.var 0) (.c (.int 2)) (.c (.int 0))) (.cons (.ite (.cmp .ge (.var 2) (.bin .pow (.c (.int 10)) (.c (.int 18)))) (.cons (.setit (.var 0) (.c (.int 2)) (.var 2)) .nil) (.cons (.setit (.var 0) (.c (.int 3)) (.bin .mod (.bin .add (.bin .add (.bin .mul (.idx (.var 0) (.c (.int 3))) (.c (.int 69621))) (.bin .mul (.bin .mod (.var 2) (.c (.int 1000000007))) (.c (.int 39373)))) (.c (.int 29))) (.c (.int 2147483629)))) .nil)) .nil)))) .nil) (.cons (.ite (.cmp .ge (.idx (.var 0) (.c (.int 2))) (.var 1)) (.cons (.set 3 (.bin .mod (.idx (.var 0) (.c (.int 2))) (.var 1))) (.cons (.setit (.var 0) (.c (.int 2)) (.bin .fdiv (.idx (.var 0) (.c (.int 2))) (.var 1))) (.cons (.ret (.var 3)) .nil))) .nil) (.cons (.setit (.var 0) (.c (.int 3)) (.bin .mod (.bin .add (.bin .add (.bin .pow (.idx (.var 0) (.c (.int 3))) (.c (.int 3))) (.bin .mul (.idx (.var 0) (.c (.int 3))) (.c (.int 40692)))) (.c (.int 1013904243))) (.c (.int 2147483629)))) (.cons (.ret (.bin .mod (.bin .add (.bin .fdiv (.idx (.var 0) (.c (.int 3))) (.c (.int 67))) (.bin .mul (.bin .mod (.idx (.var 0) (.c (.int 3))) (.c (.int 8191))) (.c (.int 31)))) (.var 1))) .nil))))⟩
def D__law_any : Def := ⟨2, 2, (.cons (.ret (.idx (.var 1) (.call "_law_pull" (.cons (.var 0) (.cons (.blt .len (.var 1)) .nil)) []))) .nil)⟩
def D__law_num : Def := ⟨1, 1, (.cons (.ret (.and (.isi (.var 0) .int) (.not (.isi (.var 0) .bool)))) .nil)⟩
def D__law_like : Def := ⟨2, 4, (.cons (.ite (.cmp .isn (.var 1) (.c .non)) (.cons (.ret (.cmp .isn (.var 0) (.c .non))) .nil) .nil) (.cons (.ite (.isi (.var 1) .bool) (.cons (.ret (.and (.isi (.var 0) .bool) (.cmp .eq (.var 0) (.var 1)))) .nil) .nil) (.cons (.ite (.isi (.var 1) .int) (.cons (.ret (.and (.call "_law_num" (.cons (.var 0) .nil) []) (.cmp .eq (.var 0) (.var 1)))) .nil) .nil) (.cons (.ite (.isi (.var 1) .str) (.cons (.ret (.and (.isi (.var 0) .str) (.cmp .eq (.var 0) (.var 1)))) .nil) .nil) (.cons (.ite (.isi (.var 1) .dict) (.cons (.ite (.or (.not (.isi (.var 0) .dict)) (.cmp .ne (.frz (.sorted (.var 0))) (.frz (.sorted (.var 1))))) (.cons (.ret (.c (.bl false))) .nil) .nil) (.cons (.ret (.blt .all (.frz (.compK (.name 2) 1 none (.call "_law_like" (.cons (.idx (.var 0) (.var 2)) (.cons (.idx (.var 1) (.var 2)) .nil)) []))))) .nil)) .nil) (.cons (.ite (.or (.cmp .ne (.isi (.var 1) .tuple) (.isi (.var 0) .tuple)) (.cmp .ne (.isi (.var 1) .list) (.isi (.var 0) .list))) (.cons (.ret (.c (.bl false))) .nil) .nil) (.cons (.ret (.and (.cmp .eq (.blt .len (.var 0)) (.blt .len (.var 1))) (.blt .all (.frz (.comp (.name 3) (.rng1 (.blt .len (.var 1))) none (.call "_law_like" (.cons (.idx (.var 0) (.var 3)) (.cons (.idx (.var 1) (.var 3)) .nil)) [])))))) .nil)))))))⟩
def D__law_copy : Def := ⟨1, 3, (.cons (.ite (.isi (.var 0) .list) (.cons (.ret (.frz (.comp (.name 1) (.seq (.var 0)) none (.call "_law_copy" (.cons (.var 1) .nil) [])))) .nil) .nil) (.cons (.ite (.isi (.var 0) .tuple) (.cons (.ret (.blt .tuple (.frz (.comp (.name 1) (.seq (.var 0)) none (.call "_law_copy" (.cons (.var 1) .nil) []))))) .nil) .nil) (.cons (.ite (.isi (.var 0) .dict) (.cons (.ret (.frz (.dictOf (.frz (.compK (.name 2) 0 none (.tup (.cons (.var 2) (.cons (.call "_law_copy" (.cons (.idx (.var 0) (.var 2)) .nil) []) .nil)))))))) .nil) .nil) (.cons (.ret (.var 0)) .nil))))⟩
def D__law_name : Def := ⟨1, 1, (.cons (.ite (.cmp .eq (.call "_law_pull" (.cons (.var 0) (.cons (.c (.int 9)) .nil)) []) (.c (.int 0))) (.cons (.ret (.bin .mul (.idx (.c (.str [97, 98, 99, 100, 101, 102, 103, 104, 105, 106, 107, 108, 109, 110, 111, 112, 113, 114, 115, 116, 117, 118, 119, 120, 121, 122])) (.call "_law_pull" (.cons (.var 0) (.cons (.c (.int 26)) .nil)) [])) (.bin .add (.c (.int 1)) (.call "_law_pull" (.cons (.var 0) (.cons (.c (.int 8)) .nil)) [])))) .nil) .nil) (.cons (.ret (.idx (.frz (.lst (.cons (.c (.str [97])) (.cons (.c (.str [98])) (.cons (.c (.str [99])) (.cons (.c (.str [97])) (.cons (.c (.str [98])) (.cons (.c (.str [97, 98])) .nil)))))))) (.call "_law_pull" (.cons (.var 0) (.cons (.c (.int 6)) .nil)) []))) .nil))⟩
def D__law_plain : Def := ⟨1, 4, (.cons (.set 1 (.call "_law_pull" (.cons (.var 0) (.cons (.c (.int 9)) .nil)) [])) (.cons (.ite (.cmp .lt (.var 1) (.c (.int 5))) (.cons (.ret (.ite (.cmp .eq (.var 1) (.c (.int 0))) (.c .non) (.bin .sub (.call "_law_pull" (.cons (.var 0) (.cons (.c (.int 6)) .nil)) []) (.c (.int 1))))) .nil) .nil) (.cons (.set 2 (.frz (.lst (.cons (.c (.str [])) (.cons (.c (.str [97])) (.cons (.c (.str [98])) (.cons (.c (.str [97, 98])) (.cons (.c (.str [53])) (.cons (.c (.str [120, 32, 121])) (.cons (.c (.str [122, 122, 122, 122, 122, 122, 122, 122, 122, 122, 122, 122])) (.cons (.c (.str [32])) .nil))))))))))) (.cons (.ite (.cmp .eq (.var 1) (.c (.int 5))) (.cons (.set 2 (.frz (.lst (.cons (.bin .sub (.bin .pow (.c (.int 10)) (.c (.int 29))) (.c (.int 1))) (.cons (.bin .sub (.c (.int 0)) (.bin .pow (.c (.int 10)) (.c (.int 29)))) (.cons (.c (.int 100)) (.cons (.neg (.c (.int 7))) (.cons (.call "_law_pull" (.cons (.var 0) (.cons (.bin .pow (.c (.int 10)) (.c (.int 9))) .nil)) []) .nil)))))))) .nil) .nil) (.cons (.ite (.cmp .eq (.var 1) (.c (.int 6))) (.cons (.set 3 (.call "_law_any" (.cons (.var 0) (.cons (.frz (.lst (.cons (.c (.str [119, 104, 105, 116, 101, 111, 97, 107, 32, 120])) (.cons (.c (.str [97, 97, 97, 97, 97, 97, 97, 97, 97, 97, 97])) (.cons (.c (.str [120, 32, 121, 32, 120, 32, 121])) (.cons (.c (.str [48, 48, 48, 48, 48, 48, 48, 48, 48, 48])) .nil)))))) .nil)) [])) (.cons (.set 2 (.frz (.lst (.cons (.slc (.bin .add (.bin .add (.slc (.var 3) none (some (.call "_law_pull" (.cons (.var 0) (.cons (.c (.int 12)) .nil)) []))) (.idx (.c (.str [97, 98, 99, 120, 121, 122, 48, 49, 57, 32])) (.call "_law_pull" (.cons (.var 0) (.cons (.c (.int 10)) .nil)) []))) (.var 3)) none (some (.c (.int 12)))) .nil)))) .nil)) .nil) (.cons (.ret (.call "_law_any" (.cons (.var 0) (.cons (.var 2) .nil)) [])) .nil))))))⟩
def D__law_value : Def := ⟨2, 4, (.cons (.set 2 (.call "_law_pull" (.cons (.var 0) (.cons (.c (.int 7)) .nil)) [])) (.cons (.ite (.or (.cmp .eq (.var 1) (.c (.int 0))) (.cmp .lt (.var 2) (.c (.int 4)))) (.cons (.ret (.call "_law_plain" (.cons (.var 0) .nil) [])) .nil) .nil) (.cons (.ite (.cmp .eq (.var 2) (.c (.int 4))) (.cons (.ret (.call "_law_record" (.cons (.var 0) (.cons (.bin .sub (.var 1) (.c (.int 1))) (.cons (.c (.int 3)) .nil))) [])) .nil) .nil) (.cons (.ret (.frz (.comp (.name 3) (.rng1 (.call "_law_pull" (.cons (.var 0) (.cons (.c (.int 4)) .nil)) [])) none (.call "_law_value" (.cons (.var 0) (.cons (.bin .sub (.var 1) (.c (.int 1))) .nil)) [])))) .nil))))⟩
def D__law_record : Def := ⟨3, 5, (.cons (.own 3 .dic) (.cons (.forr (.name 4) (.rng1 (.call "_law_pull" (.cons (.var 0) (.cons (.bin .add (.var 2) (.c (.int 1))) .nil)) [])) (.cons (.setit (.peek 3) (.call "_law_name" (.cons (.var 0) .nil) []) (.call "_law_value" (.cons (.var 0) (.cons (.var 1) .nil)) [])) .nil)) (.cons (.frz 3) (.cons (.ret (.var 3)) .nil))))⟩
def D__law_path_ok : Def := ⟨3, 5, (.cons (.ite (.not (.chain .le .le (.var 1) (.blt .len (.var 0)) (.var 2))) (.cons (.ret (.c (.bl false))) .nil) .nil) (.cons (.ret (.blt .all (.frz (.comp (.name 3) (.seq (.var 0)) none (.and (.chain .le .le (.c (.int 1)) (.blt .len (.var 3)) (.c (.int 8))) (.blt .all (.frz (.comp (.name 4) (.chars (.var 3)) none (.chain .le .le (.c (.str [97])) (.var 4) (.c (.str [122]))))))))))) .nil))⟩
def D__law_text_ok : Def := ⟨1, 2, (.cons (.ret (.and (.cmp .le (.blt .len (.var 0)) (.c (.int 12))) (.blt .all (.frz (.comp (.name 1) (.chars (.var 0)) none (.cmp .inn (.var 1) (.c (.str [97, 98, 99, 100, 101, 102, 103, 104, 105, 106, 107, 108, 109, 110, 111, 112, 113, 114, 115, 116, 117, 118, 119, 120, 121, 122, 48, 49, 50, 51, 52, 53, 54, 55, 56, 57, 32])))))))) .nil)⟩
def D__law_value_ok : Def := ⟨1, 3, (.cons (.ite (.isi (.var 0) .list) (.cons (.ret (.blt .all (.frz (.comp (.name 1) (.seq (.var 0)) none (.call "_law_value_ok" (.cons (.var 1) .nil) []))))) .nil) .nil) (.cons (.ite (.isi (.var 0) .dict) (.cons (.ret (.blt .all (.frz (.compK (.name 2) 0 none (.and (.call "_law_path_ok" (.cons (.tup (.cons (.var 2) .nil)) (.cons (.c (.int 1)) (.cons (.c (.int 1)) .nil))) []) (.call "_law_value_ok" (.cons (.idx (.var 0) (.var 2)) .nil) [])))))) .nil) .nil) (.cons (.ret (.ite (.isi (.var 0) .str) (.call "_law_text_ok" (.cons (.var 0) .nil) []) (.c (.bl true)))) .nil)))⟩
def D__law_text : Def := ⟨1, 3, (.cons (.ite (.cmp .isn (.var 0) (.c .non)) (.cons (.ret (.c (.str [45]))) .nil) .nil) (.cons (.ite (.isi (.var 0) .str) (.cons (.ret (.bin .add (.bin .add (.c (.str [39])) (.var 0)) (.c (.str [39])))) .nil) .nil) (.cons (.ite (.isi (.var 0) .list) (.cons (.ret (.bin .add (.bin .add (.c (.str [91])) (.mth .join (.c (.str [44])) (.frz (.comp (.name 1) (.seq (.var 0)) none (.call "_law_text" (.cons (.var 1) .nil) []))))) (.c (.str [93])))) .nil) .nil) (.cons (.ite (.isi (.var 0) .dict) (.cons (.ret (.bin .add (.bin .add (.c (.str [123])) (.mth .join (.c (.str [44])) (.frz (.comp (.name 2) (.seq (.frz (.sorted (.var 0)))) none (.bin .add (.bin .add (.var 2) (.c (.str [58]))) (.call "_law_text" (.cons (.idx (.var 0) (.var 2)) .nil) [])))))) (.c (.str [125])))) .nil) .nil) (.cons (.ret (.blt .str (.var 0))) .nil)))))⟩
def D__law_row_of : Def := ⟨1, 4, (.cons (.set 1 (.c .non)) (.cons (.set 2 (.c .non)) (.cons (.tryF (.cons (.set 1 (.call "read_value" (.cons (.var 0) .nil) [])) .nil) "BadText" 3 2 [114, 111, 119]) (.cons (.ret (.tup (.cons (.var 1) (.cons (.var 2) .nil)))) .nil))))⟩
def D_law : Def := ⟨1, 13, (.cons (.set 1 (.call "_law_open" (.cons (.var 0) .nil) [])) (.cons (.forr (.name 2) (.rng1 (.c (.int 5))) (.cons (.set 5 (.call "_law_value" (.cons (.var 1) (.cons (.c (.int 3)) .nil)) [])) (.cons (.set 6 (.call "_law_copy" (.cons (.var 5) .nil) [])) (.cons (.set 7 (.call "write_value" (.cons (.var 6) .nil) [])) (.cons (.ite (.or (.not (.call "_law_like" (.cons (.var 7) (.cons (.call "_law_text" (.cons (.var 5) .nil) []) .nil)) [])) (.not (.call "_law_like" (.cons (.var 6) (.cons (.var 5) .nil)) []))) (.cons (.ret (.c (.bl false))) .nil) .nil) (.cons (.ite (.not (.call "_law_like" (.cons (.call "_law_row_of" (.cons (.var 7) .nil) []) (.cons (.tup (.cons (.var 5) (.cons (.c .non) .nil))) .nil)) [])) (.cons (.ret (.c (.bl false))) .nil) .nil) (.cons (.forr (.name 8) (.rng1 (.bin .add (.c (.int 1)) (.call "_law_pull" (.cons (.var 1) (.cons (.c (.int 2)) .nil)) []))) (.cons (.set 9 (.call "_law_pull" (.cons (.var 1) (.cons (.bin .add (.blt .len (.var 7)) (.c (.int 1))) .nil)) [])) (.cons (.set 10 (.call "_law_any" (.cons (.var 1) (.cons (.frz (.lst (.cons (.c (.str [])) (.cons (.c (.str [45])) (.cons (.c (.str [39])) (.cons (.c (.str [91])) (.cons (.c (.str [93])) (.cons (.c (.str [123])) (.cons (.c (.str [125])) (.cons (.c (.str [44])) (.cons (.c (.str [58])) (.cons (.c (.str [48])) (.cons (.c (.str [55])) (.cons (.c (.str [97])) (.cons (.c (.str [65])) (.cons (.c (.str [32])) (.cons (.c (.str [10])) (.cons (.c (.str [126])) .nil)))))))))))))))))) .nil)) [])) (.cons (.set 7 (.bin .add (.bin .add (.slc (.var 7) none (some (.var 9))) (.var 10)) (.slc (.var 7) (some (.bin .add (.var 9) (.call "_law_pull" (.cons (.var 1) (.cons (.c (.int 2)) .nil)) []))) none))) .nil)))) (.cons (.unpack [.name 11, .name 12] (.call "_law_row_of" (.cons (.var 7) .nil) [])) (.cons (.ite (.and (.cmp .isn (.var 12) (.c .non)) (.or (.not (.call "_law_value_ok" (.cons (.var 11) .nil) [])) (.cmp .ne (.call "write_value" (.cons (.var 11) .nil) []) (.var 7)))) (.cons (.ret (.c (.bl false))) .nil) .nil) (.cons (.ite (.and (.cmp .notn (.var 12) (.c .non)) (.cmp .ne (.var 12) (.c (.int 0)))) (.cons (.ret (.c (.bl false))) .nil) .nil) .nil)))))))))) (.cons (.set 3 (.frz (.lst (.cons (.c (.str [])) (.cons (.c (.str [48, 48])) (.cons (.c (.str [45, 48])) (.cons (.c (.str [43, 49])) (.cons (.c (.str [48, 49])) (.cons (.c (.str [49, 32])) (.cons (.c (.str [32, 49])) (.cons (.c (.str [91, 49, 44, 93])) (.cons (.c (.str [91, 44, 93])) (.cons (.c (.str [123, 97, 58, 49, 44, 125])) (.cons (.c (.str [123, 98, 58, 49, 44, 97, 58, 50, 125])) (.cons (.c (.str [123, 97, 58, 49, 44, 97, 58, 49, 125])) (.cons (.c (.str [39])) (.cons (.c (.str [39, 39, 39, 32])) (.cons (.c (.str [45, 45])) .nil)))))))))))))))))) (.cons (.set 3 (.frz (.cat (.var 3) (.frz (.lst (.cons (.bin .mul (.c (.str [49])) (.c (.int 31))) (.cons (.c (.str [91, 49])) (.cons (.c (.str [93])) (.cons (.c (.str [123, 97, 125])) (.cons (.c (.str [123, 58, 49, 125])) (.cons (.c (.str [123, 97, 58, 125])) (.cons (.c (.str [123, 65, 58, 49, 125])) (.cons (.c (.str [39, 65, 39])) (.cons (.c (.str [39, 97, 98, 99, 100, 101, 102, 103, 104, 105, 106, 107, 108, 109, 39])) .nil)))))))))))))) (.cons (.set 3 (.frz (.cat (.var 3) (.frz (.lst (.cons (.c (.str [91, 49, 32, 50, 93])) (.cons (.c (.str [78, 111, 110, 101])) (.cons (.c (.str [91, 91, 93])) (.cons (.c (.str [123, 97, 58, 91, 125])) (.cons (.bin .add (.bin .mul (.c (.str [91])) (.c (.int 42))) (.bin .mul (.c (.str [93])) (.c (.int 42)))) (.cons (.bin .mul (.c (.str [91])) (.c (.int 9999))) (.cons (.bin .add (.bin .add (.bin .mul (.c (.str [123, 97, 58])) (.c (.int 60))) (.c (.str [49]))) (.bin .mul (.c (.str [125])) (.c (.int 60)))) .nil)))))))))))) (.cons (.set 4 (.call "read_value" (.cons (.bin .add (.bin .mul (.c (.str [91])) (.c (.int 41))) (.bin .mul (.c (.str [93])) (.c (.int 41)))) .nil) [])) (.cons (.ite (.cmp .ne (.call "write_value" (.cons (.var 4) .nil) []) (.bin .add (.bin .mul (.c (.str [91])) (.c (.int 41))) (.bin .mul (.c (.str [93])) (.c (.int 41))))) (.cons (.ret (.c (.bl false))) .nil) .nil) (.cons (.ret (.cmp .eq (.frz (.comp (.name 7) (.seq (.var 3)) none (.call "_law_row_of" (.cons (.var 7) .nil) []))) (.frz (.rep (.frz (.lst (.cons (.tup (.cons (.c .non) (.cons (.c (.int 0)) .nil))) .nil))) (.blt .len (.var 3)))))) .nil))))))))⟩
def T : Tab := fun f => match f with
  | "is_name" => some D_is_name
  | "is_plain" => some D_is_plain
  | "value_text" => some D_value_text
  | "read_number" => some D_read_number
  | "word_end" => some D_word_end
  | "read_plain" => some D_read_plain
  | "read_item" => some D_read_item
  | "read_list" => some D_read_list
  | "read_record" => some D_read_record
  | "read_value" => some D_read_value
  | "write_value" => some D_write_value
  | "_law_open" => some D__law_open
  | "_law_pull" => some D__law_pull
  | "_law_any" => some D__law_any
  | "_law_num" => some D__law_num
  | "_law_like" => some D__law_like
  | "_law_copy" => some D__law_copy
  | "_law_name" => some D__law_name
  | "_law_plain" => some D__law_plain
  | "_law_value" => some D__law_value
  | "_law_record" => some D__law_record
  | "_law_path_ok" => some D__law_path_ok
  | "_law_text_ok" => some D__law_text_ok
  | "_law_value_ok" => some D__law_value_ok
  | "_law_text" => some D__law_text
  | "_law_row_of" => some D__law_row_of
  | "law" => some D_law
  | _ => none
def mkxT : String → List D → Option Exn := fun f => match f with
  | "BadText/0" => mk1d "BadText" [114, 111, 119] [98, 97, 100, 116, 101, 120, 116] (.int 0)
  | _ => fun _ => none
def subT : String → String → Option Bool := fun c d => match c, d with
  | "BadText", "BadText" => some true
  | _, _ => none
def G : Txs := ⟨T, mkxT, subT, 16777216⟩
end K37

set_option Elab.async false
set_option linter.all false
set_option maxRecDepth 100000
set_option maxHeartbeats 4000000
namespace K37w
open PySem L2 Lp K37
def top (i : Nat) : Stmt := PySem.Challenge.pw_lodepath_k37_values_written_and_read.main.body.getD i (.Pass ⟨0, 0, 0, 0⟩)
def caT (K : Frag) : String → Value := fun c => .ref (He.ga K (Str.ofString c))
structure Fx (K : Frag) (mg : Str → Option Value) (fdv : Nat → FuncData) : Prop where
  F_is_name : FunD K "is_name" "is_name" (defArgs (top 8)) (defBody (top 8)) (defScope (top 8)) [] [] (He.ga K "is_name") (fdv 0)
  g_is_name : mg "is_name" = some (.ref (He.ga K "is_name"))
  F_is_plain : FunD K "is_plain" "is_plain" (defArgs (top 9)) (defBody (top 9)) (defScope (top 9)) [] [] (He.ga K "is_plain") (fdv 1)
  g_is_plain : mg "is_plain" = some (.ref (He.ga K "is_plain"))
  F_value_text : FunD K "value_text" "value_text" (defArgs (top 11)) (defBody (top 11)) (defScope (top 11)) [] [] (He.ga K "value_text") (fdv 2)
  g_value_text : mg "value_text" = some (.ref (He.ga K "value_text"))
  F_read_number : FunD K "read_number" "read_number" (defArgs (top 16)) (defBody (top 16)) (defScope (top 16)) [] [] (He.ga K "read_number") (fdv 3)
  g_read_number : mg "read_number" = some (.ref (He.ga K "read_number"))
  F_word_end : FunD K "word_end" "word_end" (defArgs (top 17)) (defBody (top 17)) (defScope (top 17)) [] [] (He.ga K "word_end") (fdv 4)
  g_word_end : mg "word_end" = some (.ref (He.ga K "word_end"))
  F_read_plain : FunD K "read_plain" "read_plain" (defArgs (top 18)) (defBody (top 18)) (defScope (top 18)) [] [] (He.ga K "read_plain") (fdv 5)
  g_read_plain : mg "read_plain" = some (.ref (He.ga K "read_plain"))
  F_read_item : FunD K "read_item" "read_item" (defArgs (top 19)) (defBody (top 19)) (defScope (top 19)) [.int 0] [] (He.ga K "read_item") (fdv 6)
  g_read_item : mg "read_item" = some (.ref (He.ga K "read_item"))
  F_read_list : FunD K "read_list" "read_list" (defArgs (top 20)) (defBody (top 20)) (defScope (top 20)) [] [] (He.ga K "read_list") (fdv 7)
  g_read_list : mg "read_list" = some (.ref (He.ga K "read_list"))
  F_read_record : FunD K "read_record" "read_record" (defArgs (top 21)) (defBody (top 21)) (defScope (top 21)) [] [] (He.ga K "read_record") (fdv 8)
  g_read_record : mg "read_record" = some (.ref (He.ga K "read_record"))
  F_read_value : FunD K "read_value" "read_value" (defArgs (top 22)) (defBody (top 22)) (defScope (top 22)) [] [] (He.ga K "read_value") (fdv 9)
  g_read_value : mg "read_value" = some (.ref (He.ga K "read_value"))
  F_write_value : FunD K "write_value" "write_value" (defArgs (top 23)) (defBody (top 23)) (defScope (top 23)) [] [] (He.ga K "write_value") (fdv 10)
  g_write_value : mg "write_value" = some (.ref (He.ga K "write_value"))
  F__law_open : FunD K "_law_open" "_law_open" (defArgs (top 25)) (defBody (top 25)) (defScope (top 25)) [] [] (He.ga K "_law_open") (fdv 11)
  g__law_open : mg "_law_open" = some (.ref (He.ga K "_law_open"))
  F__law_pull : FunD K "_law_pull" "_law_pull" (defArgs (top 26)) (defBody (top 26)) (defScope (top 26)) [] [] (He.ga K "_law_pull") (fdv 12)
  g__law_pull : mg "_law_pull" = some (.ref (He.ga K "_law_pull"))
  F__law_any : FunD K "_law_any" "_law_any" (defArgs (top 27)) (defBody (top 27)) (defScope (top 27)) [] [] (He.ga K "_law_any") (fdv 13)
  g__law_any : mg "_law_any" = some (.ref (He.ga K "_law_any"))
  F__law_num : FunD K "_law_num" "_law_num" (defArgs (top 28)) (defBody (top 28)) (defScope (top 28)) [] [] (He.ga K "_law_num") (fdv 14)
  g__law_num : mg "_law_num" = some (.ref (He.ga K "_law_num"))
  F__law_like : FunD K "_law_like" "_law_like" (defArgs (top 29)) (defBody (top 29)) (defScope (top 29)) [] [] (He.ga K "_law_like") (fdv 15)
  g__law_like : mg "_law_like" = some (.ref (He.ga K "_law_like"))
  F__law_copy : FunD K "_law_copy" "_law_copy" (defArgs (top 30)) (defBody (top 30)) (defScope (top 30)) [] [] (He.ga K "_law_copy") (fdv 16)
  g__law_copy : mg "_law_copy" = some (.ref (He.ga K "_law_copy"))
  F__law_name : FunD K "_law_name" "_law_name" (defArgs (top 31)) (defBody (top 31)) (defScope (top 31)) [] [] (He.ga K "_law_name") (fdv 17)
  g__law_name : mg "_law_name" = some (.ref (He.ga K "_law_name"))
  F__law_plain : FunD K "_law_plain" "_law_plain" (defArgs (top 32)) (defBody (top 32)) (defScope (top 32)) [] [] (He.ga K "_law_plain") (fdv 18)
  g__law_plain : mg "_law_plain" = some (.ref (He.ga K "_law_plain"))
  F__law_value : FunD K "_law_value" "_law_value" (defArgs (top 33)) (defBody (top 33)) (defScope (top 33)) [] [] (He.ga K "_law_value") (fdv 19)
  g__law_value : mg "_law_value" = some (.ref (He.ga K "_law_value"))
  F__law_record : FunD K "_law_record" "_law_record" (defArgs (top 34)) (defBody (top 34)) (defScope (top 34)) [] [] (He.ga K "_law_record") (fdv 20)
  g__law_record : mg "_law_record" = some (.ref (He.ga K "_law_record"))
  F__law_path_ok : FunD K "_law_path_ok" "_law_path_ok" (defArgs (top 35)) (defBody (top 35)) (defScope (top 35)) [] [] (He.ga K "_law_path_ok") (fdv 21)
  g__law_path_ok : mg "_law_path_ok" = some (.ref (He.ga K "_law_path_ok"))
  F__law_text_ok : FunD K "_law_text_ok" "_law_text_ok" (defArgs (top 36)) (defBody (top 36)) (defScope (top 36)) [] [] (He.ga K "_law_text_ok") (fdv 22)
  g__law_text_ok : mg "_law_text_ok" = some (.ref (He.ga K "_law_text_ok"))
  F__law_value_ok : FunD K "_law_value_ok" "_law_value_ok" (defArgs (top 37)) (defBody (top 37)) (defScope (top 37)) [] [] (He.ga K "_law_value_ok") (fdv 23)
  g__law_value_ok : mg "_law_value_ok" = some (.ref (He.ga K "_law_value_ok"))
  F__law_text : FunD K "_law_text" "_law_text" (defArgs (top 38)) (defBody (top 38)) (defScope (top 38)) [] [] (He.ga K "_law_text") (fdv 24)
  g__law_text : mg "_law_text" = some (.ref (He.ga K "_law_text"))
  F__law_row_of : FunD K "_law_row_of" "_law_row_of" (defArgs (top 39)) (defBody (top 39)) (defScope (top 39)) [] [] (He.ga K "_law_row_of") (fdv 25)
  g__law_row_of : mg "_law_row_of" = some (.ref (He.ga K "_law_row_of"))
  F_law : FunD K "law" "law" (defArgs (top 40)) (defBody (top 40)) (defScope (top 40)) [] [] (He.ga K "law") (fdv 26)
  g_law : mg "law" = some (.ref (He.ga K "law"))
  FI_LodeError : FunD K "__init__" "LodeError.__init__" (defArgs (clsSt (top 1) 0)) (defBody (clsSt (top 1) 0)) (defScope (clsSt (top 1) 0)) [] [] (He.ma K (He.ga K "LodeError") "__init__") (fdv 27)
  g_LodeError : mg "LodeError" = some (.ref (He.ga K "LodeError"))
  o_LodeError : OexC K (He.ga K "LodeError")
  ci_LodeError : CiOk K (He.ga K "LodeError") (He.ma K (He.ga K "LodeError") "__init__")
  no_LodeError : ∀ f ∈ ([sCalled] : List Str), PySem.W.findIn K (.ref (He.ga K "LodeError")) f = some none
  FI_BadText : FunD K "__init__" "BadText.__init__" (defArgs (clsSt (top 2) 0)) (defBody (clsSt (top 2) 0)) (defScope (clsSt (top 2) 0)) [.int 0] [] (He.ma K (He.ga K "BadText") "__init__") (fdv 28)
  g_BadText : mg "BadText" = some (.ref (He.ga K "BadText"))
  o_BadText : OexC K (He.ga K "BadText")
  ci_BadText : CiOk K (He.ga K "BadText") (He.ma K (He.ga K "BadText") "__init__")
  no_BadText : ∀ f ∈ ([sCalled, "row"] : List Str), PySem.W.findIn K (.ref (He.ga K "BadText")) f = some none
  g_ValueError : mg "ValueError" = none
  g_all : mg "all" = none
  g_bool : mg "bool" = none
  g_dict : mg "dict" = none
  g_int : mg "int" = none
  g_isinstance : mg "isinstance" = none
  g_len : mg "len" = none
  g_list : mg "list" = none
  g_min : mg "min" = none
  g_range : mg "range" = none
  g_sorted : mg "sorted" = none
  g_str : mg "str" = none
  g_tuple : mg "tuple" = none
  g_FIGURES : ∃ t, mg "FIGURES" = some (.str "0123456789" t)
  g_LETTERS : ∃ t, mg "LETTERS" = some (.str "abcdefghijklmnopqrstuvwxyz" t)
  g_MOST_DEEP : ∃ t, mg "MOST_DEEP" = some (.int 40 t)
  g_MOST_FIGURES : ∃ t, mg "MOST_FIGURES" = some (.int 30 t)
  g_MOST_NAME : ∃ t, mg "MOST_NAME" = some (.int 8 t)
  g_MOST_SIGNS : ∃ t, mg "MOST_SIGNS" = some (.int 12 t)
  g_SIGNS : ∃ t, mg "SIGNS" = some (.str "abcdefghijklmnopqrstuvwxyz0123456789 " t)
  x_BadText_BadText : PySem.W.exmOne K (.ref (He.ga K "BadText")) (.ref (He.ga K "BadText")) = some true
  xf_BadText : XfC K (He.ga K "BadText")
section
variable {P : Program} {w : World} {K : Frag} {mg : Str → Option Value} {base : Heap} {fdv : Nat → FuncData}
theorem Fx.b_is_name_1 (X_ : Fx K mg fdv) : ∃ ds, Vals ([] : List V) ds ∧ Binds K (fdv 0) ["name"] ds := ⟨[], .nil, X_.F_is_name.bindsN fun _ _ _ _ _ _ us hl => match us, hl with | [_], _ => rfl⟩
theorem Fx.k_is_name (X_ : Fx K mg fdv) : PySem.W.keepIn K (.ref (He.ga K "is_name")) = true := X_.F_is_name.kp
theorem Fx.b_is_plain_1 (X_ : Fx K mg fdv) : ∃ ds, Vals ([] : List V) ds ∧ Binds K (fdv 1) ["value"] ds := ⟨[], .nil, X_.F_is_plain.bindsN fun _ _ _ _ _ _ us hl => match us, hl with | [_], _ => rfl⟩
theorem Fx.k_is_plain (X_ : Fx K mg fdv) : PySem.W.keepIn K (.ref (He.ga K "is_plain")) = true := X_.F_is_plain.kp
theorem Fx.b_value_text_1 (X_ : Fx K mg fdv) : ∃ ds, Vals ([] : List V) ds ∧ Binds K (fdv 2) ["value"] ds := ⟨[], .nil, X_.F_value_text.bindsN fun _ _ _ _ _ _ us hl => match us, hl with | [_], _ => rfl⟩
theorem Fx.k_value_text (X_ : Fx K mg fdv) : PySem.W.keepIn K (.ref (He.ga K "value_text")) = true := X_.F_value_text.kp
theorem Fx.b_read_number_1 (X_ : Fx K mg fdv) : ∃ ds, Vals ([] : List V) ds ∧ Binds K (fdv 3) ["word"] ds := ⟨[], .nil, X_.F_read_number.bindsN fun _ _ _ _ _ _ us hl => match us, hl with | [_], _ => rfl⟩
theorem Fx.k_read_number (X_ : Fx K mg fdv) : PySem.W.keepIn K (.ref (He.ga K "read_number")) = true := X_.F_read_number.kp
theorem Fx.b_word_end_3 (X_ : Fx K mg fdv) : ∃ ds, Vals ([] : List V) ds ∧ Binds K (fdv 4) ["text", "at", "stops"] ds := ⟨[], .nil, X_.F_word_end.bindsN fun _ _ _ _ _ _ us hl => match us, hl with | [_, _, _], _ => rfl⟩
theorem Fx.k_word_end (X_ : Fx K mg fdv) : PySem.W.keepIn K (.ref (He.ga K "word_end")) = true := X_.F_word_end.kp
theorem Fx.b_read_plain_2 (X_ : Fx K mg fdv) : ∃ ds, Vals ([] : List V) ds ∧ Binds K (fdv 5) ["text", "at"] ds := ⟨[], .nil, X_.F_read_plain.bindsN fun _ _ _ _ _ _ us hl => match us, hl with | [_, _], _ => rfl⟩
theorem Fx.k_read_plain (X_ : Fx K mg fdv) : PySem.W.keepIn K (.ref (He.ga K "read_plain")) = true := X_.F_read_plain.kp
theorem Fx.b_read_item_2 (X_ : Fx K mg fdv) : ∃ ds, Vals ([.int 0] : List V) ds ∧ Binds K (fdv 6) ["text", "at", "deep"] ds := X_.F_read_item.binds1 2 0 (by decide) rfl fun _ _ _ _ _ _ _ us its hl hi => match us, its, hl, hi with | [_, _], [_], _, _ => ⟨_, rfl, rfl⟩
theorem Fx.b_read_item_3 (X_ : Fx K mg fdv) : ∃ ds, Vals ([] : List V) ds ∧ Binds K (fdv 6) ["text", "at", "deep"] ds := X_.F_read_item.binds1 3 1 (by decide) rfl fun _ _ _ _ _ _ _ us its hl hi => match us, its, hl, hi with | [_, _, _], [_], _, _ => ⟨_, rfl, rfl⟩
theorem Fx.k_read_item (X_ : Fx K mg fdv) : PySem.W.keepIn K (.ref (He.ga K "read_item")) = true := X_.F_read_item.kp
theorem Fx.b_read_list_3 (X_ : Fx K mg fdv) : ∃ ds, Vals ([] : List V) ds ∧ Binds K (fdv 7) ["text", "at", "deep"] ds := ⟨[], .nil, X_.F_read_list.bindsN fun _ _ _ _ _ _ us hl => match us, hl with | [_, _, _], _ => rfl⟩
theorem Fx.k_read_list (X_ : Fx K mg fdv) : PySem.W.keepIn K (.ref (He.ga K "read_list")) = true := X_.F_read_list.kp
theorem Fx.b_read_record_3 (X_ : Fx K mg fdv) : ∃ ds, Vals ([] : List V) ds ∧ Binds K (fdv 8) ["text", "at", "deep"] ds := ⟨[], .nil, X_.F_read_record.bindsN fun _ _ _ _ _ _ us hl => match us, hl with | [_, _, _], _ => rfl⟩
theorem Fx.k_read_record (X_ : Fx K mg fdv) : PySem.W.keepIn K (.ref (He.ga K "read_record")) = true := X_.F_read_record.kp
theorem Fx.b_read_value_1 (X_ : Fx K mg fdv) : ∃ ds, Vals ([] : List V) ds ∧ Binds K (fdv 9) ["text"] ds := ⟨[], .nil, X_.F_read_value.bindsN fun _ _ _ _ _ _ us hl => match us, hl with | [_], _ => rfl⟩
theorem Fx.k_read_value (X_ : Fx K mg fdv) : PySem.W.keepIn K (.ref (He.ga K "read_value")) = true := X_.F_read_value.kp
theorem Fx.b_write_value_1 (X_ : Fx K mg fdv) : ∃ ds, Vals ([] : List V) ds ∧ Binds K (fdv 10) ["value"] ds := ⟨[], .nil, X_.F_write_value.bindsN fun _ _ _ _ _ _ us hl => match us, hl with | [_], _ => rfl⟩
theorem Fx.k_write_value (X_ : Fx K mg fdv) : PySem.W.keepIn K (.ref (He.ga K "write_value")) = true := X_.F_write_value.kp
theorem Fx.b__law_open_1 (X_ : Fx K mg fdv) : ∃ ds, Vals ([] : List V) ds ∧ Binds K (fdv 11) ["_law_script"] ds := ⟨[], .nil, X_.F__law_open.bindsN fun _ _ _ _ _ _ us hl => match us, hl with | [_], _ => rfl⟩
theorem Fx.k__law_open (X_ : Fx K mg fdv) : PySem.W.keepIn K (.ref (He.ga K "_law_open")) = true := X_.F__law_open.kp
theorem Fx.b__law_pull_2 (X_ : Fx K mg fdv) : ∃ ds, Vals ([] : List V) ds ∧ Binds K (fdv 12) ["_law_draw", "_law_top"] ds := ⟨[], .nil, X_.F__law_pull.bindsN fun _ _ _ _ _ _ us hl => match us, hl with | [_, _], _ => rfl⟩
theorem Fx.k__law_pull (X_ : Fx K mg fdv) : PySem.W.keepIn K (.ref (He.ga K "_law_pull")) = true := X_.F__law_pull.kp
theorem Fx.b__law_any_2 (X_ : Fx K mg fdv) : ∃ ds, Vals ([] : List V) ds ∧ Binds K (fdv 13) ["_law_draw", "_law_some"] ds := ⟨[], .nil, X_.F__law_any.bindsN fun _ _ _ _ _ _ us hl => match us, hl with | [_, _], _ => rfl⟩
theorem Fx.k__law_any (X_ : Fx K mg fdv) : PySem.W.keepIn K (.ref (He.ga K "_law_any")) = true := X_.F__law_any.kp
theorem Fx.b__law_num_1 (X_ : Fx K mg fdv) : ∃ ds, Vals ([] : List V) ds ∧ Binds K (fdv 14) ["_law_found"] ds := ⟨[], .nil, X_.F__law_num.bindsN fun _ _ _ _ _ _ us hl => match us, hl with | [_], _ => rfl⟩
theorem Fx.k__law_num (X_ : Fx K mg fdv) : PySem.W.keepIn K (.ref (He.ga K "_law_num")) = true := X_.F__law_num.kp
theorem Fx.b__law_like_2 (X_ : Fx K mg fdv) : ∃ ds, Vals ([] : List V) ds ∧ Binds K (fdv 15) ["_law_found", "_law_due"] ds := ⟨[], .nil, X_.F__law_like.bindsN fun _ _ _ _ _ _ us hl => match us, hl with | [_, _], _ => rfl⟩
theorem Fx.k__law_like (X_ : Fx K mg fdv) : PySem.W.keepIn K (.ref (He.ga K "_law_like")) = true := X_.F__law_like.kp
theorem Fx.b__law_copy_1 (X_ : Fx K mg fdv) : ∃ ds, Vals ([] : List V) ds ∧ Binds K (fdv 16) ["_law_value_here"] ds := ⟨[], .nil, X_.F__law_copy.bindsN fun _ _ _ _ _ _ us hl => match us, hl with | [_], _ => rfl⟩
theorem Fx.k__law_copy (X_ : Fx K mg fdv) : PySem.W.keepIn K (.ref (He.ga K "_law_copy")) = true := X_.F__law_copy.kp
theorem Fx.b__law_name_1 (X_ : Fx K mg fdv) : ∃ ds, Vals ([] : List V) ds ∧ Binds K (fdv 17) ["_law_draw"] ds := ⟨[], .nil, X_.F__law_name.bindsN fun _ _ _ _ _ _ us hl => match us, hl with | [_], _ => rfl⟩
theorem Fx.k__law_name (X_ : Fx K mg fdv) : PySem.W.keepIn K (.ref (He.ga K "_law_name")) = true := X_.F__law_name.kp
theorem Fx.b__law_plain_1 (X_ : Fx K mg fdv) : ∃ ds, Vals ([] : List V) ds ∧ Binds K (fdv 18) ["_law_draw"] ds := ⟨[], .nil, X_.F__law_plain.bindsN fun _ _ _ _ _ _ us hl => match us, hl with | [_], _ => rfl⟩
theorem Fx.k__law_plain (X_ : Fx K mg fdv) : PySem.W.keepIn K (.ref (He.ga K "_law_plain")) = true := X_.F__law_plain.kp
theorem Fx.b__law_value_2 (X_ : Fx K mg fdv) : ∃ ds, Vals ([] : List V) ds ∧ Binds K (fdv 19) ["_law_draw", "_law_bot"] ds := ⟨[], .nil, X_.F__law_value.bindsN fun _ _ _ _ _ _ us hl => match us, hl with | [_, _], _ => rfl⟩
theorem Fx.k__law_value (X_ : Fx K mg fdv) : PySem.W.keepIn K (.ref (He.ga K "_law_value")) = true := X_.F__law_value.kp
theorem Fx.b__law_record_3 (X_ : Fx K mg fdv) : ∃ ds, Vals ([] : List V) ds ∧ Binds K (fdv 20) ["_law_draw", "_law_bot", "_law_wide"] ds := ⟨[], .nil, X_.F__law_record.bindsN fun _ _ _ _ _ _ us hl => match us, hl with | [_, _, _], _ => rfl⟩
theorem Fx.k__law_record (X_ : Fx K mg fdv) : PySem.W.keepIn K (.ref (He.ga K "_law_record")) = true := X_.F__law_record.kp
theorem Fx.b__law_path_ok_3 (X_ : Fx K mg fdv) : ∃ ds, Vals ([] : List V) ds ∧ Binds K (fdv 21) ["_law_path", "_law_bot", "_law_tip"] ds := ⟨[], .nil, X_.F__law_path_ok.bindsN fun _ _ _ _ _ _ us hl => match us, hl with | [_, _, _], _ => rfl⟩
theorem Fx.k__law_path_ok (X_ : Fx K mg fdv) : PySem.W.keepIn K (.ref (He.ga K "_law_path_ok")) = true := X_.F__law_path_ok.kp
theorem Fx.b__law_text_ok_1 (X_ : Fx K mg fdv) : ∃ ds, Vals ([] : List V) ds ∧ Binds K (fdv 22) ["_law_value_here"] ds := ⟨[], .nil, X_.F__law_text_ok.bindsN fun _ _ _ _ _ _ us hl => match us, hl with | [_], _ => rfl⟩
theorem Fx.k__law_text_ok (X_ : Fx K mg fdv) : PySem.W.keepIn K (.ref (He.ga K "_law_text_ok")) = true := X_.F__law_text_ok.kp
theorem Fx.b__law_value_ok_1 (X_ : Fx K mg fdv) : ∃ ds, Vals ([] : List V) ds ∧ Binds K (fdv 23) ["_law_value_here"] ds := ⟨[], .nil, X_.F__law_value_ok.bindsN fun _ _ _ _ _ _ us hl => match us, hl with | [_], _ => rfl⟩
theorem Fx.k__law_value_ok (X_ : Fx K mg fdv) : PySem.W.keepIn K (.ref (He.ga K "_law_value_ok")) = true := X_.F__law_value_ok.kp
theorem Fx.b__law_text_1 (X_ : Fx K mg fdv) : ∃ ds, Vals ([] : List V) ds ∧ Binds K (fdv 24) ["_law_value_here"] ds := ⟨[], .nil, X_.F__law_text.bindsN fun _ _ _ _ _ _ us hl => match us, hl with | [_], _ => rfl⟩
theorem Fx.k__law_text (X_ : Fx K mg fdv) : PySem.W.keepIn K (.ref (He.ga K "_law_text")) = true := X_.F__law_text.kp
theorem Fx.b__law_row_of_1 (X_ : Fx K mg fdv) : ∃ ds, Vals ([] : List V) ds ∧ Binds K (fdv 25) ["_law_text_here"] ds := ⟨[], .nil, X_.F__law_row_of.bindsN fun _ _ _ _ _ _ us hl => match us, hl with | [_], _ => rfl⟩
theorem Fx.k__law_row_of (X_ : Fx K mg fdv) : PySem.W.keepIn K (.ref (He.ga K "_law_row_of")) = true := X_.F__law_row_of.kp
theorem Fx.k_law (X_ : Fx K mg fdv) : PySem.W.keepIn K (.ref (He.ga K "law")) = true := X_.F_law.kp
theorem Fx.bi_LodeError_1 (X_ : Fx K mg fdv) : ∃ ds, Vals ([] : List V) ds ∧ Binds K (fdv 27) ["self", "called"] ds := ⟨[], .nil, X_.FI_LodeError.bindsN fun _ _ _ _ _ _ us hl => match us, hl with | [_, _], _ => rfl⟩
theorem Fx.bi_BadText_0 (X_ : Fx K mg fdv) : ∃ ds, Vals ([.int 0] : List V) ds ∧ Binds K (fdv 28) ["self", "row"] ds := X_.FI_BadText.binds1 1 0 (by decide) rfl fun _ _ _ _ _ _ _ us its hl hi => match us, its, hl, hi with | [_], [_], _, _ => ⟨_, rfl, rfl⟩
theorem i_LodeError (X_ : Fx K mg fdv) : FnOk P w K mg base (L2.CX P w) 1 (He.ma K (He.ga K "LodeError") "__init__") (fdv 27) ["self", "called"] (spE K fsL [sCalled]) := by
  have nd : (["self", "called"] : List Str).Nodup := by decide +kernel
  refine X_.FI_LodeError.ok (N := ["self", "called"]) ⟨rfl, rfl, rfl, nd, rfl, by decide +kernel, by decide +kernel⟩ (spE_len fsL_len) (fun cdv A outer s H vs Q E hr hsp => ⟨_, init_L (n0 := "self") (n1 := "called") rfl rfl (.inl rfl) (.inl rfl) rfl X_.g_ValueError vInit, ?_⟩)
  obtain ⟨a, C, ws, l, rfl, T, ha, hno, e, go⟩ := hsp
  exact ⟨a, C, ws, l, by have := fsL_len ws l e; unfold L2.start; simp [this], T, ha, hno, e, fun dx h n => go dx h n⟩
theorem i_BadText (X_ : Fx K mg fdv) : FnOk P w K mg base (L2.CX P w) 2 (He.ma K (He.ga K "BadText") "__init__") (fdv 28) ["self", "row"] (spE K (fs1 "row" [98, 97, 100, 116, 101, 120, 116]) [sCalled, "row"]) := by
  have nd : (["self", "row"] : List Str).Nodup := by decide +kernel
  obtain ⟨dsB, hdB, hbB⟩ := X_.bi_LodeError_1
  cases hdB
  refine X_.FI_BadText.ok (N := ["self", "row"]) ⟨rfl, rfl, rfl, nd, rfl, by decide +kernel, by decide +kernel⟩ (spE_len fs1_len) (fun cdv A outer s H vs Q E hr hsp => ⟨_, init_1 (cd := [98, 97, 100, 116, 101, 120, 116]) (n0 := "self") (n1 := "row") (by decide +kernel) (i_LodeError X_) hr rfl rfl (.inl rfl) (.inl rfl) rfl X_.g_LodeError X_.ci_LodeError.rd X_.ci_LodeError.vl X_.FI_LodeError.kp hbB, ?_⟩)
  obtain ⟨a, C, ws, l, rfl, T, ha, hno, e, go⟩ := hsp
  exact ⟨a, C, ws, l, by have := fs1_len ws l e; unfold L2.start; simp [this], T, ha, hno, e, fun dx h n => go dx h n⟩
theorem sub_BadText (X_ : Fx K mg fdv) : ∀ c b, subT c "BadText" = some b → PySem.W.exmOne K (caT K c) (.ref (He.ga K "BadText")) = some b := by
  intro c b h
  unfold subT at h
  split at h
  · cases h; exact X_.x_BadText_BadText
  · cases h
theorem cls_BadText_row (X_ : Fx K mg fdv) : ∀ c, subT c "BadText" = some true → ∃ A, caT K c = .ref A ∧ XfC K A ∧ PySem.W.findIn K (.ref A) "row" = some none := by
  intro c h
  unfold subT at h
  split at h
  · exact ⟨_, rfl, X_.xf_BadText, X_.no_BadText _ (by decide +kernel)⟩
  · cases h
structure All (P : Program) (w : World) (K : Frag) (mg : Str → Option Value) (base : Heap) (fdv : Nat → FuncData) (k : Nat) : Prop where
  h_is_name : FnOk P w K mg base (L2.CX P w) (k + 4) (He.ga K "is_name") (fdv 0) ["name"] (spF K (caT K) G k "is_name")
  h_is_plain : FnOk P w K mg base (L2.CX P w) (k + 4) (He.ga K "is_plain") (fdv 1) ["value"] (spF K (caT K) G k "is_plain")
  h_value_text : FnOk P w K mg base (L2.CX P w) (k + 4) (He.ga K "value_text") (fdv 2) ["value"] (spF K (caT K) G k "value_text")
  h_read_number : FnOk P w K mg base (L2.CX P w) (k + 4) (He.ga K "read_number") (fdv 3) ["word"] (spF K (caT K) G k "read_number")
  h_word_end : FnOk P w K mg base (L2.CX P w) (k + 4) (He.ga K "word_end") (fdv 4) ["text", "at", "stops"] (spF K (caT K) G k "word_end")
  h_read_plain : FnOk P w K mg base (L2.CX P w) (k + 4) (He.ga K "read_plain") (fdv 5) ["text", "at"] (spF K (caT K) G k "read_plain")
  h_read_item : FnOk P w K mg base (L2.CX P w) (k + 4) (He.ga K "read_item") (fdv 6) ["text", "at", "deep"] (spF K (caT K) G k "read_item")
  h_read_list : FnOk P w K mg base (L2.CX P w) (k + 4) (He.ga K "read_list") (fdv 7) ["text", "at", "deep"] (spF K (caT K) G k "read_list")
  h_read_record : FnOk P w K mg base (L2.CX P w) (k + 4) (He.ga K "read_record") (fdv 8) ["text", "at", "deep"] (spF K (caT K) G k "read_record")
  h_read_value : FnOk P w K mg base (L2.CX P w) (k + 4) (He.ga K "read_value") (fdv 9) ["text"] (spF K (caT K) G k "read_value")
  h_write_value : FnOk P w K mg base (L2.CX P w) (k + 4) (He.ga K "write_value") (fdv 10) ["value"] (spF K (caT K) G k "write_value")
  h__law_open : FnOk P w K mg base (L2.CX P w) (k + 4) (He.ga K "_law_open") (fdv 11) ["_law_script"] (spF K (caT K) G k "_law_open")
  h__law_pull : FnOk P w K mg base (L2.CX P w) (k + 4) (He.ga K "_law_pull") (fdv 12) ["_law_draw", "_law_top"] (spF K (caT K) G k "_law_pull")
  h__law_any : FnOk P w K mg base (L2.CX P w) (k + 4) (He.ga K "_law_any") (fdv 13) ["_law_draw", "_law_some"] (spF K (caT K) G k "_law_any")
  h__law_num : FnOk P w K mg base (L2.CX P w) (k + 4) (He.ga K "_law_num") (fdv 14) ["_law_found"] (spF K (caT K) G k "_law_num")
  h__law_like : FnOk P w K mg base (L2.CX P w) (k + 4) (He.ga K "_law_like") (fdv 15) ["_law_found", "_law_due"] (spF K (caT K) G k "_law_like")
  h__law_copy : FnOk P w K mg base (L2.CX P w) (k + 4) (He.ga K "_law_copy") (fdv 16) ["_law_value_here"] (spF K (caT K) G k "_law_copy")
  h__law_name : FnOk P w K mg base (L2.CX P w) (k + 4) (He.ga K "_law_name") (fdv 17) ["_law_draw"] (spF K (caT K) G k "_law_name")
  h__law_plain : FnOk P w K mg base (L2.CX P w) (k + 4) (He.ga K "_law_plain") (fdv 18) ["_law_draw"] (spF K (caT K) G k "_law_plain")
  h__law_value : FnOk P w K mg base (L2.CX P w) (k + 4) (He.ga K "_law_value") (fdv 19) ["_law_draw", "_law_bot"] (spF K (caT K) G k "_law_value")
  h__law_record : FnOk P w K mg base (L2.CX P w) (k + 4) (He.ga K "_law_record") (fdv 20) ["_law_draw", "_law_bot", "_law_wide"] (spF K (caT K) G k "_law_record")
  h__law_path_ok : FnOk P w K mg base (L2.CX P w) (k + 4) (He.ga K "_law_path_ok") (fdv 21) ["_law_path", "_law_bot", "_law_tip"] (spF K (caT K) G k "_law_path_ok")
  h__law_text_ok : FnOk P w K mg base (L2.CX P w) (k + 4) (He.ga K "_law_text_ok") (fdv 22) ["_law_value_here"] (spF K (caT K) G k "_law_text_ok")
  h__law_value_ok : FnOk P w K mg base (L2.CX P w) (k + 4) (He.ga K "_law_value_ok") (fdv 23) ["_law_value_here"] (spF K (caT K) G k "_law_value_ok")
  h__law_text : FnOk P w K mg base (L2.CX P w) (k + 4) (He.ga K "_law_text") (fdv 24) ["_law_value_here"] (spF K (caT K) G k "_law_text")
  h__law_row_of : FnOk P w K mg base (L2.CX P w) (k + 4) (He.ga K "_law_row_of") (fdv 25) ["_law_text_here"] (spF K (caT K) G k "_law_row_of")
  h_law : FnOk P w K mg base (L2.CX P w) (k + 4) (He.ga K "law") (fdv 26) ["_law_script"] (spF K (caT K) G k "law")
theorem w_is_name (X_ : Fx K mg fdv) {k : Nat} (ih : All P w K mg base fdv k) : FnOk P w K mg base (L2.CX P w) (k + 5) (He.ga K "is_name") (fdv 0) ["name"] (spF K (caT K) G (k + 1) "is_name") := by
  have nd : (["name", "sign"] : List Str).Nodup := by decide +kernel
  refine def_ok (N := ["name", "sign"]) (d := D_is_name) X_.F_is_name ⟨rfl, rfl, rfl, nd, rfl, by decide +kernel, by decide +kernel⟩ rfl rfl rfl (by decide) ?_
  intro cdv A outer s H E hr
  have hu1 := ulim1 hr
  have hu64 := ulim64 hr
  have tk := takes_of (X := cxOf (L2.CX P w) P w K mg base ["name", "sign"] "is_name" (defScope (top 8)) (He.ga K "is_name") cdv A outer s H E) (E := E) rfl rfl rfl rfl
  have hp := passes_of (X := cxOf (L2.CX P w) P w K mg base ["name", "sign"] "is_name" (defScope (top 8)) (He.ga K "is_name") cdv A outer s H E) rfl
  refine sss_cons (ss_ret (se_and (se_isi rfl X_.g_isinstance boot_isinstance (se_p (se_var (i := 0) rfl (.inl rfl))) rfl X_.g_str boot_str (by decide)) (se_and (se_chain op_leD op_leD (se_p se_int) (se_p (se_blt cb_len rfl X_.g_len boot_len (se_p (se_var (i := 0) rfl (.inl rfl))))) (se_p (se_gintx rfl X_.g_MOST_NAME))) (se_one (se_blt (cb_all rfl) rfl X_.g_all boot_all (se_p (se_frz (sf_comp (own := [("sign", 1)]) rfl nd (si_chars (se_var (i := 0) rfl (.inl rfl))) ⟨rfl, blkOk_by (by kernel_rfl), fun _ _ _ _ _ => (sg_name (i := 1) nd rfl (.inl rfl)), fun _ _ _ _ _ => sts_nil, fun _ _ _ _ _ => (se_cmp (op_inD hu1) (se_p (se_var (i := 1) rfl (.inl rfl))) (se_p (se_gstrx rfl X_.g_LETTERS (by decide +kernel))) (by with_unfolding_all rfl))⟩)))))))) ?_
  exact sss_nil
theorem w_is_plain (X_ : Fx K mg fdv) {k : Nat} (ih : All P w K mg base fdv k) : FnOk P w K mg base (L2.CX P w) (k + 5) (He.ga K "is_plain") (fdv 1) ["value"] (spF K (caT K) G (k + 1) "is_plain") := by
  have nd : (["value", "sign"] : List Str).Nodup := by decide +kernel
  refine def_ok (N := ["value", "sign"]) (d := D_is_plain) X_.F_is_plain ⟨rfl, rfl, rfl, nd, rfl, by decide +kernel, by decide +kernel⟩ rfl rfl rfl (by decide) ?_
  intro cdv A outer s H E hr
  have hu1 := ulim1 hr
  have hu64 := ulim64 hr
  have tk := takes_of (X := cxOf (L2.CX P w) P w K mg base ["value", "sign"] "is_plain" (defScope (top 9)) (He.ga K "is_plain") cdv A outer s H E) (E := E) rfl rfl rfl rfl
  have hp := passes_of (X := cxOf (L2.CX P w) P w K mg base ["value", "sign"] "is_plain" (defScope (top 9)) (He.ga K "is_plain") cdv A outer s H E) rfl
  refine sss_cons (ss_ite (st_val (se_isi rfl X_.g_isinstance boot_isinstance (se_p (se_var (i := 0) rfl (.inl rfl))) rfl X_.g_str boot_str (by decide))) ?_ ?_) ?_
  · refine sss_cons (ss_ret (se_and (se_cmp op_leD (se_p (se_blt cb_len rfl X_.g_len boot_len (se_p (se_var (i := 0) rfl (.inl rfl))))) (se_p (se_gintx rfl X_.g_MOST_SIGNS)) (L2.nomark _)) (se_one (se_blt (cb_all rfl) rfl X_.g_all boot_all (se_p (se_frz (sf_comp (own := [("sign", 1)]) rfl nd (si_chars (se_var (i := 0) rfl (.inl rfl))) ⟨rfl, blkOk_by (by kernel_rfl), fun _ _ _ _ _ => (sg_name (i := 1) nd rfl (.inl rfl)), fun _ _ _ _ _ => sts_nil, fun _ _ _ _ _ => (se_cmp (op_inD hu1) (se_p (se_var (i := 1) rfl (.inl rfl))) (se_p (se_gstrx rfl X_.g_SIGNS (by decide +kernel))) (by with_unfolding_all rfl))⟩))))))) ?_
    exact sss_nil
  · exact sss_nil
  refine sss_cons (ss_ret (se_or (se_cmp op_isD (se_p (se_var (i := 0) rfl (.inl rfl))) (se_p se_non) (L2.nomark _)) (se_one (se_and (se_isi rfl X_.g_isinstance boot_isinstance (se_p (se_var (i := 0) rfl (.inl rfl))) rfl X_.g_int boot_int (by decide)) (se_one (se_not (se_isi rfl X_.g_isinstance boot_isinstance (se_p (se_var (i := 0) rfl (.inl rfl))) rfl X_.g_bool boot_bool (by decide)))))))) ?_
  exact sss_nil
theorem w_value_text (X_ : Fx K mg fdv) {k : Nat} (ih : All P w K mg base fdv k) : FnOk P w K mg base (L2.CX P w) (k + 5) (He.ga K "value_text") (fdv 2) ["value"] (spF K (caT K) G (k + 1) "value_text") := by
  have nd : (["value", "one", "name"] : List Str).Nodup := by decide +kernel
  refine def_ok (N := ["value", "one", "name"]) (d := D_value_text) X_.F_value_text ⟨rfl, rfl, rfl, nd, rfl, by decide +kernel, by decide +kernel⟩ rfl rfl rfl (by decide) ?_
  intro cdv A outer s H E hr
  have hu1 := ulim1 hr
  have hu64 := ulim64 hr
  have tk := takes_of (X := cxOf (L2.CX P w) P w K mg base ["value", "one", "name"] "value_text" (defScope (top 11)) (He.ga K "value_text") cdv A outer s H E) (E := E) rfl rfl rfl rfl
  have hp := passes_of (X := cxOf (L2.CX P w) P w K mg base ["value", "one", "name"] "value_text" (defScope (top 11)) (He.ga K "value_text") cdv A outer s H E) rfl
  refine sss_cons (ss_ite (st_cmp op_isD (se_p (se_var (i := 0) rfl (.inr (.inl rfl)))) (se_p se_non) (L2.nomark _)) ?_ ?_) ?_
  · refine sss_cons (ss_ret (se_str (by decide +kernel))) ?_
    exact sss_nil
  · exact sss_nil
  refine sss_cons (ss_ite (st_val (se_isi rfl X_.g_isinstance boot_isinstance (se_p (se_var (i := 0) rfl (.inr (.inl rfl)))) rfl X_.g_str boot_str (by decide))) ?_ ?_) ?_
  · refine sss_cons (ss_ret (se_add (se_add (se_str (by decide +kernel)) (se_var (i := 0) rfl (.inr (.inl rfl)))) (se_str (by decide +kernel)))) ?_
    exact sss_nil
  · exact sss_nil
  refine sss_cons (ss_ite (st_val (se_isi rfl X_.g_isinstance boot_isinstance (se_p (se_var (i := 0) rfl (.inr (.inl rfl)))) rfl X_.g_list boot_list (by decide))) ?_ ?_) ?_
  · refine sss_cons (ss_ret (se_add (se_add (se_str (by decide +kernel)) (se_mth PySem.F.slot_str_join PySem.F.type_str_join mb_join (se_str (by decide +kernel)) (se_p (se_frz (sf_comp (own := [("one", 1)]) rfl nd (si_seq (se_var (i := 0) rfl (.inr (.inl rfl)))) ⟨rfl, blkOk_by (by kernel_rfl), fun _ _ _ _ _ => (sg_name (i := 1) nd rfl (.inl rfl)), fun _ _ _ _ _ => sts_nil, fun _ _ _ _ _ => (se_call ih.h_value_text hr rfl X_.g_value_text X_.k_value_text X_.b_value_text_1 (fun _ => .nil) takes_none5 (sa_cons (se_var (i := 1) rfl (.inl rfl)) sa_nil) rfl)⟩))))) (se_str (by decide +kernel)))) ?_
    exact sss_nil
  · exact sss_nil
  refine sss_cons (ss_ite (st_val (se_isi rfl X_.g_isinstance boot_isinstance (se_p (se_var (i := 0) rfl (.inr (.inl rfl)))) rfl X_.g_dict boot_dict (by decide))) ?_ ?_) ?_
  · refine sss_cons (ss_ret (se_add (se_add (se_str (by decide +kernel)) (se_mth PySem.F.slot_str_join PySem.F.type_str_join mb_join (se_str (by decide +kernel)) (se_p (se_frz (sf_comp (own := [("name", 2)]) rfl nd (si_seq (se_frz (sf_sorted rfl rfl X_.g_sorted boot_sorted (se_p (se_var (i := 0) rfl (.inr (.inl rfl))))))) ⟨rfl, blkOk_by (by kernel_rfl), fun _ _ _ _ _ => (sg_name (i := 2) nd rfl (.inl rfl)), fun _ _ _ _ _ => sts_nil, fun _ _ _ _ _ => (se_add (se_add (se_var (i := 2) rfl (.inl rfl)) (se_str (by decide +kernel))) (se_call ih.h_value_text hr rfl X_.g_value_text X_.k_value_text X_.b_value_text_1 (fun _ => .nil) takes_none5 (sa_cons (se_idx hu1 (se_p (se_var (i := 0) rfl (.inr (.inl rfl)))) (se_var (i := 2) rfl (.inl rfl)) (by first | exact fun _ _ => rfl | intro _ _; rfl)) sa_nil) rfl))⟩))))) (se_str (by decide +kernel)))) ?_
    exact sss_nil
  · exact sss_nil
  refine sss_cons (ss_ret (se_bty cb_str rfl X_.g_str boot_str (se_p (se_var (i := 0) rfl (.inr (.inl rfl)))))) ?_
  exact sss_nil
theorem w_read_number (X_ : Fx K mg fdv) {k : Nat} (ih : All P w K mg base fdv k) : FnOk P w K mg base (L2.CX P w) (k + 5) (He.ga K "read_number") (fdv 3) ["word"] (spF K (caT K) G (k + 1) "read_number") := by
  have nd : (["word", "figures", "sign"] : List Str).Nodup := by decide +kernel
  refine def_ok (N := ["word", "figures", "sign"]) (d := D_read_number) X_.F_read_number ⟨rfl, rfl, rfl, nd, rfl, by decide +kernel, by decide +kernel⟩ rfl rfl rfl (by decide) ?_
  intro cdv A outer s H E hr
  have hu1 := ulim1 hr
  have hu64 := ulim64 hr
  have tk := takes_of (X := cxOf (L2.CX P w) P w K mg base ["word", "figures", "sign"] "read_number" (defScope (top 16)) (He.ga K "read_number") cdv A outer s H E) (E := E) rfl rfl rfl rfl
  have hp := passes_of (X := cxOf (L2.CX P w) P w K mg base ["word", "figures", "sign"] "read_number" (defScope (top 16)) (He.ga K "read_number") cdv A outer s H E) rfl
  refine sss_cons (ss_set (i := 1) nd rfl (.inl rfl) (se_ite (st_val (se_mth PySem.F.slot_str_startswith PySem.F.type_str_startswith mb_starts (se_var (i := 0) rfl (.inl rfl)) (se_p (se_str (by decide +kernel))))) (se_slc (se_var (i := 0) rfl (.inl rfl)) (so_some se_int) so_none) (se_var (i := 0) rfl (.inl rfl)))) ?_
  refine sss_cons (ss_ite (PW.pt (sw_or (st_not (st_chain op_leD op_leD (se_p se_int) (se_p (se_blt cb_len rfl X_.g_len boot_len (se_p (se_var (i := 1) rfl (.inl rfl))))) (se_p (se_gintx rfl X_.g_MOST_FIGURES)))) (sw_or1 (st_not (st_val (se_blt (cb_all rfl) rfl X_.g_all boot_all (se_p (se_frz (sf_comp (own := [("sign", 2)]) rfl nd (si_chars (se_var (i := 1) rfl (.inl rfl))) ⟨rfl, blkOk_by (by kernel_rfl), fun _ _ _ _ _ => (sg_name (i := 2) nd rfl (.inl rfl)), fun _ _ _ _ _ => sts_nil, fun _ _ _ _ _ => (se_cmp (op_inD hu1) (se_p (se_var (i := 2) rfl (.inl rfl))) (se_p (se_gstrx rfl X_.g_FIGURES (by decide +kernel))) (by with_unfolding_all rfl))⟩))))))))) ?_ ?_) ?_
  · refine sss_cons (ss_raise rfl tk (mk_rule (C := He.ga K "BadText") (fs := fs1 "row" [98, 97, 100, 116, 101, 120, 116]) (need := [sCalled, "row"]) (dvs := [.int 0]) (mk_nil (mko_0 X_.o_BadText X_.ci_BadText.fi X_.ci_BadText.ty (i_BadText X_) (hr.mono (by omega)) (X_.bi_BadText_0) rfl X_.g_BadText)) X_.o_BadText X_.no_BadText (mk1d_ok (by decide +kernel) rfl (fun _ => .int _)))) ?_
    exact sss_nil
  · exact sss_nil
  refine sss_cons (ss_ite (PW.pt (sw_and (st_cmp (op_ninD hu1) (se_p (se_var (i := 0) rfl (.inl rfl))) (se_p (se_tup (sa_cons (se_str (by decide +kernel)) sa_nil))) (by with_unfolding_all rfl)) (sw_and1 (st_val (se_mth PySem.F.slot_str_startswith PySem.F.type_str_startswith mb_starts (se_var (i := 1) rfl (.inl rfl)) (se_p (se_str (by decide +kernel)))))))) ?_ ?_) ?_
  · refine sss_cons (ss_raise rfl tk (mk_rule (C := He.ga K "BadText") (fs := fs1 "row" [98, 97, 100, 116, 101, 120, 116]) (need := [sCalled, "row"]) (dvs := [.int 0]) (mk_nil (mko_0 X_.o_BadText X_.ci_BadText.fi X_.ci_BadText.ty (i_BadText X_) (hr.mono (by omega)) (X_.bi_BadText_0) rfl X_.g_BadText)) X_.o_BadText X_.no_BadText (mk1d_ok (by decide +kernel) rfl (fun _ => .int _)))) ?_
    exact sss_nil
  · exact sss_nil
  refine sss_cons (ss_ret (se_bty cb_int rfl X_.g_int boot_int (se_p (se_var (i := 0) rfl (.inl rfl))))) ?_
  exact sss_nil
theorem w_word_end (X_ : Fx K mg fdv) {k : Nat} (ih : All P w K mg base fdv k) : FnOk P w K mg base (L2.CX P w) (k + 5) (He.ga K "word_end") (fdv 4) ["text", "at", "stops"] (spF K (caT K) G (k + 1) "word_end") := by
  have nd : (["text", "at", "stops", "ends_at", "place"] : List Str).Nodup := by decide +kernel
  refine def_ok (N := ["text", "at", "stops", "ends_at", "place"]) (d := D_word_end) X_.F_word_end ⟨rfl, rfl, rfl, nd, rfl, by decide +kernel, by decide +kernel⟩ rfl rfl rfl (by decide) ?_
  intro cdv A outer s H E hr
  have hu1 := ulim1 hr
  have hu64 := ulim64 hr
  have tk := takes_of (X := cxOf (L2.CX P w) P w K mg base ["text", "at", "stops", "ends_at", "place"] "word_end" (defScope (top 17)) (He.ga K "word_end") cdv A outer s H E) (E := E) rfl rfl rfl rfl
  have hp := passes_of (X := cxOf (L2.CX P w) P w K mg base ["text", "at", "stops", "ends_at", "place"] "word_end" (defScope (top 17)) (He.ga K "word_end") cdv A outer s H E) rfl
  refine sss_cons (ss_ownLc (own := [("place", 4)]) (i := 3) rfl nd rfl rfl (sw_true rfl rfl rfl (by kernel_rfl)) (si_rng2 rfl rfl X_.g_range (se_var (i := 1) rfl (.inl rfl)) (se_blt cb_len rfl X_.g_len boot_len (se_p (se_var (i := 0) rfl (.inr (.inl rfl)))))) ⟨rfl, blkOk_by (by kernel_rfl), fun _ _ _ _ _ => (sg_name (i := 4) nd rfl (.inl rfl)), fun _ _ _ _ _ => (sts_one (st_cmp (op_inD hu1) (se_p (se_idx hu1 (se_p (se_var (i := 0) rfl (.inr (.inl rfl)))) (se_var (i := 4) rfl (.inl rfl)) (by first | exact fun _ _ => rfl | intro _ _; rfl))) (se_p (se_var (i := 2) rfl (.inr (.inl rfl)))) (by with_unfolding_all rfl))), fun _ _ _ _ _ => (se_var (i := 4) rfl (.inl rfl))⟩) ?_
  refine sss_frz (i := 3) ?_
  refine sss_cons (ss_ret (se_minD rfl rfl hu1 rfl X_.g_min boot_min (se_p (se_var (i := 3) rfl (.inl rfl))) (se_blt cb_len rfl X_.g_len boot_len (se_p (se_var (i := 0) rfl (.inr (.inl rfl))))))) ?_
  exact sss_nil
theorem w_read_plain (X_ : Fx K mg fdv) {k : Nat} (ih : All P w K mg base fdv k) : FnOk P w K mg base (L2.CX P w) (k + 5) (He.ga K "read_plain") (fdv 5) ["text", "at"] (spF K (caT K) G (k + 1) "read_plain") := by
  have nd : (["text", "at", "end", "word", "value"] : List Str).Nodup := by decide +kernel
  refine def_ok (N := ["text", "at", "end", "word", "value"]) (d := D_read_plain) X_.F_read_plain ⟨rfl, rfl, rfl, nd, rfl, by decide +kernel, by decide +kernel⟩ rfl rfl rfl (by decide) ?_
  intro cdv A outer s H E hr
  have hu1 := ulim1 hr
  have hu64 := ulim64 hr
  have tk := takes_of (X := cxOf (L2.CX P w) P w K mg base ["text", "at", "end", "word", "value"] "read_plain" (defScope (top 18)) (He.ga K "read_plain") cdv A outer s H E) (E := E) rfl rfl rfl rfl
  have hp := passes_of (X := cxOf (L2.CX P w) P w K mg base ["text", "at", "end", "word", "value"] "read_plain" (defScope (top 18)) (He.ga K "read_plain") cdv A outer s H E) rfl
  refine sss_cons (ss_ite (st_cmp (op_eqD' hu64) (se_p (se_idx hu1 (se_p (se_var (i := 0) rfl (.inl rfl))) (se_var (i := 1) rfl (.inl rfl)) (by first | exact fun _ _ => rfl | intro _ _; rfl))) (se_p (se_str (by decide +kernel))) (L2.nomark _)) ?_ ?_) ?_
  · refine sss_cons (ss_set (i := 2) nd rfl (.inl rfl) (se_call ih.h_word_end hr rfl X_.g_word_end X_.k_word_end X_.b_word_end_3 (fun _ => .nil) tk (sa_cons (se_var (i := 0) rfl (.inl rfl)) (sa_cons (se_add (se_var (i := 1) rfl (.inl rfl)) se_int) (sa_cons (se_str (by decide +kernel)) sa_nil))) rfl)) ?_
    refine sss_cons (ss_set (i := 4) nd rfl (.inl rfl) (se_slc (se_var (i := 0) rfl (.inl rfl)) (so_some (se_add (se_var (i := 1) rfl (.inl rfl)) se_int)) (so_some (se_var (i := 2) rfl (.inl rfl))))) ?_
    refine sss_cons (ss_ite (PW.pt (sw_or (st_cmp (op_eqD' hu64) (se_p (se_var (i := 2) rfl (.inl rfl))) (se_p (se_blt cb_len rfl X_.g_len boot_len (se_p (se_var (i := 0) rfl (.inl rfl))))) (L2.nomark _)) (sw_or1 (st_not (st_val (se_call ih.h_is_plain hr rfl X_.g_is_plain X_.k_is_plain X_.b_is_plain_1 (fun _ => .nil) tk (sa_cons (se_var (i := 4) rfl (.inl rfl)) sa_nil) rfl)))))) ?_ ?_) ?_
    · refine sss_cons (ss_raise rfl tk (mk_rule (C := He.ga K "BadText") (fs := fs1 "row" [98, 97, 100, 116, 101, 120, 116]) (need := [sCalled, "row"]) (dvs := [.int 0]) (mk_nil (mko_0 X_.o_BadText X_.ci_BadText.fi X_.ci_BadText.ty (i_BadText X_) (hr.mono (by omega)) (X_.bi_BadText_0) rfl X_.g_BadText)) X_.o_BadText X_.no_BadText (mk1d_ok (by decide +kernel) rfl (fun _ => .int _)))) ?_
      exact sss_nil
    · exact sss_nil
    refine sss_cons (ss_ret (se_tup (sa_cons (se_var (i := 4) rfl (.inl rfl)) (sa_cons (se_add (se_var (i := 2) rfl (.inl rfl)) se_int) sa_nil)))) ?_
    exact sss_nil
  · exact sss_nil
  refine sss_cons (ss_set (i := 2) nd rfl (.inl rfl) (se_call ih.h_word_end hr rfl X_.g_word_end X_.k_word_end X_.b_word_end_3 (fun _ => .nil) tk (sa_cons (se_var (i := 0) rfl (.inl rfl)) (sa_cons (se_var (i := 1) rfl (.inl rfl)) (sa_cons (se_str (by decide +kernel)) sa_nil))) rfl)) ?_
  refine sss_cons (ss_set (i := 3) nd rfl (.inl rfl) (se_slc (se_var (i := 0) rfl (.inl rfl)) (so_some (se_var (i := 1) rfl (.inl rfl))) (so_some (se_var (i := 2) rfl (.inl rfl))))) ?_
  refine sss_cons (ss_ret (se_tup (sa_cons (se_ite (st_cmp (op_eqD' hu64) (se_p (se_var (i := 3) rfl (.inl rfl))) (se_p (se_str (by decide +kernel))) (L2.nomark _)) se_non (se_call ih.h_read_number hr rfl X_.g_read_number X_.k_read_number X_.b_read_number_1 (fun _ => .nil) tk (sa_cons (se_var (i := 3) rfl (.inl rfl)) sa_nil) rfl)) (sa_cons (se_var (i := 2) rfl (.inl rfl)) sa_nil)))) ?_
  exact sss_nil
theorem w_read_item (X_ : Fx K mg fdv) {k : Nat} (ih : All P w K mg base fdv k) : FnOk P w K mg base (L2.CX P w) (k + 5) (He.ga K "read_item") (fdv 6) ["text", "at", "deep"] (spF K (caT K) G (k + 1) "read_item") := by
  have nd : (["text", "at", "deep"] : List Str).Nodup := by decide +kernel
  refine def_ok (N := ["text", "at", "deep"]) (d := D_read_item) X_.F_read_item ⟨rfl, rfl, rfl, nd, rfl, by decide +kernel, by decide +kernel⟩ rfl rfl rfl (by decide) ?_
  intro cdv A outer s H E hr
  have hu1 := ulim1 hr
  have hu64 := ulim64 hr
  have tk := takes_of (X := cxOf (L2.CX P w) P w K mg base ["text", "at", "deep"] "read_item" (defScope (top 19)) (He.ga K "read_item") cdv A outer s H E) (E := E) rfl rfl rfl rfl
  have hp := passes_of (X := cxOf (L2.CX P w) P w K mg base ["text", "at", "deep"] "read_item" (defScope (top 19)) (He.ga K "read_item") cdv A outer s H E) rfl
  refine sss_cons (ss_ite (PW.pt (sw_or (st_cmp op_geD (se_p (se_var (i := 1) rfl (.inl rfl))) (se_p (se_blt cb_len rfl X_.g_len boot_len (se_p (se_var (i := 0) rfl (.inl rfl))))) (L2.nomark _)) (sw_or1 (st_cmp op_gtD (se_p (se_var (i := 2) rfl (.inl rfl))) (se_p (se_gintx rfl X_.g_MOST_DEEP)) (L2.nomark _))))) ?_ ?_) ?_
  · refine sss_cons (ss_raise rfl tk (mk_rule (C := He.ga K "BadText") (fs := fs1 "row" [98, 97, 100, 116, 101, 120, 116]) (need := [sCalled, "row"]) (dvs := [.int 0]) (mk_nil (mko_0 X_.o_BadText X_.ci_BadText.fi X_.ci_BadText.ty (i_BadText X_) (hr.mono (by omega)) (X_.bi_BadText_0) rfl X_.g_BadText)) X_.o_BadText X_.no_BadText (mk1d_ok (by decide +kernel) rfl (fun _ => .int _)))) ?_
    exact sss_nil
  · exact sss_nil
  refine sss_cons (ss_ite (st_cmp (op_eqD' hu64) (se_p (se_idx hu1 (se_p (se_var (i := 0) rfl (.inl rfl))) (se_var (i := 1) rfl (.inl rfl)) (by first | exact fun _ _ => rfl | intro _ _; rfl))) (se_p (se_str (by decide +kernel))) (L2.nomark _)) ?_ ?_) ?_
  · refine sss_cons (ss_ret (se_call ih.h_read_list hr rfl X_.g_read_list X_.k_read_list X_.b_read_list_3 (fun _ => .nil) tk (sa_cons (se_var (i := 0) rfl (.inl rfl)) (sa_cons (se_add (se_var (i := 1) rfl (.inl rfl)) se_int) (sa_cons (se_add (se_var (i := 2) rfl (.inl rfl)) se_int) sa_nil))) rfl)) ?_
    exact sss_nil
  · exact sss_nil
  refine sss_cons (ss_ite (st_cmp (op_eqD' hu64) (se_p (se_idx hu1 (se_p (se_var (i := 0) rfl (.inl rfl))) (se_var (i := 1) rfl (.inl rfl)) (by first | exact fun _ _ => rfl | intro _ _; rfl))) (se_p (se_str (by decide +kernel))) (L2.nomark _)) ?_ ?_) ?_
  · refine sss_cons (ss_ret (se_call ih.h_read_record hr rfl X_.g_read_record X_.k_read_record X_.b_read_record_3 (fun _ => .nil) tk (sa_cons (se_var (i := 0) rfl (.inl rfl)) (sa_cons (se_add (se_var (i := 1) rfl (.inl rfl)) se_int) (sa_cons (se_add (se_var (i := 2) rfl (.inl rfl)) se_int) sa_nil))) rfl)) ?_
    exact sss_nil
  · exact sss_nil
  refine sss_cons (ss_ret (se_call ih.h_read_plain hr rfl X_.g_read_plain X_.k_read_plain X_.b_read_plain_2 (fun _ => .nil) tk (sa_cons (se_var (i := 0) rfl (.inl rfl)) (sa_cons (se_var (i := 1) rfl (.inl rfl)) sa_nil)) rfl)) ?_
  exact sss_nil
theorem w_read_list (X_ : Fx K mg fdv) {k : Nat} (ih : All P w K mg base fdv k) : FnOk P w K mg base (L2.CX P w) (k + 5) (He.ga K "read_list") (fdv 7) ["text", "at", "deep"] (spF K (caT K) G (k + 1) "read_list") := by
  have nd : (["text", "at", "deep", "found", "value"] : List Str).Nodup := by decide +kernel
  refine def_ok (N := ["text", "at", "deep", "found", "value"]) (d := D_read_list) X_.F_read_list ⟨rfl, rfl, rfl, nd, rfl, by decide +kernel, by decide +kernel⟩ rfl rfl rfl (by decide) ?_
  intro cdv A outer s H E hr
  have hu1 := ulim1 hr
  have hu64 := ulim64 hr
  have tk := takes_of (X := cxOf (L2.CX P w) P w K mg base ["text", "at", "deep", "found", "value"] "read_list" (defScope (top 20)) (He.ga K "read_list") cdv A outer s H E) (E := E) rfl rfl rfl rfl
  have hp := passes_of (X := cxOf (L2.CX P w) P w K mg base ["text", "at", "deep", "found", "value"] "read_list" (defScope (top 20)) (He.ga K "read_list") cdv A outer s H E) rfl
  refine sss_cons (ss_own (i := 3) nd rfl (.inl rfl) (sf_lst sa_nil)) ?_
  refine sss_cons (ss_ite (st_cmp (op_eqD' hu64) (se_p (se_slc (se_var (i := 0) rfl (.inl rfl)) (so_some (se_var (i := 1) rfl (.inl rfl))) (so_some (se_add (se_var (i := 1) rfl (.inl rfl)) se_int)))) (se_p (se_str (by decide +kernel))) (L2.nomark _)) ?_ ?_) ?_
  · refine sss_frz (i := 3) ?_
    refine sss_cons (ss_ret (se_tup (sa_cons (se_var (i := 3) rfl (.inl rfl)) (sa_cons (se_add (se_var (i := 1) rfl (.inl rfl)) se_int) sa_nil)))) ?_
    exact sss_nil
  · exact sss_nil
  refine sss_cons (ss_loop hp (st_val se_bl) ?_) ?_
  · refine sss_cons (ss_unpack rfl (se_call ih.h_read_item hr rfl X_.g_read_item X_.k_read_item X_.b_read_item_3 (fun _ => .nil) tk (sa_cons (se_var (i := 0) rfl (.inl rfl)) (sa_cons (se_var (i := 1) rfl (.inl rfl)) (sa_cons (se_var (i := 2) rfl (.inl rfl)) sa_nil))) rfl) (sgs_name (i := 4) nd rfl (.inl rfl) (sgs_name (i := 1) nd rfl (.inl rfl) sgs_nil))) ?_
    refine sss_cons (ss_append (i := 3) .own rfl rfl (.inl rfl) (se_var (i := 4) rfl (.inl rfl))) ?_
    refine sss_cons (ss_ite (st_cmp (op_eqD' hu64) (se_p (se_slc (se_var (i := 0) rfl (.inl rfl)) (so_some (se_var (i := 1) rfl (.inl rfl))) (so_some (se_add (se_var (i := 1) rfl (.inl rfl)) se_int)))) (se_p (se_str (by decide +kernel))) (L2.nomark _)) ?_ ?_) ?_
    · refine sss_frz (i := 3) ?_
      refine sss_cons (ss_ret (se_tup (sa_cons (se_var (i := 3) rfl (.inl rfl)) (sa_cons (se_add (se_var (i := 1) rfl (.inl rfl)) se_int) sa_nil)))) ?_
      exact sss_nil
    · exact sss_nil
    refine sss_cons (ss_ite (st_cmp (op_neD' hu64) (se_p (se_slc (se_var (i := 0) rfl (.inl rfl)) (so_some (se_var (i := 1) rfl (.inl rfl))) (so_some (se_add (se_var (i := 1) rfl (.inl rfl)) se_int)))) (se_p (se_str (by decide +kernel))) (L2.nomark _)) ?_ ?_) ?_
    · refine sss_cons (ss_raise rfl tk (mk_rule (C := He.ga K "BadText") (fs := fs1 "row" [98, 97, 100, 116, 101, 120, 116]) (need := [sCalled, "row"]) (dvs := [.int 0]) (mk_nil (mko_0 X_.o_BadText X_.ci_BadText.fi X_.ci_BadText.ty (i_BadText X_) (hr.mono (by omega)) (X_.bi_BadText_0) rfl X_.g_BadText)) X_.o_BadText X_.no_BadText (mk1d_ok (by decide +kernel) rfl (fun _ => .int _)))) ?_
      exact sss_nil
    · exact sss_nil
    refine sss_cons (ss_aug (i := 1) nd rfl (.inl rfl) se_int (.inl ⟨rfl, rfl⟩)) ?_
    exact sss_nil
  exact sss_nil
theorem w_read_record (X_ : Fx K mg fdv) {k : Nat} (ih : All P w K mg base fdv k) : FnOk P w K mg base (L2.CX P w) (k + 5) (He.ga K "read_record") (fdv 8) ["text", "at", "deep"] (spF K (caT K) G (k + 1) "read_record") := by
  have nd : (["text", "at", "deep", "found", "last", "end", "name"] : List Str).Nodup := by decide +kernel
  refine def_ok (N := ["text", "at", "deep", "found", "last", "end", "name"]) (d := D_read_record) X_.F_read_record ⟨rfl, rfl, rfl, nd, rfl, by decide +kernel, by decide +kernel⟩ rfl rfl rfl (by decide) ?_
  intro cdv A outer s H E hr
  have hu1 := ulim1 hr
  have hu64 := ulim64 hr
  have tk := takes_of (X := cxOf (L2.CX P w) P w K mg base ["text", "at", "deep", "found", "last", "end", "name"] "read_record" (defScope (top 21)) (He.ga K "read_record") cdv A outer s H E) (E := E) rfl rfl rfl rfl
  have hp := passes_of (X := cxOf (L2.CX P w) P w K mg base ["text", "at", "deep", "found", "last", "end", "name"] "read_record" (defScope (top 21)) (He.ga K "read_record") cdv A outer s H E) rfl
  refine sss_cons (ss_own (i := 3) nd rfl (.inl rfl) sf_dic) ?_
  refine sss_cons (ss_ite (st_cmp (op_eqD' hu64) (se_p (se_slc (se_var (i := 0) rfl (.inl rfl)) (so_some (se_var (i := 1) rfl (.inl rfl))) (so_some (se_add (se_var (i := 1) rfl (.inl rfl)) se_int)))) (se_p (se_str (by decide +kernel))) (L2.nomark _)) ?_ ?_) ?_
  · refine sss_frz (i := 3) ?_
    refine sss_cons (ss_ret (se_tup (sa_cons (se_var (i := 3) rfl (.inl rfl)) (sa_cons (se_add (se_var (i := 1) rfl (.inl rfl)) se_int) sa_nil)))) ?_
    exact sss_nil
  · exact sss_nil
  refine sss_cons (ss_set (i := 4) nd rfl (.inl rfl) (se_str (by decide +kernel))) ?_
  refine sss_cons (ss_loop hp (st_val se_bl) ?_) ?_
  · refine sss_cons (ss_set (i := 5) nd rfl (.inl rfl) (se_call ih.h_word_end hr rfl X_.g_word_end X_.k_word_end X_.b_word_end_3 (fun _ => .nil) tk (sa_cons (se_var (i := 0) rfl (.inl rfl)) (sa_cons (se_var (i := 1) rfl (.inl rfl)) (sa_cons (se_str (by decide +kernel)) sa_nil))) rfl)) ?_
    refine sss_cons (ss_set (i := 6) nd rfl (.inl rfl) (se_slc (se_var (i := 0) rfl (.inl rfl)) (so_some (se_var (i := 1) rfl (.inl rfl))) (so_some (se_var (i := 5) rfl (.inl rfl))))) ?_
    refine sss_cons (ss_ite (PW.pt (sw_or (st_cmp (op_eqD' hu64) (se_p (se_var (i := 5) rfl (.inl rfl))) (se_p (se_blt cb_len rfl X_.g_len boot_len (se_p (se_var (i := 0) rfl (.inl rfl))))) (L2.nomark _)) (sw_or (st_not (st_val (se_call ih.h_is_name hr rfl X_.g_is_name X_.k_is_name X_.b_is_name_1 (fun _ => .nil) tk (sa_cons (se_var (i := 6) rfl (.inl rfl)) sa_nil) rfl))) (sw_or1 (st_cmp op_leD (se_p (se_var (i := 6) rfl (.inl rfl))) (se_p (se_var (i := 4) rfl (.inl rfl))) (L2.nomark _)))))) ?_ ?_) ?_
    · refine sss_cons (ss_raise rfl tk (mk_rule (C := He.ga K "BadText") (fs := fs1 "row" [98, 97, 100, 116, 101, 120, 116]) (need := [sCalled, "row"]) (dvs := [.int 0]) (mk_nil (mko_0 X_.o_BadText X_.ci_BadText.fi X_.ci_BadText.ty (i_BadText X_) (hr.mono (by omega)) (X_.bi_BadText_0) rfl X_.g_BadText)) X_.o_BadText X_.no_BadText (mk1d_ok (by decide +kernel) rfl (fun _ => .int _)))) ?_
      exact sss_nil
    · exact sss_nil
    refine sss_cons (ss_unpack rfl (se_call ih.h_read_item hr rfl X_.g_read_item X_.k_read_item X_.b_read_item_3 (fun _ => .nil) tk (sa_cons (se_var (i := 0) rfl (.inl rfl)) (sa_cons (se_add (se_var (i := 5) rfl (.inl rfl)) se_int) (sa_cons (se_var (i := 2) rfl (.inl rfl)) sa_nil))) rfl) (sgs_item (i := 3) hu1 rfl (.inl rfl) (se_var (i := 6) rfl (.inl rfl)) (sgs_name (i := 1) nd rfl (.inl rfl) sgs_nil))) ?_
    refine sss_cons (ss_set (i := 4) nd rfl (.inl rfl) (se_var (i := 6) rfl (.inl rfl))) ?_
    refine sss_cons (ss_ite (st_cmp (op_eqD' hu64) (se_p (se_slc (se_var (i := 0) rfl (.inl rfl)) (so_some (se_var (i := 1) rfl (.inl rfl))) (so_some (se_add (se_var (i := 1) rfl (.inl rfl)) se_int)))) (se_p (se_str (by decide +kernel))) (L2.nomark _)) ?_ ?_) ?_
    · refine sss_frz (i := 3) ?_
      refine sss_cons (ss_ret (se_tup (sa_cons (se_var (i := 3) rfl (.inl rfl)) (sa_cons (se_add (se_var (i := 1) rfl (.inl rfl)) se_int) sa_nil)))) ?_
      exact sss_nil
    · exact sss_nil
    refine sss_cons (ss_ite (st_cmp (op_neD' hu64) (se_p (se_slc (se_var (i := 0) rfl (.inl rfl)) (so_some (se_var (i := 1) rfl (.inl rfl))) (so_some (se_add (se_var (i := 1) rfl (.inl rfl)) se_int)))) (se_p (se_str (by decide +kernel))) (L2.nomark _)) ?_ ?_) ?_
    · refine sss_cons (ss_raise rfl tk (mk_rule (C := He.ga K "BadText") (fs := fs1 "row" [98, 97, 100, 116, 101, 120, 116]) (need := [sCalled, "row"]) (dvs := [.int 0]) (mk_nil (mko_0 X_.o_BadText X_.ci_BadText.fi X_.ci_BadText.ty (i_BadText X_) (hr.mono (by omega)) (X_.bi_BadText_0) rfl X_.g_BadText)) X_.o_BadText X_.no_BadText (mk1d_ok (by decide +kernel) rfl (fun _ => .int _)))) ?_
      exact sss_nil
    · exact sss_nil
    refine sss_cons (ss_aug (i := 1) nd rfl (.inl rfl) se_int (.inl ⟨rfl, rfl⟩)) ?_
    exact sss_nil
  exact sss_nil
theorem w_read_value (X_ : Fx K mg fdv) {k : Nat} (ih : All P w K mg base fdv k) : FnOk P w K mg base (L2.CX P w) (k + 5) (He.ga K "read_value") (fdv 9) ["text"] (spF K (caT K) G (k + 1) "read_value") := by
  have nd : (["text", "value", "end"] : List Str).Nodup := by decide +kernel
  refine def_ok (N := ["text", "value", "end"]) (d := D_read_value) X_.F_read_value ⟨rfl, rfl, rfl, nd, rfl, by decide +kernel, by decide +kernel⟩ rfl rfl rfl (by decide) ?_
  intro cdv A outer s H E hr
  have hu1 := ulim1 hr
  have hu64 := ulim64 hr
  have tk := takes_of (X := cxOf (L2.CX P w) P w K mg base ["text", "value", "end"] "read_value" (defScope (top 22)) (He.ga K "read_value") cdv A outer s H E) (E := E) rfl rfl rfl rfl
  have hp := passes_of (X := cxOf (L2.CX P w) P w K mg base ["text", "value", "end"] "read_value" (defScope (top 22)) (He.ga K "read_value") cdv A outer s H E) rfl
  refine sss_cons (ss_unpack rfl (se_call ih.h_read_item hr rfl X_.g_read_item X_.k_read_item X_.b_read_item_2 (fun _ => (.cons (.int _) .nil)) tk (sa_cons (se_var (i := 0) rfl (.inl rfl)) (sa_cons se_int sa_nil)) rfl) (sgs_name (i := 1) nd rfl (.inl rfl) (sgs_name (i := 2) nd rfl (.inl rfl) sgs_nil))) ?_
  refine sss_cons (ss_ite (st_cmp (op_neD' hu64) (se_p (se_var (i := 2) rfl (.inl rfl))) (se_p (se_blt cb_len rfl X_.g_len boot_len (se_p (se_var (i := 0) rfl (.inl rfl))))) (L2.nomark _)) ?_ ?_) ?_
  · refine sss_cons (ss_raise rfl tk (mk_rule (C := He.ga K "BadText") (fs := fs1 "row" [98, 97, 100, 116, 101, 120, 116]) (need := [sCalled, "row"]) (dvs := [.int 0]) (mk_nil (mko_0 X_.o_BadText X_.ci_BadText.fi X_.ci_BadText.ty (i_BadText X_) (hr.mono (by omega)) (X_.bi_BadText_0) rfl X_.g_BadText)) X_.o_BadText X_.no_BadText (mk1d_ok (by decide +kernel) rfl (fun _ => .int _)))) ?_
    exact sss_nil
  · exact sss_nil
  refine sss_cons (ss_ret (se_var (i := 1) rfl (.inl rfl))) ?_
  exact sss_nil
theorem w_write_value (X_ : Fx K mg fdv) {k : Nat} (ih : All P w K mg base fdv k) : FnOk P w K mg base (L2.CX P w) (k + 5) (He.ga K "write_value") (fdv 10) ["value"] (spF K (caT K) G (k + 1) "write_value") := by
  have nd : (["value"] : List Str).Nodup := by decide +kernel
  refine def_ok (N := ["value"]) (d := D_write_value) X_.F_write_value ⟨rfl, rfl, rfl, nd, rfl, by decide +kernel, by decide +kernel⟩ rfl rfl rfl (by decide) ?_
  intro cdv A outer s H E hr
  have hu1 := ulim1 hr
  have hu64 := ulim64 hr
  have tk := takes_of (X := cxOf (L2.CX P w) P w K mg base ["value"] "write_value" (defScope (top 23)) (He.ga K "write_value") cdv A outer s H E) (E := E) rfl rfl rfl rfl
  have hp := passes_of (X := cxOf (L2.CX P w) P w K mg base ["value"] "write_value" (defScope (top 23)) (He.ga K "write_value") cdv A outer s H E) rfl
  refine sss_cons (ss_ret (se_call ih.h_value_text hr rfl X_.g_value_text X_.k_value_text X_.b_value_text_1 (fun _ => .nil) tk (sa_cons (se_var (i := 0) rfl (.inl rfl)) sa_nil) rfl)) ?_
  exact sss_nil
theorem w__law_open (X_ : Fx K mg fdv) {k : Nat} (ih : All P w K mg base fdv k) : FnOk P w K mg base (L2.CX P w) (k + 5) (He.ga K "_law_open") (fdv 11) ["_law_script"] (spF K (caT K) G (k + 1) "_law_open") := by
  have nd : (["_law_script"] : List Str).Nodup := by decide +kernel
  refine def_ok (N := ["_law_script"]) (d := D__law_open) X_.F__law_open ⟨rfl, rfl, rfl, nd, rfl, by decide +kernel, by decide +kernel⟩ rfl rfl rfl (by decide) ?_
  intro cdv A outer s H E hr
  have hu1 := ulim1 hr
  have hu64 := ulim64 hr
  have tk := takes_of (X := cxOf (L2.CX P w) P w K mg base ["_law_script"] "_law_open" (defScope (top 25)) (He.ga K "_law_open") cdv A outer s H E) (E := E) rfl rfl rfl rfl
  have hp := passes_of (X := cxOf (L2.CX P w) P w K mg base ["_law_script"] "_law_open" (defScope (top 25)) (He.ga K "_law_open") cdv A outer s H E) rfl
  refine sss_cons (ss_ret (se_alloc (sf_lst (sa_cons (se_frz (sf_listOf rfl X_.g_list boot_list (se_p (se_frz (sf_slc (se_p (se_var (i := 0) rfl (.inl rfl))) so_none (so_some se_int)))))) (sa_cons se_int (sa_cons se_int (sa_cons se_int sa_nil))))))) ?_
  exact sss_nil
theorem w__law_pull (X_ : Fx K mg fdv) {k : Nat} (ih : All P w K mg base fdv k) : FnOk P w K mg base (L2.CX P w) (k + 5) (He.ga K "_law_pull") (fdv 12) ["_law_draw", "_law_top"] (spF K (caT K) G (k + 1) "_law_pull") := by
  have nd : (["_law_draw", "_law_top", "_law_cell", "_law_got"] : List Str).Nodup := by decide +kernel
  refine def_ok (N := ["_law_draw", "_law_top", "_law_cell", "_law_got"]) (d := D__law_pull) X_.F__law_pull ⟨rfl, rfl, rfl, nd, rfl, by decide +kernel, by decide +kernel⟩ rfl rfl rfl (by decide) ?_
  intro cdv A outer s H E hr
  have hu1 := ulim1 hr
  have hu64 := ulim64 hr
  have tk := takes_of (X := cxOf (L2.CX P w) P w K mg base ["_law_draw", "_law_top", "_law_cell", "_law_got"] "_law_pull" (defScope (top 26)) (He.ga K "_law_pull") cdv A outer s H E) (E := E) rfl rfl rfl rfl
  have hp := passes_of (X := cxOf (L2.CX P w) P w K mg base ["_law_draw", "_law_top", "_law_cell", "_law_got"] "_law_pull" (defScope (top 26)) (He.ga K "_law_pull") cdv A outer s H E) rfl
  refine sss_cons (ss_ite (PW.pt (sw_and (st_cmp op_ltD (se_p (se_idx hu1 (se_p (se_var (i := 0) rfl (.inl rfl))) se_int (by first | exact fun _ _ => rfl | intro _ _; rfl))) (se_p (se_var (i := 1) rfl (.inl rfl))) (L2.nomark _)) (sw_and1 (st_cmp op_ltD (se_p (se_idx hu1 (se_p (se_var (i := 0) rfl (.inl rfl))) se_int (by first | exact fun _ _ => rfl | intro _ _; rfl))) (se_p (se_blt cb_len rfl X_.g_len boot_len (se_p (se_idx hu1 (se_p (se_var (i := 0) rfl (.inl rfl))) se_int (by first | exact fun _ _ => rfl | intro _ _; rfl))))) (L2.nomark _))))) ?_ ?_) ?_
  · refine sss_cons (ss_set (i := 2) nd rfl (.inl rfl) (se_idx hu1 (se_p (se_idx hu1 (se_p (se_var (i := 0) rfl (.inl rfl))) se_int (by first | exact fun _ _ => rfl | intro _ _; rfl))) (se_idx hu1 (se_p (se_var (i := 0) rfl (.inl rfl))) se_int (by first | exact fun _ _ => rfl | intro _ _; rfl)) (by first | exact fun _ _ => rfl | intro _ _; rfl))) ?_
    refine sss_cons (ss_setit (i := 0) hu1 .cell rfl (.inl rfl) se_int (se_add (se_idx hu1 (se_p (se_var (i := 0) rfl (.inl rfl))) se_int (by first | exact fun _ _ => rfl | intro _ _; rfl)) se_int)) ?_
    refine sss_cons (ss_setit (i := 0) hu1 .cell rfl (.inl rfl) se_int se_int) ?_
    refine sss_cons (ss_ite (st_cmp op_geD (se_p (se_var (i := 2) rfl (.inl rfl))) (se_p (se_pow se_int se_int)) (L2.nomark _)) ?_ ?_) ?_
    · refine sss_cons (ss_setit (i := 0) hu1 .cell rfl (.inl rfl) se_int (se_var (i := 2) rfl (.inl rfl))) ?_
      exact sss_nil
    · refine sss_cons (ss_setit (i := 0) hu1 .cell rfl (.inl rfl) se_int (se_mod (se_add (se_add (se_mul (se_idx hu1 (se_p (se_var (i := 0) rfl (.inl rfl))) se_int (by first | exact fun _ _ => rfl | intro _ _; rfl)) se_int) (se_mul (se_mod (se_var (i := 2) rfl (.inl rfl)) se_int) se_int)) se_int) se_int)) ?_
      exact sss_nil
    exact sss_nil
  · exact sss_nil
  refine sss_cons (ss_ite (st_cmp op_geD (se_p (se_idx hu1 (se_p (se_var (i := 0) rfl (.inl rfl))) se_int (by first | exact fun _ _ => rfl | intro _ _; rfl))) (se_p (se_var (i := 1) rfl (.inl rfl))) (L2.nomark _)) ?_ ?_) ?_
  · refine sss_cons (ss_set (i := 3) nd rfl (.inl rfl) (se_mod (se_idx hu1 (se_p (se_var (i := 0) rfl (.inl rfl))) se_int (by first | exact fun _ _ => rfl | intro _ _; rfl)) (se_var (i := 1) rfl (.inl rfl)))) ?_
    refine sss_cons (ss_setit (i := 0) hu1 .cell rfl (.inl rfl) se_int (se_fdiv (se_idx hu1 (se_p (se_var (i := 0) rfl (.inl rfl))) se_int (by first | exact fun _ _ => rfl | intro _ _; rfl)) (se_var (i := 1) rfl (.inl rfl)))) ?_
    refine sss_cons (ss_ret (se_var (i := 3) rfl (.inl rfl))) ?_
    exact sss_nil
  · exact sss_nil
  refine sss_cons (ss_setit (i := 0) hu1 .cell rfl (.inl rfl) se_int (se_mod (se_add (se_add (se_pow (se_idx hu1 (se_p (se_var (i := 0) rfl (.inl rfl))) se_int (by first | exact fun _ _ => rfl | intro _ _; rfl)) se_int) (se_mul (se_idx hu1 (se_p (se_var (i := 0) rfl (.inl rfl))) se_int (by first | exact fun _ _ => rfl | intro _ _; rfl)) se_int)) se_int) se_int)) ?_
  refine sss_cons (ss_ret (se_mod (se_add (se_fdiv (se_idx hu1 (se_p (se_var (i := 0) rfl (.inl rfl))) se_int (by first | exact fun _ _ => rfl | intro _ _; rfl)) se_int) (se_mul (se_mod (se_idx hu1 (se_p (se_var (i := 0) rfl (.inl rfl))) se_int (by first | exact fun _ _ => rfl | intro _ _; rfl)) se_int) se_int)) (se_var (i := 1) rfl (.inl rfl)))) ?_
  exact sss_nil
theorem w__law_any (X_ : Fx K mg fdv) {k : Nat} (ih : All P w K mg base fdv k) : FnOk P w K mg base (L2.CX P w) (k + 5) (He.ga K "_law_any") (fdv 13) ["_law_draw", "_law_some"] (spF K (caT K) G (k + 1) "_law_any") := by
  have nd : (["_law_draw", "_law_some"] : List Str).Nodup := by decide +kernel
  refine def_ok (N := ["_law_draw", "_law_some"]) (d := D__law_any) X_.F__law_any ⟨rfl, rfl, rfl, nd, rfl, by decide +kernel, by decide +kernel⟩ rfl rfl rfl (by decide) ?_
  intro cdv A outer s H E hr
  have hu1 := ulim1 hr
  have hu64 := ulim64 hr
  have tk := takes_of (X := cxOf (L2.CX P w) P w K mg base ["_law_draw", "_law_some"] "_law_any" (defScope (top 27)) (He.ga K "_law_any") cdv A outer s H E) (E := E) rfl rfl rfl rfl
  have hp := passes_of (X := cxOf (L2.CX P w) P w K mg base ["_law_draw", "_law_some"] "_law_any" (defScope (top 27)) (He.ga K "_law_any") cdv A outer s H E) rfl
  refine sss_cons (ss_ret (se_idx hu1 (se_p (se_var (i := 1) rfl (.inl rfl))) (se_call ih.h__law_pull hr rfl X_.g__law_pull X_.k__law_pull X_.b__law_pull_2 (fun _ => .nil) tk (sa_cons (se_var (i := 0) rfl (.inl rfl)) (sa_cons (se_blt cb_len rfl X_.g_len boot_len (se_p (se_var (i := 1) rfl (.inl rfl)))) sa_nil)) rfl) (by first | exact fun _ _ => rfl | intro _ _; rfl))) ?_
  exact sss_nil
theorem w__law_num (X_ : Fx K mg fdv) {k : Nat} (ih : All P w K mg base fdv k) : FnOk P w K mg base (L2.CX P w) (k + 5) (He.ga K "_law_num") (fdv 14) ["_law_found"] (spF K (caT K) G (k + 1) "_law_num") := by
  have nd : (["_law_found"] : List Str).Nodup := by decide +kernel
  refine def_ok (N := ["_law_found"]) (d := D__law_num) X_.F__law_num ⟨rfl, rfl, rfl, nd, rfl, by decide +kernel, by decide +kernel⟩ rfl rfl rfl (by decide) ?_
  intro cdv A outer s H E hr
  have hu1 := ulim1 hr
  have hu64 := ulim64 hr
  have tk := takes_of (X := cxOf (L2.CX P w) P w K mg base ["_law_found"] "_law_num" (defScope (top 28)) (He.ga K "_law_num") cdv A outer s H E) (E := E) rfl rfl rfl rfl
  have hp := passes_of (X := cxOf (L2.CX P w) P w K mg base ["_law_found"] "_law_num" (defScope (top 28)) (He.ga K "_law_num") cdv A outer s H E) rfl
  refine sss_cons (ss_ret (se_and (se_isi rfl X_.g_isinstance boot_isinstance (se_p (se_var (i := 0) rfl (.inl rfl))) rfl X_.g_int boot_int (by decide)) (se_one (se_not (se_isi rfl X_.g_isinstance boot_isinstance (se_p (se_var (i := 0) rfl (.inl rfl))) rfl X_.g_bool boot_bool (by decide)))))) ?_
  exact sss_nil
theorem w__law_like (X_ : Fx K mg fdv) {k : Nat} (ih : All P w K mg base fdv k) : FnOk P w K mg base (L2.CX P w) (k + 5) (He.ga K "_law_like") (fdv 15) ["_law_found", "_law_due"] (spF K (caT K) G (k + 1) "_law_like") := by
  have nd : (["_law_found", "_law_due", "_law_name_here", "_law_k"] : List Str).Nodup := by decide +kernel
  refine def_ok (N := ["_law_found", "_law_due", "_law_name_here", "_law_k"]) (d := D__law_like) X_.F__law_like ⟨rfl, rfl, rfl, nd, rfl, by decide +kernel, by decide +kernel⟩ rfl rfl rfl (by decide) ?_
  intro cdv A outer s H E hr
  have hu1 := ulim1 hr
  have hu64 := ulim64 hr
  have tk := takes_of (X := cxOf (L2.CX P w) P w K mg base ["_law_found", "_law_due", "_law_name_here", "_law_k"] "_law_like" (defScope (top 29)) (He.ga K "_law_like") cdv A outer s H E) (E := E) rfl rfl rfl rfl
  have hp := passes_of (X := cxOf (L2.CX P w) P w K mg base ["_law_found", "_law_due", "_law_name_here", "_law_k"] "_law_like" (defScope (top 29)) (He.ga K "_law_like") cdv A outer s H E) rfl
  refine sss_cons (ss_ite (st_cmp op_isD (se_p (se_var (i := 1) rfl (.inr (.inl rfl)))) (se_p se_non) (L2.nomark _)) ?_ ?_) ?_
  · refine sss_cons (ss_ret (se_cmp op_isD (se_p (se_var (i := 0) rfl (.inr (.inl rfl)))) (se_p se_non) (L2.nomark _))) ?_
    exact sss_nil
  · exact sss_nil
  refine sss_cons (ss_ite (st_val (se_isi rfl X_.g_isinstance boot_isinstance (se_p (se_var (i := 1) rfl (.inr (.inl rfl)))) rfl X_.g_bool boot_bool (by decide))) ?_ ?_) ?_
  · refine sss_cons (ss_ret (se_and (se_isi rfl X_.g_isinstance boot_isinstance (se_p (se_var (i := 0) rfl (.inr (.inl rfl)))) rfl X_.g_bool boot_bool (by decide)) (se_one (se_cmp (op_eqD' hu64) (se_p (se_var (i := 0) rfl (.inr (.inl rfl)))) (se_p (se_var (i := 1) rfl (.inr (.inl rfl)))) (L2.nomark _))))) ?_
    exact sss_nil
  · exact sss_nil
  refine sss_cons (ss_ite (st_val (se_isi rfl X_.g_isinstance boot_isinstance (se_p (se_var (i := 1) rfl (.inr (.inl rfl)))) rfl X_.g_int boot_int (by decide))) ?_ ?_) ?_
  · refine sss_cons (ss_ret (se_and (se_call ih.h__law_num hr rfl X_.g__law_num X_.k__law_num X_.b__law_num_1 (fun _ => .nil) tk (sa_cons (se_var (i := 0) rfl (.inr (.inl rfl))) sa_nil) rfl) (se_one (se_cmp (op_eqD' hu64) (se_p (se_var (i := 0) rfl (.inr (.inl rfl)))) (se_p (se_var (i := 1) rfl (.inr (.inl rfl)))) (L2.nomark _))))) ?_
    exact sss_nil
  · exact sss_nil
  refine sss_cons (ss_ite (st_val (se_isi rfl X_.g_isinstance boot_isinstance (se_p (se_var (i := 1) rfl (.inr (.inl rfl)))) rfl X_.g_str boot_str (by decide))) ?_ ?_) ?_
  · refine sss_cons (ss_ret (se_and (se_isi rfl X_.g_isinstance boot_isinstance (se_p (se_var (i := 0) rfl (.inr (.inl rfl)))) rfl X_.g_str boot_str (by decide)) (se_one (se_cmp (op_eqD' hu64) (se_p (se_var (i := 0) rfl (.inr (.inl rfl)))) (se_p (se_var (i := 1) rfl (.inr (.inl rfl)))) (L2.nomark _))))) ?_
    exact sss_nil
  · exact sss_nil
  refine sss_cons (ss_ite (st_val (se_isi rfl X_.g_isinstance boot_isinstance (se_p (se_var (i := 1) rfl (.inr (.inl rfl)))) rfl X_.g_dict boot_dict (by decide))) ?_ ?_) ?_
  · refine sss_cons (ss_ite (PW.pt (sw_or (st_not (st_val (se_isi rfl X_.g_isinstance boot_isinstance (se_p (se_var (i := 0) rfl (.inr (.inl rfl)))) rfl X_.g_dict boot_dict (by decide)))) (sw_or1 (st_cmp (op_neD' hu64) (se_p (se_frz (sf_sorted rfl rfl X_.g_sorted boot_sorted (se_p (se_var (i := 0) rfl (.inr (.inl rfl))))))) (se_p (se_frz (sf_sorted rfl rfl X_.g_sorted boot_sorted (se_p (se_var (i := 1) rfl (.inr (.inl rfl))))))) (L2.nomark _))))) ?_ ?_) ?_
    · refine sss_cons (ss_ret se_bl) ?_
      exact sss_nil
    · exact sss_nil
    refine sss_cons (ss_ret (se_blt (cb_all rfl) rfl X_.g_all boot_all (se_p (se_frz (sf_compK (own := [("_law_name_here", 2)]) (i := 1) rfl nd rfl (.inr (.inl rfl)) ⟨rfl, blkOk_by (by kernel_rfl), fun _ _ _ _ _ => (sg_name (i := 2) nd rfl (.inl rfl)), fun _ _ _ _ _ => sts_nil, fun _ _ _ _ _ => (se_call ih.h__law_like hr rfl X_.g__law_like X_.k__law_like X_.b__law_like_2 (fun _ => .nil) takes_none5 (sa_cons (se_idx hu1 (se_p (se_var (i := 0) rfl (.inr (.inl rfl)))) (se_var (i := 2) rfl (.inl rfl)) (by first | exact fun _ _ => rfl | intro _ _; rfl)) (sa_cons (se_idx hu1 (se_p (se_var (i := 1) rfl (.inr (.inl rfl)))) (se_var (i := 2) rfl (.inl rfl)) (by first | exact fun _ _ => rfl | intro _ _; rfl)) sa_nil)) rfl)⟩))))) ?_
    exact sss_nil
  · exact sss_nil
  refine sss_cons (ss_ite (PW.pt (sw_or (st_cmp (op_neD' hu64) (se_p (se_isi rfl X_.g_isinstance boot_isinstance (se_p (se_var (i := 1) rfl (.inr (.inl rfl)))) rfl X_.g_tuple boot_tuple (by decide))) (se_p (se_isi rfl X_.g_isinstance boot_isinstance (se_p (se_var (i := 0) rfl (.inr (.inl rfl)))) rfl X_.g_tuple boot_tuple (by decide))) (L2.nomark _)) (sw_or1 (st_cmp (op_neD' hu64) (se_p (se_isi rfl X_.g_isinstance boot_isinstance (se_p (se_var (i := 1) rfl (.inr (.inl rfl)))) rfl X_.g_list boot_list (by decide))) (se_p (se_isi rfl X_.g_isinstance boot_isinstance (se_p (se_var (i := 0) rfl (.inr (.inl rfl)))) rfl X_.g_list boot_list (by decide))) (L2.nomark _))))) ?_ ?_) ?_
  · refine sss_cons (ss_ret se_bl) ?_
    exact sss_nil
  · exact sss_nil
  refine sss_cons (ss_ret (se_and (se_cmp (op_eqD' hu64) (se_p (se_blt cb_len rfl X_.g_len boot_len (se_p (se_var (i := 0) rfl (.inr (.inl rfl)))))) (se_p (se_blt cb_len rfl X_.g_len boot_len (se_p (se_var (i := 1) rfl (.inr (.inl rfl)))))) (L2.nomark _)) (se_one (se_blt (cb_all rfl) rfl X_.g_all boot_all (se_p (se_frz (sf_comp (own := [("_law_k", 3)]) rfl nd (si_rng1 rfl rfl X_.g_range (se_blt cb_len rfl X_.g_len boot_len (se_p (se_var (i := 1) rfl (.inr (.inl rfl)))))) ⟨rfl, blkOk_by (by kernel_rfl), fun _ _ _ _ _ => (sg_name (i := 3) nd rfl (.inl rfl)), fun _ _ _ _ _ => sts_nil, fun _ _ _ _ _ => (se_call ih.h__law_like hr rfl X_.g__law_like X_.k__law_like X_.b__law_like_2 (fun _ => .nil) takes_none5 (sa_cons (se_idx hu1 (se_p (se_var (i := 0) rfl (.inr (.inl rfl)))) (se_var (i := 3) rfl (.inl rfl)) (by first | exact fun _ _ => rfl | intro _ _; rfl)) (sa_cons (se_idx hu1 (se_p (se_var (i := 1) rfl (.inr (.inl rfl)))) (se_var (i := 3) rfl (.inl rfl)) (by first | exact fun _ _ => rfl | intro _ _; rfl)) sa_nil)) rfl)⟩))))))) ?_
  exact sss_nil
theorem w__law_copy (X_ : Fx K mg fdv) {k : Nat} (ih : All P w K mg base fdv k) : FnOk P w K mg base (L2.CX P w) (k + 5) (He.ga K "_law_copy") (fdv 16) ["_law_value_here"] (spF K (caT K) G (k + 1) "_law_copy") := by
  have nd : (["_law_value_here", "_law_one", "_law_name_here"] : List Str).Nodup := by decide +kernel
  refine def_ok (N := ["_law_value_here", "_law_one", "_law_name_here"]) (d := D__law_copy) X_.F__law_copy ⟨rfl, rfl, rfl, nd, rfl, by decide +kernel, by decide +kernel⟩ rfl rfl rfl (by decide) ?_
  intro cdv A outer s H E hr
  have hu1 := ulim1 hr
  have hu64 := ulim64 hr
  have tk := takes_of (X := cxOf (L2.CX P w) P w K mg base ["_law_value_here", "_law_one", "_law_name_here"] "_law_copy" (defScope (top 30)) (He.ga K "_law_copy") cdv A outer s H E) (E := E) rfl rfl rfl rfl
  have hp := passes_of (X := cxOf (L2.CX P w) P w K mg base ["_law_value_here", "_law_one", "_law_name_here"] "_law_copy" (defScope (top 30)) (He.ga K "_law_copy") cdv A outer s H E) rfl
  refine sss_cons (ss_ite (st_val (se_isi rfl X_.g_isinstance boot_isinstance (se_p (se_var (i := 0) rfl (.inr (.inl rfl)))) rfl X_.g_list boot_list (by decide))) ?_ ?_) ?_
  · refine sss_cons (ss_ret (se_frz (sf_comp (own := [("_law_one", 1)]) rfl nd (si_seq (se_var (i := 0) rfl (.inr (.inl rfl)))) ⟨rfl, blkOk_by (by kernel_rfl), fun _ _ _ _ _ => (sg_name (i := 1) nd rfl (.inl rfl)), fun _ _ _ _ _ => sts_nil, fun _ _ _ _ _ => (se_call ih.h__law_copy hr rfl X_.g__law_copy X_.k__law_copy X_.b__law_copy_1 (fun _ => .nil) takes_none5 (sa_cons (se_var (i := 1) rfl (.inl rfl)) sa_nil) rfl)⟩))) ?_
    exact sss_nil
  · exact sss_nil
  refine sss_cons (ss_ite (st_val (se_isi rfl X_.g_isinstance boot_isinstance (se_p (se_var (i := 0) rfl (.inr (.inl rfl)))) rfl X_.g_tuple boot_tuple (by decide))) ?_ ?_) ?_
  · refine sss_cons (ss_ret (se_bty cb_tuple rfl X_.g_tuple boot_tuple (se_p (se_frz (sf_comp (own := [("_law_one", 1)]) rfl nd (si_seq (se_var (i := 0) rfl (.inr (.inl rfl)))) ⟨rfl, blkOk_by (by kernel_rfl), fun _ _ _ _ _ => (sg_name (i := 1) nd rfl (.inl rfl)), fun _ _ _ _ _ => sts_nil, fun _ _ _ _ _ => (se_call ih.h__law_copy hr rfl X_.g__law_copy X_.k__law_copy X_.b__law_copy_1 (fun _ => .nil) takes_none5 (sa_cons (se_var (i := 1) rfl (.inl rfl)) sa_nil) rfl)⟩))))) ?_
    exact sss_nil
  · exact sss_nil
  refine sss_cons (ss_ite (st_val (se_isi rfl X_.g_isinstance boot_isinstance (se_p (se_var (i := 0) rfl (.inr (.inl rfl)))) rfl X_.g_dict boot_dict (by decide))) ?_ ?_) ?_
  · refine sss_cons (ss_ret (se_frz (sf_dictOf rfl rfl X_.g_dict boot_dict (se_p (se_frz (sf_compK (own := [("_law_name_here", 2)]) (i := 0) rfl nd rfl (.inr (.inl rfl)) ⟨rfl, blkOk_by (by kernel_rfl), fun _ _ _ _ _ => (sg_name (i := 2) nd rfl (.inl rfl)), fun _ _ _ _ _ => sts_nil, fun _ _ _ _ _ => (se_tup (sa_cons (se_var (i := 2) rfl (.inl rfl)) (sa_cons (se_call ih.h__law_copy hr rfl X_.g__law_copy X_.k__law_copy X_.b__law_copy_1 (fun _ => .nil) takes_none5 (sa_cons (se_idx hu1 (se_p (se_var (i := 0) rfl (.inr (.inl rfl)))) (se_var (i := 2) rfl (.inl rfl)) (by first | exact fun _ _ => rfl | intro _ _; rfl)) sa_nil) rfl) sa_nil)))⟩)))))) ?_
    exact sss_nil
  · exact sss_nil
  refine sss_cons (ss_ret (se_var (i := 0) rfl (.inr (.inl rfl)))) ?_
  exact sss_nil
theorem w__law_name (X_ : Fx K mg fdv) {k : Nat} (ih : All P w K mg base fdv k) : FnOk P w K mg base (L2.CX P w) (k + 5) (He.ga K "_law_name") (fdv 17) ["_law_draw"] (spF K (caT K) G (k + 1) "_law_name") := by
  have nd : (["_law_draw"] : List Str).Nodup := by decide +kernel
  refine def_ok (N := ["_law_draw"]) (d := D__law_name) X_.F__law_name ⟨rfl, rfl, rfl, nd, rfl, by decide +kernel, by decide +kernel⟩ rfl rfl rfl (by decide) ?_
  intro cdv A outer s H E hr
  have hu1 := ulim1 hr
  have hu64 := ulim64 hr
  have tk := takes_of (X := cxOf (L2.CX P w) P w K mg base ["_law_draw"] "_law_name" (defScope (top 31)) (He.ga K "_law_name") cdv A outer s H E) (E := E) rfl rfl rfl rfl
  have hp := passes_of (X := cxOf (L2.CX P w) P w K mg base ["_law_draw"] "_law_name" (defScope (top 31)) (He.ga K "_law_name") cdv A outer s H E) rfl
  refine sss_cons (ss_ite (st_cmp (op_eqD' hu64) (se_p (se_call ih.h__law_pull hr rfl X_.g__law_pull X_.k__law_pull X_.b__law_pull_2 (fun _ => .nil) tk (sa_cons (se_var (i := 0) rfl (.inl rfl)) (sa_cons se_int sa_nil)) rfl)) (se_p se_int) (L2.nomark _)) ?_ ?_) ?_
  · refine sss_cons (ss_ret (se_mul (se_idx hu1 (se_p (se_str (by decide +kernel))) (se_call ih.h__law_pull hr rfl X_.g__law_pull X_.k__law_pull X_.b__law_pull_2 (fun _ => .nil) tk (sa_cons (se_var (i := 0) rfl (.inl rfl)) (sa_cons se_int sa_nil)) rfl) (by first | exact fun _ _ => rfl | intro _ _; rfl)) (se_add se_int (se_call ih.h__law_pull hr rfl X_.g__law_pull X_.k__law_pull X_.b__law_pull_2 (fun _ => .nil) tk (sa_cons (se_var (i := 0) rfl (.inl rfl)) (sa_cons se_int sa_nil)) rfl)))) ?_
    exact sss_nil
  · exact sss_nil
  refine sss_cons (ss_ret (se_idx hu1 (se_p (se_frz (sf_lst (sa_cons (se_str (by decide +kernel)) (sa_cons (se_str (by decide +kernel)) (sa_cons (se_str (by decide +kernel)) (sa_cons (se_str (by decide +kernel)) (sa_cons (se_str (by decide +kernel)) (sa_cons (se_str (by decide +kernel)) sa_nil))))))))) (se_call ih.h__law_pull hr rfl X_.g__law_pull X_.k__law_pull X_.b__law_pull_2 (fun _ => .nil) tk (sa_cons (se_var (i := 0) rfl (.inl rfl)) (sa_cons se_int sa_nil)) rfl) (by first | exact fun _ _ => rfl | intro _ _; rfl))) ?_
  exact sss_nil
theorem w__law_plain (X_ : Fx K mg fdv) {k : Nat} (ih : All P w K mg base fdv k) : FnOk P w K mg base (L2.CX P w) (k + 5) (He.ga K "_law_plain") (fdv 18) ["_law_draw"] (spF K (caT K) G (k + 1) "_law_plain") := by
  have nd : (["_law_draw", "_law_fork", "_law_some", "_law_stem"] : List Str).Nodup := by decide +kernel
  refine def_ok (N := ["_law_draw", "_law_fork", "_law_some", "_law_stem"]) (d := D__law_plain) X_.F__law_plain ⟨rfl, rfl, rfl, nd, rfl, by decide +kernel, by decide +kernel⟩ rfl rfl rfl (by decide) ?_
  intro cdv A outer s H E hr
  have hu1 := ulim1 hr
  have hu64 := ulim64 hr
  have tk := takes_of (X := cxOf (L2.CX P w) P w K mg base ["_law_draw", "_law_fork", "_law_some", "_law_stem"] "_law_plain" (defScope (top 32)) (He.ga K "_law_plain") cdv A outer s H E) (E := E) rfl rfl rfl rfl
  have hp := passes_of (X := cxOf (L2.CX P w) P w K mg base ["_law_draw", "_law_fork", "_law_some", "_law_stem"] "_law_plain" (defScope (top 32)) (He.ga K "_law_plain") cdv A outer s H E) rfl
  refine sss_cons (ss_set (i := 1) nd rfl (.inl rfl) (se_call ih.h__law_pull hr rfl X_.g__law_pull X_.k__law_pull X_.b__law_pull_2 (fun _ => .nil) tk (sa_cons (se_var (i := 0) rfl (.inl rfl)) (sa_cons se_int sa_nil)) rfl)) ?_
  refine sss_cons (ss_ite (st_cmp op_ltD (se_p (se_var (i := 1) rfl (.inl rfl))) (se_p se_int) (L2.nomark _)) ?_ ?_) ?_
  · refine sss_cons (ss_ret (se_ite (st_cmp (op_eqD' hu64) (se_p (se_var (i := 1) rfl (.inl rfl))) (se_p se_int) (L2.nomark _)) se_non (se_sub (se_call ih.h__law_pull hr rfl X_.g__law_pull X_.k__law_pull X_.b__law_pull_2 (fun _ => .nil) tk (sa_cons (se_var (i := 0) rfl (.inl rfl)) (sa_cons se_int sa_nil)) rfl) se_int))) ?_
    exact sss_nil
  · exact sss_nil
  refine sss_cons (ss_set (i := 2) nd rfl (.inl rfl) (se_frz (sf_lst (sa_cons (se_str (by decide +kernel)) (sa_cons (se_str (by decide +kernel)) (sa_cons (se_str (by decide +kernel)) (sa_cons (se_str (by decide +kernel)) (sa_cons (se_str (by decide +kernel)) (sa_cons (se_str (by decide +kernel)) (sa_cons (se_str (by decide +kernel)) (sa_cons (se_str (by decide +kernel)) sa_nil))))))))))) ?_
  refine sss_cons (ss_ite (st_cmp (op_eqD' hu64) (se_p (se_var (i := 1) rfl (.inl rfl))) (se_p se_int) (L2.nomark _)) ?_ ?_) ?_
  · refine sss_cons (ss_set (i := 2) nd rfl (.inl rfl) (se_frz (sf_lst (sa_cons (se_sub (se_pow se_int se_int) se_int) (sa_cons (se_sub se_int (se_pow se_int se_int)) (sa_cons se_int (sa_cons (se_neg se_int) (sa_cons (se_call ih.h__law_pull hr rfl X_.g__law_pull X_.k__law_pull X_.b__law_pull_2 (fun _ => .nil) tk (sa_cons (se_var (i := 0) rfl (.inl rfl)) (sa_cons (se_pow se_int se_int) sa_nil)) rfl) sa_nil)))))))) ?_
    exact sss_nil
  · exact sss_nil
  refine sss_cons (ss_ite (st_cmp (op_eqD' hu64) (se_p (se_var (i := 1) rfl (.inl rfl))) (se_p se_int) (L2.nomark _)) ?_ ?_) ?_
  · refine sss_cons (ss_set (i := 3) nd rfl (.inl rfl) (se_call ih.h__law_any hr rfl X_.g__law_any X_.k__law_any X_.b__law_any_2 (fun _ => .nil) tk (sa_cons (se_var (i := 0) rfl (.inl rfl)) (sa_cons (se_frz (sf_lst (sa_cons (se_str (by decide +kernel)) (sa_cons (se_str (by decide +kernel)) (sa_cons (se_str (by decide +kernel)) (sa_cons (se_str (by decide +kernel)) sa_nil)))))) sa_nil)) rfl)) ?_
    refine sss_cons (ss_set (i := 2) nd rfl (.inl rfl) (se_frz (sf_lst (sa_cons (se_slc (se_add (se_add (se_slc (se_var (i := 3) rfl (.inl rfl)) so_none (so_some (se_call ih.h__law_pull hr rfl X_.g__law_pull X_.k__law_pull X_.b__law_pull_2 (fun _ => .nil) tk (sa_cons (se_var (i := 0) rfl (.inl rfl)) (sa_cons se_int sa_nil)) rfl))) (se_idx hu1 (se_p (se_str (by decide +kernel))) (se_call ih.h__law_pull hr rfl X_.g__law_pull X_.k__law_pull X_.b__law_pull_2 (fun _ => .nil) tk (sa_cons (se_var (i := 0) rfl (.inl rfl)) (sa_cons se_int sa_nil)) rfl) (by first | exact fun _ _ => rfl | intro _ _; rfl))) (se_var (i := 3) rfl (.inl rfl))) so_none (so_some se_int)) sa_nil)))) ?_
    exact sss_nil
  · exact sss_nil
  refine sss_cons (ss_ret (se_call ih.h__law_any hr rfl X_.g__law_any X_.k__law_any X_.b__law_any_2 (fun _ => .nil) tk (sa_cons (se_var (i := 0) rfl (.inl rfl)) (sa_cons (se_var (i := 2) rfl (.inl rfl)) sa_nil)) rfl)) ?_
  exact sss_nil
theorem w__law_value (X_ : Fx K mg fdv) {k : Nat} (ih : All P w K mg base fdv k) : FnOk P w K mg base (L2.CX P w) (k + 5) (He.ga K "_law_value") (fdv 19) ["_law_draw", "_law_bot"] (spF K (caT K) G (k + 1) "_law_value") := by
  have nd : (["_law_draw", "_law_bot", "_law_fork", "_law_k"] : List Str).Nodup := by decide +kernel
  refine def_ok (N := ["_law_draw", "_law_bot", "_law_fork", "_law_k"]) (d := D__law_value) X_.F__law_value ⟨rfl, rfl, rfl, nd, rfl, by decide +kernel, by decide +kernel⟩ rfl rfl rfl (by decide) ?_
  intro cdv A outer s H E hr
  have hu1 := ulim1 hr
  have hu64 := ulim64 hr
  have tk := takes_of (X := cxOf (L2.CX P w) P w K mg base ["_law_draw", "_law_bot", "_law_fork", "_law_k"] "_law_value" (defScope (top 33)) (He.ga K "_law_value") cdv A outer s H E) (E := E) rfl rfl rfl rfl
  have hp := passes_of (X := cxOf (L2.CX P w) P w K mg base ["_law_draw", "_law_bot", "_law_fork", "_law_k"] "_law_value" (defScope (top 33)) (He.ga K "_law_value") cdv A outer s H E) rfl
  refine sss_cons (ss_set (i := 2) nd rfl (.inl rfl) (se_call ih.h__law_pull hr rfl X_.g__law_pull X_.k__law_pull X_.b__law_pull_2 (fun _ => .nil) tk (sa_cons (se_var (i := 0) rfl (.inr (.inl rfl))) (sa_cons se_int sa_nil)) rfl)) ?_
  refine sss_cons (ss_ite (PW.pt (sw_or (st_cmp (op_eqD' hu64) (se_p (se_var (i := 1) rfl (.inr (.inl rfl)))) (se_p se_int) (L2.nomark _)) (sw_or1 (st_cmp op_ltD (se_p (se_var (i := 2) rfl (.inl rfl))) (se_p se_int) (L2.nomark _))))) ?_ ?_) ?_
  · refine sss_cons (ss_ret (se_call ih.h__law_plain hr rfl X_.g__law_plain X_.k__law_plain X_.b__law_plain_1 (fun _ => .nil) tk (sa_cons (se_var (i := 0) rfl (.inr (.inl rfl))) sa_nil) rfl)) ?_
    exact sss_nil
  · exact sss_nil
  refine sss_cons (ss_ite (st_cmp (op_eqD' hu64) (se_p (se_var (i := 2) rfl (.inl rfl))) (se_p se_int) (L2.nomark _)) ?_ ?_) ?_
  · refine sss_cons (ss_ret (se_call ih.h__law_record hr rfl X_.g__law_record X_.k__law_record X_.b__law_record_3 (fun _ => .nil) tk (sa_cons (se_var (i := 0) rfl (.inr (.inl rfl))) (sa_cons (se_sub (se_var (i := 1) rfl (.inr (.inl rfl))) se_int) (sa_cons se_int sa_nil))) rfl)) ?_
    exact sss_nil
  · exact sss_nil
  refine sss_cons (ss_ret (se_frz (sf_comp (own := [("_law_k", 3)]) rfl nd (si_rng1 rfl rfl X_.g_range (se_call ih.h__law_pull hr rfl X_.g__law_pull X_.k__law_pull X_.b__law_pull_2 (fun _ => .nil) tk (sa_cons (se_var (i := 0) rfl (.inr (.inl rfl))) (sa_cons se_int sa_nil)) rfl)) ⟨rfl, blkOk_by (by kernel_rfl), fun _ _ _ _ _ => (sg_name (i := 3) nd rfl (.inl rfl)), fun _ _ _ _ _ => sts_nil, fun _ _ _ _ _ => (se_call ih.h__law_value hr rfl X_.g__law_value X_.k__law_value X_.b__law_value_2 (fun _ => .nil) takes_none5 (sa_cons (se_var (i := 0) rfl (.inr (.inl rfl))) (sa_cons (se_sub (se_var (i := 1) rfl (.inr (.inl rfl))) se_int) sa_nil)) rfl)⟩))) ?_
  exact sss_nil
theorem w__law_record (X_ : Fx K mg fdv) {k : Nat} (ih : All P w K mg base fdv k) : FnOk P w K mg base (L2.CX P w) (k + 5) (He.ga K "_law_record") (fdv 20) ["_law_draw", "_law_bot", "_law_wide"] (spF K (caT K) G (k + 1) "_law_record") := by
  have nd : (["_law_draw", "_law_bot", "_law_wide", "_law_found", "_law_k"] : List Str).Nodup := by decide +kernel
  refine def_ok (N := ["_law_draw", "_law_bot", "_law_wide", "_law_found", "_law_k"]) (d := D__law_record) X_.F__law_record ⟨rfl, rfl, rfl, nd, rfl, by decide +kernel, by decide +kernel⟩ rfl rfl rfl (by decide) ?_
  intro cdv A outer s H E hr
  have hu1 := ulim1 hr
  have hu64 := ulim64 hr
  have tk := takes_of (X := cxOf (L2.CX P w) P w K mg base ["_law_draw", "_law_bot", "_law_wide", "_law_found", "_law_k"] "_law_record" (defScope (top 34)) (He.ga K "_law_record") cdv A outer s H E) (E := E) rfl rfl rfl rfl
  have hp := passes_of (X := cxOf (L2.CX P w) P w K mg base ["_law_draw", "_law_bot", "_law_wide", "_law_found", "_law_k"] "_law_record" (defScope (top 34)) (He.ga K "_law_record") cdv A outer s H E) rfl
  refine sss_cons (ss_own (i := 3) nd rfl (.inl rfl) sf_dic) ?_
  refine sss_cons (ss_for hp rfl (si_rng1 rfl rfl X_.g_range (se_call ih.h__law_pull hr rfl X_.g__law_pull X_.k__law_pull X_.b__law_pull_2 (fun _ => .nil) tk (sa_cons (se_var (i := 0) rfl (.inl rfl)) (sa_cons (se_add (se_var (i := 2) rfl (.inl rfl)) se_int) sa_nil)) rfl)) (sg_name (i := 4) nd rfl (.inl rfl)) ?_) ?_
  · refine sss_cons (ss_setit (i := 3) hu1 .own rfl (.inl rfl) (se_call ih.h__law_name hr rfl X_.g__law_name X_.k__law_name X_.b__law_name_1 (fun _ => .nil) tk (sa_cons (se_var (i := 0) rfl (.inl rfl)) sa_nil) rfl) (se_call ih.h__law_value hr rfl X_.g__law_value X_.k__law_value X_.b__law_value_2 (fun _ => .nil) tk (sa_cons (se_var (i := 0) rfl (.inl rfl)) (sa_cons (se_var (i := 1) rfl (.inl rfl)) sa_nil)) rfl)) ?_
    exact sss_nil
  refine sss_frz (i := 3) ?_
  refine sss_cons (ss_ret (se_var (i := 3) rfl (.inl rfl))) ?_
  exact sss_nil
theorem w__law_path_ok (X_ : Fx K mg fdv) {k : Nat} (ih : All P w K mg base fdv k) : FnOk P w K mg base (L2.CX P w) (k + 5) (He.ga K "_law_path_ok") (fdv 21) ["_law_path", "_law_bot", "_law_tip"] (spF K (caT K) G (k + 1) "_law_path_ok") := by
  have nd : (["_law_path", "_law_bot", "_law_tip", "_law_name_here", "_law_sign"] : List Str).Nodup := by decide +kernel
  refine def_ok (N := ["_law_path", "_law_bot", "_law_tip", "_law_name_here", "_law_sign"]) (d := D__law_path_ok) X_.F__law_path_ok ⟨rfl, rfl, rfl, nd, rfl, by decide +kernel, by decide +kernel⟩ rfl rfl rfl (by decide) ?_
  intro cdv A outer s H E hr
  have hu1 := ulim1 hr
  have hu64 := ulim64 hr
  have tk := takes_of (X := cxOf (L2.CX P w) P w K mg base ["_law_path", "_law_bot", "_law_tip", "_law_name_here", "_law_sign"] "_law_path_ok" (defScope (top 35)) (He.ga K "_law_path_ok") cdv A outer s H E) (E := E) rfl rfl rfl rfl
  have hp := passes_of (X := cxOf (L2.CX P w) P w K mg base ["_law_path", "_law_bot", "_law_tip", "_law_name_here", "_law_sign"] "_law_path_ok" (defScope (top 35)) (He.ga K "_law_path_ok") cdv A outer s H E) rfl
  refine sss_cons (ss_ite (st_not (st_chain op_leD op_leD (se_p (se_var (i := 1) rfl (.inl rfl))) (se_p (se_blt cb_len rfl X_.g_len boot_len (se_p (se_var (i := 0) rfl (.inl rfl))))) (se_p (se_var (i := 2) rfl (.inl rfl))))) ?_ ?_) ?_
  · refine sss_cons (ss_ret se_bl) ?_
    exact sss_nil
  · exact sss_nil
  refine sss_cons (ss_ret (se_blt (cb_all rfl) rfl X_.g_all boot_all (se_p (se_frz (sf_comp (own := [("_law_name_here", 3)]) rfl nd (si_seq (se_var (i := 0) rfl (.inl rfl))) ⟨rfl, blkOk_by (by kernel_rfl), fun _ _ _ _ _ => (sg_name (i := 3) nd rfl (.inl rfl)), fun _ _ _ _ _ => sts_nil, fun _ _ _ _ _ => (se_and (se_chain op_leD op_leD (se_p se_int) (se_p (se_blt cb_len rfl X_.g_len boot_len (se_p (se_var (i := 3) rfl (.inl rfl))))) (se_p se_int)) (se_one (se_blt (cb_all rfl) rfl X_.g_all boot_all (se_p (se_frz (sf_comp (own := [("_law_sign", 4)]) rfl nd (si_chars (se_var (i := 3) rfl (.inl rfl))) ⟨rfl, blkOk_by (by kernel_rfl), fun _ _ _ _ _ => (sg_name (i := 4) nd rfl (.inl rfl)), fun _ _ _ _ _ => sts_nil, fun _ _ _ _ _ => (se_chain op_leD op_leD (se_p (se_str (by decide +kernel))) (se_p (se_var (i := 4) rfl (.inl rfl))) (se_p (se_str (by decide +kernel))))⟩))))))⟩))))) ?_
  exact sss_nil
theorem w__law_text_ok (X_ : Fx K mg fdv) {k : Nat} (ih : All P w K mg base fdv k) : FnOk P w K mg base (L2.CX P w) (k + 5) (He.ga K "_law_text_ok") (fdv 22) ["_law_value_here"] (spF K (caT K) G (k + 1) "_law_text_ok") := by
  have nd : (["_law_value_here", "_law_sign"] : List Str).Nodup := by decide +kernel
  refine def_ok (N := ["_law_value_here", "_law_sign"]) (d := D__law_text_ok) X_.F__law_text_ok ⟨rfl, rfl, rfl, nd, rfl, by decide +kernel, by decide +kernel⟩ rfl rfl rfl (by decide) ?_
  intro cdv A outer s H E hr
  have hu1 := ulim1 hr
  have hu64 := ulim64 hr
  have tk := takes_of (X := cxOf (L2.CX P w) P w K mg base ["_law_value_here", "_law_sign"] "_law_text_ok" (defScope (top 36)) (He.ga K "_law_text_ok") cdv A outer s H E) (E := E) rfl rfl rfl rfl
  have hp := passes_of (X := cxOf (L2.CX P w) P w K mg base ["_law_value_here", "_law_sign"] "_law_text_ok" (defScope (top 36)) (He.ga K "_law_text_ok") cdv A outer s H E) rfl
  refine sss_cons (ss_ret (se_and (se_cmp op_leD (se_p (se_blt cb_len rfl X_.g_len boot_len (se_p (se_var (i := 0) rfl (.inl rfl))))) (se_p se_int) (L2.nomark _)) (se_one (se_blt (cb_all rfl) rfl X_.g_all boot_all (se_p (se_frz (sf_comp (own := [("_law_sign", 1)]) rfl nd (si_chars (se_var (i := 0) rfl (.inl rfl))) ⟨rfl, blkOk_by (by kernel_rfl), fun _ _ _ _ _ => (sg_name (i := 1) nd rfl (.inl rfl)), fun _ _ _ _ _ => sts_nil, fun _ _ _ _ _ => (se_cmp (op_inD hu1) (se_p (se_var (i := 1) rfl (.inl rfl))) (se_p (se_str (by decide +kernel))) (by with_unfolding_all rfl))⟩))))))) ?_
  exact sss_nil
theorem w__law_value_ok (X_ : Fx K mg fdv) {k : Nat} (ih : All P w K mg base fdv k) : FnOk P w K mg base (L2.CX P w) (k + 5) (He.ga K "_law_value_ok") (fdv 23) ["_law_value_here"] (spF K (caT K) G (k + 1) "_law_value_ok") := by
  have nd : (["_law_value_here", "_law_one", "_law_name_here"] : List Str).Nodup := by decide +kernel
  refine def_ok (N := ["_law_value_here", "_law_one", "_law_name_here"]) (d := D__law_value_ok) X_.F__law_value_ok ⟨rfl, rfl, rfl, nd, rfl, by decide +kernel, by decide +kernel⟩ rfl rfl rfl (by decide) ?_
  intro cdv A outer s H E hr
  have hu1 := ulim1 hr
  have hu64 := ulim64 hr
  have tk := takes_of (X := cxOf (L2.CX P w) P w K mg base ["_law_value_here", "_law_one", "_law_name_here"] "_law_value_ok" (defScope (top 37)) (He.ga K "_law_value_ok") cdv A outer s H E) (E := E) rfl rfl rfl rfl
  have hp := passes_of (X := cxOf (L2.CX P w) P w K mg base ["_law_value_here", "_law_one", "_law_name_here"] "_law_value_ok" (defScope (top 37)) (He.ga K "_law_value_ok") cdv A outer s H E) rfl
  refine sss_cons (ss_ite (st_val (se_isi rfl X_.g_isinstance boot_isinstance (se_p (se_var (i := 0) rfl (.inr (.inl rfl)))) rfl X_.g_list boot_list (by decide))) ?_ ?_) ?_
  · refine sss_cons (ss_ret (se_blt (cb_all rfl) rfl X_.g_all boot_all (se_p (se_frz (sf_comp (own := [("_law_one", 1)]) rfl nd (si_seq (se_var (i := 0) rfl (.inr (.inl rfl)))) ⟨rfl, blkOk_by (by kernel_rfl), fun _ _ _ _ _ => (sg_name (i := 1) nd rfl (.inl rfl)), fun _ _ _ _ _ => sts_nil, fun _ _ _ _ _ => (se_call ih.h__law_value_ok hr rfl X_.g__law_value_ok X_.k__law_value_ok X_.b__law_value_ok_1 (fun _ => .nil) takes_none5 (sa_cons (se_var (i := 1) rfl (.inl rfl)) sa_nil) rfl)⟩))))) ?_
    exact sss_nil
  · exact sss_nil
  refine sss_cons (ss_ite (st_val (se_isi rfl X_.g_isinstance boot_isinstance (se_p (se_var (i := 0) rfl (.inr (.inl rfl)))) rfl X_.g_dict boot_dict (by decide))) ?_ ?_) ?_
  · refine sss_cons (ss_ret (se_blt (cb_all rfl) rfl X_.g_all boot_all (se_p (se_frz (sf_compK (own := [("_law_name_here", 2)]) (i := 0) rfl nd rfl (.inr (.inl rfl)) ⟨rfl, blkOk_by (by kernel_rfl), fun _ _ _ _ _ => (sg_name (i := 2) nd rfl (.inl rfl)), fun _ _ _ _ _ => sts_nil, fun _ _ _ _ _ => (se_and (se_call ih.h__law_path_ok hr rfl X_.g__law_path_ok X_.k__law_path_ok X_.b__law_path_ok_3 (fun _ => .nil) takes_none5 (sa_cons (se_tup (sa_cons (se_var (i := 2) rfl (.inl rfl)) sa_nil)) (sa_cons se_int (sa_cons se_int sa_nil))) rfl) (se_one (se_call ih.h__law_value_ok hr rfl X_.g__law_value_ok X_.k__law_value_ok X_.b__law_value_ok_1 (fun _ => .nil) takes_none5 (sa_cons (se_idx hu1 (se_p (se_var (i := 0) rfl (.inr (.inl rfl)))) (se_var (i := 2) rfl (.inl rfl)) (by first | exact fun _ _ => rfl | intro _ _; rfl)) sa_nil) rfl)))⟩))))) ?_
    exact sss_nil
  · exact sss_nil
  refine sss_cons (ss_ret (se_ite (st_val (se_isi rfl X_.g_isinstance boot_isinstance (se_p (se_var (i := 0) rfl (.inr (.inl rfl)))) rfl X_.g_str boot_str (by decide))) (se_call ih.h__law_text_ok hr rfl X_.g__law_text_ok X_.k__law_text_ok X_.b__law_text_ok_1 (fun _ => .nil) tk (sa_cons (se_var (i := 0) rfl (.inr (.inl rfl))) sa_nil) rfl) se_bl)) ?_
  exact sss_nil
theorem w__law_text (X_ : Fx K mg fdv) {k : Nat} (ih : All P w K mg base fdv k) : FnOk P w K mg base (L2.CX P w) (k + 5) (He.ga K "_law_text") (fdv 24) ["_law_value_here"] (spF K (caT K) G (k + 1) "_law_text") := by
  have nd : (["_law_value_here", "_law_one", "_law_name_here"] : List Str).Nodup := by decide +kernel
  refine def_ok (N := ["_law_value_here", "_law_one", "_law_name_here"]) (d := D__law_text) X_.F__law_text ⟨rfl, rfl, rfl, nd, rfl, by decide +kernel, by decide +kernel⟩ rfl rfl rfl (by decide) ?_
  intro cdv A outer s H E hr
  have hu1 := ulim1 hr
  have hu64 := ulim64 hr
  have tk := takes_of (X := cxOf (L2.CX P w) P w K mg base ["_law_value_here", "_law_one", "_law_name_here"] "_law_text" (defScope (top 38)) (He.ga K "_law_text") cdv A outer s H E) (E := E) rfl rfl rfl rfl
  have hp := passes_of (X := cxOf (L2.CX P w) P w K mg base ["_law_value_here", "_law_one", "_law_name_here"] "_law_text" (defScope (top 38)) (He.ga K "_law_text") cdv A outer s H E) rfl
  refine sss_cons (ss_ite (st_cmp op_isD (se_p (se_var (i := 0) rfl (.inr (.inl rfl)))) (se_p se_non) (L2.nomark _)) ?_ ?_) ?_
  · refine sss_cons (ss_ret (se_str (by decide +kernel))) ?_
    exact sss_nil
  · exact sss_nil
  refine sss_cons (ss_ite (st_val (se_isi rfl X_.g_isinstance boot_isinstance (se_p (se_var (i := 0) rfl (.inr (.inl rfl)))) rfl X_.g_str boot_str (by decide))) ?_ ?_) ?_
  · refine sss_cons (ss_ret (se_add (se_add (se_str (by decide +kernel)) (se_var (i := 0) rfl (.inr (.inl rfl)))) (se_str (by decide +kernel)))) ?_
    exact sss_nil
  · exact sss_nil
  refine sss_cons (ss_ite (st_val (se_isi rfl X_.g_isinstance boot_isinstance (se_p (se_var (i := 0) rfl (.inr (.inl rfl)))) rfl X_.g_list boot_list (by decide))) ?_ ?_) ?_
  · refine sss_cons (ss_ret (se_add (se_add (se_str (by decide +kernel)) (se_mth PySem.F.slot_str_join PySem.F.type_str_join mb_join (se_str (by decide +kernel)) (se_p (se_frz (sf_comp (own := [("_law_one", 1)]) rfl nd (si_seq (se_var (i := 0) rfl (.inr (.inl rfl)))) ⟨rfl, blkOk_by (by kernel_rfl), fun _ _ _ _ _ => (sg_name (i := 1) nd rfl (.inl rfl)), fun _ _ _ _ _ => sts_nil, fun _ _ _ _ _ => (se_call ih.h__law_text hr rfl X_.g__law_text X_.k__law_text X_.b__law_text_1 (fun _ => .nil) takes_none5 (sa_cons (se_var (i := 1) rfl (.inl rfl)) sa_nil) rfl)⟩))))) (se_str (by decide +kernel)))) ?_
    exact sss_nil
  · exact sss_nil
  refine sss_cons (ss_ite (st_val (se_isi rfl X_.g_isinstance boot_isinstance (se_p (se_var (i := 0) rfl (.inr (.inl rfl)))) rfl X_.g_dict boot_dict (by decide))) ?_ ?_) ?_
  · refine sss_cons (ss_ret (se_add (se_add (se_str (by decide +kernel)) (se_mth PySem.F.slot_str_join PySem.F.type_str_join mb_join (se_str (by decide +kernel)) (se_p (se_frz (sf_comp (own := [("_law_name_here", 2)]) rfl nd (si_seq (se_frz (sf_sorted rfl rfl X_.g_sorted boot_sorted (se_p (se_var (i := 0) rfl (.inr (.inl rfl))))))) ⟨rfl, blkOk_by (by kernel_rfl), fun _ _ _ _ _ => (sg_name (i := 2) nd rfl (.inl rfl)), fun _ _ _ _ _ => sts_nil, fun _ _ _ _ _ => (se_add (se_add (se_var (i := 2) rfl (.inl rfl)) (se_str (by decide +kernel))) (se_call ih.h__law_text hr rfl X_.g__law_text X_.k__law_text X_.b__law_text_1 (fun _ => .nil) takes_none5 (sa_cons (se_idx hu1 (se_p (se_var (i := 0) rfl (.inr (.inl rfl)))) (se_var (i := 2) rfl (.inl rfl)) (by first | exact fun _ _ => rfl | intro _ _; rfl)) sa_nil) rfl))⟩))))) (se_str (by decide +kernel)))) ?_
    exact sss_nil
  · exact sss_nil
  refine sss_cons (ss_ret (se_bty cb_str rfl X_.g_str boot_str (se_p (se_var (i := 0) rfl (.inr (.inl rfl)))))) ?_
  exact sss_nil
theorem w__law_row_of (X_ : Fx K mg fdv) {k : Nat} (ih : All P w K mg base fdv k) : FnOk P w K mg base (L2.CX P w) (k + 5) (He.ga K "_law_row_of") (fdv 25) ["_law_text_here"] (spF K (caT K) G (k + 1) "_law_row_of") := by
  have nd : (["_law_text_here", "_law_told", "_law_row", "e"] : List Str).Nodup := by decide +kernel
  refine def_ok (N := ["_law_text_here", "_law_told", "_law_row", "e"]) (d := D__law_row_of) X_.F__law_row_of ⟨rfl, rfl, rfl, nd, rfl, by decide +kernel, by decide +kernel⟩ rfl rfl rfl (by decide) ?_
  intro cdv A outer s H E hr
  have hu1 := ulim1 hr
  have hu64 := ulim64 hr
  have tk := takes_of (X := cxOf (L2.CX P w) P w K mg base ["_law_text_here", "_law_told", "_law_row", "e"] "_law_row_of" (defScope (top 39)) (He.ga K "_law_row_of") cdv A outer s H E) (E := E) rfl rfl rfl rfl
  have hp := passes_of (X := cxOf (L2.CX P w) P w K mg base ["_law_text_here", "_law_told", "_law_row", "e"] "_law_row_of" (defScope (top 39)) (He.ga K "_law_row_of") cdv A outer s H E) rfl
  refine sss_cons (ss_set (i := 1) nd rfl (.inl rfl) se_non) ?_
  refine sss_cons (ss_set (i := 2) nd rfl (.inl rfl) se_non) ?_
  refine sss_cons (ss_tryF (i := 3) (j := 2) (C := .ref (He.ga K "BadText")) rfl rfl nd rfl rfl rfl (.inl rfl) (.inl rfl) ⟨rfl, by decide +kernel, .inl X_.g_BadText⟩ tk (by decide) (sub_BadText X_) (by decide +kernel) (cls_BadText_row X_) ?_) ?_
  · intro W2 pn2 xe2 tk2 hp2
    refine sss_cons (ss_set (i := 1) nd rfl (.inl rfl) (se_call ih.h_read_value hr rfl X_.g_read_value X_.k_read_value X_.b_read_value_1 (fun _ => .nil) tk2 (sa_cons (se_var (i := 0) rfl (.inl rfl)) sa_nil) rfl)) ?_
    exact sss_nil
  refine sss_cons (ss_ret (se_tup (sa_cons (se_var (i := 1) rfl (.inl rfl)) (sa_cons (se_var (i := 2) rfl (.inl rfl)) sa_nil)))) ?_
  exact sss_nil
theorem w_law (X_ : Fx K mg fdv) {k : Nat} (ih : All P w K mg base fdv k) : FnOk P w K mg base (L2.CX P w) (k + 5) (He.ga K "law") (fdv 26) ["_law_script"] (spF K (caT K) G (k + 1) "law") := by
  have nd : (["_law_script", "_law_draw", "_law_turn", "_law_odd", "_law_deep_now", "_law_value_here", "_law_handed", "_law_text_here", "_law_bend", "_law_at", "_law_sign", "_law_told", "_law_row"] : List Str).Nodup := by decide +kernel
  refine def_ok (N := ["_law_script", "_law_draw", "_law_turn", "_law_odd", "_law_deep_now", "_law_value_here", "_law_handed", "_law_text_here", "_law_bend", "_law_at", "_law_sign", "_law_told", "_law_row"]) (d := D_law) X_.F_law ⟨rfl, rfl, rfl, nd, rfl, by decide +kernel, by decide +kernel⟩ rfl rfl rfl (by decide) ?_
  intro cdv A outer s H E hr
  have hu1 := ulim1 hr
  have hu64 := ulim64 hr
  have tk := takes_of (X := cxOf (L2.CX P w) P w K mg base ["_law_script", "_law_draw", "_law_turn", "_law_odd", "_law_deep_now", "_law_value_here", "_law_handed", "_law_text_here", "_law_bend", "_law_at", "_law_sign", "_law_told", "_law_row"] "law" (defScope (top 40)) (He.ga K "law") cdv A outer s H E) (E := E) rfl rfl rfl rfl
  have hp := passes_of (X := cxOf (L2.CX P w) P w K mg base ["_law_script", "_law_draw", "_law_turn", "_law_odd", "_law_deep_now", "_law_value_here", "_law_handed", "_law_text_here", "_law_bend", "_law_at", "_law_sign", "_law_told", "_law_row"] "law" (defScope (top 40)) (He.ga K "law") cdv A outer s H E) rfl
  refine sss_cons (ss_set (i := 1) nd rfl (.inl rfl) (se_call ih.h__law_open hr rfl X_.g__law_open X_.k__law_open X_.b__law_open_1 (fun _ => .nil) tk (sa_cons (se_var (i := 0) rfl (.inl rfl)) sa_nil) rfl)) ?_
  refine sss_cons (ss_for hp rfl (si_rng1 rfl rfl X_.g_range se_int) (sg_name (i := 2) nd rfl (.inl rfl)) ?_) ?_
  · refine sss_cons (ss_set (i := 5) nd rfl (.inl rfl) (se_call ih.h__law_value hr rfl X_.g__law_value X_.k__law_value X_.b__law_value_2 (fun _ => .nil) tk (sa_cons (se_var (i := 1) rfl (.inl rfl)) (sa_cons se_int sa_nil)) rfl)) ?_
    refine sss_cons (ss_set (i := 6) nd rfl (.inl rfl) (se_call ih.h__law_copy hr rfl X_.g__law_copy X_.k__law_copy X_.b__law_copy_1 (fun _ => .nil) tk (sa_cons (se_var (i := 5) rfl (.inl rfl)) sa_nil) rfl)) ?_
    refine sss_cons (ss_set (i := 7) nd rfl (.inl rfl) (se_call ih.h_write_value hr rfl X_.g_write_value X_.k_write_value X_.b_write_value_1 (fun _ => .nil) tk (sa_cons (se_var (i := 6) rfl (.inl rfl)) sa_nil) rfl)) ?_
    refine sss_cons (ss_ite (PW.pt (sw_or (st_not (st_val (se_call ih.h__law_like hr rfl X_.g__law_like X_.k__law_like X_.b__law_like_2 (fun _ => .nil) tk (sa_cons (se_var (i := 7) rfl (.inl rfl)) (sa_cons (se_call ih.h__law_text hr rfl X_.g__law_text X_.k__law_text X_.b__law_text_1 (fun _ => .nil) tk (sa_cons (se_var (i := 5) rfl (.inl rfl)) sa_nil) rfl) sa_nil)) rfl))) (sw_or1 (st_not (st_val (se_call ih.h__law_like hr rfl X_.g__law_like X_.k__law_like X_.b__law_like_2 (fun _ => .nil) tk (sa_cons (se_var (i := 6) rfl (.inl rfl)) (sa_cons (se_var (i := 5) rfl (.inl rfl)) sa_nil)) rfl)))))) ?_ ?_) ?_
    · refine sss_cons (ss_ret se_bl) ?_
      exact sss_nil
    · exact sss_nil
    refine sss_cons (ss_ite (st_not (st_val (se_call ih.h__law_like hr rfl X_.g__law_like X_.k__law_like X_.b__law_like_2 (fun _ => .nil) tk (sa_cons (se_call ih.h__law_row_of hr rfl X_.g__law_row_of X_.k__law_row_of X_.b__law_row_of_1 (fun _ => .nil) tk (sa_cons (se_var (i := 7) rfl (.inl rfl)) sa_nil) rfl) (sa_cons (se_tup (sa_cons (se_var (i := 5) rfl (.inl rfl)) (sa_cons se_non sa_nil))) sa_nil)) rfl))) ?_ ?_) ?_
    · refine sss_cons (ss_ret se_bl) ?_
      exact sss_nil
    · exact sss_nil
    refine sss_cons (ss_for hp rfl (si_rng1 rfl rfl X_.g_range (se_add se_int (se_call ih.h__law_pull hr rfl X_.g__law_pull X_.k__law_pull X_.b__law_pull_2 (fun _ => .nil) tk (sa_cons (se_var (i := 1) rfl (.inl rfl)) (sa_cons se_int sa_nil)) rfl))) (sg_name (i := 8) nd rfl (.inl rfl)) ?_) ?_
    · refine sss_cons (ss_set (i := 9) nd rfl (.inl rfl) (se_call ih.h__law_pull hr rfl X_.g__law_pull X_.k__law_pull X_.b__law_pull_2 (fun _ => .nil) tk (sa_cons (se_var (i := 1) rfl (.inl rfl)) (sa_cons (se_add (se_blt cb_len rfl X_.g_len boot_len (se_p (se_var (i := 7) rfl (.inl rfl)))) se_int) sa_nil)) rfl)) ?_
      refine sss_cons (ss_set (i := 10) nd rfl (.inl rfl) (se_call ih.h__law_any hr rfl X_.g__law_any X_.k__law_any X_.b__law_any_2 (fun _ => .nil) tk (sa_cons (se_var (i := 1) rfl (.inl rfl)) (sa_cons (se_frz (sf_lst (sa_cons (se_str (by decide +kernel)) (sa_cons (se_str (by decide +kernel)) (sa_cons (se_str (by decide +kernel)) (sa_cons (se_str (by decide +kernel)) (sa_cons (se_str (by decide +kernel)) (sa_cons (se_str (by decide +kernel)) (sa_cons (se_str (by decide +kernel)) (sa_cons (se_str (by decide +kernel)) (sa_cons (se_str (by decide +kernel)) (sa_cons (se_str (by decide +kernel)) (sa_cons (se_str (by decide +kernel)) (sa_cons (se_str (by decide +kernel)) (sa_cons (se_str (by decide +kernel)) (sa_cons (se_str (by decide +kernel)) (sa_cons (se_str (by decide +kernel)) (sa_cons (se_str (by decide +kernel)) sa_nil)))))))))))))))))) sa_nil)) rfl)) ?_
      refine sss_cons (ss_set (i := 7) nd rfl (.inl rfl) (se_add (se_add (se_slc (se_var (i := 7) rfl (.inl rfl)) so_none (so_some (se_var (i := 9) rfl (.inl rfl)))) (se_var (i := 10) rfl (.inl rfl))) (se_slc (se_var (i := 7) rfl (.inl rfl)) (so_some (se_add (se_var (i := 9) rfl (.inl rfl)) (se_call ih.h__law_pull hr rfl X_.g__law_pull X_.k__law_pull X_.b__law_pull_2 (fun _ => .nil) tk (sa_cons (se_var (i := 1) rfl (.inl rfl)) (sa_cons se_int sa_nil)) rfl))) so_none))) ?_
      exact sss_nil
    refine sss_cons (ss_unpack rfl (se_call ih.h__law_row_of hr rfl X_.g__law_row_of X_.k__law_row_of X_.b__law_row_of_1 (fun _ => .nil) tk (sa_cons (se_var (i := 7) rfl (.inl rfl)) sa_nil) rfl) (sgs_name (i := 11) nd rfl (.inl rfl) (sgs_name (i := 12) nd rfl (.inl rfl) sgs_nil))) ?_
    refine sss_cons (ss_ite (PW.pt (sw_and (st_cmp op_isD (se_p (se_var (i := 12) rfl (.inl rfl))) (se_p se_non) (L2.nomark _)) (sw_and1 (PW.pt (sw_or (st_not (st_val (se_call ih.h__law_value_ok hr rfl X_.g__law_value_ok X_.k__law_value_ok X_.b__law_value_ok_1 (fun _ => .nil) tk (sa_cons (se_var (i := 11) rfl (.inl rfl)) sa_nil) rfl))) (sw_or1 (st_cmp (op_neD' hu64) (se_p (se_call ih.h_write_value hr rfl X_.g_write_value X_.k_write_value X_.b_write_value_1 (fun _ => .nil) tk (sa_cons (se_var (i := 11) rfl (.inl rfl)) sa_nil) rfl)) (se_p (se_var (i := 7) rfl (.inl rfl))) (L2.nomark _)))))))) ?_ ?_) ?_
    · refine sss_cons (ss_ret se_bl) ?_
      exact sss_nil
    · exact sss_nil
    refine sss_cons (ss_ite (PW.pt (sw_and (st_cmp op_notD (se_p (se_var (i := 12) rfl (.inl rfl))) (se_p se_non) (L2.nomark _)) (sw_and1 (st_cmp (op_neD' hu64) (se_p (se_var (i := 12) rfl (.inl rfl))) (se_p se_int) (L2.nomark _))))) ?_ ?_) ?_
    · refine sss_cons (ss_ret se_bl) ?_
      exact sss_nil
    · exact sss_nil
    exact sss_nil
  refine sss_cons (ss_set (i := 3) nd rfl (.inl rfl) (se_frz (sf_lst (sa_cons (se_str (by decide +kernel)) (sa_cons (se_str (by decide +kernel)) (sa_cons (se_str (by decide +kernel)) (sa_cons (se_str (by decide +kernel)) (sa_cons (se_str (by decide +kernel)) (sa_cons (se_str (by decide +kernel)) (sa_cons (se_str (by decide +kernel)) (sa_cons (se_str (by decide +kernel)) (sa_cons (se_str (by decide +kernel)) (sa_cons (se_str (by decide +kernel)) (sa_cons (se_str (by decide +kernel)) (sa_cons (se_str (by decide +kernel)) (sa_cons (se_str (by decide +kernel)) (sa_cons (se_str (by decide +kernel)) (sa_cons (se_str (by decide +kernel)) sa_nil)))))))))))))))))) ?_
  refine sss_cons (ss_set (i := 3) nd rfl (.inl rfl) (se_frz (sf_cat (se_p (se_var (i := 3) rfl (.inl rfl))) (se_p (se_frz (sf_lst (sa_cons (se_mul (se_str (by decide +kernel)) se_int) (sa_cons (se_str (by decide +kernel)) (sa_cons (se_str (by decide +kernel)) (sa_cons (se_str (by decide +kernel)) (sa_cons (se_str (by decide +kernel)) (sa_cons (se_str (by decide +kernel)) (sa_cons (se_str (by decide +kernel)) (sa_cons (se_str (by decide +kernel)) (sa_cons (se_str (by decide +kernel)) sa_nil))))))))))))))) ?_
  refine sss_cons (ss_set (i := 3) nd rfl (.inl rfl) (se_frz (sf_cat (se_p (se_var (i := 3) rfl (.inl rfl))) (se_p (se_frz (sf_lst (sa_cons (se_str (by decide +kernel)) (sa_cons (se_str (by decide +kernel)) (sa_cons (se_str (by decide +kernel)) (sa_cons (se_str (by decide +kernel)) (sa_cons (se_add (se_mul (se_str (by decide +kernel)) se_int) (se_mul (se_str (by decide +kernel)) se_int)) (sa_cons (se_mul (se_str (by decide +kernel)) se_int) (sa_cons (se_add (se_add (se_mul (se_str (by decide +kernel)) se_int) (se_str (by decide +kernel))) (se_mul (se_str (by decide +kernel)) se_int)) sa_nil))))))))))))) ?_
  refine sss_cons (ss_set (i := 4) nd rfl (.inl rfl) (se_call ih.h_read_value hr rfl X_.g_read_value X_.k_read_value X_.b_read_value_1 (fun _ => .nil) tk (sa_cons (se_add (se_mul (se_str (by decide +kernel)) se_int) (se_mul (se_str (by decide +kernel)) se_int)) sa_nil) rfl)) ?_
  refine sss_cons (ss_ite (st_cmp (op_neD' hu64) (se_p (se_call ih.h_write_value hr rfl X_.g_write_value X_.k_write_value X_.b_write_value_1 (fun _ => .nil) tk (sa_cons (se_var (i := 4) rfl (.inl rfl)) sa_nil) rfl)) (se_p (se_add (se_mul (se_str (by decide +kernel)) se_int) (se_mul (se_str (by decide +kernel)) se_int))) (L2.nomark _)) ?_ ?_) ?_
  · refine sss_cons (ss_ret se_bl) ?_
    exact sss_nil
  · exact sss_nil
  refine sss_cons (ss_ret (se_cmp (op_eqD' hu64) (se_p (se_frz (sf_comp (own := [("_law_text_here", 7)]) rfl nd (si_seq (se_var (i := 3) rfl (.inl rfl))) ⟨rfl, blkOk_by (by kernel_rfl), fun _ _ _ _ _ => (sg_name (i := 7) nd rfl (.inl rfl)), fun _ _ _ _ _ => sts_nil, fun _ _ _ _ _ => (se_call ih.h__law_row_of hr rfl X_.g__law_row_of X_.k__law_row_of X_.b__law_row_of_1 (fun _ => .nil) takes_none5 (sa_cons (se_var (i := 7) rfl (.inl rfl)) sa_nil) rfl)⟩))) (se_p (se_frz (sf_rep (sf_lst (sa_cons (se_tup (sa_cons se_non (sa_cons se_int sa_nil))) sa_nil)) (se_blt cb_len rfl X_.g_len boot_len (se_p (se_var (i := 3) rfl (.inl rfl))))))) (L2.nomark _))) ?_
  exact sss_nil
theorem all_ok (X_ : Fx K mg fdv) : ∀ k, All P w K mg base fdv k
  | 0 => ⟨fn_zero, fn_zero, fn_zero, fn_zero, fn_zero, fn_zero, fn_zero, fn_zero, fn_zero, fn_zero, fn_zero, fn_zero, fn_zero, fn_zero, fn_zero, fn_zero, fn_zero, fn_zero, fn_zero, fn_zero, fn_zero, fn_zero, fn_zero, fn_zero, fn_zero, fn_zero, fn_zero⟩
  | k + 1 => ⟨w_is_name X_ (all_ok X_ k), w_is_plain X_ (all_ok X_ k), w_value_text X_ (all_ok X_ k), w_read_number X_ (all_ok X_ k), w_word_end X_ (all_ok X_ k), w_read_plain X_ (all_ok X_ k), w_read_item X_ (all_ok X_ k), w_read_list X_ (all_ok X_ k), w_read_record X_ (all_ok X_ k), w_read_value X_ (all_ok X_ k), w_write_value X_ (all_ok X_ k), w__law_open X_ (all_ok X_ k), w__law_pull X_ (all_ok X_ k), w__law_any X_ (all_ok X_ k), w__law_num X_ (all_ok X_ k), w__law_like X_ (all_ok X_ k), w__law_copy X_ (all_ok X_ k), w__law_name X_ (all_ok X_ k), w__law_plain X_ (all_ok X_ k), w__law_value X_ (all_ok X_ k), w__law_record X_ (all_ok X_ k), w__law_path_ok X_ (all_ok X_ k), w__law_text_ok X_ (all_ok X_ k), w__law_value_ok X_ (all_ok X_ k), w__law_text X_ (all_ok X_ k), w__law_row_of X_ (all_ok X_ k), w_law X_ (all_ok X_ k)⟩
end
end K37w

set_option Elab.async false
set_option linter.all false
set_option maxRecDepth 100000
set_option maxHeartbeats 0
namespace K37w
open PySem L2 Lp K37
def fn : List He.DefD := [⟨("is_name", none), "is_name", "is_name", defArgs (top 8), defBody (top 8), defScope (top 8), [], []⟩,
  ⟨("is_plain", none), "is_plain", "is_plain", defArgs (top 9), defBody (top 9), defScope (top 9), [], []⟩,
  ⟨("value_text", none), "value_text", "value_text", defArgs (top 11), defBody (top 11), defScope (top 11), [], []⟩,
  ⟨("read_number", none), "read_number", "read_number", defArgs (top 16), defBody (top 16), defScope (top 16), [], []⟩,
  ⟨("word_end", none), "word_end", "word_end", defArgs (top 17), defBody (top 17), defScope (top 17), [], []⟩,
  ⟨("read_plain", none), "read_plain", "read_plain", defArgs (top 18), defBody (top 18), defScope (top 18), [], []⟩,
  ⟨("read_item", none), "read_item", "read_item", defArgs (top 19), defBody (top 19), defScope (top 19), [.int 0], []⟩,
  ⟨("read_list", none), "read_list", "read_list", defArgs (top 20), defBody (top 20), defScope (top 20), [], []⟩,
  ⟨("read_record", none), "read_record", "read_record", defArgs (top 21), defBody (top 21), defScope (top 21), [], []⟩,
  ⟨("read_value", none), "read_value", "read_value", defArgs (top 22), defBody (top 22), defScope (top 22), [], []⟩,
  ⟨("write_value", none), "write_value", "write_value", defArgs (top 23), defBody (top 23), defScope (top 23), [], []⟩,
  ⟨("_law_open", none), "_law_open", "_law_open", defArgs (top 25), defBody (top 25), defScope (top 25), [], []⟩,
  ⟨("_law_pull", none), "_law_pull", "_law_pull", defArgs (top 26), defBody (top 26), defScope (top 26), [], []⟩,
  ⟨("_law_any", none), "_law_any", "_law_any", defArgs (top 27), defBody (top 27), defScope (top 27), [], []⟩,
  ⟨("_law_num", none), "_law_num", "_law_num", defArgs (top 28), defBody (top 28), defScope (top 28), [], []⟩,
  ⟨("_law_like", none), "_law_like", "_law_like", defArgs (top 29), defBody (top 29), defScope (top 29), [], []⟩,
  ⟨("_law_copy", none), "_law_copy", "_law_copy", defArgs (top 30), defBody (top 30), defScope (top 30), [], []⟩,
  ⟨("_law_name", none), "_law_name", "_law_name", defArgs (top 31), defBody (top 31), defScope (top 31), [], []⟩,
  ⟨("_law_plain", none), "_law_plain", "_law_plain", defArgs (top 32), defBody (top 32), defScope (top 32), [], []⟩,
  ⟨("_law_value", none), "_law_value", "_law_value", defArgs (top 33), defBody (top 33), defScope (top 33), [], []⟩,
  ⟨("_law_record", none), "_law_record", "_law_record", defArgs (top 34), defBody (top 34), defScope (top 34), [], []⟩,
  ⟨("_law_path_ok", none), "_law_path_ok", "_law_path_ok", defArgs (top 35), defBody (top 35), defScope (top 35), [], []⟩,
  ⟨("_law_text_ok", none), "_law_text_ok", "_law_text_ok", defArgs (top 36), defBody (top 36), defScope (top 36), [], []⟩,
  ⟨("_law_value_ok", none), "_law_value_ok", "_law_value_ok", defArgs (top 37), defBody (top 37), defScope (top 37), [], []⟩,
  ⟨("_law_text", none), "_law_text", "_law_text", defArgs (top 38), defBody (top 38), defScope (top 38), [], []⟩,
  ⟨("_law_row_of", none), "_law_row_of", "_law_row_of", defArgs (top 39), defBody (top 39), defScope (top 39), [], []⟩,
  ⟨("law", none), "law", "law", defArgs (top 40), defBody (top 40), defScope (top 40), [], []⟩,
  ⟨("LodeError", some "__init__"), "__init__", "LodeError.__init__", defArgs (clsSt (top 1) 0), defBody (clsSt (top 1) 0), defScope (clsSt (top 1) 0), [], []⟩,
  ⟨("BadText", some "__init__"), "__init__", "BadText.__init__", defArgs (clsSt (top 2) 0), defBody (clsSt (top 2) 0), defScope (clsSt (top 2) 0), [.int 0], []⟩]
def fa : List He.Fa := [.glo "is_name",
  .glo "is_plain",
  .glo "value_text",
  .glo "read_number",
  .glo "word_end",
  .glo "read_plain",
  .glo "read_item",
  .glo "read_list",
  .glo "read_record",
  .glo "read_value",
  .glo "write_value",
  .glo "_law_open",
  .glo "_law_pull",
  .glo "_law_any",
  .glo "_law_num",
  .glo "_law_like",
  .glo "_law_copy",
  .glo "_law_name",
  .glo "_law_plain",
  .glo "_law_value",
  .glo "_law_record",
  .glo "_law_path_ok",
  .glo "_law_text_ok",
  .glo "_law_value_ok",
  .glo "_law_text",
  .glo "_law_row_of",
  .glo "law",
  .glo "LodeError",
  .glo "BadText",
  .free "ValueError",
  .free "all",
  .free "bool",
  .free "dict",
  .free "int",
  .free "isinstance",
  .free "len",
  .free "list",
  .free "min",
  .free "range",
  .free "sorted",
  .free "str",
  .free "tuple",
  .str "FIGURES" "0123456789",
  .str "LETTERS" "abcdefghijklmnopqrstuvwxyz",
  .int "MOST_DEEP" 40,
  .int "MOST_FIGURES" 30,
  .int "MOST_NAME" 8,
  .int "MOST_SIGNS" 12,
  .str "SIGNS" "abcdefghijklmnopqrstuvwxyz0123456789 "]
def exs_ (K : Frag) : List Bool := [oexB K (He.ga K "LodeError"),
  ciB K (He.ga K "LodeError") (He.ma K (He.ga K "LodeError") "__init__"),
  noB K (He.ga K "LodeError") [sCalled],
  oexB K (He.ga K "BadText"),
  ciB K (He.ga K "BadText") (He.ma K (He.ga K "BadText") "__init__"),
  noB K (He.ga K "BadText") [sCalled, "row"],
  exmB K (.ref (He.ga K "BadText")) (.ref (He.ga K "BadText")) true,
  xfB K (He.ga K "BadText")]
def ex (K : Frag) : Bool := (exs_ K).all id
theorem ex_at {K : Frag} (h : ex K = true) (i : Nat) {b : Bool} (e : (exs_ K)[i]? = some b) : b = true := List.all_eq_true.mp h b (List.mem_of_getElem? e)
abbrev R : PySem.W.OpenRow := PySem.W.OpenLaw.row PySem.Challenge.rw_lodepath_k37_values_written_and_read
abbrev hk : PySem.W.Hook := hookL 6 fa fn ex
def ob (s : PySem.W.SharedT) : AlL := obsL 6 fa fn ex (HandSHeadRun.getT s)
theorem ob_eq (s : PySem.W.SharedT) : ob s = hk.obs s.abs := obsL_eq (HandSHeadRun.getT_eq s)
def names1 : List Str := ["__name__", "LodeError", "BadText", "LETTERS", "SIGNS", "MOST_SIGNS", "MOST_NAME", "is_name", "is_plain", "value_text", "FIGURES", "MOST_FIGURES", "MOST_DEEP", "read_number", "word_end", "read_plain", "read_item", "read_list", "read_record", "read_value", "write_value", "_law_open", "_law_pull", "_law_any", "_law_num"]
def names2 : List Str := ["_law_like", "_law_copy", "_law_name", "_law_plain", "_law_value", "_law_record", "_law_path_ok", "_law_text_ok", "_law_value_ok", "_law_text", "_law_row_of"]
def names : List Str := names1 ++ names2
theorem run (w : World) : HandSHeadRun.RunEq R (PySem.W.view R.prog [40]) hk ob 4000 names w := by
  intro os
  kernel_rfl
theorem facts_of {K : Frag} {h : Heap} {mg : Str → Option Value} (X : K.In h) (G : h.Ns mainGlobals mg) (c : SaysL fa fn ex K) : ∃ fdv : Nat → FuncData, Fx K mg fdv := by
  have cd := c.d
  have cx := c.more
  obtain ⟨f0, F0⟩ := cd.def_ 0 rfl
  obtain ⟨f1, F1⟩ := cd.def_ 1 rfl
  obtain ⟨f2, F2⟩ := cd.def_ 2 rfl
  obtain ⟨f3, F3⟩ := cd.def_ 3 rfl
  obtain ⟨f4, F4⟩ := cd.def_ 4 rfl
  obtain ⟨f5, F5⟩ := cd.def_ 5 rfl
  obtain ⟨f6, F6⟩ := cd.def_ 6 rfl
  obtain ⟨f7, F7⟩ := cd.def_ 7 rfl
  obtain ⟨f8, F8⟩ := cd.def_ 8 rfl
  obtain ⟨f9, F9⟩ := cd.def_ 9 rfl
  obtain ⟨f10, F10⟩ := cd.def_ 10 rfl
  obtain ⟨f11, F11⟩ := cd.def_ 11 rfl
  obtain ⟨f12, F12⟩ := cd.def_ 12 rfl
  obtain ⟨f13, F13⟩ := cd.def_ 13 rfl
  obtain ⟨f14, F14⟩ := cd.def_ 14 rfl
  obtain ⟨f15, F15⟩ := cd.def_ 15 rfl
  obtain ⟨f16, F16⟩ := cd.def_ 16 rfl
  obtain ⟨f17, F17⟩ := cd.def_ 17 rfl
  obtain ⟨f18, F18⟩ := cd.def_ 18 rfl
  obtain ⟨f19, F19⟩ := cd.def_ 19 rfl
  obtain ⟨f20, F20⟩ := cd.def_ 20 rfl
  obtain ⟨f21, F21⟩ := cd.def_ 21 rfl
  obtain ⟨f22, F22⟩ := cd.def_ 22 rfl
  obtain ⟨f23, F23⟩ := cd.def_ 23 rfl
  obtain ⟨f24, F24⟩ := cd.def_ 24 rfl
  obtain ⟨f25, F25⟩ := cd.def_ 25 rfl
  obtain ⟨f26, F26⟩ := cd.def_ 26 rfl
  obtain ⟨f27, F27⟩ := cd.def_ 27 rfl
  obtain ⟨f28, F28⟩ := cd.def_ 28 rfl
  refine ⟨fun i => ([f0, f1, f2, f3, f4, f5, f6, f7, f8, f9, f10, f11, f12, f13, f14, f15, f16, f17, f18, f19, f20, f21, f22, f23, f24, f25, f26, f27, f28][i]?).getD f0, ?_⟩
  exact {
    F_is_name := F0
    F_is_plain := F1
    F_value_text := F2
    F_read_number := F3
    F_word_end := F4
    F_read_plain := F5
    F_read_item := F6
    F_read_list := F7
    F_read_record := F8
    F_read_value := F9
    F_write_value := F10
    F__law_open := F11
    F__law_pull := F12
    F__law_any := F13
    F__law_num := F14
    F__law_like := F15
    F__law_copy := F16
    F__law_name := F17
    F__law_plain := F18
    F__law_value := F19
    F__law_record := F20
    F__law_path_ok := F21
    F__law_text_ok := F22
    F__law_value_ok := F23
    F__law_text := F24
    F__law_row_of := F25
    F_law := F26
    FI_LodeError := F27
    FI_BadText := F28
    g_is_name := He.glo_ok X G (cd.fact 0 (f := .glo "is_name") rfl)
    g_is_plain := He.glo_ok X G (cd.fact 1 (f := .glo "is_plain") rfl)
    g_value_text := He.glo_ok X G (cd.fact 2 (f := .glo "value_text") rfl)
    g_read_number := He.glo_ok X G (cd.fact 3 (f := .glo "read_number") rfl)
    g_word_end := He.glo_ok X G (cd.fact 4 (f := .glo "word_end") rfl)
    g_read_plain := He.glo_ok X G (cd.fact 5 (f := .glo "read_plain") rfl)
    g_read_item := He.glo_ok X G (cd.fact 6 (f := .glo "read_item") rfl)
    g_read_list := He.glo_ok X G (cd.fact 7 (f := .glo "read_list") rfl)
    g_read_record := He.glo_ok X G (cd.fact 8 (f := .glo "read_record") rfl)
    g_read_value := He.glo_ok X G (cd.fact 9 (f := .glo "read_value") rfl)
    g_write_value := He.glo_ok X G (cd.fact 10 (f := .glo "write_value") rfl)
    g__law_open := He.glo_ok X G (cd.fact 11 (f := .glo "_law_open") rfl)
    g__law_pull := He.glo_ok X G (cd.fact 12 (f := .glo "_law_pull") rfl)
    g__law_any := He.glo_ok X G (cd.fact 13 (f := .glo "_law_any") rfl)
    g__law_num := He.glo_ok X G (cd.fact 14 (f := .glo "_law_num") rfl)
    g__law_like := He.glo_ok X G (cd.fact 15 (f := .glo "_law_like") rfl)
    g__law_copy := He.glo_ok X G (cd.fact 16 (f := .glo "_law_copy") rfl)
    g__law_name := He.glo_ok X G (cd.fact 17 (f := .glo "_law_name") rfl)
    g__law_plain := He.glo_ok X G (cd.fact 18 (f := .glo "_law_plain") rfl)
    g__law_value := He.glo_ok X G (cd.fact 19 (f := .glo "_law_value") rfl)
    g__law_record := He.glo_ok X G (cd.fact 20 (f := .glo "_law_record") rfl)
    g__law_path_ok := He.glo_ok X G (cd.fact 21 (f := .glo "_law_path_ok") rfl)
    g__law_text_ok := He.glo_ok X G (cd.fact 22 (f := .glo "_law_text_ok") rfl)
    g__law_value_ok := He.glo_ok X G (cd.fact 23 (f := .glo "_law_value_ok") rfl)
    g__law_text := He.glo_ok X G (cd.fact 24 (f := .glo "_law_text") rfl)
    g__law_row_of := He.glo_ok X G (cd.fact 25 (f := .glo "_law_row_of") rfl)
    g_law := He.glo_ok X G (cd.fact 26 (f := .glo "law") rfl)
    g_LodeError := He.glo_ok X G (cd.fact 27 (f := .glo "LodeError") rfl)
    g_BadText := He.glo_ok X G (cd.fact 28 (f := .glo "BadText") rfl)
    g_ValueError := He.free_ok X G (cd.fact 29 (f := .free "ValueError") rfl)
    g_all := He.free_ok X G (cd.fact 30 (f := .free "all") rfl)
    g_bool := He.free_ok X G (cd.fact 31 (f := .free "bool") rfl)
    g_dict := He.free_ok X G (cd.fact 32 (f := .free "dict") rfl)
    g_int := He.free_ok X G (cd.fact 33 (f := .free "int") rfl)
    g_isinstance := He.free_ok X G (cd.fact 34 (f := .free "isinstance") rfl)
    g_len := He.free_ok X G (cd.fact 35 (f := .free "len") rfl)
    g_list := He.free_ok X G (cd.fact 36 (f := .free "list") rfl)
    g_min := He.free_ok X G (cd.fact 37 (f := .free "min") rfl)
    g_range := He.free_ok X G (cd.fact 38 (f := .free "range") rfl)
    g_sorted := He.free_ok X G (cd.fact 39 (f := .free "sorted") rfl)
    g_str := He.free_ok X G (cd.fact 40 (f := .free "str") rfl)
    g_tuple := He.free_ok X G (cd.fact 41 (f := .free "tuple") rfl)
    g_FIGURES := He.str_ok X G (cd.fact 42 (f := .str "FIGURES" "0123456789") rfl)
    g_LETTERS := He.str_ok X G (cd.fact 43 (f := .str "LETTERS" "abcdefghijklmnopqrstuvwxyz") rfl)
    g_MOST_DEEP := He.int_ok X G (cd.fact 44 (f := .int "MOST_DEEP" 40) rfl)
    g_MOST_FIGURES := He.int_ok X G (cd.fact 45 (f := .int "MOST_FIGURES" 30) rfl)
    g_MOST_NAME := He.int_ok X G (cd.fact 46 (f := .int "MOST_NAME" 8) rfl)
    g_MOST_SIGNS := He.int_ok X G (cd.fact 47 (f := .int "MOST_SIGNS" 12) rfl)
    g_SIGNS := He.str_ok X G (cd.fact 48 (f := .str "SIGNS" "abcdefghijklmnopqrstuvwxyz0123456789 ") rfl)
    o_LodeError := oexB_ok (ex_at cx 0 rfl)
    ci_LodeError := ciB_ok (ex_at cx 1 rfl)
    no_LodeError := noB_ok (ex_at cx 2 rfl)
    o_BadText := oexB_ok (ex_at cx 3 rfl)
    ci_BadText := ciB_ok (ex_at cx 4 rfl)
    no_BadText := noB_ok (ex_at cx 5 rfl)
    x_BadText_BadText := exmB_ok (ex_at cx 6 rfl)
    xf_BadText := xfB_ok (ex_at cx 7 rfl)
  }
end K37w

set_option Elab.async false
set_option linter.all false
set_option maxRecDepth 100000
set_option maxHeartbeats 1000000
namespace K37
open Lp
def bad : Exn := ⟨"BadText", [([114, 111, 119], .int 0), (cdCalled, .str [98, 97, 100, 116, 101, 120, 116])]⟩
theorem mkx_bad : mkxT "BadText/0" [] = some bad := rfl
@[simp] theorem G_mkx : G.mkx = mkxT := rfl
@[simp] theorem G_sub : G.sub = subT := rfl
@[simp] theorem G_fuel : G.fuel = 16777216 := rfl
theorem c_is_name (k : Nat) (s : S) (M : Mem) (hs : s.length ≤ L) : callN G (k+1) "is_name" [.str s] M = .ok (.bl (isNameS s)) M := by
  rw [callN_run (d := D_is_name) rfl k _ _ rfl]
  have hc := fun (F : D → Mem → Res (Option D)) (h : ∀ c ∈ s, F (.str [c]) M = .ok (some (.bl (lower.contains c))) M) => comp_all s hs h
  simp only [D_is_name]
  by_cases h1 : 1 ≤ s.length
  · have h1' : (1 : Int) ≤ (s.length : Int) := by omega
    by_cases h2 : s.length ≤ 8
    · have h2' : (s.length : Int) ≤ 8 := by omega
      simp [hs, h1', h2']
      rw [hc _ (by intro c hc; simp [lower])]
      simp [isNameS, h1, h2]
    · have h2' : ¬ (s.length : Int) ≤ 8 := by omega
      simp [hs, h1', h2', isNameS, h1, h2]
  · have h1' : ¬ (1 : Int) ≤ (s.length : Int) := by omega
    simp [hs, h1', isNameS, h1]
theorem c_is_plain (k : Nat) (s : S) (M : Mem) (hs : s.length ≤ L) : callN G (k+1) "is_plain" [.str s] M = .ok (.bl (textOkS s)) M := by
  rw [callN_run (d := D_is_plain) rfl k _ _ rfl]
  have hc := fun (F : D → Mem → Res (Option D)) (h : ∀ c ∈ s, F (.str [c]) M = .ok (some (.bl (signS.contains c))) M) => comp_all s hs h
  simp only [D_is_plain]
  by_cases h2 : s.length ≤ 12
  · have h2' : (s.length : Int) ≤ 12 := by omega
    simp [hs, h2', kindOf]
    rw [hc _ (by intro c hc; simp [signS])]
    simp [textOkS, h2]
  · have h2' : ¬ (s.length : Int) ≤ 12 := by omega
    simp [hs, h2', textOkS, h2, kindOf]
def figS : S := [48, 49, 50, 51, 52, 53, 54, 55, 56, 57]
theorem fig_in (c : Nat) : figS.contains c = isFig c := by
  unfold isFig
  have : figS.contains c = decide (c = 48 ∨ c = 49 ∨ c = 50 ∨ c = 51 ∨ c = 52 ∨ c = 53 ∨ c = 54 ∨ c = 55 ∨ c = 56 ∨ c = 57) := by simp [figS]
  rw [this]
  rw [← Bool.decide_and]
  exact decide_eq_decide.mpr (by omega)
theorem figsOf_len (w : S) : (figsOf w).length ≤ w.length := by
  unfold figsOf
  split <;> simp
theorem cut_tail (w : S) (hw : w.length ≤ L) (hp : [45].isPrefixOf w = true) : slcD (.str w) (some 1) none = some (.str (w.drop 1)) := by
  obtain ⟨r, rfl⟩ := isPre1.mp hp
  show (if (45 :: r).length ≤ L then some (D.str (cutL (45 :: r) (some 1) none)) else none) = _
  rw [if_pos hw]
  unfold cutL
  have e1 : sEnd (45 :: r).length 0 (some 1) = 1 := by simp [sEnd]
  have e2 : sEnd (45 :: r).length (45 :: r).length none = r.length + 1 := rfl
  rw [e1, e2]
  simp
theorem c_read_number (k : Nat) (w : S) (M : Mem) (hs : w.length ≤ L) : callN G (k+1) "read_number" [.str w] M = (match pNum w with | some i => .ok (.int i) M | none => .exc bad M) := by
  rw [callN_run (d := D_read_number) rfl k _ _ rfl]
  have hf := figsOf_len w
  have hfl : (figsOf w).length ≤ L := by omega
  have hc := fun (F : D → Mem → Res (Option D)) (h : ∀ c ∈ figsOf w, F (.str [c]) M = .ok (some (.bl (isFig c))) M) => comp_all (figsOf w) hfl h
  simp only [D_read_number]
  rw [step_next (ρ1 := [.d (.str w), .d (.str (figsOf w)), .no]) (M1 := M) (by
    by_cases hp : [45].isPrefixOf w = true
    · have hp' : pre [45] w = true := hp
      simp [hp', cut_tail w hs hp]
      simp [figsOf, hp]
    · have hp' : pre [45] w = false := by simpa only [pre, Bool.not_eq_true] using hp
      simp [hp']
      simp only [figsOf, hp, if_false, Bool.false_eq_true])]
  by_cases h1 : 1 ≤ (figsOf w).length
  · have h1' : (1 : Int) ≤ ((figsOf w).length : Int) := by omega
    by_cases h2 : (figsOf w).length ≤ 30
    · have h2' : ((figsOf w).length : Int) ≤ 30 := by omega
      simp [hfl, h1', h2']
      rw [hc _ (by intro c hc; rw [← fig_in]; simp [figS])]
      simp only [Res.bind_ok, allD_map]
      cases h3 : (figsOf w).all isFig with
      | false => simp [h1, h2, h3, mkx_bad, pNum, numOk]
      | true =>
        have e4 : isIn1 (.str w) (.tup [.str [48]]) = some (decide (w = [48])) := by
          have : eqF (.str [48]) (.str w) = decide (w = [48]) := by
            show (([48] : S) == w) = _
            by_cases h : w = [48]
            · subst h; rfl
            · have : ¬ ([48] : S) = w := fun z => h z.symm
              simp [h, this]
          simp [isIn1, flatD, this]
        by_cases h4 : w = [48]
        · subst h4
          have ep : pNum [48] = some 0 := by decide +kernel
          have ei : textInt [48] = some 0 := by decide +kernel
          simp [h3, e4, mkx_bad, ep, ei]
        · cases h5 : pre [48] (figsOf w) with
          | true =>
            have h5' : [48].isPrefixOf (figsOf w) = true := h5
            have en : numOk w = false := by simp only [numOk, h1, h2, h3, h4, h5', decide_true, decide_false, Bool.not_false, Bool.and_true, Bool.not_true, Bool.and_false]
            simp [e4, h4, h5, mkx_bad, pNum, en]
          | false =>
            have h5' : [48].isPrefixOf (figsOf w) = false := h5
            have en : numOk w = true := by simp only [numOk, h1, h2, h3, h4, h5', decide_true, decide_false, Bool.not_false, Bool.and_true, Bool.not_true, Bool.and_false]
            have et : ∃ i, textInt w = some i := by
              by_cases hp : [45].isPrefixOf w = true
              · obtain ⟨r, rfl⟩ := isPre1.mp hp
                have ef : figsOf (45 :: r) = r := by simp [figsOf]
                rw [ef] at h1 h2 h3
                have hr : r ≠ [] := by rintro rfl; simp at h1
                exact ⟨_, by unfold textInt negText; simp only [h3, ne_eq, hr, not_false_eq_true, true_and]; rw [if_pos (by omega)]⟩
              · have ef : figsOf w = w := by simp only [figsOf, hp, if_false, Bool.false_eq_true]
                rw [ef] at h1 h2 h3
                have hr : w ≠ [] := by rintro rfl; simp at h1
                have hng : negText w = none := by
                  cases w with
                  | nil => rfl
                  | cons c t =>
                    have : c ≠ 45 := fun z => hp (isPre1.mpr ⟨t, by rw [z]⟩)
                    unfold negText
                    split
                    · rename_i e; cases e; exact absurd rfl this
                    · rfl
                exact ⟨_, by unfold textInt; simp only [hng, h3, ne_eq, hr, not_false_eq_true, true_and]; rw [if_pos (by omega)]⟩
            obtain ⟨i, et⟩ := et
            simp [e4, h4, h5, mkx_bad, pNum, en, et]
    · have h2' : ¬ ((figsOf w).length : Int) ≤ 30 := by omega
      simp [hfl, h1', h2', h1, h2, mkx_bad, pNum, numOk]
  · have h1' : ¬ (1 : Int) ≤ ((figsOf w).length : Int) := by omega
    simp [hfl, h1', h1, mkx_bad, pNum, numOk]
theorem c_word_end (k : Nat) (t : S) (a : Nat) (stops : S) (M : Mem) (ht : t.length ≤ L) (ha : a ≤ t.length) : callN G (k+1) "word_end" [.str t, .int (a : Int), .str stops] M = .ok (.int ((a + farS stops (t.drop a) : Nat) : Int)) M := by
  rw [callN_run (d := D_word_end) rfl k _ _ rfl]
  have hc := fun (F : D → Mem → Res (Option D)) (h : ∀ x ∈ (List.range (t.length - a)).map fun k => D.int ((a + k : Nat) : Int), F x M = .ok (stopG t stops x) M) => compGo_opt (f := F) _ [] h (by simp; omega)
  simp only [D_word_end]
  simp only [exs, ex, evf, evi, ev, Lp.start, List.map_cons, List.map_nil, List.length_cons, List.length_nil, List.replicate, List.cons_append, List.nil_append, List.getElem?_cons_zero, List.getElem?_cons_succ, Res.bind_ok, bltD, lenD_str, if_pos ht, Res.of_some]
  rw [show rngD (a : Int) (t.length : Int) = _ from rngD_nat (by omega) ht]
  simp only [Res.of_some, Res.bind_ok]
  rw [hc _ (by
    intro x hx
    obtain ⟨n, hn, rfl⟩ := List.mem_map.mp hx
    have hn := List.mem_range.mp hn
    have hl : a + n < t.length := by omega
    have e := idx_str (M := M) ht (List.getElem?_eq_getElem hl)
    have e' : idxD M (.str t) (.int ((a : Int) + (n : Int))) = some (.str [t[a + n]]) := by rw [← Int.natCast_add]; exact e
    have e3 : ((a : Int) + (n : Int)).toNat = a + n := by omega
    simp only [compF, TG'.slots, wipeF, bindT, List.set_cons_succ, List.set_cons_zero, evc, ev, List.getElem?_cons_succ, List.getElem?_cons_zero, Res.bind_ok, e, Res.of_some, cmpD, isIn1_chr, asB_bl, stopG, Int.toNat_natCast, List.getElem?_eq_getElem hl]
    cases List.contains stops t[a + n] <;> rfl)]
  simp only [Res.bind_ok, Res.fl_ok, Flow.seq_next, List.nil_append]
  rw [stops_plc t stops _ _ (by omega)]
  simp only [List.set_cons_succ, List.set_cons_zero, List.getElem?_cons_zero, List.getElem?_cons_succ, Res.bind_ok, Res.fl_ok, Flow.seq_next, Flow.seq_ret, lenD_str, if_pos ht, Res.of_some, intsD_map, Option.map_some, fres_ret]
  exact congrArg (fun z => Res.ok z M) (min_plc ha)
end K37

set_option Elab.async false
set_option linter.all false
set_option maxRecDepth 100000
set_option maxHeartbeats 1000000
namespace K37
open Lp
theorem take_far (st u : S) : u.take (farS st u) = u.takeWhile fun c => !st.contains c := by
  unfold farS
  conv => lhs; arg 2; rw [take_drop (fun c => !st.contains c) u]
  rw [List.take_left']
  rfl
theorem drop_far (st u : S) : u.drop (farS st u) = u.dropWhile fun c => !st.contains c := by
  unfold farS
  conv => lhs; arg 2; rw [take_drop (fun c => !st.contains c) u]
  rw [List.drop_left']
  rfl
theorem far_le (st u : S) : farS st u ≤ u.length := by
  unfold farS
  have := congrArg List.length (take_drop (fun c => !st.contains c) u)
  rw [List.length_append] at this
  omega
theorem cok_sub {s t : S} (h : cok t) (hs : ∀ c ∈ s, c ∈ t) : cok s := fun c hc => h c (hs c hc)
theorem cok_drop {t : S} (h : cok t) (n : Nat) : cok (t.drop n) := cok_sub h fun c hc => List.mem_of_mem_drop hc
theorem cok_take {t : S} (h : cok t) (n : Nat) : cok (t.take n) := cok_sub h fun c hc => List.mem_of_mem_take hc
theorem cok_tw {t : S} (h : cok t) (p : Nat → Bool) : cok (t.takeWhile p) := cok_sub h fun c hc => (List.takeWhile_prefix p).subset hc
theorem cok_at {t : S} (h : cok t) {a c : Nat} (e : t[a]? = some c) : cok [c] := cok_sub h fun d hd => by
  rw [List.mem_singleton.mp hd]
  exact List.mem_of_getElem? e
theorem cok_one {c : Nat} (h : c < 1114112) : cok [c] := fun d hd => by rw [List.mem_singleton.mp hd]; exact h
def resOf (t : S) (M : Mem) : Option (D × S) → Res D
  | some (v, r) => .ok (.tup [v, .int ((t.length - r.length : Nat) : Int)]) M
  | none => .exc bad M
theorem resOf_mk {t : S} {M : Mem} {v : D} {r : S} {x : Int} (h : x = ((t.length - r.length : Nat) : Int)) : Res.ok (.tup [v, .int x]) M = resOf t M (some (v, r)) := by subst h; rfl
/-- a piece of a text -/
theorem slc_nat {t : S} {a b : Nat} (ht : t.length ≤ L) (ha : a ≤ t.length) (hb : b ≤ t.length) : slcD (.str t) (some (a : Int)) (some (b : Int)) = some (.str ((t.drop a).take (b - a))) := by
  show (if t.length ≤ L then some (D.str (cutL t (some (a : Int)) (some (b : Int)))) else none) = _
  rw [if_pos ht, cutL_nat t a b ha hb]
theorem slc_one {t : S} {a : Nat} (ht : t.length ≤ L) (ha : a ≤ t.length) : slcD (.str t) (some (a : Int)) (some ((a : Int) + 1)) = some (.str ((t.drop a).take 1)) := by
  show (if t.length ≤ L then some (D.str (cutL t (some (a : Int)) (some ((a : Int) + 1)))) else none) = _
  rw [if_pos ht, cutL_one t a ha]
theorem pPlain_q (r : S) : pPlain (39 :: r) = match r.dropWhile (fun c => !([39] : S).contains c) with
    | [] => none
    | _ :: t => if textOkS (r.takeWhile fun c => !([39] : S).contains c) = true then some (.str (r.takeWhile fun c => !([39] : S).contains c), t) else none := by
  rw [pPlain]
  all_goals (cases List.dropWhile (fun c => !([39] : S).contains c) r <;> rfl)
theorem pPlain_o {c : Nat} {r : S} (h : c ≠ 39) : pPlain (c :: r) = if (c :: r).takeWhile (fun c => !stopP.contains c) = [45] then some (.non, (c :: r).dropWhile fun c => !stopP.contains c)
    else (pNum ((c :: r).takeWhile fun c => !stopP.contains c)).map fun i => (.int i, (c :: r).dropWhile fun c => !stopP.contains c) := by
  rw [pPlain]
  intro t e
  cases e
  exact h rfl
theorem c_read_plain (k : Nat) (t : S) (a : Nat) (M : Mem) (ht : t.length ≤ L) (hc : cok t) (ha : a < t.length) : callN G (k+2) "read_plain" [.str t, .int (a : Int)] M = resOf t M (pPlain (t.drop a)) := by
  rw [callN_run (d := D_read_plain) rfl (k+1) _ _ rfl]
  have hx : t[a]? = some t[a] := List.getElem?_eq_getElem ha
  have e1 : ∀ M', idxD M' (.str t) (.int (a : Int)) = some (.str [t[a]]) := fun M' => idx_str ht hx
  have e2 : eqD (.str [t[a]]) (.str [39]) = some (decide (t[a] = 39)) := by
    rw [eqD_str (cok_at hc hx) (cok_one (by decide))]
    simp
  have hd : t.drop a = t[a] :: t.drop (a + 1) := List.drop_eq_getElem_cons ha
  have i1 : ((a : Int) + 1) = ((a + 1 : Nat) : Int) := by omega
  simp only [D_read_plain]
  by_cases h : t[a] = 39
  · have w := c_word_end k t (a + 1) [39] M ht (by omega)
    have hf := far_le [39] (t.drop (a + 1))
    rw [List.length_drop] at hf
    have hle : a + 1 + farS [39] (t.drop (a + 1)) ≤ t.length := by omega
    have sl := slc_nat ht (show a + 1 ≤ t.length by omega) hle
    rw [show a + 1 + farS [39] (t.drop (a + 1)) - (a + 1) = farS [39] (t.drop (a + 1)) by omega, take_far] at sl
    have hw : (List.takeWhile (fun c => !List.contains [39] c) (t.drop (a + 1))).length ≤ L := by
      have e : (List.takeWhile (fun c => !List.contains [39] c) (t.drop (a + 1))).length = farS [39] (t.drop (a + 1)) := rfl
      omega
    have p := c_is_plain k (List.takeWhile (fun c => !List.contains [39] c) (t.drop (a + 1))) M hw
    rw [hd, h, pPlain_q, ← drop_far [39] (t.drop (a + 1)), List.drop_drop]
    have e39 : eqD (.str [39]) (.str [39]) = some true := by rw [eqD_str (cok_one (by decide)) (cok_one (by decide))]; rfl
    generalize farS [39] (t.drop (a + 1)) = n at w hf hle sl ⊢
    generalize List.takeWhile (fun c => !List.contains [39] c) (t.drop (a + 1)) = wd at sl hw p ⊢
    simp only [exs, ex, evf, evi, ev, evs, evo, evc, Lp.start, List.map_cons, List.map_nil, List.length_cons, List.length_nil, List.replicate, List.cons_append, List.nil_append, List.getElem?_cons_zero, List.getElem?_cons_succ, List.set_cons_succ, List.set_cons_zero, Res.bind_ok, Res.bind_exc, Res.fl_ok, Res.fl_exc, Flow.seq_next, Flow.seq_ret, Flow.seq_exc, Flow.seq_brk, Flow.seq_cnt, bltD, mthD, Res.of_some, fres_next, fres_ret, fres_exc, asB_bl, cmpD, binD, kindOf_int, kindOf_str, kindOf_non, kindOf_bl, kindOf_lst, kindOf_tup, kindOf_dic, isNon_int, isNon_str, isNon_non, isNon_bl, isNon_lst, isNon_tup, isNon_dic, Ty.sub, reduceCtorEq, decide_false, decide_true, Bool.or_false, Bool.false_or, Bool.or_true, Bool.true_or, Bool.and_false, Bool.false_and, Bool.and_true, Bool.true_and, con_ints, con_nons, con_bls, len0_L, len1_L, len2_L, len3_L, len4_L, len5_L, len6_L, con_strs, con_lsts, con_tups, con_dics, augD, lenD_str, lenD_lst, lenD_tup, lenD_dic, addD_int, subD_int, leD_int, ltD_int, leD_str, ltD_str, isD_non, Bool.not_true, Bool.not_false, Option.map_some, if_true, Bool.false_eq_true, if_false, storeAll, compF, bindT, setAll, TG'.slots, wipeF, change, pushIn, orc_call, orc_mkx, orc_sub, orc_fuel, G_mkx, G_sub, G_fuel, e1, h, e39, i1, w, sl, eqD_int, if_pos ht]
    by_cases he : a + 1 + n = t.length
    · rw [List.drop_eq_nil_of_le (show t.length ≤ a + 1 + n by omega)]
      simp only [exs, ex, evf, evi, ev, evs, evo, evc, Lp.start, List.map_cons, List.map_nil, List.length_cons, List.length_nil, List.replicate, List.cons_append, List.nil_append, List.getElem?_cons_zero, List.getElem?_cons_succ, List.set_cons_succ, List.set_cons_zero, Res.bind_ok, Res.bind_exc, Res.fl_ok, Res.fl_exc, Flow.seq_next, Flow.seq_ret, Flow.seq_exc, Flow.seq_brk, Flow.seq_cnt, bltD, mthD, Res.of_some, fres_next, fres_ret, fres_exc, asB_bl, cmpD, binD, kindOf_int, kindOf_str, kindOf_non, kindOf_bl, kindOf_lst, kindOf_tup, kindOf_dic, isNon_int, isNon_str, isNon_non, isNon_bl, isNon_lst, isNon_tup, isNon_dic, Ty.sub, reduceCtorEq, decide_false, decide_true, Bool.or_false, Bool.false_or, Bool.or_true, Bool.true_or, Bool.and_false, Bool.false_and, Bool.and_true, Bool.true_and, con_ints, con_nons, con_bls, len0_L, len1_L, len2_L, len3_L, len4_L, len5_L, len6_L, con_strs, con_lsts, con_tups, con_dics, augD, lenD_str, lenD_lst, lenD_tup, lenD_dic, addD_int, subD_int, leD_int, ltD_int, leD_str, ltD_str, isD_non, Bool.not_true, Bool.not_false, Option.map_some, if_true, Bool.false_eq_true, if_false, storeAll, compF, bindT, setAll, TG'.slots, wipeF, change, pushIn, orc_call, orc_mkx, orc_sub, orc_fuel, G_mkx, G_sub, G_fuel, he, decide_true, mkx_bad]
      rfl
    · have he' : ¬ ((a + 1 + n : Nat) : Int) = (t.length : Int) := by omega
      have hl : a + 1 + n < t.length := by omega
      simp only [he', decide_false, exs, ex, evf, evi, ev, evs, evo, evc, Lp.start, List.map_cons, List.map_nil, List.length_cons, List.length_nil, List.replicate, List.cons_append, List.nil_append, List.getElem?_cons_zero, List.getElem?_cons_succ, List.set_cons_succ, List.set_cons_zero, Res.bind_ok, Res.bind_exc, Res.fl_ok, Res.fl_exc, Flow.seq_next, Flow.seq_ret, Flow.seq_exc, Flow.seq_brk, Flow.seq_cnt, bltD, mthD, Res.of_some, fres_next, fres_ret, fres_exc, asB_bl, cmpD, binD, kindOf_int, kindOf_str, kindOf_non, kindOf_bl, kindOf_lst, kindOf_tup, kindOf_dic, isNon_int, isNon_str, isNon_non, isNon_bl, isNon_lst, isNon_tup, isNon_dic, Ty.sub, reduceCtorEq, decide_false, decide_true, Bool.or_false, Bool.false_or, Bool.or_true, Bool.true_or, Bool.and_false, Bool.false_and, Bool.and_true, Bool.true_and, con_ints, con_nons, con_bls, len0_L, len1_L, len2_L, len3_L, len4_L, len5_L, len6_L, con_strs, con_lsts, con_tups, con_dics, augD, lenD_str, lenD_lst, lenD_tup, lenD_dic, addD_int, subD_int, leD_int, ltD_int, leD_str, ltD_str, isD_non, Bool.not_true, Bool.not_false, Option.map_some, if_true, Bool.false_eq_true, if_false, storeAll, compF, bindT, setAll, TG'.slots, wipeF, change, pushIn, orc_call, orc_mkx, orc_sub, orc_fuel, G_mkx, G_sub, G_fuel, p]
      rw [List.drop_eq_getElem_cons hl]
      cases hk : textOkS wd with
      | false =>
        simp only [exs, ex, evf, evi, ev, evs, evo, evc, Lp.start, List.map_cons, List.map_nil, List.length_cons, List.length_nil, List.replicate, List.cons_append, List.nil_append, List.getElem?_cons_zero, List.getElem?_cons_succ, List.set_cons_succ, List.set_cons_zero, Res.bind_ok, Res.bind_exc, Res.fl_ok, Res.fl_exc, Flow.seq_next, Flow.seq_ret, Flow.seq_exc, Flow.seq_brk, Flow.seq_cnt, bltD, mthD, Res.of_some, fres_next, fres_ret, fres_exc, asB_bl, cmpD, binD, kindOf_int, kindOf_str, kindOf_non, kindOf_bl, kindOf_lst, kindOf_tup, kindOf_dic, isNon_int, isNon_str, isNon_non, isNon_bl, isNon_lst, isNon_tup, isNon_dic, Ty.sub, reduceCtorEq, decide_false, decide_true, Bool.or_false, Bool.false_or, Bool.or_true, Bool.true_or, Bool.and_false, Bool.false_and, Bool.and_true, Bool.true_and, con_ints, con_nons, con_bls, len0_L, len1_L, len2_L, len3_L, len4_L, len5_L, len6_L, con_strs, con_lsts, con_tups, con_dics, augD, lenD_str, lenD_lst, lenD_tup, lenD_dic, addD_int, subD_int, leD_int, ltD_int, leD_str, ltD_str, isD_non, Bool.not_true, Bool.not_false, Option.map_some, if_true, Bool.false_eq_true, if_false, storeAll, compF, bindT, setAll, TG'.slots, wipeF, change, pushIn, orc_call, orc_mkx, orc_sub, orc_fuel, G_mkx, G_sub, G_fuel, mkx_bad]
        rfl
      | true =>
        simp only [exs, ex, evf, evi, ev, evs, evo, evc, Lp.start, List.map_cons, List.map_nil, List.length_cons, List.length_nil, List.replicate, List.cons_append, List.nil_append, List.getElem?_cons_zero, List.getElem?_cons_succ, List.set_cons_succ, List.set_cons_zero, Res.bind_ok, Res.bind_exc, Res.fl_ok, Res.fl_exc, Flow.seq_next, Flow.seq_ret, Flow.seq_exc, Flow.seq_brk, Flow.seq_cnt, bltD, mthD, Res.of_some, fres_next, fres_ret, fres_exc, asB_bl, cmpD, binD, kindOf_int, kindOf_str, kindOf_non, kindOf_bl, kindOf_lst, kindOf_tup, kindOf_dic, isNon_int, isNon_str, isNon_non, isNon_bl, isNon_lst, isNon_tup, isNon_dic, Ty.sub, reduceCtorEq, decide_false, decide_true, Bool.or_false, Bool.false_or, Bool.or_true, Bool.true_or, Bool.and_false, Bool.false_and, Bool.and_true, Bool.true_and, con_ints, con_nons, con_bls, len0_L, len1_L, len2_L, len3_L, len4_L, len5_L, len6_L, con_strs, con_lsts, con_tups, con_dics, augD, lenD_str, lenD_lst, lenD_tup, lenD_dic, addD_int, subD_int, leD_int, ltD_int, leD_str, ltD_str, isD_non, Bool.not_true, Bool.not_false, Option.map_some, if_true, Bool.false_eq_true, if_false, storeAll, compF, bindT, setAll, TG'.slots, wipeF, change, pushIn, orc_call, orc_mkx, orc_sub, orc_fuel, G_mkx, G_sub, G_fuel, L_ge2]
        exact resOf_mk (by rw [List.length_drop]; omega)
  · have w := c_word_end k t a stopP M ht (by omega)
    have hf := far_le stopP (t.drop a)
    rw [List.length_drop] at hf
    have hle : a + farS stopP (t.drop a) ≤ t.length := by omega
    have sl := slc_nat ht (show a ≤ t.length by omega) hle
    rw [show a + farS stopP (t.drop a) - a = farS stopP (t.drop a) by omega, take_far] at sl
    have hw : (List.takeWhile (fun c => !List.contains stopP c) (t.drop a)).length ≤ L := by
      have e : (List.takeWhile (fun c => !List.contains stopP c) (t.drop a)).length = farS stopP (t.drop a) := rfl
      omega
    have p := c_read_number k (List.takeWhile (fun c => !List.contains stopP c) (t.drop a)) M hw
    have q : pPlain (t.drop a) = if (t.drop a).takeWhile (fun c => !stopP.contains c) = [45] then some (.non, (t.drop a).dropWhile fun c => !stopP.contains c)
      else (pNum ((t.drop a).takeWhile fun c => !stopP.contains c)).map fun i => (.int i, (t.drop a).dropWhile fun c => !stopP.contains c) := by
      rw [hd]; exact pPlain_o h
    rw [q, ← drop_far stopP (t.drop a), List.drop_drop]
    have e3 : eqD (.str (List.takeWhile (fun c => !List.contains stopP c) (t.drop a))) (.str [45]) = some (decide (List.takeWhile (fun c => !List.contains stopP c) (t.drop a) = [45])) := eqD_str (cok_tw (cok_drop hc _) _) (cok_one (by decide))
    generalize farS stopP (t.drop a) = n at w hf hle sl ⊢
    generalize List.takeWhile (fun c => !List.contains stopP c) (t.drop a) = wd at sl hw p e3 ⊢
    have w' : callN G (k + 1) "word_end" [.str t, .int (a : Int), .str [44, 93, 125, 32, 58]] M = _ := w
    simp only [exs, ex, evf, evi, ev, evs, evo, evc, Lp.start, List.map_cons, List.map_nil, List.length_cons, List.length_nil, List.replicate, List.cons_append, List.nil_append, List.getElem?_cons_zero, List.getElem?_cons_succ, List.set_cons_succ, List.set_cons_zero, Res.bind_ok, Res.bind_exc, Res.fl_ok, Res.fl_exc, Flow.seq_next, Flow.seq_ret, Flow.seq_exc, Flow.seq_brk, Flow.seq_cnt, bltD, mthD, Res.of_some, fres_next, fres_ret, fres_exc, asB_bl, cmpD, binD, kindOf_int, kindOf_str, kindOf_non, kindOf_bl, kindOf_lst, kindOf_tup, kindOf_dic, isNon_int, isNon_str, isNon_non, isNon_bl, isNon_lst, isNon_tup, isNon_dic, Ty.sub, reduceCtorEq, decide_false, decide_true, Bool.or_false, Bool.false_or, Bool.or_true, Bool.true_or, Bool.and_false, Bool.false_and, Bool.and_true, Bool.true_and, con_ints, con_nons, con_bls, len0_L, len1_L, len2_L, len3_L, len4_L, len5_L, len6_L, con_strs, con_lsts, con_tups, con_dics, augD, lenD_str, lenD_lst, lenD_tup, lenD_dic, addD_int, subD_int, leD_int, ltD_int, leD_str, ltD_str, isD_non, Bool.not_true, Bool.not_false, Option.map_some, if_true, Bool.false_eq_true, if_false, storeAll, compF, bindT, setAll, TG'.slots, wipeF, change, pushIn, orc_call, orc_mkx, orc_sub, orc_fuel, G_mkx, G_sub, G_fuel, e1, e2, h, decide_false, w', sl, e3]
    by_cases hz : wd = [45]
    · simp only [exs, ex, evf, evi, ev, evs, evo, evc, Lp.start, List.map_cons, List.map_nil, List.length_cons, List.length_nil, List.replicate, List.cons_append, List.nil_append, List.getElem?_cons_zero, List.getElem?_cons_succ, List.set_cons_succ, List.set_cons_zero, Res.bind_ok, Res.bind_exc, Res.fl_ok, Res.fl_exc, Flow.seq_next, Flow.seq_ret, Flow.seq_exc, Flow.seq_brk, Flow.seq_cnt, bltD, mthD, Res.of_some, fres_next, fres_ret, fres_exc, asB_bl, cmpD, binD, kindOf_int, kindOf_str, kindOf_non, kindOf_bl, kindOf_lst, kindOf_tup, kindOf_dic, isNon_int, isNon_str, isNon_non, isNon_bl, isNon_lst, isNon_tup, isNon_dic, Ty.sub, reduceCtorEq, decide_false, decide_true, Bool.or_false, Bool.false_or, Bool.or_true, Bool.true_or, Bool.and_false, Bool.false_and, Bool.and_true, Bool.true_and, con_ints, con_nons, con_bls, len0_L, len1_L, len2_L, len3_L, len4_L, len5_L, len6_L, con_strs, con_lsts, con_tups, con_dics, augD, lenD_str, lenD_lst, lenD_tup, lenD_dic, addD_int, subD_int, leD_int, ltD_int, leD_str, ltD_str, isD_non, Bool.not_true, Bool.not_false, Option.map_some, if_true, Bool.false_eq_true, if_false, storeAll, compF, bindT, setAll, TG'.slots, wipeF, change, pushIn, orc_call, orc_mkx, orc_sub, orc_fuel, G_mkx, G_sub, G_fuel, hz, decide_true, L_ge2]
      exact resOf_mk (by rw [List.length_drop]; omega)
    · simp only [exs, ex, evf, evi, ev, evs, evo, evc, Lp.start, List.map_cons, List.map_nil, List.length_cons, List.length_nil, List.replicate, List.cons_append, List.nil_append, List.getElem?_cons_zero, List.getElem?_cons_succ, List.set_cons_succ, List.set_cons_zero, Res.bind_ok, Res.bind_exc, Res.fl_ok, Res.fl_exc, Flow.seq_next, Flow.seq_ret, Flow.seq_exc, Flow.seq_brk, Flow.seq_cnt, bltD, mthD, Res.of_some, fres_next, fres_ret, fres_exc, asB_bl, cmpD, binD, kindOf_int, kindOf_str, kindOf_non, kindOf_bl, kindOf_lst, kindOf_tup, kindOf_dic, isNon_int, isNon_str, isNon_non, isNon_bl, isNon_lst, isNon_tup, isNon_dic, Ty.sub, reduceCtorEq, decide_false, decide_true, Bool.or_false, Bool.false_or, Bool.or_true, Bool.true_or, Bool.and_false, Bool.false_and, Bool.and_true, Bool.true_and, con_ints, con_nons, con_bls, len0_L, len1_L, len2_L, len3_L, len4_L, len5_L, len6_L, con_strs, con_lsts, con_tups, con_dics, augD, lenD_str, lenD_lst, lenD_tup, lenD_dic, addD_int, subD_int, leD_int, ltD_int, leD_str, ltD_str, isD_non, Bool.not_true, Bool.not_false, Option.map_some, if_true, Bool.false_eq_true, if_false, storeAll, compF, bindT, setAll, TG'.slots, wipeF, change, pushIn, orc_call, orc_mkx, orc_sub, orc_fuel, G_mkx, G_sub, G_fuel, hz, decide_false, p]
      cases hn : pNum wd with
      | none => rfl
      | some i =>
        simp only [exs, ex, evf, evi, ev, evs, evo, evc, Lp.start, List.map_cons, List.map_nil, List.length_cons, List.length_nil, List.replicate, List.cons_append, List.nil_append, List.getElem?_cons_zero, List.getElem?_cons_succ, List.set_cons_succ, List.set_cons_zero, Res.bind_ok, Res.bind_exc, Res.fl_ok, Res.fl_exc, Flow.seq_next, Flow.seq_ret, Flow.seq_exc, Flow.seq_brk, Flow.seq_cnt, bltD, mthD, Res.of_some, fres_next, fres_ret, fres_exc, asB_bl, cmpD, binD, kindOf_int, kindOf_str, kindOf_non, kindOf_bl, kindOf_lst, kindOf_tup, kindOf_dic, isNon_int, isNon_str, isNon_non, isNon_bl, isNon_lst, isNon_tup, isNon_dic, Ty.sub, reduceCtorEq, decide_false, decide_true, Bool.or_false, Bool.false_or, Bool.or_true, Bool.true_or, Bool.and_false, Bool.false_and, Bool.and_true, Bool.true_and, con_ints, con_nons, con_bls, len0_L, len1_L, len2_L, len3_L, len4_L, len5_L, len6_L, con_strs, con_lsts, con_tups, con_dics, augD, lenD_str, lenD_lst, lenD_tup, lenD_dic, addD_int, subD_int, leD_int, ltD_int, leD_str, ltD_str, isD_non, Bool.not_true, Bool.not_false, Option.map_some, if_true, Bool.false_eq_true, if_false, storeAll, compF, bindT, setAll, TG'.slots, wipeF, change, pushIn, orc_call, orc_mkx, orc_sub, orc_fuel, G_mkx, G_sub, G_fuel, L_ge2]
        exact resOf_mk (by rw [List.length_drop]; omega)
end K37

set_option Elab.async false
set_option linter.all false
set_option maxRecDepth 100000
set_option maxHeartbeats 1000000
namespace K37
open Lp
theorem vT_pos : ∀ {v : D}, wf v = true → 1 ≤ (vT v).length
  | .non, _ => by rw [vT_non]; simp
  | .bl _, h => by simp [wf] at h
  | .int i, _ => by
    rw [vT_int]
    by_cases h0 : 0 ≤ i
    · obtain ⟨m, rfl⟩ := Int.eq_ofNat_of_zero_le h0
      rw [intText_nat]; exact nT_pos m
    · obtain ⟨m, rfl⟩ : ∃ m : Nat, i = -((m + 1 : Nat) : Int) := ⟨i.natAbs - 1, by omega⟩
      rw [intText_neg']; simp
  | .str s, _ => by rw [vT_str]; simp
  | .lst xs, _ => by rw [vT_lst]; simp
  | .tup _, h => by simp [wf] at h
  | .dic kvs, _ => by rw [vT_dic]; simp
  | .cell _, h => by simp [wf] at h
theorem suf {t w r : S} {a : Nat} (h : t.drop a = w ++ r) (ha : a ≤ t.length) : r = t.drop (t.length - r.length) ∧ r.length + w.length + a = t.length := by
  have hl := congrArg List.length h
  rw [List.length_drop, List.length_append] at hl
  refine ⟨?_, by omega⟩
  have : t.drop (a + w.length) = r := by rw [← List.drop_drop, h, List.drop_left]
  rw [← this]
  congr 1
  rw [List.length_drop]
  omega
/-- the next sign -/
def nx (c : Nat) : S → Bool
  | [] => false
  | d :: _ => d == c
theorem slc_nx {t : S} {a c : Nat} (hc : cok t) (h : c < 1114112) : eqD (.str ((t.drop a).take 1)) (.str [c]) = some (nx c (t.drop a)) := by
  rw [eqD_str (cok_take (cok_drop hc a) 1) (cok_one h)]
  cases t.drop a with
  | nil => rfl
  | cons d r =>
    simp only [List.take_succ_cons, List.take_zero, nx]
    by_cases e : d = c
    · subst e; simp
    · simp [e]
theorem add1 (a : Nat) : ((a : Int) + 1) = ((a + 1 : Nat) : Int) := by omega
def bodyL : SXs := (.cons (.unpack [.name 4, .name 1] (.call "read_item" (.cons (.var 0) (.cons (.var 1) (.cons (.var 2) .nil))) [])) (.cons (.append (.peek 3) (.var 4)) (.cons (.ite (.cmp .eq (.slc (.var 0) (some (.var 1)) (some (.bin .add (.var 1) (.c (.int 1))))) (.c (.str [93]))) (.cons (.frz 3) (.cons (.ret (.tup (.cons (.var 3) (.cons (.bin .add (.var 1) (.c (.int 1))) .nil)))) .nil)) .nil) (.cons (.ite (.cmp .ne (.slc (.var 0) (some (.var 1)) (some (.bin .add (.var 1) (.c (.int 1))))) (.c (.str [44]))) (.cons (.raise "BadText/0" .nil) .nil) .nil) (.cons (.aug 1 .add (.c (.int 1))) .nil)))))
def D_list' : Def := ⟨3, 5, (.cons (.own 3 (.lst .nil)) (.cons (.ite (.cmp .eq (.slc (.var 0) (some (.var 1)) (some (.bin .add (.var 1) (.c (.int 1))))) (.c (.str [93]))) (.cons (.frz 3) (.cons (.ret (.tup (.cons (.var 3) (.cons (.bin .add (.var 1) (.c (.int 1))) .nil)))) .nil)) .nil) (.cons (.loop (.c (.bl true)) bodyL) .nil)))⟩
section
variable {k n : Nat} {t : S} {dp : Int} {M : Mem}
theorem loopL (ht : t.length < L) (hc : cok t) (ih : ∀ a, a ≤ t.length → callN G k "read_item" [.str t, .int (a : Int), .int dp] M = resOf t M (pItem n (t.drop a))) : ∀ (N : Nat) (acc : List D) (a : Nat) (s4 : Sl), a ≤ t.length → acc.length ≤ a → t.length - a < N →
    (∀ v r, pListGo (pItem n) N acc (t.drop a) = some (v, r) → loopGo (fun ρ M => exs (orc G k) bodyL ρ M) N [.d (.str t), .d (.int (a : Int)), .d (.int dp), .own (.lst acc), s4] M = .ret (.tup [v, .int ((t.length - r.length : Nat) : Int)]) M) ∧
    (pListGo (pItem n) N acc (t.drop a) = none → ∃ ρ, loopGo (fun ρ M => exs (orc G k) bodyL ρ M) N [.d (.str t), .d (.int (a : Int)), .d (.int dp), .own (.lst acc), s4] M = .exc bad ρ M)
  | 0, acc, a, s4, ha, hl, hN => by omega
  | N + 1, acc, a, s4, ha, hl, hN => by
    have hcall := ih a ha
    rw [pListGo]
    have unf : ∀ fl, exs (orc G k) bodyL [.d (.str t), .d (.int (a : Int)), .d (.int dp), .own (.lst acc), s4] M = fl → loopGo (fun ρ M => exs (orc G k) bodyL ρ M) (N + 1) [.d (.str t), .d (.int (a : Int)), .d (.int dp), .own (.lst acc), s4] M = (match fl with
        | .next ρ1 M1 => loopGo (fun ρ M => exs (orc G k) bodyL ρ M) N ρ1 M1
        | .cnt ρ1 M1 => loopGo (fun ρ M => exs (orc G k) bodyL ρ M) N ρ1 M1
        | .brk ρ1 M1 => .next ρ1 M1
        | .ret d M1 => .ret d M1
        | .exc x ρ1 M1 => .exc x ρ1 M1
        | .stuck => .stuck) := by
      rintro fl rfl
      rw [loopGo]
      all_goals (generalize exs (orc G k) bodyL [.d (.str t), .d (.int (a : Int)), .d (.int dp), .own (.lst acc), s4] M = fl; cases fl <;> rfl)
    cases hp : pItem n (t.drop a) with
    | none =>
      rw [hp] at hcall
      refine ⟨fun v r h => by simp at h, fun _ => ⟨_, unf (.exc bad [.d (.str t), .d (.int (a : Int)), .d (.int dp), .own (.lst acc), s4] M) ?_⟩⟩
      simp only [bodyL, exs, ex, evf, evi, ev, evs, evo, evc, Lp.start, List.map_cons, List.map_nil, List.length_cons, List.length_nil, List.replicate, List.cons_append, List.nil_append, List.getElem?_cons_zero, List.getElem?_cons_succ, List.set_cons_succ, List.set_cons_zero, Res.bind_ok, Res.bind_exc, Res.fl_ok, Res.fl_exc, Flow.seq_next, Flow.seq_ret, Flow.seq_exc, Flow.seq_brk, Flow.seq_cnt, bltD, mthD, Res.of_some, fres_next, fres_ret, fres_exc, asB_bl, cmpD, binD, kindOf_int, kindOf_str, kindOf_non, kindOf_bl, kindOf_lst, kindOf_tup, kindOf_dic, isNon_int, isNon_str, isNon_non, isNon_bl, isNon_lst, isNon_tup, isNon_dic, Ty.sub, reduceCtorEq, decide_false, decide_true, Bool.or_false, Bool.false_or, Bool.or_true, Bool.true_or, Bool.and_false, Bool.false_and, Bool.and_true, Bool.true_and, con_ints, con_nons, con_bls, len0_L, len1_L, len2_L, len3_L, len4_L, len5_L, len6_L, con_strs, con_lsts, con_tups, con_dics, augD, lenD_str, lenD_lst, lenD_tup, lenD_dic, addD_int, subD_int, leD_int, ltD_int, leD_str, ltD_str, isD_non, Bool.not_true, Bool.not_false, Option.map_some, if_true, Bool.false_eq_true, if_false, storeAll, compF, bindT, setAll, TG'.slots, wipeF, change, pushIn, orc_call, orc_mkx, orc_sub, orc_fuel, G_mkx, G_sub, G_fuel, hcall, resOf]
    | some p =>
      obtain ⟨v, r⟩ := p
      rw [hp] at hcall
      obtain ⟨e, hw, _⟩ := pItem_sound _ _ _ _ hp
      have hv := vT_pos hw
      obtain ⟨hr, hlen⟩ := suf e ha
      have ha' : t.length - r.length ≤ t.length := Nat.sub_le _ _
      have sl := slc_one (t := t) (a := t.length - r.length) (by omega) ha'
      have n93 := slc_nx (t := t) (a := t.length - r.length) (c := 93) hc (by decide)
      have n44 := slc_nx (t := t) (a := t.length - r.length) (c := 44) hc (by decide)
      rw [← hr] at n93 n44 sl
      have hpush : acc.length < L := by omega
      generalize hb : t.length - r.length = b at *
      have hone : r.length = t.length - b := by omega
      have step : exs (orc G k) bodyL [.d (.str t), .d (.int (a : Int)), .d (.int dp), .own (.lst acc), s4] M = if nx 93 r = true then .ret (.tup [.lst (acc ++ [v]), .int ((b + 1 : Nat) : Int)]) M else if nx 44 r = true then .next [.d (.str t), .d (.int ((b + 1 : Nat) : Int)), .d (.int dp), .own (.lst (acc ++ [v])), .d v] M else .exc bad [.d (.str t), .d (.int (b : Int)), .d (.int dp), .own (.lst (acc ++ [v])), .d v] M := by
        have sl' : slcD (.str t) (some (b : Int)) (some ((b + 1 : Nat) : Int)) = some (.str (r.take 1)) := by rw [← add1]; exact sl
        simp only [bodyL, exs, ex, evf, evi, ev, evs, evo, evc, Lp.start, List.map_cons, List.map_nil, List.length_cons, List.length_nil, List.replicate, List.cons_append, List.nil_append, List.getElem?_cons_zero, List.getElem?_cons_succ, List.set_cons_succ, List.set_cons_zero, Res.bind_ok, Res.bind_exc, Res.fl_ok, Res.fl_exc, Flow.seq_next, Flow.seq_ret, Flow.seq_exc, Flow.seq_brk, Flow.seq_cnt, bltD, mthD, Res.of_some, fres_next, fres_ret, fres_exc, asB_bl, cmpD, binD, kindOf_int, kindOf_str, kindOf_non, kindOf_bl, kindOf_lst, kindOf_tup, kindOf_dic, isNon_int, isNon_str, isNon_non, isNon_bl, isNon_lst, isNon_tup, isNon_dic, Ty.sub, reduceCtorEq, decide_false, decide_true, Bool.or_false, Bool.false_or, Bool.or_true, Bool.true_or, Bool.and_false, Bool.false_and, Bool.and_true, Bool.true_and, con_ints, con_nons, con_bls, len0_L, len1_L, len2_L, len3_L, len4_L, len5_L, len6_L, con_strs, con_lsts, con_tups, con_dics, augD, lenD_str, lenD_lst, lenD_tup, lenD_dic, addD_int, subD_int, leD_int, ltD_int, leD_str, ltD_str, isD_non, Bool.not_true, Bool.not_false, Option.map_some, if_true, Bool.false_eq_true, if_false, storeAll, compF, bindT, setAll, TG'.slots, wipeF, change, pushIn, orc_call, orc_mkx, orc_sub, orc_fuel, G_mkx, G_sub, G_fuel, hcall, resOf, hb, if_pos hpush, sl, n93, n44]
        cases nx 93 r with
        | true => simp only [exs, ex, evf, evi, ev, evs, evo, evc, Lp.start, List.map_cons, List.map_nil, List.length_cons, List.length_nil, List.replicate, List.cons_append, List.nil_append, List.getElem?_cons_zero, List.getElem?_cons_succ, List.set_cons_succ, List.set_cons_zero, Res.bind_ok, Res.bind_exc, Res.fl_ok, Res.fl_exc, Flow.seq_next, Flow.seq_ret, Flow.seq_exc, Flow.seq_brk, Flow.seq_cnt, bltD, mthD, Res.of_some, fres_next, fres_ret, fres_exc, asB_bl, cmpD, binD, kindOf_int, kindOf_str, kindOf_non, kindOf_bl, kindOf_lst, kindOf_tup, kindOf_dic, isNon_int, isNon_str, isNon_non, isNon_bl, isNon_lst, isNon_tup, isNon_dic, Ty.sub, reduceCtorEq, decide_false, decide_true, Bool.or_false, Bool.false_or, Bool.or_true, Bool.true_or, Bool.and_false, Bool.false_and, Bool.and_true, Bool.true_and, con_ints, con_nons, con_bls, len0_L, len1_L, len2_L, len3_L, len4_L, len5_L, len6_L, con_strs, con_lsts, con_tups, con_dics, augD, lenD_str, lenD_lst, lenD_tup, lenD_dic, addD_int, subD_int, leD_int, ltD_int, leD_str, ltD_str, isD_non, Bool.not_true, Bool.not_false, Option.map_some, if_true, Bool.false_eq_true, if_false, storeAll, compF, bindT, setAll, TG'.slots, wipeF, change, pushIn, orc_call, orc_mkx, orc_sub, orc_fuel, G_mkx, G_sub, G_fuel, L_ge2, add1]
        | false =>
          cases h4 : nx 44 r with
          | true => simp only [exs, ex, evf, evi, ev, evs, evo, evc, Lp.start, List.map_cons, List.map_nil, List.length_cons, List.length_nil, List.replicate, List.cons_append, List.nil_append, List.getElem?_cons_zero, List.getElem?_cons_succ, List.set_cons_succ, List.set_cons_zero, Res.bind_ok, Res.bind_exc, Res.fl_ok, Res.fl_exc, Flow.seq_next, Flow.seq_ret, Flow.seq_exc, Flow.seq_brk, Flow.seq_cnt, bltD, mthD, Res.of_some, fres_next, fres_ret, fres_exc, asB_bl, cmpD, binD, kindOf_int, kindOf_str, kindOf_non, kindOf_bl, kindOf_lst, kindOf_tup, kindOf_dic, isNon_int, isNon_str, isNon_non, isNon_bl, isNon_lst, isNon_tup, isNon_dic, Ty.sub, reduceCtorEq, decide_false, decide_true, Bool.or_false, Bool.false_or, Bool.or_true, Bool.true_or, Bool.and_false, Bool.false_and, Bool.and_true, Bool.true_and, con_ints, con_nons, con_bls, len0_L, len1_L, len2_L, len3_L, len4_L, len5_L, len6_L, con_strs, con_lsts, con_tups, con_dics, augD, lenD_str, lenD_lst, lenD_tup, lenD_dic, addD_int, subD_int, leD_int, ltD_int, leD_str, ltD_str, isD_non, Bool.not_true, Bool.not_false, Option.map_some, if_true, Bool.false_eq_true, if_false, storeAll, compF, bindT, setAll, TG'.slots, wipeF, change, pushIn, orc_call, orc_mkx, orc_sub, orc_fuel, G_mkx, G_sub, G_fuel, add1, sl', n44, h4]
          | false => simp only [exs, ex, evf, evi, ev, evs, evo, evc, Lp.start, List.map_cons, List.map_nil, List.length_cons, List.length_nil, List.replicate, List.cons_append, List.nil_append, List.getElem?_cons_zero, List.getElem?_cons_succ, List.set_cons_succ, List.set_cons_zero, Res.bind_ok, Res.bind_exc, Res.fl_ok, Res.fl_exc, Flow.seq_next, Flow.seq_ret, Flow.seq_exc, Flow.seq_brk, Flow.seq_cnt, bltD, mthD, Res.of_some, fres_next, fres_ret, fres_exc, asB_bl, cmpD, binD, kindOf_int, kindOf_str, kindOf_non, kindOf_bl, kindOf_lst, kindOf_tup, kindOf_dic, isNon_int, isNon_str, isNon_non, isNon_bl, isNon_lst, isNon_tup, isNon_dic, Ty.sub, reduceCtorEq, decide_false, decide_true, Bool.or_false, Bool.false_or, Bool.or_true, Bool.true_or, Bool.and_false, Bool.false_and, Bool.and_true, Bool.true_and, con_ints, con_nons, con_bls, len0_L, len1_L, len2_L, len3_L, len4_L, len5_L, len6_L, con_strs, con_lsts, con_tups, con_dics, augD, lenD_str, lenD_lst, lenD_tup, lenD_dic, addD_int, subD_int, leD_int, ltD_int, leD_str, ltD_str, isD_non, Bool.not_true, Bool.not_false, Option.map_some, if_true, Bool.false_eq_true, if_false, storeAll, compF, bindT, setAll, TG'.slots, wipeF, change, pushIn, orc_call, orc_mkx, orc_sub, orc_fuel, G_mkx, G_sub, G_fuel, add1, sl', n44, h4, mkx_bad]
      cases r with
      | nil => exact ⟨fun v r h => by simp at h, fun _ => ⟨_, unf _ step⟩⟩
      | cons d r' =>
        simp only [List.length_cons] at hone
        by_cases h93 : d = 93
        · subst h93
          refine ⟨fun v1 r1 h => ?_, fun h => by simp at h⟩
          simp only [Option.some.injEq, Prod.mk.injEq] at h
          obtain ⟨h1, h2⟩ := h
          subst h1 h2
          rw [unf _ step]
          simp only [nx, beq_self_eq_true, if_true]
          rw [show b + 1 = t.length - r'.length by omega]
        · have e93 : (d == 93) = false := beq_false_of_ne h93
          by_cases h44 : d = 44
          · subst h44
            have hd1 : t.drop (b + 1) = r' := by rw [← List.drop_drop, ← hr]; rfl
            obtain ⟨g1, g2⟩ := loopL ht hc ih N (acc ++ [v]) (b + 1) (.d v) (by omega) (by simp; omega) (by omega)
            rw [hd1] at g1 g2
            rw [unf _ step]
            simp only [nx, e93, beq_self_eq_true, if_true, Bool.false_eq_true, if_false]
            exact ⟨fun v1 r1 h => g1 v1 r1 h, fun h => g2 h⟩
          · have e44 : (d == 44) = false := beq_false_of_ne h44
            rw [unf _ step]
            simp only [nx, e93, e44, Bool.false_eq_true, if_false]
            refine ⟨fun v1 r1 h => ?_, fun _ => ⟨_, rfl⟩⟩
            split at h
            · rename_i heq; cases heq; exact absurd rfl h93
            · rename_i heq; cases heq; exact absurd rfl h44
            · cases h
end
end K37

set_option Elab.async false
set_option linter.all false
set_option maxRecDepth 100000
set_option maxHeartbeats 1000000
namespace K37
open Lp
def pLst (n : Nat) (s : S) : Option (D × S) := if nx 93 s = true then some (.lst [], s.drop 1) else pListGo (pItem n) 16777216 [] s
def pRcd (n : Nat) (s : S) : Option (D × S) := if nx 125 s = true then some (.dic [], s.drop 1) else pRecGo (pItem n) 16777216 [] [] s
theorem pItem_c (n : Nat) (c : Nat) (r : S) : pItem (n + 1) (c :: r) = if c = 91 then pLst n r else if c = 123 then pRcd n r else pPlain (c :: r) := by
  by_cases h1 : c = 91
  · subst h1
    rw [if_pos rfl, pLst]
    cases r with
    | nil =>
      rw [pItem]
      · rfl
      · intro t e; cases e
    | cons d q =>
      by_cases h : d = 93
      · subst h
        rw [pItem]
        simp [nx]
      · have : nx 93 (d :: q) = false := beq_false_of_ne h
        rw [this, pItem]
        · simp only [Bool.false_eq_true, if_false]
        · intro t e; cases e; exact h rfl
  · by_cases h2 : c = 123
    · subst h2
      rw [if_neg (by decide), if_pos rfl, pRcd]
      cases r with
      | nil =>
        rw [pItem]
        · rfl
        · intro t e; cases e
      | cons d q =>
        by_cases h : d = 125
        · subst h
          rw [pItem]
          simp [nx]
        · have : nx 125 (d :: q) = false := beq_false_of_ne h
          rw [this, pItem]
          · simp only [Bool.false_eq_true, if_false]
          · intro t e; cases e; exact h rfl
    · rw [if_neg h1, if_neg h2, pItem]
      · intro e; cases e
      · intro q e; cases e; exact h1 rfl
      · intro q e; cases e; exact h2 rfl
theorem nx_drop {t : S} {a c : Nat} (h : nx c (t.drop a) = true) : a < t.length := by
  by_cases hl : a < t.length
  · exact hl
  · rw [List.drop_eq_nil_of_le (by omega)] at h
    cases h
section
variable {k n : Nat} {t : S} {dp : Int} {M : Mem}
theorem c_list (ht : t.length < L) (hc : cok t) (ih : ∀ a, a ≤ t.length → callN G k "read_item" [.str t, .int (a : Int), .int dp] M = resOf t M (pItem n (t.drop a))) (a : Nat) (ha : a ≤ t.length) :
    callN G (k+1) "read_list" [.str t, .int (a : Int), .int dp] M = resOf t M (pLst n (t.drop a)) := by
  rw [callN_run (d := D_list') rfl k _ _ rfl]
  have sl := slc_one (t := t) (a := a) (by omega) ha
  have n93 := slc_nx (t := t) (a := a) (c := 93) hc (by decide)
  simp only [D_list', exs, ex, evf, evi, ev, evs, evo, evc, Lp.start, List.map_cons, List.map_nil, List.length_cons, List.length_nil, List.replicate, List.cons_append, List.nil_append, List.getElem?_cons_zero, List.getElem?_cons_succ, List.set_cons_succ, List.set_cons_zero, Res.bind_ok, Res.bind_exc, Res.fl_ok, Res.fl_exc, Flow.seq_next, Flow.seq_ret, Flow.seq_exc, Flow.seq_brk, Flow.seq_cnt, bltD, mthD, Res.of_some, fres_next, fres_ret, fres_exc, asB_bl, cmpD, binD, kindOf_int, kindOf_str, kindOf_non, kindOf_bl, kindOf_lst, kindOf_tup, kindOf_dic, isNon_int, isNon_str, isNon_non, isNon_bl, isNon_lst, isNon_tup, isNon_dic, Ty.sub, reduceCtorEq, decide_false, decide_true, Bool.or_false, Bool.false_or, Bool.or_true, Bool.true_or, Bool.and_false, Bool.false_and, Bool.and_true, Bool.true_and, con_ints, con_nons, con_bls, len0_L, len1_L, len2_L, len3_L, len4_L, len5_L, len6_L, con_strs, con_lsts, con_tups, con_dics, augD, lenD_str, lenD_lst, lenD_tup, lenD_dic, addD_int, subD_int, leD_int, ltD_int, leD_str, ltD_str, isD_non, Bool.not_true, Bool.not_false, Option.map_some, if_true, Bool.false_eq_true, if_false, storeAll, compF, bindT, setAll, TG'.slots, wipeF, change, pushIn, orc_call, orc_mkx, orc_sub, orc_fuel, G_mkx, G_sub, G_fuel, sl, n93, pLst]
  cases hn : nx 93 (t.drop a) with
  | true =>
    have := nx_drop hn
    simp only [exs, ex, evf, evi, ev, evs, evo, evc, Lp.start, List.map_cons, List.map_nil, List.length_cons, List.length_nil, List.replicate, List.cons_append, List.nil_append, List.getElem?_cons_zero, List.getElem?_cons_succ, List.set_cons_succ, List.set_cons_zero, Res.bind_ok, Res.bind_exc, Res.fl_ok, Res.fl_exc, Flow.seq_next, Flow.seq_ret, Flow.seq_exc, Flow.seq_brk, Flow.seq_cnt, bltD, mthD, Res.of_some, fres_next, fres_ret, fres_exc, asB_bl, cmpD, binD, kindOf_int, kindOf_str, kindOf_non, kindOf_bl, kindOf_lst, kindOf_tup, kindOf_dic, isNon_int, isNon_str, isNon_non, isNon_bl, isNon_lst, isNon_tup, isNon_dic, Ty.sub, reduceCtorEq, decide_false, decide_true, Bool.or_false, Bool.false_or, Bool.or_true, Bool.true_or, Bool.and_false, Bool.false_and, Bool.and_true, Bool.true_and, con_ints, con_nons, con_bls, len0_L, len1_L, len2_L, len3_L, len4_L, len5_L, len6_L, con_strs, con_lsts, con_tups, con_dics, augD, lenD_str, lenD_lst, lenD_tup, lenD_dic, addD_int, subD_int, leD_int, ltD_int, leD_str, ltD_str, isD_non, Bool.not_true, Bool.not_false, Option.map_some, if_true, Bool.false_eq_true, if_false, storeAll, compF, bindT, setAll, TG'.slots, wipeF, change, pushIn, orc_call, orc_mkx, orc_sub, orc_fuel, G_mkx, G_sub, G_fuel]
    exact resOf_mk (by rw [List.length_drop, List.length_drop]; omega)
  | false =>
    have hL : L = 16777216 := rfl
    obtain ⟨g1, g2⟩ := loopL ht hc ih 16777216 [] a .no ha (Nat.zero_le _) (by omega)
    simp only [exs, ex, evf, evi, ev, evs, evo, evc, Lp.start, List.map_cons, List.map_nil, List.length_cons, List.length_nil, List.replicate, List.cons_append, List.nil_append, List.getElem?_cons_zero, List.getElem?_cons_succ, List.set_cons_succ, List.set_cons_zero, Res.bind_ok, Res.bind_exc, Res.fl_ok, Res.fl_exc, Flow.seq_next, Flow.seq_ret, Flow.seq_exc, Flow.seq_brk, Flow.seq_cnt, bltD, mthD, Res.of_some, fres_next, fres_ret, fres_exc, asB_bl, cmpD, binD, kindOf_int, kindOf_str, kindOf_non, kindOf_bl, kindOf_lst, kindOf_tup, kindOf_dic, isNon_int, isNon_str, isNon_non, isNon_bl, isNon_lst, isNon_tup, isNon_dic, Ty.sub, reduceCtorEq, decide_false, decide_true, Bool.or_false, Bool.false_or, Bool.or_true, Bool.true_or, Bool.and_false, Bool.false_and, Bool.and_true, Bool.true_and, con_ints, con_nons, con_bls, len0_L, len1_L, len2_L, len3_L, len4_L, len5_L, len6_L, con_strs, con_lsts, con_tups, con_dics, augD, lenD_str, lenD_lst, lenD_tup, lenD_dic, addD_int, subD_int, leD_int, ltD_int, leD_str, ltD_str, isD_non, Bool.not_true, Bool.not_false, Option.map_some, if_true, Bool.false_eq_true, if_false, storeAll, compF, bindT, setAll, TG'.slots, wipeF, change, pushIn, orc_call, orc_mkx, orc_sub, orc_fuel, G_mkx, G_sub, G_fuel]
    cases hp : pListGo (pItem n) 16777216 [] (t.drop a) with
    | none =>
      obtain ⟨ρ, e⟩ := g2 hp
      rw [e]
      rfl
    | some p =>
      obtain ⟨v, r⟩ := p
      rw [g1 v r hp]
      rfl
end
end K37

set_option Elab.async false
set_option linter.all false
set_option maxRecDepth 100000
set_option maxHeartbeats 2000000
namespace K37
open Lp
def bodyR : SXs := (.cons (.set 5 (.call "word_end" (.cons (.var 0) (.cons (.var 1) (.cons (.c (.str [58])) .nil))) [])) (.cons (.set 6 (.slc (.var 0) (some (.var 1)) (some (.var 5)))) (.cons (.ite (.or (.cmp .eq (.var 5) (.blt .len (.var 0))) (.or (.not (.call "is_name" (.cons (.var 6) .nil) [])) (.cmp .le (.var 6) (.var 4)))) (.cons (.raise "BadText/0" .nil) .nil) .nil) (.cons (.unpack [.item 3 (.var 6), .name 1] (.call "read_item" (.cons (.var 0) (.cons (.bin .add (.var 5) (.c (.int 1))) (.cons (.var 2) .nil))) [])) (.cons (.set 4 (.var 6)) (.cons (.ite (.cmp .eq (.slc (.var 0) (some (.var 1)) (some (.bin .add (.var 1) (.c (.int 1))))) (.c (.str [125]))) (.cons (.frz 3) (.cons (.ret (.tup (.cons (.var 3) (.cons (.bin .add (.var 1) (.c (.int 1))) .nil)))) .nil)) .nil) (.cons (.ite (.cmp .ne (.slc (.var 0) (some (.var 1)) (some (.bin .add (.var 1) (.c (.int 1))))) (.c (.str [44]))) (.cons (.raise "BadText/0" .nil) .nil) .nil) (.cons (.aug 1 .add (.c (.int 1))) .nil))))))))
def D_rec' : Def := ⟨3, 7, (.cons (.own 3 .dic) (.cons (.ite (.cmp .eq (.slc (.var 0) (some (.var 1)) (some (.bin .add (.var 1) (.c (.int 1))))) (.c (.str [125]))) (.cons (.frz 3) (.cons (.ret (.tup (.cons (.var 3) (.cons (.bin .add (.var 1) (.c (.int 1))) .nil)))) .nil)) .nil) (.cons (.set 4 (.c (.str []))) (.cons (.loop (.c (.bl true)) bodyR) .nil))))⟩
/-- the names so far rise up to last -/
def upTo (acc : List (DKey × D)) (last : S) : Prop := ∀ p ∈ acc, ∃ s, p.1 = .inr s ∧ (s = last ∨ ltS s last = true)
theorem put_new {acc : List (DKey × D)} {last nm : S} {v : D} (h : upTo acc last) (hl : ltS last nm = true) : dputA acc (.inr nm) v = acc ++ [(.inr nm, v)] := by
  unfold dputA
  rw [if_neg]
  intro hh
  obtain ⟨p, hp, e⟩ := List.any_eq_true.mp hh
  obtain ⟨s, es, hs⟩ := h p hp
  have e2 : p.1 = .inr nm := of_decide_eq_true e
  rw [es] at e2
  cases e2
  rcases hs with rfl | hs
  · rw [ltS_irr2] at hl; cases hl
  · have := ltS_tr hs hl
    rw [ltS_irr2] at this; cases this
theorem upTo_put {acc : List (DKey × D)} {last nm : S} {v : D} (h : upTo acc last) (hl : ltS last nm = true) : upTo (acc ++ [(.inr nm, v)]) nm := by
  intro p hp
  rcases List.mem_append.mp hp with hp | hp
  · obtain ⟨s, es, hs⟩ := h p hp
    refine ⟨s, es, .inr ?_⟩
    rcases hs with rfl | hs
    · exact hl
    · exact ltS_tr hs hl
  · rw [List.mem_singleton.mp hp]
    exact ⟨nm, rfl, .inl rfl⟩
section
variable {k n : Nat} {t : S} {dp : Int} {M : Mem}
theorem putIn_dic {acc : List (DKey × D)} {s : S} {v : D} : putIn (.dic acc) (.str s) v = if acc.length < L then some (.dic (dputA acc (.inr s) v)) else none := rfl
theorem loopR (ht : t.length < L) (hc : cok t) (ih : ∀ a, a ≤ t.length → callN G (k+1) "read_item" [.str t, .int (a : Int), .int dp] M = resOf t M (pItem n (t.drop a))) : ∀ (N : Nat) (acc : List (DKey × D)) (last : S) (a : Nat) (s5 s6 : Sl), a ≤ t.length → acc.length ≤ a → upTo acc last → t.length - a < N →
    (∀ v r, pRecGo (pItem n) N acc last (t.drop a) = some (v, r) → loopGo (fun ρ M => exs (orc G (k+1)) bodyR ρ M) N [.d (.str t), .d (.int (a : Int)), .d (.int dp), .own (.dic acc), .d (.str last), s5, s6] M = .ret (.tup [v, .int ((t.length - r.length : Nat) : Int)]) M) ∧
    (pRecGo (pItem n) N acc last (t.drop a) = none → ∃ ρ, loopGo (fun ρ M => exs (orc G (k+1)) bodyR ρ M) N [.d (.str t), .d (.int (a : Int)), .d (.int dp), .own (.dic acc), .d (.str last), s5, s6] M = .exc bad ρ M)
  | 0, acc, last, a, s5, s6, ha, hl, hu, hN => by omega
  | N + 1, acc, last, a, s5, s6, ha, hl, hu, hN => by
    have unf : ∀ fl, exs (orc G (k+1)) bodyR [.d (.str t), .d (.int (a : Int)), .d (.int dp), .own (.dic acc), .d (.str last), s5, s6] M = fl → loopGo (fun ρ M => exs (orc G (k+1)) bodyR ρ M) (N + 1) [.d (.str t), .d (.int (a : Int)), .d (.int dp), .own (.dic acc), .d (.str last), s5, s6] M = (match fl with
        | .next ρ1 M1 => loopGo (fun ρ M => exs (orc G (k+1)) bodyR ρ M) N ρ1 M1
        | .cnt ρ1 M1 => loopGo (fun ρ M => exs (orc G (k+1)) bodyR ρ M) N ρ1 M1
        | .brk ρ1 M1 => .next ρ1 M1
        | .ret d M1 => .ret d M1
        | .exc x ρ1 M1 => .exc x ρ1 M1
        | .stuck => .stuck) := by
      rintro fl rfl
      rw [loopGo]
      all_goals (generalize exs (orc G (k+1)) bodyR [.d (.str t), .d (.int (a : Int)), .d (.int dp), .own (.dic acc), .d (.str last), s5, s6] M = fl; cases fl <;> rfl)
    have w := c_word_end k t a [58] M (by omega) ha
    have hf := far_le [58] (t.drop a)
    rw [List.length_drop] at hf
    have hle : a + farS [58] (t.drop a) ≤ t.length := by omega
    have sl := slc_nat (by omega) ha hle
    rw [show a + farS [58] (t.drop a) - a = farS [58] (t.drop a) by omega, take_far] at sl
    have hw : (nmOf (t.drop a)).length ≤ L := by
      have e : (nmOf (t.drop a)).length = farS [58] (t.drop a) := rfl
      omega
    have p := c_is_name k (nmOf (t.drop a)) M hw
    have haft : aftOf (t.drop a) = t.drop (a + farS [58] (t.drop a)) := by
      rw [← List.drop_drop, drop_far]; rfl
    rw [pRecGo, haft]
    have sl : slcD (.str t) (some (a : Int)) (some ((a + farS [58] (t.drop a) : Nat) : Int)) = some (.str (nmOf (t.drop a))) := sl
    generalize farS [58] (t.drop a) = m at w hf hle sl haft ⊢
    generalize nmOf (t.drop a) = nm at sl hw p ⊢
    have ht' : t.length ≤ L := by omega
    by_cases he : a + m = t.length
    · rw [List.drop_eq_nil_of_le (show t.length ≤ a + m by omega)]
      refine ⟨fun v r h => by simp at h, fun _ => ⟨_, unf (.exc bad [.d (.str t), .d (.int (a : Int)), .d (.int dp), .own (.dic acc), .d (.str last), .d (.int ((a + m : Nat) : Int)), .d (.str nm)] M) ?_⟩⟩
      have he2 : (((a + m : Nat) : Int) = (t.length : Int)) = True := eq_true (by omega)
      simp only [bodyR, exs, ex, evf, evi, ev, evs, evo, evc, Lp.start, List.map_cons, List.map_nil, List.length_cons, List.length_nil, List.replicate, List.cons_append, List.nil_append, List.getElem?_cons_zero, List.getElem?_cons_succ, List.set_cons_succ, List.set_cons_zero, Res.bind_ok, Res.bind_exc, Res.fl_ok, Res.fl_exc, Flow.seq_next, Flow.seq_ret, Flow.seq_exc, Flow.seq_brk, Flow.seq_cnt, bltD, mthD, Res.of_some, fres_next, fres_ret, fres_exc, asB_bl, cmpD, binD, kindOf_int, kindOf_str, kindOf_non, kindOf_bl, kindOf_lst, kindOf_tup, kindOf_dic, isNon_int, isNon_str, isNon_non, isNon_bl, isNon_lst, isNon_tup, isNon_dic, Ty.sub, reduceCtorEq, decide_false, decide_true, Bool.or_false, Bool.false_or, Bool.or_true, Bool.true_or, Bool.and_false, Bool.false_and, Bool.and_true, Bool.true_and, con_ints, con_nons, con_bls, len0_L, len1_L, len2_L, len3_L, len4_L, len5_L, len6_L, con_strs, con_lsts, con_tups, con_dics, augD, lenD_str, lenD_lst, lenD_tup, lenD_dic, addD_int, subD_int, leD_int, ltD_int, leD_str, ltD_str, isD_non, Bool.not_true, Bool.not_false, Option.map_some, if_true, Bool.false_eq_true, if_false, storeAll, compF, bindT, setAll, TG'.slots, wipeF, change, pushIn, orc_call, orc_mkx, orc_sub, orc_fuel, G_mkx, G_sub, G_fuel, w, sl, if_pos ht', eqD_int, he2, decide_true, mkx_bad]
    · have he' : ¬ ((a + m : Nat) : Int) = (t.length : Int) := by omega
      have hlt : a + m < t.length := by omega
      rw [List.drop_eq_getElem_cons hlt]
      simp only
      by_cases hk : isNameS nm = true ∧ ltS last nm = true
      · rw [if_pos hk]
        have hcall := ih (a + m + 1) (by omega)
        cases hp : pItem n (t.drop (a + m + 1)) with
        | none =>
          rw [hp] at hcall
          refine ⟨fun v r h => by simp at h, fun _ => ⟨_, unf (.exc bad [.d (.str t), .d (.int (a : Int)), .d (.int dp), .own (.dic acc), .d (.str last), .d (.int ((a + m : Nat) : Int)), .d (.str nm)] M) ?_⟩⟩
          simp only [bodyR, exs, ex, evf, evi, ev, evs, evo, evc, Lp.start, List.map_cons, List.map_nil, List.length_cons, List.length_nil, List.replicate, List.cons_append, List.nil_append, List.getElem?_cons_zero, List.getElem?_cons_succ, List.set_cons_succ, List.set_cons_zero, Res.bind_ok, Res.bind_exc, Res.fl_ok, Res.fl_exc, Flow.seq_next, Flow.seq_ret, Flow.seq_exc, Flow.seq_brk, Flow.seq_cnt, bltD, mthD, Res.of_some, fres_next, fres_ret, fres_exc, asB_bl, cmpD, binD, kindOf_int, kindOf_str, kindOf_non, kindOf_bl, kindOf_lst, kindOf_tup, kindOf_dic, isNon_int, isNon_str, isNon_non, isNon_bl, isNon_lst, isNon_tup, isNon_dic, Ty.sub, reduceCtorEq, decide_false, decide_true, Bool.or_false, Bool.false_or, Bool.or_true, Bool.true_or, Bool.and_false, Bool.false_and, Bool.and_true, Bool.true_and, con_ints, con_nons, con_bls, len0_L, len1_L, len2_L, len3_L, len4_L, len5_L, len6_L, con_strs, con_lsts, con_tups, con_dics, augD, lenD_str, lenD_lst, lenD_tup, lenD_dic, addD_int, subD_int, leD_int, ltD_int, leD_str, ltD_str, isD_non, Bool.not_true, Bool.not_false, Option.map_some, if_true, Bool.false_eq_true, if_false, storeAll, compF, bindT, setAll, TG'.slots, wipeF, change, pushIn, orc_call, orc_mkx, orc_sub, orc_fuel, G_mkx, G_sub, G_fuel, w, sl, if_pos ht', eqD_int, he', decide_false, p, hk.1, hk.2, add1, hcall, resOf]
        | some q =>
          obtain ⟨v, r⟩ := q
          rw [hp] at hcall
          obtain ⟨e, hw2, _⟩ := pItem_sound _ _ _ _ hp
          have hv := vT_pos hw2
          obtain ⟨hr, hlen⟩ := suf e (by omega)
          have ha' : t.length - r.length ≤ t.length := Nat.sub_le _ _
          have sl2 := slc_one (t := t) (a := t.length - r.length) (by omega) ha'
          have n93 := slc_nx (t := t) (a := t.length - r.length) (c := 125) hc (by decide)
          have n44 := slc_nx (t := t) (a := t.length - r.length) (c := 44) hc (by decide)
          rw [← hr] at n93 n44 sl2
          have hpush : acc.length < L := by omega
          generalize hb : t.length - r.length = b at *
          have hone : r.length = t.length - b := by omega
          have sl2' : slcD (.str t) (some (b : Int)) (some ((b + 1 : Nat) : Int)) = some (.str (r.take 1)) := by rw [← add1]; exact sl2
          have pd : putIn (.dic acc) (.str nm) v = some (.dic (acc ++ [(.inr nm, v)])) := by rw [putIn_dic, if_pos hpush, put_new hu hk.2]
          have step : exs (orc G (k+1)) bodyR [.d (.str t), .d (.int (a : Int)), .d (.int dp), .own (.dic acc), .d (.str last), s5, s6] M = if nx 125 r = true then .ret (.tup [.dic (acc ++ [(.inr nm, v)]), .int ((b + 1 : Nat) : Int)]) M else if nx 44 r = true then .next [.d (.str t), .d (.int ((b + 1 : Nat) : Int)), .d (.int dp), .own (.dic (acc ++ [(.inr nm, v)])), .d (.str nm), .d (.int ((a + m : Nat) : Int)), .d (.str nm)] M else .exc bad [.d (.str t), .d (.int (b : Int)), .d (.int dp), .own (.dic (acc ++ [(.inr nm, v)])), .d (.str nm), .d (.int ((a + m : Nat) : Int)), .d (.str nm)] M := by
            simp only [bodyR, exs, ex, evf, evi, ev, evs, evo, evc, Lp.start, List.map_cons, List.map_nil, List.length_cons, List.length_nil, List.replicate, List.cons_append, List.nil_append, List.getElem?_cons_zero, List.getElem?_cons_succ, List.set_cons_succ, List.set_cons_zero, Res.bind_ok, Res.bind_exc, Res.fl_ok, Res.fl_exc, Flow.seq_next, Flow.seq_ret, Flow.seq_exc, Flow.seq_brk, Flow.seq_cnt, bltD, mthD, Res.of_some, fres_next, fres_ret, fres_exc, asB_bl, cmpD, binD, kindOf_int, kindOf_str, kindOf_non, kindOf_bl, kindOf_lst, kindOf_tup, kindOf_dic, isNon_int, isNon_str, isNon_non, isNon_bl, isNon_lst, isNon_tup, isNon_dic, Ty.sub, reduceCtorEq, decide_false, decide_true, Bool.or_false, Bool.false_or, Bool.or_true, Bool.true_or, Bool.and_false, Bool.false_and, Bool.and_true, Bool.true_and, con_ints, con_nons, con_bls, len0_L, len1_L, len2_L, len3_L, len4_L, len5_L, len6_L, con_strs, con_lsts, con_tups, con_dics, augD, lenD_str, lenD_lst, lenD_tup, lenD_dic, addD_int, subD_int, leD_int, ltD_int, leD_str, ltD_str, isD_non, Bool.not_true, Bool.not_false, Option.map_some, if_true, Bool.false_eq_true, if_false, storeAll, compF, bindT, setAll, TG'.slots, wipeF, change, pushIn, orc_call, orc_mkx, orc_sub, orc_fuel, G_mkx, G_sub, G_fuel, w, sl, if_pos ht', eqD_int, he', decide_false, p, hk.1, hk.2, add1, hcall, resOf, hb, pd, sl2', n93, n44]
            cases h3 : nx 125 r with
            | true => simp only [exs, ex, evf, evi, ev, evs, evo, evc, Lp.start, List.map_cons, List.map_nil, List.length_cons, List.length_nil, List.replicate, List.cons_append, List.nil_append, List.getElem?_cons_zero, List.getElem?_cons_succ, List.set_cons_succ, List.set_cons_zero, Res.bind_ok, Res.bind_exc, Res.fl_ok, Res.fl_exc, Flow.seq_next, Flow.seq_ret, Flow.seq_exc, Flow.seq_brk, Flow.seq_cnt, bltD, mthD, Res.of_some, fres_next, fres_ret, fres_exc, asB_bl, cmpD, binD, kindOf_int, kindOf_str, kindOf_non, kindOf_bl, kindOf_lst, kindOf_tup, kindOf_dic, isNon_int, isNon_str, isNon_non, isNon_bl, isNon_lst, isNon_tup, isNon_dic, Ty.sub, reduceCtorEq, decide_false, decide_true, Bool.or_false, Bool.false_or, Bool.or_true, Bool.true_or, Bool.and_false, Bool.false_and, Bool.and_true, Bool.true_and, con_ints, con_nons, con_bls, len0_L, len1_L, len2_L, len3_L, len4_L, len5_L, len6_L, con_strs, con_lsts, con_tups, con_dics, augD, lenD_str, lenD_lst, lenD_tup, lenD_dic, addD_int, subD_int, leD_int, ltD_int, leD_str, ltD_str, isD_non, Bool.not_true, Bool.not_false, Option.map_some, if_true, Bool.false_eq_true, if_false, storeAll, compF, bindT, setAll, TG'.slots, wipeF, change, pushIn, orc_call, orc_mkx, orc_sub, orc_fuel, G_mkx, G_sub, G_fuel]
            | false =>
              cases h4 : nx 44 r with
              | true => simp only [exs, ex, evf, evi, ev, evs, evo, evc, Lp.start, List.map_cons, List.map_nil, List.length_cons, List.length_nil, List.replicate, List.cons_append, List.nil_append, List.getElem?_cons_zero, List.getElem?_cons_succ, List.set_cons_succ, List.set_cons_zero, Res.bind_ok, Res.bind_exc, Res.fl_ok, Res.fl_exc, Flow.seq_next, Flow.seq_ret, Flow.seq_exc, Flow.seq_brk, Flow.seq_cnt, bltD, mthD, Res.of_some, fres_next, fres_ret, fres_exc, asB_bl, cmpD, binD, kindOf_int, kindOf_str, kindOf_non, kindOf_bl, kindOf_lst, kindOf_tup, kindOf_dic, isNon_int, isNon_str, isNon_non, isNon_bl, isNon_lst, isNon_tup, isNon_dic, Ty.sub, reduceCtorEq, decide_false, decide_true, Bool.or_false, Bool.false_or, Bool.or_true, Bool.true_or, Bool.and_false, Bool.false_and, Bool.and_true, Bool.true_and, con_ints, con_nons, con_bls, len0_L, len1_L, len2_L, len3_L, len4_L, len5_L, len6_L, con_strs, con_lsts, con_tups, con_dics, augD, lenD_str, lenD_lst, lenD_tup, lenD_dic, addD_int, subD_int, leD_int, ltD_int, leD_str, ltD_str, isD_non, Bool.not_true, Bool.not_false, Option.map_some, if_true, Bool.false_eq_true, if_false, storeAll, compF, bindT, setAll, TG'.slots, wipeF, change, pushIn, orc_call, orc_mkx, orc_sub, orc_fuel, G_mkx, G_sub, G_fuel, add1, sl2', n44, h4]
              | false => simp only [exs, ex, evf, evi, ev, evs, evo, evc, Lp.start, List.map_cons, List.map_nil, List.length_cons, List.length_nil, List.replicate, List.cons_append, List.nil_append, List.getElem?_cons_zero, List.getElem?_cons_succ, List.set_cons_succ, List.set_cons_zero, Res.bind_ok, Res.bind_exc, Res.fl_ok, Res.fl_exc, Flow.seq_next, Flow.seq_ret, Flow.seq_exc, Flow.seq_brk, Flow.seq_cnt, bltD, mthD, Res.of_some, fres_next, fres_ret, fres_exc, asB_bl, cmpD, binD, kindOf_int, kindOf_str, kindOf_non, kindOf_bl, kindOf_lst, kindOf_tup, kindOf_dic, isNon_int, isNon_str, isNon_non, isNon_bl, isNon_lst, isNon_tup, isNon_dic, Ty.sub, reduceCtorEq, decide_false, decide_true, Bool.or_false, Bool.false_or, Bool.or_true, Bool.true_or, Bool.and_false, Bool.false_and, Bool.and_true, Bool.true_and, con_ints, con_nons, con_bls, len0_L, len1_L, len2_L, len3_L, len4_L, len5_L, len6_L, con_strs, con_lsts, con_tups, con_dics, augD, lenD_str, lenD_lst, lenD_tup, lenD_dic, addD_int, subD_int, leD_int, ltD_int, leD_str, ltD_str, isD_non, Bool.not_true, Bool.not_false, Option.map_some, if_true, Bool.false_eq_true, if_false, storeAll, compF, bindT, setAll, TG'.slots, wipeF, change, pushIn, orc_call, orc_mkx, orc_sub, orc_fuel, G_mkx, G_sub, G_fuel, add1, sl2', n44, h4, mkx_bad]
          cases r with
          | nil => exact ⟨fun v r h => by simp at h, fun _ => ⟨_, unf _ step⟩⟩
          | cons d r' =>
            simp only [List.length_cons] at hone
            by_cases h93 : d = 125
            · subst h93
              refine ⟨fun v1 r1 h => ?_, fun h => by simp at h⟩
              simp only [Option.some.injEq, Prod.mk.injEq] at h
              obtain ⟨h1, h2⟩ := h
              subst h1 h2
              rw [unf _ step]
              simp only [nx, beq_self_eq_true, if_true]
              rw [show b + 1 = t.length - r'.length by omega]
            · have e93 : (d == 125) = false := beq_false_of_ne h93
              by_cases h44 : d = 44
              · subst h44
                have hd1 : t.drop (b + 1) = r' := by rw [← List.drop_drop, ← hr]; rfl
                obtain ⟨g1, g2⟩ := loopR ht hc ih N (acc ++ [(.inr nm, v)]) nm (b + 1) (.d (.int ((a + m : Nat) : Int))) (.d (.str nm)) (by omega) (by simp; omega) (upTo_put hu hk.2) (by omega)
                rw [hd1] at g1 g2
                rw [unf _ step]
                simp only [nx, e93, beq_self_eq_true, if_true, Bool.false_eq_true, if_false]
                exact ⟨fun v1 r1 h => g1 v1 r1 h, fun h => g2 h⟩
              · have e44 : (d == 44) = false := beq_false_of_ne h44
                rw [unf _ step]
                simp only [nx, e93, e44, Bool.false_eq_true, if_false]
                refine ⟨fun v1 r1 h => ?_, fun _ => ⟨_, rfl⟩⟩
                split at h
                · rename_i heq; cases heq; exact absurd rfl h93
                · rename_i heq; cases heq; exact absurd rfl h44
                · cases h
      · rw [if_neg hk]
        refine ⟨fun v r h => by simp at h, fun _ => ⟨_, unf (.exc bad [.d (.str t), .d (.int (a : Int)), .d (.int dp), .own (.dic acc), .d (.str last), .d (.int ((a + m : Nat) : Int)), .d (.str nm)] M) ?_⟩⟩
        cases h1 : isNameS nm with
        | false => simp only [bodyR, exs, ex, evf, evi, ev, evs, evo, evc, Lp.start, List.map_cons, List.map_nil, List.length_cons, List.length_nil, List.replicate, List.cons_append, List.nil_append, List.getElem?_cons_zero, List.getElem?_cons_succ, List.set_cons_succ, List.set_cons_zero, Res.bind_ok, Res.bind_exc, Res.fl_ok, Res.fl_exc, Flow.seq_next, Flow.seq_ret, Flow.seq_exc, Flow.seq_brk, Flow.seq_cnt, bltD, mthD, Res.of_some, fres_next, fres_ret, fres_exc, asB_bl, cmpD, binD, kindOf_int, kindOf_str, kindOf_non, kindOf_bl, kindOf_lst, kindOf_tup, kindOf_dic, isNon_int, isNon_str, isNon_non, isNon_bl, isNon_lst, isNon_tup, isNon_dic, Ty.sub, reduceCtorEq, decide_false, decide_true, Bool.or_false, Bool.false_or, Bool.or_true, Bool.true_or, Bool.and_false, Bool.false_and, Bool.and_true, Bool.true_and, con_ints, con_nons, con_bls, len0_L, len1_L, len2_L, len3_L, len4_L, len5_L, len6_L, con_strs, con_lsts, con_tups, con_dics, augD, lenD_str, lenD_lst, lenD_tup, lenD_dic, addD_int, subD_int, leD_int, ltD_int, leD_str, ltD_str, isD_non, Bool.not_true, Bool.not_false, Option.map_some, if_true, Bool.false_eq_true, if_false, storeAll, compF, bindT, setAll, TG'.slots, wipeF, change, pushIn, orc_call, orc_mkx, orc_sub, orc_fuel, G_mkx, G_sub, G_fuel, w, sl, if_pos ht', eqD_int, he', decide_false, p, h1, mkx_bad]
        | true =>
          have h2 : ltS last nm = false := by
            cases h2 : ltS last nm with
            | false => rfl
            | true => exact absurd ⟨h1, h2⟩ hk
          simp only [bodyR, exs, ex, evf, evi, ev, evs, evo, evc, Lp.start, List.map_cons, List.map_nil, List.length_cons, List.length_nil, List.replicate, List.cons_append, List.nil_append, List.getElem?_cons_zero, List.getElem?_cons_succ, List.set_cons_succ, List.set_cons_zero, Res.bind_ok, Res.bind_exc, Res.fl_ok, Res.fl_exc, Flow.seq_next, Flow.seq_ret, Flow.seq_exc, Flow.seq_brk, Flow.seq_cnt, bltD, mthD, Res.of_some, fres_next, fres_ret, fres_exc, asB_bl, cmpD, binD, kindOf_int, kindOf_str, kindOf_non, kindOf_bl, kindOf_lst, kindOf_tup, kindOf_dic, isNon_int, isNon_str, isNon_non, isNon_bl, isNon_lst, isNon_tup, isNon_dic, Ty.sub, reduceCtorEq, decide_false, decide_true, Bool.or_false, Bool.false_or, Bool.or_true, Bool.true_or, Bool.and_false, Bool.false_and, Bool.and_true, Bool.true_and, con_ints, con_nons, con_bls, len0_L, len1_L, len2_L, len3_L, len4_L, len5_L, len6_L, con_strs, con_lsts, con_tups, con_dics, augD, lenD_str, lenD_lst, lenD_tup, lenD_dic, addD_int, subD_int, leD_int, ltD_int, leD_str, ltD_str, isD_non, Bool.not_true, Bool.not_false, Option.map_some, if_true, Bool.false_eq_true, if_false, storeAll, compF, bindT, setAll, TG'.slots, wipeF, change, pushIn, orc_call, orc_mkx, orc_sub, orc_fuel, G_mkx, G_sub, G_fuel, w, sl, if_pos ht', eqD_int, he', decide_false, p, h1, h2, mkx_bad]
theorem c_rec (ht : t.length < L) (hc : cok t) (ih : ∀ a, a ≤ t.length → callN G (k+1) "read_item" [.str t, .int (a : Int), .int dp] M = resOf t M (pItem n (t.drop a))) (a : Nat) (ha : a ≤ t.length) :
    callN G (k+2) "read_record" [.str t, .int (a : Int), .int dp] M = resOf t M (pRcd n (t.drop a)) := by
  rw [callN_run (d := D_rec') rfl (k+1) _ _ rfl]
  have sl := slc_one (t := t) (a := a) (by omega) ha
  have n93 := slc_nx (t := t) (a := a) (c := 125) hc (by decide)
  simp only [D_rec', exs, ex, evf, evi, ev, evs, evo, evc, Lp.start, List.map_cons, List.map_nil, List.length_cons, List.length_nil, List.replicate, List.cons_append, List.nil_append, List.getElem?_cons_zero, List.getElem?_cons_succ, List.set_cons_succ, List.set_cons_zero, Res.bind_ok, Res.bind_exc, Res.fl_ok, Res.fl_exc, Flow.seq_next, Flow.seq_ret, Flow.seq_exc, Flow.seq_brk, Flow.seq_cnt, bltD, mthD, Res.of_some, fres_next, fres_ret, fres_exc, asB_bl, cmpD, binD, kindOf_int, kindOf_str, kindOf_non, kindOf_bl, kindOf_lst, kindOf_tup, kindOf_dic, isNon_int, isNon_str, isNon_non, isNon_bl, isNon_lst, isNon_tup, isNon_dic, Ty.sub, reduceCtorEq, decide_false, decide_true, Bool.or_false, Bool.false_or, Bool.or_true, Bool.true_or, Bool.and_false, Bool.false_and, Bool.and_true, Bool.true_and, con_ints, con_nons, con_bls, len0_L, len1_L, len2_L, len3_L, len4_L, len5_L, len6_L, con_strs, con_lsts, con_tups, con_dics, augD, lenD_str, lenD_lst, lenD_tup, lenD_dic, addD_int, subD_int, leD_int, ltD_int, leD_str, ltD_str, isD_non, Bool.not_true, Bool.not_false, Option.map_some, if_true, Bool.false_eq_true, if_false, storeAll, compF, bindT, setAll, TG'.slots, wipeF, change, pushIn, orc_call, orc_mkx, orc_sub, orc_fuel, G_mkx, G_sub, G_fuel, sl, n93, pRcd]
  cases hn : nx 125 (t.drop a) with
  | true =>
    have := nx_drop hn
    simp only [exs, ex, evf, evi, ev, evs, evo, evc, Lp.start, List.map_cons, List.map_nil, List.length_cons, List.length_nil, List.replicate, List.cons_append, List.nil_append, List.getElem?_cons_zero, List.getElem?_cons_succ, List.set_cons_succ, List.set_cons_zero, Res.bind_ok, Res.bind_exc, Res.fl_ok, Res.fl_exc, Flow.seq_next, Flow.seq_ret, Flow.seq_exc, Flow.seq_brk, Flow.seq_cnt, bltD, mthD, Res.of_some, fres_next, fres_ret, fres_exc, asB_bl, cmpD, binD, kindOf_int, kindOf_str, kindOf_non, kindOf_bl, kindOf_lst, kindOf_tup, kindOf_dic, isNon_int, isNon_str, isNon_non, isNon_bl, isNon_lst, isNon_tup, isNon_dic, Ty.sub, reduceCtorEq, decide_false, decide_true, Bool.or_false, Bool.false_or, Bool.or_true, Bool.true_or, Bool.and_false, Bool.false_and, Bool.and_true, Bool.true_and, con_ints, con_nons, con_bls, len0_L, len1_L, len2_L, len3_L, len4_L, len5_L, len6_L, con_strs, con_lsts, con_tups, con_dics, augD, lenD_str, lenD_lst, lenD_tup, lenD_dic, addD_int, subD_int, leD_int, ltD_int, leD_str, ltD_str, isD_non, Bool.not_true, Bool.not_false, Option.map_some, if_true, Bool.false_eq_true, if_false, storeAll, compF, bindT, setAll, TG'.slots, wipeF, change, pushIn, orc_call, orc_mkx, orc_sub, orc_fuel, G_mkx, G_sub, G_fuel]
    exact resOf_mk (by rw [List.length_drop, List.length_drop]; omega)
  | false =>
    have hL : L = 16777216 := rfl
    obtain ⟨g1, g2⟩ := loopR ht hc ih 16777216 [] [] a .no .no ha (Nat.zero_le _) (fun p hp => by cases hp) (by omega)
    simp only [exs, ex, evf, evi, ev, evs, evo, evc, Lp.start, List.map_cons, List.map_nil, List.length_cons, List.length_nil, List.replicate, List.cons_append, List.nil_append, List.getElem?_cons_zero, List.getElem?_cons_succ, List.set_cons_succ, List.set_cons_zero, Res.bind_ok, Res.bind_exc, Res.fl_ok, Res.fl_exc, Flow.seq_next, Flow.seq_ret, Flow.seq_exc, Flow.seq_brk, Flow.seq_cnt, bltD, mthD, Res.of_some, fres_next, fres_ret, fres_exc, asB_bl, cmpD, binD, kindOf_int, kindOf_str, kindOf_non, kindOf_bl, kindOf_lst, kindOf_tup, kindOf_dic, isNon_int, isNon_str, isNon_non, isNon_bl, isNon_lst, isNon_tup, isNon_dic, Ty.sub, reduceCtorEq, decide_false, decide_true, Bool.or_false, Bool.false_or, Bool.or_true, Bool.true_or, Bool.and_false, Bool.false_and, Bool.and_true, Bool.true_and, con_ints, con_nons, con_bls, len0_L, len1_L, len2_L, len3_L, len4_L, len5_L, len6_L, con_strs, con_lsts, con_tups, con_dics, augD, lenD_str, lenD_lst, lenD_tup, lenD_dic, addD_int, subD_int, leD_int, ltD_int, leD_str, ltD_str, isD_non, Bool.not_true, Bool.not_false, Option.map_some, if_true, Bool.false_eq_true, if_false, storeAll, compF, bindT, setAll, TG'.slots, wipeF, change, pushIn, orc_call, orc_mkx, orc_sub, orc_fuel, G_mkx, G_sub, G_fuel]
    cases hp : pRecGo (pItem n) 16777216 [] [] (t.drop a) with
    | none =>
      obtain ⟨ρ, e⟩ := g2 hp
      rw [e]
      rfl
    | some p =>
      obtain ⟨v, r⟩ := p
      rw [g1 v r hp]
      rfl
end
end K37

set_option Elab.async false
set_option linter.all false
set_option maxRecDepth 100000
set_option maxHeartbeats 2000000
namespace K37
open Lp
theorem c_item : ∀ (n k : Nat), n ≤ 41 → 2 * n + 1 ≤ k → ∀ (t : S) (M : Mem) (a : Nat), t.length < L → cok t → a ≤ t.length → callN G k "read_item" [.str t, .int (a : Int), .int (41 - (n : Int))] M = resOf t M (pItem n (t.drop a))
  | 0, k, _, hk, t, M, a, ht, hc, ha => by
    obtain ⟨j, rfl⟩ : ∃ j, k = j + 1 := ⟨k - 1, by omega⟩
    rw [callN_run (d := D_read_item) rfl j _ _ rfl]
    have ht' : t.length ≤ L := by omega
    have h40 : ((40 : Int) < 41 - ((0 : Nat) : Int)) = True := eq_true (by omega)
    by_cases h : (t.length : Int) ≤ (a : Int)
    · simp only [D_read_item, exs, ex, evf, evi, ev, evs, evo, evc, Lp.start, List.map_cons, List.map_nil, List.length_cons, List.length_nil, List.replicate, List.cons_append, List.nil_append, List.getElem?_cons_zero, List.getElem?_cons_succ, List.set_cons_succ, List.set_cons_zero, Res.bind_ok, Res.bind_exc, Res.fl_ok, Res.fl_exc, Flow.seq_next, Flow.seq_ret, Flow.seq_exc, Flow.seq_brk, Flow.seq_cnt, bltD, mthD, Res.of_some, fres_next, fres_ret, fres_exc, asB_bl, cmpD, binD, kindOf_int, kindOf_str, kindOf_non, kindOf_bl, kindOf_lst, kindOf_tup, kindOf_dic, isNon_int, isNon_str, isNon_non, isNon_bl, isNon_lst, isNon_tup, isNon_dic, Ty.sub, reduceCtorEq, decide_false, decide_true, Bool.or_false, Bool.false_or, Bool.or_true, Bool.true_or, Bool.and_false, Bool.false_and, Bool.and_true, Bool.true_and, con_ints, con_nons, con_bls, len0_L, len1_L, len2_L, len3_L, len4_L, len5_L, len6_L, con_strs, con_lsts, con_tups, con_dics, augD, lenD_str, lenD_lst, lenD_tup, lenD_dic, addD_int, subD_int, leD_int, ltD_int, leD_str, ltD_str, isD_non, Bool.not_true, Bool.not_false, Option.map_some, if_true, Bool.false_eq_true, if_false, storeAll, compF, bindT, setAll, TG'.slots, wipeF, change, pushIn, orc_call, orc_mkx, orc_sub, orc_fuel, G_mkx, G_sub, G_fuel, if_pos ht', h, decide_true, mkx_bad]
      rfl
    · simp only [D_read_item, exs, ex, evf, evi, ev, evs, evo, evc, Lp.start, List.map_cons, List.map_nil, List.length_cons, List.length_nil, List.replicate, List.cons_append, List.nil_append, List.getElem?_cons_zero, List.getElem?_cons_succ, List.set_cons_succ, List.set_cons_zero, Res.bind_ok, Res.bind_exc, Res.fl_ok, Res.fl_exc, Flow.seq_next, Flow.seq_ret, Flow.seq_exc, Flow.seq_brk, Flow.seq_cnt, bltD, mthD, Res.of_some, fres_next, fres_ret, fres_exc, asB_bl, cmpD, binD, kindOf_int, kindOf_str, kindOf_non, kindOf_bl, kindOf_lst, kindOf_tup, kindOf_dic, isNon_int, isNon_str, isNon_non, isNon_bl, isNon_lst, isNon_tup, isNon_dic, Ty.sub, reduceCtorEq, decide_false, decide_true, Bool.or_false, Bool.false_or, Bool.or_true, Bool.true_or, Bool.and_false, Bool.false_and, Bool.and_true, Bool.true_and, con_ints, con_nons, con_bls, len0_L, len1_L, len2_L, len3_L, len4_L, len5_L, len6_L, con_strs, con_lsts, con_tups, con_dics, augD, lenD_str, lenD_lst, lenD_tup, lenD_dic, addD_int, subD_int, leD_int, ltD_int, leD_str, ltD_str, isD_non, Bool.not_true, Bool.not_false, Option.map_some, if_true, Bool.false_eq_true, if_false, storeAll, compF, bindT, setAll, TG'.slots, wipeF, change, pushIn, orc_call, orc_mkx, orc_sub, orc_fuel, G_mkx, G_sub, G_fuel, if_pos ht', h, decide_true, decide_false, h40, mkx_bad]
      rfl
  | n + 1, k, hn, hk, t, M, a, ht, hc, ha => by
    obtain ⟨j, rfl⟩ : ∃ j, k = j + 3 := ⟨k - 3, by omega⟩
    rw [callN_run (d := D_read_item) rfl (j+2) _ _ rfl]
    have ht' : t.length ≤ L := by omega
    have h40 : ((40 : Int) < 41 - ((n + 1 : Nat) : Int)) = False := eq_false (by omega)
    by_cases h : (t.length : Int) ≤ (a : Int)
    · rw [List.drop_eq_nil_of_le (by omega)]
      simp only [D_read_item, exs, ex, evf, evi, ev, evs, evo, evc, Lp.start, List.map_cons, List.map_nil, List.length_cons, List.length_nil, List.replicate, List.cons_append, List.nil_append, List.getElem?_cons_zero, List.getElem?_cons_succ, List.set_cons_succ, List.set_cons_zero, Res.bind_ok, Res.bind_exc, Res.fl_ok, Res.fl_exc, Flow.seq_next, Flow.seq_ret, Flow.seq_exc, Flow.seq_brk, Flow.seq_cnt, bltD, mthD, Res.of_some, fres_next, fres_ret, fres_exc, asB_bl, cmpD, binD, kindOf_int, kindOf_str, kindOf_non, kindOf_bl, kindOf_lst, kindOf_tup, kindOf_dic, isNon_int, isNon_str, isNon_non, isNon_bl, isNon_lst, isNon_tup, isNon_dic, Ty.sub, reduceCtorEq, decide_false, decide_true, Bool.or_false, Bool.false_or, Bool.or_true, Bool.true_or, Bool.and_false, Bool.false_and, Bool.and_true, Bool.true_and, con_ints, con_nons, con_bls, len0_L, len1_L, len2_L, len3_L, len4_L, len5_L, len6_L, con_strs, con_lsts, con_tups, con_dics, augD, lenD_str, lenD_lst, lenD_tup, lenD_dic, addD_int, subD_int, leD_int, ltD_int, leD_str, ltD_str, isD_non, Bool.not_true, Bool.not_false, Option.map_some, if_true, Bool.false_eq_true, if_false, storeAll, compF, bindT, setAll, TG'.slots, wipeF, change, pushIn, orc_call, orc_mkx, orc_sub, orc_fuel, G_mkx, G_sub, G_fuel, if_pos ht', h, decide_true, mkx_bad]
      rfl
    · have hlt : a < t.length := by omega
      have hx : t[a]? = some t[a] := List.getElem?_eq_getElem hlt
      have e1 : idxD M (.str t) (.int (a : Int)) = some (.str [t[a]]) := idx_str ht' hx
      have q91 : eqD (.str [t[a]]) (.str [91]) = some (decide (t[a] = 91)) := by
        rw [eqD_str (cok_at hc hx) (cok_one (by decide))]; simp
      have q123 : eqD (.str [t[a]]) (.str [123]) = some (decide (t[a] = 123)) := by
        rw [eqD_str (cok_at hc hx) (cok_one (by decide))]; simp
      have dd : (41 - ((n + 1 : Nat) : Int)) + 1 = 41 - (n : Int) := by omega
      have ih : ∀ a, a ≤ t.length → callN G (j+1) "read_item" [.str t, .int (a : Int), .int (41 - (n : Int))] M = resOf t M (pItem n (t.drop a)) := fun b hb => c_item n (j+1) (by omega) (by omega) t M b ht hc hb
      have cl := c_list ht hc ih (a + 1) (by omega)
      have cr := c_rec ht hc ih (a + 1) (by omega)
      have cp := c_read_plain j t a M ht' hc hlt
      have hd : t.drop a = t[a] :: t.drop (a + 1) := List.drop_eq_getElem_cons hlt
      have hi : pItem (n + 1) (t.drop a) = if t[a] = 91 then pLst n (t.drop (a + 1)) else if t[a] = 123 then pRcd n (t.drop (a + 1)) else pPlain (t.drop a) := by
        rw [hd]; exact pItem_c n _ _
      rw [hi]
      have fin : ∀ o : Option (D × S), ((resOf t M o).fl [.d (.str t), .d (.int (a : Int)), .d (.int (41 - ((n + 1 : Nat) : Int)))] fun d M1 => Flow.ret d M1).res = resOf t M o := by
        intro o
        cases o with
        | none => rfl
        | some q => rfl
      by_cases h91 : t[a] = 91
      · have d91 : decide (t[a] = 91) = true := decide_eq_true h91
        rw [if_pos h91]
        simp only [D_read_item, exs, ex, evf, evi, ev, evs, evo, evc, Lp.start, List.map_cons, List.map_nil, List.length_cons, List.length_nil, List.replicate, List.cons_append, List.nil_append, List.getElem?_cons_zero, List.getElem?_cons_succ, List.set_cons_succ, List.set_cons_zero, Res.bind_ok, Res.bind_exc, Res.fl_ok, Res.fl_exc, Flow.seq_next, Flow.seq_ret, Flow.seq_exc, Flow.seq_brk, Flow.seq_cnt, bltD, mthD, Res.of_some, fres_next, fres_ret, fres_exc, asB_bl, cmpD, binD, kindOf_int, kindOf_str, kindOf_non, kindOf_bl, kindOf_lst, kindOf_tup, kindOf_dic, isNon_int, isNon_str, isNon_non, isNon_bl, isNon_lst, isNon_tup, isNon_dic, Ty.sub, reduceCtorEq, decide_false, decide_true, Bool.or_false, Bool.false_or, Bool.or_true, Bool.true_or, Bool.and_false, Bool.false_and, Bool.and_true, Bool.true_and, con_ints, con_nons, con_bls, len0_L, len1_L, len2_L, len3_L, len4_L, len5_L, len6_L, con_strs, con_lsts, con_tups, con_dics, augD, lenD_str, lenD_lst, lenD_tup, lenD_dic, addD_int, subD_int, leD_int, ltD_int, leD_str, ltD_str, isD_non, Bool.not_true, Bool.not_false, Option.map_some, if_true, Bool.false_eq_true, if_false, storeAll, compF, bindT, setAll, TG'.slots, wipeF, change, pushIn, orc_call, orc_mkx, orc_sub, orc_fuel, G_mkx, G_sub, G_fuel, if_pos ht', h, decide_false, h40, e1, q91, d91, add1, dd, cl]
        generalize pLst n (t.drop (a + 1)) = o
        cases o <;> rfl
      · have d91 : decide (t[a] = 91) = false := decide_eq_false h91
        rw [if_neg h91]
        by_cases h123 : t[a] = 123
        · have d123 : decide (t[a] = 123) = true := decide_eq_true h123
          rw [if_pos h123]
          simp only [D_read_item, exs, ex, evf, evi, ev, evs, evo, evc, Lp.start, List.map_cons, List.map_nil, List.length_cons, List.length_nil, List.replicate, List.cons_append, List.nil_append, List.getElem?_cons_zero, List.getElem?_cons_succ, List.set_cons_succ, List.set_cons_zero, Res.bind_ok, Res.bind_exc, Res.fl_ok, Res.fl_exc, Flow.seq_next, Flow.seq_ret, Flow.seq_exc, Flow.seq_brk, Flow.seq_cnt, bltD, mthD, Res.of_some, fres_next, fres_ret, fres_exc, asB_bl, cmpD, binD, kindOf_int, kindOf_str, kindOf_non, kindOf_bl, kindOf_lst, kindOf_tup, kindOf_dic, isNon_int, isNon_str, isNon_non, isNon_bl, isNon_lst, isNon_tup, isNon_dic, Ty.sub, reduceCtorEq, decide_false, decide_true, Bool.or_false, Bool.false_or, Bool.or_true, Bool.true_or, Bool.and_false, Bool.false_and, Bool.and_true, Bool.true_and, con_ints, con_nons, con_bls, len0_L, len1_L, len2_L, len3_L, len4_L, len5_L, len6_L, con_strs, con_lsts, con_tups, con_dics, augD, lenD_str, lenD_lst, lenD_tup, lenD_dic, addD_int, subD_int, leD_int, ltD_int, leD_str, ltD_str, isD_non, Bool.not_true, Bool.not_false, Option.map_some, if_true, Bool.false_eq_true, if_false, storeAll, compF, bindT, setAll, TG'.slots, wipeF, change, pushIn, orc_call, orc_mkx, orc_sub, orc_fuel, G_mkx, G_sub, G_fuel, if_pos ht', h, decide_false, h40, e1, q91, d91, q123, d123, add1, dd, cr]
          generalize pRcd n (t.drop (a + 1)) = o
          cases o <;> rfl
        · have d123 : decide (t[a] = 123) = false := decide_eq_false h123
          rw [if_neg h123]
          simp only [D_read_item, exs, ex, evf, evi, ev, evs, evo, evc, Lp.start, List.map_cons, List.map_nil, List.length_cons, List.length_nil, List.replicate, List.cons_append, List.nil_append, List.getElem?_cons_zero, List.getElem?_cons_succ, List.set_cons_succ, List.set_cons_zero, Res.bind_ok, Res.bind_exc, Res.fl_ok, Res.fl_exc, Flow.seq_next, Flow.seq_ret, Flow.seq_exc, Flow.seq_brk, Flow.seq_cnt, bltD, mthD, Res.of_some, fres_next, fres_ret, fres_exc, asB_bl, cmpD, binD, kindOf_int, kindOf_str, kindOf_non, kindOf_bl, kindOf_lst, kindOf_tup, kindOf_dic, isNon_int, isNon_str, isNon_non, isNon_bl, isNon_lst, isNon_tup, isNon_dic, Ty.sub, reduceCtorEq, decide_false, decide_true, Bool.or_false, Bool.false_or, Bool.or_true, Bool.true_or, Bool.and_false, Bool.false_and, Bool.and_true, Bool.true_and, con_ints, con_nons, con_bls, len0_L, len1_L, len2_L, len3_L, len4_L, len5_L, len6_L, con_strs, con_lsts, con_tups, con_dics, augD, lenD_str, lenD_lst, lenD_tup, lenD_dic, addD_int, subD_int, leD_int, ltD_int, leD_str, ltD_str, isD_non, Bool.not_true, Bool.not_false, Option.map_some, if_true, Bool.false_eq_true, if_false, storeAll, compF, bindT, setAll, TG'.slots, wipeF, change, pushIn, orc_call, orc_mkx, orc_sub, orc_fuel, G_mkx, G_sub, G_fuel, if_pos ht', h, decide_false, h40, e1, q91, d91, q123, d123, cp]
          generalize pPlain (t.drop a) = o
          cases o <;> rfl
/-- what is read of a whole text -/
def readV (t : S) : Option D := match pItem 41 t with
  | some (v, []) => some v
  | _ => none
theorem c_read_value (k : Nat) (hk : 83 ≤ k) (t : S) (M : Mem) (ht : t.length < L) (hc : cok t) : callN G (k+1) "read_value" [.str t] M = (match readV t with | some v => .ok v M | none => .exc bad M) := by
  rw [callN_run (d := D_read_value) rfl k _ _ rfl]
  have ht' : t.length ≤ L := by omega
  have c := c_item 41 k (by decide) (by omega) t M 0 ht hc (Nat.zero_le _)
  rw [List.drop_zero] at c
  have c' : callN G k "read_item" [.str t, .int 0, .int 0] M = resOf t M (pItem 41 t) := c
  unfold readV
  cases hp : pItem 41 t with
  | none =>
    rw [hp] at c'
    simp only [D_read_value, exs, ex, evf, evi, ev, evs, evo, evc, Lp.start, List.map_cons, List.map_nil, List.length_cons, List.length_nil, List.replicate, List.cons_append, List.nil_append, List.getElem?_cons_zero, List.getElem?_cons_succ, List.set_cons_succ, List.set_cons_zero, Res.bind_ok, Res.bind_exc, Res.fl_ok, Res.fl_exc, Flow.seq_next, Flow.seq_ret, Flow.seq_exc, Flow.seq_brk, Flow.seq_cnt, bltD, mthD, Res.of_some, fres_next, fres_ret, fres_exc, asB_bl, cmpD, binD, kindOf_int, kindOf_str, kindOf_non, kindOf_bl, kindOf_lst, kindOf_tup, kindOf_dic, isNon_int, isNon_str, isNon_non, isNon_bl, isNon_lst, isNon_tup, isNon_dic, Ty.sub, reduceCtorEq, decide_false, decide_true, Bool.or_false, Bool.false_or, Bool.or_true, Bool.true_or, Bool.and_false, Bool.false_and, Bool.and_true, Bool.true_and, con_ints, con_nons, con_bls, len0_L, len1_L, len2_L, len3_L, len4_L, len5_L, len6_L, con_strs, con_lsts, con_tups, con_dics, augD, lenD_str, lenD_lst, lenD_tup, lenD_dic, addD_int, subD_int, leD_int, ltD_int, leD_str, ltD_str, isD_non, Bool.not_true, Bool.not_false, Option.map_some, if_true, Bool.false_eq_true, if_false, storeAll, compF, bindT, setAll, TG'.slots, wipeF, change, pushIn, orc_call, orc_mkx, orc_sub, orc_fuel, G_mkx, G_sub, G_fuel, c', resOf]
  | some p =>
    obtain ⟨v, r⟩ := p
    rw [hp] at c'
    obtain ⟨e, _, _⟩ := pItem_sound _ _ _ _ hp
    have hl := congrArg List.length e
    rw [List.length_append] at hl
    cases r with
    | nil =>
      have e2 : (((t.length - ([] : S).length : Nat) : Int) = (t.length : Int)) = True := eq_true (by simp)
      simp only [List.length_nil] at e2
      simp only [D_read_value, exs, ex, evf, evi, ev, evs, evo, evc, Lp.start, List.map_cons, List.map_nil, List.length_cons, List.length_nil, List.replicate, List.cons_append, List.nil_append, List.getElem?_cons_zero, List.getElem?_cons_succ, List.set_cons_succ, List.set_cons_zero, Res.bind_ok, Res.bind_exc, Res.fl_ok, Res.fl_exc, Flow.seq_next, Flow.seq_ret, Flow.seq_exc, Flow.seq_brk, Flow.seq_cnt, bltD, mthD, Res.of_some, fres_next, fres_ret, fres_exc, asB_bl, cmpD, binD, kindOf_int, kindOf_str, kindOf_non, kindOf_bl, kindOf_lst, kindOf_tup, kindOf_dic, isNon_int, isNon_str, isNon_non, isNon_bl, isNon_lst, isNon_tup, isNon_dic, Ty.sub, reduceCtorEq, decide_false, decide_true, Bool.or_false, Bool.false_or, Bool.or_true, Bool.true_or, Bool.and_false, Bool.false_and, Bool.and_true, Bool.true_and, con_ints, con_nons, con_bls, len0_L, len1_L, len2_L, len3_L, len4_L, len5_L, len6_L, con_strs, con_lsts, con_tups, con_dics, augD, lenD_str, lenD_lst, lenD_tup, lenD_dic, addD_int, subD_int, leD_int, ltD_int, leD_str, ltD_str, isD_non, Bool.not_true, Bool.not_false, Option.map_some, if_true, Bool.false_eq_true, if_false, storeAll, compF, bindT, setAll, TG'.slots, wipeF, change, pushIn, orc_call, orc_mkx, orc_sub, orc_fuel, G_mkx, G_sub, G_fuel, c', resOf, if_pos ht', eqD_int, e2, decide_true]
    | cons d r' =>
      simp only [List.length_cons] at hl
      have e2 : (((t.length - (d :: r').length : Nat) : Int) = (t.length : Int)) = False := eq_false (by simp only [List.length_cons]; omega)
      simp only [List.length_cons] at e2
      simp only [D_read_value, exs, ex, evf, evi, ev, evs, evo, evc, Lp.start, List.map_cons, List.map_nil, List.length_cons, List.length_nil, List.replicate, List.cons_append, List.nil_append, List.getElem?_cons_zero, List.getElem?_cons_succ, List.set_cons_succ, List.set_cons_zero, Res.bind_ok, Res.bind_exc, Res.fl_ok, Res.fl_exc, Flow.seq_next, Flow.seq_ret, Flow.seq_exc, Flow.seq_brk, Flow.seq_cnt, bltD, mthD, Res.of_some, fres_next, fres_ret, fres_exc, asB_bl, cmpD, binD, kindOf_int, kindOf_str, kindOf_non, kindOf_bl, kindOf_lst, kindOf_tup, kindOf_dic, isNon_int, isNon_str, isNon_non, isNon_bl, isNon_lst, isNon_tup, isNon_dic, Ty.sub, reduceCtorEq, decide_false, decide_true, Bool.or_false, Bool.false_or, Bool.or_true, Bool.true_or, Bool.and_false, Bool.false_and, Bool.and_true, Bool.true_and, con_ints, con_nons, con_bls, len0_L, len1_L, len2_L, len3_L, len4_L, len5_L, len6_L, con_strs, con_lsts, con_tups, con_dics, augD, lenD_str, lenD_lst, lenD_tup, lenD_dic, addD_int, subD_int, leD_int, ltD_int, leD_str, ltD_str, isD_non, Bool.not_true, Bool.not_false, Option.map_some, if_true, Bool.false_eq_true, if_false, storeAll, compF, bindT, setAll, TG'.slots, wipeF, change, pushIn, orc_call, orc_mkx, orc_sub, orc_fuel, G_mkx, G_sub, G_fuel, c', resOf, if_pos ht', eqD_int, e2, decide_false, mkx_bad]
theorem c_row_of (k : Nat) (hk : 84 ≤ k) (t : S) (M : Mem) (ht : t.length < L) (hc : cok t) : callN G (k+1) "_law_row_of" [.str t] M = .ok (match readV t with | some v => .tup [v, .non] | none => .tup [.non, .int 0]) M := by
  obtain ⟨j, rfl⟩ : ∃ j, k = j + 1 := ⟨k - 1, by omega⟩
  rw [callN_run (d := D__law_row_of) rfl (j+1) _ _ rfl]
  have c := c_read_value j (by omega) t M ht hc
  cases hr : readV t with
  | some v =>
    rw [hr] at c
    simp only [D__law_row_of, exs, ex, evf, evi, ev, evs, evo, evc, Lp.start, List.map_cons, List.map_nil, List.length_cons, List.length_nil, List.replicate, List.cons_append, List.nil_append, List.getElem?_cons_zero, List.getElem?_cons_succ, List.set_cons_succ, List.set_cons_zero, Res.bind_ok, Res.bind_exc, Res.fl_ok, Res.fl_exc, Flow.seq_next, Flow.seq_ret, Flow.seq_exc, Flow.seq_brk, Flow.seq_cnt, bltD, mthD, Res.of_some, fres_next, fres_ret, fres_exc, asB_bl, cmpD, binD, kindOf_int, kindOf_str, kindOf_non, kindOf_bl, kindOf_lst, kindOf_tup, kindOf_dic, isNon_int, isNon_str, isNon_non, isNon_bl, isNon_lst, isNon_tup, isNon_dic, Ty.sub, reduceCtorEq, decide_false, decide_true, Bool.or_false, Bool.false_or, Bool.or_true, Bool.true_or, Bool.and_false, Bool.false_and, Bool.and_true, Bool.true_and, con_ints, con_nons, con_bls, len0_L, len1_L, len2_L, len3_L, len4_L, len5_L, len6_L, con_strs, con_lsts, con_tups, con_dics, augD, lenD_str, lenD_lst, lenD_tup, lenD_dic, addD_int, subD_int, leD_int, ltD_int, leD_str, ltD_str, isD_non, Bool.not_true, Bool.not_false, Option.map_some, if_true, Bool.false_eq_true, if_false, storeAll, compF, bindT, setAll, TG'.slots, wipeF, change, pushIn, orc_call, orc_mkx, orc_sub, orc_fuel, G_mkx, G_sub, G_fuel, c]
  | none =>
    rw [hr] at c
    have hs : subT bad.cls "BadText" = some true := rfl
    have hl : bad.fs.lookup [114, 111, 119] = some (.int 0) := rfl
    simp only [D__law_row_of, exs, ex, evf, evi, ev, evs, evo, evc, Lp.start, List.map_cons, List.map_nil, List.length_cons, List.length_nil, List.replicate, List.cons_append, List.nil_append, List.getElem?_cons_zero, List.getElem?_cons_succ, List.set_cons_succ, List.set_cons_zero, Res.bind_ok, Res.bind_exc, Res.fl_ok, Res.fl_exc, Flow.seq_next, Flow.seq_ret, Flow.seq_exc, Flow.seq_brk, Flow.seq_cnt, bltD, mthD, Res.of_some, fres_next, fres_ret, fres_exc, asB_bl, cmpD, binD, kindOf_int, kindOf_str, kindOf_non, kindOf_bl, kindOf_lst, kindOf_tup, kindOf_dic, isNon_int, isNon_str, isNon_non, isNon_bl, isNon_lst, isNon_tup, isNon_dic, Ty.sub, reduceCtorEq, decide_false, decide_true, Bool.or_false, Bool.false_or, Bool.or_true, Bool.true_or, Bool.and_false, Bool.false_and, Bool.and_true, Bool.true_and, con_ints, con_nons, con_bls, len0_L, len1_L, len2_L, len3_L, len4_L, len5_L, len6_L, con_strs, con_lsts, con_tups, con_dics, augD, lenD_str, lenD_lst, lenD_tup, lenD_dic, addD_int, subD_int, leD_int, ltD_int, leD_str, ltD_str, isD_non, Bool.not_true, Bool.not_false, Option.map_some, if_true, Bool.false_eq_true, if_false, storeAll, compF, bindT, setAll, TG'.slots, wipeF, change, pushIn, orc_call, orc_mkx, orc_sub, orc_fuel, G_mkx, G_sub, G_fuel, c, hs, hl]
    rfl
end K37

set_option Elab.async false
set_option linter.all false
set_option maxRecDepth 100000
set_option maxHeartbeats 2000000
namespace K37
open Lp
theorem c_value_text : ∀ (k : Nat) (d : D) (M : Mem), wf d = true → dep d < k → (vT d).length ≤ L → callN G k "value_text" [d] M = .ok (.str (vT d)) M
  | 0, d, M, hw, hd, hl => by omega
  | k + 1, d, M, hw, hd, hl => by
    rw [callN_run (d := D_value_text) rfl k _ _ rfl]
    match d, hw, hd, hl with
    | .non, hw, hd, hl =>
      rw [vT_non]
      simp only [D_value_text, exs, ex, evf, evi, ev, evs, evo, evc, Lp.start, List.map_cons, List.map_nil, List.length_cons, List.length_nil, List.replicate, List.cons_append, List.nil_append, List.getElem?_cons_zero, List.getElem?_cons_succ, List.set_cons_succ, List.set_cons_zero, Res.bind_ok, Res.bind_exc, Res.fl_ok, Res.fl_exc, Flow.seq_next, Flow.seq_ret, Flow.seq_exc, Flow.seq_brk, Flow.seq_cnt, bltD, mthD, Res.of_some, fres_next, fres_ret, fres_exc, asB_bl, cmpD, binD, kindOf_int, kindOf_str, kindOf_non, kindOf_bl, kindOf_lst, kindOf_tup, kindOf_dic, isNon_int, isNon_str, isNon_non, isNon_bl, isNon_lst, isNon_tup, isNon_dic, Ty.sub, reduceCtorEq, decide_false, decide_true, Bool.or_false, Bool.false_or, Bool.or_true, Bool.true_or, Bool.and_false, Bool.false_and, Bool.and_true, Bool.true_and, con_ints, con_nons, con_bls, len0_L, len1_L, len2_L, len3_L, len4_L, len5_L, len6_L, con_strs, con_lsts, con_tups, con_dics, augD, lenD_str, lenD_lst, lenD_tup, lenD_dic, addD_int, subD_int, leD_int, ltD_int, leD_str, ltD_str, isD_non, Bool.not_true, Bool.not_false, Option.map_some, if_true, Bool.false_eq_true, if_false, storeAll, compF, bindT, setAll, TG'.slots, wipeF, change, pushIn, orc_call, orc_mkx, orc_sub, orc_fuel, G_mkx, G_sub, G_fuel]
    | .bl _, hw, _, _ => simp [wf] at hw
    | .tup _, hw, _, _ => simp [wf] at hw
    | .cell _, hw, _, _ => simp [wf] at hw
    | .int i, hw, hd, hl =>
      have h30 : i.natAbs < 10 ^ 30 := by simpa [wf] using hw
      have hs : strD (.int i) = some (.str (intText i)) := by
        show (if i.natAbs.log2 < 1920 then _ else _) = _
        rw [if_pos (log2_lt h30)]
      rw [vT_int]
      simp only [D_value_text, exs, ex, evf, evi, ev, evs, evo, evc, Lp.start, List.map_cons, List.map_nil, List.length_cons, List.length_nil, List.replicate, List.cons_append, List.nil_append, List.getElem?_cons_zero, List.getElem?_cons_succ, List.set_cons_succ, List.set_cons_zero, Res.bind_ok, Res.bind_exc, Res.fl_ok, Res.fl_exc, Flow.seq_next, Flow.seq_ret, Flow.seq_exc, Flow.seq_brk, Flow.seq_cnt, bltD, mthD, Res.of_some, fres_next, fres_ret, fres_exc, asB_bl, cmpD, binD, kindOf_int, kindOf_str, kindOf_non, kindOf_bl, kindOf_lst, kindOf_tup, kindOf_dic, isNon_int, isNon_str, isNon_non, isNon_bl, isNon_lst, isNon_tup, isNon_dic, Ty.sub, reduceCtorEq, decide_false, decide_true, Bool.or_false, Bool.false_or, Bool.or_true, Bool.true_or, Bool.and_false, Bool.false_and, Bool.and_true, Bool.true_and, con_ints, con_nons, con_bls, len0_L, len1_L, len2_L, len3_L, len4_L, len5_L, len6_L, con_strs, con_lsts, con_tups, con_dics, augD, lenD_str, lenD_lst, lenD_tup, lenD_dic, addD_int, subD_int, leD_int, ltD_int, leD_str, ltD_str, isD_non, Bool.not_true, Bool.not_false, Option.map_some, if_true, Bool.false_eq_true, if_false, storeAll, compF, bindT, setAll, TG'.slots, wipeF, change, pushIn, orc_call, orc_mkx, orc_sub, orc_fuel, G_mkx, G_sub, G_fuel, hs]
    | .str s, hw, hd, hl =>
      rw [vT_str] at hl ⊢
      simp only [List.length_cons, List.length_append, List.length_nil] at hl
      have a1 : addD (.str [39]) (.str s) = some (.str (39 :: s)) := by
        rw [addD_str, if_pos (by simp; omega)]; rfl
      have a2 : addD (.str (39 :: s)) (.str [39]) = some (.str (39 :: (s ++ [39]))) := by
        rw [addD_str, if_pos (by simp; omega)]; rfl
      simp only [D_value_text, exs, ex, evf, evi, ev, evs, evo, evc, Lp.start, List.map_cons, List.map_nil, List.length_cons, List.length_nil, List.replicate, List.cons_append, List.nil_append, List.getElem?_cons_zero, List.getElem?_cons_succ, List.set_cons_succ, List.set_cons_zero, Res.bind_ok, Res.bind_exc, Res.fl_ok, Res.fl_exc, Flow.seq_next, Flow.seq_ret, Flow.seq_exc, Flow.seq_brk, Flow.seq_cnt, bltD, mthD, Res.of_some, fres_next, fres_ret, fres_exc, asB_bl, cmpD, binD, kindOf_int, kindOf_str, kindOf_non, kindOf_bl, kindOf_lst, kindOf_tup, kindOf_dic, isNon_int, isNon_str, isNon_non, isNon_bl, isNon_lst, isNon_tup, isNon_dic, Ty.sub, reduceCtorEq, decide_false, decide_true, Bool.or_false, Bool.false_or, Bool.or_true, Bool.true_or, Bool.and_false, Bool.false_and, Bool.and_true, Bool.true_and, con_ints, con_nons, con_bls, len0_L, len1_L, len2_L, len3_L, len4_L, len5_L, len6_L, con_strs, con_lsts, con_tups, con_dics, augD, lenD_str, lenD_lst, lenD_tup, lenD_dic, addD_int, subD_int, leD_int, ltD_int, leD_str, ltD_str, isD_non, Bool.not_true, Bool.not_false, Option.map_some, if_true, Bool.false_eq_true, if_false, storeAll, compF, bindT, setAll, TG'.slots, wipeF, change, pushIn, orc_call, orc_mkx, orc_sub, orc_fuel, G_mkx, G_sub, G_fuel, a1, a2]
    | .lst xs, hw, hd, hl =>
      have hws : wfs xs = true := by simpa [wf] using hw
      have hds : deps xs < k := by simp only [dep] at hd; omega
      rw [vT_lst] at hl ⊢
      simp only [List.length_cons, List.length_append, List.length_nil] at hl
      have hn : xs.length ≤ L := by
        have h1 : ∀ y ∈ xs.map vT, 1 ≤ y.length := by
          intro y hy
          obtain ⟨x, hx, rfl⟩ := List.mem_map.mp hy
          exact vT_pos (wf_mem hws x hx)
        have h2 := sum_len _ h1
        rw [List.length_map] at h2
        by_cases h0 : xs = []
        · subst h0; simp
        · have h3 := joinS_len 44 (xs.map vT) (by simpa using h0)
          rw [List.length_map] at h3
          omega
      have ih : ∀ x ∈ xs, ∀ M, callN G k "value_text" [x] M = .ok (.str (vT x)) M := fun x hx M => c_value_text k x M (wf_mem hws x hx) (Nat.lt_of_le_of_lt (deps_mem x hx) hds) (by
        have := joinS_ge (c := 44) (List.mem_map_of_mem (f := vT) hx)
        omega)
      have hc := fun (F : D → Mem → Res (Option D)) (h : ∀ x ∈ xs, F x M = .ok (some (.str (vT x))) M) => compGo_map (f := F) (g := fun x => .str (vT x)) xs [] h (by simpa using hn)
      have hj : joinD (.str [44]) (.lst (xs.map fun x => .str (vT x))) = some (.str (joinS [44] (xs.map vT))) := by
        have := joinD_ok (c := 44) (ys := xs.map vT) (by omega)
        rw [List.map_map] at this
        exact this
      have a1 : addD (.str [91]) (.str (joinS [44] (xs.map vT))) = some (.str (91 :: joinS [44] (xs.map vT))) := by
        rw [addD_str, if_pos (by simp; omega)]; rfl
      have a2 : addD (.str (91 :: joinS [44] (xs.map vT))) (.str [93]) = some (.str (91 :: (joinS [44] (xs.map vT) ++ [93]))) := by
        rw [addD_str, if_pos (by simp; omega)]; rfl
      have n1 : isNon (.lst xs) = false := rfl
      have t1 : (Ty.list.sub .str) = false := rfl
      have t2 : (Ty.list.sub .list) = true := rfl
      simp only [D_value_text]
      rw [step_next (ρ1 := [.d (.lst xs), .no, .no]) (M1 := M) (by simp only [exs, ex, evf, evi, ev, evs, evo, evc, Lp.start, List.map_cons, List.map_nil, List.length_cons, List.length_nil, List.replicate, List.cons_append, List.nil_append, List.getElem?_cons_zero, List.getElem?_cons_succ, List.set_cons_succ, List.set_cons_zero, Res.bind_ok, Res.bind_exc, Res.fl_ok, Res.fl_exc, Flow.seq_next, Flow.seq_ret, Flow.seq_exc, Flow.seq_brk, Flow.seq_cnt, bltD, mthD, Res.of_some, fres_next, fres_ret, fres_exc, asB_bl, cmpD, binD, kindOf_int, kindOf_str, kindOf_non, kindOf_bl, kindOf_lst, kindOf_tup, kindOf_dic, isNon_int, isNon_str, isNon_non, isNon_bl, isNon_lst, isNon_tup, isNon_dic, Ty.sub, reduceCtorEq, decide_false, decide_true, Bool.or_false, Bool.false_or, Bool.or_true, Bool.true_or, Bool.and_false, Bool.false_and, Bool.and_true, Bool.true_and, con_ints, con_nons, con_bls, len0_L, len1_L, len2_L, len3_L, len4_L, len5_L, len6_L, con_strs, con_lsts, con_tups, con_dics, augD, lenD_str, lenD_lst, lenD_tup, lenD_dic, addD_int, subD_int, leD_int, ltD_int, leD_str, ltD_str, isD_non, Bool.not_true, Bool.not_false, Option.map_some, if_true, Bool.false_eq_true, if_false, storeAll, compF, bindT, setAll, TG'.slots, wipeF, change, pushIn, orc_call, orc_mkx, orc_sub, orc_fuel, G_mkx, G_sub, G_fuel])]
      rw [step_next (ρ1 := [.d (.lst xs), .no, .no]) (M1 := M) (by simp only [exs, ex, evf, evi, ev, evs, evo, evc, Lp.start, List.map_cons, List.map_nil, List.length_cons, List.length_nil, List.replicate, List.cons_append, List.nil_append, List.getElem?_cons_zero, List.getElem?_cons_succ, List.set_cons_succ, List.set_cons_zero, Res.bind_ok, Res.bind_exc, Res.fl_ok, Res.fl_exc, Flow.seq_next, Flow.seq_ret, Flow.seq_exc, Flow.seq_brk, Flow.seq_cnt, bltD, mthD, Res.of_some, fres_next, fres_ret, fres_exc, asB_bl, cmpD, binD, kindOf_int, kindOf_str, kindOf_non, kindOf_bl, kindOf_lst, kindOf_tup, kindOf_dic, isNon_int, isNon_str, isNon_non, isNon_bl, isNon_lst, isNon_tup, isNon_dic, Ty.sub, reduceCtorEq, decide_false, decide_true, Bool.or_false, Bool.false_or, Bool.or_true, Bool.true_or, Bool.and_false, Bool.false_and, Bool.and_true, Bool.true_and, con_ints, con_nons, con_bls, len0_L, len1_L, len2_L, len3_L, len4_L, len5_L, len6_L, con_strs, con_lsts, con_tups, con_dics, augD, lenD_str, lenD_lst, lenD_tup, lenD_dic, addD_int, subD_int, leD_int, ltD_int, leD_str, ltD_str, isD_non, Bool.not_true, Bool.not_false, Option.map_some, if_true, Bool.false_eq_true, if_false, storeAll, compF, bindT, setAll, TG'.slots, wipeF, change, pushIn, orc_call, orc_mkx, orc_sub, orc_fuel, G_mkx, G_sub, G_fuel])]
      simp only [ex, ev, evf, evi, Lp.start, List.map_cons, List.map_nil, List.length_cons, List.length_nil, List.replicate, List.cons_append, List.nil_append, List.getElem?_cons_zero, Res.bind_ok, Res.fl_ok, kindOf_lst, t2, asB_bl, if_true, exs]
      rw [hc _ (by
        intro x hx
        simp only [exs, ex, evf, evi, ev, evs, evo, evc, Lp.start, List.map_cons, List.map_nil, List.length_cons, List.length_nil, List.replicate, List.cons_append, List.nil_append, List.getElem?_cons_zero, List.getElem?_cons_succ, List.set_cons_succ, List.set_cons_zero, Res.bind_ok, Res.bind_exc, Res.fl_ok, Res.fl_exc, Flow.seq_next, Flow.seq_ret, Flow.seq_exc, Flow.seq_brk, Flow.seq_cnt, bltD, mthD, Res.of_some, fres_next, fres_ret, fres_exc, asB_bl, cmpD, binD, kindOf_int, kindOf_str, kindOf_non, kindOf_bl, kindOf_lst, kindOf_tup, kindOf_dic, isNon_int, isNon_str, isNon_non, isNon_bl, isNon_lst, isNon_tup, isNon_dic, Ty.sub, reduceCtorEq, decide_false, decide_true, Bool.or_false, Bool.false_or, Bool.or_true, Bool.true_or, Bool.and_false, Bool.false_and, Bool.and_true, Bool.true_and, con_ints, con_nons, con_bls, len0_L, len1_L, len2_L, len3_L, len4_L, len5_L, len6_L, con_strs, con_lsts, con_tups, con_dics, augD, lenD_str, lenD_lst, lenD_tup, lenD_dic, addD_int, subD_int, leD_int, ltD_int, leD_str, ltD_str, isD_non, Bool.not_true, Bool.not_false, Option.map_some, if_true, Bool.false_eq_true, if_false, storeAll, compF, bindT, setAll, TG'.slots, wipeF, change, pushIn, orc_call, orc_mkx, orc_sub, orc_fuel, G_mkx, G_sub, G_fuel, ih x hx])]
      simp only [exs, ex, evf, evi, ev, evs, evo, evc, Lp.start, List.map_cons, List.map_nil, List.length_cons, List.length_nil, List.replicate, List.cons_append, List.nil_append, List.getElem?_cons_zero, List.getElem?_cons_succ, List.set_cons_succ, List.set_cons_zero, Res.bind_ok, Res.bind_exc, Res.fl_ok, Res.fl_exc, Flow.seq_next, Flow.seq_ret, Flow.seq_exc, Flow.seq_brk, Flow.seq_cnt, bltD, mthD, Res.of_some, fres_next, fres_ret, fres_exc, asB_bl, cmpD, binD, kindOf_int, kindOf_str, kindOf_non, kindOf_bl, kindOf_lst, kindOf_tup, kindOf_dic, isNon_int, isNon_str, isNon_non, isNon_bl, isNon_lst, isNon_tup, isNon_dic, Ty.sub, reduceCtorEq, decide_false, decide_true, Bool.or_false, Bool.false_or, Bool.or_true, Bool.true_or, Bool.and_false, Bool.false_and, Bool.and_true, Bool.true_and, con_ints, con_nons, con_bls, len0_L, len1_L, len2_L, len3_L, len4_L, len5_L, len6_L, con_strs, con_lsts, con_tups, con_dics, augD, lenD_str, lenD_lst, lenD_tup, lenD_dic, addD_int, subD_int, leD_int, ltD_int, leD_str, ltD_str, isD_non, Bool.not_true, Bool.not_false, Option.map_some, if_true, Bool.false_eq_true, if_false, storeAll, compF, bindT, setAll, TG'.slots, wipeF, change, pushIn, orc_call, orc_mkx, orc_sub, orc_fuel, G_mkx, G_sub, G_fuel, hj, a1, a2]
    | .dic kvs, hw, hd, hl =>
      have hw2 : wfk kvs = true := by
        simp only [wf, Bool.and_eq_true] at hw
        exact hw.1
      have hds : depk kvs < k := by simp only [dep] at hd; omega
      rw [vT_dic] at hl ⊢
      simp only [List.length_cons, List.length_append, List.length_nil] at hl
      have hkd := keyed_wf hw2
      have hss : (strsD (kvs.map fun p => keyD p.1)).map (fun ss => D.lst ((sortS ss).map .str)) = some (.lst ((sortS (kvs.map fun p => kS p.1)).map .str)) := by
        rw [keyed_keys hkd, strsD_map]; rfl
      have hmem : ∀ s ∈ sortS (kvs.map fun p => kS p.1), ∃ x, dlook kvs (.inr s) = some x ∧ s ++ 58 :: lkS s (vTk kvs) = s ++ 58 :: vT x ∧ (∀ M, callN G k "value_text" [x] M = .ok (.str (vT x)) M) ∧ s.length + 1 + (vT x).length ≤ L := by
        intro s hs
        obtain ⟨x, h1, h2, p, hp, e⟩ := lk_text hkd s (sortS_mem hs)
        have hlen : (s ++ 58 :: vT x).length ≤ (joinS [44] ((sortS (kvs.map fun p => kS p.1)).map fun k => k ++ 58 :: lkS k (vTk kvs))).length := by
          refine joinS_ge (List.mem_map.mpr ⟨s, hs, ?_⟩)
          rw [h2]
        simp only [List.length_append, List.length_cons] at hlen
        subst e
        refine ⟨p.2, h1, by rw [h2], fun M => c_value_text k p.2 M (wfk_mem hw2 p hp).1 (Nat.lt_of_le_of_lt (depk_mem p hp) hds) (by omega), by omega⟩
      generalize hss2 : sortS (kvs.map fun p => kS p.1) = ss at *
      have hn : ss.length ≤ L := by
        have h1 : ∀ y ∈ ss.map (fun k => k ++ 58 :: lkS k (vTk kvs)), 1 ≤ y.length := by
          intro y hy
          obtain ⟨x, hx, rfl⟩ := List.mem_map.mp hy
          simp only [List.length_append, List.length_cons]; omega
        have h2 := sum_len _ h1
        rw [List.length_map] at h2
        by_cases h0 : ss = []
        · rw [h0]; simp
        · have h3 := joinS_len 44 (ss.map fun k => k ++ 58 :: lkS k (vTk kvs)) (by simpa using h0)
          rw [List.length_map] at h3
          omega
      have hc := fun (F : D → Mem → Res (Option D)) (h : ∀ x ∈ ss.map D.str, F x M = .ok (some ((fun d => match d with | .str s => .str (s ++ 58 :: lkS s (vTk kvs)) | _ => .non) x)) M) => compGo_map (f := F) (g := fun d => match d with | .str s => .str (s ++ 58 :: lkS s (vTk kvs)) | _ => .non) (ss.map D.str) [] h (by simpa using hn)
      have hj : joinD (.str [44]) (.lst ((ss.map D.str).map fun d => match d with | .str s => .str (s ++ 58 :: lkS s (vTk kvs)) | _ => .non)) = some (.str (joinS [44] (ss.map fun k => k ++ 58 :: lkS k (vTk kvs)))) := by
        have := joinD_ok (c := 44) (ys := ss.map fun k => k ++ 58 :: lkS k (vTk kvs)) (by omega)
        rw [List.map_map] at this ⊢
        exact this
      have a1 : addD (.str [123]) (.str (joinS [44] (ss.map fun k => k ++ 58 :: lkS k (vTk kvs)))) = some (.str (123 :: joinS [44] (ss.map fun k => k ++ 58 :: lkS k (vTk kvs)))) := by
        rw [addD_str, if_pos (by simp; omega)]; rfl
      have a2 : addD (.str (123 :: joinS [44] (ss.map fun k => k ++ 58 :: lkS k (vTk kvs)))) (.str [125]) = some (.str (123 :: (joinS [44] (ss.map fun k => k ++ 58 :: lkS k (vTk kvs)) ++ [125]))) := by
        rw [addD_str, if_pos (by simp; omega)]; rfl
      have n1 : isNon (.dic kvs) = false := rfl
      have t1 : (Ty.dict.sub .str) = false := rfl
      have t2 : (Ty.dict.sub .list) = false := rfl
      have t3 : (Ty.dict.sub .dict) = true := rfl
      simp only [D_value_text]
      rw [step_next (ρ1 := [.d (.dic kvs), .no, .no]) (M1 := M) (by simp only [exs, ex, evf, evi, ev, evs, evo, evc, Lp.start, List.map_cons, List.map_nil, List.length_cons, List.length_nil, List.replicate, List.cons_append, List.nil_append, List.getElem?_cons_zero, List.getElem?_cons_succ, List.set_cons_succ, List.set_cons_zero, Res.bind_ok, Res.bind_exc, Res.fl_ok, Res.fl_exc, Flow.seq_next, Flow.seq_ret, Flow.seq_exc, Flow.seq_brk, Flow.seq_cnt, bltD, mthD, Res.of_some, fres_next, fres_ret, fres_exc, asB_bl, cmpD, binD, kindOf_int, kindOf_str, kindOf_non, kindOf_bl, kindOf_lst, kindOf_tup, kindOf_dic, isNon_int, isNon_str, isNon_non, isNon_bl, isNon_lst, isNon_tup, isNon_dic, Ty.sub, reduceCtorEq, decide_false, decide_true, Bool.or_false, Bool.false_or, Bool.or_true, Bool.true_or, Bool.and_false, Bool.false_and, Bool.and_true, Bool.true_and, con_ints, con_nons, con_bls, len0_L, len1_L, len2_L, len3_L, len4_L, len5_L, len6_L, con_strs, con_lsts, con_tups, con_dics, augD, lenD_str, lenD_lst, lenD_tup, lenD_dic, addD_int, subD_int, leD_int, ltD_int, leD_str, ltD_str, isD_non, Bool.not_true, Bool.not_false, Option.map_some, if_true, Bool.false_eq_true, if_false, storeAll, compF, bindT, setAll, TG'.slots, wipeF, change, pushIn, orc_call, orc_mkx, orc_sub, orc_fuel, G_mkx, G_sub, G_fuel])]
      rw [step_next (ρ1 := [.d (.dic kvs), .no, .no]) (M1 := M) (by simp only [exs, ex, evf, evi, ev, evs, evo, evc, Lp.start, List.map_cons, List.map_nil, List.length_cons, List.length_nil, List.replicate, List.cons_append, List.nil_append, List.getElem?_cons_zero, List.getElem?_cons_succ, List.set_cons_succ, List.set_cons_zero, Res.bind_ok, Res.bind_exc, Res.fl_ok, Res.fl_exc, Flow.seq_next, Flow.seq_ret, Flow.seq_exc, Flow.seq_brk, Flow.seq_cnt, bltD, mthD, Res.of_some, fres_next, fres_ret, fres_exc, asB_bl, cmpD, binD, kindOf_int, kindOf_str, kindOf_non, kindOf_bl, kindOf_lst, kindOf_tup, kindOf_dic, isNon_int, isNon_str, isNon_non, isNon_bl, isNon_lst, isNon_tup, isNon_dic, Ty.sub, reduceCtorEq, decide_false, decide_true, Bool.or_false, Bool.false_or, Bool.or_true, Bool.true_or, Bool.and_false, Bool.false_and, Bool.and_true, Bool.true_and, con_ints, con_nons, con_bls, len0_L, len1_L, len2_L, len3_L, len4_L, len5_L, len6_L, con_strs, con_lsts, con_tups, con_dics, augD, lenD_str, lenD_lst, lenD_tup, lenD_dic, addD_int, subD_int, leD_int, ltD_int, leD_str, ltD_str, isD_non, Bool.not_true, Bool.not_false, Option.map_some, if_true, Bool.false_eq_true, if_false, storeAll, compF, bindT, setAll, TG'.slots, wipeF, change, pushIn, orc_call, orc_mkx, orc_sub, orc_fuel, G_mkx, G_sub, G_fuel])]
      rw [step_next (ρ1 := [.d (.dic kvs), .no, .no]) (M1 := M) (by simp only [exs, ex, evf, evi, ev, evs, evo, evc, Lp.start, List.map_cons, List.map_nil, List.length_cons, List.length_nil, List.replicate, List.cons_append, List.nil_append, List.getElem?_cons_zero, List.getElem?_cons_succ, List.set_cons_succ, List.set_cons_zero, Res.bind_ok, Res.bind_exc, Res.fl_ok, Res.fl_exc, Flow.seq_next, Flow.seq_ret, Flow.seq_exc, Flow.seq_brk, Flow.seq_cnt, bltD, mthD, Res.of_some, fres_next, fres_ret, fres_exc, asB_bl, cmpD, binD, kindOf_int, kindOf_str, kindOf_non, kindOf_bl, kindOf_lst, kindOf_tup, kindOf_dic, isNon_int, isNon_str, isNon_non, isNon_bl, isNon_lst, isNon_tup, isNon_dic, Ty.sub, reduceCtorEq, decide_false, decide_true, Bool.or_false, Bool.false_or, Bool.or_true, Bool.true_or, Bool.and_false, Bool.false_and, Bool.and_true, Bool.true_and, con_ints, con_nons, con_bls, len0_L, len1_L, len2_L, len3_L, len4_L, len5_L, len6_L, con_strs, con_lsts, con_tups, con_dics, augD, lenD_str, lenD_lst, lenD_tup, lenD_dic, addD_int, subD_int, leD_int, ltD_int, leD_str, ltD_str, isD_non, Bool.not_true, Bool.not_false, Option.map_some, if_true, Bool.false_eq_true, if_false, storeAll, compF, bindT, setAll, TG'.slots, wipeF, change, pushIn, orc_call, orc_mkx, orc_sub, orc_fuel, G_mkx, G_sub, G_fuel])]
      simp only [ex, ev, evf, evi, Lp.start, List.map_cons, List.map_nil, List.length_cons, List.length_nil, List.replicate, List.cons_append, List.nil_append, List.getElem?_cons_zero, Res.bind_ok, Res.fl_ok, kindOf_dic, t3, asB_bl, if_true, exs, hss, Res.of_some]
      rw [hc _ (by
        intro y hy
        obtain ⟨s, hs, rfl⟩ := List.mem_map.mp hy
        obtain ⟨x, h1, h2, h3, h4⟩ := hmem s hs
        have i1 : idxD M (.dic kvs) (.str s) = some x := h1
        have b1 : addD (.str s) (.str [58]) = some (.str (s ++ [58])) := by
          rw [addD_str, if_pos (by simp; omega)]
        have b2 : addD (.str (s ++ [58])) (.str (vT x)) = some (.str (s ++ 58 :: vT x)) := by
          rw [addD_str, if_pos (by simp; omega)]
          simp
        simp only [exs, ex, evf, evi, ev, evs, evo, evc, Lp.start, List.map_cons, List.map_nil, List.length_cons, List.length_nil, List.replicate, List.cons_append, List.nil_append, List.getElem?_cons_zero, List.getElem?_cons_succ, List.set_cons_succ, List.set_cons_zero, Res.bind_ok, Res.bind_exc, Res.fl_ok, Res.fl_exc, Flow.seq_next, Flow.seq_ret, Flow.seq_exc, Flow.seq_brk, Flow.seq_cnt, bltD, mthD, Res.of_some, fres_next, fres_ret, fres_exc, asB_bl, cmpD, binD, kindOf_int, kindOf_str, kindOf_non, kindOf_bl, kindOf_lst, kindOf_tup, kindOf_dic, isNon_int, isNon_str, isNon_non, isNon_bl, isNon_lst, isNon_tup, isNon_dic, Ty.sub, reduceCtorEq, decide_false, decide_true, Bool.or_false, Bool.false_or, Bool.or_true, Bool.true_or, Bool.and_false, Bool.false_and, Bool.and_true, Bool.true_and, con_ints, con_nons, con_bls, len0_L, len1_L, len2_L, len3_L, len4_L, len5_L, len6_L, con_strs, con_lsts, con_tups, con_dics, augD, lenD_str, lenD_lst, lenD_tup, lenD_dic, addD_int, subD_int, leD_int, ltD_int, leD_str, ltD_str, isD_non, Bool.not_true, Bool.not_false, Option.map_some, if_true, Bool.false_eq_true, if_false, storeAll, compF, bindT, setAll, TG'.slots, wipeF, change, pushIn, orc_call, orc_mkx, orc_sub, orc_fuel, G_mkx, G_sub, G_fuel, i1, b1, h3, b2, h2])]
      simp only [exs, ex, evf, evi, ev, evs, evo, evc, Lp.start, List.map_cons, List.map_nil, List.length_cons, List.length_nil, List.replicate, List.cons_append, List.nil_append, List.getElem?_cons_zero, List.getElem?_cons_succ, List.set_cons_succ, List.set_cons_zero, Res.bind_ok, Res.bind_exc, Res.fl_ok, Res.fl_exc, Flow.seq_next, Flow.seq_ret, Flow.seq_exc, Flow.seq_brk, Flow.seq_cnt, bltD, mthD, Res.of_some, fres_next, fres_ret, fres_exc, asB_bl, cmpD, binD, kindOf_int, kindOf_str, kindOf_non, kindOf_bl, kindOf_lst, kindOf_tup, kindOf_dic, isNon_int, isNon_str, isNon_non, isNon_bl, isNon_lst, isNon_tup, isNon_dic, Ty.sub, reduceCtorEq, decide_false, decide_true, Bool.or_false, Bool.false_or, Bool.or_true, Bool.true_or, Bool.and_false, Bool.false_and, Bool.and_true, Bool.true_and, con_ints, con_nons, con_bls, len0_L, len1_L, len2_L, len3_L, len4_L, len5_L, len6_L, con_strs, con_lsts, con_tups, con_dics, augD, lenD_str, lenD_lst, lenD_tup, lenD_dic, addD_int, subD_int, leD_int, ltD_int, leD_str, ltD_str, isD_non, Bool.not_true, Bool.not_false, Option.map_some, if_true, Bool.false_eq_true, if_false, storeAll, compF, bindT, setAll, TG'.slots, wipeF, change, pushIn, orc_call, orc_mkx, orc_sub, orc_fuel, G_mkx, G_sub, G_fuel, hj, a1, a2]
end K37

set_option Elab.async false
set_option linter.all false
set_option maxRecDepth 100000
set_option maxHeartbeats 2000000
namespace K37
open Lp
theorem c__law_text : ∀ (k : Nat) (d : D) (M : Mem), wf d = true → dep d < k → (vT d).length ≤ L → callN G k "_law_text" [d] M = .ok (.str (vT d)) M
  | 0, d, M, hw, hd, hl => by omega
  | k + 1, d, M, hw, hd, hl => by
    rw [callN_run (d := D__law_text) rfl k _ _ rfl]
    match d, hw, hd, hl with
    | .non, hw, hd, hl =>
      rw [vT_non]
      simp only [D__law_text, exs, ex, evf, evi, ev, evs, evo, evc, Lp.start, List.map_cons, List.map_nil, List.length_cons, List.length_nil, List.replicate, List.cons_append, List.nil_append, List.getElem?_cons_zero, List.getElem?_cons_succ, List.set_cons_succ, List.set_cons_zero, Res.bind_ok, Res.bind_exc, Res.fl_ok, Res.fl_exc, Flow.seq_next, Flow.seq_ret, Flow.seq_exc, Flow.seq_brk, Flow.seq_cnt, bltD, mthD, Res.of_some, fres_next, fres_ret, fres_exc, asB_bl, cmpD, binD, kindOf_int, kindOf_str, kindOf_non, kindOf_bl, kindOf_lst, kindOf_tup, kindOf_dic, isNon_int, isNon_str, isNon_non, isNon_bl, isNon_lst, isNon_tup, isNon_dic, Ty.sub, reduceCtorEq, decide_false, decide_true, Bool.or_false, Bool.false_or, Bool.or_true, Bool.true_or, Bool.and_false, Bool.false_and, Bool.and_true, Bool.true_and, con_ints, con_nons, con_bls, len0_L, len1_L, len2_L, len3_L, len4_L, len5_L, len6_L, con_strs, con_lsts, con_tups, con_dics, augD, lenD_str, lenD_lst, lenD_tup, lenD_dic, addD_int, subD_int, leD_int, ltD_int, leD_str, ltD_str, isD_non, Bool.not_true, Bool.not_false, Option.map_some, if_true, Bool.false_eq_true, if_false, storeAll, compF, bindT, setAll, TG'.slots, wipeF, change, pushIn, orc_call, orc_mkx, orc_sub, orc_fuel, G_mkx, G_sub, G_fuel]
    | .bl _, hw, _, _ => simp [wf] at hw
    | .tup _, hw, _, _ => simp [wf] at hw
    | .cell _, hw, _, _ => simp [wf] at hw
    | .int i, hw, hd, hl =>
      have h30 : i.natAbs < 10 ^ 30 := by simpa [wf] using hw
      have hs : strD (.int i) = some (.str (intText i)) := by
        show (if i.natAbs.log2 < 1920 then _ else _) = _
        rw [if_pos (log2_lt h30)]
      rw [vT_int]
      simp only [D__law_text, exs, ex, evf, evi, ev, evs, evo, evc, Lp.start, List.map_cons, List.map_nil, List.length_cons, List.length_nil, List.replicate, List.cons_append, List.nil_append, List.getElem?_cons_zero, List.getElem?_cons_succ, List.set_cons_succ, List.set_cons_zero, Res.bind_ok, Res.bind_exc, Res.fl_ok, Res.fl_exc, Flow.seq_next, Flow.seq_ret, Flow.seq_exc, Flow.seq_brk, Flow.seq_cnt, bltD, mthD, Res.of_some, fres_next, fres_ret, fres_exc, asB_bl, cmpD, binD, kindOf_int, kindOf_str, kindOf_non, kindOf_bl, kindOf_lst, kindOf_tup, kindOf_dic, isNon_int, isNon_str, isNon_non, isNon_bl, isNon_lst, isNon_tup, isNon_dic, Ty.sub, reduceCtorEq, decide_false, decide_true, Bool.or_false, Bool.false_or, Bool.or_true, Bool.true_or, Bool.and_false, Bool.false_and, Bool.and_true, Bool.true_and, con_ints, con_nons, con_bls, len0_L, len1_L, len2_L, len3_L, len4_L, len5_L, len6_L, con_strs, con_lsts, con_tups, con_dics, augD, lenD_str, lenD_lst, lenD_tup, lenD_dic, addD_int, subD_int, leD_int, ltD_int, leD_str, ltD_str, isD_non, Bool.not_true, Bool.not_false, Option.map_some, if_true, Bool.false_eq_true, if_false, storeAll, compF, bindT, setAll, TG'.slots, wipeF, change, pushIn, orc_call, orc_mkx, orc_sub, orc_fuel, G_mkx, G_sub, G_fuel, hs]
    | .str s, hw, hd, hl =>
      rw [vT_str] at hl ⊢
      simp only [List.length_cons, List.length_append, List.length_nil] at hl
      have a1 : addD (.str [39]) (.str s) = some (.str (39 :: s)) := by
        rw [addD_str, if_pos (by simp; omega)]; rfl
      have a2 : addD (.str (39 :: s)) (.str [39]) = some (.str (39 :: (s ++ [39]))) := by
        rw [addD_str, if_pos (by simp; omega)]; rfl
      simp only [D__law_text, exs, ex, evf, evi, ev, evs, evo, evc, Lp.start, List.map_cons, List.map_nil, List.length_cons, List.length_nil, List.replicate, List.cons_append, List.nil_append, List.getElem?_cons_zero, List.getElem?_cons_succ, List.set_cons_succ, List.set_cons_zero, Res.bind_ok, Res.bind_exc, Res.fl_ok, Res.fl_exc, Flow.seq_next, Flow.seq_ret, Flow.seq_exc, Flow.seq_brk, Flow.seq_cnt, bltD, mthD, Res.of_some, fres_next, fres_ret, fres_exc, asB_bl, cmpD, binD, kindOf_int, kindOf_str, kindOf_non, kindOf_bl, kindOf_lst, kindOf_tup, kindOf_dic, isNon_int, isNon_str, isNon_non, isNon_bl, isNon_lst, isNon_tup, isNon_dic, Ty.sub, reduceCtorEq, decide_false, decide_true, Bool.or_false, Bool.false_or, Bool.or_true, Bool.true_or, Bool.and_false, Bool.false_and, Bool.and_true, Bool.true_and, con_ints, con_nons, con_bls, len0_L, len1_L, len2_L, len3_L, len4_L, len5_L, len6_L, con_strs, con_lsts, con_tups, con_dics, augD, lenD_str, lenD_lst, lenD_tup, lenD_dic, addD_int, subD_int, leD_int, ltD_int, leD_str, ltD_str, isD_non, Bool.not_true, Bool.not_false, Option.map_some, if_true, Bool.false_eq_true, if_false, storeAll, compF, bindT, setAll, TG'.slots, wipeF, change, pushIn, orc_call, orc_mkx, orc_sub, orc_fuel, G_mkx, G_sub, G_fuel, a1, a2]
    | .lst xs, hw, hd, hl =>
      have hws : wfs xs = true := by simpa [wf] using hw
      have hds : deps xs < k := by simp only [dep] at hd; omega
      rw [vT_lst] at hl ⊢
      simp only [List.length_cons, List.length_append, List.length_nil] at hl
      have hn : xs.length ≤ L := by
        have h1 : ∀ y ∈ xs.map vT, 1 ≤ y.length := by
          intro y hy
          obtain ⟨x, hx, rfl⟩ := List.mem_map.mp hy
          exact vT_pos (wf_mem hws x hx)
        have h2 := sum_len _ h1
        rw [List.length_map] at h2
        by_cases h0 : xs = []
        · subst h0; simp
        · have h3 := joinS_len 44 (xs.map vT) (by simpa using h0)
          rw [List.length_map] at h3
          omega
      have ih : ∀ x ∈ xs, ∀ M, callN G k "_law_text" [x] M = .ok (.str (vT x)) M := fun x hx M => c__law_text k x M (wf_mem hws x hx) (Nat.lt_of_le_of_lt (deps_mem x hx) hds) (by
        have := joinS_ge (c := 44) (List.mem_map_of_mem (f := vT) hx)
        omega)
      have hc := fun (F : D → Mem → Res (Option D)) (h : ∀ x ∈ xs, F x M = .ok (some (.str (vT x))) M) => compGo_map (f := F) (g := fun x => .str (vT x)) xs [] h (by simpa using hn)
      have hj : joinD (.str [44]) (.lst (xs.map fun x => .str (vT x))) = some (.str (joinS [44] (xs.map vT))) := by
        have := joinD_ok (c := 44) (ys := xs.map vT) (by omega)
        rw [List.map_map] at this
        exact this
      have a1 : addD (.str [91]) (.str (joinS [44] (xs.map vT))) = some (.str (91 :: joinS [44] (xs.map vT))) := by
        rw [addD_str, if_pos (by simp; omega)]; rfl
      have a2 : addD (.str (91 :: joinS [44] (xs.map vT))) (.str [93]) = some (.str (91 :: (joinS [44] (xs.map vT) ++ [93]))) := by
        rw [addD_str, if_pos (by simp; omega)]; rfl
      have n1 : isNon (.lst xs) = false := rfl
      have t1 : (Ty.list.sub .str) = false := rfl
      have t2 : (Ty.list.sub .list) = true := rfl
      simp only [D__law_text]
      rw [step_next (ρ1 := [.d (.lst xs), .no, .no]) (M1 := M) (by simp only [exs, ex, evf, evi, ev, evs, evo, evc, Lp.start, List.map_cons, List.map_nil, List.length_cons, List.length_nil, List.replicate, List.cons_append, List.nil_append, List.getElem?_cons_zero, List.getElem?_cons_succ, List.set_cons_succ, List.set_cons_zero, Res.bind_ok, Res.bind_exc, Res.fl_ok, Res.fl_exc, Flow.seq_next, Flow.seq_ret, Flow.seq_exc, Flow.seq_brk, Flow.seq_cnt, bltD, mthD, Res.of_some, fres_next, fres_ret, fres_exc, asB_bl, cmpD, binD, kindOf_int, kindOf_str, kindOf_non, kindOf_bl, kindOf_lst, kindOf_tup, kindOf_dic, isNon_int, isNon_str, isNon_non, isNon_bl, isNon_lst, isNon_tup, isNon_dic, Ty.sub, reduceCtorEq, decide_false, decide_true, Bool.or_false, Bool.false_or, Bool.or_true, Bool.true_or, Bool.and_false, Bool.false_and, Bool.and_true, Bool.true_and, con_ints, con_nons, con_bls, len0_L, len1_L, len2_L, len3_L, len4_L, len5_L, len6_L, con_strs, con_lsts, con_tups, con_dics, augD, lenD_str, lenD_lst, lenD_tup, lenD_dic, addD_int, subD_int, leD_int, ltD_int, leD_str, ltD_str, isD_non, Bool.not_true, Bool.not_false, Option.map_some, if_true, Bool.false_eq_true, if_false, storeAll, compF, bindT, setAll, TG'.slots, wipeF, change, pushIn, orc_call, orc_mkx, orc_sub, orc_fuel, G_mkx, G_sub, G_fuel])]
      rw [step_next (ρ1 := [.d (.lst xs), .no, .no]) (M1 := M) (by simp only [exs, ex, evf, evi, ev, evs, evo, evc, Lp.start, List.map_cons, List.map_nil, List.length_cons, List.length_nil, List.replicate, List.cons_append, List.nil_append, List.getElem?_cons_zero, List.getElem?_cons_succ, List.set_cons_succ, List.set_cons_zero, Res.bind_ok, Res.bind_exc, Res.fl_ok, Res.fl_exc, Flow.seq_next, Flow.seq_ret, Flow.seq_exc, Flow.seq_brk, Flow.seq_cnt, bltD, mthD, Res.of_some, fres_next, fres_ret, fres_exc, asB_bl, cmpD, binD, kindOf_int, kindOf_str, kindOf_non, kindOf_bl, kindOf_lst, kindOf_tup, kindOf_dic, isNon_int, isNon_str, isNon_non, isNon_bl, isNon_lst, isNon_tup, isNon_dic, Ty.sub, reduceCtorEq, decide_false, decide_true, Bool.or_false, Bool.false_or, Bool.or_true, Bool.true_or, Bool.and_false, Bool.false_and, Bool.and_true, Bool.true_and, con_ints, con_nons, con_bls, len0_L, len1_L, len2_L, len3_L, len4_L, len5_L, len6_L, con_strs, con_lsts, con_tups, con_dics, augD, lenD_str, lenD_lst, lenD_tup, lenD_dic, addD_int, subD_int, leD_int, ltD_int, leD_str, ltD_str, isD_non, Bool.not_true, Bool.not_false, Option.map_some, if_true, Bool.false_eq_true, if_false, storeAll, compF, bindT, setAll, TG'.slots, wipeF, change, pushIn, orc_call, orc_mkx, orc_sub, orc_fuel, G_mkx, G_sub, G_fuel])]
      simp only [ex, ev, evf, evi, Lp.start, List.map_cons, List.map_nil, List.length_cons, List.length_nil, List.replicate, List.cons_append, List.nil_append, List.getElem?_cons_zero, Res.bind_ok, Res.fl_ok, kindOf_lst, t2, asB_bl, if_true, exs]
      rw [hc _ (by
        intro x hx
        simp only [exs, ex, evf, evi, ev, evs, evo, evc, Lp.start, List.map_cons, List.map_nil, List.length_cons, List.length_nil, List.replicate, List.cons_append, List.nil_append, List.getElem?_cons_zero, List.getElem?_cons_succ, List.set_cons_succ, List.set_cons_zero, Res.bind_ok, Res.bind_exc, Res.fl_ok, Res.fl_exc, Flow.seq_next, Flow.seq_ret, Flow.seq_exc, Flow.seq_brk, Flow.seq_cnt, bltD, mthD, Res.of_some, fres_next, fres_ret, fres_exc, asB_bl, cmpD, binD, kindOf_int, kindOf_str, kindOf_non, kindOf_bl, kindOf_lst, kindOf_tup, kindOf_dic, isNon_int, isNon_str, isNon_non, isNon_bl, isNon_lst, isNon_tup, isNon_dic, Ty.sub, reduceCtorEq, decide_false, decide_true, Bool.or_false, Bool.false_or, Bool.or_true, Bool.true_or, Bool.and_false, Bool.false_and, Bool.and_true, Bool.true_and, con_ints, con_nons, con_bls, len0_L, len1_L, len2_L, len3_L, len4_L, len5_L, len6_L, con_strs, con_lsts, con_tups, con_dics, augD, lenD_str, lenD_lst, lenD_tup, lenD_dic, addD_int, subD_int, leD_int, ltD_int, leD_str, ltD_str, isD_non, Bool.not_true, Bool.not_false, Option.map_some, if_true, Bool.false_eq_true, if_false, storeAll, compF, bindT, setAll, TG'.slots, wipeF, change, pushIn, orc_call, orc_mkx, orc_sub, orc_fuel, G_mkx, G_sub, G_fuel, ih x hx])]
      simp only [exs, ex, evf, evi, ev, evs, evo, evc, Lp.start, List.map_cons, List.map_nil, List.length_cons, List.length_nil, List.replicate, List.cons_append, List.nil_append, List.getElem?_cons_zero, List.getElem?_cons_succ, List.set_cons_succ, List.set_cons_zero, Res.bind_ok, Res.bind_exc, Res.fl_ok, Res.fl_exc, Flow.seq_next, Flow.seq_ret, Flow.seq_exc, Flow.seq_brk, Flow.seq_cnt, bltD, mthD, Res.of_some, fres_next, fres_ret, fres_exc, asB_bl, cmpD, binD, kindOf_int, kindOf_str, kindOf_non, kindOf_bl, kindOf_lst, kindOf_tup, kindOf_dic, isNon_int, isNon_str, isNon_non, isNon_bl, isNon_lst, isNon_tup, isNon_dic, Ty.sub, reduceCtorEq, decide_false, decide_true, Bool.or_false, Bool.false_or, Bool.or_true, Bool.true_or, Bool.and_false, Bool.false_and, Bool.and_true, Bool.true_and, con_ints, con_nons, con_bls, len0_L, len1_L, len2_L, len3_L, len4_L, len5_L, len6_L, con_strs, con_lsts, con_tups, con_dics, augD, lenD_str, lenD_lst, lenD_tup, lenD_dic, addD_int, subD_int, leD_int, ltD_int, leD_str, ltD_str, isD_non, Bool.not_true, Bool.not_false, Option.map_some, if_true, Bool.false_eq_true, if_false, storeAll, compF, bindT, setAll, TG'.slots, wipeF, change, pushIn, orc_call, orc_mkx, orc_sub, orc_fuel, G_mkx, G_sub, G_fuel, hj, a1, a2]
    | .dic kvs, hw, hd, hl =>
      have hw2 : wfk kvs = true := by
        simp only [wf, Bool.and_eq_true] at hw
        exact hw.1
      have hds : depk kvs < k := by simp only [dep] at hd; omega
      rw [vT_dic] at hl ⊢
      simp only [List.length_cons, List.length_append, List.length_nil] at hl
      have hkd := keyed_wf hw2
      have hss : (strsD (kvs.map fun p => keyD p.1)).map (fun ss => D.lst ((sortS ss).map .str)) = some (.lst ((sortS (kvs.map fun p => kS p.1)).map .str)) := by
        rw [keyed_keys hkd, strsD_map]; rfl
      have hmem : ∀ s ∈ sortS (kvs.map fun p => kS p.1), ∃ x, dlook kvs (.inr s) = some x ∧ s ++ 58 :: lkS s (vTk kvs) = s ++ 58 :: vT x ∧ (∀ M, callN G k "_law_text" [x] M = .ok (.str (vT x)) M) ∧ s.length + 1 + (vT x).length ≤ L := by
        intro s hs
        obtain ⟨x, h1, h2, p, hp, e⟩ := lk_text hkd s (sortS_mem hs)
        have hlen : (s ++ 58 :: vT x).length ≤ (joinS [44] ((sortS (kvs.map fun p => kS p.1)).map fun k => k ++ 58 :: lkS k (vTk kvs))).length := by
          refine joinS_ge (List.mem_map.mpr ⟨s, hs, ?_⟩)
          rw [h2]
        simp only [List.length_append, List.length_cons] at hlen
        subst e
        refine ⟨p.2, h1, by rw [h2], fun M => c__law_text k p.2 M (wfk_mem hw2 p hp).1 (Nat.lt_of_le_of_lt (depk_mem p hp) hds) (by omega), by omega⟩
      generalize hss2 : sortS (kvs.map fun p => kS p.1) = ss at *
      have hn : ss.length ≤ L := by
        have h1 : ∀ y ∈ ss.map (fun k => k ++ 58 :: lkS k (vTk kvs)), 1 ≤ y.length := by
          intro y hy
          obtain ⟨x, hx, rfl⟩ := List.mem_map.mp hy
          simp only [List.length_append, List.length_cons]; omega
        have h2 := sum_len _ h1
        rw [List.length_map] at h2
        by_cases h0 : ss = []
        · rw [h0]; simp
        · have h3 := joinS_len 44 (ss.map fun k => k ++ 58 :: lkS k (vTk kvs)) (by simpa using h0)
          rw [List.length_map] at h3
          omega
      have hc := fun (F : D → Mem → Res (Option D)) (h : ∀ x ∈ ss.map D.str, F x M = .ok (some ((fun d => match d with | .str s => .str (s ++ 58 :: lkS s (vTk kvs)) | _ => .non) x)) M) => compGo_map (f := F) (g := fun d => match d with | .str s => .str (s ++ 58 :: lkS s (vTk kvs)) | _ => .non) (ss.map D.str) [] h (by simpa using hn)
      have hj : joinD (.str [44]) (.lst ((ss.map D.str).map fun d => match d with | .str s => .str (s ++ 58 :: lkS s (vTk kvs)) | _ => .non)) = some (.str (joinS [44] (ss.map fun k => k ++ 58 :: lkS k (vTk kvs)))) := by
        have := joinD_ok (c := 44) (ys := ss.map fun k => k ++ 58 :: lkS k (vTk kvs)) (by omega)
        rw [List.map_map] at this ⊢
        exact this
      have a1 : addD (.str [123]) (.str (joinS [44] (ss.map fun k => k ++ 58 :: lkS k (vTk kvs)))) = some (.str (123 :: joinS [44] (ss.map fun k => k ++ 58 :: lkS k (vTk kvs)))) := by
        rw [addD_str, if_pos (by simp; omega)]; rfl
      have a2 : addD (.str (123 :: joinS [44] (ss.map fun k => k ++ 58 :: lkS k (vTk kvs)))) (.str [125]) = some (.str (123 :: (joinS [44] (ss.map fun k => k ++ 58 :: lkS k (vTk kvs)) ++ [125]))) := by
        rw [addD_str, if_pos (by simp; omega)]; rfl
      have n1 : isNon (.dic kvs) = false := rfl
      have t1 : (Ty.dict.sub .str) = false := rfl
      have t2 : (Ty.dict.sub .list) = false := rfl
      have t3 : (Ty.dict.sub .dict) = true := rfl
      simp only [D__law_text]
      rw [step_next (ρ1 := [.d (.dic kvs), .no, .no]) (M1 := M) (by simp only [exs, ex, evf, evi, ev, evs, evo, evc, Lp.start, List.map_cons, List.map_nil, List.length_cons, List.length_nil, List.replicate, List.cons_append, List.nil_append, List.getElem?_cons_zero, List.getElem?_cons_succ, List.set_cons_succ, List.set_cons_zero, Res.bind_ok, Res.bind_exc, Res.fl_ok, Res.fl_exc, Flow.seq_next, Flow.seq_ret, Flow.seq_exc, Flow.seq_brk, Flow.seq_cnt, bltD, mthD, Res.of_some, fres_next, fres_ret, fres_exc, asB_bl, cmpD, binD, kindOf_int, kindOf_str, kindOf_non, kindOf_bl, kindOf_lst, kindOf_tup, kindOf_dic, isNon_int, isNon_str, isNon_non, isNon_bl, isNon_lst, isNon_tup, isNon_dic, Ty.sub, reduceCtorEq, decide_false, decide_true, Bool.or_false, Bool.false_or, Bool.or_true, Bool.true_or, Bool.and_false, Bool.false_and, Bool.and_true, Bool.true_and, con_ints, con_nons, con_bls, len0_L, len1_L, len2_L, len3_L, len4_L, len5_L, len6_L, con_strs, con_lsts, con_tups, con_dics, augD, lenD_str, lenD_lst, lenD_tup, lenD_dic, addD_int, subD_int, leD_int, ltD_int, leD_str, ltD_str, isD_non, Bool.not_true, Bool.not_false, Option.map_some, if_true, Bool.false_eq_true, if_false, storeAll, compF, bindT, setAll, TG'.slots, wipeF, change, pushIn, orc_call, orc_mkx, orc_sub, orc_fuel, G_mkx, G_sub, G_fuel])]
      rw [step_next (ρ1 := [.d (.dic kvs), .no, .no]) (M1 := M) (by simp only [exs, ex, evf, evi, ev, evs, evo, evc, Lp.start, List.map_cons, List.map_nil, List.length_cons, List.length_nil, List.replicate, List.cons_append, List.nil_append, List.getElem?_cons_zero, List.getElem?_cons_succ, List.set_cons_succ, List.set_cons_zero, Res.bind_ok, Res.bind_exc, Res.fl_ok, Res.fl_exc, Flow.seq_next, Flow.seq_ret, Flow.seq_exc, Flow.seq_brk, Flow.seq_cnt, bltD, mthD, Res.of_some, fres_next, fres_ret, fres_exc, asB_bl, cmpD, binD, kindOf_int, kindOf_str, kindOf_non, kindOf_bl, kindOf_lst, kindOf_tup, kindOf_dic, isNon_int, isNon_str, isNon_non, isNon_bl, isNon_lst, isNon_tup, isNon_dic, Ty.sub, reduceCtorEq, decide_false, decide_true, Bool.or_false, Bool.false_or, Bool.or_true, Bool.true_or, Bool.and_false, Bool.false_and, Bool.and_true, Bool.true_and, con_ints, con_nons, con_bls, len0_L, len1_L, len2_L, len3_L, len4_L, len5_L, len6_L, con_strs, con_lsts, con_tups, con_dics, augD, lenD_str, lenD_lst, lenD_tup, lenD_dic, addD_int, subD_int, leD_int, ltD_int, leD_str, ltD_str, isD_non, Bool.not_true, Bool.not_false, Option.map_some, if_true, Bool.false_eq_true, if_false, storeAll, compF, bindT, setAll, TG'.slots, wipeF, change, pushIn, orc_call, orc_mkx, orc_sub, orc_fuel, G_mkx, G_sub, G_fuel])]
      rw [step_next (ρ1 := [.d (.dic kvs), .no, .no]) (M1 := M) (by simp only [exs, ex, evf, evi, ev, evs, evo, evc, Lp.start, List.map_cons, List.map_nil, List.length_cons, List.length_nil, List.replicate, List.cons_append, List.nil_append, List.getElem?_cons_zero, List.getElem?_cons_succ, List.set_cons_succ, List.set_cons_zero, Res.bind_ok, Res.bind_exc, Res.fl_ok, Res.fl_exc, Flow.seq_next, Flow.seq_ret, Flow.seq_exc, Flow.seq_brk, Flow.seq_cnt, bltD, mthD, Res.of_some, fres_next, fres_ret, fres_exc, asB_bl, cmpD, binD, kindOf_int, kindOf_str, kindOf_non, kindOf_bl, kindOf_lst, kindOf_tup, kindOf_dic, isNon_int, isNon_str, isNon_non, isNon_bl, isNon_lst, isNon_tup, isNon_dic, Ty.sub, reduceCtorEq, decide_false, decide_true, Bool.or_false, Bool.false_or, Bool.or_true, Bool.true_or, Bool.and_false, Bool.false_and, Bool.and_true, Bool.true_and, con_ints, con_nons, con_bls, len0_L, len1_L, len2_L, len3_L, len4_L, len5_L, len6_L, con_strs, con_lsts, con_tups, con_dics, augD, lenD_str, lenD_lst, lenD_tup, lenD_dic, addD_int, subD_int, leD_int, ltD_int, leD_str, ltD_str, isD_non, Bool.not_true, Bool.not_false, Option.map_some, if_true, Bool.false_eq_true, if_false, storeAll, compF, bindT, setAll, TG'.slots, wipeF, change, pushIn, orc_call, orc_mkx, orc_sub, orc_fuel, G_mkx, G_sub, G_fuel])]
      simp only [ex, ev, evf, evi, Lp.start, List.map_cons, List.map_nil, List.length_cons, List.length_nil, List.replicate, List.cons_append, List.nil_append, List.getElem?_cons_zero, Res.bind_ok, Res.fl_ok, kindOf_dic, t3, asB_bl, if_true, exs, hss, Res.of_some]
      rw [hc _ (by
        intro y hy
        obtain ⟨s, hs, rfl⟩ := List.mem_map.mp hy
        obtain ⟨x, h1, h2, h3, h4⟩ := hmem s hs
        have i1 : idxD M (.dic kvs) (.str s) = some x := h1
        have b1 : addD (.str s) (.str [58]) = some (.str (s ++ [58])) := by
          rw [addD_str, if_pos (by simp; omega)]
        have b2 : addD (.str (s ++ [58])) (.str (vT x)) = some (.str (s ++ 58 :: vT x)) := by
          rw [addD_str, if_pos (by simp; omega)]
          simp
        simp only [exs, ex, evf, evi, ev, evs, evo, evc, Lp.start, List.map_cons, List.map_nil, List.length_cons, List.length_nil, List.replicate, List.cons_append, List.nil_append, List.getElem?_cons_zero, List.getElem?_cons_succ, List.set_cons_succ, List.set_cons_zero, Res.bind_ok, Res.bind_exc, Res.fl_ok, Res.fl_exc, Flow.seq_next, Flow.seq_ret, Flow.seq_exc, Flow.seq_brk, Flow.seq_cnt, bltD, mthD, Res.of_some, fres_next, fres_ret, fres_exc, asB_bl, cmpD, binD, kindOf_int, kindOf_str, kindOf_non, kindOf_bl, kindOf_lst, kindOf_tup, kindOf_dic, isNon_int, isNon_str, isNon_non, isNon_bl, isNon_lst, isNon_tup, isNon_dic, Ty.sub, reduceCtorEq, decide_false, decide_true, Bool.or_false, Bool.false_or, Bool.or_true, Bool.true_or, Bool.and_false, Bool.false_and, Bool.and_true, Bool.true_and, con_ints, con_nons, con_bls, len0_L, len1_L, len2_L, len3_L, len4_L, len5_L, len6_L, con_strs, con_lsts, con_tups, con_dics, augD, lenD_str, lenD_lst, lenD_tup, lenD_dic, addD_int, subD_int, leD_int, ltD_int, leD_str, ltD_str, isD_non, Bool.not_true, Bool.not_false, Option.map_some, if_true, Bool.false_eq_true, if_false, storeAll, compF, bindT, setAll, TG'.slots, wipeF, change, pushIn, orc_call, orc_mkx, orc_sub, orc_fuel, G_mkx, G_sub, G_fuel, i1, b1, h3, b2, h2])]
      simp only [exs, ex, evf, evi, ev, evs, evo, evc, Lp.start, List.map_cons, List.map_nil, List.length_cons, List.length_nil, List.replicate, List.cons_append, List.nil_append, List.getElem?_cons_zero, List.getElem?_cons_succ, List.set_cons_succ, List.set_cons_zero, Res.bind_ok, Res.bind_exc, Res.fl_ok, Res.fl_exc, Flow.seq_next, Flow.seq_ret, Flow.seq_exc, Flow.seq_brk, Flow.seq_cnt, bltD, mthD, Res.of_some, fres_next, fres_ret, fres_exc, asB_bl, cmpD, binD, kindOf_int, kindOf_str, kindOf_non, kindOf_bl, kindOf_lst, kindOf_tup, kindOf_dic, isNon_int, isNon_str, isNon_non, isNon_bl, isNon_lst, isNon_tup, isNon_dic, Ty.sub, reduceCtorEq, decide_false, decide_true, Bool.or_false, Bool.false_or, Bool.or_true, Bool.true_or, Bool.and_false, Bool.false_and, Bool.and_true, Bool.true_and, con_ints, con_nons, con_bls, len0_L, len1_L, len2_L, len3_L, len4_L, len5_L, len6_L, con_strs, con_lsts, con_tups, con_dics, augD, lenD_str, lenD_lst, lenD_tup, lenD_dic, addD_int, subD_int, leD_int, ltD_int, leD_str, ltD_str, isD_non, Bool.not_true, Bool.not_false, Option.map_some, if_true, Bool.false_eq_true, if_false, storeAll, compF, bindT, setAll, TG'.slots, wipeF, change, pushIn, orc_call, orc_mkx, orc_sub, orc_fuel, G_mkx, G_sub, G_fuel, hj, a1, a2]
theorem c_write_value (k : Nat) (d : D) (M : Mem) (hw : wf d = true) (hd : dep d < k) (hl : (vT d).length ≤ L) : callN G (k+1) "write_value" [d] M = .ok (.str (vT d)) M := by
  rw [callN_run (d := D_write_value) rfl k _ _ rfl]
  simp only [D_write_value, exs, ex, evf, evi, ev, evs, evo, evc, Lp.start, List.map_cons, List.map_nil, List.length_cons, List.length_nil, List.replicate, List.cons_append, List.nil_append, List.getElem?_cons_zero, List.getElem?_cons_succ, List.set_cons_succ, List.set_cons_zero, Res.bind_ok, Res.bind_exc, Res.fl_ok, Res.fl_exc, Flow.seq_next, Flow.seq_ret, Flow.seq_exc, Flow.seq_brk, Flow.seq_cnt, bltD, mthD, Res.of_some, fres_next, fres_ret, fres_exc, asB_bl, cmpD, binD, kindOf_int, kindOf_str, kindOf_non, kindOf_bl, kindOf_lst, kindOf_tup, kindOf_dic, isNon_int, isNon_str, isNon_non, isNon_bl, isNon_lst, isNon_tup, isNon_dic, Ty.sub, reduceCtorEq, decide_false, decide_true, Bool.or_false, Bool.false_or, Bool.or_true, Bool.true_or, Bool.and_false, Bool.false_and, Bool.and_true, Bool.true_and, con_ints, con_nons, con_bls, len0_L, len1_L, len2_L, len3_L, len4_L, len5_L, len6_L, con_strs, con_lsts, con_tups, con_dics, augD, lenD_str, lenD_lst, lenD_tup, lenD_dic, addD_int, subD_int, leD_int, ltD_int, leD_str, ltD_str, isD_non, Bool.not_true, Bool.not_false, Option.map_some, if_true, Bool.false_eq_true, if_false, storeAll, compF, bindT, setAll, TG'.slots, wipeF, change, pushIn, orc_call, orc_mkx, orc_sub, orc_fuel, G_mkx, G_sub, G_fuel, c_value_text k d M hw hd hl]
end K37

set_option Elab.async false
set_option linter.all false
set_option maxRecDepth 100000
set_option maxHeartbeats 2000000
namespace K37
open Lp
def st4 (ns : List Int) (p b s : Int) : Mem := [.lst [.lst (ns.map .int), .int p, .int b, .int s]]
/-- the drawer as it stands -/
def Good (M : Mem) : Prop := ∃ ns p b s, M = st4 ns p b s ∧ 0 ≤ p ∧ 0 ≤ b ∧ 0 ≤ s ∧ s < 2147483629
theorem idx0 {ns : List Int} {p b s : Int} : idxD (st4 ns p b s) (.cell 0) (.int 0) = some (.lst (ns.map .int)) := rfl
theorem idx1 {ns : List Int} {p b s : Int} : idxD (st4 ns p b s) (.cell 0) (.int 1) = some (.int p) := rfl
theorem idx2 {ns : List Int} {p b s : Int} : idxD (st4 ns p b s) (.cell 0) (.int 2) = some (.int b) := rfl
theorem idx3 {ns : List Int} {p b s : Int} : idxD (st4 ns p b s) (.cell 0) (.int 3) = some (.int s) := rfl
theorem chg1 {ns : List Int} {p b s v : Int} {C : Orc} {r : Fr} : change (.var 0) (fun o => putIn o (.int 1) (.int v)) C (.d (.cell 0) :: r) (st4 ns p b s) = .next (.d (.cell 0) :: r) (st4 ns v b s) := rfl
theorem chg2 {ns : List Int} {p b s v : Int} {C : Orc} {r : Fr} : change (.var 0) (fun o => putIn o (.int 2) (.int v)) C (.d (.cell 0) :: r) (st4 ns p b s) = .next (.d (.cell 0) :: r) (st4 ns p v s) := rfl
theorem chg3 {ns : List Int} {p b s v : Int} {C : Orc} {r : Fr} : change (.var 0) (fun o => putIn o (.int 3) (.int v)) C (.d (.cell 0) :: r) (st4 ns p b s) = .next (.d (.cell 0) :: r) (st4 ns p b v) := rfl
theorem idx_ints {M : Mem} {ns : List Int} {p : Int} (h0 : 0 ≤ p) (h : p < ns.length) : ∃ z, idxD M (.lst (ns.map .int)) (.int p) = some (.int z) := by
  obtain ⟨m, rfl⟩ := Int.eq_ofNat_of_zero_le h0
  have hl : m < ns.length := by omega
  refine ⟨ns[m], ?_⟩
  unfold idxD
  simp only [con_lsts]
  rw [ixD_nat (by simpa using hl)]
  simp [List.getElem?_eq_getElem hl]
theorem mod_ok {i j : Int} (h : 0 < j) : ∃ r, modD (.int i) (.int j) = some (.int r) ∧ 0 ≤ r ∧ r < j := by
  refine ⟨i.fmod j, ?_, Int.fmod_nonneg_of_pos _ h, Int.fmod_lt_of_pos _ h⟩
  show (if j ≠ 0 then _ else _) = _
  rw [if_pos (by omega)]
theorem div_ok {i j : Int} (hi : 0 ≤ i) (h : 0 < j) (h2 : j < 1073741824) : ∃ r, fdivD (.int i) (.int j) = some (.int r) ∧ 0 ≤ r := by
  refine ⟨i.fdiv j, ?_, Int.fdiv_nonneg hi (by omega)⟩
  show (if j ≠ 0 ∧ j.natAbs < 1073741824 then _ else _) = _
  rw [if_pos ⟨by omega, by omega⟩]
theorem mul_ok {i j : Int} (h : j.natAbs < 18446744073709551616) : mulD (.int i) (.int j) = some (.int (i * j)) := by
  show (if mulOk i j = true then _ else _) = _
  rw [if_pos]
  unfold mulOk
  simp [h]
theorem pow_ok {i : Int} (h : i.natAbs < 18446744073709551616) : powD (.int i) (.int 3) = some (.int (i ^ 3)) := by
  show (if powOk i 3 = true then _ else _) = _
  rw [if_pos]
  · rfl
  · unfold powOk
    simp [h]
theorem pow18 : powD (.int 10) (.int 18) = some (.int 1000000000000000000) := rfl
theorem bin_add {a b : D} : binD .add a b = addD a b := rfl
def pullB : SXs := (.cons (.ite (.cmp .ge (.idx (.var 0) (.c (.int 2))) (.var 1)) (.cons (.set 3 (.bin .mod (.idx (.var 0) (.c (.int 2))) (.var 1))) (.cons (.setit (.var 0) (.c (.int 2)) (.bin .fdiv (.idx (.var 0) (.c (.int 2))) (.var 1))) (.cons (.ret (.var 3)) .nil))) .nil) (.cons (.setit (.var 0) (.c (.int 3)) (.bin .mod (.bin .add (.bin .add (.bin .pow (.idx (.var 0) (.c (.int 3))) (.c (.int 3))) (.bin .mul (.idx (.var 0) (.c (.int 3))) (.c (.int 40692)))) (.c (.int 1013904243))) (.c (.int 2147483629)))) (.cons (.ret (.bin .mod (.bin .add (.bin .fdiv (.idx (.var 0) (.c (.int 3))) (.c (.int 67))) (.bin .mul (.bin .mod (.idx (.var 0) (.c (.int 3))) (.c (.int 8191))) (.c (.int 31)))) (.var 1))) .nil)))
def pullA : SX := (.ite (.and (.cmp .lt (.idx (.var 0) (.c (.int 2))) (.var 1)) (.cmp .lt (.idx (.var 0) (.c (.int 1))) (.blt .len (.idx (.var 0) (.c (.int 0)))))) (.cons (.set 2 (.idx (.idx (.var 0) (.c (.int 0))) (.idx (.var 0) (.c (.int 1))))) (.cons (.setit (.var 0) (.c (.int 1)) (.bin .add (.idx (.var 0) (.c (.int 1))) (.c (.int 1)))) (.cons (.setit (.var 0) (.c (.int 2)) (.c (.int 0))) (.cons (.ite (.cmp .ge (.var 2) (.bin .pow (.c (.int 10)) (.c (.int 18)))) (.cons (.setit (.var 0) (.c (.int 2)) (.var 2)) .nil) (.cons (.setit (.var 0) (.c (.int 3)) (.bin .mod (.bin .add (.bin .add (.bin .mul (.idx (.var 0) (.c (.int 3))) (.c (.int 69621))) (.bin .mul (.bin .mod (.var 2) (.c (.int 1000000007))) (.c (.int 39373)))) (.c (.int 29))) (.c (.int 2147483629)))) .nil)) .nil)))) .nil)
section
variable {C : Orc} {top : Int}
theorem pullB_ok {ns : List Int} {p b s : Int} {s2 : Sl} (hp : 0 ≤ p) (hb : 0 ≤ b) (hs : 0 ≤ s) (hs2 : s < 2147483629) (h0 : 0 < top) (h1 : top < 1073741824) : ∃ r M', exs C pullB [.d (.cell 0), .d (.int top), s2, .no] (st4 ns p b s) = .ret (.int r) M' ∧ 0 ≤ r ∧ r < top ∧ Good M' := by
  by_cases h : top ≤ b
  · obtain ⟨r, e1, r0, r1⟩ := mod_ok (i := b) h0
    obtain ⟨q, e2, q0⟩ := div_ok hb h0 h1
    refine ⟨r, st4 ns p q s, ?_, r0, r1, _, _, _, _, rfl, hp, q0, hs, hs2⟩
    simp only [pullB, exs, ex, ev, List.getElem?_cons_zero, List.getElem?_cons_succ, List.set_cons_succ, List.set_cons_zero, Res.bind_ok, Res.fl_ok, Flow.seq_next, Flow.seq_ret, idx2, Res.of_some, cmpD, leD_int, h, decide_true, asB_bl, if_true, binD, e1, e2, chg2]
  · obtain ⟨s', e1, s0, s1⟩ := mod_ok (i := s ^ 3 + s * 40692 + 1013904243) (j := 2147483629) (by decide)
    obtain ⟨d, e2, d0⟩ := div_ok (i := s') (j := 67) s0 (by decide) (by decide)
    obtain ⟨m, e3, m0, m1⟩ := mod_ok (i := s') (j := 8191) (by decide)
    obtain ⟨r, e4, r0, r1⟩ := mod_ok (i := d + m * 31) h0
    have e5 := pow_ok (i := s) (by omega)
    have e6 := mul_ok (i := s) (j := 40692) (by decide)
    have e7 := mul_ok (i := m) (j := 31) (by decide)
    refine ⟨r, st4 ns p b s', ?_, r0, r1, _, _, _, _, rfl, hp, hb, s0, s1⟩
    simp only [pullB, exs, ex, ev, List.getElem?_cons_zero, List.getElem?_cons_succ, List.set_cons_succ, List.set_cons_zero, Res.bind_ok, Res.fl_ok, Flow.seq_next, Flow.seq_ret, idx2, idx3, Res.of_some, cmpD, leD_int, h, decide_false, asB_bl, Bool.false_eq_true, if_false, binD, addD_int, e1, e2, e3, e4, e5, e6, e7, chg3]
theorem pullA_ok {ns : List Int} {p b s : Int} (hp : 0 ≤ p) (hb : 0 ≤ b) (hs : 0 ≤ s) (hs2 : s < 2147483629) : ∃ s2 p' b' s', ex C pullA [.d (.cell 0), .d (.int top), .no, .no] (st4 ns p b s) = .next [.d (.cell 0), .d (.int top), s2, .no] (st4 ns p' b' s') ∧ 0 ≤ p' ∧ 0 ≤ b' ∧ 0 ≤ s' ∧ s' < 2147483629 := by
  by_cases h : b < top
  · by_cases h2 : p < (ns.length : Int)
    · obtain ⟨z, ez⟩ := idx_ints (M := st4 ns p b s) hp h2
      by_cases h3 : 1000000000000000000 ≤ z
      · refine ⟨.d (.int z), p + 1, z, s, ?_, by omega, by omega, hs, hs2⟩
        simp only [pullA, exs, ex, ev, List.getElem?_cons_zero, List.getElem?_cons_succ, List.set_cons_succ, List.set_cons_zero, Res.bind_ok, Res.fl_ok, Flow.seq_next, idx0, idx1, idx2, Res.of_some, cmpD, ltD_int, leD_int, h, decide_true, asB_bl, if_true, bltD, lenD_lst, List.length_map, h2, ez, binD, addD_int, chg1, chg2, pow18, h3]
      · obtain ⟨m, e1, m0, m1⟩ := mod_ok (i := z) (j := 1000000007) (by decide)
        have e2 := mul_ok (i := s) (j := 69621) (by decide)
        have e3 := mul_ok (i := m) (j := 39373) (by decide)
        obtain ⟨s', e4, s0, s1⟩ := mod_ok (i := s * 69621 + m * 39373 + 29) (j := 2147483629) (by decide)
        refine ⟨.d (.int z), p + 1, 0, s', ?_, by omega, by omega, s0, s1⟩
        simp only [pullA, exs, ex, ev, List.getElem?_cons_zero, List.getElem?_cons_succ, List.set_cons_succ, List.set_cons_zero, Res.bind_ok, Res.fl_ok, Flow.seq_next, idx0, idx1, idx2, idx3, Res.of_some, cmpD, ltD_int, leD_int, h, decide_true, decide_false, asB_bl, if_true, Bool.false_eq_true, if_false, bltD, lenD_lst, List.length_map, h2, ez, binD, addD_int, chg1, chg2, chg3, pow18, h3, e1, e2, e3, e4]
    · refine ⟨.no, p, b, s, ?_, hp, hb, hs, hs2⟩
      simp only [pullA, exs, ex, ev, List.getElem?_cons_zero, List.getElem?_cons_succ, Res.bind_ok, Res.fl_ok, idx0, idx1, idx2, Res.of_some, cmpD, ltD_int, h, decide_true, decide_false, asB_bl, if_true, Bool.false_eq_true, if_false, bltD, lenD_lst, List.length_map, h2]
  · refine ⟨.no, p, b, s, ?_, hp, hb, hs, hs2⟩
    simp only [pullA, exs, ex, ev, List.getElem?_cons_zero, List.getElem?_cons_succ, Res.bind_ok, Res.fl_ok, idx2, Res.of_some, cmpD, ltD_int, h, decide_false, asB_bl, Bool.false_eq_true, if_false]
end
def D_pull' : Def := ⟨2, 4, .cons pullA pullB⟩
theorem pull_ok (k : Nat) {M : Mem} {top : Int} (g : Good M) (h0 : 0 < top) (h1 : top < 1073741824) : ∃ r M', callN G (k+1) "_law_pull" [.cell 0, .int top] M = .ok (.int r) M' ∧ 0 ≤ r ∧ r < top ∧ Good M' := by
  obtain ⟨ns, p, b, s, rfl, hp, hb, hs, hs2⟩ := g
  obtain ⟨s2, p', b', s', e, hp', hb', hs', hs2'⟩ := pullA_ok (C := orc G k) (top := top) (ns := ns) hp hb hs hs2
  obtain ⟨r, M', e2, r0, r1, g'⟩ := pullB_ok (C := orc G k) (top := top) (s2 := s2) (ns := ns) hp' hb' hs' hs2' h0 h1
  refine ⟨r, M', ?_, r0, r1, g'⟩
  rw [callN_run (d := D_pull') rfl k _ _ rfl]
  show (exs (orc G k) (.cons pullA pullB) [.d (.cell 0), .d (.int top), .no, .no] (st4 ns p b s)).res = _
  rw [step_next e, e2]
  rfl
end K37

set_option Elab.async false
set_option linter.all false
set_option maxRecDepth 100000
set_option maxHeartbeats 2000000
namespace K37
open Lp
theorem idx_list {M : Mem} {xs : List D} {r : Int} (h0 : 0 ≤ r) (h : r < xs.length) : ∃ x, idxD M (.lst xs) (.int r) = some x ∧ x ∈ xs := by
  obtain ⟨m, rfl⟩ := Int.eq_ofNat_of_zero_le h0
  have hl : m < xs.length := by omega
  refine ⟨xs[m], ?_, List.getElem_mem hl⟩
  unfold idxD
  simp only [con_lsts]
  rw [ixD_nat hl]
  simp [List.getElem?_eq_getElem hl]
theorem idx_text {M : Mem} {t : S} {r : Int} (ht : t.length ≤ L) (h0 : 0 ≤ r) (h : r < t.length) : ∃ c, idxD M (.str t) (.int r) = some (.str [c]) ∧ c ∈ t := by
  obtain ⟨m, rfl⟩ := Int.eq_ofNat_of_zero_le h0
  have hl : m < t.length := by omega
  exact ⟨t[m], idx_str ht (List.getElem?_eq_getElem hl), List.getElem_mem hl⟩
theorem any_ok (k : Nat) {M : Mem} {xs : List D} (g : Good M) (h0 : xs ≠ []) (h1 : xs.length < 1073741824) : ∃ x M', callN G (k+2) "_law_any" [.cell 0, .lst xs] M = .ok x M' ∧ x ∈ xs ∧ Good M' := by
  have hp : 0 < xs.length := List.length_pos_iff.mpr h0
  obtain ⟨r, M', e, r0, r1, g'⟩ := pull_ok k (top := (xs.length : Int)) g (by omega) (by omega)
  obtain ⟨x, exx, hx⟩ := idx_list (M := M') r0 r1
  refine ⟨x, M', ?_, hx, g'⟩
  rw [callN_run (d := D__law_any) rfl (k+1) _ _ rfl]
  simp only [D__law_any, exs, ex, evf, evi, ev, evs, evo, evc, Lp.start, List.map_cons, List.map_nil, List.length_cons, List.length_nil, List.replicate, List.cons_append, List.nil_append, List.getElem?_cons_zero, List.getElem?_cons_succ, List.set_cons_succ, List.set_cons_zero, Res.bind_ok, Res.bind_exc, Res.fl_ok, Res.fl_exc, Flow.seq_next, Flow.seq_ret, Flow.seq_exc, Flow.seq_brk, Flow.seq_cnt, bltD, mthD, Res.of_some, fres_next, fres_ret, fres_exc, asB_bl, cmpD, binD, kindOf_int, kindOf_str, kindOf_non, kindOf_bl, kindOf_lst, kindOf_tup, kindOf_dic, isNon_int, isNon_str, isNon_non, isNon_bl, isNon_lst, isNon_tup, isNon_dic, Ty.sub, reduceCtorEq, decide_false, decide_true, Bool.or_false, Bool.false_or, Bool.or_true, Bool.true_or, Bool.and_false, Bool.false_and, Bool.and_true, Bool.true_and, con_ints, con_nons, con_bls, len0_L, len1_L, len2_L, len3_L, len4_L, len5_L, len6_L, con_strs, con_lsts, con_tups, con_dics, augD, lenD_str, lenD_lst, lenD_tup, lenD_dic, addD_int, subD_int, leD_int, ltD_int, leD_str, ltD_str, isD_non, Bool.not_true, Bool.not_false, Option.map_some, if_true, Bool.false_eq_true, if_false, storeAll, compF, bindT, setAll, TG'.slots, wipeF, change, pushIn, orc_call, orc_mkx, orc_sub, orc_fuel, G_mkx, G_sub, G_fuel, e, exx]
theorem mul_str {c : Nat} {n : Int} (h0 : 0 ≤ n) (h1 : n < 100) : mulD (.str [c]) (.int n) = some (.str (List.replicate n.toNat c)) := by
  show (if [c].length * n.toNat ≤ L ∧ n.natAbs < 1000000000 then some (D.str (List.replicate n.toNat [c]).flatten) else none) = _
  have hL : L = 16777216 := rfl
  rw [if_pos ⟨by simp only [List.length_cons, List.length_nil]; omega, by omega⟩]
  have : ∀ m : Nat, (List.replicate m [c]).flatten = List.replicate m c := by
    intro m
    induction m with
    | zero => rfl
    | succ m ih => simp [List.replicate_succ, ih]
  rw [this]
theorem name_ok (k : Nat) {M : Mem} (g : Good M) : ∃ s M', callN G (k+2) "_law_name" [.cell 0] M = .ok (.str s) M' ∧ isNameS s = true ∧ Good M' := by
  obtain ⟨r, M1, e1, r0, r1, g1⟩ := pull_ok k (top := 9) g (by decide) (by decide)
  by_cases h : r = 0
  · subst h
    obtain ⟨r2, M2, e2, r20, r21, g2⟩ := pull_ok k (top := 26) g1 (by decide) (by decide)
    obtain ⟨r3, M3, e3, r30, r31, g3⟩ := pull_ok k (top := 8) g2 (by decide) (by decide)
    obtain ⟨c, e4, hc⟩ := idx_text (M := M2) (t := lower) (by decide) r20 r21
    have e5 := mul_str (c := c) (n := 1 + r3) (by omega) (by omega)
    refine ⟨List.replicate (1 + r3).toNat c, M3, ?_, ?_, g3⟩
    · rw [callN_run (d := D__law_name) rfl (k+1) _ _ rfl]
      have e4' : idxD M2 (.str [97, 98, 99, 100, 101, 102, 103, 104, 105, 106, 107, 108, 109, 110, 111, 112, 113, 114, 115, 116, 117, 118, 119, 120, 121, 122]) (.int r2) = _ := e4
      simp only [D__law_name, exs, ex, evf, evi, ev, evs, evo, evc, Lp.start, List.map_cons, List.map_nil, List.length_cons, List.length_nil, List.replicate, List.cons_append, List.nil_append, List.getElem?_cons_zero, List.getElem?_cons_succ, List.set_cons_succ, List.set_cons_zero, Res.bind_ok, Res.bind_exc, Res.fl_ok, Res.fl_exc, Flow.seq_next, Flow.seq_ret, Flow.seq_exc, Flow.seq_brk, Flow.seq_cnt, bltD, mthD, Res.of_some, fres_next, fres_ret, fres_exc, asB_bl, cmpD, binD, kindOf_int, kindOf_str, kindOf_non, kindOf_bl, kindOf_lst, kindOf_tup, kindOf_dic, isNon_int, isNon_str, isNon_non, isNon_bl, isNon_lst, isNon_tup, isNon_dic, Ty.sub, reduceCtorEq, decide_false, decide_true, Bool.or_false, Bool.false_or, Bool.or_true, Bool.true_or, Bool.and_false, Bool.false_and, Bool.and_true, Bool.true_and, con_ints, con_nons, con_bls, len0_L, len1_L, len2_L, len3_L, len4_L, len5_L, len6_L, con_strs, con_lsts, con_tups, con_dics, augD, lenD_str, lenD_lst, lenD_tup, lenD_dic, addD_int, subD_int, leD_int, ltD_int, leD_str, ltD_str, isD_non, Bool.not_true, Bool.not_false, Option.map_some, if_true, Bool.false_eq_true, if_false, storeAll, compF, bindT, setAll, TG'.slots, wipeF, change, pushIn, orc_call, orc_mkx, orc_sub, orc_fuel, G_mkx, G_sub, G_fuel, e1, eqD_int, e2, e3, e4', e5]
    · unfold isNameS
      simp only [List.length_replicate, Bool.and_eq_true, decide_eq_true_eq, List.all_replicate]
      refine ⟨by omega, by omega, ?_⟩
      simp [hc]
  · obtain ⟨r2, M2, e2, r20, r21, g2⟩ := pull_ok k (top := 6) g1 (by decide) (by decide)
    obtain ⟨x, e4, hx⟩ := idx_list (M := M2) (xs := [.str [97], .str [98], .str [99], .str [97], .str [98], .str [97, 98]]) r20 r21
    have hs : ∃ s, x = .str s ∧ isNameS s = true := by
      simp only [List.mem_cons, List.not_mem_nil, or_false] at hx
      rcases hx with rfl | rfl | rfl | rfl | rfl | rfl <;> exact ⟨_, rfl, by decide⟩
    obtain ⟨s, rfl, hs⟩ := hs
    refine ⟨s, M2, ?_, hs, g2⟩
    rw [callN_run (d := D__law_name) rfl (k+1) _ _ rfl]
    simp only [D__law_name, exs, ex, evf, evi, ev, evs, evo, evc, Lp.start, List.map_cons, List.map_nil, List.length_cons, List.length_nil, List.replicate, List.cons_append, List.nil_append, List.getElem?_cons_zero, List.getElem?_cons_succ, List.set_cons_succ, List.set_cons_zero, Res.bind_ok, Res.bind_exc, Res.fl_ok, Res.fl_exc, Flow.seq_next, Flow.seq_ret, Flow.seq_exc, Flow.seq_brk, Flow.seq_cnt, bltD, mthD, Res.of_some, fres_next, fres_ret, fres_exc, asB_bl, cmpD, binD, kindOf_int, kindOf_str, kindOf_non, kindOf_bl, kindOf_lst, kindOf_tup, kindOf_dic, isNon_int, isNon_str, isNon_non, isNon_bl, isNon_lst, isNon_tup, isNon_dic, Ty.sub, reduceCtorEq, decide_false, decide_true, Bool.or_false, Bool.false_or, Bool.or_true, Bool.true_or, Bool.and_false, Bool.false_and, Bool.and_true, Bool.true_and, con_ints, con_nons, con_bls, len0_L, len1_L, len2_L, len3_L, len4_L, len5_L, len6_L, con_strs, con_lsts, con_tups, con_dics, augD, lenD_str, lenD_lst, lenD_tup, lenD_dic, addD_int, subD_int, leD_int, ltD_int, leD_str, ltD_str, isD_non, Bool.not_true, Bool.not_false, Option.map_some, if_true, Bool.false_eq_true, if_false, storeAll, compF, bindT, setAll, TG'.slots, wipeF, change, pushIn, orc_call, orc_mkx, orc_sub, orc_fuel, G_mkx, G_sub, G_fuel, e1, eqD_int, h, e2, e4]
theorem cut_to {s : S} {m : Int} (hs : s.length ≤ L) (h0 : 0 ≤ m) : slcD (.str s) none (some m) = some (.str (s.take m.toNat)) := by
  obtain ⟨n, rfl⟩ := Int.eq_ofNat_of_zero_le h0
  show (if s.length ≤ L then some (D.str (cutL s none (some (n : Int)))) else none) = _
  rw [if_pos hs]
  unfold cutL
  rw [sEnd_nat]
  show some (D.str ((s.drop 0).take (min n s.length - 0))) = _
  congr 2
  simp only [List.drop_zero, Nat.sub_zero, Int.toNat_natCast]
  by_cases h : n ≤ s.length
  · rw [Nat.min_eq_left h]
  · rw [Nat.min_eq_right (by omega), List.take_length, List.take_of_length_le (by omega)]
/-- a plain value that is drawn -/
def PlainV (d : D) : Prop := wf d = true ∧ dep d = 0 ∧ (vT d).length ≤ 31
theorem pv_int {i : Int} (h : i.natAbs < 10 ^ 30) : PlainV (.int i) := by
  refine ⟨by simpa [wf] using h, rfl, ?_⟩
  rw [vT_int]
  by_cases h0 : 0 ≤ i
  · obtain ⟨m, rfl⟩ := Int.eq_ofNat_of_zero_le h0
    rw [intText_nat]
    have := (nT_len (m := m) (k := 30) (by decide)).mpr (by simpa using h)
    omega
  · obtain ⟨m, rfl⟩ : ∃ m : Nat, i = -((m + 1 : Nat) : Int) := ⟨i.natAbs - 1, by omega⟩
    rw [intText_neg']
    have e : (-((m + 1 : Nat) : Int)).natAbs = m + 1 := by omega
    rw [e] at h
    have := (nT_len (m := m + 1) (k := 30) (by decide)).mpr h
    simp only [List.length_cons]; omega
theorem pv_str {s : S} (h : textOkS s = true) : PlainV (.str s) := by
  refine ⟨by simpa [wf] using h, rfl, ?_⟩
  rw [vT_str]
  unfold textOkS at h
  simp only [Bool.and_eq_true, decide_eq_true_eq] at h
  simp only [List.length_cons, List.length_append, List.length_nil]
  omega
theorem pv_non : PlainV .non := ⟨rfl, rfl, by rw [vT_non]; decide⟩
theorem pow29 : powD (.int 10) (.int 29) = some (.int 100000000000000000000000000000) := rfl
theorem pow9 : powD (.int 10) (.int 9) = some (.int 1000000000) := rfl
theorem plain_ok (k : Nat) {M : Mem} (g : Good M) : ∃ d M', callN G (k+3) "_law_plain" [.cell 0] M = .ok d M' ∧ PlainV d ∧ Good M' := by
  obtain ⟨r, M1, e1, r0, r1, g1⟩ := pull_ok (k+1) (top := 9) g (by decide) (by decide)
  by_cases h : r < 5
  · by_cases hz : r = 0
    · subst hz
      refine ⟨.non, M1, ?_, pv_non, g1⟩
      have h05 : ((0 : Int) < 5) = True := by decide
      rw [callN_run (d := D__law_plain) rfl (k+2) _ _ rfl]
      simp only [D__law_plain, exs, ex, evf, evi, ev, evs, evo, evc, Lp.start, List.map_cons, List.map_nil, List.length_cons, List.length_nil, List.replicate, List.cons_append, List.nil_append, List.getElem?_cons_zero, List.getElem?_cons_succ, List.set_cons_succ, List.set_cons_zero, Res.bind_ok, Res.bind_exc, Res.fl_ok, Res.fl_exc, Flow.seq_next, Flow.seq_ret, Flow.seq_exc, Flow.seq_brk, Flow.seq_cnt, bltD, mthD, Res.of_some, fres_next, fres_ret, fres_exc, asB_bl, cmpD, binD, kindOf_int, kindOf_str, kindOf_non, kindOf_bl, kindOf_lst, kindOf_tup, kindOf_dic, isNon_int, isNon_str, isNon_non, isNon_bl, isNon_lst, isNon_tup, isNon_dic, Ty.sub, reduceCtorEq, decide_false, decide_true, Bool.or_false, Bool.false_or, Bool.or_true, Bool.true_or, Bool.and_false, Bool.false_and, Bool.and_true, Bool.true_and, con_ints, con_nons, con_bls, len0_L, len1_L, len2_L, len3_L, len4_L, len5_L, len6_L, con_strs, con_lsts, con_tups, con_dics, augD, lenD_str, lenD_lst, lenD_tup, lenD_dic, addD_int, subD_int, leD_int, ltD_int, leD_str, ltD_str, isD_non, Bool.not_true, Bool.not_false, Option.map_some, if_true, Bool.false_eq_true, if_false, storeAll, compF, bindT, setAll, TG'.slots, wipeF, change, pushIn, orc_call, orc_mkx, orc_sub, orc_fuel, G_mkx, G_sub, G_fuel, e1, eqD_int, h05]
    · obtain ⟨r2, M2, e2, r20, r21, g2⟩ := pull_ok (k+1) (top := 6) g1 (by decide) (by decide)
      refine ⟨.int (r2 - 1), M2, ?_, pv_int (by omega), g2⟩
      rw [callN_run (d := D__law_plain) rfl (k+2) _ _ rfl]
      simp only [D__law_plain, exs, ex, evf, evi, ev, evs, evo, evc, Lp.start, List.map_cons, List.map_nil, List.length_cons, List.length_nil, List.replicate, List.cons_append, List.nil_append, List.getElem?_cons_zero, List.getElem?_cons_succ, List.set_cons_succ, List.set_cons_zero, Res.bind_ok, Res.bind_exc, Res.fl_ok, Res.fl_exc, Flow.seq_next, Flow.seq_ret, Flow.seq_exc, Flow.seq_brk, Flow.seq_cnt, bltD, mthD, Res.of_some, fres_next, fres_ret, fres_exc, asB_bl, cmpD, binD, kindOf_int, kindOf_str, kindOf_non, kindOf_bl, kindOf_lst, kindOf_tup, kindOf_dic, isNon_int, isNon_str, isNon_non, isNon_bl, isNon_lst, isNon_tup, isNon_dic, Ty.sub, reduceCtorEq, decide_false, decide_true, Bool.or_false, Bool.false_or, Bool.or_true, Bool.true_or, Bool.and_false, Bool.false_and, Bool.and_true, Bool.true_and, con_ints, con_nons, con_bls, len0_L, len1_L, len2_L, len3_L, len4_L, len5_L, len6_L, con_strs, con_lsts, con_tups, con_dics, augD, lenD_str, lenD_lst, lenD_tup, lenD_dic, addD_int, subD_int, leD_int, ltD_int, leD_str, ltD_str, isD_non, Bool.not_true, Bool.not_false, Option.map_some, if_true, Bool.false_eq_true, if_false, storeAll, compF, bindT, setAll, TG'.slots, wipeF, change, pushIn, orc_call, orc_mkx, orc_sub, orc_fuel, G_mkx, G_sub, G_fuel, e1, eqD_int, h, hz, e2]
  · by_cases h5 : r = 5
    · subst h5
      obtain ⟨r2, M2, e2, r20, r21, g2⟩ := pull_ok (k+1) (top := 1000000000) g1 (by decide) (by decide)
      obtain ⟨x, M3, e3, hx, g3⟩ := any_ok k (xs := [.int (100000000000000000000000000000 - 1), .int (0 - 100000000000000000000000000000), .int 100, .int (-7), .int r2]) g2 (by simp) (by simp)
      refine ⟨x, M3, ?_, ?_, g3⟩
      · rw [callN_run (d := D__law_plain) rfl (k+2) _ _ rfl]
        have l5 : (0 + 1 + 1 + 1 + 1 + 1 + 1 + 1 + 1 ≤ L) = True := eq_true (by decide)
        have h55 : ((5 : Int) < 5) = False := by decide
        have h56 : ((5 : Int) = 6) = False := by decide
        simp only [D__law_plain, exs, ex, evf, evi, ev, evs, evo, evc, Lp.start, List.map_cons, List.map_nil, List.length_cons, List.length_nil, List.replicate, List.cons_append, List.nil_append, List.getElem?_cons_zero, List.getElem?_cons_succ, List.set_cons_succ, List.set_cons_zero, Res.bind_ok, Res.bind_exc, Res.fl_ok, Res.fl_exc, Flow.seq_next, Flow.seq_ret, Flow.seq_exc, Flow.seq_brk, Flow.seq_cnt, bltD, mthD, Res.of_some, fres_next, fres_ret, fres_exc, asB_bl, cmpD, binD, kindOf_int, kindOf_str, kindOf_non, kindOf_bl, kindOf_lst, kindOf_tup, kindOf_dic, isNon_int, isNon_str, isNon_non, isNon_bl, isNon_lst, isNon_tup, isNon_dic, Ty.sub, reduceCtorEq, decide_false, decide_true, Bool.or_false, Bool.false_or, Bool.or_true, Bool.true_or, Bool.and_false, Bool.false_and, Bool.and_true, Bool.true_and, con_ints, con_nons, con_bls, len0_L, len1_L, len2_L, len3_L, len4_L, len5_L, len6_L, con_strs, con_lsts, con_tups, con_dics, augD, lenD_str, lenD_lst, lenD_tup, lenD_dic, addD_int, subD_int, leD_int, ltD_int, leD_str, ltD_str, isD_non, Bool.not_true, Bool.not_false, Option.map_some, if_true, Bool.false_eq_true, if_false, storeAll, compF, bindT, setAll, TG'.slots, wipeF, change, pushIn, orc_call, orc_mkx, orc_sub, orc_fuel, G_mkx, G_sub, G_fuel, e1, eqD_int, h55, h56, l5, e2, pow29, pow9, e3]
      · simp only [List.mem_cons, List.not_mem_nil, or_false] at hx
        rcases hx with rfl | rfl | rfl | rfl | rfl
        · exact pv_int (by decide)
        · exact pv_int (by decide)
        · exact pv_int (by decide)
        · exact pv_int (by decide)
        · exact pv_int (by omega)
    · have l8 : (0 + 1 + 1 + 1 + 1 + 1 + 1 + 1 + 1 ≤ L) = True := eq_true (by decide)
      by_cases h6 : r = 6
      · subst h6
        obtain ⟨x, M2, e2, hx, g2⟩ := any_ok k (xs := [.str [119, 104, 105, 116, 101, 111, 97, 107, 32, 120], .str [97, 97, 97, 97, 97, 97, 97, 97, 97, 97, 97], .str [120, 32, 121, 32, 120, 32, 121], .str [48, 48, 48, 48, 48, 48, 48, 48, 48, 48]]) g1 (by simp) (by decide)
        have hs : ∃ s, x = .str s ∧ s.length ≤ 12 ∧ s.all (fun c => signS.contains c) = true := by
          simp only [List.mem_cons, List.not_mem_nil, or_false] at hx
          rcases hx with rfl | rfl | rfl | rfl <;> exact ⟨_, rfl, by decide, by decide⟩
        obtain ⟨s, rfl, hs, ha⟩ := hs
        have hL : L = 16777216 := rfl
        obtain ⟨r3, M3, e3, r30, r31, g3⟩ := pull_ok (k+1) (top := 12) g2 (by decide) (by decide)
        obtain ⟨r4, M4, e4, r40, r41, g4⟩ := pull_ok (k+1) (top := 10) g3 (by decide) (by decide)
        obtain ⟨c, e5, hc⟩ := idx_text (M := M4) (t := [97, 98, 99, 120, 121, 122, 48, 49, 57, 32]) (by decide) r40 r41
        have e6 := cut_to (s := s) (m := r3) (by omega) r30
        have hc2 : signS.contains c = true := by
          simp only [List.mem_cons, List.not_mem_nil, or_false] at hc
          rcases hc with rfl | rfl | rfl | rfl | rfl | rfl | rfl | rfl | rfl | rfl <;> decide
        have htk : (s.take r3.toNat).length ≤ 12 := by rw [List.length_take]; omega
        have a1 : addD (.str (s.take r3.toNat)) (.str [c]) = some (.str (s.take r3.toNat ++ [c])) := by
          rw [addD_str, if_pos (by simp only [List.length_cons, List.length_nil]; omega)]
        have a2 : addD (.str (s.take r3.toNat ++ [c])) (.str s) = some (.str (s.take r3.toNat ++ [c] ++ s)) := by
          rw [addD_str, if_pos (by simp only [List.length_append, List.length_cons, List.length_nil]; omega)]
        have e7 := cut_to (s := s.take r3.toNat ++ [c] ++ s) (m := 12) (by simp only [List.length_append, List.length_cons, List.length_nil]; omega) (by decide)
        have e7' : slcD (.str (s.take r3.toNat ++ [c] ++ s)) none (some 12) = some (.str ((s.take r3.toNat ++ [c] ++ s).take 12)) := e7
        have ha2 : ∀ d ∈ (s.take r3.toNat ++ [c] ++ s), signS.contains d = true := by
          intro d hd
          rcases List.mem_append.mp hd with hd | hd
          · rcases List.mem_append.mp hd with hd | hd
            · exact List.all_eq_true.mp ha d (List.mem_of_mem_take hd)
            · rw [List.mem_singleton.mp hd]; exact hc2
          · exact List.all_eq_true.mp ha d hd
        generalize s.take r3.toNat ++ [c] ++ s = u at *
        generalize s.take r3.toNat ++ [c] = u1 at *
        obtain ⟨y, M5, e8, hy, g5⟩ := any_ok k (xs := [.str (u.take 12)]) g4 (by simp) (by simp)
        refine ⟨y, M5, ?_, ?_, g5⟩
        · rw [callN_run (d := D__law_plain) rfl (k+2) _ _ rfl]
          have h65 : ((6 : Int) < 5) = False := by decide
          have h655 : ((6 : Int) = 5) = False := by decide
          simp only [D__law_plain, exs, ex, evf, evi, ev, evs, evo, evc, Lp.start, List.map_cons, List.map_nil, List.length_cons, List.length_nil, List.replicate, List.cons_append, List.nil_append, List.getElem?_cons_zero, List.getElem?_cons_succ, List.set_cons_succ, List.set_cons_zero, Res.bind_ok, Res.bind_exc, Res.fl_ok, Res.fl_exc, Flow.seq_next, Flow.seq_ret, Flow.seq_exc, Flow.seq_brk, Flow.seq_cnt, bltD, mthD, Res.of_some, fres_next, fres_ret, fres_exc, asB_bl, cmpD, binD, kindOf_int, kindOf_str, kindOf_non, kindOf_bl, kindOf_lst, kindOf_tup, kindOf_dic, isNon_int, isNon_str, isNon_non, isNon_bl, isNon_lst, isNon_tup, isNon_dic, Ty.sub, reduceCtorEq, decide_false, decide_true, Bool.or_false, Bool.false_or, Bool.or_true, Bool.true_or, Bool.and_false, Bool.false_and, Bool.and_true, Bool.true_and, con_ints, con_nons, con_bls, len0_L, len1_L, len2_L, len3_L, len4_L, len5_L, len6_L, con_strs, con_lsts, con_tups, con_dics, augD, lenD_str, lenD_lst, lenD_tup, lenD_dic, addD_int, subD_int, leD_int, ltD_int, leD_str, ltD_str, isD_non, Bool.not_true, Bool.not_false, Option.map_some, if_true, Bool.false_eq_true, if_false, storeAll, compF, bindT, setAll, TG'.slots, wipeF, change, pushIn, orc_call, orc_mkx, orc_sub, orc_fuel, G_mkx, G_sub, G_fuel, e1, eqD_int, h65, h655, l8, e2, e3, e4, e5, e6, a1, a2, e7', e8]
        · rw [List.mem_singleton.mp hy]
          refine pv_str ?_
          unfold textOkS
          simp only [Bool.and_eq_true, decide_eq_true_eq, List.length_take]
          exact ⟨by omega, List.all_eq_true.mpr fun d hd => ha2 d (List.mem_of_mem_take hd)⟩
      · obtain ⟨x, M3, e3, hx, g3⟩ := any_ok k (xs := [.str [], .str [97], .str [98], .str [97, 98], .str [53], .str [120, 32, 121], .str [122, 122, 122, 122, 122, 122, 122, 122, 122, 122, 122, 122], .str [32]]) g1 (by simp) (by decide)
        refine ⟨x, M3, ?_, ?_, g3⟩
        · rw [callN_run (d := D__law_plain) rfl (k+2) _ _ rfl]
          simp only [D__law_plain, exs, ex, evf, evi, ev, evs, evo, evc, Lp.start, List.map_cons, List.map_nil, List.length_cons, List.length_nil, List.replicate, List.cons_append, List.nil_append, List.getElem?_cons_zero, List.getElem?_cons_succ, List.set_cons_succ, List.set_cons_zero, Res.bind_ok, Res.bind_exc, Res.fl_ok, Res.fl_exc, Flow.seq_next, Flow.seq_ret, Flow.seq_exc, Flow.seq_brk, Flow.seq_cnt, bltD, mthD, Res.of_some, fres_next, fres_ret, fres_exc, asB_bl, cmpD, binD, kindOf_int, kindOf_str, kindOf_non, kindOf_bl, kindOf_lst, kindOf_tup, kindOf_dic, isNon_int, isNon_str, isNon_non, isNon_bl, isNon_lst, isNon_tup, isNon_dic, Ty.sub, reduceCtorEq, decide_false, decide_true, Bool.or_false, Bool.false_or, Bool.or_true, Bool.true_or, Bool.and_false, Bool.false_and, Bool.and_true, Bool.true_and, con_ints, con_nons, con_bls, len0_L, len1_L, len2_L, len3_L, len4_L, len5_L, len6_L, con_strs, con_lsts, con_tups, con_dics, augD, lenD_str, lenD_lst, lenD_tup, lenD_dic, addD_int, subD_int, leD_int, ltD_int, leD_str, ltD_str, isD_non, Bool.not_true, Bool.not_false, Option.map_some, if_true, Bool.false_eq_true, if_false, storeAll, compF, bindT, setAll, TG'.slots, wipeF, change, pushIn, orc_call, orc_mkx, orc_sub, orc_fuel, G_mkx, G_sub, G_fuel, e1, eqD_int, h, h5, h6, l8, e3]
        · simp only [List.mem_cons, List.not_mem_nil, or_false] at hx
          rcases hx with rfl | rfl | rfl | rfl | rfl | rfl | rfl | rfl <;> exact pv_str (by decide)
end K37

set_option Elab.async false
set_option linter.all false
set_option maxRecDepth 100000
set_option maxHeartbeats 2000000
namespace K37
open Lp
theorem compGo_inv {f : D → Mem → Res (Option D)} {Q : Mem → Prop} {P : D → Prop} : ∀ (xs acc : List D) (M : Mem), Q M → (∀ x ∈ xs, ∀ M, Q M → ∃ d M', f x M = .ok (some d) M' ∧ P d ∧ Q M') → acc.length + xs.length ≤ L →
    ∃ ys M', compGo f acc xs M = .ok (acc ++ ys) M' ∧ Q M' ∧ ys.length = xs.length ∧ ∀ y ∈ ys, P y
  | [], acc, M, hq, _, _ => ⟨[], M, by simp [compGo], hq, rfl, by simp⟩
  | x :: r, acc, M, hq, h, hl => by
    obtain ⟨d, M1, e1, p1, q1⟩ := h x List.mem_cons_self M hq
    simp only [List.length_cons] at hl
    obtain ⟨ys, M2, e2, q2, l2, p2⟩ := compGo_inv r (acc ++ [d]) M1 q1 (fun y hy => h y (List.mem_cons_of_mem _ hy)) (by simp; omega)
    refine ⟨d :: ys, M2, ?_, q2, by simp [l2], ?_⟩
    · rw [compGo, e1]
      simp only [if_pos (show acc.length < L by omega)]
      rw [e2]
      simp
    · intro y hy
      rcases List.mem_cons.mp hy with rfl | hy
      · exact p1
      · exact p2 y hy
def bnd : Nat → Nat
  | 0 => 31
  | n + 1 => 3 * (bnd n + 10) + 4
def ValV (n : Nat) (d : D) : Prop := wf d = true ∧ dep d ≤ n ∧ (vT d).length ≤ bnd n
theorem bnd_le (n : Nat) : bnd n ≤ bnd (n + 1) := by show bnd n ≤ 3 * (bnd n + 10) + 4; omega
theorem bnd_ge : ∀ n : Nat, 31 ≤ bnd n
  | 0 => Nat.le_refl _
  | n + 1 => Nat.le_trans (bnd_ge n) (bnd_le n)
theorem PlainV.val {d : D} (h : PlainV d) (n : Nat) : ValV n d := ⟨h.1, by rw [h.2.1]; exact Nat.zero_le _, Nat.le_trans h.2.2 (bnd_ge n)⟩
theorem sum_le {B : Nat} : ∀ (ys : List S), (∀ y ∈ ys, y.length ≤ B) → (ys.map List.length).sum ≤ ys.length * B
  | [], _ => by simp
  | y :: r, h => by
    have := sum_le r fun z hz => h z (List.mem_cons_of_mem _ hz)
    have := h y List.mem_cons_self
    simp only [List.map_cons, List.sum_cons, List.length_cons, Nat.add_mul, Nat.one_mul]; omega
theorem join_le {B : Nat} {ys : List S} (h : ∀ y ∈ ys, y.length ≤ B) (h3 : ys.length ≤ 3) : (joinS [44] ys).length ≤ 3 * (B + 1) := by
  cases ys with
  | nil => simp [joinS]
  | cons y r =>
    have h1 := joinS_len 44 (y :: r) (by simp)
    have h2 := sum_le _ h
    have h4 : (y :: r).length * B ≤ 3 * B := Nat.mul_le_mul_right B h3
    omega
theorem val_lst {n : Nat} {xs : List D} (h : ∀ x ∈ xs, ValV n x) (h3 : xs.length ≤ 3) : ValV (n + 1) (.lst xs) := by
  refine ⟨?_, ?_, ?_⟩
  · unfold wf; rw [wfs_all, List.all_eq_true]; exact fun x hx => (h x hx).1
  · unfold dep; have := deps_le xs n fun x hx => (h x hx).2.1; omega
  · rw [vT_lst]
    have := join_le (B := bnd n) (ys := xs.map vT) (by
      intro y hy
      obtain ⟨x, hx, rfl⟩ := List.mem_map.mp hy
      exact (h x hx).2.2) (by simpa using h3)
    simp only [List.length_cons, List.length_append, List.length_nil]
    show _ ≤ 3 * (bnd n + 10) + 4
    omega
/-- a record as it is made -/
structure RecV (n : Nat) (kvs : List (DKey × D)) : Prop where
  mem : ∀ p ∈ kvs, (∃ s, p.1 = .inr s ∧ isNameS s = true) ∧ ValV n p.2
  nd : (kvs.map fun p => p.1).Nodup
theorem wfk_of : ∀ {kvs : List (DKey × D)}, (∀ p ∈ kvs, (∃ s, p.1 = .inr s ∧ isNameS s = true) ∧ wf p.2 = true) → wfk kvs = true
  | [], _ => rfl
  | (k, x) :: r, h => by
    obtain ⟨⟨s, e, hs⟩, hw⟩ := h (k, x) List.mem_cons_self
    cases e
    simp [wfk, hs, hw, wfk_of fun q hq => h q (List.mem_cons_of_mem _ hq)]
theorem depk_of : ∀ {kvs : List (DKey × D)} {n : Nat}, (∀ p ∈ kvs, dep p.2 ≤ n) → depk kvs ≤ n
  | [], n, _ => Nat.zero_le _
  | (k, x) :: r, n, h => by
    have h1 := depk_of fun q hq => h q (List.mem_cons_of_mem (k, x) hq)
    have h2 : dep x ≤ n := h (k, x) List.mem_cons_self
    unfold depk; omega
theorem val_rec {n : Nat} {kvs : List (DKey × D)} (h : RecV n kvs) (h3 : kvs.length ≤ 3) : ValV (n + 1) (.dic kvs) := by
  have hw : wfk kvs = true := wfk_of fun p hp => ⟨(h.mem p hp).1, (h.mem p hp).2.1⟩
  refine ⟨?_, ?_, ?_⟩
  · unfold wf
    simp only [hw, Bool.true_and, decide_eq_true_eq]
    exact h.nd
  · unfold dep
    have := depk_of (kvs := kvs) (n := n) fun p hp => (h.mem p hp).2.2.1
    omega
  · rw [vT_dic]
    have := join_le (B := bnd n + 9) (ys := (sortS (kvs.map fun p => kS p.1)).map fun k => k ++ 58 :: lkS k (vTk kvs)) (by
      intro y hy
      obtain ⟨s, hs, rfl⟩ := List.mem_map.mp hy
      have hm := sortS_mem hs
      obtain ⟨x, _, h2, p, hp, e⟩ := lk_text (keyed_wf hw) s hm
      obtain ⟨q, hq, eq⟩ := List.mem_map.mp hm
      obtain ⟨⟨s', es, hn⟩, _⟩ := h.mem q hq
      have e3 : s = s' := by rw [← eq, es]; rfl
      subst e3
      subst e
      rw [h2]
      have hb := (h.mem p hp).2.2.2
      unfold isNameS at hn
      simp only [Bool.and_eq_true, decide_eq_true_eq] at hn
      simp only [List.length_append, List.length_cons]
      omega) (by rw [List.length_map, sortS_len, List.length_map]; exact h3)
    simp only [List.length_cons, List.length_append, List.length_nil]
    show _ ≤ 3 * (bnd n + 10) + 4
    omega
theorem put_mem {kvs : List (DKey × D)} {k : DKey} {v : D} {p : DKey × D} (h : p ∈ dputA kvs k v) : p ∈ kvs ∨ p = (k, v) := by
  unfold dputA at h
  split at h
  · obtain ⟨q, hq, e⟩ := List.mem_map.mp h
    split at e
    · rename_i hk
      right
      rw [← e, hk]
    · left; rw [← e]; exact hq
  · rcases List.mem_append.mp h with h | h
    · exact .inl h
    · exact .inr (List.mem_singleton.mp h)
theorem put_keys (kvs : List (DKey × D)) (k : DKey) (v : D) : (dputA kvs k v).map (fun p => p.1) = if (kvs.any fun p => decide (p.1 = k)) = true then kvs.map (fun p => p.1) else kvs.map (fun p => p.1) ++ [k] := by
  unfold dputA
  split
  · rw [List.map_map]
    apply List.map_congr_left
    intro q _
    show (if q.1 = k then (q.1, v) else q).1 = q.1
    split <;> rfl
  · simp
theorem put_len (kvs : List (DKey × D)) (k : DKey) (v : D) : (dputA kvs k v).length ≤ kvs.length + 1 := by
  unfold dputA
  split <;> simp
theorem rec_put {n : Nat} {kvs : List (DKey × D)} {s : S} {v : D} (h : RecV n kvs) (hs : isNameS s = true) (hv : ValV n v) : RecV n (dputA kvs (.inr s) v) := by
  refine ⟨fun p hp => ?_, ?_⟩
  · rcases put_mem hp with hp | rfl
    · exact h.mem p hp
    · exact ⟨⟨s, rfl, hs⟩, hv⟩
  · rw [put_keys]
    split
    · exact h.nd
    · rename_i hn
      rw [List.nodup_append]
      refine ⟨h.nd, by simp, ?_⟩
      intro a ha b hb e
      rw [List.mem_singleton.mp hb] at e
      subst e
      obtain ⟨q, hq, e2⟩ := List.mem_map.mp ha
      exact hn (List.any_eq_true.mpr ⟨q, hq, decide_eq_true e2⟩)
def recB : SXs := (.cons (.setit (.peek 3) (.call "_law_name" (.cons (.var 0) .nil) []) (.call "_law_value" (.cons (.var 0) (.cons (.var 1) .nil)) [])) .nil)
theorem rec_loop {k n : Nat} {wide : Int} (hv : ∀ M, Good M → ∃ d M', callN G k "_law_value" [.cell 0, .int (n : Int)] M = .ok d M' ∧ ValV n d ∧ Good M') (hn : ∀ M, Good M → ∃ s M', callN G k "_law_name" [.cell 0] M = .ok (.str s) M' ∧ isNameS s = true ∧ Good M') :
    ∀ (xs : List D) (kvs : List (DKey × D)) (s4 : Sl) (M : Mem), Good M → RecV n kvs → kvs.length + xs.length ≤ 1000 →
      ∃ kvs' s4' M', forGo (fun x ρ M => match bindT (.name 4) x ρ with
        | none => .stuck
        | some ρ1 => exs (orc G k) recB ρ1 M) xs [.d (.cell 0), .d (.int (n : Int)), .d (.int wide), .own (.dic kvs), s4] M = .next [.d (.cell 0), .d (.int (n : Int)), .d (.int wide), .own (.dic kvs'), s4'] M' ∧ Good M' ∧ RecV n kvs' ∧ kvs'.length ≤ kvs.length + xs.length
  | [], kvs, s4, M, g, h, hl => ⟨kvs, s4, M, rfl, g, h, Nat.le_refl _⟩
  | x :: r, kvs, s4, M, g, h, hl => by
    simp only [List.length_cons] at hl
    obtain ⟨d, M1, e1, v1, g1⟩ := hv M g
    obtain ⟨s, M2, e2, s1, g2⟩ := hn M1 g1
    have hL : L = 16777216 := rfl
    have pd : putIn (.dic kvs) (.str s) d = some (.dic (dputA kvs (.inr s) d)) := by rw [putIn_dic, if_pos (by omega)]
    have hlen := put_len kvs (.inr s) d
    obtain ⟨kvs', s4', M', e3, g3, h3, l3⟩ := rec_loop hv hn r (dputA kvs (.inr s) d) (.d x) M2 g2 (rec_put h s1 v1) (by omega)
    refine ⟨kvs', s4', M', ?_, g3, h3, by simp only [List.length_cons]; omega⟩
    have step : exs (orc G k) recB [.d (.cell 0), .d (.int (n : Int)), .d (.int wide), .own (.dic kvs), .d x] M = .next [.d (.cell 0), .d (.int (n : Int)), .d (.int wide), .own (.dic (dputA kvs (.inr s) d)), .d x] M2 := by
      simp only [recB, exs, ex, evf, evi, ev, evs, evo, evc, Lp.start, List.map_cons, List.map_nil, List.length_cons, List.length_nil, List.replicate, List.cons_append, List.nil_append, List.getElem?_cons_zero, List.getElem?_cons_succ, List.set_cons_succ, List.set_cons_zero, Res.bind_ok, Res.bind_exc, Res.fl_ok, Res.fl_exc, Flow.seq_next, Flow.seq_ret, Flow.seq_exc, Flow.seq_brk, Flow.seq_cnt, bltD, mthD, Res.of_some, fres_next, fres_ret, fres_exc, asB_bl, cmpD, binD, kindOf_int, kindOf_str, kindOf_non, kindOf_bl, kindOf_lst, kindOf_tup, kindOf_dic, isNon_int, isNon_str, isNon_non, isNon_bl, isNon_lst, isNon_tup, isNon_dic, Ty.sub, reduceCtorEq, decide_false, decide_true, Bool.or_false, Bool.false_or, Bool.or_true, Bool.true_or, Bool.and_false, Bool.false_and, Bool.and_true, Bool.true_and, con_ints, con_nons, con_bls, len0_L, len1_L, len2_L, len3_L, len4_L, len5_L, len6_L, con_strs, con_lsts, con_tups, con_dics, augD, lenD_str, lenD_lst, lenD_tup, lenD_dic, addD_int, subD_int, leD_int, ltD_int, leD_str, ltD_str, isD_non, Bool.not_true, Bool.not_false, Option.map_some, if_true, Bool.false_eq_true, if_false, storeAll, compF, bindT, setAll, TG'.slots, wipeF, change, pushIn, orc_call, orc_mkx, orc_sub, orc_fuel, G_mkx, G_sub, G_fuel, e1, e2, pd]
    rw [forGo]
    show (match exs (orc G k) recB [.d (.cell 0), .d (.int (n : Int)), .d (.int wide), .own (.dic kvs), .d x] M with
      | .next ρ1 M1 => forGo _ r ρ1 M1
      | .cnt ρ1 M1 => forGo _ r ρ1 M1
      | .brk ρ1 M1 => .next ρ1 M1
      | .ret d M1 => .ret d M1
      | .exc x ρ1 M1 => .exc x ρ1 M1
      | .stuck => .stuck) = _
    rw [step]
    exact e3
def D_record' : Def := ⟨3, 5, (.cons (.own 3 .dic) (.cons (.forr (.name 4) (.rng1 (.call "_law_pull" (.cons (.var 0) (.cons (.bin .add (.var 2) (.c (.int 1))) .nil)) [])) recB) (.cons (.frz 3) (.cons (.ret (.var 3)) .nil))))⟩
theorem rng0 {r : Int} (h0 : 0 ≤ r) (h1 : r < 1000) : ∃ xs, rngD 0 r = some xs ∧ xs.length = r.toNat := by
  unfold rngD
  rw [if_pos (by omega)]
  exact ⟨_, rfl, by simp⟩
theorem record_ok {k n : Nat} (hv : ∀ M, Good M → ∃ d M', callN G (k+2) "_law_value" [.cell 0, .int (n : Int)] M = .ok d M' ∧ ValV n d ∧ Good M') {M : Mem} (g : Good M) : ∃ d M', callN G (k+3) "_law_record" [.cell 0, .int (n : Int), .int 3] M = .ok d M' ∧ ValV (n + 1) d ∧ Good M' := by
  obtain ⟨r, M1, e1, r0, r1, g1⟩ := pull_ok (k+1) (top := 4) g (by decide) (by decide)
  obtain ⟨xs, e2, l2⟩ := rng0 r0 (by omega)
  obtain ⟨kvs', s4', M', e3, g3, h3, l3⟩ := rec_loop (wide := 3) hv (fun M g => name_ok k g) xs [] .no M1 g1 ⟨fun p hp => (by cases hp), (by simp)⟩ (by simp only [List.length_nil]; omega)
  simp only [List.length_nil] at l3
  refine ⟨.dic kvs', M', ?_, val_rec h3 (by omega), g3⟩
  rw [callN_run (d := D_record') rfl (k+2) _ _ rfl]
  have h31 : ((3 : Int) + 1) = 4 := by decide
  simp only [D_record', exs, ex, ev, evs, evi, evf, Lp.start, List.map_cons, List.map_nil, List.length_cons, List.length_nil, List.replicate, List.cons_append, List.nil_append, List.getElem?_cons_zero, List.getElem?_cons_succ, List.set_cons_succ, List.set_cons_zero, Res.bind_ok, Res.fl_ok, Flow.seq_next, Flow.seq_ret, Res.of_some, binD, addD_int, h31, orc_call, List.append_nil, e1, e2]
  refine Eq.trans (congrArg (fun fl : Flow => (fl.seq _).res) e3) ?_
  simp only [Flow.seq_next, Flow.seq_ret, List.getElem?_cons_zero, List.getElem?_cons_succ, List.set_cons_succ, List.set_cons_zero, Res.fl_ok, fres_ret]
theorem value_ok : ∀ (n k : Nat), n ≤ 3 → 2 * n + 4 ≤ k → ∀ M, Good M → ∃ d M', callN G k "_law_value" [.cell 0, .int (n : Int)] M = .ok d M' ∧ ValV n d ∧ Good M' := by
  intro n
  induction n with
  | zero =>
    intro k _ hk M g
    obtain ⟨j, rfl⟩ : ∃ j, k = j + 4 := ⟨k - 4, by omega⟩
    obtain ⟨r, M1, e1, r0, r1, g1⟩ := pull_ok (j+2) (top := 7) g (by decide) (by decide)
    obtain ⟨d, M2, e2, p2, g2⟩ := plain_ok j g1
    refine ⟨d, M2, ?_, p2.val 0, g2⟩
    rw [callN_run (d := D__law_value) rfl (j+3) _ _ rfl]
    have h00 : (((0 : Nat) : Int) = 0) = True := by simp
    simp only [D__law_value, exs, ex, evf, evi, ev, evs, evo, evc, Lp.start, List.map_cons, List.map_nil, List.length_cons, List.length_nil, List.replicate, List.cons_append, List.nil_append, List.getElem?_cons_zero, List.getElem?_cons_succ, List.set_cons_succ, List.set_cons_zero, Res.bind_ok, Res.bind_exc, Res.fl_ok, Res.fl_exc, Flow.seq_next, Flow.seq_ret, Flow.seq_exc, Flow.seq_brk, Flow.seq_cnt, bltD, mthD, Res.of_some, fres_next, fres_ret, fres_exc, asB_bl, cmpD, binD, kindOf_int, kindOf_str, kindOf_non, kindOf_bl, kindOf_lst, kindOf_tup, kindOf_dic, isNon_int, isNon_str, isNon_non, isNon_bl, isNon_lst, isNon_tup, isNon_dic, Ty.sub, reduceCtorEq, decide_false, decide_true, Bool.or_false, Bool.false_or, Bool.or_true, Bool.true_or, Bool.and_false, Bool.false_and, Bool.and_true, Bool.true_and, con_ints, con_nons, con_bls, len0_L, len1_L, len2_L, len3_L, len4_L, len5_L, len6_L, con_strs, con_lsts, con_tups, con_dics, augD, lenD_str, lenD_lst, lenD_tup, lenD_dic, addD_int, subD_int, leD_int, ltD_int, leD_str, ltD_str, isD_non, Bool.not_true, Bool.not_false, Option.map_some, if_true, Bool.false_eq_true, if_false, storeAll, compF, bindT, setAll, TG'.slots, wipeF, change, pushIn, orc_call, orc_mkx, orc_sub, orc_fuel, G_mkx, G_sub, G_fuel, e1, eqD_int, h00, e2]
  | succ n ih =>
    intro k hn hk M g
    obtain ⟨j, rfl⟩ : ∃ j, k = j + 4 := ⟨k - 4, by omega⟩
    obtain ⟨r, M1, e1, r0, r1, g1⟩ := pull_ok (j+2) (top := 7) g (by decide) (by decide)
    have hz : (((n + 1 : Nat) : Int) = 0) = False := eq_false (by omega)
    have hm : ((n + 1 : Nat) : Int) - 1 = (n : Int) := by omega
    by_cases h4 : r < 4
    · obtain ⟨d, M2, e2, p2, g2⟩ := plain_ok j g1
      refine ⟨d, M2, ?_, p2.val _, g2⟩
      rw [callN_run (d := D__law_value) rfl (j+3) _ _ rfl]
      simp only [D__law_value, exs, ex, evf, evi, ev, evs, evo, evc, Lp.start, List.map_cons, List.map_nil, List.length_cons, List.length_nil, List.replicate, List.cons_append, List.nil_append, List.getElem?_cons_zero, List.getElem?_cons_succ, List.set_cons_succ, List.set_cons_zero, Res.bind_ok, Res.bind_exc, Res.fl_ok, Res.fl_exc, Flow.seq_next, Flow.seq_ret, Flow.seq_exc, Flow.seq_brk, Flow.seq_cnt, bltD, mthD, Res.of_some, fres_next, fres_ret, fres_exc, asB_bl, cmpD, binD, kindOf_int, kindOf_str, kindOf_non, kindOf_bl, kindOf_lst, kindOf_tup, kindOf_dic, isNon_int, isNon_str, isNon_non, isNon_bl, isNon_lst, isNon_tup, isNon_dic, Ty.sub, reduceCtorEq, decide_false, decide_true, Bool.or_false, Bool.false_or, Bool.or_true, Bool.true_or, Bool.and_false, Bool.false_and, Bool.and_true, Bool.true_and, con_ints, con_nons, con_bls, len0_L, len1_L, len2_L, len3_L, len4_L, len5_L, len6_L, con_strs, con_lsts, con_tups, con_dics, augD, lenD_str, lenD_lst, lenD_tup, lenD_dic, addD_int, subD_int, leD_int, ltD_int, leD_str, ltD_str, isD_non, Bool.not_true, Bool.not_false, Option.map_some, if_true, Bool.false_eq_true, if_false, storeAll, compF, bindT, setAll, TG'.slots, wipeF, change, pushIn, orc_call, orc_mkx, orc_sub, orc_fuel, G_mkx, G_sub, G_fuel, e1, eqD_int, hz, h4, e2]
    · by_cases h5 : r = 4
      · obtain ⟨d, M2, e2, p2, g2⟩ := record_ok (k := j) (n := n) (fun M g => ih (j+2) (by omega) (by omega) M g) g1
        refine ⟨d, M2, ?_, p2, g2⟩
        rw [callN_run (d := D__law_value) rfl (j+3) _ _ rfl]
        have h44 : ((4 : Int) < 4) = False := by decide
        subst h5
        simp only [D__law_value, exs, ex, evf, evi, ev, evs, evo, evc, Lp.start, List.map_cons, List.map_nil, List.length_cons, List.length_nil, List.replicate, List.cons_append, List.nil_append, List.getElem?_cons_zero, List.getElem?_cons_succ, List.set_cons_succ, List.set_cons_zero, Res.bind_ok, Res.bind_exc, Res.fl_ok, Res.fl_exc, Flow.seq_next, Flow.seq_ret, Flow.seq_exc, Flow.seq_brk, Flow.seq_cnt, bltD, mthD, Res.of_some, fres_next, fres_ret, fres_exc, asB_bl, cmpD, binD, kindOf_int, kindOf_str, kindOf_non, kindOf_bl, kindOf_lst, kindOf_tup, kindOf_dic, isNon_int, isNon_str, isNon_non, isNon_bl, isNon_lst, isNon_tup, isNon_dic, Ty.sub, reduceCtorEq, decide_false, decide_true, Bool.or_false, Bool.false_or, Bool.or_true, Bool.true_or, Bool.and_false, Bool.false_and, Bool.and_true, Bool.true_and, con_ints, con_nons, con_bls, len0_L, len1_L, len2_L, len3_L, len4_L, len5_L, len6_L, con_strs, con_lsts, con_tups, con_dics, augD, lenD_str, lenD_lst, lenD_tup, lenD_dic, addD_int, subD_int, leD_int, ltD_int, leD_str, ltD_str, isD_non, Bool.not_true, Bool.not_false, Option.map_some, if_true, Bool.false_eq_true, if_false, storeAll, compF, bindT, setAll, TG'.slots, wipeF, change, pushIn, orc_call, orc_mkx, orc_sub, orc_fuel, G_mkx, G_sub, G_fuel, e1, eqD_int, hz, h44, hm, e2]
      · obtain ⟨r2, M2, e2, r20, r21, g2⟩ := pull_ok (j+2) (top := 4) g1 (by decide) (by decide)
        obtain ⟨xs, e3, l3⟩ := rng0 r20 (by omega)
        have hL : L = 16777216 := rfl
        obtain ⟨ys, M3, e4, g3, l4, p4⟩ := compGo_inv (f := compF (.name 3) [.d (.cell 0), .d (.int ((n + 1 : Nat) : Int)), .d (.int r), .no] (fun ρ1 M2 => evc (orc G (j+3)) none ρ1 M2) (fun ρ1 M2 => ev (orc G (j+3)) (.call "_law_value" (.cons (.var 0) (.cons (.bin .sub (.var 1) (.c (.int 1))) .nil)) []) ρ1 M2)) (Q := Good) (P := ValV n) xs [] M2 g2 (by
          intro x hx M g
          obtain ⟨d, M', e5, p5, g5⟩ := ih (j+3) (by omega) (by omega) M g
          refine ⟨d, M', ?_, p5, g5⟩
          simp only [exs, ex, evf, evi, ev, evs, evo, evc, Lp.start, List.map_cons, List.map_nil, List.length_cons, List.length_nil, List.replicate, List.cons_append, List.nil_append, List.getElem?_cons_zero, List.getElem?_cons_succ, List.set_cons_succ, List.set_cons_zero, Res.bind_ok, Res.bind_exc, Res.fl_ok, Res.fl_exc, Flow.seq_next, Flow.seq_ret, Flow.seq_exc, Flow.seq_brk, Flow.seq_cnt, bltD, mthD, Res.of_some, fres_next, fres_ret, fres_exc, asB_bl, cmpD, binD, kindOf_int, kindOf_str, kindOf_non, kindOf_bl, kindOf_lst, kindOf_tup, kindOf_dic, isNon_int, isNon_str, isNon_non, isNon_bl, isNon_lst, isNon_tup, isNon_dic, Ty.sub, reduceCtorEq, decide_false, decide_true, Bool.or_false, Bool.false_or, Bool.or_true, Bool.true_or, Bool.and_false, Bool.false_and, Bool.and_true, Bool.true_and, con_ints, con_nons, con_bls, len0_L, len1_L, len2_L, len3_L, len4_L, len5_L, len6_L, con_strs, con_lsts, con_tups, con_dics, augD, lenD_str, lenD_lst, lenD_tup, lenD_dic, addD_int, subD_int, leD_int, ltD_int, leD_str, ltD_str, isD_non, Bool.not_true, Bool.not_false, Option.map_some, if_true, Bool.false_eq_true, if_false, storeAll, compF, bindT, setAll, TG'.slots, wipeF, change, pushIn, orc_call, orc_mkx, orc_sub, orc_fuel, G_mkx, G_sub, G_fuel, hm, e5]) (by simp only [List.length_nil]; omega)
        refine ⟨.lst ys, M3, ?_, val_lst p4 (by omega), g3⟩
        rw [callN_run (d := D__law_value) rfl (j+3) _ _ rfl]
        simp only [D__law_value]
        rw [step_next (ρ1 := [.d (.cell 0), .d (.int ((n + 1 : Nat) : Int)), .d (.int r), .no]) (M1 := M1) (by simp only [exs, ex, evf, evi, ev, evs, evo, evc, Lp.start, List.map_cons, List.map_nil, List.length_cons, List.length_nil, List.replicate, List.cons_append, List.nil_append, List.getElem?_cons_zero, List.getElem?_cons_succ, List.set_cons_succ, List.set_cons_zero, Res.bind_ok, Res.bind_exc, Res.fl_ok, Res.fl_exc, Flow.seq_next, Flow.seq_ret, Flow.seq_exc, Flow.seq_brk, Flow.seq_cnt, bltD, mthD, Res.of_some, fres_next, fres_ret, fres_exc, asB_bl, cmpD, binD, kindOf_int, kindOf_str, kindOf_non, kindOf_bl, kindOf_lst, kindOf_tup, kindOf_dic, isNon_int, isNon_str, isNon_non, isNon_bl, isNon_lst, isNon_tup, isNon_dic, Ty.sub, reduceCtorEq, decide_false, decide_true, Bool.or_false, Bool.false_or, Bool.or_true, Bool.true_or, Bool.and_false, Bool.false_and, Bool.and_true, Bool.true_and, con_ints, con_nons, con_bls, len0_L, len1_L, len2_L, len3_L, len4_L, len5_L, len6_L, con_strs, con_lsts, con_tups, con_dics, augD, lenD_str, lenD_lst, lenD_tup, lenD_dic, addD_int, subD_int, leD_int, ltD_int, leD_str, ltD_str, isD_non, Bool.not_true, Bool.not_false, Option.map_some, if_true, Bool.false_eq_true, if_false, storeAll, compF, bindT, setAll, TG'.slots, wipeF, change, pushIn, orc_call, orc_mkx, orc_sub, orc_fuel, G_mkx, G_sub, G_fuel, e1])]
        rw [step_next (ρ1 := [.d (.cell 0), .d (.int ((n + 1 : Nat) : Int)), .d (.int r), .no]) (M1 := M1) (by simp only [exs, ex, evf, evi, ev, evs, evo, evc, Lp.start, List.map_cons, List.map_nil, List.length_cons, List.length_nil, List.replicate, List.cons_append, List.nil_append, List.getElem?_cons_zero, List.getElem?_cons_succ, List.set_cons_succ, List.set_cons_zero, Res.bind_ok, Res.bind_exc, Res.fl_ok, Res.fl_exc, Flow.seq_next, Flow.seq_ret, Flow.seq_exc, Flow.seq_brk, Flow.seq_cnt, bltD, mthD, Res.of_some, fres_next, fres_ret, fres_exc, asB_bl, cmpD, binD, kindOf_int, kindOf_str, kindOf_non, kindOf_bl, kindOf_lst, kindOf_tup, kindOf_dic, isNon_int, isNon_str, isNon_non, isNon_bl, isNon_lst, isNon_tup, isNon_dic, Ty.sub, reduceCtorEq, decide_false, decide_true, Bool.or_false, Bool.false_or, Bool.or_true, Bool.true_or, Bool.and_false, Bool.false_and, Bool.and_true, Bool.true_and, con_ints, con_nons, con_bls, len0_L, len1_L, len2_L, len3_L, len4_L, len5_L, len6_L, con_strs, con_lsts, con_tups, con_dics, augD, lenD_str, lenD_lst, lenD_tup, lenD_dic, addD_int, subD_int, leD_int, ltD_int, leD_str, ltD_str, isD_non, Bool.not_true, Bool.not_false, Option.map_some, if_true, Bool.false_eq_true, if_false, storeAll, compF, bindT, setAll, TG'.slots, wipeF, change, pushIn, orc_call, orc_mkx, orc_sub, orc_fuel, G_mkx, G_sub, G_fuel, eqD_int, hz, h4])]
        rw [step_next (ρ1 := [.d (.cell 0), .d (.int ((n + 1 : Nat) : Int)), .d (.int r), .no]) (M1 := M1) (by simp only [exs, ex, evf, evi, ev, evs, evo, evc, Lp.start, List.map_cons, List.map_nil, List.length_cons, List.length_nil, List.replicate, List.cons_append, List.nil_append, List.getElem?_cons_zero, List.getElem?_cons_succ, List.set_cons_succ, List.set_cons_zero, Res.bind_ok, Res.bind_exc, Res.fl_ok, Res.fl_exc, Flow.seq_next, Flow.seq_ret, Flow.seq_exc, Flow.seq_brk, Flow.seq_cnt, bltD, mthD, Res.of_some, fres_next, fres_ret, fres_exc, asB_bl, cmpD, binD, kindOf_int, kindOf_str, kindOf_non, kindOf_bl, kindOf_lst, kindOf_tup, kindOf_dic, isNon_int, isNon_str, isNon_non, isNon_bl, isNon_lst, isNon_tup, isNon_dic, Ty.sub, reduceCtorEq, decide_false, decide_true, Bool.or_false, Bool.false_or, Bool.or_true, Bool.true_or, Bool.and_false, Bool.false_and, Bool.and_true, Bool.true_and, con_ints, con_nons, con_bls, len0_L, len1_L, len2_L, len3_L, len4_L, len5_L, len6_L, con_strs, con_lsts, con_tups, con_dics, augD, lenD_str, lenD_lst, lenD_tup, lenD_dic, addD_int, subD_int, leD_int, ltD_int, leD_str, ltD_str, isD_non, Bool.not_true, Bool.not_false, Option.map_some, if_true, Bool.false_eq_true, if_false, storeAll, compF, bindT, setAll, TG'.slots, wipeF, change, pushIn, orc_call, orc_mkx, orc_sub, orc_fuel, G_mkx, G_sub, G_fuel, eqD_int, h5])]
        rw [step_ret (d := .lst ys) (M1 := M3)]
        · rfl
        · rw [ex, ev, evf]
          have ei : evi (orc G (j+3)) (.rng1 (.call "_law_pull" (.cons (.var 0) (.cons (.c (.int 4)) .nil)) [])) [.d (.cell 0), .d (.int ((n + 1 : Nat) : Int)), .d (.int r), .no] M1 = .ok xs M2 := by simp only [exs, ex, evf, evi, ev, evs, evo, evc, Lp.start, List.map_cons, List.map_nil, List.length_cons, List.length_nil, List.replicate, List.cons_append, List.nil_append, List.getElem?_cons_zero, List.getElem?_cons_succ, List.set_cons_succ, List.set_cons_zero, Res.bind_ok, Res.bind_exc, Res.fl_ok, Res.fl_exc, Flow.seq_next, Flow.seq_ret, Flow.seq_exc, Flow.seq_brk, Flow.seq_cnt, bltD, mthD, Res.of_some, fres_next, fres_ret, fres_exc, asB_bl, cmpD, binD, kindOf_int, kindOf_str, kindOf_non, kindOf_bl, kindOf_lst, kindOf_tup, kindOf_dic, isNon_int, isNon_str, isNon_non, isNon_bl, isNon_lst, isNon_tup, isNon_dic, Ty.sub, reduceCtorEq, decide_false, decide_true, Bool.or_false, Bool.false_or, Bool.or_true, Bool.true_or, Bool.and_false, Bool.false_and, Bool.and_true, Bool.true_and, con_ints, con_nons, con_bls, len0_L, len1_L, len2_L, len3_L, len4_L, len5_L, len6_L, con_strs, con_lsts, con_tups, con_dics, augD, lenD_str, lenD_lst, lenD_tup, lenD_dic, addD_int, subD_int, leD_int, ltD_int, leD_str, ltD_str, isD_non, Bool.not_true, Bool.not_false, Option.map_some, if_true, Bool.false_eq_true, if_false, storeAll, compF, bindT, setAll, TG'.slots, wipeF, change, pushIn, orc_call, orc_mkx, orc_sub, orc_fuel, G_mkx, G_sub, G_fuel, e2, e3]
          rw [ei]
          show (((compGo _ [] xs M2).bind fun ys M5 => Res.ok (D.lst ys) M5).fl _ fun d M1 => Flow.ret d M1) = _
          rw [e4]
          rfl
end K37

set_option Elab.async false
set_option linter.all false
set_option maxRecDepth 100000
set_option maxHeartbeats 2000000
namespace K37
open Lp
theorem dput_new : ∀ {acc : List (DKey × D)} {k : DKey} {v : D}, k ∉ acc.map (fun p => p.1) → dput acc k v = acc ++ [(k, v)]
  | [], k, v, _ => rfl
  | (k', d) :: r, k, v, h => by
    simp only [List.map_cons, List.mem_cons, not_or] at h
    unfold dput
    rw [if_neg (fun e => h.1 e.symm), dput_new h.2]
    rfl
theorem fold_put : ∀ (kvs acc : List (DKey × D)), ((acc ++ kvs).map fun p => p.1).Nodup → kvs.foldl (fun a p => dput a p.1 p.2) acc = acc ++ kvs
  | [], acc, _ => by simp
  | (k, v) :: r, acc, h => by
    have hk : k ∉ acc.map (fun p => p.1) := by
      rw [List.map_append, List.nodup_append] at h
      intro hm
      exact h.2.2 k hm k (by simp) rfl
    rw [List.foldl_cons]
    rw [show dput acc (k, v).1 (k, v).2 = acc ++ [(k, v)] from dput_new hk]
    rw [fold_put r (acc ++ [(k, v)]) (by simpa using h)]
    simp
/-- sizes -/
def small : D → Bool := fun d => decide ((vT d).length ≤ L)
theorem lst_small {xs : List D} (hw : wfs xs = true) (hl : (vT (.lst xs)).length ≤ L) : xs.length ≤ L ∧ ∀ x ∈ xs, (vT x).length ≤ L := by
  rw [vT_lst] at hl
  simp only [List.length_cons, List.length_append, List.length_nil] at hl
  constructor
  · have h1 : ∀ y ∈ xs.map vT, 1 ≤ y.length := by
      intro y hy
      obtain ⟨x, hx, rfl⟩ := List.mem_map.mp hy
      exact vT_pos (wf_mem hw x hx)
    have h2 := sum_len _ h1
    rw [List.length_map] at h2
    by_cases h0 : xs = []
    · subst h0; simp
    · have h3 := joinS_len 44 (xs.map vT) (by simpa using h0)
      rw [List.length_map] at h3
      omega
  · intro x hx
    have := joinS_ge (c := 44) (List.mem_map_of_mem (f := vT) hx)
    omega
theorem dic_small {kvs : List (DKey × D)} (hw : wfk kvs = true) (nd : (kvs.map fun p => p.1).Nodup) (hl : (vT (.dic kvs)).length ≤ L) : kvs.length ≤ L ∧ ∀ p ∈ kvs, dlook kvs p.1 = some p.2 ∧ (vT p.2).length ≤ L := by
  rw [vT_dic] at hl
  simp only [List.length_cons, List.length_append, List.length_nil] at hl
  have hkd := keyed_wf hw
  have look : ∀ {l : List (DKey × D)}, (l.map fun p => p.1).Nodup → ∀ p ∈ l, dlook l p.1 = some p.2 := by
    intro l
    induction l with
    | nil => intro _ p hp; cases hp
    | cons q r ih =>
      intro nd p hp
      obtain ⟨k', d'⟩ := q
      simp only [List.map_cons, List.nodup_cons] at nd
      unfold dlook
      rcases List.mem_cons.mp hp with rfl | hp
      · simp
      · rw [if_neg (fun e => nd.1 (List.mem_map.mpr ⟨p, hp, e.symm⟩))]
        exact ih nd.2 p hp
  have len : kvs.length ≤ L := by
    have h1 : ∀ y ∈ (sortS (kvs.map fun p => kS p.1)).map (fun k => k ++ 58 :: lkS k (vTk kvs)), 1 ≤ y.length := by
      intro y hy
      obtain ⟨x, hx, rfl⟩ := List.mem_map.mp hy
      simp only [List.length_append, List.length_cons]; omega
    have h2 := sum_len _ h1
    rw [List.length_map, sortS_len, List.length_map] at h2
    by_cases h0 : kvs = []
    · subst h0; simp
    · have hne : (sortS (kvs.map fun p => kS p.1)).map (fun k => k ++ 58 :: lkS k (vTk kvs)) ≠ [] := by
        intro e
        have := congrArg List.length e
        rw [List.length_map, sortS_len, List.length_map] at this
        exact h0 (List.length_eq_zero_iff.mp (by simpa using this))
      have h3 := joinS_len 44 _ hne
      rw [List.length_map, sortS_len, List.length_map] at h3
      omega
  refine ⟨len, fun p hp => ⟨look nd p hp, ?_⟩⟩
  have hm : kS p.1 ∈ sortS (kvs.map fun p => kS p.1) := sortS_has (List.mem_map.mpr ⟨p, hp, rfl⟩)
  obtain ⟨x, h1, h2, _⟩ := lk_text hkd (kS p.1) (sortS_mem hm)
  have hx : x = p.2 := by
    have e1 : dlook kvs p.1 = some p.2 := look nd p hp
    have e2 : (Sum.inr (kS p.1) : DKey) = p.1 := by
      obtain ⟨k, d⟩ := p
      cases k with
      | inl i => exact absurd (keyed_inr hkd _ hp) (by simp)
      | inr s => rfl
    rw [e2, e1] at h1
    cases h1; rfl
  have hlen : (kS p.1 ++ 58 :: lkS (kS p.1) (vTk kvs)).length ≤ (joinS [44] ((sortS (kvs.map fun p => kS p.1)).map fun k => k ++ 58 :: lkS k (vTk kvs))).length := joinS_ge (List.mem_map.mpr ⟨kS p.1, hm, rfl⟩)
  rw [h2, hx] at hlen
  simp only [List.length_append, List.length_cons] at hlen
  omega
end K37

set_option Elab.async false
set_option linter.all false
set_option maxRecDepth 100000
set_option maxHeartbeats 2000000
namespace K37
open Lp
theorem map_id' {α : Type} {f : α → α} : ∀ {l : List α}, (∀ x ∈ l, f x = x) → l.map f = l
  | [], _ => rfl
  | x :: r, h => by rw [List.map_cons, h x List.mem_cons_self, map_id' fun y hy => h y (List.mem_cons_of_mem _ hy)]
theorem pairs_of_keyed : ∀ {kvs : List (DKey × D)}, keyed kvs = true → pairsD (kvs.map fun p => .tup [keyD p.1, p.2]) = some kvs
  | [], _ => rfl
  | (.inr s, x) :: r, h => by
    show (isKey (.str s)).bind (fun k => (pairsD (r.map fun p => .tup [keyD p.1, p.2])).map ((k, x) :: ·)) = _
    rw [pairs_of_keyed (kvs := r) h]
    rfl
  | (.inl _, _) :: _, h => by simp [keyed] at h
theorem wf_dic {kvs : List (DKey × D)} (h : wf (.dic kvs) = true) : wfk kvs = true ∧ (kvs.map fun p => p.1).Nodup := by
  unfold wf at h
  simpa only [Bool.and_eq_true, decide_eq_true_eq] using h
theorem c_copy : ∀ (k : Nat) (d : D) (M : Mem), wf d = true → dep d < k → (vT d).length ≤ L → callN G k "_law_copy" [d] M = .ok d M
  | 0, d, M, hw, hd, hl => by omega
  | k + 1, d, M, hw, hd, hl => by
    rw [callN_run (d := D__law_copy) rfl k _ _ rfl]
    match d, hw, hd, hl with
    | .non, hw, hd, hl => simp only [D__law_copy, exs, ex, evf, evi, ev, evs, evo, evc, Lp.start, List.map_cons, List.map_nil, List.length_cons, List.length_nil, List.replicate, List.cons_append, List.nil_append, List.getElem?_cons_zero, List.getElem?_cons_succ, List.set_cons_succ, List.set_cons_zero, Res.bind_ok, Res.bind_exc, Res.fl_ok, Res.fl_exc, Flow.seq_next, Flow.seq_ret, Flow.seq_exc, Flow.seq_brk, Flow.seq_cnt, bltD, mthD, Res.of_some, fres_next, fres_ret, fres_exc, asB_bl, cmpD, binD, kindOf_int, kindOf_str, kindOf_non, kindOf_bl, kindOf_lst, kindOf_tup, kindOf_dic, isNon_int, isNon_str, isNon_non, isNon_bl, isNon_lst, isNon_tup, isNon_dic, Ty.sub, reduceCtorEq, decide_false, decide_true, Bool.or_false, Bool.false_or, Bool.or_true, Bool.true_or, Bool.and_false, Bool.false_and, Bool.and_true, Bool.true_and, con_ints, con_nons, con_bls, len0_L, len1_L, len2_L, len3_L, len4_L, len5_L, len6_L, con_strs, con_lsts, con_tups, con_dics, augD, lenD_str, lenD_lst, lenD_tup, lenD_dic, addD_int, subD_int, leD_int, ltD_int, leD_str, ltD_str, isD_non, Bool.not_true, Bool.not_false, Option.map_some, if_true, Bool.false_eq_true, if_false, storeAll, compF, bindT, setAll, TG'.slots, wipeF, change, pushIn, orc_call, orc_mkx, orc_sub, orc_fuel, G_mkx, G_sub, G_fuel]
    | .bl _, hw, _, _ => simp [wf] at hw
    | .tup _, hw, _, _ => simp [wf] at hw
    | .cell _, hw, _, _ => simp [wf] at hw
    | .int i, hw, hd, hl => simp only [D__law_copy, exs, ex, evf, evi, ev, evs, evo, evc, Lp.start, List.map_cons, List.map_nil, List.length_cons, List.length_nil, List.replicate, List.cons_append, List.nil_append, List.getElem?_cons_zero, List.getElem?_cons_succ, List.set_cons_succ, List.set_cons_zero, Res.bind_ok, Res.bind_exc, Res.fl_ok, Res.fl_exc, Flow.seq_next, Flow.seq_ret, Flow.seq_exc, Flow.seq_brk, Flow.seq_cnt, bltD, mthD, Res.of_some, fres_next, fres_ret, fres_exc, asB_bl, cmpD, binD, kindOf_int, kindOf_str, kindOf_non, kindOf_bl, kindOf_lst, kindOf_tup, kindOf_dic, isNon_int, isNon_str, isNon_non, isNon_bl, isNon_lst, isNon_tup, isNon_dic, Ty.sub, reduceCtorEq, decide_false, decide_true, Bool.or_false, Bool.false_or, Bool.or_true, Bool.true_or, Bool.and_false, Bool.false_and, Bool.and_true, Bool.true_and, con_ints, con_nons, con_bls, len0_L, len1_L, len2_L, len3_L, len4_L, len5_L, len6_L, con_strs, con_lsts, con_tups, con_dics, augD, lenD_str, lenD_lst, lenD_tup, lenD_dic, addD_int, subD_int, leD_int, ltD_int, leD_str, ltD_str, isD_non, Bool.not_true, Bool.not_false, Option.map_some, if_true, Bool.false_eq_true, if_false, storeAll, compF, bindT, setAll, TG'.slots, wipeF, change, pushIn, orc_call, orc_mkx, orc_sub, orc_fuel, G_mkx, G_sub, G_fuel]
    | .str s, hw, hd, hl => simp only [D__law_copy, exs, ex, evf, evi, ev, evs, evo, evc, Lp.start, List.map_cons, List.map_nil, List.length_cons, List.length_nil, List.replicate, List.cons_append, List.nil_append, List.getElem?_cons_zero, List.getElem?_cons_succ, List.set_cons_succ, List.set_cons_zero, Res.bind_ok, Res.bind_exc, Res.fl_ok, Res.fl_exc, Flow.seq_next, Flow.seq_ret, Flow.seq_exc, Flow.seq_brk, Flow.seq_cnt, bltD, mthD, Res.of_some, fres_next, fres_ret, fres_exc, asB_bl, cmpD, binD, kindOf_int, kindOf_str, kindOf_non, kindOf_bl, kindOf_lst, kindOf_tup, kindOf_dic, isNon_int, isNon_str, isNon_non, isNon_bl, isNon_lst, isNon_tup, isNon_dic, Ty.sub, reduceCtorEq, decide_false, decide_true, Bool.or_false, Bool.false_or, Bool.or_true, Bool.true_or, Bool.and_false, Bool.false_and, Bool.and_true, Bool.true_and, con_ints, con_nons, con_bls, len0_L, len1_L, len2_L, len3_L, len4_L, len5_L, len6_L, con_strs, con_lsts, con_tups, con_dics, augD, lenD_str, lenD_lst, lenD_tup, lenD_dic, addD_int, subD_int, leD_int, ltD_int, leD_str, ltD_str, isD_non, Bool.not_true, Bool.not_false, Option.map_some, if_true, Bool.false_eq_true, if_false, storeAll, compF, bindT, setAll, TG'.slots, wipeF, change, pushIn, orc_call, orc_mkx, orc_sub, orc_fuel, G_mkx, G_sub, G_fuel]
    | .lst xs, hw, hd, hl =>
      have hws : wfs xs = true := by simpa [wf] using hw
      have hds : deps xs < k := by simp only [dep] at hd; omega
      obtain ⟨h1, h2⟩ := lst_small hws hl
      have ih : ∀ x ∈ xs, ∀ M, callN G k "_law_copy" [x] M = .ok x M := fun x hx M => c_copy k x M (wf_mem hws x hx) (Nat.lt_of_le_of_lt (deps_mem x hx) hds) (h2 x hx)
      have hc := compGo_map (f := compF (.name 1) [.d (.lst xs), .no, .no] (fun ρ1 M2 => evc (orc G k) none ρ1 M2) (fun ρ1 M2 => ev (orc G k) (.call "_law_copy" (.cons (.var 1) .nil) []) ρ1 M2)) (g := fun x => x) (M := M) xs [] (by
        intro x hx
        simp only [exs, ex, evf, evi, ev, evs, evo, evc, Lp.start, List.map_cons, List.map_nil, List.length_cons, List.length_nil, List.replicate, List.cons_append, List.nil_append, List.getElem?_cons_zero, List.getElem?_cons_succ, List.set_cons_succ, List.set_cons_zero, Res.bind_ok, Res.bind_exc, Res.fl_ok, Res.fl_exc, Flow.seq_next, Flow.seq_ret, Flow.seq_exc, Flow.seq_brk, Flow.seq_cnt, bltD, mthD, Res.of_some, fres_next, fres_ret, fres_exc, asB_bl, cmpD, binD, kindOf_int, kindOf_str, kindOf_non, kindOf_bl, kindOf_lst, kindOf_tup, kindOf_dic, isNon_int, isNon_str, isNon_non, isNon_bl, isNon_lst, isNon_tup, isNon_dic, Ty.sub, reduceCtorEq, decide_false, decide_true, Bool.or_false, Bool.false_or, Bool.or_true, Bool.true_or, Bool.and_false, Bool.false_and, Bool.and_true, Bool.true_and, con_ints, con_nons, con_bls, len0_L, len1_L, len2_L, len3_L, len4_L, len5_L, len6_L, con_strs, con_lsts, con_tups, con_dics, augD, lenD_str, lenD_lst, lenD_tup, lenD_dic, addD_int, subD_int, leD_int, ltD_int, leD_str, ltD_str, isD_non, Bool.not_true, Bool.not_false, Option.map_some, if_true, Bool.false_eq_true, if_false, storeAll, compF, bindT, setAll, TG'.slots, wipeF, change, pushIn, orc_call, orc_mkx, orc_sub, orc_fuel, G_mkx, G_sub, G_fuel, ih x hx]) (by simpa using h1)
      simp only [D__law_copy, Lp.start, List.map_cons, List.map_nil, List.length_cons, List.length_nil, List.replicate, List.cons_append, List.nil_append]
      rw [step_ret (ite_t (by simp only [exs, ex, evf, evi, ev, evs, evo, evc, Lp.start, List.map_cons, List.map_nil, List.length_cons, List.length_nil, List.replicate, List.cons_append, List.nil_append, List.getElem?_cons_zero, List.getElem?_cons_succ, List.set_cons_succ, List.set_cons_zero, Res.bind_ok, Res.bind_exc, Res.fl_ok, Res.fl_exc, Flow.seq_next, Flow.seq_ret, Flow.seq_exc, Flow.seq_brk, Flow.seq_cnt, bltD, mthD, Res.of_some, fres_next, fres_ret, fres_exc, asB_bl, cmpD, binD, kindOf_int, kindOf_str, kindOf_non, kindOf_bl, kindOf_lst, kindOf_tup, kindOf_dic, isNon_int, isNon_str, isNon_non, isNon_bl, isNon_lst, isNon_tup, isNon_dic, Ty.sub, reduceCtorEq, decide_false, decide_true, Bool.or_false, Bool.false_or, Bool.or_true, Bool.true_or, Bool.and_false, Bool.false_and, Bool.and_true, Bool.true_and, con_ints, con_nons, con_bls, len0_L, len1_L, len2_L, len3_L, len4_L, len5_L, len6_L, con_strs, con_lsts, con_tups, con_dics, augD, lenD_str, lenD_lst, lenD_tup, lenD_dic, addD_int, subD_int, leD_int, ltD_int, leD_str, ltD_str, isD_non, Bool.not_true, Bool.not_false, Option.map_some, if_true, Bool.false_eq_true, if_false, storeAll, compF, bindT, setAll, TG'.slots, wipeF, change, pushIn, orc_call, orc_mkx, orc_sub, orc_fuel, G_mkx, G_sub, G_fuel]) (step_ret (ret_ok (frz_ok (comp_ok (seq_ok (var_ok rfl)) hc)))))]
      simp
    | .dic kvs, hw, hd, hl =>
      obtain ⟨hw2, nd⟩ := wf_dic hw
      have hds : depk kvs < k := by simp only [dep] at hd; omega
      obtain ⟨h1, h2⟩ := dic_small hw2 nd hl
      have hkd := keyed_wf hw2
      have hc := compGo_map (f := compF (.name 2) [.d (.dic kvs), .no, .no] (fun ρ1 M2 => evc (orc G k) none ρ1 M2) (fun ρ1 M2 => ev (orc G k) (.tup (.cons (.var 2) (.cons (.call "_law_copy" (.cons (.idx (.var 0) (.var 2)) .nil) []) .nil))) ρ1 M2)) (g := fun x => match isKey x with
        | some q => .tup [x, (dlook kvs q).getD .non]
        | none => .non) (M := M) (kvs.map fun p => keyD p.1) [] (by
        intro x hx
        obtain ⟨p, hp, rfl⟩ := List.mem_map.mp hx
        obtain ⟨s, es⟩ := keyed_inr hkd p hp
        obtain ⟨h3, h4⟩ := h2 p hp
        have h5 := c_copy k p.2 M (wfk_mem hw2 p hp).1 (Nat.lt_of_le_of_lt (depk_mem p hp) hds) h4
        have i1 : idxD M (.dic kvs) (.str s) = some p.2 := by rw [← h3, es]; rfl
        rw [es] at h3 ⊢
        simp only [keyD, isKey, exs, ex, evf, evi, ev, evs, evo, evc, Lp.start, List.map_cons, List.map_nil, List.length_cons, List.length_nil, List.replicate, List.cons_append, List.nil_append, List.getElem?_cons_zero, List.getElem?_cons_succ, List.set_cons_succ, List.set_cons_zero, Res.bind_ok, Res.bind_exc, Res.fl_ok, Res.fl_exc, Flow.seq_next, Flow.seq_ret, Flow.seq_exc, Flow.seq_brk, Flow.seq_cnt, bltD, mthD, Res.of_some, fres_next, fres_ret, fres_exc, asB_bl, cmpD, binD, kindOf_int, kindOf_str, kindOf_non, kindOf_bl, kindOf_lst, kindOf_tup, kindOf_dic, isNon_int, isNon_str, isNon_non, isNon_bl, isNon_lst, isNon_tup, isNon_dic, Ty.sub, reduceCtorEq, decide_false, decide_true, Bool.or_false, Bool.false_or, Bool.or_true, Bool.true_or, Bool.and_false, Bool.false_and, Bool.and_true, Bool.true_and, con_ints, con_nons, con_bls, len0_L, len1_L, len2_L, len3_L, len4_L, len5_L, len6_L, con_strs, con_lsts, con_tups, con_dics, augD, lenD_str, lenD_lst, lenD_tup, lenD_dic, addD_int, subD_int, leD_int, ltD_int, leD_str, ltD_str, isD_non, Bool.not_true, Bool.not_false, Option.map_some, if_true, Bool.false_eq_true, if_false, storeAll, compF, bindT, setAll, TG'.slots, wipeF, change, pushIn, orc_call, orc_mkx, orc_sub, orc_fuel, G_mkx, G_sub, G_fuel, i1, h5, h3, Option.getD_some]) (by simpa using h1)
      have hm : ((kvs.map fun p => keyD p.1).map fun x => match isKey x with
        | some q => D.tup [x, (dlook kvs q).getD .non]
        | none => .non) = kvs.map fun p => .tup [keyD p.1, p.2] := by
        rw [List.map_map]
        apply List.map_congr_left
        intro p hp
        obtain ⟨s, es⟩ := keyed_inr hkd p hp
        obtain ⟨h3, _⟩ := h2 p hp
        show (match isKey (keyD p.1) with
          | some q => D.tup [keyD p.1, (dlook kvs q).getD .non]
          | none => .non) = _
        rw [es] at h3 ⊢
        simp only [keyD, isKey, h3, Option.getD_some]
      rw [hm] at hc
      simp only [D__law_copy, Lp.start, List.map_cons, List.map_nil, List.length_cons, List.length_nil, List.replicate, List.cons_append, List.nil_append]
      rw [step_next (ρ1 := [.d (.dic kvs), .no, .no]) (M1 := M) (by simp only [exs, ex, evf, evi, ev, evs, evo, evc, Lp.start, List.map_cons, List.map_nil, List.length_cons, List.length_nil, List.replicate, List.cons_append, List.nil_append, List.getElem?_cons_zero, List.getElem?_cons_succ, List.set_cons_succ, List.set_cons_zero, Res.bind_ok, Res.bind_exc, Res.fl_ok, Res.fl_exc, Flow.seq_next, Flow.seq_ret, Flow.seq_exc, Flow.seq_brk, Flow.seq_cnt, bltD, mthD, Res.of_some, fres_next, fres_ret, fres_exc, asB_bl, cmpD, binD, kindOf_int, kindOf_str, kindOf_non, kindOf_bl, kindOf_lst, kindOf_tup, kindOf_dic, isNon_int, isNon_str, isNon_non, isNon_bl, isNon_lst, isNon_tup, isNon_dic, Ty.sub, reduceCtorEq, decide_false, decide_true, Bool.or_false, Bool.false_or, Bool.or_true, Bool.true_or, Bool.and_false, Bool.false_and, Bool.and_true, Bool.true_and, con_ints, con_nons, con_bls, len0_L, len1_L, len2_L, len3_L, len4_L, len5_L, len6_L, con_strs, con_lsts, con_tups, con_dics, augD, lenD_str, lenD_lst, lenD_tup, lenD_dic, addD_int, subD_int, leD_int, ltD_int, leD_str, ltD_str, isD_non, Bool.not_true, Bool.not_false, Option.map_some, if_true, Bool.false_eq_true, if_false, storeAll, compF, bindT, setAll, TG'.slots, wipeF, change, pushIn, orc_call, orc_mkx, orc_sub, orc_fuel, G_mkx, G_sub, G_fuel])]
      rw [step_next (ρ1 := [.d (.dic kvs), .no, .no]) (M1 := M) (by simp only [exs, ex, evf, evi, ev, evs, evo, evc, Lp.start, List.map_cons, List.map_nil, List.length_cons, List.length_nil, List.replicate, List.cons_append, List.nil_append, List.getElem?_cons_zero, List.getElem?_cons_succ, List.set_cons_succ, List.set_cons_zero, Res.bind_ok, Res.bind_exc, Res.fl_ok, Res.fl_exc, Flow.seq_next, Flow.seq_ret, Flow.seq_exc, Flow.seq_brk, Flow.seq_cnt, bltD, mthD, Res.of_some, fres_next, fres_ret, fres_exc, asB_bl, cmpD, binD, kindOf_int, kindOf_str, kindOf_non, kindOf_bl, kindOf_lst, kindOf_tup, kindOf_dic, isNon_int, isNon_str, isNon_non, isNon_bl, isNon_lst, isNon_tup, isNon_dic, Ty.sub, reduceCtorEq, decide_false, decide_true, Bool.or_false, Bool.false_or, Bool.or_true, Bool.true_or, Bool.and_false, Bool.false_and, Bool.and_true, Bool.true_and, con_ints, con_nons, con_bls, len0_L, len1_L, len2_L, len3_L, len4_L, len5_L, len6_L, con_strs, con_lsts, con_tups, con_dics, augD, lenD_str, lenD_lst, lenD_tup, lenD_dic, addD_int, subD_int, leD_int, ltD_int, leD_str, ltD_str, isD_non, Bool.not_true, Bool.not_false, Option.map_some, if_true, Bool.false_eq_true, if_false, storeAll, compF, bindT, setAll, TG'.slots, wipeF, change, pushIn, orc_call, orc_mkx, orc_sub, orc_fuel, G_mkx, G_sub, G_fuel])]
      rw [step_ret (ite_t (by simp only [exs, ex, evf, evi, ev, evs, evo, evc, Lp.start, List.map_cons, List.map_nil, List.length_cons, List.length_nil, List.replicate, List.cons_append, List.nil_append, List.getElem?_cons_zero, List.getElem?_cons_succ, List.set_cons_succ, List.set_cons_zero, Res.bind_ok, Res.bind_exc, Res.fl_ok, Res.fl_exc, Flow.seq_next, Flow.seq_ret, Flow.seq_exc, Flow.seq_brk, Flow.seq_cnt, bltD, mthD, Res.of_some, fres_next, fres_ret, fres_exc, asB_bl, cmpD, binD, kindOf_int, kindOf_str, kindOf_non, kindOf_bl, kindOf_lst, kindOf_tup, kindOf_dic, isNon_int, isNon_str, isNon_non, isNon_bl, isNon_lst, isNon_tup, isNon_dic, Ty.sub, reduceCtorEq, decide_false, decide_true, Bool.or_false, Bool.false_or, Bool.or_true, Bool.true_or, Bool.and_false, Bool.false_and, Bool.and_true, Bool.true_and, con_ints, con_nons, con_bls, len0_L, len1_L, len2_L, len3_L, len4_L, len5_L, len6_L, con_strs, con_lsts, con_tups, con_dics, augD, lenD_str, lenD_lst, lenD_tup, lenD_dic, addD_int, subD_int, leD_int, ltD_int, leD_str, ltD_str, isD_non, Bool.not_true, Bool.not_false, Option.map_some, if_true, Bool.false_eq_true, if_false, storeAll, compF, bindT, setAll, TG'.slots, wipeF, change, pushIn, orc_call, orc_mkx, orc_sub, orc_fuel, G_mkx, G_sub, G_fuel]) (step_ret (ret_ok (frz_ok (dictOf_ok (frz_ok (compK_ok rfl hc)) (by rw [List.nil_append]; exact pairs_of_keyed hkd))))))]
      rw [fold_put kvs [] (by simpa using nd)]
      rfl
end K37

set_option Elab.async false
set_option linter.all false
set_option maxRecDepth 100000
set_option maxHeartbeats 2000000
namespace K37
open Lp
theorem c_text_ok (k : Nat) (s : S) (M : Mem) (hs : textOkS s = true) : callN G (k+1) "_law_text_ok" [.str s] M = .ok (.bl true) M := by
  rw [callN_run (d := D__law_text_ok) rfl k _ _ rfl]
  unfold textOkS at hs
  simp only [Bool.and_eq_true, decide_eq_true_eq] at hs
  have hL : L = 16777216 := rfl
  have h12 : ((s.length : Int) ≤ 12) = True := eq_true (by omega)
  have hl : s.length ≤ L := by omega
  have hc := comp_all (f := fun c => signS.contains c) (F := compF (.name 1) [.d (.str s), .no] (fun ρ1 M2 => evc (orc G k) none ρ1 M2) (fun ρ1 M2 => ev (orc G k) (.cmp .inn (.var 1) (.c (.str [97, 98, 99, 100, 101, 102, 103, 104, 105, 106, 107, 108, 109, 110, 111, 112, 113, 114, 115, 116, 117, 118, 119, 120, 121, 122, 48, 49, 50, 51, 52, 53, 54, 55, 56, 57, 32]))) ρ1 M2)) (M := M) s hl (by
    intro c hc
    simp only [exs, ex, evf, evi, ev, evs, evo, evc, Lp.start, List.map_cons, List.map_nil, List.length_cons, List.length_nil, List.replicate, List.cons_append, List.nil_append, List.getElem?_cons_zero, List.getElem?_cons_succ, List.set_cons_succ, List.set_cons_zero, Res.bind_ok, Res.bind_exc, Res.fl_ok, Res.fl_exc, Flow.seq_next, Flow.seq_ret, Flow.seq_exc, Flow.seq_brk, Flow.seq_cnt, bltD, mthD, Res.of_some, fres_next, fres_ret, fres_exc, asB_bl, cmpD, binD, kindOf_int, kindOf_str, kindOf_non, kindOf_bl, kindOf_lst, kindOf_tup, kindOf_dic, isNon_int, isNon_str, isNon_non, isNon_bl, isNon_lst, isNon_tup, isNon_dic, Ty.sub, reduceCtorEq, decide_false, decide_true, Bool.or_false, Bool.false_or, Bool.or_true, Bool.true_or, Bool.and_false, Bool.false_and, Bool.and_true, Bool.true_and, con_ints, con_nons, con_bls, len0_L, len1_L, len2_L, len3_L, len4_L, len5_L, len6_L, con_strs, con_lsts, con_tups, con_dics, augD, lenD_str, lenD_lst, lenD_tup, lenD_dic, addD_int, subD_int, leD_int, ltD_int, leD_str, ltD_str, isD_non, Bool.not_true, Bool.not_false, Option.map_some, if_true, Bool.false_eq_true, if_false, storeAll, compF, bindT, setAll, TG'.slots, wipeF, change, pushIn, orc_call, orc_mkx, orc_sub, orc_fuel, G_mkx, G_sub, G_fuel, isIn1_chr]
    rfl)
  have ha : allD (.lst (s.map fun c => .bl (signS.contains c))) = some (.bl true) := by rw [allD_map, hs.2]
  have e : ev (orc G k) (.blt .all (.frz (.comp (.name 1) (.chars (.var 0)) none (.cmp .inn (.var 1) (.c (.str [97, 98, 99, 100, 101, 102, 103, 104, 105, 106, 107, 108, 109, 110, 111, 112, 113, 114, 115, 116, 117, 118, 119, 120, 121, 122, 48, 49, 50, 51, 52, 53, 54, 55, 56, 57, 32])))))) [.d (.str s), .no] M = .ok (.bl true) M :=
    blt_ok (frz_ok (comp_ok (by simp only [exs, ex, evf, evi, ev, evs, evo, evc, Lp.start, List.map_cons, List.map_nil, List.length_cons, List.length_nil, List.replicate, List.cons_append, List.nil_append, List.getElem?_cons_zero, List.getElem?_cons_succ, List.set_cons_succ, List.set_cons_zero, Res.bind_ok, Res.bind_exc, Res.fl_ok, Res.fl_exc, Flow.seq_next, Flow.seq_ret, Flow.seq_exc, Flow.seq_brk, Flow.seq_cnt, bltD, mthD, Res.of_some, fres_next, fres_ret, fres_exc, asB_bl, cmpD, binD, kindOf_int, kindOf_str, kindOf_non, kindOf_bl, kindOf_lst, kindOf_tup, kindOf_dic, isNon_int, isNon_str, isNon_non, isNon_bl, isNon_lst, isNon_tup, isNon_dic, Ty.sub, reduceCtorEq, decide_false, decide_true, Bool.or_false, Bool.false_or, Bool.or_true, Bool.true_or, Bool.and_false, Bool.false_and, Bool.and_true, Bool.true_and, con_ints, con_nons, con_bls, len0_L, len1_L, len2_L, len3_L, len4_L, len5_L, len6_L, con_strs, con_lsts, con_tups, con_dics, augD, lenD_str, lenD_lst, lenD_tup, lenD_dic, addD_int, subD_int, leD_int, ltD_int, leD_str, ltD_str, isD_non, Bool.not_true, Bool.not_false, Option.map_some, if_true, Bool.false_eq_true, if_false, storeAll, compF, bindT, setAll, TG'.slots, wipeF, change, pushIn, orc_call, orc_mkx, orc_sub, orc_fuel, G_mkx, G_sub, G_fuel]) hc)) ha
  have e0 : ev (orc G k) (.cmp .le (.blt .len (.var 0)) (.c (.int 12))) [.d (.str s), .no] M = .ok (.bl true) M := by simp only [exs, ex, evf, evi, ev, evs, evo, evc, Lp.start, List.map_cons, List.map_nil, List.length_cons, List.length_nil, List.replicate, List.cons_append, List.nil_append, List.getElem?_cons_zero, List.getElem?_cons_succ, List.set_cons_succ, List.set_cons_zero, Res.bind_ok, Res.bind_exc, Res.fl_ok, Res.fl_exc, Flow.seq_next, Flow.seq_ret, Flow.seq_exc, Flow.seq_brk, Flow.seq_cnt, bltD, mthD, Res.of_some, fres_next, fres_ret, fres_exc, asB_bl, cmpD, binD, kindOf_int, kindOf_str, kindOf_non, kindOf_bl, kindOf_lst, kindOf_tup, kindOf_dic, isNon_int, isNon_str, isNon_non, isNon_bl, isNon_lst, isNon_tup, isNon_dic, Ty.sub, reduceCtorEq, decide_false, decide_true, Bool.or_false, Bool.false_or, Bool.or_true, Bool.true_or, Bool.and_false, Bool.false_and, Bool.and_true, Bool.true_and, con_ints, con_nons, con_bls, len0_L, len1_L, len2_L, len3_L, len4_L, len5_L, len6_L, con_strs, con_lsts, con_tups, con_dics, augD, lenD_str, lenD_lst, lenD_tup, lenD_dic, addD_int, subD_int, leD_int, ltD_int, leD_str, ltD_str, isD_non, Bool.not_true, Bool.not_false, Option.map_some, if_true, Bool.false_eq_true, if_false, storeAll, compF, bindT, setAll, TG'.slots, wipeF, change, pushIn, orc_call, orc_mkx, orc_sub, orc_fuel, G_mkx, G_sub, G_fuel, if_pos hl, h12]
  exact congrArg Flow.res (step_ret (ret_ok (and_ok e0 e)))
theorem low_range {c : Nat} (h : lower.contains c = true) : 97 ≤ c ∧ c ≤ 122 := by
  have : c ∈ lower := by simpa using h
  simp only [lower, List.mem_cons, List.not_mem_nil, or_false] at this
  omega
theorem le_chr {a b : Nat} (h : a ≤ b) : ltS [b] [a] = false := by
  simp [ltS]; omega
theorem c_path_ok (k : Nat) (s : S) (M : Mem) (hs : isNameS s = true) : callN G (k+1) "_law_path_ok" [.tup [.str s], .int 1, .int 1] M = .ok (.bl true) M := by
  rw [callN_run (d := D__law_path_ok) rfl k _ _ rfl]
  unfold isNameS at hs
  simp only [Bool.and_eq_true, decide_eq_true_eq] at hs
  obtain ⟨h1, h8, ha⟩ := hs
  have hL : L = 16777216 := rfl
  have i1 : ((1 : Int) ≤ (s.length : Int)) = True := eq_true (by omega)
  have i8 : ((s.length : Int) ≤ 8) = True := eq_true (by omega)
  have hl : s.length ≤ L := by omega
  have inner : ∀ M, ev (orc G k) (.blt .all (.frz (.comp (.name 4) (.chars (.var 3)) none (.chain .le .le (.c (.str [97])) (.var 4) (.c (.str [122])))))) [.d (.tup [.str s]), .d (.int 1), .d (.int 1), .d (.str s), .no] M = .ok (.bl true) M := by
    intro M
    have hc := comp_all (f := fun _ => true) (F := compF (.name 4) [.d (.tup [.str s]), .d (.int 1), .d (.int 1), .d (.str s), .no] (fun ρ1 M2 => evc (orc G k) none ρ1 M2) (fun ρ1 M2 => ev (orc G k) (.chain .le .le (.c (.str [97])) (.var 4) (.c (.str [122]))) ρ1 M2)) (M := M) s hl (by
      intro c hc
      obtain ⟨r1, r2⟩ := low_range (List.all_eq_true.mp ha c hc)
      simp only [exs, ex, evf, evi, ev, evs, evo, evc, Lp.start, List.map_cons, List.map_nil, List.length_cons, List.length_nil, List.replicate, List.cons_append, List.nil_append, List.getElem?_cons_zero, List.getElem?_cons_succ, List.set_cons_succ, List.set_cons_zero, Res.bind_ok, Res.bind_exc, Res.fl_ok, Res.fl_exc, Flow.seq_next, Flow.seq_ret, Flow.seq_exc, Flow.seq_brk, Flow.seq_cnt, bltD, mthD, Res.of_some, fres_next, fres_ret, fres_exc, asB_bl, cmpD, binD, kindOf_int, kindOf_str, kindOf_non, kindOf_bl, kindOf_lst, kindOf_tup, kindOf_dic, isNon_int, isNon_str, isNon_non, isNon_bl, isNon_lst, isNon_tup, isNon_dic, Ty.sub, reduceCtorEq, decide_false, decide_true, Bool.or_false, Bool.false_or, Bool.or_true, Bool.true_or, Bool.and_false, Bool.false_and, Bool.and_true, Bool.true_and, con_ints, con_nons, con_bls, len0_L, len1_L, len2_L, len3_L, len4_L, len5_L, len6_L, con_strs, con_lsts, con_tups, con_dics, augD, lenD_str, lenD_lst, lenD_tup, lenD_dic, addD_int, subD_int, leD_int, ltD_int, leD_str, ltD_str, isD_non, Bool.not_true, Bool.not_false, Option.map_some, if_true, Bool.false_eq_true, if_false, storeAll, compF, bindT, setAll, TG'.slots, wipeF, change, pushIn, orc_call, orc_mkx, orc_sub, orc_fuel, G_mkx, G_sub, G_fuel, le_chr r1, le_chr r2])
    have ha2 : allD (.lst (s.map fun _ => .bl true)) = some (.bl true) := by
      rw [allD_map (p := fun _ => true)]
      simp
    exact blt_ok (frz_ok (comp_ok (by simp only [exs, ex, evf, evi, ev, evs, evo, evc, Lp.start, List.map_cons, List.map_nil, List.length_cons, List.length_nil, List.replicate, List.cons_append, List.nil_append, List.getElem?_cons_zero, List.getElem?_cons_succ, List.set_cons_succ, List.set_cons_zero, Res.bind_ok, Res.bind_exc, Res.fl_ok, Res.fl_exc, Flow.seq_next, Flow.seq_ret, Flow.seq_exc, Flow.seq_brk, Flow.seq_cnt, bltD, mthD, Res.of_some, fres_next, fres_ret, fres_exc, asB_bl, cmpD, binD, kindOf_int, kindOf_str, kindOf_non, kindOf_bl, kindOf_lst, kindOf_tup, kindOf_dic, isNon_int, isNon_str, isNon_non, isNon_bl, isNon_lst, isNon_tup, isNon_dic, Ty.sub, reduceCtorEq, decide_false, decide_true, Bool.or_false, Bool.false_or, Bool.or_true, Bool.true_or, Bool.and_false, Bool.false_and, Bool.and_true, Bool.true_and, con_ints, con_nons, con_bls, len0_L, len1_L, len2_L, len3_L, len4_L, len5_L, len6_L, con_strs, con_lsts, con_tups, con_dics, augD, lenD_str, lenD_lst, lenD_tup, lenD_dic, addD_int, subD_int, leD_int, ltD_int, leD_str, ltD_str, isD_non, Bool.not_true, Bool.not_false, Option.map_some, if_true, Bool.false_eq_true, if_false, storeAll, compF, bindT, setAll, TG'.slots, wipeF, change, pushIn, orc_call, orc_mkx, orc_sub, orc_fuel, G_mkx, G_sub, G_fuel]) hc)) ha2
  have hc2 := compGo_map (f := compF (.name 3) [.d (.tup [.str s]), .d (.int 1), .d (.int 1), .no, .no] (fun ρ1 M2 => evc (orc G k) none ρ1 M2) (fun ρ1 M2 => ev (orc G k) (.and (.chain .le .le (.c (.int 1)) (.blt .len (.var 3)) (.c (.int 8))) (.blt .all (.frz (.comp (.name 4) (.chars (.var 3)) none (.chain .le .le (.c (.str [97])) (.var 4) (.c (.str [122]))))))) ρ1 M2)) (g := fun _ => .bl true) (M := M) [.str s] [] (by
    intro x hx
    rw [List.mem_singleton.mp hx]
    have e1 : ev (orc G k) (.chain .le .le (.c (.int 1)) (.blt .len (.var 3)) (.c (.int 8))) [.d (.tup [.str s]), .d (.int 1), .d (.int 1), .d (.str s), .no] M = .ok (.bl true) M := by simp only [exs, ex, evf, evi, ev, evs, evo, evc, Lp.start, List.map_cons, List.map_nil, List.length_cons, List.length_nil, List.replicate, List.cons_append, List.nil_append, List.getElem?_cons_zero, List.getElem?_cons_succ, List.set_cons_succ, List.set_cons_zero, Res.bind_ok, Res.bind_exc, Res.fl_ok, Res.fl_exc, Flow.seq_next, Flow.seq_ret, Flow.seq_exc, Flow.seq_brk, Flow.seq_cnt, bltD, mthD, Res.of_some, fres_next, fres_ret, fres_exc, asB_bl, cmpD, binD, kindOf_int, kindOf_str, kindOf_non, kindOf_bl, kindOf_lst, kindOf_tup, kindOf_dic, isNon_int, isNon_str, isNon_non, isNon_bl, isNon_lst, isNon_tup, isNon_dic, Ty.sub, reduceCtorEq, decide_false, decide_true, Bool.or_false, Bool.false_or, Bool.or_true, Bool.true_or, Bool.and_false, Bool.false_and, Bool.and_true, Bool.true_and, con_ints, con_nons, con_bls, len0_L, len1_L, len2_L, len3_L, len4_L, len5_L, len6_L, con_strs, con_lsts, con_tups, con_dics, augD, lenD_str, lenD_lst, lenD_tup, lenD_dic, addD_int, subD_int, leD_int, ltD_int, leD_str, ltD_str, isD_non, Bool.not_true, Bool.not_false, Option.map_some, if_true, Bool.false_eq_true, if_false, storeAll, compF, bindT, setAll, TG'.slots, wipeF, change, pushIn, orc_call, orc_mkx, orc_sub, orc_fuel, G_mkx, G_sub, G_fuel, if_pos hl, i1, i8]
    have e2 := and_ok e1 (inner M)
    show (match bindT (.name 3) (.str s) (wipeF [.d (.tup [.str s]), .d (.int 1), .d (.int 1), .no, .no] (TG'.name 3).slots) with
      | none => Res.stuck
      | some ρ1 => (evc (orc G k) none ρ1 M).bind fun b M3 => if b = true then (ev (orc G k) _ ρ1 M3).bind fun y M4 => .ok (some y) M4 else .ok none M3) = _
    simp only [bindT, TG'.slots, wipeF, List.set_cons_succ, List.set_cons_zero, evc, Res.bind_ok, if_true, e2]) (by simp)
  simp only [D__law_path_ok]
  have h11 : ((1 : Int) ≤ 1) = True := by decide
  rw [step_next (ρ1 := [.d (.tup [.str s]), .d (.int 1), .d (.int 1), .no, .no]) (M1 := M) (by
    have e11 : (([D.str s].length : Nat) : Int) = 1 := rfl
    simp only [ex, ev, List.getElem?_cons_zero, List.getElem?_cons_succ, Res.bind_ok, bltD, lenD_tup, Res.of_some, cmpD, leD_int, e11, h11, decide_true, if_true, asB_bl, Bool.not_true, Res.fl_ok, Bool.false_eq_true, if_false, exs, Lp.start, List.map_cons, List.map_nil, List.length_cons, List.length_nil, List.replicate, List.cons_append, List.nil_append, Nat.zero_add]
    rfl)]
  have e3 : evi (orc G k) (.seq (.var 0)) [.d (.tup [.str s]), .d (.int 1), .d (.int 1), .no, .no] M = .ok [.str s] M := rfl
  have e4 := blt_ok (f := .all) (r := .bl true) (frz_ok (comp_ok e3 hc2)) rfl
  exact congrArg Flow.res (a₂ := .ret (.bl true) M) (step_ret (ret_ok e4))
theorem c_value_ok : ∀ (k : Nat) (d : D) (M : Mem), wf d = true → dep d + 2 ≤ k → (vT d).length ≤ L → callN G k "_law_value_ok" [d] M = .ok (.bl true) M
  | 0, d, M, hw, hd, hl => by omega
  | k + 1, d, M, hw, hd, hl => by
    rw [callN_run (d := D__law_value_ok) rfl k _ _ rfl]
    match d, hw, hd, hl with
    | .non, hw, hd, hl => simp only [D__law_value_ok, exs, ex, evf, evi, ev, evs, evo, evc, Lp.start, List.map_cons, List.map_nil, List.length_cons, List.length_nil, List.replicate, List.cons_append, List.nil_append, List.getElem?_cons_zero, List.getElem?_cons_succ, List.set_cons_succ, List.set_cons_zero, Res.bind_ok, Res.bind_exc, Res.fl_ok, Res.fl_exc, Flow.seq_next, Flow.seq_ret, Flow.seq_exc, Flow.seq_brk, Flow.seq_cnt, bltD, mthD, Res.of_some, fres_next, fres_ret, fres_exc, asB_bl, cmpD, binD, kindOf_int, kindOf_str, kindOf_non, kindOf_bl, kindOf_lst, kindOf_tup, kindOf_dic, isNon_int, isNon_str, isNon_non, isNon_bl, isNon_lst, isNon_tup, isNon_dic, Ty.sub, reduceCtorEq, decide_false, decide_true, Bool.or_false, Bool.false_or, Bool.or_true, Bool.true_or, Bool.and_false, Bool.false_and, Bool.and_true, Bool.true_and, con_ints, con_nons, con_bls, len0_L, len1_L, len2_L, len3_L, len4_L, len5_L, len6_L, con_strs, con_lsts, con_tups, con_dics, augD, lenD_str, lenD_lst, lenD_tup, lenD_dic, addD_int, subD_int, leD_int, ltD_int, leD_str, ltD_str, isD_non, Bool.not_true, Bool.not_false, Option.map_some, if_true, Bool.false_eq_true, if_false, storeAll, compF, bindT, setAll, TG'.slots, wipeF, change, pushIn, orc_call, orc_mkx, orc_sub, orc_fuel, G_mkx, G_sub, G_fuel]
    | .bl _, hw, _, _ => simp [wf] at hw
    | .tup _, hw, _, _ => simp [wf] at hw
    | .cell _, hw, _, _ => simp [wf] at hw
    | .int i, hw, hd, hl => simp only [D__law_value_ok, exs, ex, evf, evi, ev, evs, evo, evc, Lp.start, List.map_cons, List.map_nil, List.length_cons, List.length_nil, List.replicate, List.cons_append, List.nil_append, List.getElem?_cons_zero, List.getElem?_cons_succ, List.set_cons_succ, List.set_cons_zero, Res.bind_ok, Res.bind_exc, Res.fl_ok, Res.fl_exc, Flow.seq_next, Flow.seq_ret, Flow.seq_exc, Flow.seq_brk, Flow.seq_cnt, bltD, mthD, Res.of_some, fres_next, fres_ret, fres_exc, asB_bl, cmpD, binD, kindOf_int, kindOf_str, kindOf_non, kindOf_bl, kindOf_lst, kindOf_tup, kindOf_dic, isNon_int, isNon_str, isNon_non, isNon_bl, isNon_lst, isNon_tup, isNon_dic, Ty.sub, reduceCtorEq, decide_false, decide_true, Bool.or_false, Bool.false_or, Bool.or_true, Bool.true_or, Bool.and_false, Bool.false_and, Bool.and_true, Bool.true_and, con_ints, con_nons, con_bls, len0_L, len1_L, len2_L, len3_L, len4_L, len5_L, len6_L, con_strs, con_lsts, con_tups, con_dics, augD, lenD_str, lenD_lst, lenD_tup, lenD_dic, addD_int, subD_int, leD_int, ltD_int, leD_str, ltD_str, isD_non, Bool.not_true, Bool.not_false, Option.map_some, if_true, Bool.false_eq_true, if_false, storeAll, compF, bindT, setAll, TG'.slots, wipeF, change, pushIn, orc_call, orc_mkx, orc_sub, orc_fuel, G_mkx, G_sub, G_fuel]
    | .str s, hw, hd, hl =>
      obtain ⟨j, rfl⟩ : ∃ j, k = j + 1 := ⟨k - 1, by simp only [dep] at hd; omega⟩
      have := c_text_ok j s M (by simpa [wf] using hw)
      simp only [D__law_value_ok, exs, ex, evf, evi, ev, evs, evo, evc, Lp.start, List.map_cons, List.map_nil, List.length_cons, List.length_nil, List.replicate, List.cons_append, List.nil_append, List.getElem?_cons_zero, List.getElem?_cons_succ, List.set_cons_succ, List.set_cons_zero, Res.bind_ok, Res.bind_exc, Res.fl_ok, Res.fl_exc, Flow.seq_next, Flow.seq_ret, Flow.seq_exc, Flow.seq_brk, Flow.seq_cnt, bltD, mthD, Res.of_some, fres_next, fres_ret, fres_exc, asB_bl, cmpD, binD, kindOf_int, kindOf_str, kindOf_non, kindOf_bl, kindOf_lst, kindOf_tup, kindOf_dic, isNon_int, isNon_str, isNon_non, isNon_bl, isNon_lst, isNon_tup, isNon_dic, Ty.sub, reduceCtorEq, decide_false, decide_true, Bool.or_false, Bool.false_or, Bool.or_true, Bool.true_or, Bool.and_false, Bool.false_and, Bool.and_true, Bool.true_and, con_ints, con_nons, con_bls, len0_L, len1_L, len2_L, len3_L, len4_L, len5_L, len6_L, con_strs, con_lsts, con_tups, con_dics, augD, lenD_str, lenD_lst, lenD_tup, lenD_dic, addD_int, subD_int, leD_int, ltD_int, leD_str, ltD_str, isD_non, Bool.not_true, Bool.not_false, Option.map_some, if_true, Bool.false_eq_true, if_false, storeAll, compF, bindT, setAll, TG'.slots, wipeF, change, pushIn, orc_call, orc_mkx, orc_sub, orc_fuel, G_mkx, G_sub, G_fuel, this]
    | .lst xs, hw, hd, hl =>
      have hws : wfs xs = true := by simpa [wf] using hw
      have hds : deps xs + 2 ≤ k := by simp only [dep] at hd; omega
      obtain ⟨h1, h2⟩ := lst_small hws hl
      have hc := compGo_map (f := compF (.name 1) [.d (.lst xs), .no, .no] (fun ρ1 M2 => evc (orc G k) none ρ1 M2) (fun ρ1 M2 => ev (orc G k) (.call "_law_value_ok" (.cons (.var 1) .nil) []) ρ1 M2)) (g := fun _ => .bl true) (M := M) xs [] (by
        intro x hx
        have := c_value_ok k x M (wf_mem hws x hx) (by have := deps_mem x hx; omega) (h2 x hx)
        simp only [exs, ex, evf, evi, ev, evs, evo, evc, Lp.start, List.map_cons, List.map_nil, List.length_cons, List.length_nil, List.replicate, List.cons_append, List.nil_append, List.getElem?_cons_zero, List.getElem?_cons_succ, List.set_cons_succ, List.set_cons_zero, Res.bind_ok, Res.bind_exc, Res.fl_ok, Res.fl_exc, Flow.seq_next, Flow.seq_ret, Flow.seq_exc, Flow.seq_brk, Flow.seq_cnt, bltD, mthD, Res.of_some, fres_next, fres_ret, fres_exc, asB_bl, cmpD, binD, kindOf_int, kindOf_str, kindOf_non, kindOf_bl, kindOf_lst, kindOf_tup, kindOf_dic, isNon_int, isNon_str, isNon_non, isNon_bl, isNon_lst, isNon_tup, isNon_dic, Ty.sub, reduceCtorEq, decide_false, decide_true, Bool.or_false, Bool.false_or, Bool.or_true, Bool.true_or, Bool.and_false, Bool.false_and, Bool.and_true, Bool.true_and, con_ints, con_nons, con_bls, len0_L, len1_L, len2_L, len3_L, len4_L, len5_L, len6_L, con_strs, con_lsts, con_tups, con_dics, augD, lenD_str, lenD_lst, lenD_tup, lenD_dic, addD_int, subD_int, leD_int, ltD_int, leD_str, ltD_str, isD_non, Bool.not_true, Bool.not_false, Option.map_some, if_true, Bool.false_eq_true, if_false, storeAll, compF, bindT, setAll, TG'.slots, wipeF, change, pushIn, orc_call, orc_mkx, orc_sub, orc_fuel, G_mkx, G_sub, G_fuel, this]) (by simpa using h1)
      have ha : allD (.lst ([] ++ xs.map fun _ => .bl true)) = some (.bl true) := by
        rw [List.nil_append, allD_map (p := fun _ => true)]
        simp
      have e0 : ev (orc G k) (.isi (.var 0) .list) [.d (.lst xs), .no, .no] M = .ok (.bl true) M := by simp only [exs, ex, evf, evi, ev, evs, evo, evc, Lp.start, List.map_cons, List.map_nil, List.length_cons, List.length_nil, List.replicate, List.cons_append, List.nil_append, List.getElem?_cons_zero, List.getElem?_cons_succ, List.set_cons_succ, List.set_cons_zero, Res.bind_ok, Res.bind_exc, Res.fl_ok, Res.fl_exc, Flow.seq_next, Flow.seq_ret, Flow.seq_exc, Flow.seq_brk, Flow.seq_cnt, bltD, mthD, Res.of_some, fres_next, fres_ret, fres_exc, asB_bl, cmpD, binD, kindOf_int, kindOf_str, kindOf_non, kindOf_bl, kindOf_lst, kindOf_tup, kindOf_dic, isNon_int, isNon_str, isNon_non, isNon_bl, isNon_lst, isNon_tup, isNon_dic, Ty.sub, reduceCtorEq, decide_false, decide_true, Bool.or_false, Bool.false_or, Bool.or_true, Bool.true_or, Bool.and_false, Bool.false_and, Bool.and_true, Bool.true_and, con_ints, con_nons, con_bls, len0_L, len1_L, len2_L, len3_L, len4_L, len5_L, len6_L, con_strs, con_lsts, con_tups, con_dics, augD, lenD_str, lenD_lst, lenD_tup, lenD_dic, addD_int, subD_int, leD_int, ltD_int, leD_str, ltD_str, isD_non, Bool.not_true, Bool.not_false, Option.map_some, if_true, Bool.false_eq_true, if_false, storeAll, compF, bindT, setAll, TG'.slots, wipeF, change, pushIn, orc_call, orc_mkx, orc_sub, orc_fuel, G_mkx, G_sub, G_fuel]
      have e1 := seq_ok (C := orc G k) (M := M) (var_ok (ρ := [.d (.lst xs), .no, .no]) (i := 0) rfl)
      have e2 := blt_ok (f := .all) (frz_ok (comp_ok e1 hc)) ha
      exact congrArg Flow.res (a₂ := .ret (.bl true) M) (step_ret (ite_t e0 (step_ret (ret_ok e2))))
    | .dic kvs, hw, hd, hl =>
      obtain ⟨hw2, nd⟩ := wf_dic hw
      have hds : depk kvs + 2 ≤ k := by simp only [dep] at hd; omega
      obtain ⟨h1, h2⟩ := dic_small hw2 nd hl
      have hkd := keyed_wf hw2
      obtain ⟨j, rfl⟩ : ∃ j, k = j + 1 := ⟨k - 1, by omega⟩
      have hc := compGo_map (f := compF (.name 2) [.d (.dic kvs), .no, .no] (fun ρ1 M2 => evc (orc G (j+1)) none ρ1 M2) (fun ρ1 M2 => ev (orc G (j+1)) (.and (.call "_law_path_ok" (.cons (.tup (.cons (.var 2) .nil)) (.cons (.c (.int 1)) (.cons (.c (.int 1)) .nil))) []) (.call "_law_value_ok" (.cons (.idx (.var 0) (.var 2)) .nil) [])) ρ1 M2)) (g := fun _ => .bl true) (M := M) (kvs.map fun p => keyD p.1) [] (by
        intro x hx
        obtain ⟨p, hp, rfl⟩ := List.mem_map.mp hx
        obtain ⟨s, es⟩ := keyed_inr hkd p hp
        obtain ⟨h3, h4⟩ := h2 p hp
        have h5 := c_value_ok (j+1) p.2 M (wfk_mem hw2 p hp).1 (by have := depk_mem p hp; omega) h4
        have hn := (wfk_mem hw2 p hp).2
        have i1 : idxD M (.dic kvs) (.str s) = some p.2 := by rw [← h3, es]; rfl
        rw [es] at hn ⊢
        have h6 := c_path_ok j s M hn
        simp only [keyD, exs, ex, evf, evi, ev, evs, evo, evc, Lp.start, List.map_cons, List.map_nil, List.length_cons, List.length_nil, List.replicate, List.cons_append, List.nil_append, List.getElem?_cons_zero, List.getElem?_cons_succ, List.set_cons_succ, List.set_cons_zero, Res.bind_ok, Res.bind_exc, Res.fl_ok, Res.fl_exc, Flow.seq_next, Flow.seq_ret, Flow.seq_exc, Flow.seq_brk, Flow.seq_cnt, bltD, mthD, Res.of_some, fres_next, fres_ret, fres_exc, asB_bl, cmpD, binD, kindOf_int, kindOf_str, kindOf_non, kindOf_bl, kindOf_lst, kindOf_tup, kindOf_dic, isNon_int, isNon_str, isNon_non, isNon_bl, isNon_lst, isNon_tup, isNon_dic, Ty.sub, reduceCtorEq, decide_false, decide_true, Bool.or_false, Bool.false_or, Bool.or_true, Bool.true_or, Bool.and_false, Bool.false_and, Bool.and_true, Bool.true_and, con_ints, con_nons, con_bls, len0_L, len1_L, len2_L, len3_L, len4_L, len5_L, len6_L, con_strs, con_lsts, con_tups, con_dics, augD, lenD_str, lenD_lst, lenD_tup, lenD_dic, addD_int, subD_int, leD_int, ltD_int, leD_str, ltD_str, isD_non, Bool.not_true, Bool.not_false, Option.map_some, if_true, Bool.false_eq_true, if_false, storeAll, compF, bindT, setAll, TG'.slots, wipeF, change, pushIn, orc_call, orc_mkx, orc_sub, orc_fuel, G_mkx, G_sub, G_fuel, h6, i1, h5]) (by simpa using h1)
      have ha : allD (.lst ([] ++ (kvs.map fun p => keyD p.1).map fun _ => .bl true)) = some (.bl true) := by
        rw [List.nil_append, allD_map (p := fun _ => true)]
        simp
      have e0 : ev (orc G (j+1)) (.isi (.var 0) .dict) [.d (.dic kvs), .no, .no] M = .ok (.bl true) M := by simp only [exs, ex, evf, evi, ev, evs, evo, evc, Lp.start, List.map_cons, List.map_nil, List.length_cons, List.length_nil, List.replicate, List.cons_append, List.nil_append, List.getElem?_cons_zero, List.getElem?_cons_succ, List.set_cons_succ, List.set_cons_zero, Res.bind_ok, Res.bind_exc, Res.fl_ok, Res.fl_exc, Flow.seq_next, Flow.seq_ret, Flow.seq_exc, Flow.seq_brk, Flow.seq_cnt, bltD, mthD, Res.of_some, fres_next, fres_ret, fres_exc, asB_bl, cmpD, binD, kindOf_int, kindOf_str, kindOf_non, kindOf_bl, kindOf_lst, kindOf_tup, kindOf_dic, isNon_int, isNon_str, isNon_non, isNon_bl, isNon_lst, isNon_tup, isNon_dic, Ty.sub, reduceCtorEq, decide_false, decide_true, Bool.or_false, Bool.false_or, Bool.or_true, Bool.true_or, Bool.and_false, Bool.false_and, Bool.and_true, Bool.true_and, con_ints, con_nons, con_bls, len0_L, len1_L, len2_L, len3_L, len4_L, len5_L, len6_L, con_strs, con_lsts, con_tups, con_dics, augD, lenD_str, lenD_lst, lenD_tup, lenD_dic, addD_int, subD_int, leD_int, ltD_int, leD_str, ltD_str, isD_non, Bool.not_true, Bool.not_false, Option.map_some, if_true, Bool.false_eq_true, if_false, storeAll, compF, bindT, setAll, TG'.slots, wipeF, change, pushIn, orc_call, orc_mkx, orc_sub, orc_fuel, G_mkx, G_sub, G_fuel]
      have e2 := blt_ok (f := .all) (frz_ok (compK_ok (i := 0) rfl hc)) ha
      simp only [D__law_value_ok, Lp.start, List.map_cons, List.map_nil, List.length_cons, List.length_nil, List.replicate, List.cons_append, List.nil_append]
      rw [step_next (ρ1 := [.d (.dic kvs), .no, .no]) (M1 := M) (by simp only [exs, ex, evf, evi, ev, evs, evo, evc, Lp.start, List.map_cons, List.map_nil, List.length_cons, List.length_nil, List.replicate, List.cons_append, List.nil_append, List.getElem?_cons_zero, List.getElem?_cons_succ, List.set_cons_succ, List.set_cons_zero, Res.bind_ok, Res.bind_exc, Res.fl_ok, Res.fl_exc, Flow.seq_next, Flow.seq_ret, Flow.seq_exc, Flow.seq_brk, Flow.seq_cnt, bltD, mthD, Res.of_some, fres_next, fres_ret, fres_exc, asB_bl, cmpD, binD, kindOf_int, kindOf_str, kindOf_non, kindOf_bl, kindOf_lst, kindOf_tup, kindOf_dic, isNon_int, isNon_str, isNon_non, isNon_bl, isNon_lst, isNon_tup, isNon_dic, Ty.sub, reduceCtorEq, decide_false, decide_true, Bool.or_false, Bool.false_or, Bool.or_true, Bool.true_or, Bool.and_false, Bool.false_and, Bool.and_true, Bool.true_and, con_ints, con_nons, con_bls, len0_L, len1_L, len2_L, len3_L, len4_L, len5_L, len6_L, con_strs, con_lsts, con_tups, con_dics, augD, lenD_str, lenD_lst, lenD_tup, lenD_dic, addD_int, subD_int, leD_int, ltD_int, leD_str, ltD_str, isD_non, Bool.not_true, Bool.not_false, Option.map_some, if_true, Bool.false_eq_true, if_false, storeAll, compF, bindT, setAll, TG'.slots, wipeF, change, pushIn, orc_call, orc_mkx, orc_sub, orc_fuel, G_mkx, G_sub, G_fuel])]
      exact congrArg Flow.res (a₂ := .ret (.bl true) M) (step_ret (ite_t e0 (step_ret (ret_ok e2))))
end K37

set_option Elab.async false
set_option linter.all false
set_option maxRecDepth 100000
set_option maxHeartbeats 2000000
namespace K37
open Lp
theorem vT_head : ∀ {v : D}, wf v = true → ∃ c t, vT v = c :: t ∧ c ≠ 93 ∧ c ≠ 125
  | .non, _ => ⟨45, [], vT_non, by decide, by decide⟩
  | .bl _, h => by simp [wf] at h
  | .int i, _ => by
    obtain ⟨h1, c, t, e, _⟩ := int_chars i
    refine ⟨c, t, by rw [vT_int, e], ?_, ?_⟩
    · rintro rfl
      rw [e] at h1
      simp [stopP] at h1
    · rintro rfl
      rw [e] at h1
      simp [stopP] at h1
  | .str s, _ => ⟨39, s ++ [39], vT_str s, by decide, by decide⟩
  | .lst xs, _ => ⟨91, _, vT_lst xs, by decide, by decide⟩
  | .tup _, h => by simp [wf] at h
  | .dic kvs, _ => ⟨123, _, vT_dic kvs, by decide, by decide⟩
  | .cell _, h => by simp [wf] at h
theorem join_head {c : Nat} {t : S} {r : List S} : ∃ u, joinS [44] ((c :: t) :: r) = c :: u := by
  cases r with
  | nil => exact ⟨t, rfl⟩
  | cons y r => exact ⟨t ++ [44] ++ joinS [44] (y :: r), by rw [joinS_cons (by simp)]; simp⟩
theorem pItem_of : ∀ (n : Nat) (d : D) (r : S), wf d = true → dep d < n → (vT d).length ≤ L → Stop r → pItem n (vT d ++ r) = some (nm d, r)
  | 0, d, r, _, h, _, _ => by omega
  | n + 1, d, r, hw, hd, hl, hr => by
    have hL : L = 16777216 := rfl
    match d, hw, hd, hl with
    | .non, hw, hd, hl =>
      rw [vT_non]
      obtain ⟨t1, t2⟩ := take_app (p := fun c => !stopP.contains c) (a := [45]) (r := r) (by decide) (stop_not hr)
      show pItem (n + 1) (45 :: r) = _
      rw [pItem_c, if_neg (by decide), if_neg (by decide), pPlain_o (by decide)]
      have t1' : (45 :: r).takeWhile (fun c => !stopP.contains c) = [45] := t1
      have t2' : (45 :: r).dropWhile (fun c => !stopP.contains c) = r := t2
      rw [t1', t2', if_pos rfl, nm]
    | .bl _, hw, _, _ => simp [wf] at hw
    | .tup _, hw, _, _ => simp [wf] at hw
    | .cell _, hw, _, _ => simp [wf] at hw
    | .int i, hw, hd, hl =>
      rw [vT_int]
      obtain ⟨h1, c, t, e, n39, n91, n123, n45⟩ := int_chars i
      obtain ⟨t1, t2⟩ := take_app (p := fun c => !stopP.contains c) (a := intText i) (r := r) h1 (stop_not hr)
      have hx : intText i ++ r = c :: (t ++ r) := by rw [e]; rfl
      rw [hx] at t1 t2 ⊢
      rw [pItem_c, if_neg n91, if_neg n123, pPlain_o n39, t1, t2, if_neg n45, pNum_of (by simpa [wf] using hw), nm]
      rfl
    | .str s, hw, hd, hl =>
      rw [vT_str]
      have hk : textOkS s = true := by simpa [wf] using hw
      have ha : s.all (fun c => !([39] : S).contains c) = true := by
        unfold textOkS at hk
        simp only [Bool.and_eq_true] at hk
        exact all_imp (fun c h => sign_ok h) hk.2
      obtain ⟨t1, t2⟩ := take_app (p := fun c => !([39] : S).contains c) (a := s) (r := 39 :: r) ha (.inr ⟨39, r, rfl, by decide⟩)
      show pItem (n + 1) (39 :: (s ++ [39] ++ r)) = _
      rw [show s ++ [39] ++ r = s ++ 39 :: r by simp]
      rw [pItem_c, if_neg (by decide), if_neg (by decide), pPlain_q, t1, t2]
      simp only [hk, if_true]
      rw [nm]
    | .lst xs, hw, hd, hl =>
      have hws : wfs xs = true := by simpa [wf] using hw
      have hds : deps xs < n := by simp only [dep] at hd; omega
      obtain ⟨h1, h2⟩ := lst_small hws hl
      rw [vT_lst, nm_lst]
      show pItem (n + 1) (91 :: (joinS [44] (xs.map vT) ++ [93] ++ r)) = _
      rw [show joinS [44] (xs.map vT) ++ [93] ++ r = joinS [44] (xs.map vT) ++ 93 :: r by simp]
      rw [pItem_c, if_pos rfl]
      unfold pLst
      cases xs with
      | nil => rfl
      | cons x xr =>
        obtain ⟨c, t, e, n93, _⟩ := vT_head (wf_mem hws x List.mem_cons_self)
        obtain ⟨u, eu⟩ := join_head (c := c) (t := t) (r := xr.map vT)
        have hn : nx 93 (joinS [44] ((x :: xr).map vT) ++ 93 :: r) = false := by
          rw [List.map_cons, e, eu]
          exact beq_false_of_ne n93
        rw [hn]
        simp only [Bool.false_eq_true, if_false]
        have := pListGo_of (it := pItem n) (x :: xr) 16777216 [] r (by simp) (by omega) fun v hv r' hr' => pItem_of n v r' (wf_mem hws v hv) (Nat.lt_of_le_of_lt (deps_mem v hv) hds) (h2 v hv) hr'
        rw [this]
        rfl
    | .dic kvs, hw, hd, hl =>
      obtain ⟨hw2, nd⟩ := wf_dic hw
      have hds : depk kvs < n := by simp only [dep] at hd; omega
      obtain ⟨h1, h2⟩ := dic_small hw2 nd hl
      have hkd := keyed_wf hw2
      rw [vT_dic, nm_dic]
      have hnd : (kvs.map fun p => kS p.1).Nodup := by
        have e : (kvs.map fun p => p.1) = (kvs.map fun p => kS p.1).map (Sum.inr : S → DKey) := by
          rw [List.map_map]
          apply List.map_congr_left
          intro p hp
          obtain ⟨s, es⟩ := keyed_inr hkd p hp
          show p.1 = Sum.inr (kS p.1)
          rw [es]; rfl
        rw [e] at nd
        exact List.Pairwise.of_map Sum.inr (fun a b h e => h (by rw [e])) nd
      have hst : (sortS (kvs.map fun p => kS p.1)).Pairwise fun a b => ltS a b = true := strict_of (sortS_sorted _) ((sortS_perm _).nodup_iff.mpr hnd)
      have hmem : ∀ s ∈ sortS (kvs.map fun p => kS p.1), ∃ x, lkS s (vTk kvs) = vT x ∧ lkD s (nmk kvs) = nm x ∧ isNameS s = true ∧ ∃ p ∈ kvs, p.2 = x := by
        intro s hs
        have hm := sortS_mem hs
        obtain ⟨x, _, q1, q2, q3⟩ := lk_nm hkd s hm
        obtain ⟨p, hp, ep⟩ := List.mem_map.mp hm
        exact ⟨x, q1, q2, by rw [← ep]; exact (wfk_mem hw2 p hp).2, q3⟩
      have hlen : (sortS (kvs.map fun p => kS p.1)).length = kvs.length := by rw [sortS_len, List.length_map]
      show pItem (n + 1) (123 :: (joinS [44] ((sortS (kvs.map fun p => kS p.1)).map fun k => k ++ 58 :: lkS k (vTk kvs)) ++ [125] ++ r)) = _
      rw [List.append_assoc, List.cons_append, List.nil_append]
      generalize sortS (kvs.map fun p => kS p.1) = ss at hst hmem hlen ⊢
      rw [pItem_c, if_neg (by decide), if_pos rfl]
      unfold pRcd
      cases hss : ss with
      | nil => rfl
      | cons s0 sr =>
        obtain ⟨ps, hps⟩ : ∃ ps : List (S × D), ps.map (·.1) = ss ∧ (ss.map fun k => k ++ 58 :: lkS k (vTk kvs)) = ps.map (fun p => p.1 ++ 58 :: vT p.2) ∧ (ss.map fun k => ((.inr k : DKey), lkD k (nmk kvs))) = ps.map (fun p => (.inr p.1, nm p.2)) ∧ ∀ p ∈ ps, isNameS p.1 = true ∧ ∃ q ∈ kvs, q.2 = p.2 := by
          clear hst hlen hss
          induction ss with
          | nil => exact ⟨[], rfl, rfl, rfl, by simp⟩
          | cons s ss ih =>
            obtain ⟨ps, a1, a2, a3, a4⟩ := ih fun s hs => hmem s (List.mem_cons_of_mem _ hs)
            obtain ⟨x, b1, b2, b3, b4⟩ := hmem s List.mem_cons_self
            refine ⟨(s, x) :: ps, by simp [a1], by simp [a2, b1], by simp [a3, b2], ?_⟩
            intro p hp
            rcases List.mem_cons.mp hp with rfl | hp
            · exact ⟨b3, b4⟩
            · exact a4 p hp
        obtain ⟨a1, a2, a3, a4⟩ := hps
        rw [← hss, a2, a3]
        have hne : ps ≠ [] := by
          rintro rfl
          rw [hss] at a1
          cases a1
        have hn : nx 125 (joinS [44] (ps.map fun p => p.1 ++ 58 :: vT p.2) ++ 125 :: r) = false := by
          cases ps with
          | nil => exact absurd rfl hne
          | cons p pr =>
            have hnm := (a4 p List.mem_cons_self).1
            unfold isNameS at hnm
            simp only [Bool.and_eq_true, decide_eq_true_eq] at hnm
            obtain ⟨q1, q2⟩ := p
            cases q1 with
            | nil => simp at hnm
            | cons c t =>
              simp only [List.all_cons, Bool.and_eq_true] at hnm
              have hcr := low_range hnm.2.2.1
              obtain ⟨u, eu⟩ := join_head (c := c) (t := t ++ 58 :: vT q2) (r := pr.map fun p => p.1 ++ 58 :: vT p.2)
              rw [List.map_cons]
              show nx 125 (joinS [44] ((c :: (t ++ 58 :: vT q2)) :: _) ++ 125 :: r) = false
              rw [eu]
              exact beq_false_of_ne (by omega)
        rw [hn]
        simp only [Bool.false_eq_true, if_false]
        have hpl : ps.length = ss.length := by rw [← a1, List.length_map]
        have hfirst : ([] :: ps.map (·.1)).Pairwise (fun a b => ltS a b = true) := by
          rw [List.pairwise_cons, a1]
          refine ⟨fun s hs => ?_, hst⟩
          rw [← a1] at hs
          obtain ⟨p, hp, rfl⟩ := List.mem_map.mp hs
          have hnm := (a4 p hp).1
          unfold isNameS at hnm
          simp only [Bool.and_eq_true, decide_eq_true_eq] at hnm
          cases e : p.1 with
          | nil => rw [e] at hnm; simp at hnm
          | cons c t => rfl
        have := pRecGo_of (it := pItem n) ps 16777216 [] [] r hne (by omega) (fun p hp => ⟨(a4 p hp).1, fun r' hr' => by
          obtain ⟨q, hq, eq⟩ := (a4 p hp).2
          rw [← eq]
          exact pItem_of n q.2 r' (wfk_mem hw2 q hq).1 (Nat.lt_of_le_of_lt (depk_mem q hq) hds) (h2 q hq).2 hr'⟩) hfirst
        rw [this]
        rfl
theorem readV_of {d : D} (hw : wf d = true) (hd : dep d < 41) (hl : (vT d).length ≤ L) : readV (vT d) = some (nm d) := by
  have := pItem_of 41 d [] hw hd hl (.inl rfl)
  rw [List.append_nil] at this
  unfold readV
  rw [this]
end K37

set_option Elab.async false
set_option linter.all false
set_option maxRecDepth 100000
set_option maxHeartbeats 2000000
namespace K37
open Lp
theorem name_cok {s : S} (h : isNameS s = true) : cok s := by
  unfold isNameS at h
  simp only [Bool.and_eq_true] at h
  intro c hc
  have := low_range (List.all_eq_true.mp h.2.2 c hc)
  omega
theorem text_cok {s : S} (h : textOkS s = true) : cok s := by
  unfold textOkS at h
  simp only [Bool.and_eq_true] at h
  intro c hc
  have := List.all_eq_true.mp h.2 c hc
  have : c ∈ signS := by simpa using this
  simp only [signS, List.mem_cons, List.not_mem_nil, or_false] at this
  omega
theorem toPys_strs : ∀ ss : List S, toPys (ss.map .str) = some (ss.map fun s => PySem.PyData.str ⟨s.toArray⟩)
  | [] => rfl
  | s :: r => by
    simp only [List.map_cons, toPys, toPy, Option.bind_some, toPys_strs r, Option.map_some]
theorem lay_strs : ∀ ss : List S, (∀ s ∈ ss, cok s) → PySem.PyData.canLayAll0 (ss.map fun s => PySem.PyData.str ⟨s.toArray⟩) = true
  | [], _ => rfl
  | s :: r, h => by
    have h1 : PySem.PyData.strOk ⟨s.toArray⟩ = true := by
      simp [PySem.PyData.strOk]
      exact h s List.mem_cons_self
    simp only [List.map_cons, PySem.PyData.canLayAll0, PySem.PyData.canLay0, h1, Bool.true_and]
    exact lay_strs r fun t ht => h t (List.mem_cons_of_mem _ ht)
theorem depth_strs : ∀ ss : List S, PySem.PyData.depthAll (ss.map fun s => PySem.PyData.str ⟨s.toArray⟩) ≤ 1
  | [] => by simp [PySem.PyData.depthAll]
  | s :: r => by
    have := depth_strs r
    simp only [List.map_cons, PySem.PyData.depthAll, PySem.PyData.depth]
    omega
theorem eqD_strs {ss : List S} (h : ∀ s ∈ ss, cok s) : eqD (.lst (ss.map .str)) (.lst (ss.map .str)) = some true := by
  have e : toPy (.lst (ss.map .str)) = some (.list (ss.map fun s => PySem.PyData.str ⟨s.toArray⟩)) := by
    rw [toPy, toPys_strs]; rfl
  have hc : PySem.PyData.canLay0 (.list (ss.map fun s => PySem.PyData.str ⟨s.toArray⟩)) = true := by
    rw [PySem.PyData.canLay0]; exact lay_strs ss h
  have hs : PySem.SeqAt.shaped (.list (ss.map fun s => PySem.PyData.str ⟨s.toArray⟩)) = true := by
    unfold PySem.SeqAt.shaped
    rw [hc, Bool.true_and]
    have := depth_strs ss
    exact decide_eq_true (by rw [PySem.PyData.depth]; omega)
  unfold eqD
  rw [e]
  simp only [Option.bind_some]
  rw [if_pos ⟨hs, hs⟩, PySem.SeqAt.eqv_refl _ hc]
/-- f keeps what the law looks at -/
structure Sim (f : D → D) : Prop where
  non : f .non = .non
  int : ∀ i, f (.int i) = .int i
  str : ∀ s, f (.str s) = .str s
  lst : ∀ xs, f (.lst xs) = .lst (xs.map f)
  dic : ∀ kvs, wfk kvs = true → (kvs.map fun p => p.1).Nodup → ∃ kvs', f (.dic kvs) = .dic kvs' ∧ keyed kvs' = true ∧ sortS (kvs'.map fun p => kS p.1) = sortS (kvs.map fun p => kS p.1) ∧ ∀ p ∈ kvs, dlook kvs' p.1 = some (f p.2)
theorem c_num (k : Nat) (i : Int) (M : Mem) : callN G (k+1) "_law_num" [.int i] M = .ok (.bl true) M := by
  rw [callN_run (d := D__law_num) rfl k _ _ rfl]
  simp only [D__law_num, exs, ex, evf, evi, ev, evs, evo, evc, Lp.start, List.map_cons, List.map_nil, List.length_cons, List.length_nil, List.replicate, List.cons_append, List.nil_append, List.getElem?_cons_zero, List.getElem?_cons_succ, List.set_cons_succ, List.set_cons_zero, Res.bind_ok, Res.bind_exc, Res.fl_ok, Res.fl_exc, Flow.seq_next, Flow.seq_ret, Flow.seq_exc, Flow.seq_brk, Flow.seq_cnt, bltD, mthD, Res.of_some, fres_next, fres_ret, fres_exc, asB_bl, cmpD, binD, kindOf_int, kindOf_str, kindOf_non, kindOf_bl, kindOf_lst, kindOf_tup, kindOf_dic, isNon_int, isNon_str, isNon_non, isNon_bl, isNon_lst, isNon_tup, isNon_dic, Ty.sub, reduceCtorEq, decide_false, decide_true, Bool.or_false, Bool.false_or, Bool.or_true, Bool.true_or, Bool.and_false, Bool.false_and, Bool.and_true, Bool.true_and, con_ints, con_nons, con_bls, len0_L, len1_L, len2_L, len3_L, len4_L, len5_L, len6_L, con_strs, con_lsts, con_tups, con_dics, augD, lenD_str, lenD_lst, lenD_tup, lenD_dic, addD_int, subD_int, leD_int, ltD_int, leD_str, ltD_str, isD_non, Bool.not_true, Bool.not_false, Option.map_some, if_true, Bool.false_eq_true, if_false, storeAll, compF, bindT, setAll, TG'.slots, wipeF, change, pushIn, orc_call, orc_mkx, orc_sub, orc_fuel, G_mkx, G_sub, G_fuel]
theorem c_like {f : D → D} (hf : Sim f) : ∀ (k : Nat) (d : D) (M : Mem), wf d = true → dep d + 2 ≤ k → (vT d).length ≤ L → callN G k "_law_like" [f d, d] M = .ok (.bl true) M
  | 0, d, M, hw, hd, hl => by omega
  | k + 1, d, M, hw, hd, hl => by
    rw [callN_run (d := D__law_like) rfl k _ _ rfl]
    match d, hw, hd, hl with
    | .non, hw, hd, hl =>
      rw [hf.non]
      simp only [D__law_like, exs, ex, evf, evi, ev, evs, evo, evc, Lp.start, List.map_cons, List.map_nil, List.length_cons, List.length_nil, List.replicate, List.cons_append, List.nil_append, List.getElem?_cons_zero, List.getElem?_cons_succ, List.set_cons_succ, List.set_cons_zero, Res.bind_ok, Res.bind_exc, Res.fl_ok, Res.fl_exc, Flow.seq_next, Flow.seq_ret, Flow.seq_exc, Flow.seq_brk, Flow.seq_cnt, bltD, mthD, Res.of_some, fres_next, fres_ret, fres_exc, asB_bl, cmpD, binD, kindOf_int, kindOf_str, kindOf_non, kindOf_bl, kindOf_lst, kindOf_tup, kindOf_dic, isNon_int, isNon_str, isNon_non, isNon_bl, isNon_lst, isNon_tup, isNon_dic, Ty.sub, reduceCtorEq, decide_false, decide_true, Bool.or_false, Bool.false_or, Bool.or_true, Bool.true_or, Bool.and_false, Bool.false_and, Bool.and_true, Bool.true_and, con_ints, con_nons, con_bls, len0_L, len1_L, len2_L, len3_L, len4_L, len5_L, len6_L, con_strs, con_lsts, con_tups, con_dics, augD, lenD_str, lenD_lst, lenD_tup, lenD_dic, addD_int, subD_int, leD_int, ltD_int, leD_str, ltD_str, isD_non, Bool.not_true, Bool.not_false, Option.map_some, if_true, Bool.false_eq_true, if_false, storeAll, compF, bindT, setAll, TG'.slots, wipeF, change, pushIn, orc_call, orc_mkx, orc_sub, orc_fuel, G_mkx, G_sub, G_fuel]
    | .bl _, hw, _, _ => simp [wf] at hw
    | .tup _, hw, _, _ => simp [wf] at hw
    | .cell _, hw, _, _ => simp [wf] at hw
    | .int i, hw, hd, hl =>
      obtain ⟨j, rfl⟩ : ∃ j, k = j + 1 := ⟨k - 1, by simp only [dep] at hd; omega⟩
      have := c_num j i M
      rw [hf.int]
      simp only [D__law_like, exs, ex, evf, evi, ev, evs, evo, evc, Lp.start, List.map_cons, List.map_nil, List.length_cons, List.length_nil, List.replicate, List.cons_append, List.nil_append, List.getElem?_cons_zero, List.getElem?_cons_succ, List.set_cons_succ, List.set_cons_zero, Res.bind_ok, Res.bind_exc, Res.fl_ok, Res.fl_exc, Flow.seq_next, Flow.seq_ret, Flow.seq_exc, Flow.seq_brk, Flow.seq_cnt, bltD, mthD, Res.of_some, fres_next, fres_ret, fres_exc, asB_bl, cmpD, binD, kindOf_int, kindOf_str, kindOf_non, kindOf_bl, kindOf_lst, kindOf_tup, kindOf_dic, isNon_int, isNon_str, isNon_non, isNon_bl, isNon_lst, isNon_tup, isNon_dic, Ty.sub, reduceCtorEq, decide_false, decide_true, Bool.or_false, Bool.false_or, Bool.or_true, Bool.true_or, Bool.and_false, Bool.false_and, Bool.and_true, Bool.true_and, con_ints, con_nons, con_bls, len0_L, len1_L, len2_L, len3_L, len4_L, len5_L, len6_L, con_strs, con_lsts, con_tups, con_dics, augD, lenD_str, lenD_lst, lenD_tup, lenD_dic, addD_int, subD_int, leD_int, ltD_int, leD_str, ltD_str, isD_non, Bool.not_true, Bool.not_false, Option.map_some, if_true, Bool.false_eq_true, if_false, storeAll, compF, bindT, setAll, TG'.slots, wipeF, change, pushIn, orc_call, orc_mkx, orc_sub, orc_fuel, G_mkx, G_sub, G_fuel, this, eqD_int]
    | .str s, hw, hd, hl =>
      have hk : textOkS s = true := by simpa [wf] using hw
      have := eqD_str (text_cok hk) (text_cok hk)
      rw [hf.str]
      simp only [D__law_like, exs, ex, evf, evi, ev, evs, evo, evc, Lp.start, List.map_cons, List.map_nil, List.length_cons, List.length_nil, List.replicate, List.cons_append, List.nil_append, List.getElem?_cons_zero, List.getElem?_cons_succ, List.set_cons_succ, List.set_cons_zero, Res.bind_ok, Res.bind_exc, Res.fl_ok, Res.fl_exc, Flow.seq_next, Flow.seq_ret, Flow.seq_exc, Flow.seq_brk, Flow.seq_cnt, bltD, mthD, Res.of_some, fres_next, fres_ret, fres_exc, asB_bl, cmpD, binD, kindOf_int, kindOf_str, kindOf_non, kindOf_bl, kindOf_lst, kindOf_tup, kindOf_dic, isNon_int, isNon_str, isNon_non, isNon_bl, isNon_lst, isNon_tup, isNon_dic, Ty.sub, reduceCtorEq, decide_false, decide_true, Bool.or_false, Bool.false_or, Bool.or_true, Bool.true_or, Bool.and_false, Bool.false_and, Bool.and_true, Bool.true_and, con_ints, con_nons, con_bls, len0_L, len1_L, len2_L, len3_L, len4_L, len5_L, len6_L, con_strs, con_lsts, con_tups, con_dics, augD, lenD_str, lenD_lst, lenD_tup, lenD_dic, addD_int, subD_int, leD_int, ltD_int, leD_str, ltD_str, isD_non, Bool.not_true, Bool.not_false, Option.map_some, if_true, Bool.false_eq_true, if_false, storeAll, compF, bindT, setAll, TG'.slots, wipeF, change, pushIn, orc_call, orc_mkx, orc_sub, orc_fuel, G_mkx, G_sub, G_fuel, this]
    | .lst xs, hw, hd, hl =>
      have hws : wfs xs = true := by simpa [wf] using hw
      have hds : deps xs + 2 ≤ k := by simp only [dep] at hd; omega
      obtain ⟨h1, h2⟩ := lst_small hws hl
      rw [hf.lst]
      have hc := compGo_map (f := compF (.name 3) [.d (.lst (xs.map f)), .d (.lst xs), .no, .no] (fun ρ1 M2 => evc (orc G k) none ρ1 M2) (fun ρ1 M2 => ev (orc G k) (.call "_law_like" (.cons (.idx (.var 0) (.var 3)) (.cons (.idx (.var 1) (.var 3)) .nil)) []) ρ1 M2)) (g := fun _ => .bl true) (M := M) ((List.range xs.length).map fun i => .int ((0 : Int) + (i : Nat))) [] (by
        intro x hx
        obtain ⟨i, hi, rfl⟩ := List.mem_map.mp hx
        have hi := List.mem_range.mp hi
        have q1 : idxD M (.lst xs) (.int ((0 : Int) + (i : Nat))) = some xs[i] := by
          rw [Int.zero_add]
          unfold idxD
          simp only [con_lsts]
          rw [ixD_nat hi]
          simp [List.getElem?_eq_getElem hi]
        have q2 : idxD M (.lst (xs.map f)) (.int ((0 : Int) + (i : Nat))) = some (f xs[i]) := by
          rw [Int.zero_add]
          unfold idxD
          simp only [con_lsts]
          rw [ixD_nat (by simpa using hi)]
          simp [List.getElem?_eq_getElem hi]
        have hm := List.getElem_mem hi
        have := c_like hf k xs[i] M (wf_mem hws _ hm) (by have := deps_mem _ hm; omega) (h2 _ hm)
        simp only [exs, ex, evf, evi, ev, evs, evo, evc, Lp.start, List.map_cons, List.map_nil, List.length_cons, List.length_nil, List.replicate, List.cons_append, List.nil_append, List.getElem?_cons_zero, List.getElem?_cons_succ, List.set_cons_succ, List.set_cons_zero, Res.bind_ok, Res.bind_exc, Res.fl_ok, Res.fl_exc, Flow.seq_next, Flow.seq_ret, Flow.seq_exc, Flow.seq_brk, Flow.seq_cnt, bltD, mthD, Res.of_some, fres_next, fres_ret, fres_exc, asB_bl, cmpD, binD, kindOf_int, kindOf_str, kindOf_non, kindOf_bl, kindOf_lst, kindOf_tup, kindOf_dic, isNon_int, isNon_str, isNon_non, isNon_bl, isNon_lst, isNon_tup, isNon_dic, Ty.sub, reduceCtorEq, decide_false, decide_true, Bool.or_false, Bool.false_or, Bool.or_true, Bool.true_or, Bool.and_false, Bool.false_and, Bool.and_true, Bool.true_and, con_ints, con_nons, con_bls, len0_L, len1_L, len2_L, len3_L, len4_L, len5_L, len6_L, con_strs, con_lsts, con_tups, con_dics, augD, lenD_str, lenD_lst, lenD_tup, lenD_dic, addD_int, subD_int, leD_int, ltD_int, leD_str, ltD_str, isD_non, Bool.not_true, Bool.not_false, Option.map_some, if_true, Bool.false_eq_true, if_false, storeAll, compF, bindT, setAll, TG'.slots, wipeF, change, pushIn, orc_call, orc_mkx, orc_sub, orc_fuel, G_mkx, G_sub, G_fuel, q1, q2, this]) (by simpa using h1)
      have ha : allD (.lst ([] ++ ((List.range xs.length).map fun i => D.int ((0 : Int) + (i : Nat))).map fun _ => .bl true)) = some (.bl true) := by
        rw [List.nil_append, allD_map (p := fun _ => true)]
        simp
      have er : evi (orc G k) (.rng1 (.blt .len (.var 1))) [.d (.lst (xs.map f)), .d (.lst xs), .no, .no] M = .ok ((List.range xs.length).map fun i => .int ((0 : Int) + (i : Nat))) M := by
        have hL : L = 16777216 := rfl
        have e : rngD 0 (xs.length : Int) = some ((List.range xs.length).map fun i => .int ((0 : Int) + (i : Nat))) := by
          unfold rngD
          rw [if_pos (by omega)]
          rw [show ((xs.length : Int) - 0).toNat = xs.length by omega]
        simp only [exs, ex, evf, evi, ev, evs, evo, evc, Lp.start, List.map_cons, List.map_nil, List.length_cons, List.length_nil, List.replicate, List.cons_append, List.nil_append, List.getElem?_cons_zero, List.getElem?_cons_succ, List.set_cons_succ, List.set_cons_zero, Res.bind_ok, Res.bind_exc, Res.fl_ok, Res.fl_exc, Flow.seq_next, Flow.seq_ret, Flow.seq_exc, Flow.seq_brk, Flow.seq_cnt, bltD, mthD, Res.of_some, fres_next, fres_ret, fres_exc, asB_bl, cmpD, binD, kindOf_int, kindOf_str, kindOf_non, kindOf_bl, kindOf_lst, kindOf_tup, kindOf_dic, isNon_int, isNon_str, isNon_non, isNon_bl, isNon_lst, isNon_tup, isNon_dic, Ty.sub, reduceCtorEq, decide_false, decide_true, Bool.or_false, Bool.false_or, Bool.or_true, Bool.true_or, Bool.and_false, Bool.false_and, Bool.and_true, Bool.true_and, con_ints, con_nons, con_bls, len0_L, len1_L, len2_L, len3_L, len4_L, len5_L, len6_L, con_strs, con_lsts, con_tups, con_dics, augD, lenD_str, lenD_lst, lenD_tup, lenD_dic, addD_int, subD_int, leD_int, ltD_int, leD_str, ltD_str, isD_non, Bool.not_true, Bool.not_false, Option.map_some, if_true, Bool.false_eq_true, if_false, storeAll, compF, bindT, setAll, TG'.slots, wipeF, change, pushIn, orc_call, orc_mkx, orc_sub, orc_fuel, G_mkx, G_sub, G_fuel, e]
      have e2 := blt_ok (f := .all) (frz_ok (comp_ok er hc)) ha
      have e1 : ev (orc G k) (.cmp .eq (.blt .len (.var 0)) (.blt .len (.var 1))) [.d (.lst (xs.map f)), .d (.lst xs), .no, .no] M = .ok (.bl true) M := by
        have : (((xs.map f).length : Nat) : Int) = (xs.length : Int) := by simp
        simp only [exs, ex, evf, evi, ev, evs, evo, evc, Lp.start, List.map_cons, List.map_nil, List.length_cons, List.length_nil, List.replicate, List.cons_append, List.nil_append, List.getElem?_cons_zero, List.getElem?_cons_succ, List.set_cons_succ, List.set_cons_zero, Res.bind_ok, Res.bind_exc, Res.fl_ok, Res.fl_exc, Flow.seq_next, Flow.seq_ret, Flow.seq_exc, Flow.seq_brk, Flow.seq_cnt, bltD, mthD, Res.of_some, fres_next, fres_ret, fres_exc, asB_bl, cmpD, binD, kindOf_int, kindOf_str, kindOf_non, kindOf_bl, kindOf_lst, kindOf_tup, kindOf_dic, isNon_int, isNon_str, isNon_non, isNon_bl, isNon_lst, isNon_tup, isNon_dic, Ty.sub, reduceCtorEq, decide_false, decide_true, Bool.or_false, Bool.false_or, Bool.or_true, Bool.true_or, Bool.and_false, Bool.false_and, Bool.and_true, Bool.true_and, con_ints, con_nons, con_bls, len0_L, len1_L, len2_L, len3_L, len4_L, len5_L, len6_L, con_strs, con_lsts, con_tups, con_dics, augD, lenD_str, lenD_lst, lenD_tup, lenD_dic, addD_int, subD_int, leD_int, ltD_int, leD_str, ltD_str, isD_non, Bool.not_true, Bool.not_false, Option.map_some, if_true, Bool.false_eq_true, if_false, storeAll, compF, bindT, setAll, TG'.slots, wipeF, change, pushIn, orc_call, orc_mkx, orc_sub, orc_fuel, G_mkx, G_sub, G_fuel, eqD_int, List.length_map]
      simp only [D__law_like, Lp.start, List.map_cons, List.map_nil, List.length_cons, List.length_nil, List.replicate, List.cons_append, List.nil_append]
      rw [step_next (ρ1 := [.d (.lst (xs.map f)), .d (.lst xs), .no, .no]) (M1 := M) (by simp only [exs, ex, evf, evi, ev, evs, evo, evc, Lp.start, List.map_cons, List.map_nil, List.length_cons, List.length_nil, List.replicate, List.cons_append, List.nil_append, List.getElem?_cons_zero, List.getElem?_cons_succ, List.set_cons_succ, List.set_cons_zero, Res.bind_ok, Res.bind_exc, Res.fl_ok, Res.fl_exc, Flow.seq_next, Flow.seq_ret, Flow.seq_exc, Flow.seq_brk, Flow.seq_cnt, bltD, mthD, Res.of_some, fres_next, fres_ret, fres_exc, asB_bl, cmpD, binD, kindOf_int, kindOf_str, kindOf_non, kindOf_bl, kindOf_lst, kindOf_tup, kindOf_dic, isNon_int, isNon_str, isNon_non, isNon_bl, isNon_lst, isNon_tup, isNon_dic, Ty.sub, reduceCtorEq, decide_false, decide_true, Bool.or_false, Bool.false_or, Bool.or_true, Bool.true_or, Bool.and_false, Bool.false_and, Bool.and_true, Bool.true_and, con_ints, con_nons, con_bls, len0_L, len1_L, len2_L, len3_L, len4_L, len5_L, len6_L, con_strs, con_lsts, con_tups, con_dics, augD, lenD_str, lenD_lst, lenD_tup, lenD_dic, addD_int, subD_int, leD_int, ltD_int, leD_str, ltD_str, isD_non, Bool.not_true, Bool.not_false, Option.map_some, if_true, Bool.false_eq_true, if_false, storeAll, compF, bindT, setAll, TG'.slots, wipeF, change, pushIn, orc_call, orc_mkx, orc_sub, orc_fuel, G_mkx, G_sub, G_fuel])]
      rw [step_next (ρ1 := [.d (.lst (xs.map f)), .d (.lst xs), .no, .no]) (M1 := M) (by simp only [exs, ex, evf, evi, ev, evs, evo, evc, Lp.start, List.map_cons, List.map_nil, List.length_cons, List.length_nil, List.replicate, List.cons_append, List.nil_append, List.getElem?_cons_zero, List.getElem?_cons_succ, List.set_cons_succ, List.set_cons_zero, Res.bind_ok, Res.bind_exc, Res.fl_ok, Res.fl_exc, Flow.seq_next, Flow.seq_ret, Flow.seq_exc, Flow.seq_brk, Flow.seq_cnt, bltD, mthD, Res.of_some, fres_next, fres_ret, fres_exc, asB_bl, cmpD, binD, kindOf_int, kindOf_str, kindOf_non, kindOf_bl, kindOf_lst, kindOf_tup, kindOf_dic, isNon_int, isNon_str, isNon_non, isNon_bl, isNon_lst, isNon_tup, isNon_dic, Ty.sub, reduceCtorEq, decide_false, decide_true, Bool.or_false, Bool.false_or, Bool.or_true, Bool.true_or, Bool.and_false, Bool.false_and, Bool.and_true, Bool.true_and, con_ints, con_nons, con_bls, len0_L, len1_L, len2_L, len3_L, len4_L, len5_L, len6_L, con_strs, con_lsts, con_tups, con_dics, augD, lenD_str, lenD_lst, lenD_tup, lenD_dic, addD_int, subD_int, leD_int, ltD_int, leD_str, ltD_str, isD_non, Bool.not_true, Bool.not_false, Option.map_some, if_true, Bool.false_eq_true, if_false, storeAll, compF, bindT, setAll, TG'.slots, wipeF, change, pushIn, orc_call, orc_mkx, orc_sub, orc_fuel, G_mkx, G_sub, G_fuel])]
      rw [step_next (ρ1 := [.d (.lst (xs.map f)), .d (.lst xs), .no, .no]) (M1 := M) (by simp only [exs, ex, evf, evi, ev, evs, evo, evc, Lp.start, List.map_cons, List.map_nil, List.length_cons, List.length_nil, List.replicate, List.cons_append, List.nil_append, List.getElem?_cons_zero, List.getElem?_cons_succ, List.set_cons_succ, List.set_cons_zero, Res.bind_ok, Res.bind_exc, Res.fl_ok, Res.fl_exc, Flow.seq_next, Flow.seq_ret, Flow.seq_exc, Flow.seq_brk, Flow.seq_cnt, bltD, mthD, Res.of_some, fres_next, fres_ret, fres_exc, asB_bl, cmpD, binD, kindOf_int, kindOf_str, kindOf_non, kindOf_bl, kindOf_lst, kindOf_tup, kindOf_dic, isNon_int, isNon_str, isNon_non, isNon_bl, isNon_lst, isNon_tup, isNon_dic, Ty.sub, reduceCtorEq, decide_false, decide_true, Bool.or_false, Bool.false_or, Bool.or_true, Bool.true_or, Bool.and_false, Bool.false_and, Bool.and_true, Bool.true_and, con_ints, con_nons, con_bls, len0_L, len1_L, len2_L, len3_L, len4_L, len5_L, len6_L, con_strs, con_lsts, con_tups, con_dics, augD, lenD_str, lenD_lst, lenD_tup, lenD_dic, addD_int, subD_int, leD_int, ltD_int, leD_str, ltD_str, isD_non, Bool.not_true, Bool.not_false, Option.map_some, if_true, Bool.false_eq_true, if_false, storeAll, compF, bindT, setAll, TG'.slots, wipeF, change, pushIn, orc_call, orc_mkx, orc_sub, orc_fuel, G_mkx, G_sub, G_fuel])]
      rw [step_next (ρ1 := [.d (.lst (xs.map f)), .d (.lst xs), .no, .no]) (M1 := M) (by simp only [exs, ex, evf, evi, ev, evs, evo, evc, Lp.start, List.map_cons, List.map_nil, List.length_cons, List.length_nil, List.replicate, List.cons_append, List.nil_append, List.getElem?_cons_zero, List.getElem?_cons_succ, List.set_cons_succ, List.set_cons_zero, Res.bind_ok, Res.bind_exc, Res.fl_ok, Res.fl_exc, Flow.seq_next, Flow.seq_ret, Flow.seq_exc, Flow.seq_brk, Flow.seq_cnt, bltD, mthD, Res.of_some, fres_next, fres_ret, fres_exc, asB_bl, cmpD, binD, kindOf_int, kindOf_str, kindOf_non, kindOf_bl, kindOf_lst, kindOf_tup, kindOf_dic, isNon_int, isNon_str, isNon_non, isNon_bl, isNon_lst, isNon_tup, isNon_dic, Ty.sub, reduceCtorEq, decide_false, decide_true, Bool.or_false, Bool.false_or, Bool.or_true, Bool.true_or, Bool.and_false, Bool.false_and, Bool.and_true, Bool.true_and, con_ints, con_nons, con_bls, len0_L, len1_L, len2_L, len3_L, len4_L, len5_L, len6_L, con_strs, con_lsts, con_tups, con_dics, augD, lenD_str, lenD_lst, lenD_tup, lenD_dic, addD_int, subD_int, leD_int, ltD_int, leD_str, ltD_str, isD_non, Bool.not_true, Bool.not_false, Option.map_some, if_true, Bool.false_eq_true, if_false, storeAll, compF, bindT, setAll, TG'.slots, wipeF, change, pushIn, orc_call, orc_mkx, orc_sub, orc_fuel, G_mkx, G_sub, G_fuel])]
      rw [step_next (ρ1 := [.d (.lst (xs.map f)), .d (.lst xs), .no, .no]) (M1 := M) (by simp only [exs, ex, evf, evi, ev, evs, evo, evc, Lp.start, List.map_cons, List.map_nil, List.length_cons, List.length_nil, List.replicate, List.cons_append, List.nil_append, List.getElem?_cons_zero, List.getElem?_cons_succ, List.set_cons_succ, List.set_cons_zero, Res.bind_ok, Res.bind_exc, Res.fl_ok, Res.fl_exc, Flow.seq_next, Flow.seq_ret, Flow.seq_exc, Flow.seq_brk, Flow.seq_cnt, bltD, mthD, Res.of_some, fres_next, fres_ret, fres_exc, asB_bl, cmpD, binD, kindOf_int, kindOf_str, kindOf_non, kindOf_bl, kindOf_lst, kindOf_tup, kindOf_dic, isNon_int, isNon_str, isNon_non, isNon_bl, isNon_lst, isNon_tup, isNon_dic, Ty.sub, reduceCtorEq, decide_false, decide_true, Bool.or_false, Bool.false_or, Bool.or_true, Bool.true_or, Bool.and_false, Bool.false_and, Bool.and_true, Bool.true_and, con_ints, con_nons, con_bls, len0_L, len1_L, len2_L, len3_L, len4_L, len5_L, len6_L, con_strs, con_lsts, con_tups, con_dics, augD, lenD_str, lenD_lst, lenD_tup, lenD_dic, addD_int, subD_int, leD_int, ltD_int, leD_str, ltD_str, isD_non, Bool.not_true, Bool.not_false, Option.map_some, if_true, Bool.false_eq_true, if_false, storeAll, compF, bindT, setAll, TG'.slots, wipeF, change, pushIn, orc_call, orc_mkx, orc_sub, orc_fuel, G_mkx, G_sub, G_fuel])]
      rw [step_next (ρ1 := [.d (.lst (xs.map f)), .d (.lst xs), .no, .no]) (M1 := M) (by simp only [exs, ex, evf, evi, ev, evs, evo, evc, Lp.start, List.map_cons, List.map_nil, List.length_cons, List.length_nil, List.replicate, List.cons_append, List.nil_append, List.getElem?_cons_zero, List.getElem?_cons_succ, List.set_cons_succ, List.set_cons_zero, Res.bind_ok, Res.bind_exc, Res.fl_ok, Res.fl_exc, Flow.seq_next, Flow.seq_ret, Flow.seq_exc, Flow.seq_brk, Flow.seq_cnt, bltD, mthD, Res.of_some, fres_next, fres_ret, fres_exc, asB_bl, cmpD, binD, kindOf_int, kindOf_str, kindOf_non, kindOf_bl, kindOf_lst, kindOf_tup, kindOf_dic, isNon_int, isNon_str, isNon_non, isNon_bl, isNon_lst, isNon_tup, isNon_dic, Ty.sub, reduceCtorEq, decide_false, decide_true, Bool.or_false, Bool.false_or, Bool.or_true, Bool.true_or, Bool.and_false, Bool.false_and, Bool.and_true, Bool.true_and, con_ints, con_nons, con_bls, len0_L, len1_L, len2_L, len3_L, len4_L, len5_L, len6_L, con_strs, con_lsts, con_tups, con_dics, augD, lenD_str, lenD_lst, lenD_tup, lenD_dic, addD_int, subD_int, leD_int, ltD_int, leD_str, ltD_str, isD_non, Bool.not_true, Bool.not_false, Option.map_some, if_true, Bool.false_eq_true, if_false, storeAll, compF, bindT, setAll, TG'.slots, wipeF, change, pushIn, orc_call, orc_mkx, orc_sub, orc_fuel, G_mkx, G_sub, G_fuel, eqD_bl])]
      exact congrArg Flow.res (a₂ := .ret (.bl true) M) (step_ret (ret_ok (and_ok e1 e2)))
    | .dic kvs, hw, hd, hl =>
      obtain ⟨hw2, nd⟩ := wf_dic hw
      have hds : depk kvs + 2 ≤ k := by simp only [dep] at hd; omega
      obtain ⟨h1, h2⟩ := dic_small hw2 nd hl
      have hkd := keyed_wf hw2
      obtain ⟨kvs', ef, hk', hs', hl'⟩ := hf.dic kvs hw2 nd
      rw [ef]
      have hcok : ∀ s ∈ sortS (kvs.map fun p => kS p.1), cok s := by
        intro s hs
        obtain ⟨p, hp, e⟩ := List.mem_map.mp (sortS_mem hs)
        rw [← e]
        exact name_cok (wfk_mem hw2 p hp).2
      have s1 : evf (orc G k) (.sorted (.var 0)) [.d (.dic kvs'), .d (.dic kvs), .no, .no] M = .ok (.lst ((sortS (kvs.map fun p => kS p.1)).map .str)) M := by
        rw [evf]
        simp only [ev, List.getElem?_cons_zero, Res.bind_ok, keyed_keys hk', strsD_map, Option.map_some, Res.of_some, hs']
      have s2 : evf (orc G k) (.sorted (.var 1)) [.d (.dic kvs'), .d (.dic kvs), .no, .no] M = .ok (.lst ((sortS (kvs.map fun p => kS p.1)).map .str)) M := by
        rw [evf]
        simp only [ev, List.getElem?_cons_zero, List.getElem?_cons_succ, Res.bind_ok, keyed_keys hkd, strsD_map, Option.map_some, Res.of_some]
      have hc := compGo_map (f := compF (.name 2) [.d (.dic kvs'), .d (.dic kvs), .no, .no] (fun ρ1 M2 => evc (orc G k) none ρ1 M2) (fun ρ1 M2 => ev (orc G k) (.call "_law_like" (.cons (.idx (.var 0) (.var 2)) (.cons (.idx (.var 1) (.var 2)) .nil)) []) ρ1 M2)) (g := fun _ => .bl true) (M := M) (kvs.map fun p => keyD p.1) [] (by
        intro x hx
        obtain ⟨p, hp, rfl⟩ := List.mem_map.mp hx
        obtain ⟨s, es⟩ := keyed_inr hkd p hp
        obtain ⟨h3, h4⟩ := h2 p hp
        have h5 := c_like hf k p.2 M (wfk_mem hw2 p hp).1 (by have := depk_mem p hp; omega) h4
        have h6 := hl' p hp
        have i1 : idxD M (.dic kvs) (.str s) = some p.2 := by rw [← h3, es]; rfl
        have i2 : idxD M (.dic kvs') (.str s) = some (f p.2) := by rw [← h6, es]; rfl
        rw [es]
        simp only [keyD, exs, ex, evf, evi, ev, evs, evo, evc, Lp.start, List.map_cons, List.map_nil, List.length_cons, List.length_nil, List.replicate, List.cons_append, List.nil_append, List.getElem?_cons_zero, List.getElem?_cons_succ, List.set_cons_succ, List.set_cons_zero, Res.bind_ok, Res.bind_exc, Res.fl_ok, Res.fl_exc, Flow.seq_next, Flow.seq_ret, Flow.seq_exc, Flow.seq_brk, Flow.seq_cnt, bltD, mthD, Res.of_some, fres_next, fres_ret, fres_exc, asB_bl, cmpD, binD, kindOf_int, kindOf_str, kindOf_non, kindOf_bl, kindOf_lst, kindOf_tup, kindOf_dic, isNon_int, isNon_str, isNon_non, isNon_bl, isNon_lst, isNon_tup, isNon_dic, Ty.sub, reduceCtorEq, decide_false, decide_true, Bool.or_false, Bool.false_or, Bool.or_true, Bool.true_or, Bool.and_false, Bool.false_and, Bool.and_true, Bool.true_and, con_ints, con_nons, con_bls, len0_L, len1_L, len2_L, len3_L, len4_L, len5_L, len6_L, con_strs, con_lsts, con_tups, con_dics, augD, lenD_str, lenD_lst, lenD_tup, lenD_dic, addD_int, subD_int, leD_int, ltD_int, leD_str, ltD_str, isD_non, Bool.not_true, Bool.not_false, Option.map_some, if_true, Bool.false_eq_true, if_false, storeAll, compF, bindT, setAll, TG'.slots, wipeF, change, pushIn, orc_call, orc_mkx, orc_sub, orc_fuel, G_mkx, G_sub, G_fuel, i1, i2, h5]) (by simpa using h1)
      have ha : allD (.lst ([] ++ (kvs.map fun p => keyD p.1).map fun _ => .bl true)) = some (.bl true) := by
        rw [List.nil_append, allD_map (p := fun _ => true)]
        simp
      have e2 := blt_ok (f := .all) (frz_ok (compK_ok (i := 1) rfl hc)) ha
      have e0 : ev (orc G k) (.isi (.var 1) .dict) [.d (.dic kvs'), .d (.dic kvs), .no, .no] M = .ok (.bl true) M := by simp only [exs, ex, evf, evi, ev, evs, evo, evc, Lp.start, List.map_cons, List.map_nil, List.length_cons, List.length_nil, List.replicate, List.cons_append, List.nil_append, List.getElem?_cons_zero, List.getElem?_cons_succ, List.set_cons_succ, List.set_cons_zero, Res.bind_ok, Res.bind_exc, Res.fl_ok, Res.fl_exc, Flow.seq_next, Flow.seq_ret, Flow.seq_exc, Flow.seq_brk, Flow.seq_cnt, bltD, mthD, Res.of_some, fres_next, fres_ret, fres_exc, asB_bl, cmpD, binD, kindOf_int, kindOf_str, kindOf_non, kindOf_bl, kindOf_lst, kindOf_tup, kindOf_dic, isNon_int, isNon_str, isNon_non, isNon_bl, isNon_lst, isNon_tup, isNon_dic, Ty.sub, reduceCtorEq, decide_false, decide_true, Bool.or_false, Bool.false_or, Bool.or_true, Bool.true_or, Bool.and_false, Bool.false_and, Bool.and_true, Bool.true_and, con_ints, con_nons, con_bls, len0_L, len1_L, len2_L, len3_L, len4_L, len5_L, len6_L, con_strs, con_lsts, con_tups, con_dics, augD, lenD_str, lenD_lst, lenD_tup, lenD_dic, addD_int, subD_int, leD_int, ltD_int, leD_str, ltD_str, isD_non, Bool.not_true, Bool.not_false, Option.map_some, if_true, Bool.false_eq_true, if_false, storeAll, compF, bindT, setAll, TG'.slots, wipeF, change, pushIn, orc_call, orc_mkx, orc_sub, orc_fuel, G_mkx, G_sub, G_fuel]
      have e1 : ev (orc G k) (.or (.not (.isi (.var 0) .dict)) (.cmp .ne (.frz (.sorted (.var 0))) (.frz (.sorted (.var 1))))) [.d (.dic kvs'), .d (.dic kvs), .no, .no] M = .ok (.bl false) M := by
        have q : ev (orc G k) (.cmp .ne (.frz (.sorted (.var 0))) (.frz (.sorted (.var 1)))) [.d (.dic kvs'), .d (.dic kvs), .no, .no] M = .ok (.bl false) M := by
          rw [ev, ev, s1, Res.bind_ok, ev, s2, Res.bind_ok]
          simp only [cmpD, eqD_strs hcok, Option.map_some, Bool.not_true, Res.of_some, Res.bind_ok]
        rw [ev]
        have q0 : ev (orc G k) (.not (.isi (.var 0) .dict)) [.d (.dic kvs'), .d (.dic kvs), .no, .no] M = .ok (.bl false) M := by simp only [exs, ex, evf, evi, ev, evs, evo, evc, Lp.start, List.map_cons, List.map_nil, List.length_cons, List.length_nil, List.replicate, List.cons_append, List.nil_append, List.getElem?_cons_zero, List.getElem?_cons_succ, List.set_cons_succ, List.set_cons_zero, Res.bind_ok, Res.bind_exc, Res.fl_ok, Res.fl_exc, Flow.seq_next, Flow.seq_ret, Flow.seq_exc, Flow.seq_brk, Flow.seq_cnt, bltD, mthD, Res.of_some, fres_next, fres_ret, fres_exc, asB_bl, cmpD, binD, kindOf_int, kindOf_str, kindOf_non, kindOf_bl, kindOf_lst, kindOf_tup, kindOf_dic, isNon_int, isNon_str, isNon_non, isNon_bl, isNon_lst, isNon_tup, isNon_dic, Ty.sub, reduceCtorEq, decide_false, decide_true, Bool.or_false, Bool.false_or, Bool.or_true, Bool.true_or, Bool.and_false, Bool.false_and, Bool.and_true, Bool.true_and, con_ints, con_nons, con_bls, len0_L, len1_L, len2_L, len3_L, len4_L, len5_L, len6_L, con_strs, con_lsts, con_tups, con_dics, augD, lenD_str, lenD_lst, lenD_tup, lenD_dic, addD_int, subD_int, leD_int, ltD_int, leD_str, ltD_str, isD_non, Bool.not_true, Bool.not_false, Option.map_some, if_true, Bool.false_eq_true, if_false, storeAll, compF, bindT, setAll, TG'.slots, wipeF, change, pushIn, orc_call, orc_mkx, orc_sub, orc_fuel, G_mkx, G_sub, G_fuel]
        rw [q0]
        simp only [Res.bind_ok, asB_bl, Bool.false_eq_true, if_false, q]
      simp only [D__law_like, Lp.start, List.map_cons, List.map_nil, List.length_cons, List.length_nil, List.replicate, List.cons_append, List.nil_append]
      rw [step_next (ρ1 := [.d (.dic kvs'), .d (.dic kvs), .no, .no]) (M1 := M) (by simp only [exs, ex, evf, evi, ev, evs, evo, evc, Lp.start, List.map_cons, List.map_nil, List.length_cons, List.length_nil, List.replicate, List.cons_append, List.nil_append, List.getElem?_cons_zero, List.getElem?_cons_succ, List.set_cons_succ, List.set_cons_zero, Res.bind_ok, Res.bind_exc, Res.fl_ok, Res.fl_exc, Flow.seq_next, Flow.seq_ret, Flow.seq_exc, Flow.seq_brk, Flow.seq_cnt, bltD, mthD, Res.of_some, fres_next, fres_ret, fres_exc, asB_bl, cmpD, binD, kindOf_int, kindOf_str, kindOf_non, kindOf_bl, kindOf_lst, kindOf_tup, kindOf_dic, isNon_int, isNon_str, isNon_non, isNon_bl, isNon_lst, isNon_tup, isNon_dic, Ty.sub, reduceCtorEq, decide_false, decide_true, Bool.or_false, Bool.false_or, Bool.or_true, Bool.true_or, Bool.and_false, Bool.false_and, Bool.and_true, Bool.true_and, con_ints, con_nons, con_bls, len0_L, len1_L, len2_L, len3_L, len4_L, len5_L, len6_L, con_strs, con_lsts, con_tups, con_dics, augD, lenD_str, lenD_lst, lenD_tup, lenD_dic, addD_int, subD_int, leD_int, ltD_int, leD_str, ltD_str, isD_non, Bool.not_true, Bool.not_false, Option.map_some, if_true, Bool.false_eq_true, if_false, storeAll, compF, bindT, setAll, TG'.slots, wipeF, change, pushIn, orc_call, orc_mkx, orc_sub, orc_fuel, G_mkx, G_sub, G_fuel])]
      rw [step_next (ρ1 := [.d (.dic kvs'), .d (.dic kvs), .no, .no]) (M1 := M) (by simp only [exs, ex, evf, evi, ev, evs, evo, evc, Lp.start, List.map_cons, List.map_nil, List.length_cons, List.length_nil, List.replicate, List.cons_append, List.nil_append, List.getElem?_cons_zero, List.getElem?_cons_succ, List.set_cons_succ, List.set_cons_zero, Res.bind_ok, Res.bind_exc, Res.fl_ok, Res.fl_exc, Flow.seq_next, Flow.seq_ret, Flow.seq_exc, Flow.seq_brk, Flow.seq_cnt, bltD, mthD, Res.of_some, fres_next, fres_ret, fres_exc, asB_bl, cmpD, binD, kindOf_int, kindOf_str, kindOf_non, kindOf_bl, kindOf_lst, kindOf_tup, kindOf_dic, isNon_int, isNon_str, isNon_non, isNon_bl, isNon_lst, isNon_tup, isNon_dic, Ty.sub, reduceCtorEq, decide_false, decide_true, Bool.or_false, Bool.false_or, Bool.or_true, Bool.true_or, Bool.and_false, Bool.false_and, Bool.and_true, Bool.true_and, con_ints, con_nons, con_bls, len0_L, len1_L, len2_L, len3_L, len4_L, len5_L, len6_L, con_strs, con_lsts, con_tups, con_dics, augD, lenD_str, lenD_lst, lenD_tup, lenD_dic, addD_int, subD_int, leD_int, ltD_int, leD_str, ltD_str, isD_non, Bool.not_true, Bool.not_false, Option.map_some, if_true, Bool.false_eq_true, if_false, storeAll, compF, bindT, setAll, TG'.slots, wipeF, change, pushIn, orc_call, orc_mkx, orc_sub, orc_fuel, G_mkx, G_sub, G_fuel])]
      rw [step_next (ρ1 := [.d (.dic kvs'), .d (.dic kvs), .no, .no]) (M1 := M) (by simp only [exs, ex, evf, evi, ev, evs, evo, evc, Lp.start, List.map_cons, List.map_nil, List.length_cons, List.length_nil, List.replicate, List.cons_append, List.nil_append, List.getElem?_cons_zero, List.getElem?_cons_succ, List.set_cons_succ, List.set_cons_zero, Res.bind_ok, Res.bind_exc, Res.fl_ok, Res.fl_exc, Flow.seq_next, Flow.seq_ret, Flow.seq_exc, Flow.seq_brk, Flow.seq_cnt, bltD, mthD, Res.of_some, fres_next, fres_ret, fres_exc, asB_bl, cmpD, binD, kindOf_int, kindOf_str, kindOf_non, kindOf_bl, kindOf_lst, kindOf_tup, kindOf_dic, isNon_int, isNon_str, isNon_non, isNon_bl, isNon_lst, isNon_tup, isNon_dic, Ty.sub, reduceCtorEq, decide_false, decide_true, Bool.or_false, Bool.false_or, Bool.or_true, Bool.true_or, Bool.and_false, Bool.false_and, Bool.and_true, Bool.true_and, con_ints, con_nons, con_bls, len0_L, len1_L, len2_L, len3_L, len4_L, len5_L, len6_L, con_strs, con_lsts, con_tups, con_dics, augD, lenD_str, lenD_lst, lenD_tup, lenD_dic, addD_int, subD_int, leD_int, ltD_int, leD_str, ltD_str, isD_non, Bool.not_true, Bool.not_false, Option.map_some, if_true, Bool.false_eq_true, if_false, storeAll, compF, bindT, setAll, TG'.slots, wipeF, change, pushIn, orc_call, orc_mkx, orc_sub, orc_fuel, G_mkx, G_sub, G_fuel])]
      rw [step_next (ρ1 := [.d (.dic kvs'), .d (.dic kvs), .no, .no]) (M1 := M) (by simp only [exs, ex, evf, evi, ev, evs, evo, evc, Lp.start, List.map_cons, List.map_nil, List.length_cons, List.length_nil, List.replicate, List.cons_append, List.nil_append, List.getElem?_cons_zero, List.getElem?_cons_succ, List.set_cons_succ, List.set_cons_zero, Res.bind_ok, Res.bind_exc, Res.fl_ok, Res.fl_exc, Flow.seq_next, Flow.seq_ret, Flow.seq_exc, Flow.seq_brk, Flow.seq_cnt, bltD, mthD, Res.of_some, fres_next, fres_ret, fres_exc, asB_bl, cmpD, binD, kindOf_int, kindOf_str, kindOf_non, kindOf_bl, kindOf_lst, kindOf_tup, kindOf_dic, isNon_int, isNon_str, isNon_non, isNon_bl, isNon_lst, isNon_tup, isNon_dic, Ty.sub, reduceCtorEq, decide_false, decide_true, Bool.or_false, Bool.false_or, Bool.or_true, Bool.true_or, Bool.and_false, Bool.false_and, Bool.and_true, Bool.true_and, con_ints, con_nons, con_bls, len0_L, len1_L, len2_L, len3_L, len4_L, len5_L, len6_L, con_strs, con_lsts, con_tups, con_dics, augD, lenD_str, lenD_lst, lenD_tup, lenD_dic, addD_int, subD_int, leD_int, ltD_int, leD_str, ltD_str, isD_non, Bool.not_true, Bool.not_false, Option.map_some, if_true, Bool.false_eq_true, if_false, storeAll, compF, bindT, setAll, TG'.slots, wipeF, change, pushIn, orc_call, orc_mkx, orc_sub, orc_fuel, G_mkx, G_sub, G_fuel])]
      have blk : exs (orc G k) (.cons (.ite (.or (.not (.isi (.var 0) .dict)) (.cmp .ne (.frz (.sorted (.var 0))) (.frz (.sorted (.var 1))))) (.cons (.ret (.c (.bl false))) .nil) .nil) (.cons (.ret (.blt .all (.frz (.compK (.name 2) 1 none (.call "_law_like" (.cons (.idx (.var 0) (.var 2)) (.cons (.idx (.var 1) (.var 2)) .nil)) []))))) .nil)) [.d (.dic kvs'), .d (.dic kvs), .no, .no] M = .ret (.bl true) M := by
        rw [step_next (ite_f e1 (fl := .next [.d (.dic kvs'), .d (.dic kvs), .no, .no] M) (by rw [exs]))]
        exact step_ret (ret_ok e2)
      exact congrArg Flow.res (a₂ := .ret (.bl true) M) (step_ret (ite_t e0 blk))
end K37

set_option Elab.async false
set_option linter.all false
set_option maxRecDepth 100000
set_option maxHeartbeats 2000000
namespace K37
open Lp
theorem look_nd : ∀ {l : List (DKey × D)}, (l.map fun p => p.1).Nodup → ∀ p ∈ l, dlook l p.1 = some p.2
  | [], _, p, hp => by cases hp
  | (k', d') :: r, nd, p, hp => by
    simp only [List.map_cons, List.nodup_cons] at nd
    unfold dlook
    rcases List.mem_cons.mp hp with rfl | hp
    · simp
    · rw [if_neg (fun e => nd.1 (List.mem_map.mpr ⟨p, hp, e.symm⟩))]
      exact look_nd nd.2 p hp
theorem sim_id : Sim id := ⟨rfl, fun _ => rfl, fun _ => rfl, fun xs => by simp, fun kvs hw nd => ⟨kvs, rfl, keyed_wf hw, rfl, fun p hp => look_nd nd p hp⟩⟩
theorem keyed_map {g : S → D} : ∀ l : List S, keyed (l.map fun k => (.inr k, g k)) = true
  | [] => rfl
  | k :: r => keyed_map r
theorem look_map {g : S → D} : ∀ {l : List S} {k : S}, k ∈ l → dlook (l.map fun k => ((.inr k : DKey), g k)) (.inr k) = some (g k)
  | s :: r, k, h => by
    rw [List.map_cons]
    unfold dlook
    by_cases e : s = k
    · subst e; simp
    · have ne : ¬ (Sum.inr s : DKey) = .inr k := fun z => e (by cases z; rfl)
      rw [if_neg ne]
      rcases List.mem_cons.mp h with h | h
      · exact absurd h.symm e
      · exact look_map h
theorem names_nodup {kvs : List (DKey × D)} (hkd : keyed kvs = true) (nd : (kvs.map fun p => p.1).Nodup) : (kvs.map fun p => kS p.1).Nodup := by
  have e : (kvs.map fun p => p.1) = (kvs.map fun p => kS p.1).map (Sum.inr : S → DKey) := by
    rw [List.map_map]
    apply List.map_congr_left
    intro p hp
    obtain ⟨s, es⟩ := keyed_inr hkd p hp
    show p.1 = Sum.inr (kS p.1)
    rw [es]; rfl
  rw [e] at nd
  exact List.Pairwise.of_map Sum.inr (fun a b h e => h (by rw [e])) nd
theorem sim_nm : Sim nm := by
  refine ⟨by rw [nm], fun _ => by rw [nm], fun _ => by rw [nm], nm_lst, fun kvs hw nd => ⟨_, nm_dic kvs, keyed_map _, ?_, fun p hp => ?_⟩⟩
  · rw [List.map_map]
    have : ((fun p : DKey × D => kS p.1) ∘ fun k : S => ((.inr k : DKey), lkD k (nmk kvs))) = id := rfl
    rw [this, List.map_id]
    exact sortS_id (strict_of (sortS_sorted _) ((sortS_perm _).nodup_iff.mpr (names_nodup (keyed_wf hw) nd)))
  · have hkd := keyed_wf hw
    obtain ⟨s, es⟩ := keyed_inr hkd p hp
    have hm : s ∈ kvs.map fun p => kS p.1 := List.mem_map.mpr ⟨p, hp, by rw [es]; rfl⟩
    obtain ⟨x, q1, _, q3, _⟩ := lk_nm hkd s hm
    have hx := look_nd nd p hp
    rw [es] at hx ⊢
    rw [q1] at hx
    cases hx
    rw [look_map (sortS_has hm), q3]
theorem cok_app {a b : S} (ha : cok a) (hb : cok b) : cok (a ++ b) := fun c hc => (List.mem_append.mp hc).elim (ha c) (hb c)
theorem cok_cons {c : Nat} {b : S} (h : c < 1114112) (hb : cok b) : cok (c :: b) := fun d hd => (List.mem_cons.mp hd).elim (fun e => by rw [e]; exact h) (hb d)
theorem cok_nil : cok [] := fun c hc => by cases hc
theorem cok_join : ∀ {ys : List S}, (∀ y ∈ ys, cok y) → cok (joinS [44] ys)
  | [], _ => cok_nil
  | y :: r, h => by
    by_cases e : r = []
    · subst e; exact h y List.mem_cons_self
    · rw [joinS_cons e]
      exact cok_app (cok_app (h y List.mem_cons_self) (cok_one (by decide))) (cok_join fun z hz => h z (List.mem_cons_of_mem _ hz))
theorem cok_int (i : Int) : cok (intText i) := by
  have key : ∀ m, cok (nT m) := fun m c hc => by
    have := List.all_eq_true.mp (nT_figs m) c hc
    unfold isFig at this
    simp only [Bool.and_eq_true, decide_eq_true_eq] at this
    omega
  by_cases h0 : 0 ≤ i
  · obtain ⟨m, rfl⟩ := Int.eq_ofNat_of_zero_le h0
    rw [intText_nat]; exact key m
  · obtain ⟨m, rfl⟩ : ∃ m : Nat, i = -((m + 1 : Nat) : Int) := ⟨i.natAbs - 1, by omega⟩
    rw [intText_neg']; exact cok_cons (by decide) (key _)
theorem cok_vT : ∀ (n : Nat) (d : D), wf d = true → dep d < n → cok (vT d)
  | 0, d, _, h => by omega
  | n + 1, d, hw, hd => by
    match d, hw, hd with
    | .non, _, _ => rw [vT_non]; exact cok_one (by decide)
    | .bl _, hw, _ => simp [wf] at hw
    | .tup _, hw, _ => simp [wf] at hw
    | .cell _, hw, _ => simp [wf] at hw
    | .int i, _, _ => rw [vT_int]; exact cok_int i
    | .str s, hw, _ => rw [vT_str]; exact cok_cons (by decide) (cok_app (text_cok (by simpa [wf] using hw)) (cok_one (by decide)))
    | .lst xs, hw, hd =>
      have hws : wfs xs = true := by simpa [wf] using hw
      have hds : deps xs < n := by simp only [dep] at hd; omega
      rw [vT_lst]
      refine cok_cons (by decide) (cok_app (cok_join fun y hy => ?_) (cok_one (by decide)))
      obtain ⟨x, hx, rfl⟩ := List.mem_map.mp hy
      exact cok_vT n x (wf_mem hws x hx) (Nat.lt_of_le_of_lt (deps_mem x hx) hds)
    | .dic kvs, hw, hd =>
      obtain ⟨hw2, nd⟩ := wf_dic hw
      have hds : depk kvs < n := by simp only [dep] at hd; omega
      have hkd := keyed_wf hw2
      rw [vT_dic]
      refine cok_cons (by decide) (cok_app (cok_join fun y hy => ?_) (cok_one (by decide)))
      obtain ⟨s, hs, rfl⟩ := List.mem_map.mp hy
      have hm := sortS_mem hs
      obtain ⟨x, _, h2, p, hp, e⟩ := lk_text hkd s hm
      obtain ⟨q, hq, eq⟩ := List.mem_map.mp hm
      rw [h2]
      subst e
      exact cok_app (by rw [← eq]; exact name_cok (wfk_mem hw2 q hq).2) (cok_cons (by decide) (cok_vT n p.2 (wfk_mem hw2 p hp).1 (Nat.lt_of_le_of_lt (depk_mem p hp) hds)))
theorem like_str (k : Nat) {s : S} {M : Mem} (h : cok s) : callN G (k+1) "_law_like" [.str s, .str s] M = .ok (.bl true) M := by
  rw [callN_run (d := D__law_like) rfl k _ _ rfl]
  have := eqD_str h h
  simp only [D__law_like, exs, ex, evf, evi, ev, evs, evo, evc, Lp.start, List.map_cons, List.map_nil, List.length_cons, List.length_nil, List.replicate, List.cons_append, List.nil_append, List.getElem?_cons_zero, List.getElem?_cons_succ, List.set_cons_succ, List.set_cons_zero, Res.bind_ok, Res.bind_exc, Res.fl_ok, Res.fl_exc, Flow.seq_next, Flow.seq_ret, Flow.seq_exc, Flow.seq_brk, Flow.seq_cnt, bltD, mthD, Res.of_some, fres_next, fres_ret, fres_exc, asB_bl, cmpD, binD, kindOf_int, kindOf_str, kindOf_non, kindOf_bl, kindOf_lst, kindOf_tup, kindOf_dic, isNon_int, isNon_str, isNon_non, isNon_bl, isNon_lst, isNon_tup, isNon_dic, Ty.sub, reduceCtorEq, decide_false, decide_true, Bool.or_false, Bool.false_or, Bool.or_true, Bool.true_or, Bool.and_false, Bool.false_and, Bool.and_true, Bool.true_and, con_ints, con_nons, con_bls, len0_L, len1_L, len2_L, len3_L, len4_L, len5_L, len6_L, con_strs, con_lsts, con_tups, con_dics, augD, lenD_str, lenD_lst, lenD_tup, lenD_dic, addD_int, subD_int, leD_int, ltD_int, leD_str, ltD_str, isD_non, Bool.not_true, Bool.not_false, Option.map_some, if_true, Bool.false_eq_true, if_false, storeAll, compF, bindT, setAll, TG'.slots, wipeF, change, pushIn, orc_call, orc_mkx, orc_sub, orc_fuel, G_mkx, G_sub, G_fuel, this]
theorem like_non (k : Nat) {M : Mem} : callN G (k+1) "_law_like" [.non, .non] M = .ok (.bl true) M := by
  rw [callN_run (d := D__law_like) rfl k _ _ rfl]
  simp only [D__law_like, exs, ex, evf, evi, ev, evs, evo, evc, Lp.start, List.map_cons, List.map_nil, List.length_cons, List.length_nil, List.replicate, List.cons_append, List.nil_append, List.getElem?_cons_zero, List.getElem?_cons_succ, List.set_cons_succ, List.set_cons_zero, Res.bind_ok, Res.bind_exc, Res.fl_ok, Res.fl_exc, Flow.seq_next, Flow.seq_ret, Flow.seq_exc, Flow.seq_brk, Flow.seq_cnt, bltD, mthD, Res.of_some, fres_next, fres_ret, fres_exc, asB_bl, cmpD, binD, kindOf_int, kindOf_str, kindOf_non, kindOf_bl, kindOf_lst, kindOf_tup, kindOf_dic, isNon_int, isNon_str, isNon_non, isNon_bl, isNon_lst, isNon_tup, isNon_dic, Ty.sub, reduceCtorEq, decide_false, decide_true, Bool.or_false, Bool.false_or, Bool.or_true, Bool.true_or, Bool.and_false, Bool.false_and, Bool.and_true, Bool.true_and, con_ints, con_nons, con_bls, len0_L, len1_L, len2_L, len3_L, len4_L, len5_L, len6_L, con_strs, con_lsts, con_tups, con_dics, augD, lenD_str, lenD_lst, lenD_tup, lenD_dic, addD_int, subD_int, leD_int, ltD_int, leD_str, ltD_str, isD_non, Bool.not_true, Bool.not_false, Option.map_some, if_true, Bool.false_eq_true, if_false, storeAll, compF, bindT, setAll, TG'.slots, wipeF, change, pushIn, orc_call, orc_mkx, orc_sub, orc_fuel, G_mkx, G_sub, G_fuel]
theorem like_pair (k : Nat) {d : D} {M : Mem} (hw : wf d = true) (hd : dep d + 2 ≤ k) (hl : (vT d).length ≤ L) : callN G (k+1) "_law_like" [.tup [nm d, .non], .tup [d, .non]] M = .ok (.bl true) M := by
  rw [callN_run (d := D__law_like) rfl k _ _ rfl]
  obtain ⟨j, rfl⟩ : ∃ j, k = j + 1 := ⟨k - 1, by omega⟩
  have h1 := c_like sim_nm (j+1) d M hw hd hl
  have h2 := like_non j (M := M)
  have i1 : idxD M (.tup [nm d, .non]) (.int 0) = some (nm d) := rfl
  have i2 : idxD M (.tup [nm d, .non]) (.int 1) = some .non := rfl
  have i3 : idxD M (.tup [d, .non]) (.int 0) = some d := rfl
  have i4 : idxD M (.tup [d, .non]) (.int 1) = some .non := rfl
  have hc : compGo (compF (.name 3) [.d (.tup [nm d, .non]), .d (.tup [d, .non]), .no, .no] (fun ρ1 M2 => evc (orc G (j+1)) none ρ1 M2) (fun ρ1 M2 => ev (orc G (j+1)) (.call "_law_like" (.cons (.idx (.var 0) (.var 3)) (.cons (.idx (.var 1) (.var 3)) .nil)) []) ρ1 M2)) [] [.int 0, .int 1] M = .ok [.bl true, .bl true] M := by
    have f0 : compF (.name 3) [.d (.tup [nm d, .non]), .d (.tup [d, .non]), .no, .no] (fun ρ1 M2 => evc (orc G (j+1)) none ρ1 M2) (fun ρ1 M2 => ev (orc G (j+1)) (.call "_law_like" (.cons (.idx (.var 0) (.var 3)) (.cons (.idx (.var 1) (.var 3)) .nil)) []) ρ1 M2) (.int 0) M = .ok (some (.bl true)) M := by
      simp only [exs, ex, evf, evi, ev, evs, evo, evc, Lp.start, List.map_cons, List.map_nil, List.length_cons, List.length_nil, List.replicate, List.cons_append, List.nil_append, List.getElem?_cons_zero, List.getElem?_cons_succ, List.set_cons_succ, List.set_cons_zero, Res.bind_ok, Res.bind_exc, Res.fl_ok, Res.fl_exc, Flow.seq_next, Flow.seq_ret, Flow.seq_exc, Flow.seq_brk, Flow.seq_cnt, bltD, mthD, Res.of_some, fres_next, fres_ret, fres_exc, asB_bl, cmpD, binD, kindOf_int, kindOf_str, kindOf_non, kindOf_bl, kindOf_lst, kindOf_tup, kindOf_dic, isNon_int, isNon_str, isNon_non, isNon_bl, isNon_lst, isNon_tup, isNon_dic, Ty.sub, reduceCtorEq, decide_false, decide_true, Bool.or_false, Bool.false_or, Bool.or_true, Bool.true_or, Bool.and_false, Bool.false_and, Bool.and_true, Bool.true_and, con_ints, con_nons, con_bls, len0_L, len1_L, len2_L, len3_L, len4_L, len5_L, len6_L, con_strs, con_lsts, con_tups, con_dics, augD, lenD_str, lenD_lst, lenD_tup, lenD_dic, addD_int, subD_int, leD_int, ltD_int, leD_str, ltD_str, isD_non, Bool.not_true, Bool.not_false, Option.map_some, if_true, Bool.false_eq_true, if_false, storeAll, compF, bindT, setAll, TG'.slots, wipeF, change, pushIn, orc_call, orc_mkx, orc_sub, orc_fuel, G_mkx, G_sub, G_fuel, i1, i3, h1]
    have f1 : compF (.name 3) [.d (.tup [nm d, .non]), .d (.tup [d, .non]), .no, .no] (fun ρ1 M2 => evc (orc G (j+1)) none ρ1 M2) (fun ρ1 M2 => ev (orc G (j+1)) (.call "_law_like" (.cons (.idx (.var 0) (.var 3)) (.cons (.idx (.var 1) (.var 3)) .nil)) []) ρ1 M2) (.int 1) M = .ok (some (.bl true)) M := by
      simp only [exs, ex, evf, evi, ev, evs, evo, evc, Lp.start, List.map_cons, List.map_nil, List.length_cons, List.length_nil, List.replicate, List.cons_append, List.nil_append, List.getElem?_cons_zero, List.getElem?_cons_succ, List.set_cons_succ, List.set_cons_zero, Res.bind_ok, Res.bind_exc, Res.fl_ok, Res.fl_exc, Flow.seq_next, Flow.seq_ret, Flow.seq_exc, Flow.seq_brk, Flow.seq_cnt, bltD, mthD, Res.of_some, fres_next, fres_ret, fres_exc, asB_bl, cmpD, binD, kindOf_int, kindOf_str, kindOf_non, kindOf_bl, kindOf_lst, kindOf_tup, kindOf_dic, isNon_int, isNon_str, isNon_non, isNon_bl, isNon_lst, isNon_tup, isNon_dic, Ty.sub, reduceCtorEq, decide_false, decide_true, Bool.or_false, Bool.false_or, Bool.or_true, Bool.true_or, Bool.and_false, Bool.false_and, Bool.and_true, Bool.true_and, con_ints, con_nons, con_bls, len0_L, len1_L, len2_L, len3_L, len4_L, len5_L, len6_L, con_strs, con_lsts, con_tups, con_dics, augD, lenD_str, lenD_lst, lenD_tup, lenD_dic, addD_int, subD_int, leD_int, ltD_int, leD_str, ltD_str, isD_non, Bool.not_true, Bool.not_false, Option.map_some, if_true, Bool.false_eq_true, if_false, storeAll, compF, bindT, setAll, TG'.slots, wipeF, change, pushIn, orc_call, orc_mkx, orc_sub, orc_fuel, G_mkx, G_sub, G_fuel, i2, i4, h2]
    rw [compGo, f0]
    simp only [List.length_nil, L_pos, if_true]
    rw [compGo, f1]
    have : ([] ++ [D.bl true] : List D).length < L := by decide
    simp only [this, if_true]
    rw [compGo]
    rfl
  have er : evi (orc G (j+1)) (.rng1 (.blt .len (.var 1))) [.d (.tup [nm d, .non]), .d (.tup [d, .non]), .no, .no] M = .ok [.int 0, .int 1] M := rfl
  have e2 := blt_ok (f := .all) (r := .bl true) (frz_ok (comp_ok er hc)) rfl
  have e1 : ev (orc G (j+1)) (.cmp .eq (.blt .len (.var 0)) (.blt .len (.var 1))) [.d (.tup [nm d, .non]), .d (.tup [d, .non]), .no, .no] M = .ok (.bl true) M := by
    simp only [exs, ex, evf, evi, ev, evs, evo, evc, Lp.start, List.map_cons, List.map_nil, List.length_cons, List.length_nil, List.replicate, List.cons_append, List.nil_append, List.getElem?_cons_zero, List.getElem?_cons_succ, List.set_cons_succ, List.set_cons_zero, Res.bind_ok, Res.bind_exc, Res.fl_ok, Res.fl_exc, Flow.seq_next, Flow.seq_ret, Flow.seq_exc, Flow.seq_brk, Flow.seq_cnt, bltD, mthD, Res.of_some, fres_next, fres_ret, fres_exc, asB_bl, cmpD, binD, kindOf_int, kindOf_str, kindOf_non, kindOf_bl, kindOf_lst, kindOf_tup, kindOf_dic, isNon_int, isNon_str, isNon_non, isNon_bl, isNon_lst, isNon_tup, isNon_dic, Ty.sub, reduceCtorEq, decide_false, decide_true, Bool.or_false, Bool.false_or, Bool.or_true, Bool.true_or, Bool.and_false, Bool.false_and, Bool.and_true, Bool.true_and, con_ints, con_nons, con_bls, len0_L, len1_L, len2_L, len3_L, len4_L, len5_L, len6_L, con_strs, con_lsts, con_tups, con_dics, augD, lenD_str, lenD_lst, lenD_tup, lenD_dic, addD_int, subD_int, leD_int, ltD_int, leD_str, ltD_str, isD_non, Bool.not_true, Bool.not_false, Option.map_some, if_true, Bool.false_eq_true, if_false, storeAll, compF, bindT, setAll, TG'.slots, wipeF, change, pushIn, orc_call, orc_mkx, orc_sub, orc_fuel, G_mkx, G_sub, G_fuel, eqD_int]
  simp only [D__law_like, Lp.start, List.map_cons, List.map_nil, List.length_cons, List.length_nil, List.replicate, List.cons_append, List.nil_append]
  rw [step_next (ρ1 := [.d (.tup [nm d, .non]), .d (.tup [d, .non]), .no, .no]) (M1 := M) (by simp only [exs, ex, evf, evi, ev, evs, evo, evc, Lp.start, List.map_cons, List.map_nil, List.length_cons, List.length_nil, List.replicate, List.cons_append, List.nil_append, List.getElem?_cons_zero, List.getElem?_cons_succ, List.set_cons_succ, List.set_cons_zero, Res.bind_ok, Res.bind_exc, Res.fl_ok, Res.fl_exc, Flow.seq_next, Flow.seq_ret, Flow.seq_exc, Flow.seq_brk, Flow.seq_cnt, bltD, mthD, Res.of_some, fres_next, fres_ret, fres_exc, asB_bl, cmpD, binD, kindOf_int, kindOf_str, kindOf_non, kindOf_bl, kindOf_lst, kindOf_tup, kindOf_dic, isNon_int, isNon_str, isNon_non, isNon_bl, isNon_lst, isNon_tup, isNon_dic, Ty.sub, reduceCtorEq, decide_false, decide_true, Bool.or_false, Bool.false_or, Bool.or_true, Bool.true_or, Bool.and_false, Bool.false_and, Bool.and_true, Bool.true_and, con_ints, con_nons, con_bls, len0_L, len1_L, len2_L, len3_L, len4_L, len5_L, len6_L, con_strs, con_lsts, con_tups, con_dics, augD, lenD_str, lenD_lst, lenD_tup, lenD_dic, addD_int, subD_int, leD_int, ltD_int, leD_str, ltD_str, isD_non, Bool.not_true, Bool.not_false, Option.map_some, if_true, Bool.false_eq_true, if_false, storeAll, compF, bindT, setAll, TG'.slots, wipeF, change, pushIn, orc_call, orc_mkx, orc_sub, orc_fuel, G_mkx, G_sub, G_fuel])]
  rw [step_next (ρ1 := [.d (.tup [nm d, .non]), .d (.tup [d, .non]), .no, .no]) (M1 := M) (by simp only [exs, ex, evf, evi, ev, evs, evo, evc, Lp.start, List.map_cons, List.map_nil, List.length_cons, List.length_nil, List.replicate, List.cons_append, List.nil_append, List.getElem?_cons_zero, List.getElem?_cons_succ, List.set_cons_succ, List.set_cons_zero, Res.bind_ok, Res.bind_exc, Res.fl_ok, Res.fl_exc, Flow.seq_next, Flow.seq_ret, Flow.seq_exc, Flow.seq_brk, Flow.seq_cnt, bltD, mthD, Res.of_some, fres_next, fres_ret, fres_exc, asB_bl, cmpD, binD, kindOf_int, kindOf_str, kindOf_non, kindOf_bl, kindOf_lst, kindOf_tup, kindOf_dic, isNon_int, isNon_str, isNon_non, isNon_bl, isNon_lst, isNon_tup, isNon_dic, Ty.sub, reduceCtorEq, decide_false, decide_true, Bool.or_false, Bool.false_or, Bool.or_true, Bool.true_or, Bool.and_false, Bool.false_and, Bool.and_true, Bool.true_and, con_ints, con_nons, con_bls, len0_L, len1_L, len2_L, len3_L, len4_L, len5_L, len6_L, con_strs, con_lsts, con_tups, con_dics, augD, lenD_str, lenD_lst, lenD_tup, lenD_dic, addD_int, subD_int, leD_int, ltD_int, leD_str, ltD_str, isD_non, Bool.not_true, Bool.not_false, Option.map_some, if_true, Bool.false_eq_true, if_false, storeAll, compF, bindT, setAll, TG'.slots, wipeF, change, pushIn, orc_call, orc_mkx, orc_sub, orc_fuel, G_mkx, G_sub, G_fuel])]
  rw [step_next (ρ1 := [.d (.tup [nm d, .non]), .d (.tup [d, .non]), .no, .no]) (M1 := M) (by simp only [exs, ex, evf, evi, ev, evs, evo, evc, Lp.start, List.map_cons, List.map_nil, List.length_cons, List.length_nil, List.replicate, List.cons_append, List.nil_append, List.getElem?_cons_zero, List.getElem?_cons_succ, List.set_cons_succ, List.set_cons_zero, Res.bind_ok, Res.bind_exc, Res.fl_ok, Res.fl_exc, Flow.seq_next, Flow.seq_ret, Flow.seq_exc, Flow.seq_brk, Flow.seq_cnt, bltD, mthD, Res.of_some, fres_next, fres_ret, fres_exc, asB_bl, cmpD, binD, kindOf_int, kindOf_str, kindOf_non, kindOf_bl, kindOf_lst, kindOf_tup, kindOf_dic, isNon_int, isNon_str, isNon_non, isNon_bl, isNon_lst, isNon_tup, isNon_dic, Ty.sub, reduceCtorEq, decide_false, decide_true, Bool.or_false, Bool.false_or, Bool.or_true, Bool.true_or, Bool.and_false, Bool.false_and, Bool.and_true, Bool.true_and, con_ints, con_nons, con_bls, len0_L, len1_L, len2_L, len3_L, len4_L, len5_L, len6_L, con_strs, con_lsts, con_tups, con_dics, augD, lenD_str, lenD_lst, lenD_tup, lenD_dic, addD_int, subD_int, leD_int, ltD_int, leD_str, ltD_str, isD_non, Bool.not_true, Bool.not_false, Option.map_some, if_true, Bool.false_eq_true, if_false, storeAll, compF, bindT, setAll, TG'.slots, wipeF, change, pushIn, orc_call, orc_mkx, orc_sub, orc_fuel, G_mkx, G_sub, G_fuel])]
  rw [step_next (ρ1 := [.d (.tup [nm d, .non]), .d (.tup [d, .non]), .no, .no]) (M1 := M) (by simp only [exs, ex, evf, evi, ev, evs, evo, evc, Lp.start, List.map_cons, List.map_nil, List.length_cons, List.length_nil, List.replicate, List.cons_append, List.nil_append, List.getElem?_cons_zero, List.getElem?_cons_succ, List.set_cons_succ, List.set_cons_zero, Res.bind_ok, Res.bind_exc, Res.fl_ok, Res.fl_exc, Flow.seq_next, Flow.seq_ret, Flow.seq_exc, Flow.seq_brk, Flow.seq_cnt, bltD, mthD, Res.of_some, fres_next, fres_ret, fres_exc, asB_bl, cmpD, binD, kindOf_int, kindOf_str, kindOf_non, kindOf_bl, kindOf_lst, kindOf_tup, kindOf_dic, isNon_int, isNon_str, isNon_non, isNon_bl, isNon_lst, isNon_tup, isNon_dic, Ty.sub, reduceCtorEq, decide_false, decide_true, Bool.or_false, Bool.false_or, Bool.or_true, Bool.true_or, Bool.and_false, Bool.false_and, Bool.and_true, Bool.true_and, con_ints, con_nons, con_bls, len0_L, len1_L, len2_L, len3_L, len4_L, len5_L, len6_L, con_strs, con_lsts, con_tups, con_dics, augD, lenD_str, lenD_lst, lenD_tup, lenD_dic, addD_int, subD_int, leD_int, ltD_int, leD_str, ltD_str, isD_non, Bool.not_true, Bool.not_false, Option.map_some, if_true, Bool.false_eq_true, if_false, storeAll, compF, bindT, setAll, TG'.slots, wipeF, change, pushIn, orc_call, orc_mkx, orc_sub, orc_fuel, G_mkx, G_sub, G_fuel])]
  rw [step_next (ρ1 := [.d (.tup [nm d, .non]), .d (.tup [d, .non]), .no, .no]) (M1 := M) (by simp only [exs, ex, evf, evi, ev, evs, evo, evc, Lp.start, List.map_cons, List.map_nil, List.length_cons, List.length_nil, List.replicate, List.cons_append, List.nil_append, List.getElem?_cons_zero, List.getElem?_cons_succ, List.set_cons_succ, List.set_cons_zero, Res.bind_ok, Res.bind_exc, Res.fl_ok, Res.fl_exc, Flow.seq_next, Flow.seq_ret, Flow.seq_exc, Flow.seq_brk, Flow.seq_cnt, bltD, mthD, Res.of_some, fres_next, fres_ret, fres_exc, asB_bl, cmpD, binD, kindOf_int, kindOf_str, kindOf_non, kindOf_bl, kindOf_lst, kindOf_tup, kindOf_dic, isNon_int, isNon_str, isNon_non, isNon_bl, isNon_lst, isNon_tup, isNon_dic, Ty.sub, reduceCtorEq, decide_false, decide_true, Bool.or_false, Bool.false_or, Bool.or_true, Bool.true_or, Bool.and_false, Bool.false_and, Bool.and_true, Bool.true_and, con_ints, con_nons, con_bls, len0_L, len1_L, len2_L, len3_L, len4_L, len5_L, len6_L, con_strs, con_lsts, con_tups, con_dics, augD, lenD_str, lenD_lst, lenD_tup, lenD_dic, addD_int, subD_int, leD_int, ltD_int, leD_str, ltD_str, isD_non, Bool.not_true, Bool.not_false, Option.map_some, if_true, Bool.false_eq_true, if_false, storeAll, compF, bindT, setAll, TG'.slots, wipeF, change, pushIn, orc_call, orc_mkx, orc_sub, orc_fuel, G_mkx, G_sub, G_fuel])]
  rw [step_next (ρ1 := [.d (.tup [nm d, .non]), .d (.tup [d, .non]), .no, .no]) (M1 := M) (by simp only [exs, ex, evf, evi, ev, evs, evo, evc, Lp.start, List.map_cons, List.map_nil, List.length_cons, List.length_nil, List.replicate, List.cons_append, List.nil_append, List.getElem?_cons_zero, List.getElem?_cons_succ, List.set_cons_succ, List.set_cons_zero, Res.bind_ok, Res.bind_exc, Res.fl_ok, Res.fl_exc, Flow.seq_next, Flow.seq_ret, Flow.seq_exc, Flow.seq_brk, Flow.seq_cnt, bltD, mthD, Res.of_some, fres_next, fres_ret, fres_exc, asB_bl, cmpD, binD, kindOf_int, kindOf_str, kindOf_non, kindOf_bl, kindOf_lst, kindOf_tup, kindOf_dic, isNon_int, isNon_str, isNon_non, isNon_bl, isNon_lst, isNon_tup, isNon_dic, Ty.sub, reduceCtorEq, decide_false, decide_true, Bool.or_false, Bool.false_or, Bool.or_true, Bool.true_or, Bool.and_false, Bool.false_and, Bool.and_true, Bool.true_and, con_ints, con_nons, con_bls, len0_L, len1_L, len2_L, len3_L, len4_L, len5_L, len6_L, con_strs, con_lsts, con_tups, con_dics, augD, lenD_str, lenD_lst, lenD_tup, lenD_dic, addD_int, subD_int, leD_int, ltD_int, leD_str, ltD_str, isD_non, Bool.not_true, Bool.not_false, Option.map_some, if_true, Bool.false_eq_true, if_false, storeAll, compF, bindT, setAll, TG'.slots, wipeF, change, pushIn, orc_call, orc_mkx, orc_sub, orc_fuel, G_mkx, G_sub, G_fuel, eqD_bl])]
  exact congrArg Flow.res (a₂ := .ret (.bl true) M) (step_ret (ret_ok (and_ok e1 e2)))
end K37

set_option Elab.async false
set_option linter.all false
set_option maxRecDepth 100000
set_option maxHeartbeats 2000000
namespace K37
open Lp
def S0 : SX := (.set 1 (.call "_law_open" (.cons (.var 0) .nil) []))
def S1 : SX := (.forr (.name 2) (.rng1 (.c (.int 5))) (.cons (.set 5 (.call "_law_value" (.cons (.var 1) (.cons (.c (.int 3)) .nil)) [])) (.cons (.set 6 (.call "_law_copy" (.cons (.var 5) .nil) [])) (.cons (.set 7 (.call "write_value" (.cons (.var 6) .nil) [])) (.cons (.ite (.or (.not (.call "_law_like" (.cons (.var 7) (.cons (.call "_law_text" (.cons (.var 5) .nil) []) .nil)) [])) (.not (.call "_law_like" (.cons (.var 6) (.cons (.var 5) .nil)) []))) (.cons (.ret (.c (.bl false))) .nil) .nil) (.cons (.ite (.not (.call "_law_like" (.cons (.call "_law_row_of" (.cons (.var 7) .nil) []) (.cons (.tup (.cons (.var 5) (.cons (.c .non) .nil))) .nil)) [])) (.cons (.ret (.c (.bl false))) .nil) .nil) (.cons (.forr (.name 8) (.rng1 (.bin .add (.c (.int 1)) (.call "_law_pull" (.cons (.var 1) (.cons (.c (.int 2)) .nil)) []))) (.cons (.set 9 (.call "_law_pull" (.cons (.var 1) (.cons (.bin .add (.blt .len (.var 7)) (.c (.int 1))) .nil)) [])) (.cons (.set 10 (.call "_law_any" (.cons (.var 1) (.cons (.frz (.lst (.cons (.c (.str [])) (.cons (.c (.str [45])) (.cons (.c (.str [39])) (.cons (.c (.str [91])) (.cons (.c (.str [93])) (.cons (.c (.str [123])) (.cons (.c (.str [125])) (.cons (.c (.str [44])) (.cons (.c (.str [58])) (.cons (.c (.str [48])) (.cons (.c (.str [55])) (.cons (.c (.str [97])) (.cons (.c (.str [65])) (.cons (.c (.str [32])) (.cons (.c (.str [10])) (.cons (.c (.str [126])) .nil)))))))))))))))))) .nil)) [])) (.cons (.set 7 (.bin .add (.bin .add (.slc (.var 7) none (some (.var 9))) (.var 10)) (.slc (.var 7) (some (.bin .add (.var 9) (.call "_law_pull" (.cons (.var 1) (.cons (.c (.int 2)) .nil)) []))) none))) .nil)))) (.cons (.unpack [.name 11, .name 12] (.call "_law_row_of" (.cons (.var 7) .nil) [])) (.cons (.ite (.and (.cmp .isn (.var 12) (.c .non)) (.or (.not (.call "_law_value_ok" (.cons (.var 11) .nil) [])) (.cmp .ne (.call "write_value" (.cons (.var 11) .nil) []) (.var 7)))) (.cons (.ret (.c (.bl false))) .nil) .nil) (.cons (.ite (.and (.cmp .notn (.var 12) (.c .non)) (.cmp .ne (.var 12) (.c (.int 0)))) (.cons (.ret (.c (.bl false))) .nil) .nil) .nil))))))))))
def S2 : SX := (.set 3 (.frz (.lst (.cons (.c (.str [])) (.cons (.c (.str [48, 48])) (.cons (.c (.str [45, 48])) (.cons (.c (.str [43, 49])) (.cons (.c (.str [48, 49])) (.cons (.c (.str [49, 32])) (.cons (.c (.str [32, 49])) (.cons (.c (.str [91, 49, 44, 93])) (.cons (.c (.str [91, 44, 93])) (.cons (.c (.str [123, 97, 58, 49, 44, 125])) (.cons (.c (.str [123, 98, 58, 49, 44, 97, 58, 50, 125])) (.cons (.c (.str [123, 97, 58, 49, 44, 97, 58, 49, 125])) (.cons (.c (.str [39])) (.cons (.c (.str [39, 39, 39, 32])) (.cons (.c (.str [45, 45])) .nil))))))))))))))))))
def S3 : SX := (.set 3 (.frz (.cat (.var 3) (.frz (.lst (.cons (.bin .mul (.c (.str [49])) (.c (.int 31))) (.cons (.c (.str [91, 49])) (.cons (.c (.str [93])) (.cons (.c (.str [123, 97, 125])) (.cons (.c (.str [123, 58, 49, 125])) (.cons (.c (.str [123, 97, 58, 125])) (.cons (.c (.str [123, 65, 58, 49, 125])) (.cons (.c (.str [39, 65, 39])) (.cons (.c (.str [39, 97, 98, 99, 100, 101, 102, 103, 104, 105, 106, 107, 108, 109, 39])) .nil))))))))))))))
def S4 : SX := (.set 3 (.frz (.cat (.var 3) (.frz (.lst (.cons (.c (.str [91, 49, 32, 50, 93])) (.cons (.c (.str [78, 111, 110, 101])) (.cons (.c (.str [91, 91, 93])) (.cons (.c (.str [123, 97, 58, 91, 125])) (.cons (.bin .add (.bin .mul (.c (.str [91])) (.c (.int 42))) (.bin .mul (.c (.str [93])) (.c (.int 42)))) (.cons (.bin .mul (.c (.str [91])) (.c (.int 9999))) (.cons (.bin .add (.bin .add (.bin .mul (.c (.str [123, 97, 58])) (.c (.int 60))) (.c (.str [49]))) (.bin .mul (.c (.str [125])) (.c (.int 60)))) .nil))))))))))))
def S5 : SX := (.set 4 (.call "read_value" (.cons (.bin .add (.bin .mul (.c (.str [91])) (.c (.int 41))) (.bin .mul (.c (.str [93])) (.c (.int 41)))) .nil) []))
def S6 : SX := (.ite (.cmp .ne (.call "write_value" (.cons (.var 4) .nil) []) (.bin .add (.bin .mul (.c (.str [91])) (.c (.int 41))) (.bin .mul (.c (.str [93])) (.c (.int 41))))) (.cons (.ret (.c (.bl false))) .nil) .nil)
def S7 : SX := (.ret (.cmp .eq (.frz (.comp (.name 7) (.seq (.var 3)) none (.call "_law_row_of" (.cons (.var 7) .nil) []))) (.frz (.rep (.frz (.lst (.cons (.tup (.cons (.c .non) (.cons (.c (.int 0)) .nil))) .nil))) (.blt .len (.var 3))))))
def T0 : SX := (.set 5 (.call "_law_value" (.cons (.var 1) (.cons (.c (.int 3)) .nil)) []))
def T1 : SX := (.set 6 (.call "_law_copy" (.cons (.var 5) .nil) []))
def T2 : SX := (.set 7 (.call "write_value" (.cons (.var 6) .nil) []))
def T3 : SX := (.ite (.or (.not (.call "_law_like" (.cons (.var 7) (.cons (.call "_law_text" (.cons (.var 5) .nil) []) .nil)) [])) (.not (.call "_law_like" (.cons (.var 6) (.cons (.var 5) .nil)) []))) (.cons (.ret (.c (.bl false))) .nil) .nil)
def T4 : SX := (.ite (.not (.call "_law_like" (.cons (.call "_law_row_of" (.cons (.var 7) .nil) []) (.cons (.tup (.cons (.var 5) (.cons (.c .non) .nil))) .nil)) [])) (.cons (.ret (.c (.bl false))) .nil) .nil)
def T5 : SX := (.forr (.name 8) (.rng1 (.bin .add (.c (.int 1)) (.call "_law_pull" (.cons (.var 1) (.cons (.c (.int 2)) .nil)) []))) (.cons (.set 9 (.call "_law_pull" (.cons (.var 1) (.cons (.bin .add (.blt .len (.var 7)) (.c (.int 1))) .nil)) [])) (.cons (.set 10 (.call "_law_any" (.cons (.var 1) (.cons (.frz (.lst (.cons (.c (.str [])) (.cons (.c (.str [45])) (.cons (.c (.str [39])) (.cons (.c (.str [91])) (.cons (.c (.str [93])) (.cons (.c (.str [123])) (.cons (.c (.str [125])) (.cons (.c (.str [44])) (.cons (.c (.str [58])) (.cons (.c (.str [48])) (.cons (.c (.str [55])) (.cons (.c (.str [97])) (.cons (.c (.str [65])) (.cons (.c (.str [32])) (.cons (.c (.str [10])) (.cons (.c (.str [126])) .nil)))))))))))))))))) .nil)) [])) (.cons (.set 7 (.bin .add (.bin .add (.slc (.var 7) none (some (.var 9))) (.var 10)) (.slc (.var 7) (some (.bin .add (.var 9) (.call "_law_pull" (.cons (.var 1) (.cons (.c (.int 2)) .nil)) []))) none))) .nil))))
def T6 : SX := (.unpack [.name 11, .name 12] (.call "_law_row_of" (.cons (.var 7) .nil) []))
def T7 : SX := (.ite (.and (.cmp .isn (.var 12) (.c .non)) (.or (.not (.call "_law_value_ok" (.cons (.var 11) .nil) [])) (.cmp .ne (.call "write_value" (.cons (.var 11) .nil) []) (.var 7)))) (.cons (.ret (.c (.bl false))) .nil) .nil)
def T8 : SX := (.ite (.and (.cmp .notn (.var 12) (.c .non)) (.cmp .ne (.var 12) (.c (.int 0)))) (.cons (.ret (.c (.bl false))) .nil) .nil)
def B0 : SX := (.set 9 (.call "_law_pull" (.cons (.var 1) (.cons (.bin .add (.blt .len (.var 7)) (.c (.int 1))) .nil)) []))
def B1 : SX := (.set 10 (.call "_law_any" (.cons (.var 1) (.cons (.frz (.lst (.cons (.c (.str [])) (.cons (.c (.str [45])) (.cons (.c (.str [39])) (.cons (.c (.str [91])) (.cons (.c (.str [93])) (.cons (.c (.str [123])) (.cons (.c (.str [125])) (.cons (.c (.str [44])) (.cons (.c (.str [58])) (.cons (.c (.str [48])) (.cons (.c (.str [55])) (.cons (.c (.str [97])) (.cons (.c (.str [65])) (.cons (.c (.str [32])) (.cons (.c (.str [10])) (.cons (.c (.str [126])) .nil)))))))))))))))))) .nil)) []))
def B2 : SX := (.set 7 (.bin .add (.bin .add (.slc (.var 7) none (some (.var 9))) (.var 10)) (.slc (.var 7) (some (.bin .add (.var 9) (.call "_law_pull" (.cons (.var 1) (.cons (.c (.int 2)) .nil)) []))) none)))
def BBs : SXs := .cons B0 (.cons B1 (.cons B2 .nil))
def T5' : SX := .forr (.name 8) (.rng1 (.bin .add (.c (.int 1)) (.call "_law_pull" (.cons (.var 1) (.cons (.c (.int 2)) .nil)) []))) BBs
def LB : SXs := .cons T0 (.cons T1 (.cons T2 (.cons T3 (.cons T4 (.cons T5' (.cons T6 (.cons T7 (.cons T8 .nil))))))))
def S1' : SX := .forr (.name 2) (.rng1 (.c (.int 5))) LB
def D_law' : Def := ⟨1, 13, .cons S0 (.cons S1' (.cons S2 (.cons S3 (.cons S4 (.cons S5 (.cons S6 (.cons S7 .nil)))))))⟩
theorem slc_from {t : S} {a : Nat} (ht : t.length ≤ L) : slcD (.str t) (some (a : Int)) none = some (.str (t.drop a)) := by
  show (if t.length ≤ L then some (D.str (cutL t (some (a : Int)) none)) else none) = _
  rw [if_pos ht]
  unfold cutL
  rw [sEnd_nat]
  show some (D.str ((t.drop (min a t.length)).take (t.length - min a t.length))) = _
  congr 2
  by_cases h : a ≤ t.length
  · rw [Nat.min_eq_left h, List.take_of_length_le (by rw [List.length_drop]; omega)]
  · rw [Nat.min_eq_right (by omega), List.drop_eq_nil_of_le (by omega), List.drop_eq_nil_of_le (show t.length ≤ a by omega)]
    simp
section
variable {j : Nat} {x0 x2 x3 x4 x5 x6 x8 x9 x10 x11 x12 : Sl}
theorem bend_step {t : S} {M : Mem} (g : Good M) (hc : cok t) (hl : t.length ≤ 2000) : ∃ t' s9 s10 M', exs (orc G (j+2)) BBs [x0, .d (.cell 0), x2, x3, x4, x5, x6, .d (.str t), x8, x9, x10, x11, x12] M = .next [x0, .d (.cell 0), x2, x3, x4, x5, x6, .d (.str t'), x8, s9, s10, x11, x12] M' ∧ Good M' ∧ cok t' ∧ t'.length ≤ t.length + 1 := by
  have hL : L = 16777216 := rfl
  have ht : t.length ≤ L := by omega
  obtain ⟨a, M1, e1, a0, a1, g1⟩ := pull_ok (j+1) (top := (t.length : Int) + 1) g (by omega) (by omega)
  obtain ⟨y, M2, e2, hy, g2⟩ := any_ok j (xs := [.str [], .str [45], .str [39], .str [91], .str [93], .str [123], .str [125], .str [44], .str [58], .str [48], .str [55], .str [97], .str [65], .str [32], .str [10], .str [126]]) g1 (by simp) (by simp)
  have hs : ∃ s, y = .str s ∧ s.length ≤ 1 ∧ cok s := by
    simp only [List.mem_cons, List.not_mem_nil, or_false] at hy
    rcases hy with rfl | rfl | rfl | rfl | rfl | rfl | rfl | rfl | rfl | rfl | rfl | rfl | rfl | rfl | rfl | rfl
    · exact ⟨_, rfl, by decide, cok_nil⟩
    all_goals exact ⟨_, rfl, by decide, cok_one (by decide)⟩
  obtain ⟨s, rfl, hs1, hs2⟩ := hs
  obtain ⟨b, M3, e3, b0, b1, g3⟩ := pull_ok (j+1) (top := 2) g2 (by decide) (by decide)
  obtain ⟨n, rfl⟩ := Int.eq_ofNat_of_zero_le a0
  obtain ⟨m, rfl⟩ := Int.eq_ofNat_of_zero_le b0
  have q1 := cut_to (s := t) (m := (n : Int)) ht (by omega)
  rw [Int.toNat_natCast] at q1
  have q2 := slc_from (t := t) (a := n + m) ht
  have q2' : slcD (.str t) (some ((n : Int) + (m : Int))) none = some (.str (t.drop (n + m))) := by rw [← Int.natCast_add]; exact q2
  have l1 : (t.take n).length ≤ t.length := by rw [List.length_take]; omega
  have l2 : (t.drop (n + m)).length ≤ t.length - n := by rw [List.length_drop]; omega
  have l3 : (t.take n).length ≤ n := by rw [List.length_take]; omega
  have a1' : addD (.str (t.take n)) (.str s) = some (.str (t.take n ++ s)) := by rw [addD_str, if_pos (by omega)]
  have a2' : addD (.str (t.take n ++ s)) (.str (t.drop (n + m))) = some (.str (t.take n ++ s ++ t.drop (n + m))) := by
    rw [addD_str, if_pos (by rw [List.length_append]; omega)]
  have cf : cok (t.take n ++ s ++ t.drop (n + m)) := cok_app (cok_app (cok_take hc n) hs2) (cok_drop hc _)
  have lf : (t.take n ++ s ++ t.drop (n + m)).length ≤ t.length + 1 := by
    rw [List.length_append, List.length_append]; omega
  generalize t.take n ++ s ++ t.drop (n + m) = u at *
  generalize t.take n ++ s = u1 at *
  refine ⟨u, .d (.int (n : Int)), .d (.str s), M3, ?_, g3, cf, lf⟩
  have l16 : (0 + 1 + 1 + 1 + 1 + 1 + 1 + 1 + 1 + 1 + 1 + 1 + 1 + 1 + 1 + 1 + 1 ≤ L) = True := eq_true (by decide)
  simp only [BBs, B0, B1, B2, exs, ex, evf, evi, ev, evs, evo, evc, Lp.start, List.map_cons, List.map_nil, List.length_cons, List.length_nil, List.replicate, List.cons_append, List.nil_append, List.getElem?_cons_zero, List.getElem?_cons_succ, List.set_cons_succ, List.set_cons_zero, Res.bind_ok, Res.bind_exc, Res.fl_ok, Res.fl_exc, Flow.seq_next, Flow.seq_ret, Flow.seq_exc, Flow.seq_brk, Flow.seq_cnt, bltD, mthD, Res.of_some, fres_next, fres_ret, fres_exc, asB_bl, cmpD, binD, kindOf_int, kindOf_str, kindOf_non, kindOf_bl, kindOf_lst, kindOf_tup, kindOf_dic, isNon_int, isNon_str, isNon_non, isNon_bl, isNon_lst, isNon_tup, isNon_dic, Ty.sub, reduceCtorEq, decide_false, decide_true, Bool.or_false, Bool.false_or, Bool.or_true, Bool.true_or, Bool.and_false, Bool.false_and, Bool.and_true, Bool.true_and, con_ints, con_nons, con_bls, len0_L, len1_L, len2_L, len3_L, len4_L, len5_L, len6_L, con_strs, con_lsts, con_tups, con_dics, augD, lenD_str, lenD_lst, lenD_tup, lenD_dic, addD_int, subD_int, leD_int, ltD_int, leD_str, ltD_str, isD_non, Bool.not_true, Bool.not_false, Option.map_some, if_true, Bool.false_eq_true, if_false, storeAll, compF, bindT, setAll, TG'.slots, wipeF, change, pushIn, orc_call, orc_mkx, orc_sub, orc_fuel, G_mkx, G_sub, G_fuel, if_pos ht, e1, l16, e2, e3, q1, q2', a1', a2']
theorem bends : ∀ (xs : List D) (t : S) (s8 s9 s10 : Sl) (M : Mem), Good M → cok t → t.length + xs.length ≤ 2000 → ∃ t' s8' s9' s10' M', forGo (fun x ρ M => match bindT (.name 8) x ρ with
        | none => .stuck
        | some ρ1 => exs (orc G (j+2)) BBs ρ1 M) xs [x0, .d (.cell 0), x2, x3, x4, x5, x6, .d (.str t), s8, s9, s10, x11, x12] M = .next [x0, .d (.cell 0), x2, x3, x4, x5, x6, .d (.str t'), s8', s9', s10', x11, x12] M' ∧ Good M' ∧ cok t' ∧ t'.length ≤ t.length + xs.length
  | [], t, s8, s9, s10, M, g, hc, hl => ⟨t, s8, s9, s10, M, rfl, g, hc, Nat.le_refl _⟩
  | x :: r, t, s8, s9, s10, M, g, hc, hl => by
    simp only [List.length_cons] at hl
    obtain ⟨t1, s9', s10', M1, e1, g1, c1, l1⟩ := bend_step (j := j) (x0 := x0) (x2 := x2) (x3 := x3) (x4 := x4) (x5 := x5) (x6 := x6) (x8 := .d x) (x9 := s9) (x10 := s10) (x11 := x11) (x12 := x12) g hc (by omega)
    obtain ⟨t2, a8, a9, a10, M2, e2, g2, c2, l2⟩ := bends r t1 (.d x) s9' s10' M1 g1 c1 (by omega)
    refine ⟨t2, a8, a9, a10, M2, ?_, g2, c2, by simp only [List.length_cons]; omega⟩
    rw [forGo]
    show (match exs (orc G (j+2)) BBs [x0, .d (.cell 0), x2, x3, x4, x5, x6, .d (.str t), .d x, s9, s10, x11, x12] M with
      | .next ρ1 M1 => forGo _ r ρ1 M1
      | .cnt ρ1 M1 => forGo _ r ρ1 M1
      | .brk ρ1 M1 => .next ρ1 M1
      | .ret d M1 => .ret d M1
      | .exc x ρ1 M1 => .exc x ρ1 M1
      | .stuck => .stuck) = _
    rw [e1]
    exact e2
theorem turn {M : Mem} {x7 : Sl} (g : Good M) : ∃ y5 y6 y7 y8 y9 y10 y11 y12 M', exs (orc G 149) LB [x0, .d (.cell 0), x2, x3, x4, x5, x6, x7, x8, x9, x10, x11, x12] M = .next [x0, .d (.cell 0), x2, x3, x4, y5, y6, y7, y8, y9, y10, y11, y12] M' ∧ Good M' := by
  have hL : L = 16777216 := rfl
  obtain ⟨d, M1, e1, ⟨hw, hd, hl⟩, g1⟩ := value_ok 3 149 (by decide) (by decide) M g
  have e1' : callN G 149 "_law_value" [.cell 0, .int 3] M = .ok d M1 := e1
  have hb : bnd 3 ≤ 1900 := by decide
  have hl' : (vT d).length ≤ L := by omega
  have hck := cok_vT 4 d hw (by omega)
  have e2 := c_copy 149 d M1 hw (by omega) hl'
  have e3 := c_write_value 148 d M1 hw (by omega) hl'
  have e4 := c__law_text 149 d M1 hw (by omega) hl'
  have e5 := like_str 148 (M := M1) hck
  have e6 := c_like sim_id 149 d M1 hw (by omega) hl'
  have e6' : callN G 149 "_law_like" [d, d] M1 = .ok (.bl true) M1 := e6
  have e7 := c_row_of 148 (by decide) (vT d) M1 (by omega) hck
  rw [readV_of hw (by omega) hl'] at e7
  have e7' : callN G 149 "_law_row_of" [.str (vT d)] M1 = .ok (.tup [nm d, .non]) M1 := e7
  have e8 := like_pair 148 (M := M1) hw (by omega) hl'
  obtain ⟨r, M2, e9, r0, r1, g2⟩ := pull_ok 148 (top := 2) g1 (by decide) (by decide)
  obtain ⟨xs, e10, l10⟩ := rng0 (r := 1 + r) (by omega) (by omega)
  obtain ⟨t, s8, s9, s10, M3, e11, g3, c3, l3⟩ := bends (j := 147) (x0 := x0) (x2 := x2) (x3 := x3) (x4 := x4) (x5 := .d d) (x6 := .d d) (x11 := x11) (x12 := x12) xs (vT d) x8 x9 x10 M2 g2 hck (by omega)
  have ht : t.length < L := by omega
  have e12 := c_row_of 148 (by decide) t M3 ht c3
  unfold LB
  rw [step_next (ρ1 := [x0, .d (.cell 0), x2, x3, x4, .d d, x6, x7, x8, x9, x10, x11, x12]) (M1 := M1) (by simp only [T0, exs, ex, evf, evi, ev, evs, evo, evc, Lp.start, List.map_cons, List.map_nil, List.length_cons, List.length_nil, List.replicate, List.cons_append, List.nil_append, List.getElem?_cons_zero, List.getElem?_cons_succ, List.set_cons_succ, List.set_cons_zero, Res.bind_ok, Res.bind_exc, Res.fl_ok, Res.fl_exc, Flow.seq_next, Flow.seq_ret, Flow.seq_exc, Flow.seq_brk, Flow.seq_cnt, bltD, mthD, Res.of_some, fres_next, fres_ret, fres_exc, asB_bl, cmpD, binD, kindOf_int, kindOf_str, kindOf_non, kindOf_bl, kindOf_lst, kindOf_tup, kindOf_dic, isNon_int, isNon_str, isNon_non, isNon_bl, isNon_lst, isNon_tup, isNon_dic, Ty.sub, reduceCtorEq, decide_false, decide_true, Bool.or_false, Bool.false_or, Bool.or_true, Bool.true_or, Bool.and_false, Bool.false_and, Bool.and_true, Bool.true_and, con_ints, con_nons, con_bls, len0_L, len1_L, len2_L, len3_L, len4_L, len5_L, len6_L, con_strs, con_lsts, con_tups, con_dics, augD, lenD_str, lenD_lst, lenD_tup, lenD_dic, addD_int, subD_int, leD_int, ltD_int, leD_str, ltD_str, isD_non, Bool.not_true, Bool.not_false, Option.map_some, if_true, Bool.false_eq_true, if_false, storeAll, compF, bindT, setAll, TG'.slots, wipeF, change, pushIn, orc_call, orc_mkx, orc_sub, orc_fuel, G_mkx, G_sub, G_fuel, e1'])]
  rw [step_next (ρ1 := [x0, .d (.cell 0), x2, x3, x4, .d d, .d d, x7, x8, x9, x10, x11, x12]) (M1 := M1) (by simp only [T1, exs, ex, evf, evi, ev, evs, evo, evc, Lp.start, List.map_cons, List.map_nil, List.length_cons, List.length_nil, List.replicate, List.cons_append, List.nil_append, List.getElem?_cons_zero, List.getElem?_cons_succ, List.set_cons_succ, List.set_cons_zero, Res.bind_ok, Res.bind_exc, Res.fl_ok, Res.fl_exc, Flow.seq_next, Flow.seq_ret, Flow.seq_exc, Flow.seq_brk, Flow.seq_cnt, bltD, mthD, Res.of_some, fres_next, fres_ret, fres_exc, asB_bl, cmpD, binD, kindOf_int, kindOf_str, kindOf_non, kindOf_bl, kindOf_lst, kindOf_tup, kindOf_dic, isNon_int, isNon_str, isNon_non, isNon_bl, isNon_lst, isNon_tup, isNon_dic, Ty.sub, reduceCtorEq, decide_false, decide_true, Bool.or_false, Bool.false_or, Bool.or_true, Bool.true_or, Bool.and_false, Bool.false_and, Bool.and_true, Bool.true_and, con_ints, con_nons, con_bls, len0_L, len1_L, len2_L, len3_L, len4_L, len5_L, len6_L, con_strs, con_lsts, con_tups, con_dics, augD, lenD_str, lenD_lst, lenD_tup, lenD_dic, addD_int, subD_int, leD_int, ltD_int, leD_str, ltD_str, isD_non, Bool.not_true, Bool.not_false, Option.map_some, if_true, Bool.false_eq_true, if_false, storeAll, compF, bindT, setAll, TG'.slots, wipeF, change, pushIn, orc_call, orc_mkx, orc_sub, orc_fuel, G_mkx, G_sub, G_fuel, e2])]
  rw [step_next (ρ1 := [x0, .d (.cell 0), x2, x3, x4, .d d, .d d, .d (.str (vT d)), x8, x9, x10, x11, x12]) (M1 := M1) (by simp only [T2, exs, ex, evf, evi, ev, evs, evo, evc, Lp.start, List.map_cons, List.map_nil, List.length_cons, List.length_nil, List.replicate, List.cons_append, List.nil_append, List.getElem?_cons_zero, List.getElem?_cons_succ, List.set_cons_succ, List.set_cons_zero, Res.bind_ok, Res.bind_exc, Res.fl_ok, Res.fl_exc, Flow.seq_next, Flow.seq_ret, Flow.seq_exc, Flow.seq_brk, Flow.seq_cnt, bltD, mthD, Res.of_some, fres_next, fres_ret, fres_exc, asB_bl, cmpD, binD, kindOf_int, kindOf_str, kindOf_non, kindOf_bl, kindOf_lst, kindOf_tup, kindOf_dic, isNon_int, isNon_str, isNon_non, isNon_bl, isNon_lst, isNon_tup, isNon_dic, Ty.sub, reduceCtorEq, decide_false, decide_true, Bool.or_false, Bool.false_or, Bool.or_true, Bool.true_or, Bool.and_false, Bool.false_and, Bool.and_true, Bool.true_and, con_ints, con_nons, con_bls, len0_L, len1_L, len2_L, len3_L, len4_L, len5_L, len6_L, con_strs, con_lsts, con_tups, con_dics, augD, lenD_str, lenD_lst, lenD_tup, lenD_dic, addD_int, subD_int, leD_int, ltD_int, leD_str, ltD_str, isD_non, Bool.not_true, Bool.not_false, Option.map_some, if_true, Bool.false_eq_true, if_false, storeAll, compF, bindT, setAll, TG'.slots, wipeF, change, pushIn, orc_call, orc_mkx, orc_sub, orc_fuel, G_mkx, G_sub, G_fuel, e3])]
  rw [step_next (ρ1 := [x0, .d (.cell 0), x2, x3, x4, .d d, .d d, .d (.str (vT d)), x8, x9, x10, x11, x12]) (M1 := M1) (by simp only [T3, exs, ex, evf, evi, ev, evs, evo, evc, Lp.start, List.map_cons, List.map_nil, List.length_cons, List.length_nil, List.replicate, List.cons_append, List.nil_append, List.getElem?_cons_zero, List.getElem?_cons_succ, List.set_cons_succ, List.set_cons_zero, Res.bind_ok, Res.bind_exc, Res.fl_ok, Res.fl_exc, Flow.seq_next, Flow.seq_ret, Flow.seq_exc, Flow.seq_brk, Flow.seq_cnt, bltD, mthD, Res.of_some, fres_next, fres_ret, fres_exc, asB_bl, cmpD, binD, kindOf_int, kindOf_str, kindOf_non, kindOf_bl, kindOf_lst, kindOf_tup, kindOf_dic, isNon_int, isNon_str, isNon_non, isNon_bl, isNon_lst, isNon_tup, isNon_dic, Ty.sub, reduceCtorEq, decide_false, decide_true, Bool.or_false, Bool.false_or, Bool.or_true, Bool.true_or, Bool.and_false, Bool.false_and, Bool.and_true, Bool.true_and, con_ints, con_nons, con_bls, len0_L, len1_L, len2_L, len3_L, len4_L, len5_L, len6_L, con_strs, con_lsts, con_tups, con_dics, augD, lenD_str, lenD_lst, lenD_tup, lenD_dic, addD_int, subD_int, leD_int, ltD_int, leD_str, ltD_str, isD_non, Bool.not_true, Bool.not_false, Option.map_some, if_true, Bool.false_eq_true, if_false, storeAll, compF, bindT, setAll, TG'.slots, wipeF, change, pushIn, orc_call, orc_mkx, orc_sub, orc_fuel, G_mkx, G_sub, G_fuel, e4, e5, e6'])]
  rw [step_next (ρ1 := [x0, .d (.cell 0), x2, x3, x4, .d d, .d d, .d (.str (vT d)), x8, x9, x10, x11, x12]) (M1 := M1) (by simp only [T4, exs, ex, evf, evi, ev, evs, evo, evc, Lp.start, List.map_cons, List.map_nil, List.length_cons, List.length_nil, List.replicate, List.cons_append, List.nil_append, List.getElem?_cons_zero, List.getElem?_cons_succ, List.set_cons_succ, List.set_cons_zero, Res.bind_ok, Res.bind_exc, Res.fl_ok, Res.fl_exc, Flow.seq_next, Flow.seq_ret, Flow.seq_exc, Flow.seq_brk, Flow.seq_cnt, bltD, mthD, Res.of_some, fres_next, fres_ret, fres_exc, asB_bl, cmpD, binD, kindOf_int, kindOf_str, kindOf_non, kindOf_bl, kindOf_lst, kindOf_tup, kindOf_dic, isNon_int, isNon_str, isNon_non, isNon_bl, isNon_lst, isNon_tup, isNon_dic, Ty.sub, reduceCtorEq, decide_false, decide_true, Bool.or_false, Bool.false_or, Bool.or_true, Bool.true_or, Bool.and_false, Bool.false_and, Bool.and_true, Bool.true_and, con_ints, con_nons, con_bls, len0_L, len1_L, len2_L, len3_L, len4_L, len5_L, len6_L, con_strs, con_lsts, con_tups, con_dics, augD, lenD_str, lenD_lst, lenD_tup, lenD_dic, addD_int, subD_int, leD_int, ltD_int, leD_str, ltD_str, isD_non, Bool.not_true, Bool.not_false, Option.map_some, if_true, Bool.false_eq_true, if_false, storeAll, compF, bindT, setAll, TG'.slots, wipeF, change, pushIn, orc_call, orc_mkx, orc_sub, orc_fuel, G_mkx, G_sub, G_fuel, e7', e8])]
  rw [step_next (ρ1 := [x0, .d (.cell 0), x2, x3, x4, .d d, .d d, .d (.str t), s8, s9, s10, x11, x12]) (M1 := M3) (by
    rw [T5', ex]
    rw [show evi (orc G 149) (.rng1 (.bin .add (.c (.int 1)) (.call "_law_pull" (.cons (.var 1) (.cons (.c (.int 2)) .nil)) []))) [x0, .d (.cell 0), x2, x3, x4, .d d, .d d, .d (.str (vT d)), x8, x9, x10, x11, x12] M1 = .ok xs M2 from by simp only [exs, ex, evf, evi, ev, evs, evo, evc, Lp.start, List.map_cons, List.map_nil, List.length_cons, List.length_nil, List.replicate, List.cons_append, List.nil_append, List.getElem?_cons_zero, List.getElem?_cons_succ, List.set_cons_succ, List.set_cons_zero, Res.bind_ok, Res.bind_exc, Res.fl_ok, Res.fl_exc, Flow.seq_next, Flow.seq_ret, Flow.seq_exc, Flow.seq_brk, Flow.seq_cnt, bltD, mthD, Res.of_some, fres_next, fres_ret, fres_exc, asB_bl, cmpD, binD, kindOf_int, kindOf_str, kindOf_non, kindOf_bl, kindOf_lst, kindOf_tup, kindOf_dic, isNon_int, isNon_str, isNon_non, isNon_bl, isNon_lst, isNon_tup, isNon_dic, Ty.sub, reduceCtorEq, decide_false, decide_true, Bool.or_false, Bool.false_or, Bool.or_true, Bool.true_or, Bool.and_false, Bool.false_and, Bool.and_true, Bool.true_and, con_ints, con_nons, con_bls, len0_L, len1_L, len2_L, len3_L, len4_L, len5_L, len6_L, con_strs, con_lsts, con_tups, con_dics, augD, lenD_str, lenD_lst, lenD_tup, lenD_dic, addD_int, subD_int, leD_int, ltD_int, leD_str, ltD_str, isD_non, Bool.not_true, Bool.not_false, Option.map_some, if_true, Bool.false_eq_true, if_false, storeAll, compF, bindT, setAll, TG'.slots, wipeF, change, pushIn, orc_call, orc_mkx, orc_sub, orc_fuel, G_mkx, G_sub, G_fuel, e9, e10]]
    exact e11)]
  cases hr : readV t with
  | none =>
    rw [hr] at e12
    refine ⟨.d d, .d d, .d (.str t), s8, s9, s10, .d .non, .d (.int 0), M3, ?_, g3⟩
    rw [step_next (ρ1 := [x0, .d (.cell 0), x2, x3, x4, .d d, .d d, .d (.str t), s8, s9, s10, .d .non, .d (.int 0)]) (M1 := M3) (by simp only [T6, exs, ex, evf, evi, ev, evs, evo, evc, Lp.start, List.map_cons, List.map_nil, List.length_cons, List.length_nil, List.replicate, List.cons_append, List.nil_append, List.getElem?_cons_zero, List.getElem?_cons_succ, List.set_cons_succ, List.set_cons_zero, Res.bind_ok, Res.bind_exc, Res.fl_ok, Res.fl_exc, Flow.seq_next, Flow.seq_ret, Flow.seq_exc, Flow.seq_brk, Flow.seq_cnt, bltD, mthD, Res.of_some, fres_next, fres_ret, fres_exc, asB_bl, cmpD, binD, kindOf_int, kindOf_str, kindOf_non, kindOf_bl, kindOf_lst, kindOf_tup, kindOf_dic, isNon_int, isNon_str, isNon_non, isNon_bl, isNon_lst, isNon_tup, isNon_dic, Ty.sub, reduceCtorEq, decide_false, decide_true, Bool.or_false, Bool.false_or, Bool.or_true, Bool.true_or, Bool.and_false, Bool.false_and, Bool.and_true, Bool.true_and, con_ints, con_nons, con_bls, len0_L, len1_L, len2_L, len3_L, len4_L, len5_L, len6_L, con_strs, con_lsts, con_tups, con_dics, augD, lenD_str, lenD_lst, lenD_tup, lenD_dic, addD_int, subD_int, leD_int, ltD_int, leD_str, ltD_str, isD_non, Bool.not_true, Bool.not_false, Option.map_some, if_true, Bool.false_eq_true, if_false, storeAll, compF, bindT, setAll, TG'.slots, wipeF, change, pushIn, orc_call, orc_mkx, orc_sub, orc_fuel, G_mkx, G_sub, G_fuel, e12])]
    rw [step_next (ρ1 := [x0, .d (.cell 0), x2, x3, x4, .d d, .d d, .d (.str t), s8, s9, s10, .d .non, .d (.int 0)]) (M1 := M3) (by simp only [T7, exs, ex, evf, evi, ev, evs, evo, evc, Lp.start, List.map_cons, List.map_nil, List.length_cons, List.length_nil, List.replicate, List.cons_append, List.nil_append, List.getElem?_cons_zero, List.getElem?_cons_succ, List.set_cons_succ, List.set_cons_zero, Res.bind_ok, Res.bind_exc, Res.fl_ok, Res.fl_exc, Flow.seq_next, Flow.seq_ret, Flow.seq_exc, Flow.seq_brk, Flow.seq_cnt, bltD, mthD, Res.of_some, fres_next, fres_ret, fres_exc, asB_bl, cmpD, binD, kindOf_int, kindOf_str, kindOf_non, kindOf_bl, kindOf_lst, kindOf_tup, kindOf_dic, isNon_int, isNon_str, isNon_non, isNon_bl, isNon_lst, isNon_tup, isNon_dic, Ty.sub, reduceCtorEq, decide_false, decide_true, Bool.or_false, Bool.false_or, Bool.or_true, Bool.true_or, Bool.and_false, Bool.false_and, Bool.and_true, Bool.true_and, con_ints, con_nons, con_bls, len0_L, len1_L, len2_L, len3_L, len4_L, len5_L, len6_L, con_strs, con_lsts, con_tups, con_dics, augD, lenD_str, lenD_lst, lenD_tup, lenD_dic, addD_int, subD_int, leD_int, ltD_int, leD_str, ltD_str, isD_non, Bool.not_true, Bool.not_false, Option.map_some, if_true, Bool.false_eq_true, if_false, storeAll, compF, bindT, setAll, TG'.slots, wipeF, change, pushIn, orc_call, orc_mkx, orc_sub, orc_fuel, G_mkx, G_sub, G_fuel])]
    rw [step_next (ρ1 := [x0, .d (.cell 0), x2, x3, x4, .d d, .d d, .d (.str t), s8, s9, s10, .d .non, .d (.int 0)]) (M1 := M3) (by simp only [T8, exs, ex, evf, evi, ev, evs, evo, evc, Lp.start, List.map_cons, List.map_nil, List.length_cons, List.length_nil, List.replicate, List.cons_append, List.nil_append, List.getElem?_cons_zero, List.getElem?_cons_succ, List.set_cons_succ, List.set_cons_zero, Res.bind_ok, Res.bind_exc, Res.fl_ok, Res.fl_exc, Flow.seq_next, Flow.seq_ret, Flow.seq_exc, Flow.seq_brk, Flow.seq_cnt, bltD, mthD, Res.of_some, fres_next, fres_ret, fres_exc, asB_bl, cmpD, binD, kindOf_int, kindOf_str, kindOf_non, kindOf_bl, kindOf_lst, kindOf_tup, kindOf_dic, isNon_int, isNon_str, isNon_non, isNon_bl, isNon_lst, isNon_tup, isNon_dic, Ty.sub, reduceCtorEq, decide_false, decide_true, Bool.or_false, Bool.false_or, Bool.or_true, Bool.true_or, Bool.and_false, Bool.false_and, Bool.and_true, Bool.true_and, con_ints, con_nons, con_bls, len0_L, len1_L, len2_L, len3_L, len4_L, len5_L, len6_L, con_strs, con_lsts, con_tups, con_dics, augD, lenD_str, lenD_lst, lenD_tup, lenD_dic, addD_int, subD_int, leD_int, ltD_int, leD_str, ltD_str, isD_non, Bool.not_true, Bool.not_false, Option.map_some, if_true, Bool.false_eq_true, if_false, storeAll, compF, bindT, setAll, TG'.slots, wipeF, change, pushIn, orc_call, orc_mkx, orc_sub, orc_fuel, G_mkx, G_sub, G_fuel, eqD_int])]
    rw [exs]
  | some v =>
    rw [hr] at e12
    have hv : pItem 41 t = some (v, []) := by
      unfold readV at hr
      split at hr
      · rename_i v' e; cases hr; exact e
      · cases hr
    obtain ⟨et, hwv, hdv⟩ := pItem_sound _ _ _ _ hv
    rw [List.append_nil] at et
    have hlv : (vT v).length ≤ L := by rw [← et]; omega
    have e13 := c_value_ok 149 v M3 hwv (by omega) hlv
    have e14 := c_write_value 148 v M3 hwv (by omega) hlv
    rw [← et] at e14
    have e15 := eqD_str c3 c3
    refine ⟨.d d, .d d, .d (.str t), s8, s9, s10, .d v, .d .non, M3, ?_, g3⟩
    rw [step_next (ρ1 := [x0, .d (.cell 0), x2, x3, x4, .d d, .d d, .d (.str t), s8, s9, s10, .d v, .d .non]) (M1 := M3) (by simp only [T6, exs, ex, evf, evi, ev, evs, evo, evc, Lp.start, List.map_cons, List.map_nil, List.length_cons, List.length_nil, List.replicate, List.cons_append, List.nil_append, List.getElem?_cons_zero, List.getElem?_cons_succ, List.set_cons_succ, List.set_cons_zero, Res.bind_ok, Res.bind_exc, Res.fl_ok, Res.fl_exc, Flow.seq_next, Flow.seq_ret, Flow.seq_exc, Flow.seq_brk, Flow.seq_cnt, bltD, mthD, Res.of_some, fres_next, fres_ret, fres_exc, asB_bl, cmpD, binD, kindOf_int, kindOf_str, kindOf_non, kindOf_bl, kindOf_lst, kindOf_tup, kindOf_dic, isNon_int, isNon_str, isNon_non, isNon_bl, isNon_lst, isNon_tup, isNon_dic, Ty.sub, reduceCtorEq, decide_false, decide_true, Bool.or_false, Bool.false_or, Bool.or_true, Bool.true_or, Bool.and_false, Bool.false_and, Bool.and_true, Bool.true_and, con_ints, con_nons, con_bls, len0_L, len1_L, len2_L, len3_L, len4_L, len5_L, len6_L, con_strs, con_lsts, con_tups, con_dics, augD, lenD_str, lenD_lst, lenD_tup, lenD_dic, addD_int, subD_int, leD_int, ltD_int, leD_str, ltD_str, isD_non, Bool.not_true, Bool.not_false, Option.map_some, if_true, Bool.false_eq_true, if_false, storeAll, compF, bindT, setAll, TG'.slots, wipeF, change, pushIn, orc_call, orc_mkx, orc_sub, orc_fuel, G_mkx, G_sub, G_fuel, e12])]
    rw [step_next (ρ1 := [x0, .d (.cell 0), x2, x3, x4, .d d, .d d, .d (.str t), s8, s9, s10, .d v, .d .non]) (M1 := M3) (by simp only [T7, exs, ex, evf, evi, ev, evs, evo, evc, Lp.start, List.map_cons, List.map_nil, List.length_cons, List.length_nil, List.replicate, List.cons_append, List.nil_append, List.getElem?_cons_zero, List.getElem?_cons_succ, List.set_cons_succ, List.set_cons_zero, Res.bind_ok, Res.bind_exc, Res.fl_ok, Res.fl_exc, Flow.seq_next, Flow.seq_ret, Flow.seq_exc, Flow.seq_brk, Flow.seq_cnt, bltD, mthD, Res.of_some, fres_next, fres_ret, fres_exc, asB_bl, cmpD, binD, kindOf_int, kindOf_str, kindOf_non, kindOf_bl, kindOf_lst, kindOf_tup, kindOf_dic, isNon_int, isNon_str, isNon_non, isNon_bl, isNon_lst, isNon_tup, isNon_dic, Ty.sub, reduceCtorEq, decide_false, decide_true, Bool.or_false, Bool.false_or, Bool.or_true, Bool.true_or, Bool.and_false, Bool.false_and, Bool.and_true, Bool.true_and, con_ints, con_nons, con_bls, len0_L, len1_L, len2_L, len3_L, len4_L, len5_L, len6_L, con_strs, con_lsts, con_tups, con_dics, augD, lenD_str, lenD_lst, lenD_tup, lenD_dic, addD_int, subD_int, leD_int, ltD_int, leD_str, ltD_str, isD_non, Bool.not_true, Bool.not_false, Option.map_some, if_true, Bool.false_eq_true, if_false, storeAll, compF, bindT, setAll, TG'.slots, wipeF, change, pushIn, orc_call, orc_mkx, orc_sub, orc_fuel, G_mkx, G_sub, G_fuel, e13, e14, e15])]
    rw [step_next (ρ1 := [x0, .d (.cell 0), x2, x3, x4, .d d, .d d, .d (.str t), s8, s9, s10, .d v, .d .non]) (M1 := M3) (by simp only [T8, exs, ex, evf, evi, ev, evs, evo, evc, Lp.start, List.map_cons, List.map_nil, List.length_cons, List.length_nil, List.replicate, List.cons_append, List.nil_append, List.getElem?_cons_zero, List.getElem?_cons_succ, List.set_cons_succ, List.set_cons_zero, Res.bind_ok, Res.bind_exc, Res.fl_ok, Res.fl_exc, Flow.seq_next, Flow.seq_ret, Flow.seq_exc, Flow.seq_brk, Flow.seq_cnt, bltD, mthD, Res.of_some, fres_next, fres_ret, fres_exc, asB_bl, cmpD, binD, kindOf_int, kindOf_str, kindOf_non, kindOf_bl, kindOf_lst, kindOf_tup, kindOf_dic, isNon_int, isNon_str, isNon_non, isNon_bl, isNon_lst, isNon_tup, isNon_dic, Ty.sub, reduceCtorEq, decide_false, decide_true, Bool.or_false, Bool.false_or, Bool.or_true, Bool.true_or, Bool.and_false, Bool.false_and, Bool.and_true, Bool.true_and, con_ints, con_nons, con_bls, len0_L, len1_L, len2_L, len3_L, len4_L, len5_L, len6_L, con_strs, con_lsts, con_tups, con_dics, augD, lenD_str, lenD_lst, lenD_tup, lenD_dic, addD_int, subD_int, leD_int, ltD_int, leD_str, ltD_str, isD_non, Bool.not_true, Bool.not_false, Option.map_some, if_true, Bool.false_eq_true, if_false, storeAll, compF, bindT, setAll, TG'.slots, wipeF, change, pushIn, orc_call, orc_mkx, orc_sub, orc_fuel, G_mkx, G_sub, G_fuel])]
    rw [exs]
end
end K37

set_option Elab.async false
set_option linter.all false
set_option maxRecDepth 100000
set_option maxHeartbeats 2000000
namespace K37
open Lp
def rp (k : Nat) (s : S) : S := (List.replicate k s).flatten
def odd1 : List S := [[], [48, 48], [45, 48], [43, 49], [48, 49], [49, 32], [32, 49], [91, 49, 44, 93], [91, 44, 93], [123, 97, 58, 49, 44, 125], [123, 98, 58, 49, 44, 97, 58, 50, 125], [123, 97, 58, 49, 44, 97, 58, 49, 125], [39], [39, 39, 39, 32], [45, 45]]
def odd2 : List S := [rp 31 [49], [91, 49], [93], [123, 97, 125], [123, 58, 49, 125], [123, 97, 58, 125], [123, 65, 58, 49, 125], [39, 65, 39], [39, 97, 98, 99, 100, 101, 102, 103, 104, 105, 106, 107, 108, 109, 39]]
def odd3 : List S := [[91, 49, 32, 50, 93], [78, 111, 110, 101], [91, 91, 93], [123, 97, 58, 91, 125], rp 42 [91] ++ rp 42 [93], rp 9999 [91], rp 60 [123, 97, 58] ++ [49] ++ rp 60 [125]]
def deepT : S := rp 41 [91] ++ rp 41 [93]
def oddB (s : S) : Bool := decide (s.length < 16777216) && (s.all (fun c => decide (c < 1114112)) && (readV s).isNone)
theorem odd_all : (odd1 ++ odd2 ++ odd3).all oddB = true := by decide +kernel
theorem deep_ok : (readV deepT).isSome = true := by decide +kernel
theorem deep_cok : deepT.all (fun c => decide (c < 1114112)) = true := by decide +kernel
theorem cok_all {s : S} (h : s.all (fun c => decide (c < 1114112)) = true) : cok s := fun c hc => of_decide_eq_true (List.all_eq_true.mp h c hc)
theorem mul_rp {s : S} {k : Nat} (h : s.length * k ≤ L) (h2 : k < 1000000000) : mulD (.str s) (.int (k : Int)) = some (.str (rp k s)) := by
  show (if s.length * (k : Int).toNat ≤ L ∧ (k : Int).natAbs < 1000000000 then some (D.str (List.replicate (k : Int).toNat s).flatten) else none) = _
  rw [if_pos ⟨by simpa using h, by omega⟩]
  rfl
theorem cat_ok {C : Orc} {ρ : Fr} {M M1 M2 : Mem} {a b : EX} {xs ys : List D} (h : ev C a ρ M = .ok (.lst xs) M1) (h2 : ev C b ρ M1 = .ok (.lst ys) M2) (hl : xs.length + ys.length ≤ L) : evf C (.cat a b) ρ M = .ok (.lst (xs ++ ys)) M2 := by
  rw [evf, h, Res.bind_ok, h2, Res.bind_ok]
  simp only [if_pos hl]
theorem set_ok {C : Orc} {ρ : Fr} {M M1 : Mem} {e : EX} {d : D} {i : Nat} (h : ev C e ρ M = .ok d M1) : ex C (.set i e) ρ M = .next (ρ.set i (.d d)) M1 := by rw [ex, h]; rfl
theorem open_ok (k : Nat) (ns : List Int) : ∃ M, callN G (k+1) "_law_open" [.lst (ns.map .int)] [] = .ok (.cell 0) M ∧ Good M := by
  have e : cutL (ns.map D.int) none (some 63) = (cutL ns none (some 63)).map D.int := by
    unfold cutL
    rw [List.map_take, List.map_drop, List.length_map]
  refine ⟨st4 (cutL ns none (some 63)) 0 0 43, ?_, _, _, _, _, rfl, by decide, by decide, by decide, by decide⟩
  rw [callN_run (d := D__law_open) rfl k _ _ rfl]
  simp only [D__law_open, exs, ex, evf, evi, ev, evs, evo, evc, Lp.start, List.map_cons, List.map_nil, List.length_cons, List.length_nil, List.replicate, List.cons_append, List.nil_append, List.getElem?_cons_zero, List.getElem?_cons_succ, List.set_cons_succ, List.set_cons_zero, Res.bind_ok, Res.bind_exc, Res.fl_ok, Res.fl_exc, Flow.seq_next, Flow.seq_ret, Flow.seq_exc, Flow.seq_brk, Flow.seq_cnt, bltD, mthD, Res.of_some, fres_next, fres_ret, fres_exc, asB_bl, cmpD, binD, kindOf_int, kindOf_str, kindOf_non, kindOf_bl, kindOf_lst, kindOf_tup, kindOf_dic, isNon_int, isNon_str, isNon_non, isNon_bl, isNon_lst, isNon_tup, isNon_dic, Ty.sub, reduceCtorEq, decide_false, decide_true, Bool.or_false, Bool.false_or, Bool.or_true, Bool.true_or, Bool.and_false, Bool.false_and, Bool.and_true, Bool.true_and, con_ints, con_nons, con_bls, len0_L, len1_L, len2_L, len3_L, len4_L, len5_L, len6_L, con_strs, con_lsts, con_tups, con_dics, augD, lenD_str, lenD_lst, lenD_tup, lenD_dic, addD_int, subD_int, leD_int, ltD_int, leD_str, ltD_str, isD_non, Bool.not_true, Bool.not_false, Option.map_some, if_true, Bool.false_eq_true, if_false, storeAll, compF, bindT, setAll, TG'.slots, wipeF, change, pushIn, orc_call, orc_mkx, orc_sub, orc_fuel, G_mkx, G_sub, G_fuel, e]
  rfl
theorem turns {x0 x3 x4 : Sl} : ∀ (xs : List D) (x2 x5 x6 x7 x8 x9 x10 x11 x12 : Sl) (M : Mem), Good M → ∃ y2 y5 y6 y7 y8 y9 y10 y11 y12 M', forGo (fun x ρ M => match bindT (.name 2) x ρ with
        | none => .stuck
        | some ρ1 => exs (orc G 149) LB ρ1 M) xs [x0, .d (.cell 0), x2, x3, x4, x5, x6, x7, x8, x9, x10, x11, x12] M = .next [x0, .d (.cell 0), y2, x3, x4, y5, y6, y7, y8, y9, y10, y11, y12] M' ∧ Good M'
  | [], x2, x5, x6, x7, x8, x9, x10, x11, x12, M, g => ⟨x2, x5, x6, x7, x8, x9, x10, x11, x12, M, rfl, g⟩
  | x :: r, x2, x5, x6, x7, x8, x9, x10, x11, x12, M, g => by
    obtain ⟨y5, y6, y7, y8, y9, y10, y11, y12, M1, e1, g1⟩ := turn (x0 := x0) (x2 := .d x) (x3 := x3) (x4 := x4) (x5 := x5) (x6 := x6) (x7 := x7) (x8 := x8) (x9 := x9) (x10 := x10) (x11 := x11) (x12 := x12) g
    obtain ⟨z2, z5, z6, z7, z8, z9, z10, z11, z12, M2, e2, g2⟩ := turns r (.d x) y5 y6 y7 y8 y9 y10 y11 y12 M1 g1
    refine ⟨z2, z5, z6, z7, z8, z9, z10, z11, z12, M2, ?_, g2⟩
    rw [forGo]
    show (match exs (orc G 149) LB [x0, .d (.cell 0), .d x, x3, x4, x5, x6, x7, x8, x9, x10, x11, x12] M with
      | .next ρ1 M1 => forGo _ r ρ1 M1
      | .cnt ρ1 M1 => forGo _ r ρ1 M1
      | .brk ρ1 M1 => .next ρ1 M1
      | .ret d M1 => .ret d M1
      | .exc x ρ1 M1 => .exc x ρ1 M1
      | .stuck => .stuck) = _
    rw [e1]
    exact e2
theorem law_true (ns : List Int) (h : ns.length ≤ 63) : ∃ M', callN G 150 "law" [.lst (ns.map D.int)] [] = .ok (.bl true) M' := by
  have hL : L = 16777216 := rfl
  obtain ⟨M1, e1, g1⟩ := open_ok 148 ns
  have e1' : callN G 149 "_law_open" [.lst (ns.map .int)] [] = .ok (.cell 0) M1 := e1
  obtain ⟨y2, y5, y6, y7, y8, y9, y10, y11, y12, M2, e2, g2⟩ := turns (x0 := .d (.lst (ns.map .int))) (x3 := .no) (x4 := .no) [.int ((0 : Int) + (0 : Nat)), .int ((0 : Int) + (1 : Nat)), .int ((0 : Int) + (2 : Nat)), .int ((0 : Int) + (3 : Nat)), .int ((0 : Int) + (4 : Nat))] .no .no .no .no .no .no .no .no .no M1 g1
  refine ⟨M2, ?_⟩
  rw [callN_run (d := D_law') rfl 149 _ _ rfl]
  simp only [D_law', Lp.start, List.map_cons, List.map_nil, List.length_cons, List.length_nil, List.replicate, List.cons_append, List.nil_append]
  rw [step_next (ρ1 := [.d (.lst (ns.map .int)), .d (.cell 0), .no, .no, .no, .no, .no, .no, .no, .no, .no, .no, .no]) (M1 := M1) (by simp only [S0, exs, ex, evf, evi, ev, evs, evo, evc, Lp.start, List.map_cons, List.map_nil, List.length_cons, List.length_nil, List.replicate, List.cons_append, List.nil_append, List.getElem?_cons_zero, List.getElem?_cons_succ, List.set_cons_succ, List.set_cons_zero, Res.bind_ok, Res.bind_exc, Res.fl_ok, Res.fl_exc, Flow.seq_next, Flow.seq_ret, Flow.seq_exc, Flow.seq_brk, Flow.seq_cnt, bltD, mthD, Res.of_some, fres_next, fres_ret, fres_exc, asB_bl, cmpD, binD, kindOf_int, kindOf_str, kindOf_non, kindOf_bl, kindOf_lst, kindOf_tup, kindOf_dic, isNon_int, isNon_str, isNon_non, isNon_bl, isNon_lst, isNon_tup, isNon_dic, Ty.sub, reduceCtorEq, decide_false, decide_true, Bool.or_false, Bool.false_or, Bool.or_true, Bool.true_or, Bool.and_false, Bool.false_and, Bool.and_true, Bool.true_and, con_ints, con_nons, con_bls, len0_L, len1_L, len2_L, len3_L, len4_L, len5_L, len6_L, con_strs, con_lsts, con_tups, con_dics, augD, lenD_str, lenD_lst, lenD_tup, lenD_dic, addD_int, subD_int, leD_int, ltD_int, leD_str, ltD_str, isD_non, Bool.not_true, Bool.not_false, Option.map_some, if_true, Bool.false_eq_true, if_false, storeAll, compF, bindT, setAll, TG'.slots, wipeF, change, pushIn, orc_call, orc_mkx, orc_sub, orc_fuel, G_mkx, G_sub, G_fuel, e1'])]
  rw [step_next (ρ1 := [.d (.lst (ns.map .int)), .d (.cell 0), y2, .no, .no, y5, y6, y7, y8, y9, y10, y11, y12]) (M1 := M2) (by
    rw [S1', ex]
    exact e2)]
  have l15 : (0 + 1 + 1 + 1 + 1 + 1 + 1 + 1 + 1 + 1 + 1 + 1 + 1 + 1 + 1 + 1 ≤ L) = True := eq_true (by decide)
  have l9 : (0 + 1 + 1 + 1 + 1 + 1 + 1 + 1 + 1 + 1 ≤ L) = True := eq_true (by decide)
  have l7 : (0 + 1 + 1 + 1 + 1 + 1 + 1 + 1 ≤ L) = True := eq_true (by decide)
  rw [step_next (ρ1 := [.d (.lst (ns.map .int)), .d (.cell 0), y2, .d (.lst (odd1.map .str)), .no, y5, y6, y7, y8, y9, y10, y11, y12]) (M1 := M2) (by simp only [S2, exs, ex, evf, evi, ev, evs, evo, evc, Lp.start, List.map_cons, List.map_nil, List.length_cons, List.length_nil, List.replicate, List.cons_append, List.nil_append, List.getElem?_cons_zero, List.getElem?_cons_succ, List.set_cons_succ, List.set_cons_zero, Res.bind_ok, Res.bind_exc, Res.fl_ok, Res.fl_exc, Flow.seq_next, Flow.seq_ret, Flow.seq_exc, Flow.seq_brk, Flow.seq_cnt, bltD, mthD, Res.of_some, fres_next, fres_ret, fres_exc, asB_bl, cmpD, binD, kindOf_int, kindOf_str, kindOf_non, kindOf_bl, kindOf_lst, kindOf_tup, kindOf_dic, isNon_int, isNon_str, isNon_non, isNon_bl, isNon_lst, isNon_tup, isNon_dic, Ty.sub, reduceCtorEq, decide_false, decide_true, Bool.or_false, Bool.false_or, Bool.or_true, Bool.true_or, Bool.and_false, Bool.false_and, Bool.and_true, Bool.true_and, con_ints, con_nons, con_bls, len0_L, len1_L, len2_L, len3_L, len4_L, len5_L, len6_L, con_strs, con_lsts, con_tups, con_dics, augD, lenD_str, lenD_lst, lenD_tup, lenD_dic, addD_int, subD_int, leD_int, ltD_int, leD_str, ltD_str, isD_non, Bool.not_true, Bool.not_false, Option.map_some, if_true, Bool.false_eq_true, if_false, storeAll, compF, bindT, setAll, TG'.slots, wipeF, change, pushIn, orc_call, orc_mkx, orc_sub, orc_fuel, G_mkx, G_sub, G_fuel, l15, odd1])]
  have m31 : mulD (.str [49]) (.int 31) = some (.str (rp 31 [49])) := mul_rp (s := [49]) (k := 31) (by decide) (by decide)
  have m42a : mulD (.str [91]) (.int 42) = some (.str (rp 42 [91])) := mul_rp (s := [91]) (k := 42) (by decide) (by decide)
  have m42b : mulD (.str [93]) (.int 42) = some (.str (rp 42 [93])) := mul_rp (s := [93]) (k := 42) (by decide) (by decide)
  have m9999 : mulD (.str [91]) (.int 9999) = some (.str (rp 9999 [91])) := mul_rp (s := [91]) (k := 9999) (by decide) (by decide)
  have m60a : mulD (.str [123, 97, 58]) (.int 60) = some (.str (rp 60 [123, 97, 58])) := mul_rp (s := [123, 97, 58]) (k := 60) (by decide) (by decide)
  have m60b : mulD (.str [125]) (.int 60) = some (.str (rp 60 [125])) := mul_rp (s := [125]) (k := 60) (by decide) (by decide)
  have m41a : mulD (.str [91]) (.int 41) = some (.str (rp 41 [91])) := mul_rp (s := [91]) (k := 41) (by decide) (by decide)
  have m41b : mulD (.str [93]) (.int 41) = some (.str (rp 41 [93])) := mul_rp (s := [93]) (k := 41) (by decide) (by decide)
  have a42 : addD (.str (rp 42 [91])) (.str (rp 42 [93])) = some (.str (rp 42 [91] ++ rp 42 [93])) := by rw [addD_str, if_pos (by decide +kernel)]
  have a41 : addD (.str (rp 41 [91])) (.str (rp 41 [93])) = some (.str deepT) := by rw [addD_str, if_pos (by decide +kernel)]; rfl
  have a60 : addD (.str (rp 60 [123, 97, 58])) (.str [49]) = some (.str (rp 60 [123, 97, 58] ++ [49])) := by rw [addD_str, if_pos (by decide +kernel)]
  have a60' : addD (.str (rp 60 [123, 97, 58] ++ [49])) (.str (rp 60 [125])) = some (.str (rp 60 [123, 97, 58] ++ [49] ++ rp 60 [125])) := by rw [addD_str, if_pos (by decide +kernel)]
  rw [step_next (ρ1 := [.d (.lst (ns.map .int)), .d (.cell 0), y2, .d (.lst ((odd1 ++ odd2).map .str)), .no, y5, y6, y7, y8, y9, y10, y11, y12]) (M1 := M2) (by
    have lc : (odd1.map D.str).length + (odd2.map D.str).length ≤ L := by decide +kernel
    rw [List.map_append]
    have hf : evf (orc G 149) (.lst (.cons (.bin .mul (.c (.str [49])) (.c (.int 31))) (.cons (.c (.str [91, 49])) (.cons (.c (.str [93])) (.cons (.c (.str [123, 97, 125])) (.cons (.c (.str [123, 58, 49, 125])) (.cons (.c (.str [123, 97, 58, 125])) (.cons (.c (.str [123, 65, 58, 49, 125])) (.cons (.c (.str [39, 65, 39])) (.cons (.c (.str [39, 97, 98, 99, 100, 101, 102, 103, 104, 105, 106, 107, 108, 109, 39])) .nil)))))))))) [.d (.lst (ns.map .int)), .d (.cell 0), y2, .d (.lst (odd1.map .str)), .no, y5, y6, y7, y8, y9, y10, y11, y12] M2 = .ok (.lst (odd2.map .str)) M2 := by simp only [exs, ex, evf, evi, ev, evs, evo, evc, Lp.start, List.map_cons, List.map_nil, List.length_cons, List.length_nil, List.replicate, List.cons_append, List.nil_append, List.getElem?_cons_zero, List.getElem?_cons_succ, List.set_cons_succ, List.set_cons_zero, Res.bind_ok, Res.bind_exc, Res.fl_ok, Res.fl_exc, Flow.seq_next, Flow.seq_ret, Flow.seq_exc, Flow.seq_brk, Flow.seq_cnt, bltD, mthD, Res.of_some, fres_next, fres_ret, fres_exc, asB_bl, cmpD, binD, kindOf_int, kindOf_str, kindOf_non, kindOf_bl, kindOf_lst, kindOf_tup, kindOf_dic, isNon_int, isNon_str, isNon_non, isNon_bl, isNon_lst, isNon_tup, isNon_dic, Ty.sub, reduceCtorEq, decide_false, decide_true, Bool.or_false, Bool.false_or, Bool.or_true, Bool.true_or, Bool.and_false, Bool.false_and, Bool.and_true, Bool.true_and, con_ints, con_nons, con_bls, len0_L, len1_L, len2_L, len3_L, len4_L, len5_L, len6_L, con_strs, con_lsts, con_tups, con_dics, augD, lenD_str, lenD_lst, lenD_tup, lenD_dic, addD_int, subD_int, leD_int, ltD_int, leD_str, ltD_str, isD_non, Bool.not_true, Bool.not_false, Option.map_some, if_true, Bool.false_eq_true, if_false, storeAll, compF, bindT, setAll, TG'.slots, wipeF, change, pushIn, orc_call, orc_mkx, orc_sub, orc_fuel, G_mkx, G_sub, G_fuel, m31, l9, odd2]
    exact set_ok (frz_ok (cat_ok (var_ok (i := 3) rfl) (frz_ok hf) lc)))]
  rw [step_next (ρ1 := [.d (.lst (ns.map .int)), .d (.cell 0), y2, .d (.lst ((odd1 ++ odd2 ++ odd3).map .str)), .no, y5, y6, y7, y8, y9, y10, y11, y12]) (M1 := M2) (by
    have lc : ((odd1 ++ odd2).map D.str).length + (odd3.map D.str).length ≤ L := by decide +kernel
    rw [List.map_append]
    have hf : evf (orc G 149) (.lst (.cons (.c (.str [91, 49, 32, 50, 93])) (.cons (.c (.str [78, 111, 110, 101])) (.cons (.c (.str [91, 91, 93])) (.cons (.c (.str [123, 97, 58, 91, 125])) (.cons (.bin .add (.bin .mul (.c (.str [91])) (.c (.int 42))) (.bin .mul (.c (.str [93])) (.c (.int 42)))) (.cons (.bin .mul (.c (.str [91])) (.c (.int 9999))) (.cons (.bin .add (.bin .add (.bin .mul (.c (.str [123, 97, 58])) (.c (.int 60))) (.c (.str [49]))) (.bin .mul (.c (.str [125])) (.c (.int 60)))) .nil)))))))) [.d (.lst (ns.map .int)), .d (.cell 0), y2, .d (.lst ((odd1 ++ odd2).map .str)), .no, y5, y6, y7, y8, y9, y10, y11, y12] M2 = .ok (.lst (odd3.map .str)) M2 := by
      generalize hq1 : rp 42 [91] ++ rp 42 [93] = q1 at a42
      generalize hq3 : rp 60 [123, 97, 58] ++ [49] ++ rp 60 [125] = q3 at a60'
      generalize hq2 : rp 60 [123, 97, 58] ++ [49] = q2 at a60 a60'
      simp only [odd3, hq1, hq3, exs, ex, evf, evi, ev, evs, evo, evc, Lp.start, List.map_cons, List.map_nil, List.length_cons, List.length_nil, List.replicate, List.cons_append, List.nil_append, List.getElem?_cons_zero, List.getElem?_cons_succ, List.set_cons_succ, List.set_cons_zero, Res.bind_ok, Res.bind_exc, Res.fl_ok, Res.fl_exc, Flow.seq_next, Flow.seq_ret, Flow.seq_exc, Flow.seq_brk, Flow.seq_cnt, bltD, mthD, Res.of_some, fres_next, fres_ret, fres_exc, asB_bl, cmpD, binD, kindOf_int, kindOf_str, kindOf_non, kindOf_bl, kindOf_lst, kindOf_tup, kindOf_dic, isNon_int, isNon_str, isNon_non, isNon_bl, isNon_lst, isNon_tup, isNon_dic, Ty.sub, reduceCtorEq, decide_false, decide_true, Bool.or_false, Bool.false_or, Bool.or_true, Bool.true_or, Bool.and_false, Bool.false_and, Bool.and_true, Bool.true_and, con_ints, con_nons, con_bls, len0_L, len1_L, len2_L, len3_L, len4_L, len5_L, len6_L, con_strs, con_lsts, con_tups, con_dics, augD, lenD_str, lenD_lst, lenD_tup, lenD_dic, addD_int, subD_int, leD_int, ltD_int, leD_str, ltD_str, isD_non, Bool.not_true, Bool.not_false, Option.map_some, if_true, Bool.false_eq_true, if_false, storeAll, compF, bindT, setAll, TG'.slots, wipeF, change, pushIn, orc_call, orc_mkx, orc_sub, orc_fuel, G_mkx, G_sub, G_fuel, m42a, m42b, m9999, m60a, m60b, a42, a60, a60', l7]
    exact set_ok (frz_ok (cat_ok (var_ok (i := 3) rfl) (frz_ok hf) lc)))]
  obtain ⟨v, hv⟩ := Option.isSome_iff_exists.mp deep_ok
  have hp : pItem 41 deepT = some (v, []) := by
    have hr := hv
    unfold readV at hr
    split at hr
    · rename_i v' e; cases hr; exact e
    · cases hr
  obtain ⟨et, hwv, hdv⟩ := pItem_sound _ _ _ _ hp
  rw [List.append_nil] at et
  have hdl : deepT.length < L := by decide +kernel
  have hdc := cok_all deep_cok
  have e3 := c_read_value 148 (by decide) deepT M2 hdl hdc
  rw [hv] at e3
  have e3' : callN G 149 "read_value" [.str deepT] M2 = .ok v M2 := e3
  have e4 := c_write_value 148 v M2 hwv (by omega) (by rw [← et]; omega)
  rw [← et] at e4
  have e4' : callN G 149 "write_value" [v] M2 = .ok (.str deepT) M2 := e4
  have e5 := eqD_str hdc hdc
  rw [step_next (ρ1 := [.d (.lst (ns.map .int)), .d (.cell 0), y2, .d (.lst ((odd1 ++ odd2 ++ odd3).map .str)), .d v, y5, y6, y7, y8, y9, y10, y11, y12]) (M1 := M2) (by simp only [S5, exs, ex, evf, evi, ev, evs, evo, evc, Lp.start, List.map_cons, List.map_nil, List.length_cons, List.length_nil, List.replicate, List.cons_append, List.nil_append, List.getElem?_cons_zero, List.getElem?_cons_succ, List.set_cons_succ, List.set_cons_zero, Res.bind_ok, Res.bind_exc, Res.fl_ok, Res.fl_exc, Flow.seq_next, Flow.seq_ret, Flow.seq_exc, Flow.seq_brk, Flow.seq_cnt, bltD, mthD, Res.of_some, fres_next, fres_ret, fres_exc, asB_bl, cmpD, binD, kindOf_int, kindOf_str, kindOf_non, kindOf_bl, kindOf_lst, kindOf_tup, kindOf_dic, isNon_int, isNon_str, isNon_non, isNon_bl, isNon_lst, isNon_tup, isNon_dic, Ty.sub, reduceCtorEq, decide_false, decide_true, Bool.or_false, Bool.false_or, Bool.or_true, Bool.true_or, Bool.and_false, Bool.false_and, Bool.and_true, Bool.true_and, con_ints, con_nons, con_bls, len0_L, len1_L, len2_L, len3_L, len4_L, len5_L, len6_L, con_strs, con_lsts, con_tups, con_dics, augD, lenD_str, lenD_lst, lenD_tup, lenD_dic, addD_int, subD_int, leD_int, ltD_int, leD_str, ltD_str, isD_non, Bool.not_true, Bool.not_false, Option.map_some, if_true, Bool.false_eq_true, if_false, storeAll, compF, bindT, setAll, TG'.slots, wipeF, change, pushIn, orc_call, orc_mkx, orc_sub, orc_fuel, G_mkx, G_sub, G_fuel, m41a, m41b, a41, e3'])]
  rw [step_next (ρ1 := [.d (.lst (ns.map .int)), .d (.cell 0), y2, .d (.lst ((odd1 ++ odd2 ++ odd3).map .str)), .d v, y5, y6, y7, y8, y9, y10, y11, y12]) (M1 := M2) (by simp only [S6, exs, ex, evf, evi, ev, evs, evo, evc, Lp.start, List.map_cons, List.map_nil, List.length_cons, List.length_nil, List.replicate, List.cons_append, List.nil_append, List.getElem?_cons_zero, List.getElem?_cons_succ, List.set_cons_succ, List.set_cons_zero, Res.bind_ok, Res.bind_exc, Res.fl_ok, Res.fl_exc, Flow.seq_next, Flow.seq_ret, Flow.seq_exc, Flow.seq_brk, Flow.seq_cnt, bltD, mthD, Res.of_some, fres_next, fres_ret, fres_exc, asB_bl, cmpD, binD, kindOf_int, kindOf_str, kindOf_non, kindOf_bl, kindOf_lst, kindOf_tup, kindOf_dic, isNon_int, isNon_str, isNon_non, isNon_bl, isNon_lst, isNon_tup, isNon_dic, Ty.sub, reduceCtorEq, decide_false, decide_true, Bool.or_false, Bool.false_or, Bool.or_true, Bool.true_or, Bool.and_false, Bool.false_and, Bool.and_true, Bool.true_and, con_ints, con_nons, con_bls, len0_L, len1_L, len2_L, len3_L, len4_L, len5_L, len6_L, con_strs, con_lsts, con_tups, con_dics, augD, lenD_str, lenD_lst, lenD_tup, lenD_dic, addD_int, subD_int, leD_int, ltD_int, leD_str, ltD_str, isD_non, Bool.not_true, Bool.not_false, Option.map_some, if_true, Bool.false_eq_true, if_false, storeAll, compF, bindT, setAll, TG'.slots, wipeF, change, pushIn, orc_call, orc_mkx, orc_sub, orc_fuel, G_mkx, G_sub, G_fuel, m41a, m41b, a41, e4', e5])]
  have hlen : ((odd1 ++ odd2 ++ odd3).map D.str).length = 31 := by decide +kernel
  have hc := compGo_map (f := compF (.name 7) [.d (.lst (ns.map .int)), .d (.cell 0), y2, .d (.lst ((odd1 ++ odd2 ++ odd3).map .str)), .d v, y5, y6, y7, y8, y9, y10, y11, y12] (fun ρ1 M2 => evc (orc G 149) none ρ1 M2) (fun ρ1 M2 => ev (orc G 149) (.call "_law_row_of" (.cons (.var 7) .nil) []) ρ1 M2)) (g := fun _ => .tup [.non, .int 0]) (M := M2) ((odd1 ++ odd2 ++ odd3).map .str) [] (by
    intro x hx
    obtain ⟨s, hs, rfl⟩ := List.mem_map.mp hx
    have hb := List.all_eq_true.mp odd_all s hs
    unfold oddB at hb
    simp only [Bool.and_eq_true, decide_eq_true_eq] at hb
    obtain ⟨b1, b2, b3⟩ := hb
    have e6 := c_row_of 148 (by decide) s M2 b1 (cok_all b2)
    rw [Option.isNone_iff_eq_none.mp b3] at e6
    have e6' : callN G 149 "_law_row_of" [.str s] M2 = .ok (.tup [.non, .int 0]) M2 := e6
    simp only [exs, ex, evf, evi, ev, evs, evo, evc, Lp.start, List.map_cons, List.map_nil, List.length_cons, List.length_nil, List.replicate, List.cons_append, List.nil_append, List.getElem?_cons_zero, List.getElem?_cons_succ, List.set_cons_succ, List.set_cons_zero, Res.bind_ok, Res.bind_exc, Res.fl_ok, Res.fl_exc, Flow.seq_next, Flow.seq_ret, Flow.seq_exc, Flow.seq_brk, Flow.seq_cnt, bltD, mthD, Res.of_some, fres_next, fres_ret, fres_exc, asB_bl, cmpD, binD, kindOf_int, kindOf_str, kindOf_non, kindOf_bl, kindOf_lst, kindOf_tup, kindOf_dic, isNon_int, isNon_str, isNon_non, isNon_bl, isNon_lst, isNon_tup, isNon_dic, Ty.sub, reduceCtorEq, decide_false, decide_true, Bool.or_false, Bool.false_or, Bool.or_true, Bool.true_or, Bool.and_false, Bool.false_and, Bool.and_true, Bool.true_and, con_ints, con_nons, con_bls, len0_L, len1_L, len2_L, len3_L, len4_L, len5_L, len6_L, con_strs, con_lsts, con_tups, con_dics, augD, lenD_str, lenD_lst, lenD_tup, lenD_dic, addD_int, subD_int, leD_int, ltD_int, leD_str, ltD_str, isD_non, Bool.not_true, Bool.not_false, Option.map_some, if_true, Bool.false_eq_true, if_false, storeAll, compF, bindT, setAll, TG'.slots, wipeF, change, pushIn, orc_call, orc_mkx, orc_sub, orc_fuel, G_mkx, G_sub, G_fuel, e6']) (by rw [hlen]; decide)
  have hmap : ([] ++ ((odd1 ++ odd2 ++ odd3).map D.str).map fun _ => D.tup [.non, .int 0]) = List.replicate 31 (D.tup [.non, .int 0]) := by
    rw [List.nil_append, List.map_const', hlen]
  rw [hmap] at hc
  have f1 := frz_ok (comp_ok (seq_ok (C := orc G 149) (M := M2) (var_ok (ρ := [.d (.lst (ns.map .int)), .d (.cell 0), y2, .d (.lst ((odd1 ++ odd2 ++ odd3).map .str)), .d v, y5, y6, y7, y8, y9, y10, y11, y12]) (i := 3) rfl)) hc)
  generalize (odd1 ++ odd2 ++ odd3).map D.str = od at *
  have f2 : ev (orc G 149) (.frz (.rep (.frz (.lst (.cons (.tup (.cons (.c .non) (.cons (.c (.int 0)) .nil))) .nil))) (.blt .len (.var 3)))) [.d (.lst (ns.map .int)), .d (.cell 0), y2, .d (.lst od), .d v, y5, y6, y7, y8, y9, y10, y11, y12] M2 = .ok (.lst (List.replicate 31 (D.tup [.non, .int 0]))) M2 := by
    have h31 : ((0 + 1) * ((31 : Nat) : Int).toNat ≤ L ∧ ((31 : Nat) : Int).natAbs < 1000000000) = True := eq_true (by decide)
    simp only [exs, ex, evf, evi, ev, evs, evo, evc, Lp.start, List.map_cons, List.map_nil, List.length_cons, List.length_nil, List.replicate, List.cons_append, List.nil_append, List.getElem?_cons_zero, List.getElem?_cons_succ, List.set_cons_succ, List.set_cons_zero, Res.bind_ok, Res.bind_exc, Res.fl_ok, Res.fl_exc, Flow.seq_next, Flow.seq_ret, Flow.seq_exc, Flow.seq_brk, Flow.seq_cnt, bltD, mthD, Res.of_some, fres_next, fres_ret, fres_exc, asB_bl, cmpD, binD, kindOf_int, kindOf_str, kindOf_non, kindOf_bl, kindOf_lst, kindOf_tup, kindOf_dic, isNon_int, isNon_str, isNon_non, isNon_bl, isNon_lst, isNon_tup, isNon_dic, Ty.sub, reduceCtorEq, decide_false, decide_true, Bool.or_false, Bool.false_or, Bool.or_true, Bool.true_or, Bool.and_false, Bool.false_and, Bool.and_true, Bool.true_and, con_ints, con_nons, con_bls, len0_L, len1_L, len2_L, len3_L, len4_L, len5_L, len6_L, con_strs, con_lsts, con_tups, con_dics, augD, lenD_str, lenD_lst, lenD_tup, lenD_dic, addD_int, subD_int, leD_int, ltD_int, leD_str, ltD_str, isD_non, Bool.not_true, Bool.not_false, Option.map_some, if_true, Bool.false_eq_true, if_false, storeAll, compF, bindT, setAll, TG'.slots, wipeF, change, pushIn, orc_call, orc_mkx, orc_sub, orc_fuel, G_mkx, G_sub, G_fuel, hlen, h31]
    rfl
  have f3 : eqD (.lst (List.replicate 31 (D.tup [.non, .int 0]))) (.lst (List.replicate 31 (D.tup [.non, .int 0]))) = some true := rfl
  have f4 : ev (orc G 149) (.cmp .eq (.frz (.comp (.name 7) (.seq (.var 3)) none (.call "_law_row_of" (.cons (.var 7) .nil) []))) (.frz (.rep (.frz (.lst (.cons (.tup (.cons (.c .non) (.cons (.c (.int 0)) .nil))) .nil))) (.blt .len (.var 3))))) [.d (.lst (ns.map .int)), .d (.cell 0), y2, .d (.lst od), .d v, y5, y6, y7, y8, y9, y10, y11, y12] M2 = .ok (.bl true) M2 := by
    rw [ev, f1, Res.bind_ok, f2, Res.bind_ok]
    simp only [cmpD, f3, Res.of_some, Res.bind_ok]
  exact congrArg Flow.res (a₂ := .ret (.bl true) M2) (step_ret (ret_ok f4))
end K37

set_option Elab.async false
set_option linter.all false
set_option maxRecDepth 100000
set_option maxHeartbeats 0
namespace K37w
open PySem L2 Lp K37
theorem enter {K : Frag} {P : Program} {w : World} {h : Heap} {mg : Str → Option Value} {f : Addr} (X : K.In h) (Gm : h.Ns mainGlobals mg) (hfa : mg ("law" : Str) = some (.ref f)) (c : SaysL fa fn ex K) :
    ∃ fd : FuncData, (∀ (s : Shared) (v : Value), BindsTo s fd ⟨[v], []⟩ [("_law_script", v)]) ∧ ∀ base : Heap, K.In base → base.Ns mainGlobals mg →
      FnOk P w K mg base CX0 154 f fd ["_law_script"] (fun vs H Q _ => spF K (caT K) G 150 "law" vs H Q fun _ _ _ => False) := by
  obtain ⟨fdv, X_⟩ := facts_of X Gm c
  have e := hfa.symm.trans X_.g_law
  cases e
  exact ⟨_, fun s v => FunD.bindsA (ps := ["_law_script"]) X_.F_law (fun _ _ _ _ _ _ us hl => match us, hl with | [_], _ => rfl) s [v] rfl, fun base _ _ => fn_no (all_ok X_ 150).h_law⟩
end K37w
open PySem PySem.W PySem.Calls PyProof.Rows
theorem PySem.Challenge.cw_lodepath_k37_values_written_and_read_holds : PySem.Challenge.rw_lodepath_k37_values_written_and_read.Holds := by
  w_on; o_law
  refine HandSHeadRun.head_any (r := OpenLaw.row PySem.Challenge.rw_lodepath_k37_values_written_and_read) (q := view (OpenLaw.row PySem.Challenge.rw_lodepath_k37_values_written_and_read).prog [40]) (H := K37w.hk) (ob := K37w.ob) (M := 4000) (loose := K37w.names) (d := HandSHeadRun.topDef (OpenLaw.row PySem.Challenge.rw_lodepath_k37_values_written_and_read).prog 40) (kwd := []) K37w.ob_eq
    (by kernel_rfl) (fun s => by kernel_rfl) K37w.run (by kernel_rfl) (by kernel_rfl) (by kernel_rfl) (by rfl) (by first | assumption | decide +kernel) (by decide +kernel) ⟨rfl, rfl, rfl, rfl, rfl, by decide +kernel⟩ ?hw ?hc
  case hw => w_witness2
  case hc =>
    refine L2.walk_ofE (l := PySem.Challenge.rw_lodepath_k37_values_written_and_read) (n := 63) (k := 154) (x := "_law_script") (CX := L2.CX0) rfl (by decide) (by kernel_rfl) ⟨rfl, by decide, by decide⟩ ?F (fun _ _ _ _ z => z)
    intro w mg fa h Y G hmg0
    obtain ⟨K, KX, c⟩ := Y
    have hmg : mg ("law" : PySem.Str) = some (.ref fa) := by
      have e : (HandSHeadRun.topDef (OpenLaw.row PySem.Challenge.rw_lodepath_k37_values_written_and_read).prog 40).name = ("law" : PySem.Str) := by kernel_rfl
      rw [← e]
      exact hmg0
    obtain ⟨fd, hb, hF⟩ := K37w.enter (P := (PySem.Challenge.rw_lodepath_k37_values_written_and_read).prog) (w := w) KX G hmg c
    exact ⟨K, fd, (fun vs H Q _ => Lp.spF K (K37w.caT K) K37.G 150 "law" vs H Q fun _ _ _ => False), KX, hb, fun H a ns hl _ hS => Lp.law_enter hS (K37.law_true ns hl), hF⟩

