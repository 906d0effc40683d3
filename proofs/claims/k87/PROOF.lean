import PyProof.Rows.All
import HandS.ForMost
import HandS.ForExc
import HandS.DictComp
import HandS.Style
import HandS.Deep
import HandS.IsInst
import HandS.Property
import HandS.Lambda
import HandS.ExcSuper
import HandS.ExcValue
import HandS.ExcInit
import HandS.Zip
import HandS.Conv
import HandS.Walk
import HandS.TupAny
import HandS.TupMul
import HandS.TupLe
import HandS.Flow
import HandS.SortInts
import HandS.Head2
import HandS.HeadHook2
import HandS.HeadWalk
import HandS.CallSlots
import HandS.ExcOwn
import HandS.ExcIs
import HandS.Defaults
import HandS.RaiseMore
import PyProof.AutoSeq1
import PyProof.Draws
import PyProof.EnumMake
import HandS.ExcField
import HandS.Codes
import PyProof.MinMaxWalk
import HandS.FltList
import HandS.Nested
import KE.KExcSuper
import KE.KSuperObj
import HandS.HeadHook4
import PySem.Challenge.RW_stacksure_k87_whole_least_costs_of_texts
section
set_option Elab.async false
set_option linter.all false
/-! Fw1: pure values, stores, the position-less fragment E/St and its total evaluator. -/
namespace FW
open PySem

/-- a key of a dict -/
inductive KeyP where
  | k (x : L2.Key) | t (xs : List L2.Key)
  deriving DecidableEq

/-- pure values; lob/gob: references to the stores -/
inductive P where
  | non | bl (b : Bool) | int (i : Int) | str (x : Str) | ty (n : String)
  | tup (xs : List P) | lst (xs : List P) | dct (t : Bool) (kvs : List (KeyP × P))
  | ins (c : String) (fs : List (String × P)) | exc (c : String) (fs : List (String × P))
  | lob (n : Nat) | gob (n : Nat) | fn (f : String) | cls (c : String) | scr (xs : List P)
instance : Inhabited P := ⟨.non⟩

/-- what stands in a store -/
inductive Ob where
  | lst (xs : List P) | dct (t : Bool) (kvs : List (KeyP × P)) | ins (c : String) (fs : List (String × P))
structure Sto where
  l : List Ob
  g : List Ob
inductive R (α : Type) where
  | ok (a : α) (s : Sto) | exn (x : P) (s : Sto) | bad
abbrev M (α : Type) := Sto → R α
def ret {α : Type} (a : α) : M α := fun s => .ok a s
def bnd {α β : Type} (x : M α) (f : α → M β) : M β := fun s => match x s with
  | .ok a s' => f a s'
  | .exn e s' => .exn e s'
  | .bad => .bad
def bad {α : Type} : M α := fun _ => .bad
def ofO {α : Type} : Option α → M α
  | some a => ret a
  | none => bad
theorem bnd_ok {α β : Type} {x : M α} {f : α → M β} {s s' : Sto} {a : α} (h : x s = .ok a s') : bnd x f s = f a s' := by unfold bnd; rw [h]
theorem bnd_ret {α β : Type} (a : α) (f : α → M β) : bnd (ret a) f = f a := rfl
theorem ret_ap {α : Type} (a : α) (s : Sto) : ret a s = .ok a s := rfl
theorem ofO_some {α : Type} (a : α) : ofO (some a) = ret a := rfl
theorem bnd_exn {α β : Type} {x : M α} {f : α → M β} {s s' : Sto} {e : P} (h : x s = .exn e s') : bnd x f s = .exn e s' := by unfold bnd; rw [h]

theorem bnd_bad {α β : Type} {x : M α} {f : α → M β} {s : Sto} (h : x s = .bad) : bnd x f s = .bad := by unfold bnd; rw [h]
theorem bnd_inv {α β : Type} {x : M α} {f : α → M β} {s s' : Sto} {b : β} (h : bnd x f s = .ok b s') : ∃ a s1, x s = .ok a s1 ∧ f a s1 = .ok b s' := by
  unfold bnd at h
  cases e : x s with
  | ok a s1 => rw [e] at h; exact ⟨a, s1, rfl, h⟩
  | exn e s1 => rw [e] at h; cases h
  | bad => rw [e] at h; cases h

/-- how a display is allocated -/
inductive Al where | val | loc | glob
  deriving DecidableEq
inductive Op2 where | add | sub | mul | fdiv | mod | pow
  deriving DecidableEq
inductive Cm where | eq | ne | lt | le | gt | ge | is_ | isNot | in_ | notIn
  deriving DecidableEq
/-- built-in functions and types, called -/
inductive Bi where
  | len | abs | min | max | sum | all | any | int | str | list | tuple | sorted | repr | isinstance | zip | set | dict | bool
  deriving DecidableEq
/-- methods of built-in types -/
inductive Mt where
  | append | pop | extend | get | index | join | split | values | items | update | setdefault | clear | insert
  deriving DecidableEq

/-- targets -/
inductive T where
  | name (i : Nat) | tup (ts : List T)

mutual
inductive E where
  | var (i : Nat)
  | non | bl (b : Bool) | int (i : Int) | str (x : Str)
  | con (x : String) (p : P)
  | bty (n : String)
  | tup (es : List E) | lst (r : Al) (es : List E) | dct (r : Al) (t : Bool) (ks vs : List E)
  | bin (r : Al) (o : Op2) (a b : E) | neg (a : E)
  | not (a : E) | and (es : List E) | or (es : List E)
  | cmp (o : Cm) (a b : E) | chain (o o' : Cm) (a b c : E)
  | ite (t a b : E)
  | sub (a i : E) | slice (r : Al) (a lo hi : E) | rev (r : Al) (a : E) | abs
  | attr (a : E) (f : String)
  | call (f : String) (args : List E) (ds : List P) | callk (f : String) (args : List E) (ks : List String) (pm : List Nat) (vs : List E)
  | make (c : String) (args : List E)
  | bi (r : Al) (b : Bi) (args : List E)
  | meth (m : Mt) (o : E) (args : List E)
  | omet (m : String) (o : E) (args : List E)
  | comp (r : Al) (elt : E) (tg : T) (it : I) (ifs : List E) (own : List Nat)
  | dcomp (r : Al) (t : Bool) (key val : E) (tg : T) (it : I) (ifs : List E) (own : List Nat)
  | caught (f : String) (e : E)
inductive I where
  | seq (e : E) | keys (i : Nat) | range1 (a : E) | range2 (a b : E) | enum (e : E) | zip (a b : E)
end

inductive St where
  | asg (t : T) (e : E)
  | asub (o i e : E)
  | aattr (o : E) (f : String) (e : E)
  | aug (i : Nat) (o : Op2) (e : E)
  | expr (e : E)
  | ret (e : E) | retN
  | ifs (t : E) (a b : List St)
  | for_ (t : T) (it : I) (body : List St)
  | whl (t : E) (body : List St)
  | raise (c : String) (args : List E)
  | brk | cont | pass

abbrev Rho := List (Option P)
inductive Flow where
  | next | ret (p : P) | brk | cont

/-! ### primitives -/
def itemsOf (s : Sto) : P → Option (List P)
  | .tup xs => some xs
  | .scr xs => some xs
  | .lst xs => some xs
  | .lob n => match s.l[n]? with | some (.lst xs) => some xs | _ => none
  | .gob n => match s.g[n]? with | some (.lst xs) => some xs | _ => none
  | _ => none
def listOf (s : Sto) : P → Option (List P)
  | .lst xs => some xs
  | .lob n => match s.l[n]? with | some (.lst xs) => some xs | _ => none
  | .gob n => match s.g[n]? with | some (.lst xs) => some xs | _ => none
  | _ => none
/-- a tuple or a list, but the script -/
def seqOf (s : Sto) : P → Option (List P)
  | .tup xs => some xs
  | p => listOf s p
def dctOf (s : Sto) : P → Option (Bool × List (KeyP × P))
  | .dct t kvs => some (t, kvs)
  | .lob n => match s.l[n]? with | some (.dct t kvs) => some (t, kvs) | _ => none
  | .gob n => match s.g[n]? with | some (.dct t kvs) => some (t, kvs) | _ => none
  | _ => none
def keyK : P → Option L2.Key
  | .int i => some (.inl i)
  | .str x => some (.inr x)
  | _ => none
def keyKs : List P → Option (List L2.Key)
  | [] => some []
  | p :: r => match keyK p, keyKs r with | some k, some ks => some (k :: ks) | _, _ => none
def keyOf : P → Option KeyP
  | .tup xs => (keyKs xs).map .t
  | p => (keyK p).map .k
def look (kvs : List (KeyP × P)) (k : KeyP) : Option P := (kvs.find? fun kv => decide (kv.1 = k)).map (·.2)
def put (kvs : List (KeyP × P)) (k : KeyP) (v : P) : List (KeyP × P) :=
  if (kvs.any fun kv => decide (kv.1 = k)) = true then kvs.map (fun kv => if kv.1 = k then (kv.1, v) else kv) else kvs ++ [(k, v)]
def isT : KeyP → Bool | .t _ => true | .k _ => false
mutual
/-- no reference to a local object -/
def noLob : P → Bool
  | .lob _ => false
  | .tup xs => noLobs xs
  | .lst xs => noLobs xs
  | .scr xs => noLobs xs
  | .dct _ kvs => noLobk kvs
  | .ins _ fs => noLobf fs
  | .exc _ fs => noLobf fs
  | _ => true
def noLobs : List P → Bool
  | [] => true
  | p :: r => noLob p && noLobs r
def noLobk : List (KeyP × P) → Bool
  | [] => true
  | (_, p) :: r => noLob p && noLobk r
def noLobf : List (String × P) → Bool
  | [] => true
  | (_, p) :: r => noLob p && noLobf r
end
mutual
/-- no list, no dict as a value within -/
def flat : P → Bool
  | .lst _ => false
  | .scr _ => false
  | .dct _ _ => false
  | .tup xs => flats xs
  | .ins _ fs => flatf fs
  | .exc _ fs => flatf fs
  | _ => true
def flats : List P → Bool
  | [] => true
  | p :: r => flat p && flats r
def flatf : List (String × P) → Bool
  | [] => true
  | (_, p) :: r => flat p && flatf r
end
def Ob.ps : Ob → List P
  | .lst xs => xs
  | .dct _ kvs => kvs.map (·.2)
  | .ins _ fs => fs.map (·.2)
def Ob.noLob (o : Ob) : Bool := o.ps.all FW.noLob
def Ob.flat (o : Ob) : Bool := o.ps.all FW.flat

def allocL (o : Ob) : M P := fun s => .ok (.lob s.l.length) { s with l := s.l ++ [o] }
def allocG (o : Ob) : M P := fun s => if o.noLob then .ok (.gob s.g.length) { s with g := s.g ++ [o] } else .bad
/-- a new list -/
def mkL (r : Al) (xs : List P) : M P := match r with
  | .val => ret (.lst xs)
  | .loc => allocL (.lst xs)
  | .glob => allocG (.lst xs)
def mkD (r : Al) (t : Bool) (kvs : List (KeyP × P)) : M P := match r with
  | .val => ret (.dct t kvs)
  | .loc => allocL (.dct t kvs)
  | .glob => allocG (.dct t kvs)
/-- an object is written -/
def setOb (p : P) (o : Ob) : M Unit := fun s => match p with
  | .lob n => if n < s.l.length then .ok () { s with l := s.l.set n o } else .bad
  | .gob n => if n < s.g.length && o.noLob then .ok () { s with g := s.g.set n o } else .bad
  | _ => .bad
def line : Nat := 16777216

/-! views: a reference to a local object as the value that stands there -/
mutual
def vw (f : Nat → Option P) : P → Option P
  | .lob n => f n
  | .tup xs => (vws f xs).map .tup
  | .lst xs => (vws f xs).map .lst
  | .scr xs => (vws f xs).map .scr
  | .dct t kvs => (vwk f kvs).map (.dct t)
  | .ins c fs => (vwf f fs).map (.ins c)
  | .exc c fs => (vwf f fs).map (.exc c)
  | p => some p
def vws (f : Nat → Option P) : List P → Option (List P)
  | [] => some []
  | p :: r => match vw f p, vws f r with | some q, some qs => some (q :: qs) | _, _ => none
def vwk (f : Nat → Option P) : List (KeyP × P) → Option (List (KeyP × P))
  | [] => some []
  | (k, p) :: r => match vw f p, vwk f r with | some q, some qs => some ((k, q) :: qs) | _, _ => none
def vwf (f : Nat → Option P) : List (String × P) → Option (List (String × P))
  | [] => some []
  | (k, p) :: r => match vw f p, vwf f r with | some q, some qs => some ((k, q) :: qs) | _, _ => none
end
def view : Nat → Sto → P → Option P
  | 0, _ => vw fun _ => none
  | k + 1, s => vw fun n => match s.l[n]? with
    | some (.lst xs) => (xs.mapM (view k s)).map .lst
    | some (.dct t kvs) => (kvs.mapM fun kv => (view k s kv.2).map (kv.1, ·)).map (.dct t)
    | _ => none
mutual
/-- as data, for == -/
def toD (f : P → Option PyData) : P → Option PyData
  | .non => some .none
  | .bl b => some (.bool b)
  | .int i => some (.int i)
  | .str x => some (.str x)
  | .tup xs => (toDs f xs).map .tuple
  | .lst xs => (toDs f xs).map .list
  | .lob n => f (.lob n)
  | .gob n => f (.gob n)
  | _ => none
def toDs (f : P → Option PyData) : List P → Option (List PyData)
  | [] => some []
  | p :: r => match toD f p, toDs f r with | some q, some qs => some (q :: qs) | _, _ => none
end
def datOf : Nat → Sto → P → Option PyData
  | 0, _ => toD fun _ => none
  | k + 1, s => toD fun p => match listOf s p with
    | some xs => (xs.mapM (datOf k s)).map .list
    | none => none

def truth (s : Sto) : P → Option Bool
  | .non => some false
  | .bl b => some b
  | .int i => some (i != 0)
  | .str x => if x.length ≤ line then some ((x.length : Int) != 0) else none
  | .tup xs => some !xs.isEmpty
  | p => match listOf s p with
    | some xs => some !xs.isEmpty
    | none => none
def truthM (p : P) : M Bool := fun s => match truth s p with | some b => .ok b s | none => .bad

def small64 (i : Int) : Bool := decide (-(2 ^ 64) < i) && decide (i < 2 ^ 64)
def pAdd (r : Al) (a b : P) : M P := fun s => match a, b with
  | .int i, .int j => .ok (.int (i + j)) s
  | .str x, .str y => if x.length + y.length ≤ line then .ok (.str (x ++ y)) s else .bad
  | .tup xs, .tup ys => if xs.length + ys.length ≤ line then .ok (.tup (xs ++ ys)) s else .bad
  | a, b => match listOf s a, listOf s b with
    | some xs, some ys => if xs.length + ys.length ≤ line then mkL r (xs ++ ys) s else .bad
    | _, _ => .bad
def pSub (a b : P) : M P := fun s => match a, b with
  | .int i, .int j => .ok (.int (i - j)) s
  | _, _ => .bad
def pMul (r : Al) (a b : P) : M P := fun s => match a, b with
  | .int i, .int j => if small64 i || small64 j then .ok (.int (i * j)) s else .bad
  | .tup xs, .int k => if decide (2 ≤ k) && decide (k ≤ 1000) && decide (xs.length ≤ 1000) && !xs.isEmpty then .ok (.tup (List.replicate k.toNat xs).flatten) s else .bad
  | a, .int k => match listOf s a with
    | some xs => if decide (-(2 ^ 63) ≤ k) && decide (k < 2 ^ 63) && decide (xs.length * k.toNat ≤ line) then mkL r (List.replicate k.toNat xs).flatten s else .bad
    | none => .bad
  | _, _ => .bad
def pFdiv (a b : P) : M P := fun s => match a, b with
  | .int i, .int j => if decide (j ≠ 0) && decide (j.natAbs < 1073741824) then .ok (.int (i.fdiv j)) s else .bad
  | _, _ => .bad
def pMod (a b : P) : M P := fun s => match a, b with
  | .int i, .int j => if decide (j ≠ 0) then .ok (.int (i.fmod j)) s else .bad
  | _, _ => .bad
def pPow (a b : P) : M P := fun s => match a, b with
  | .int i, .int j => if decide (0 ≤ j) && decide (j ≤ 1000000) && decide (i.natAbs < 2 ^ 64) then .ok (.int (i ^ j.toNat)) s else .bad
  | _, _ => .bad
def pBin (r : Al) (o : Op2) : P → P → M P := match o with
  | .add => pAdd r | .sub => pSub | .mul => pMul r | .fdiv => pFdiv | .mod => pMod | .pow => pPow
def pNeg : P → M P
  | .int i => ret (.int (-i))
  | _ => bad

def b2iP (b : Bool) : Int := if b then 1 else 0
def flatP : P → Bool
  | .non => true | .int _ => true | .bl _ => true | .str _ => true | _ => false
def eqP : P → P → Bool
  | .non, .non => true
  | .int i, .int j => decide (i = j)
  | .bl a, .bl b => decide (a = b)
  | .int i, .bl b => decide (i = b2iP b)
  | .bl b, .int i => decide (b2iP b = i)
  | .str x, .str y => decide (x = y)
  | _, _ => false
def intsOf : List P → Option (List Int)
  | [] => some []
  | .int i :: r => (intsOf r).map (i :: ·)
  | _ => none
def blsOf : List P → Option (List Bool)
  | [] => some []
  | .bl b :: r => (blsOf r).map (b :: ·)
  | _ => none
/-- what a def, a class, a property does: the result is without references to local objects -/
inductive Rf where
  | ok (p : P) (g : List Ob) | exn (x : P) (g : List Ob) | bad
abbrev Fn := List P → List Ob → Rf
structure Fenv where
  fn : String → Option Fn
  mkc : String → Option Fn
  mkx : String → Option Fn
  prop : String → String → Option Fn
  meth : String → String → Option Fn
  sub : String → String → Bool
  cls : List String
  exc : List String

/-- a call: local objects are shown to the callee as the values that stand there -/
def callF (F : Fn) (args : List P) : M P := fun s =>
  if noLobs args then (match F args s.g with
    | .bad => .bad
    | .ok p g => .ok p ⟨s.l, g⟩
    | .exn x g => .exn x ⟨s.l, g⟩)
  else match args.mapM (view 3 s) with
  | none => .bad
  | some vs => match F vs s.g with
    | .bad => .bad
    | .ok p g => if flat p && g.all Ob.flat then .ok p ⟨s.l, g⟩ else .bad
    | .exn x g => if flat x && g.all Ob.flat then .exn x ⟨s.l, g⟩ else .bad
def callO (F : Option Fn) (args : List P) : M P := match F with
  | some F => callF F args
  | none => bad

/-- a call without local objects -/
def rsF (F : Fn) (args : List P) : M P := if noLobs args then callF F args else bad
def rsO (F : Option Fn) (args : List P) : M P := match F with
  | some F => rsF F args
  | none => bad
/-! indices, slices -/
def pIdx (o i : P) : M P := fun s => match o, i with
  | .str z, .int k => if z.length ≤ line then (match L2.atI z.cps.toList k with | some c => .ok (.str ⟨#[c]⟩) s | none => .bad) else .bad
  | o, i => match itemsOf s o with
    | some xs => (match i with
      | .int k => (match L2.atI xs k with | some p => .ok p s | none => .bad)
      | _ => .bad)
    | none => match dctOf s o, keyOf i with
      | some (t, kvs), some k => (match look kvs k with | some p => if isT k == t then .ok p s else .bad | none => .bad)
      | _, _ => .bad
def cutP (xs : List P) (lo hi : Option Int) : List P := (xs.drop (HT.sIx xs.length 0 lo)).take (HT.sIx xs.length xs.length hi - HT.sIx xs.length 0 lo)
def toI : P → M (Option Int)
  | .int i => ret (some i)
  | _ => bad
def pCut (r : Al) (o : P) (l h : Option Int) : M P := fun s => match o with
  | .tup xs => .ok (.tup (cutP xs l h)) s
  | o => match listOf s o with
    | some xs => mkL r (cutP xs l h) s
    | none => .bad
def isAbs : E → Bool
  | .abs => true
  | _ => false
def pRev (r : Al) (o : P) : M P := fun s => match o with
  | .tup xs => .ok (.tup xs.reverse) s
  | o => match listOf s o with
    | some xs => mkL r xs.reverse s
    | none => .bad

/-! comparisons -/
def deepEq (a b : P) : M Bool := fun s => match datOf 3 s a, datOf 3 s b with
  | some d, some e => if SeqAt.shaped d && SeqAt.shaped e then .ok (PyData.eqv d e) s else .bad
  | _, _ => .bad
def inSeq (x : P) (xs : List P) : Bool := xs.any fun y => eqP y x
/-- x in o -/
def pIn (x o : P) : M Bool := fun s => match itemsOf s o with
  | some xs => if flatP x && xs.all flatP then .ok (inSeq x xs) s
    else (match datOf 3 s x, datOf 3 s o with
      | some d, some (.list ds) => if SeqAt.shaped d && SeqAt.shaped (.list ds) then .ok (ds.any fun e => PyData.eqv e d) s else .bad
      | _, _ => .bad)
  | none => match dctOf s o with
    | some (t, kvs) => (match keyOf x with | some k => if isT k == t then .ok (look kvs k).isSome s else .bad | none => .bad)
    | none => match x, o with
      | .str i, .str j => .ok (!(Builtin.Str.occurrences j i 0 j.length 1).isEmpty) s
      | _, _ => .bad
def isNonP : P → Bool
  | .non => true
  | _ => false
def pIs (a b : P) : Option Bool := match b with
  | .non => some (isNonP a)
  | .bl c => (match a with | .bl d => some (decide (d = c)) | _ => none)
  | _ => none
def lexI : List Int → List Int → Bool := HT.lexLt
def pLt (a b : P) : Option Bool := match a, b with
  | .int i, .int j => some (decide (i < j))
  | .str i, .str j => some (decide (i.cps.toList < j.cps.toList))
  | .tup xs, .tup ys => (match intsOf xs, intsOf ys with | some is, some js => some (lexI is js) | _, _ => none)
  | _, _ => none
def pCmp (o : Cm) (a b : P) : M Bool := match o with
  | .eq => deepEq a b
  | .ne => bnd (deepEq a b) fun c => ret !c
  | .lt => ofO (pLt a b)
  | .le => (match a, b with | .int i, .int j => ret (decide (i ≤ j)) | _, _ => bad)
  | .gt => (match a, b with | .int i, .int j => ret (decide (j < i)) | _, _ => bad)
  | .ge => (match a, b with | .int i, .int j => ret (decide (j ≤ i)) | _, _ => bad)
  | .is_ => ofO (pIs a b)
  | .isNot => ofO ((pIs a b).map (!·))
  | .in_ => pIn a b
  | .notIn => bnd (pIn a b) fun c => ret !c

/-! built-in functions -/
def tyName : P → Option String
  | .non => some "NoneType" | .bl _ => some "bool" | .int _ => some "int" | .str _ => some "str"
  | .tup _ => some "tuple" | .lst _ => some "list" | .dct _ _ => some "dict" | _ => none
def tySub (a b : String) : Bool := a == b || (a == "bool" && b == "int") || b == "object"
/-- a class that is known -/
def isCl (Φ : Fenv) (e : String) : Bool := Φ.cls.contains e || Φ.exc.contains e
def bts : List String := ["int", "bool", "list", "tuple", "str", "dict"]
/-- isinstance of one class -/
def isOne (Φ : Fenv) (s : Sto) (p c : P) : Option Bool := match p with
  | .ins d _ => (match c with | .cls e => if Φ.cls.contains d && isCl Φ e then some (Φ.sub d e) else none | _ => none)
  | .exc d _ => (match c with | .cls e => if Φ.exc.contains d && isCl Φ e then some (Φ.sub d e) else none | _ => none)
  | .lob n => (match s.l[n]?, c with
    | some (.lst _), .ty t => if bts.contains t then some (tySub "list" t) else none
    | some (.lst _), .cls e => if isCl Φ e then some false else none
    | _, _ => none)
  | .dct _ _ => none
  | p => (match tyName p, c with
    | some n, .ty t => if bts.contains t then some (tySub n t) else none
    | some _, .cls e => if isCl Φ e then some false else none
    | _, _ => none)
def isAny (Φ : Fenv) (s : Sto) (p : P) : List P → Option Bool
  | [] => none
  | [c] => isOne Φ s p c
  | c :: r => match isOne Φ s p c with | some true => some true | some false => isAny Φ s p r | none => none
def minBy (lt : P → P → Option Bool) : List P → P → Option P
  | [], m => some m
  | x :: r, m => match lt x m with | some true => minBy lt r x | some false => minBy lt r m | none => none
def pMin (xs : List P) : Option P := match xs with | [] => none | x :: r => minBy pLt r x
def pMax (xs : List P) : Option P := match xs with | [] => none | x :: r => minBy (fun a b => pLt b a) r x
/-- tuples of ints -/
def tupsOf : List P → Option (List (List Int))
  | [] => some []
  | .tup xs :: r => (match intsOf xs, tupsOf r with | some t, some ts => some (t :: ts) | _, _ => none)
  | _ => none
def okMx (xs : List P) : Bool := (intsOf xs).isSome
def okMn (xs : List P) : Bool := (intsOf xs).isSome || (tupsOf xs).isSome
def zipP : List P → List P → List P
  | x :: xs, y :: ys => .tup [x, y] :: zipP xs ys
  | _, _ => []
def insI (x : Int) : List Int → List Int
  | [] => [x]
  | y :: r => if x ≤ y then x :: y :: r else y :: insI x r
def sortI : List Int → List Int
  | [] => []
  | x :: r => insI x (sortI r)
def pBi (Φ : Fenv) (r : Al) (b : Bi) (args : List P) : M P := fun s => match b, args with
  | .len, [o] => (match o with
    | .str z => if z.length ≤ line then .ok (.int z.length) s else .bad
    | o => match itemsOf s o with
      | some xs => .ok (.int xs.length) s
      | none => match dctOf s o with
        | some (false, kvs) => .ok (.int kvs.length) s
        | _ => .bad)
  | .abs, [.int i] => .ok (.int (if i < 0 then -i else i)) s
  | .min, [.int i, .int j] => .ok (.int (if j < i then j else i)) s
  | .max, [.int i, .int j] => .ok (.int (if j > i then j else i)) s
  | .min, [o] => (match listOf s o with | some xs => if okMn xs then (match pMin xs with | some p => .ok p s | none => .bad) else .bad | none => .bad)
  | .max, [o] => (match listOf s o with | some xs => if okMx xs then (match pMax xs with | some p => .ok p s | none => .bad) else .bad | none => .bad)
  | .sum, [o] => (match listOf s o with | some xs => (match intsOf xs with | some is => .ok (.int is.sum) s | none => .bad) | none => .bad)
  | .all, [o] => (match listOf s o with | some xs => (match blsOf xs with | some is => .ok (.bl (is.all id)) s | none => .bad) | none => .bad)
  | .any, [o] => (match listOf s o with | some xs => (match blsOf xs with | some is => .ok (.bl (is.any id)) s | none => .bad) | none => .bad)
  | .int, [.int i] => .ok (.int i) s
  | .int, [.bl c] => .ok (.int (if c then 1 else 0)) s
  | .str, [.int i] => if i.natAbs.log2 < 1920 then .ok (.str (toString i)) s else .bad
  | .str, [.str x] => .ok (.str x) s
  | .list, [o] => (match itemsOf s o with | some xs => mkL r xs s | none => .bad)
  | .tuple, [o] => (match itemsOf s o with | some xs => .ok (.tup xs) s | none => .bad)
  | .sorted, [o] => (match listOf s o with | some xs => (match intsOf xs with | some is => if is.length < 64 then mkL r ((sortI is).map .int) s else .bad | none => .bad) | none => .bad)
  | .isinstance, [p, .tup cs] => (match isAny Φ s p cs with | some c => .ok (.bl c) s | none => .bad)
  | .isinstance, [p, c] => (match isOne Φ s p c with | some c => .ok (.bl c) s | none => .bad)
  | _, _ => .bad

/-! methods of built-in types -/
def pAppend (o : P) (args : List P) : M P := fun s => match args with
  | [x] => (match listOf s o with
    | some xs => if xs.length < line then (bnd (setOb o (.lst (xs ++ [x]))) fun _ => ret .non) s else .bad
    | none => .bad)
  | _ => .bad
def pExtend (o : P) (args : List P) : M P := fun s => match args with
  | [y] => (match listOf s o, seqOf s y with
    | some xs, some ys => if xs.length + ys.length ≤ line then (bnd (setOb o (.lst (xs ++ ys))) fun _ => ret .non) s else .bad
    | _, _ => .bad)
  | _ => .bad
def pPop (o : P) (args : List P) : M P := fun s => match args with
  | [] => (match listOf s o with
    | some xs => (match xs[xs.length - 1]? with | some y => (bnd (setOb o (.lst xs.dropLast)) fun _ => ret y) s | none => .bad)
    | none => .bad)
  | [.int i] => (match listOf s o with
    | some xs => if decide (-(2 ^ 63) ≤ i) && decide (i < 2 ^ 63) then (match seqIndex? i xs.length with
      | some k => (match xs[k]? with | some y => (bnd (setOb o (.lst (xs.eraseIdx k))) fun _ => ret y) s | none => .bad)
      | none => .bad) else .bad
    | none => .bad)
  | _ => .bad
def pGet (o : P) (args : List P) : M P := fun s => match args with
  | [k] => (match dctOf s o, keyOf k with | some (t, kvs), some k => if isT k == t then .ok ((look kvs k).getD .non) s else .bad | _, _ => .bad)
  | [k, d] => (match dctOf s o, keyOf k with | some (t, kvs), some k => if isT k == t then .ok ((look kvs k).getD d) s else .bad | _, _ => .bad)
  | _ => .bad
def pMt (m : Mt) (o : P) (args : List P) : M P := match m with
  | .append => pAppend o args
  | .extend => pExtend o args
  | .pop => pPop o args
  | .get => pGet o args
  | _ => bad
/-- a method's receiver -/
def isLst (p : P) : M Unit := fun s => match listOf s p with | some _ => .ok () s | none => .bad
/-- o[i] = v -/
def pSet (o i v : P) : M Unit := fun s => match listOf s o with
  | some xs => (match i with
    | .int k => (match L2.ixN xs.length k with | some j => setOb o (.lst (xs.set j v)) s | none => .bad)
    | _ => .bad)
  | none => match dctOf s o, keyOf i with
    | some (t, kvs), some k => if kvs.length < line && isT k == t then setOb o (.dct t (put kvs k v)) s else .bad
    | _, _ => .bad

/-- a field is set -/
def putFP (f : String) (v : P) : List (String × P) → List (String × P)
  | [] => [(f, v)]
  | (g, x) :: r => if g = f then (g, v) :: r else (g, x) :: putFP f v r
/-! targets -/
mutual
def asgT : T → P → Rho → Option Rho
  | .name i, p, ρ => some (ρ.set i (some p))
  | .tup ts, .tup ps, ρ => asgTs ts ps ρ
  | .tup _, _, _ => none
def asgTs : List T → List P → Rho → Option Rho
  | [], [], ρ => some ρ
  | t :: ts, p :: ps, ρ => match asgT t p ρ with | some ρ' => asgTs ts ps ρ' | none => none
  | _, _, _ => none
end

/-! what is walked -/
inductive Iter where
  | vals (xs : List P) | ref (p : P) (mk : Nat → P → P)
def FUEL : Nat := 2 ^ 60
def rangeP (lo : Int) (n : Nat) : List P := (List.range n).map fun i => .int (lo + (i : Nat))
def enumP (xs : List P) : List P := (xs.zipIdx).map fun p => .tup [.int (p.2 : Nat), p.1]
def okR (i : Int) : Bool := decide (-(2 ^ 62) ≤ i) && decide (i < 2 ^ 62)
def keyK' : L2.Key → P
  | .inl i => .int i
  | .inr x => .str x
def keyP : KeyP → P
  | .k x => keyK' x
  | .t xs => .tup (xs.map keyK')
def iterOf (p : P) : M Iter := fun s => match p with
  | .tup xs => .ok (.vals xs) s
  | .scr xs => .ok (.vals xs) s
  | .lst xs => .ok (.vals xs) s
  | .lob n => (match s.l[n]? with | some (.lst _) => .ok (.ref (.lob n) fun _ x => x) s | _ => .bad)
  | .gob n => (match s.g[n]? with | some (.lst _) => .ok (.ref (.gob n) fun _ x => x) s | _ => .bad)
  | _ => .bad
def keysOf (p : P) : M Iter := fun s => match p with
  | .dct false kvs => .ok (.vals (kvs.map fun kv => keyP kv.1)) s
  | _ => .bad
def enumOf (p : P) : M Iter := fun s => match p with
  | .tup xs => .ok (.vals (enumP xs)) s
  | .lst xs => .ok (.vals (enumP xs)) s
  | .lob n => (match s.l[n]? with | some (.lst _) => .ok (.ref (.lob n) fun i x => .tup [.int (i : Nat), x]) s | _ => .bad)
  | .gob n => (match s.g[n]? with | some (.lst _) => .ok (.ref (.gob n) fun i x => .tup [.int (i : Nat), x]) s | _ => .bad)
  | _ => .bad

def forVals (step : P → Rho → M (Flow × Rho)) : List P → Rho → M (Flow × Rho)
  | [], ρ => ret (.next, ρ)
  | x :: xs, ρ => bnd (step x ρ) fun q => match q.1 with
    | .next => forVals step xs q.2
    | .cont => forVals step xs q.2
    | .brk => ret (.next, q.2)
    | .ret p => ret (.ret p, q.2)
def forRef (p : P) (mk : Nat → P → P) (step : P → Rho → M (Flow × Rho)) : Nat → Nat → Rho → M (Flow × Rho)
  | 0, _, _ => bad
  | n + 1, i, ρ => fun s => match listOf s p with
    | none => .bad
    | some xs => match xs[i]? with
      | none => .ok (.next, ρ) s
      | some x => (bnd (step (mk i x) ρ) fun q => match q.1 with
        | .next => forRef p mk step n (i + 1) q.2
        | .cont => forRef p mk step n (i + 1) q.2
        | .brk => ret (.next, q.2)
        | .ret p => ret (.ret p, q.2)) s
def forIter (it : Iter) (step : P → Rho → M (Flow × Rho)) (ρ : Rho) : M (Flow × Rho) := match it with
  | .vals xs => forVals step xs ρ
  | .ref p mk => forRef p mk step FUEL 0 ρ
/-- nothing is raised -/
def quiet {α : Type} (m : M α) : M α := fun s => match m s with
  | .ok a s' => .ok a s'
  | .exn _ _ => .bad
  | .bad => .bad
/-- a comprehension's turns: what each adds -/
def colVals {α : Type} (step : P → α → M α) : List P → α → M α
  | [], a => ret a
  | x :: xs, a => bnd (step x a) fun a' => colVals step xs a'
def colRef {α : Type} (p : P) (mk : Nat → P → P) (step : P → α → M α) : Nat → Nat → α → M α
  | 0, _, _ => bad
  | n + 1, i, a => fun s => match listOf s p with
    | none => .bad
    | some xs => match xs[i]? with
      | none => .ok a s
      | some x => (bnd (step (mk i x) a) fun a' => colRef p mk step n (i + 1) a') s
def colIter {α : Type} (it : Iter) (step : P → α → M α) (a : α) : M α := match it with
  | .vals xs => colVals step xs a
  | .ref p mk => colRef p mk step FUEL 0 a
def whileL (c : Rho → M Bool) (b : Rho → M (Flow × Rho)) : Nat → Rho → M (Flow × Rho)
  | 0, _ => bad
  | n + 1, ρ => bnd (c ρ) fun k => if k then bnd (b ρ) fun q => match q.1 with
      | .next => whileL c b n q.2
      | .cont => whileL c b n q.2
      | .brk => ret (.next, q.2)
      | .ret p => ret (.ret p, q.2)
    else ret (.next, ρ)
def wipeR (ρ : Rho) : List Nat → Rho
  | [] => ρ
  | v :: vs => (wipeR ρ vs).set v none

/-! ### the evaluator -/
def getV (ρ : Rho) (i : Nat) : M P := match ρ[i]? with
  | some (some p) => ret p
  | _ => bad
def pFld (Φ : Fenv) (o : P) (c : String) (fs : List (String × P)) (f : String) : M P :=
  if Φ.cls.contains c then (match Φ.prop c f with
    | some F => quiet (callF F [o])
    | none => (match fs.lookup f with
      | some p => ret p
      | none => bad)) else bad
def pAttr (Φ : Fenv) (o : P) (f : String) : M P := fun s => match o with
  | .ins c fs => pFld Φ o c fs f s
  | .exc c fs => if Φ.exc.contains c then (match fs.lookup f with | some p => .ok p s | none => .bad) else .bad
  | .gob n => (match s.g[n]? with
    | some (.ins c fs) => pFld Φ o c fs f s
    | _ => .bad)
  | _ => .bad
def pOmet (Φ : Fenv) (m : String) (o : P) (args : List P) : M P := fun s => match o with
  | .ins c _ => callO (Φ.meth c m) (o :: args) s
  | .gob n => (match s.g[n]? with
    | some (.ins c _) => callO (Φ.meth c m) (o :: args) s
    | _ => .bad)
  | _ => .bad
def excCls : P → Option String
  | .exc c _ => some c
  | _ => none
/-- an error is kept, nothing else may be raised -/
def cauM (ec : String → Bool) (m : M P) : M P := fun s => match m s with
  | .ok _ s' => .ok .non s'
  | .exn x s' => (match excCls x with
    | some c => if ec c = true then .ok x s' else .bad
    | none => .bad)
  | .bad => .bad
/-- the exceptions that a look for errors keeps -/
def ecOf (Φ : Fenv) (c : String) : Bool := Φ.exc.contains c && Φ.sub c "StackError"
def kvOf : List P → List P → Option (List (KeyP × P))
  | [], [] => some []
  | k :: ks, v :: vs => match keyOf k, kvOf ks vs with | some k, some r => some ((k, v) :: r) | _, _ => none
  | _, _ => none
def dispD (t : Bool) (ks vs : List P) : Option (List (KeyP × P)) := match kvOf ks vs with
  | some kvs => if kvs.all (fun kv => isT kv.1 == t) && decide (kvs.length ≤ 15) then some (kvs.foldl (fun acc kv => put acc kv.1 kv.2) []) else none
  | none => none

mutual
def ev (Φ : Fenv) : E → Rho → M P
  | .var i, ρ => getV ρ i
  | .non, _ => ret .non
  | .bl b, _ => ret (.bl b)
  | .int i, _ => ret (.int i)
  | .str x, _ => ret (.str x)
  | .con _ p, _ => ret p
  | .bty n, _ => ret (.ty n)
  | .abs, _ => bad
  | .tup es, ρ => bnd (evs Φ es ρ) fun ps => if ps.length ≤ line then ret (.tup ps) else bad
  | .lst r es, ρ => bnd (evs Φ es ρ) fun ps => if ps.length ≤ line then mkL r ps else bad
  | .dct r t ks vs, ρ => bnd (evs Φ ks ρ) fun ps => bnd (quiet (evs Φ vs ρ)) fun qs => bnd (ofO (dispD t ps qs)) fun kvs => mkD r t kvs
  | .bin r o a b, ρ => bnd (ev Φ a ρ) fun p => bnd (ev Φ b ρ) fun q => pBin r o p q
  | .neg a, ρ => bnd (ev Φ a ρ) pNeg
  | .not a, ρ => bnd (ev Φ a ρ) fun p => bnd (truthM p) fun c => ret (.bl !c)
  | .and es, ρ => evAnd Φ es ρ
  | .or es, ρ => evOr Φ es ρ
  | .cmp o a b, ρ => bnd (ev Φ a ρ) fun p => bnd (ev Φ b ρ) fun q => bnd (pCmp o p q) fun c => ret (.bl c)
  | .chain o o' a b c, ρ => bnd (ev Φ a ρ) fun p => bnd (ev Φ b ρ) fun q => bnd (pCmp o p q) fun k =>
      if k then bnd (ev Φ c ρ) fun r => bnd (pCmp o' q r) fun k' => ret (.bl k') else ret (.bl false)
  | .ite t a b, ρ => bnd (ev Φ t ρ) fun p => bnd (truthM p) fun c => if c then ev Φ a ρ else ev Φ b ρ
  | .sub a i, ρ => bnd (ev Φ a ρ) fun p => bnd (ev Φ i ρ) fun q => pIdx p q
  | .slice r a lo hi, ρ => bnd (ev Φ a ρ) fun p => bnd (if isAbs lo then ret none else bnd (ev Φ lo ρ) toI) fun l => bnd (if isAbs hi then ret none else bnd (ev Φ hi ρ) toI) fun h => pCut r p l h
  | .rev r a, ρ => bnd (ev Φ a ρ) (pRev r)
  | .attr a f, ρ => bnd (ev Φ a ρ) fun p => pAttr Φ p f
  | .call f args ds, ρ => bnd (evs Φ args ρ) fun ps => callO (Φ.fn f) (ps ++ ds)
  | .callk f args _ pm vs, ρ => bnd (evs Φ args ρ) fun ps => bnd (evs Φ vs ρ) fun qs => callO (Φ.fn f) (ps ++ pm.filterMap (qs[·]?))
  | .make c args, ρ => bnd (evs Φ args ρ) fun ps => callO (Φ.mkc c) ps
  | .bi r b args, ρ => bnd (evs Φ args ρ) fun ps => pBi Φ r b ps
  | .meth m o args, ρ => bnd (ev Φ o ρ) fun p => bnd (isLst p) fun _ => bnd (evs Φ args ρ) fun ps => pMt m p ps
  | .omet m o args, ρ => bnd (ev Φ o ρ) fun p => bnd (evs Φ args ρ) fun ps => pOmet Φ m p ps
  | .comp r elt tg it ifs own, ρ => bnd (evI Φ it ρ) fun iter =>
      bnd (colIter iter (fun x acc => bnd (ofO (asgT tg x (wipeR ρ own))) fun ρ' => bnd (quiet (evIfs Φ ifs ρ')) fun c =>
        if c then bnd (quiet (ev Φ elt ρ')) fun p => if acc.length < line then ret (acc ++ [p]) else bad else ret acc) []) fun ps => mkL r ps
  | .dcomp r t key val tg it ifs own, ρ => bnd (evI Φ it ρ) fun iter =>
      bnd (colIter iter (fun x acc => bnd (ofO (asgT tg x (wipeR ρ own))) fun ρ' => bnd (quiet (evIfs Φ ifs ρ')) fun c =>
        if c then bnd (quiet (ev Φ key ρ')) fun k => bnd (quiet (ev Φ val ρ')) fun v => bnd (ofO (keyOf k)) fun k =>
          if acc.length < line && isT k == t then ret (put acc k v) else bad else ret acc) []) fun kvs => mkD r t kvs
  | .caught _ e, ρ => cauM (ecOf Φ) (ev Φ e ρ)
def evs (Φ : Fenv) : List E → Rho → M (List P)
  | [], _ => ret []
  | e :: r, ρ => bnd (ev Φ e ρ) fun p => bnd (evs Φ r ρ) fun ps => ret (p :: ps)
def evAnd (Φ : Fenv) : List E → Rho → M P
  | [], _ => bad
  | [e], ρ => ev Φ e ρ
  | e :: r, ρ => bnd (ev Φ e ρ) fun p => bnd (truthM p) fun c => if c then evAnd Φ r ρ else ret p
def evOr (Φ : Fenv) : List E → Rho → M P
  | [], _ => bad
  | [e], ρ => ev Φ e ρ
  | e :: r, ρ => bnd (ev Φ e ρ) fun p => bnd (truthM p) fun c => if c then ret p else evOr Φ r ρ
def evIfs (Φ : Fenv) : List E → Rho → M Bool
  | [], _ => ret true
  | e :: r, ρ => bnd (ev Φ e ρ) fun p => bnd (truthM p) fun c => if c then evIfs Φ r ρ else ret false
def evI (Φ : Fenv) : I → Rho → M Iter
  | .seq e, ρ => bnd (ev Φ e ρ) iterOf
  | .keys i, ρ => bnd (getV ρ i) keysOf
  | .range1 a, ρ => bnd (ev Φ a ρ) fun p => match p with | .int j => if okR j then ret (.vals (rangeP 0 j.toNat)) else bad | _ => bad
  | .range2 a b, ρ => bnd (ev Φ a ρ) fun p => bnd (ev Φ b ρ) fun q => match p, q with
    | .int i, .int j => if okR i && okR j then ret (.vals (rangeP i (j - i).toNat)) else bad
    | _, _ => bad
  | .enum e, ρ => bnd (ev Φ e ρ) enumOf
  | .zip a b, ρ => bnd (ev Φ a ρ) fun p => bnd (ev Φ b ρ) fun q => fun s => match p, q with
    | .lst xs, .lst ys => .ok (.vals (zipP xs ys)) s
    | .tup xs, .tup ys => .ok (.vals (zipP xs ys)) s
    | _, _ => .bad
end

mutual
def ex (Φ : Fenv) : St → Rho → M (Flow × Rho)
  | .asg t e, ρ => bnd (ev Φ e ρ) fun p => bnd (ofO (asgT t p ρ)) fun ρ' => ret (.next, ρ')
  | .asub o i e, ρ => bnd (ev Φ e ρ) fun p => bnd (ev Φ o ρ) fun q => bnd (ev Φ i ρ) fun k => bnd (pSet q k p) fun _ => ret (.next, ρ)
  | .aattr o f e, ρ => bnd (ev Φ e ρ) fun p => bnd (ev Φ o ρ) fun q => fun s => (match q with
    | .gob n => (match s.g[n]? with
      | some (.ins c fs) => if Φ.cls.contains c && (Φ.prop c f).isNone && decide (fs.length < 900) then (bnd (setOb q (.ins c (putFP f p fs))) fun _ => ret (.next, ρ)) s else .bad
      | _ => .bad)
    | _ => .bad)
  | .aug i o e, ρ => bnd (getV ρ i) fun p => bnd (ev Φ e ρ) fun q => bnd (pBin .val o p q) fun r => ret (.next, ρ.set i (some r))
  | .expr e, ρ => bnd (ev Φ e ρ) fun _ => ret (.next, ρ)
  | .ret e, ρ => bnd (ev Φ e ρ) fun p => ret (.ret p, ρ)
  | .retN, ρ => ret (.ret .non, ρ)
  | .ifs t a b, ρ => bnd (ev Φ t ρ) fun p => bnd (truthM p) fun c => if c then exs Φ a ρ else exs Φ b ρ
  | .for_ t it body, ρ => bnd (evI Φ it ρ) fun iter => forIter iter (fun x ρ' => bnd (ofO (asgT t x ρ')) fun ρ2 => exs Φ body ρ2) ρ
  | .whl t body, ρ => whileL (fun ρ' => bnd (ev Φ t ρ') truthM) (fun ρ' => exs Φ body ρ') FUEL ρ
  | .raise c args, ρ => bnd (evs Φ args ρ) fun ps => bnd (rsO (Φ.mkx c) ps) fun x => fun s => .exn x s
  | .brk, ρ => ret (.brk, ρ)
  | .cont, ρ => ret (.cont, ρ)
  | .pass, ρ => ret (.next, ρ)
def exs (Φ : Fenv) : List St → Rho → M (Flow × Rho)
  | [], ρ => ret (.next, ρ)
  | st :: r, ρ => bnd (ex Φ st ρ) fun q => match q.1 with
    | .next => exs Φ r q.2
    | _ => ret q
end
/-- what a call's flow gives -/
def flowP : Flow → Option P
  | .ret p => some p
  | .next => some .non
  | _ => none
/-- out of a def: what is seen of the value -/
def outF : R (Flow × Rho) → Rf
  | .ok (f, _) s => (match flowP f with
    | some p => (match view 3 s p with
      | some p => .ok p s.g
      | none => .bad)
    | none => .bad)
  | .exn x s => if noLob x then .exn x s.g else .bad
  | .bad => .bad
/-- what a def does: n names, the k parameters first -/
def run (Φ : Fenv) (k n : Nat) (body : List St) : Fn := fun args g =>
  if args.length = k then outF (exs Φ body (args.map some ++ List.replicate (n - k) none) ⟨[], g⟩) else .bad
/-! ### what stands around a def -/
mutual
/-- only global objects below n -/
def lowG (n : Nat) : P → Bool
  | .gob m => decide (m < n)
  | .tup xs => lowGs n xs
  | .lst xs => lowGs n xs
  | .scr xs => lowGs n xs
  | .dct _ kvs => lowGk n kvs
  | .ins _ fs => lowGf n fs
  | .exc _ fs => lowGf n fs
  | _ => true
def lowGs (n : Nat) : List P → Bool
  | [] => true
  | p :: r => lowG n p && lowGs n r
def lowGk (n : Nat) : List (KeyP × P) → Bool
  | [] => true
  | (_, p) :: r => lowG n p && lowGk n r
def lowGf (n : Nat) : List (String × P) → Bool
  | [] => true
  | (_, p) :: r => lowG n p && lowGf n r
end
def Ob.low (n : Nat) : Ob → Bool
  | .lst xs => lowGs n xs
  | .dct _ kvs => lowGk n kvs
  | .ins _ fs => lowGf n fs
/-- a new instance: its __init__ runs on it, then it is a value -/
def mkF (c : String) (Fi : Fn) : Fn := fun args g => match Fi (.gob g.length :: args) (g ++ [.ins c []]) with
  | .ok .non g' => (match g'[g.length]? with
    | some (.ins c' fs) => if decide (c' = c) && decide (g'.length = g.length + 1) && lowGf g.length fs && (g'.take g.length).all (Ob.low g.length) then .ok (.ins c fs) (g'.take g.length) else .bad
    | _ => .bad)
  | .exn x g' => if decide (g'.length = g.length + 1) && lowG g.length x && (g'.take g.length).all (Ob.low g.length) then .exn x (g'.take g.length) else .bad
  | _ => .bad
/-- the exception's making -/
def mkX (cl fld : String) : Fn := fun args g => match args with
  | [p] => if noLob p then .ok (.exc cl [(fld, p)]) g else .bad
  | _ => .bad
/-- the package's classes -/
def uIns : List String := ["Program", "Journal", "Desk", "Mender", "Filler", "Machine", "Runs"]
def uPar : List (String × List String) := [("StackError", ["StackError"]), ("PartError", ["PartError", "StackError"]), ("ItemError", ["ItemError", "StackError"]), ("TooMany", ["TooMany", "StackError"]), ("BadNumber", ["BadNumber", "PartError", "StackError"]), ("BadProgram", ["BadProgram", "PartError", "StackError"]), ("BadRow", ["BadRow", "PartError", "StackError"]), ("BadText", ["BadText", "ItemError", "StackError"]), ("NoProgram", ["NoProgram", "PartError", "StackError"]), ("BadLetter", ["BadLetter", "StackError"]), ("BadNames", ["BadNames", "StackError"]), ("BadProcedure", ["BadProcedure", "StackError"]), ("NoRoom", ["NoRoom", "StackError"]), ("BadPrices", ["BadPrices", "ItemError", "StackError"]), ("BadScript", ["BadScript", "ItemError", "StackError"]), ("BadWays", ["BadWays", "StackError"]), ("BadMachine", ["BadMachine", "PartError", "StackError"]), ("NoMachine", ["NoMachine", "StackError"]), ("NotFinite", ["NotFinite", "StackError"]), ("Unlike", ["Unlike", "StackError"]), ("BadBits", ["BadBits", "StackError"]), ("BadPaper", ["BadPaper", "StackError"]), ("BadFrame", ["BadFrame", "StackError"]), ("BadTimes", ["BadTimes", "StackError"]), ("NotPower", ["NotPower", "StackError"]), ("BadTable", ["BadTable", "StackError"]), ("BadRows", ["BadRows", "ItemError", "StackError"]), ("BadLines", ["BadLines", "ItemError", "StackError"]), ("BadEdit", ["BadEdit", "StackError"]), ("BadChange", ["BadChange", "StackError"]), ("NothingDone", ["NothingDone", "StackError"]), ("NothingUndone", ["NothingUndone", "StackError"]), ("NoJournal", ["NoJournal", "StackError"]), ("BadLine", ["BadLine", "StackError"]), ("BadCosts", ["BadCosts", "ItemError", "StackError"]), ("BadPlace", ["BadPlace", "StackError"]), ("NotRead", ["NotRead", "StackError"]), ("Program", ["Program"]), ("Journal", ["Journal"]), ("Desk", ["Desk"]), ("Mender", ["Mender"]), ("Filler", ["Filler"]), ("Machine", ["Machine"]), ("Runs", ["Runs"])]
def uExn : List String := ["StackError", "PartError", "ItemError", "TooMany", "BadNumber", "BadProgram", "BadRow", "BadText", "NoProgram", "BadLetter", "BadNames", "BadProcedure", "NoRoom", "BadPrices", "BadScript", "BadWays", "BadMachine", "NoMachine", "NotFinite", "Unlike", "BadBits", "BadPaper", "BadFrame", "BadTimes", "NotPower", "BadTable", "BadRows", "BadLines", "BadEdit", "BadChange", "NothingDone", "NothingUndone", "NoJournal", "BadLine", "BadCosts", "BadPlace", "NotRead"]
def uSub (a b : String) : Bool := ((uPar.lookup a).getD []).contains b
/-- what a def calls, makes, raises, reads by properties -/
structure Dep where
  fs : List (String × Fn) := []
  ms : List (String × Fn) := []
  xs : List (String × String) := []
  ps : List ((String × String) × Fn) := []
def Dep.phi (d : Dep) : Fenv where
  fn := fun f => d.fs.lookup f
  mkc := fun f => d.ms.lookup f
  mkx := fun c => (d.xs.lookup c).map (mkX c)
  prop := fun c f => d.ps.lookup (c, f)
  meth := fun _ _ => none
  sub := uSub
  cls := uIns
  exc := uExn
end FW

end

section
set_option Elab.async false
set_option linter.all false
/-! Fw2: how pure values and stores lie in the abstract heap; liftings. -/
namespace FW
open PySem PySem.Spec L2

abbrev Mg := Str → Option Value
/-- the tables of code objects that are kept in mind -/
class Tb where
  T : List (Addr × Str)
variable [Tb]
/-- the addresses of the stores' objects -/
structure As where
  l : List Addr
  g : List Addr
def Own (A : As) (a : Addr) : Prop := a ∈ A.l ∨ a ∈ A.g
abbrev Fb := Addr → Prop

section
variable (mg : Mg) (A : As) (B : Fb) (H : Hp)
mutual
def Rep : P → V → Prop
  | .non, v => v = .non
  | .bl b, v => v = .bl b
  | .int i, v => v = .int i
  | .str x, v => v = .str x
  | .ty n, v => v = .ty n
  | .tup xs, v => ∃ a vs, v = .ref a ∧ H a = some (.tup vs) ∧ ¬ B a ∧ Reps xs vs
  | .lst xs, v => ∃ a vs, v = .ref a ∧ H a = some (.lst vs) ∧ ¬ B a ∧ Reps xs vs
  | .scr xs, v => ∃ a vs, v = .ref a ∧ Rd H a (.lst vs) ∧ ¬ B a ∧ Reps xs vs
  | .dct false kvs, v => ∃ a ks, v = .ref a ∧ Rd H a (.dK ks) ∧ ¬ B a ∧ RepK kvs ks
  | .dct true kvs, v => ∃ a ks, v = .ref a ∧ Rd H a (.dT ks) ∧ ¬ B a ∧ RepT kvs ks
  | .ins c fs, v => ∃ a C dx gs, v = .ref a ∧ H a = some (.ins C dx gs) ∧ ¬ B a ∧ mg (c : Str) = some (.ref C) ∧ RepF fs gs
  | .exc c fs, v => ∃ a C, v = .ref a ∧ ¬ B a ∧ mg (c : Str) = some (.ref C) ∧
      ((fs = [] ∧ ∃ φ, H a = some (.ext φ) ∧ ∀ h, φ h → ∃ oe vs, h.get? a = some oe ∧ Zc (.ref C) none oe ∧ oe.data = .fields vs) ∨
       ∃ d gs φ, H a = some (.ext φ) ∧ (∀ h, φ h → ∃ oe vs, h.get? a = some oe ∧ Zc (.ref C) (some d) oe ∧ oe.data = .fields vs) ∧ H d = some (.xd gs) ∧ ¬ B d ∧ RepF fs gs)
  | .lob n, v => ∃ a, v = .ref a ∧ A.l[n]? = some a
  | .gob n, v => ∃ a, v = .ref a ∧ A.g[n]? = some a
  | .fn f, v => ∃ a, v = .ref a ∧ mg (f : Str) = some (.ref a)
  | .cls c, v => ∃ a, v = .ref a ∧ mg (c : Str) = some (.ref a)
def Reps : List P → List V → Prop
  | [], vs => vs = []
  | p :: ps, vs => ∃ v r, vs = v :: r ∧ Rep p v ∧ Reps ps r
def RepK : List (KeyP × P) → List (Key × V) → Prop
  | [], vs => vs = []
  | (k, p) :: ps, vs => ∃ j v r, vs = (j, v) :: r ∧ k = .k j ∧ Rep p v ∧ RepK ps r
def RepT : List (KeyP × P) → List (List Key × V) → Prop
  | [], vs => vs = []
  | (k, p) :: ps, vs => ∃ j v r, vs = (j, v) :: r ∧ k = .t j ∧ Rep p v ∧ RepT ps r
def RepF : List (String × P) → List (Str × V) → Prop
  | [], vs => vs = []
  | (k, p) :: ps, vs => ∃ v r, vs = ((k : Str), v) :: r ∧ Rep p v ∧ RepF ps r
end
def ObR (o : Ob) (a : Addr) : Prop := match o with
  | .lst xs => ∃ vs, H a = some (.lst vs) ∧ Reps mg A B H xs vs
  | .dct false kvs => ∃ ks, H a = some (.dK ks) ∧ RepK mg A B H kvs ks
  | .dct true kvs => ∃ ks, H a = some (.dT ks) ∧ RepT mg A B H kvs ks
  | .ins c fs => ∃ C dx gs, H a = some (.ins C dx gs) ∧ mg (c : Str) = some (.ref C) ∧ RepF mg A B H fs gs
structure StoR (s : Sto) : Prop where
  ll : A.l.length = s.l.length
  lg : A.g.length = s.g.length
  nd : (A.l ++ A.g).Nodup
  ol : ∀ (i : Nat) (a : Addr) (o : Ob), A.l[i]? = some a → s.l[i]? = some o → ObR mg A B H o a
  og : ∀ (i : Nat) (a : Addr) (o : Ob), A.g[i]? = some a → s.g[i]? = some o → ObR mg A B H o a
  own : ∀ a, Own A a → B a
  gl : ∀ o ∈ s.g, o.noLob = true
  li : ∀ o ∈ s.l, ∀ c fs, o ≠ .ins c fs
  bt : ∀ a, B a → H a ≠ none
  tab : LamX.Tabs Tb.T H
structure SloR (ρ : Rho) (σ : L2.St) : Prop where
  len : ρ.length = σ.length
  at_ : ∀ (i : Nat) (p : P), ρ[i]? = some (some p) → ∃ v, σ[i]? = some (some v) ∧ Rep mg A B H p v
end

/-- from one state to a later one -/
structure Ext (A : As) (B : Fb) (H : Hp) (A' : As) (B' : Fb) (H' : Hp) : Prop where
  pl : ∃ m, A'.l = A.l ++ m
  pg : ∃ m, A'.g = A.g ++ m
  keep : ∀ a o, H a = some o → ¬ Own A a → (∀ ps, o ≠ .tbl ps) → H' a = some o
  nb : ∀ a, H a ≠ none → ¬ B a → ¬ B' a
  bb : ∀ a, B a → B' a
  there : ∀ a, H a ≠ none → H' a ≠ none
  fresh : ∀ a, Own A' a → Own A a ∨ H a = none
  tb : LamX.Tabs Tb.T H → LamX.Tabs Tb.T H'
theorem tbs {H H' : Hp} (f : ∀ P q, LamX.TabS H P q → LamX.TabS H' P q) (t : LamX.Tabs Tb.T H) : LamX.Tabs Tb.T H' := fun p hp => f _ _ (t p hp)
/-- what is no table and no code object may change -/
theorem tab_chg {H H' : Hp} {a : Addr} (hne : ∀ o, H a = some o → (∀ ps, o ≠ .tbl ps) ∧ ∀ φ, o ≠ .ext φ) (k : ∀ b o, b ≠ a → H b = some o → H' b = some o) {P : Addr} {q : Str} (t : LamX.TabS H P q) : LamX.TabS H' P q := by
  obtain ⟨ps, h1, h2, h3⟩ := t
  refine ⟨ps, k _ _ (fun z => ?_) h1, h2, fun pos cv hc => ?_⟩
  · subst z; exact (hne _ h1).1 ps rfl
  · obtain ⟨c, e1, e2⟩ := h3 pos cv hc
    refine ⟨c, e1, k _ _ (fun z => ?_) e2⟩
    subst z
    exact (hne _ e2).2 _ rfl

theorem Ext.refl {A : As} {B : Fb} {H : Hp} : Ext A B H A B H := ⟨⟨[], by simp⟩, ⟨[], by simp⟩, fun _ _ h _ _ => h, fun _ _ h => h, fun _ h => h, fun _ h => h, fun _ h => .inl h, fun h => h⟩
theorem Own.mono {A A' : As} (hl : ∃ m, A'.l = A.l ++ m) (hg : ∃ m, A'.g = A.g ++ m) {a : Addr} (h : Own A a) : Own A' a := by
  obtain ⟨m, e⟩ := hl
  obtain ⟨m', e'⟩ := hg
  rcases h with h | h
  · exact .inl (by rw [e]; exact List.mem_append_left _ h)
  · exact .inr (by rw [e']; exact List.mem_append_left _ h)
theorem Ext.trans {A A1 A2 : As} {B B1 B2 : Fb} {H H1 H2 : Hp} (x : Ext A B H A1 B1 H1) (y : Ext A1 B1 H1 A2 B2 H2) : Ext A B H A2 B2 H2 := by
  refine ⟨?_, ?_, fun a o h n t => ?_, fun a h n => y.nb a (x.there a h) (x.nb a h n), fun a h => y.bb a (x.bb a h), fun a h => y.there a (x.there a h), fun a h => ?_, fun t => y.tb (x.tb t)⟩
  · obtain ⟨m, e⟩ := x.pl
    obtain ⟨m', e'⟩ := y.pl
    exact ⟨m ++ m', by rw [e', e, List.append_assoc]⟩
  · obtain ⟨m, e⟩ := x.pg
    obtain ⟨m', e'⟩ := y.pg
    exact ⟨m ++ m', by rw [e', e, List.append_assoc]⟩
  · refine y.keep a o (x.keep a o h n t) (fun z => ?_) t
    rcases x.fresh a z with z | z
    · exact n z
    · rw [h] at z; cases z
  · rcases y.fresh a h with z | z
    · exact x.fresh a z
    · refine .inr ?_
      cases q : H a with
      | none => rfl
      | some o => exact absurd z (x.there a (by rw [q]; exact fun w => nomatch w))

/-- what is shared is kept -/
structure Ext0 (A : As) (B : Fb) (H : Hp) (A' : As) (B' : Fb) (H' : Hp) : Prop where
  pl : ∃ m, A'.l = A.l ++ m
  pg : ∃ m, A'.g = A.g ++ m
  keep : ∀ a o, H a = some o → ¬ B a → (∀ ps, o ≠ .tbl ps) → (∀ ks, ¬ Rd H a (.dK ks)) → (∀ ks, ¬ Rd H a (.dT ks)) → H' a = some o
  kk : ∀ a ks, Rd H a (.dK ks) → ¬ B a → Rd H' a (.dK ks)
  kt : ∀ a ks, Rd H a (.dT ks) → ¬ B a → Rd H' a (.dT ks)
  nb : ∀ a, H a ≠ none → ¬ B a → ¬ B' a
theorem rd_at {H : Hp} {a : Addr} {o u : HO} (h : H a = some o) (r : Rd H a u) : o = u ∨ ∃ ob, o = .frz ob u := by
  rcases r with r | ⟨ob, r⟩
  · rw [h] at r; exact .inl (Option.some.inj r)
  · rw [h] at r; exact .inr ⟨ob, Option.some.inj r⟩
theorem Ext.to0 {A A' : As} {B B' : Fb} {H H' : Hp} (x : Ext A B H A' B' H') (ho : ∀ a, Own A a → B a) : Ext0 A B H A' B' H' := by
  have k : ∀ a u, (∀ ps, u ≠ .tbl ps) → Rd H a u → ¬ B a → Rd H' a u := fun a u t h n => by
    rcases h with h | ⟨o, h⟩
    · exact .inl (x.keep a u h (fun z => n (ho a z)) t)
    · exact .inr ⟨o, x.keep a _ h (fun z => n (ho a z)) (fun _ z => nomatch z)⟩
  exact ⟨x.pl, x.pg, fun a o h n t _ _ => x.keep a o h (fun z => n (ho a z)) t, fun a ks => k a _ (fun _ z => nomatch z), fun a ks => k a _ (fun _ z => nomatch z), x.nb⟩
/-- what is no dict is kept -/
theorem Ext0.kp {A A' : As} {B B' : Fb} {H H' : Hp} (x : Ext0 A B H A' B' H') {a : Addr} {o : HO} (h : H a = some o) (n : ¬ B a) (t : ∀ ps, o ≠ .tbl ps) (k : ∀ ks, o ≠ .dK ks) (k' : ∀ ks, o ≠ .dT ks) (f : ∀ ob u, o ≠ .frz ob u) : H' a = some o :=
  x.keep a o h n t (fun ks r => (rd_at h r).elim (k ks) fun ⟨ob, e⟩ => f ob _ e) (fun ks r => (rd_at h r).elim (k' ks) fun ⟨ob, e⟩ => f ob _ e)
section
variable {mg : Mg} {A A' : As} {B B' : Fb} {H H' : Hp}
theorem ext_rdL (x : Ext0 A B H A' B' H') {a : Addr} {vs : List V} (h : Rd H a (.lst vs)) (n : ¬ B a) : Rd H' a (.lst vs) := by
  rcases h with h | ⟨o, h⟩
  · exact .inl (x.kp h n (fun _ z => nomatch z) (fun _ z => nomatch z) (fun _ z => nomatch z) (fun _ _ z => nomatch z))
  · exact .inr ⟨o, x.keep a _ h n (fun _ z => nomatch z) (fun ks r => (rd_at h r).elim (fun z => nomatch z) fun ⟨ob, e⟩ => nomatch e) (fun ks r => (rd_at h r).elim (fun z => nomatch z) fun ⟨ob, e⟩ => nomatch e)⟩
theorem rd_ne {a : Addr} {u : HO} (h : Rd H a u) : H a ≠ none := by
  rcases h with h | ⟨o, h⟩ <;> rw [h] <;> exact fun z => nomatch z
mutual
theorem Rep.mono0 (x : Ext0 A B H A' B' H') : ∀ {p : P} {v : V}, Rep mg A B H p v → Rep mg A' B' H' p v
  | .non, _, h => by simp only [Rep] at h ⊢; exact h
  | .bl _, _, h => by simp only [Rep] at h ⊢; exact h
  | .int _, _, h => by simp only [Rep] at h ⊢; exact h
  | .str _, _, h => by simp only [Rep] at h ⊢; exact h
  | .ty _, _, h => by simp only [Rep] at h ⊢; exact h
  | .tup xs, _, h => by
    simp only [Rep] at h ⊢
    obtain ⟨a, vs, e, h1, n, r⟩ := h
    exact ⟨a, vs, e, x.kp h1 n (fun _ z => nomatch z) (fun _ z => nomatch z) (fun _ z => nomatch z) (fun _ _ z => nomatch z), x.nb a (by rw [h1]; exact fun z => nomatch z) n, Reps.mono0 x r⟩
  | .lst xs, _, h => by
    simp only [Rep] at h ⊢
    obtain ⟨a, vs, e, h1, n, r⟩ := h
    exact ⟨a, vs, e, x.kp h1 n (fun _ z => nomatch z) (fun _ z => nomatch z) (fun _ z => nomatch z) (fun _ _ z => nomatch z), x.nb a (by rw [h1]; exact fun z => nomatch z) n, Reps.mono0 x r⟩
  | .scr xs, _, h => by
    simp only [Rep] at h ⊢
    obtain ⟨a, vs, e, h1, n, r⟩ := h
    exact ⟨a, vs, e, ext_rdL x h1 n, x.nb a (rd_ne h1) n, Reps.mono0 x r⟩
  | .dct false kvs, _, h => by
    simp only [Rep] at h ⊢
    obtain ⟨a, ks, e, h1, n, r⟩ := h
    exact ⟨a, ks, e, x.kk a _ h1 n, x.nb a (rd_ne h1) n, RepK.mono0 x r⟩
  | .dct true kvs, _, h => by
    simp only [Rep] at h ⊢
    obtain ⟨a, ks, e, h1, n, r⟩ := h
    exact ⟨a, ks, e, x.kt a _ h1 n, x.nb a (rd_ne h1) n, RepT.mono0 x r⟩
  | .ins c fs, _, h => by
    simp only [Rep] at h ⊢
    obtain ⟨a, C, dx, gs, e, h1, n, hc, r⟩ := h
    exact ⟨a, C, dx, gs, e, x.kp h1 n (fun _ z => nomatch z) (fun _ z => nomatch z) (fun _ z => nomatch z) (fun _ _ z => nomatch z), x.nb a (by rw [h1]; exact fun z => nomatch z) n, hc, RepF.mono0 x r⟩
  | .exc c fs, _, h => by
    simp only [Rep] at h ⊢
    obtain ⟨a, C, e, n, hc, h1⟩ := h
    refine ⟨a, C, e, ?_, hc, ?_⟩
    · rcases h1 with ⟨_, φ, h1, _⟩ | ⟨_, _, φ, h1, _⟩ <;> exact x.nb a (by rw [h1]; exact fun z => nomatch z) n
    · rcases h1 with ⟨e1, φ, h1, h2⟩ | ⟨d, gs, φ, h1, h2, hd, nd, r⟩
      · exact .inl ⟨e1, φ, x.kp h1 n (fun _ z => nomatch z) (fun _ z => nomatch z) (fun _ z => nomatch z) (fun _ _ z => nomatch z), h2⟩
      · exact .inr ⟨d, gs, φ, x.kp h1 n (fun _ z => nomatch z) (fun _ z => nomatch z) (fun _ z => nomatch z) (fun _ _ z => nomatch z), h2, x.kp hd nd (fun _ z => nomatch z) (fun _ z => nomatch z) (fun _ z => nomatch z) (fun _ _ z => nomatch z), x.nb d (by rw [hd]; exact fun z => nomatch z) nd, RepF.mono0 x r⟩
  | .lob n, _, h => by
    simp only [Rep] at h ⊢
    obtain ⟨a, e, h1⟩ := h
    obtain ⟨m, em⟩ := x.pl
    exact ⟨a, e, by rw [em]; exact (List.getElem?_append_left (List.getElem?_eq_some_iff.mp h1).1).trans h1⟩
  | .gob n, _, h => by
    simp only [Rep] at h ⊢
    obtain ⟨a, e, h1⟩ := h
    obtain ⟨m, em⟩ := x.pg
    exact ⟨a, e, by rw [em]; exact (List.getElem?_append_left (List.getElem?_eq_some_iff.mp h1).1).trans h1⟩
  | .fn _, _, h => by simp only [Rep] at h ⊢; exact h
  | .cls _, _, h => by simp only [Rep] at h ⊢; exact h
theorem Reps.mono0 (x : Ext0 A B H A' B' H') : ∀ {ps : List P} {vs : List V}, Reps mg A B H ps vs → Reps mg A' B' H' ps vs
  | [], _, h => by simp only [Reps] at h ⊢; exact h
  | p :: ps, _, h => by
    simp only [Reps] at h ⊢
    obtain ⟨v, r, e, h1, h2⟩ := h
    exact ⟨v, r, e, Rep.mono0 x h1, Reps.mono0 x h2⟩
theorem RepK.mono0 (x : Ext0 A B H A' B' H') : ∀ {ps : List (KeyP × P)} {vs : List (Key × V)}, RepK mg A B H ps vs → RepK mg A' B' H' ps vs
  | [], _, h => by simp only [RepK] at h ⊢; exact h
  | (k, p) :: ps, _, h => by
    simp only [RepK] at h ⊢
    obtain ⟨j, v, r, e, ek, h1, h2⟩ := h
    exact ⟨j, v, r, e, ek, Rep.mono0 x h1, RepK.mono0 x h2⟩
theorem RepT.mono0 (x : Ext0 A B H A' B' H') : ∀ {ps : List (KeyP × P)} {vs : List (List Key × V)}, RepT mg A B H ps vs → RepT mg A' B' H' ps vs
  | [], _, h => by simp only [RepT] at h ⊢; exact h
  | (k, p) :: ps, _, h => by
    simp only [RepT] at h ⊢
    obtain ⟨j, v, r, e, ek, h1, h2⟩ := h
    exact ⟨j, v, r, e, ek, Rep.mono0 x h1, RepT.mono0 x h2⟩
theorem RepF.mono0 (x : Ext0 A B H A' B' H') : ∀ {ps : List (String × P)} {vs : List (Str × V)}, RepF mg A B H ps vs → RepF mg A' B' H' ps vs
  | [], _, h => by simp only [RepF] at h ⊢; exact h
  | (k, p) :: ps, _, h => by
    simp only [RepF] at h ⊢
    obtain ⟨v, r, e, h1, h2⟩ := h
    exact ⟨v, r, e, Rep.mono0 x h1, RepF.mono0 x h2⟩
end
theorem Rep.mono (x : Ext A B H A' B' H') (ho : ∀ a, Own A a → B a) {p : P} {v : V} (h : Rep mg A B H p v) : Rep mg A' B' H' p v := Rep.mono0 (x.to0 ho) h
theorem Reps.mono (x : Ext A B H A' B' H') (ho : ∀ a, Own A a → B a) {p : List P} {v : List V} (h : Reps mg A B H p v) : Reps mg A' B' H' p v := Reps.mono0 (x.to0 ho) h
theorem RepK.mono (x : Ext A B H A' B' H') (ho : ∀ a, Own A a → B a) {p : List (KeyP × P)} {v : List (Key × V)} (h : RepK mg A B H p v) : RepK mg A' B' H' p v := RepK.mono0 (x.to0 ho) h
theorem RepT.mono (x : Ext A B H A' B' H') (ho : ∀ a, Own A a → B a) {p : List (KeyP × P)} {v : List (List Key × V)} (h : RepT mg A B H p v) : RepT mg A' B' H' p v := RepT.mono0 (x.to0 ho) h
theorem RepF.mono (x : Ext A B H A' B' H') (ho : ∀ a, Own A a → B a) {p : List (String × P)} {v : List (Str × V)} (h : RepF mg A B H p v) : RepF mg A' B' H' p v := RepF.mono0 (x.to0 ho) h
theorem ObR.mono0 (x : Ext0 A B H A' B' H') {o : Ob} {a : Addr} (hk : ∀ u, H a = some u → H' a = some u) (h : ObR mg A B H o a) : ObR mg A' B' H' o a := by
  cases o with
  | lst xs =>
    obtain ⟨vs, h1, r⟩ := h
    exact ⟨vs, hk _ h1, r.mono0 x⟩
  | dct t kvs =>
    cases t with
    | false =>
      obtain ⟨ks, h1, r⟩ := h
      exact ⟨ks, hk _ h1, r.mono0 x⟩
    | true =>
      obtain ⟨ks, h1, r⟩ := h
      exact ⟨ks, hk _ h1, r.mono0 x⟩
  | ins c fs =>
    obtain ⟨C, dx, gs, h1, hc, r⟩ := h
    exact ⟨C, dx, gs, hk _ h1, hc, r.mono0 x⟩
theorem SloR.mono0 {ρ : Rho} {σ : L2.St} (x : Ext0 A B H A' B' H') (h : SloR mg A B H ρ σ) : SloR mg A' B' H' ρ σ :=
  ⟨h.len, fun i p e => let ⟨v, e', r⟩ := h.at_ i p e; ⟨v, e', r.mono0 x⟩⟩
theorem StoR.mono0 {s : Sto} (S : StoR mg A B H s) (x : Ext0 A B H A B' H') (hk : ∀ a, Own A a → ∀ u, H a = some u → H' a = some u) (own : ∀ a, Own A a → B' a) (bt : ∀ a, B' a → H' a ≠ none) (tab : LamX.Tabs Tb.T H') : StoR mg A B' H' s :=
  ⟨S.ll, S.lg, S.nd, fun i a o h1 h2 => (S.ol i a o h1 h2).mono0 x (hk a (.inl (List.mem_of_getElem? h1))), fun i a o h1 h2 => (S.og i a o h1 h2).mono0 x (hk a (.inr (List.mem_of_getElem? h1))), own, S.gl, S.li, bt, tab⟩
theorem ObR.mono (x : Ext A B H A' B' H') (ho : ∀ a, Own A a → B a) {o : Ob} {a : Addr} (hk : ∀ u, H a = some u → H' a = some u) (h : ObR mg A B H o a) : ObR mg A' B' H' o a := by
  cases o with
  | lst xs =>
    obtain ⟨vs, h1, r⟩ := h
    exact ⟨vs, hk _ h1, r.mono x ho⟩
  | dct t kvs =>
    cases t with
    | false =>
      obtain ⟨ks, h1, r⟩ := h
      exact ⟨ks, hk _ h1, r.mono x ho⟩
    | true =>
      obtain ⟨ks, h1, r⟩ := h
      exact ⟨ks, hk _ h1, r.mono x ho⟩
  | ins c fs =>
    obtain ⟨C, dx, gs, h1, hc, r⟩ := h
    exact ⟨C, dx, gs, hk _ h1, hc, r.mono x ho⟩
theorem SloR.mono {ρ : Rho} {σ : L2.St} (x : Ext A B H A' B' H') (ho : ∀ a, Own A a → B a) (h : SloR mg A B H ρ σ) : SloR mg A' B' H' ρ σ :=
  ⟨h.len, fun i p e => let ⟨v, e', r⟩ := h.at_ i p e; ⟨v, e', r.mono x ho⟩⟩
/-- a new object that is no store's, tracked -/
theorem ext_new {a : Addr} {o : HO} (bt : ∀ b, B b → H b ≠ none) (hn : H a = none) : Ext A B H A B (upd H a o) :=
  ⟨⟨[], by simp⟩, ⟨[], by simp⟩, fun b u h _ _ => by rw [upd_ne (ne_of_none h hn)]; exact h, fun _ _ h => h, fun _ h => h, fun b h => by
    by_cases e : b = a
    · subst e; rw [upd_same]; exact fun z => nomatch z
    · rw [upd_ne e]; exact h, fun _ h => .inl h, tbs fun P q t => t.ext fun b u h => by rw [upd_ne (ne_of_none h hn)]; exact h⟩
theorem sto_new {s : Sto} {a : Addr} {o : HO} (R : StoR mg A B H s) (hn : H a = none) : StoR mg A B (upd H a o) s := by
  have x : Ext A B H A B (upd H a o) := ext_new R.bt hn
  have hk : ∀ b u, H b = some u → upd H a o b = some u := fun b u h => by rw [upd_ne (ne_of_none h hn)]; exact h
  exact ⟨R.ll, R.lg, R.nd, fun i b q h1 h2 => (R.ol i b q h1 h2).mono x R.own fun u => hk b u, fun i b q h1 h2 => (R.og i b q h1 h2).mono x R.own fun u => hk b u, R.own, R.gl, R.li, fun b h => x.there b (R.bt b h), x.tb R.tab⟩
theorem nb_new {a : Addr} (bt : ∀ b, B b → H b ≠ none) (hn : H a = none) : ¬ B a := fun z => bt a z hn
end
end FW

end

section
set_option Elab.async false
set_option linter.all false
/-! Fw3: liftings of evaluator functions to readings; names, constants, displays, operators. -/
namespace FW
open PySem PySem.Spec L2
variable [Tb]

/-- an exception value, as what flies -/
def ExR (mg : Mg) (A : As) (B : Fb) (H : Hp) (x : P) (cls : Value) (d : Option Addr) : Prop :=
  ∃ c fs C, x = .exc c fs ∧ cls = .ref C ∧ mg (c : Str) = some (.ref C) ∧ ((d = none ∧ fs = []) ∨ ∃ dd gs, d = some dd ∧ H dd = some (.xd gs) ∧ ¬ B dd ∧ RepF mg A B H fs gs)
def Out (mg : Mg) (W : WX) (σ : L2.St) (A : As) (B : Fb) (H : Hp) {α : Type} (r : R α) (k : As → Fb → Hp → Sto → α → Prop) : Prop := match r with
  | .ok a s' => ∀ A' B' H', Ext A B H A' B' H' → StoR mg A' B' H' s' → k A' B' H' s' a
  | .exn x s' => ∀ A' B' H', Ext A B H A' B' H' → StoR mg A' B' H' s' → ∀ cls d, ExR mg A' B' H' x cls d → W cls d σ H'
  | .bad => False
section
variable {mg : Mg} {W : WX} {σ : L2.St} {A A' : As} {B B' : Fb} {H H' : Hp} {α β : Type}
theorem Out.ext {r : R α} {k : As → Fb → Hp → Sto → α → Prop} (h : Out mg W σ A B H r k) (x : Ext A B H A' B' H') : Out mg W σ A' B' H' r k := by
  cases r with
  | ok a s' => exact fun A2 B2 H2 x2 R => h A2 B2 H2 (x.trans x2) R
  | exn e s' => exact fun A2 B2 H2 x2 R => h A2 B2 H2 (x.trans x2) R
  | bad => exact h
theorem Out.imp {r : R α} {k k' : As → Fb → Hp → Sto → α → Prop} (h : Out mg W σ A B H r k)
    (i : ∀ A' B' H' s' a, Ext A B H A' B' H' → StoR mg A' B' H' s' → k A' B' H' s' a → k' A' B' H' s' a) : Out mg W σ A B H r k' := by
  cases r with
  | ok a s' => exact fun A2 B2 H2 x2 R => i A2 B2 H2 s' a x2 R (h A2 B2 H2 x2 R)
  | exn e s' => exact h
  | bad => exact h
theorem Out.bnd {m : M α} {g : α → M β} {s : Sto} {k : As → Fb → Hp → Sto → β → Prop} (h : Out mg W σ A B H (FW.bnd m g s) k) :
    Out mg W σ A B H (m s) fun A' B' H' s' a => Out mg W σ A' B' H' (g a s') k := by
  unfold FW.bnd at h
  cases e : m s with
  | ok a s' => rw [e] at h; exact fun A2 B2 H2 x2 R => Out.ext h x2
  | exn x s' => rw [e] at h; exact h
  | bad => rw [e] at h; exact h
theorem Out.ret {a : α} {s : Sto} {k : As → Fb → Hp → Sto → α → Prop} (h : Out mg W σ A B H (FW.ret a s) k) (R : StoR mg A B H s) : k A B H s a := h A B H Ext.refl R
theorem Out.ok {a : α} {s : Sto} {k : As → Fb → Hp → Sto → α → Prop} (h : Out mg W σ A B H (.ok a s) k) (R : StoR mg A B H s) : k A B H s a := h A B H Ext.refl R
theorem Out.ofO {o : Option α} {s : Sto} {k : As → Fb → Hp → Sto → α → Prop} (h : Out mg W σ A B H (FW.ofO o s) k) (R : StoR mg A B H s) : ∃ a, o = some a ∧ k A B H s a := by
  cases o with
  | none => exact h.elim
  | some a => exact ⟨a, rfl, h.ret R⟩
end
/-- what is wanted of a value -/
abbrev kP (mg : Mg) (Q : VK) : As → Fb → Hp → Sto → P → Prop := fun A' B' H' _ p => ∀ v, Rep mg A' B' H' p v → Q v H'
abbrev kPs (mg : Mg) (Q : List V → Hp → Prop) : As → Fb → Hp → Sto → List P → Prop := fun A' B' H' _ ps => ∀ vs, Reps mg A' B' H' ps vs → Q vs H'
abbrev kB (Q : Bool → Hp → Prop) : As → Fb → Hp → Sto → Bool → Prop := fun _ _ H' _ b => Q b H'
def tE (mg : Mg) (W : WX) (f : Rho → M P) : TE := fun σ H Q => ∃ A B ρ s, StoR mg A B H s ∧ SloR mg A B H ρ σ ∧ Out mg W σ A B H (f ρ s) (kP mg Q)
def tT (mg : Mg) (W : WX) (f : Rho → M Bool) : TT := fun σ H Q => ∃ A B ρ s, StoR mg A B H s ∧ SloR mg A B H ρ σ ∧ Out mg W σ A B H (f ρ s) (kB Q)
def tAs (mg : Mg) (W : WX) (f : Rho → M (List P)) : TA := fun σ H Q => ∃ A B ρ s, StoR mg A B H s ∧ SloR mg A B H ρ σ ∧ Out mg W σ A B H (f ρ s) (kPs mg Q)
abbrev VE (X : Cx) (W : WX) (e : Expr) (f : Rho → M P) : Prop := PE X e (tE X.mg W f)
abbrev VT (X : Cx) (W : WX) (e : Expr) (f : Rho → M Bool) : Prop := PT X e (tT X.mg W f)
abbrev VA (X : Cx) (W : WX) (es : List Expr) (f : Rho → M (List P)) : Prop := PA X es (tAs X.mg W f)

theorem _root_.L2.PE.weak {X : Cx} {e : Expr} {t u : TE} (h : PE X e t) (i : ∀ σ H Q, u σ H Q → t σ H Q) : PE X e u := ⟨fun pins s σ H Q I w => h.run pins s σ H Q I (i σ H Q w)⟩
theorem _root_.L2.PT.weak {X : Cx} {e : Expr} {t u : TT} (h : PT X e t) (i : ∀ σ H Q, u σ H Q → t σ H Q) : PT X e u := ⟨fun pins s σ H Q I w => h.run pins s σ H Q I (i σ H Q w)⟩
theorem _root_.L2.PW.weak {X : Cx} {e : Expr} {t u : TT} (h : PW X e t) (i : ∀ σ H Q, u σ H Q → t σ H Q) : PW X e u := ⟨fun wh pins s σ H Q I w => h.run wh pins s σ H Q I (i σ H Q w)⟩
theorem _root_.L2.PA.weak {X : Cx} {es : List Expr} {t u : TA} (h : PA X es t) (i : ∀ σ H Q, u σ H Q → t σ H Q) : PA X es u := ⟨fun pos pins s σ H Q I w => h.run pos pins s σ H Q I (i σ H Q w)⟩

/-- readings by values, from primitives -/
def r1 (mg : Mg) (g : P → M P) : V → Hp → VK → Prop := fun x H Q => ∃ W σ A B s p, StoR mg A B H s ∧ Rep mg A B H p x ∧ Out mg W σ A B H (g p s) (kP mg Q)
def r2 (mg : Mg) (g : P → P → M P) : R2 := fun x y H Q => ∃ W σ A B s p q, StoR mg A B H s ∧ Rep mg A B H p x ∧ Rep mg A B H q y ∧ Out mg W σ A B H (g p q s) (kP mg Q)
def rN (mg : Mg) (g : List P → M P) : List V → Hp → VK → Prop := fun xs H Q => ∃ W σ A B s ps, StoR mg A B H s ∧ Reps mg A B H ps xs ∧ Out mg W σ A B H (g ps s) (kP mg Q)
def rT (mg : Mg) (g : P → M Bool) : V → Hp → (Bool → Hp → Prop) → Prop := fun x H Q => ∃ W σ A B s p, StoR mg A B H s ∧ Rep mg A B H p x ∧ Out mg W σ A B H (g p s) (kB Q)
def rM (mg : Mg) (g : P → List P → M P) : V → List V → Hp → VK → Prop := fun x xs H Q => ∃ W σ A B s p ps, StoR mg A B H s ∧ Rep mg A B H p x ∧ Reps mg A B H ps xs ∧ Out mg W σ A B H (g p ps s) (kP mg Q)

section
variable {mg : Mg} {W : WX} {fa fb fc : Rho → M P} {fs : Rho → M (List P)} {σ : L2.St} {H : Hp}
/-- a value, then what follows -/
theorem tE_bnd {f : P → M P} {g : Rho → P → M P} {Q : VK} {R : V → Hp → Prop} (h : tE mg W (fun ρ => bnd (fa ρ) (g ρ)) σ H Q)
    (k : ∀ A B H' ρ s p v, StoR mg A B H' s → SloR mg A B H' ρ σ → Rep mg A B H' p v → Out mg W σ A B H' (g ρ p s) (kP mg Q) → R v H') : tE mg W fa σ H R := by
  obtain ⟨A, B, ρ, s, S, L, O⟩ := h
  exact ⟨A, B, ρ, s, S, L, O.bnd.imp fun A' B' H' s' p x S' O' v r => k A' B' H' ρ s' p v S' (L.mono x S.own) r O'⟩
theorem tE_un {g : P → M P} {Q : VK} (h : tE mg W (fun ρ => bnd (fa ρ) g) σ H Q) : tE mg W fa σ H fun x H1 => r1 mg g x H1 Q := by
  obtain ⟨A, B, ρ, s, S, L, O⟩ := h
  exact ⟨A, B, ρ, s, S, L, O.bnd.imp fun A' B' H' s' p x S' O' v r => ⟨W, σ, A', B', s', p, S', r, O'⟩⟩
theorem tE_bin {g : P → P → M P} {Q : VK} (h : tE mg W (fun ρ => bnd (fa ρ) fun p => bnd (fb ρ) fun q => g p q) σ H Q) :
    tE mg W fa σ H fun x H1 => tE mg W fb σ H1 fun y H2 => r2 mg g x y H2 Q := by
  obtain ⟨A, B, ρ, s, S, L, O⟩ := h
  exact ⟨A, B, ρ, s, S, L, O.bnd.imp fun A1 B1 H1 s1 p x1 S1 O1 v r => ⟨A1, B1, ρ, s1, S1, L.mono x1 S.own, O1.bnd.imp fun A2 B2 H2 s2 q x2 S2 O2 w r' =>
    ⟨W, σ, A2, B2, s2, p, q, S2, r.mono x2 S1.own, r', O2⟩⟩⟩
theorem tE_args {g : List P → M P} {Q : VK} (h : tE mg W (fun ρ => bnd (fs ρ) g) σ H Q) : tAs mg W fs σ H fun xs H1 => rN mg g xs H1 Q := by
  obtain ⟨A, B, ρ, s, S, L, O⟩ := h
  exact ⟨A, B, ρ, s, S, L, O.bnd.imp fun A' B' H' s' p x S' O' v r => ⟨W, σ, A', B', s', p, S', r, O'⟩⟩
theorem tE_meth {g : P → List P → M P} {Q : VK} (h : tE mg W (fun ρ => bnd (fa ρ) fun p => bnd (fs ρ) fun q => g p q) σ H Q) :
    tE mg W fa σ H fun x H1 => tAs mg W fs σ H1 fun ys H2 => rM mg g x ys H2 Q := by
  obtain ⟨A, B, ρ, s, S, L, O⟩ := h
  exact ⟨A, B, ρ, s, S, L, O.bnd.imp fun A1 B1 H1 s1 p x1 S1 O1 v r => ⟨A1, B1, ρ, s1, S1, L.mono x1 S.own, O1.bnd.imp fun A2 B2 H2 s2 q x2 S2 O2 w r' =>
    ⟨W, σ, A2, B2, s2, p, q, S2, r.mono x2 S1.own, r', O2⟩⟩⟩
end

/-! ### names, constants -/
section
variable {X : Cx} {W : WX} {pos : Pos} {a b c : Expr} {es : List Expr} {fa fb fc : Rho → M P} {fs : Rho → M (List P)}
theorem ve_var {i : Nat} {x : Str} (hN : X.N[i]? = some x) (hv : Vis X.env.scope x) (hd : (x == ("__debug__" : Str)) = false) (hcd : (x == ("__classdict__" : Str)) = false) : VE X W (.Name x pos) (fun ρ => getV ρ i) := by
  refine (pe_var hN hv hd hcd).weak fun σ H Q h => ?_
  obtain ⟨A, B, ρ, s, S, L, O⟩ := h
  have O : Out X.mg W σ A B H (getV ρ i s) (kP X.mg Q) := O
  unfold getV at O
  cases e : ρ[i]? with
  | none => rw [e] at O; exact O.elim
  | some o =>
    cases o with
    | none => rw [e] at O; exact O.elim
    | some p =>
      rw [e] at O
      obtain ⟨v, e', r⟩ := L.at_ i p e
      exact ⟨v, e', O.ret S v r⟩
theorem tE_ret {mg : Mg} {p : P} {σ : L2.St} {H : Hp} {Q : VK} (h : tE mg W (fun _ => ret p) σ H Q) : ∃ A B s, StoR mg A B H s ∧ ∀ v, Rep mg A B H p v → Q v H := by
  obtain ⟨A, B, ρ, s, S, L, O⟩ := h
  exact ⟨A, B, s, S, O.ret S⟩
theorem ve_non {j} : VE X W (.Constant .none j pos) (fun _ => ret .non) := pe_non.weak fun σ H Q h => by
  obtain ⟨A, B, s, S, q⟩ := tE_ret h
  exact q _ (by simp only [Rep])
theorem ve_bl {j} {k : Bool} : VE X W (.Constant (.bool k) j pos) (fun _ => ret (.bl k)) := pe_bl.weak fun σ H Q h => by
  obtain ⟨A, B, s, S, q⟩ := tE_ret h
  exact q _ (by simp only [Rep])
theorem ve_int {j} {i : Int} : VE X W (.Constant (.int i) j pos) (fun _ => ret (.int i)) := pe_int.weak fun σ H Q h => by
  obtain ⟨A, B, s, S, q⟩ := tE_ret h
  exact q _ (by simp only [Rep])
theorem ve_str {j} {x : Str} : VE X W (.Constant (.str x) j pos) (fun _ => ret (.str x)) := pe_str.weak fun σ H Q h => by
  obtain ⟨A, B, s, S, q⟩ := tE_ret h
  exact q _ (by simp only [Rep])
/-- constants of the module, classes, defs -/
def GloV (X : Cx) (x : Str) (p : P) : Prop := match p with
  | .int i => ∃ t, X.mg x = some (.int i t)
  | .str z => ∃ t, X.mg x = some (.str z t)
  | .bl b => X.mg x = some (.bool b)
  | .cls c => x = (c : Str) ∧ ∃ C, X.mg x = some (.ref C)
  | .fn c => x = (c : Str) ∧ ∃ C, X.mg x = some (.ref C)
  | _ => False
theorem ve_con {x : Str} {p : P} (hg : Gl X x) (hp : GloV X x p) (hd : (x == ("__debug__" : Str)) = false) : VE X W (.Name x pos) (fun _ => ret p) := by
  cases p with
  | int i =>
    obtain ⟨t, e⟩ := hp
    refine (pe_glob (v := .int i) hg e ⟨t, rfl⟩ hd).weak fun σ H Q h => ?_
    obtain ⟨A, B, s, S, q⟩ := tE_ret h
    exact q _ (by simp only [Rep])
  | str z =>
    obtain ⟨t, e⟩ := hp
    refine (pe_glob (v := .str z) hg e ⟨t, rfl⟩ hd).weak fun σ H Q h => ?_
    obtain ⟨A, B, s, S, q⟩ := tE_ret h
    exact q _ (by simp only [Rep])
  | bl k =>
    refine (pe_glob (v := .bl k) hg hp rfl hd).weak fun σ H Q h => ?_
    obtain ⟨A, B, s, S, q⟩ := tE_ret h
    exact q _ (by simp only [Rep])
  | cls d =>
    obtain ⟨rfl, C, e⟩ := hp
    refine (pe_glob (v := .ref C) hg e rfl hd).weak fun σ H Q h => ?_
    obtain ⟨A, B, s, S, q⟩ := tE_ret h
    exact q _ (by simp only [Rep]; exact ⟨C, rfl, e⟩)
  | fn d =>
    obtain ⟨rfl, C, e⟩ := hp
    refine (pe_glob (v := .ref C) hg e rfl hd).weak fun σ H Q h => ?_
    obtain ⟨A, B, s, S, q⟩ := tE_ret h
    exact q _ (by simp only [Rep]; exact ⟨C, rfl, e⟩)
  | _ => exact hp.elim
theorem ve_bty {x : Str} {n : String} (hg : Gl X x) (hm : X.mg x = none) (hv : bootBuiltins x = some (.type n)) (hn : x ≠ "__name__") (hd : (x == ("__debug__" : Str)) = false) : VE X W (.Name x pos) (fun _ => ret (.ty n)) := by
  refine (pe_bltn (v := .ty n) hg hm hv rfl hn hd).weak fun σ H Q h => ?_
  obtain ⟨A, B, s, S, q⟩ := tE_ret h
  exact q _ (by simp only [Rep])

/-! ### arguments -/
theorem va_nil : VA X W [] (fun _ => ret []) := pa_nil.weak fun σ H Q h => by
  obtain ⟨A, B, ρ, s, S, L, O⟩ := h
  exact O.ret S [] (by simp only [Reps])
theorem va_cons (ha : VE X W a fa) (hs : VA X W es fs) (he : starEach (a :: es) X.env = (false, eval a X.env) :: starEach es X.env := by rfl) :
    VA X W (a :: es) (fun ρ => bnd (fa ρ) fun p => bnd (fs ρ) fun ps => ret (p :: ps)) := by
  refine (pa_cons ha hs he).weak fun σ H Q h => ?_
  obtain ⟨A, B, ρ, s, S, L, O⟩ := h
  exact ⟨A, B, ρ, s, S, L, O.bnd.imp fun A1 B1 H1 s1 p x1 S1 O1 v r => ⟨A1, B1, ρ, s1, S1, L.mono x1 S.own, O1.bnd.imp fun A2 B2 H2 s2 q x2 S2 O2 w r' =>
    O2.ret S2 (v :: w) (by simp only [Reps]; exact ⟨v, w, rfl, r.mono x2 S1.own, r'⟩)⟩⟩
end

/-! ### new objects -/
section
variable {mg : Mg} {W : WX} {σ : L2.St} {A : As} {B : Fb} {H : Hp} {s : Sto} {Q : VK}
theorem reps_len : ∀ {ps : List P} {vs : List V}, Reps mg A B H ps vs → vs.length = ps.length
  | [], _, h => by simp only [Reps] at h; rw [h]; rfl
  | p :: ps, _, h => by
    simp only [Reps] at h
    obtain ⟨v, r, e, _, h2⟩ := h
    rw [e, List.length_cons, List.length_cons, reps_len h2]
/-- the store with one object more -/
theorem sto_alloc {o : Ob} {u : HO} {a : Addr} (loc : Bool) (S : StoR mg A B H s) (hn : H a = none) (hol : loc = true → ∀ c fs, o ≠ .ins c fs) (hog : loc = false → o.noLob = true) (hu : ∀ A' B', Ext A B H A' B' (upd H a u) → ObR mg A' B' (upd H a u) o a) :
    ∃ A', (A' = if loc then ⟨A.l ++ [a], A.g⟩ else ⟨A.l, A.g ++ [a]⟩) ∧ Ext A B H A' (fun b => B b ∨ b = a) (upd H a u) ∧
      StoR mg A' (fun b => B b ∨ b = a) (upd H a u) (if loc then { s with l := s.l ++ [o] } else { s with g := s.g ++ [o] }) := by
  have own : ∀ b, Own A b → b ≠ a := fun b h e => S.bt b (S.own b h) (e ▸ hn)
  have hk : ∀ b v, H b = some v → upd H a u b = some v := fun b v h => by rw [upd_ne (ne_of_none h hn)]; exact h
  have there : ∀ b, H b ≠ none → upd H a u b ≠ none := fun b h => by
    by_cases e : b = a
    · subst e; rw [upd_same]; exact fun z => nomatch z
    · rw [upd_ne e]; exact h
  have nb : ∀ b, H b ≠ none → ¬ B b → ¬ (B b ∨ b = a) := fun b h n z => z.elim n fun e => h (e ▸ hn)
  cases loc with
  | true =>
    have x : Ext A B H ⟨A.l ++ [a], A.g⟩ (fun b => B b ∨ b = a) (upd H a u) :=
      ⟨⟨[a], rfl⟩, ⟨[], by simp⟩, fun b v h _ _ => hk b v h, nb, fun _ h => .inl h, there, fun b h => by
        rcases h with h | h
        · rcases List.mem_append.mp h with h | h
          · exact .inl (.inl h)
          · rw [List.mem_singleton.mp h]; exact .inr hn
        · exact .inl (.inr h), tbs fun P q t => t.ext hk⟩
    refine ⟨_, rfl, x, ?_⟩
    refine ⟨by simp [S.ll], S.lg, ?_, fun i b q h1 h2 => ?_, fun i b q h1 h2 => (S.og i b q h1 h2).mono x S.own fun v => hk b v, fun b h => ?_, S.gl, fun q hq => (List.mem_append.mp hq).elim (S.li q) (fun z => by rw [List.mem_singleton.mp z]; exact hol rfl), fun b h => ?_, x.tb S.tab⟩
    · show ((A.l ++ [a]) ++ A.g).Nodup
      rw [List.append_assoc]
      have nd := S.nd
      rw [List.nodup_append] at nd ⊢
      refine ⟨nd.1, ?_, fun p hp q hq => ?_⟩
      · rw [List.singleton_append, List.nodup_cons]
        exact ⟨fun z => own a (.inr z) rfl, nd.2.1⟩
      · rcases List.mem_append.mp hq with hq | hq
        · rw [List.mem_singleton.mp hq]; exact own p (.inl hp)
        · exact nd.2.2 p hp q hq
    · have h1' : (A.l ++ [a])[i]? = some b := h1
      have h2' : (s.l ++ [o])[i]? = some q := h2
      by_cases hi : i < A.l.length
      · rw [List.getElem?_append_left hi] at h1'
        rw [List.getElem?_append_left (by rw [← S.ll]; exact hi)] at h2'
        exact (S.ol i b q h1' h2').mono x S.own fun v => hk b v
      · rw [List.getElem?_append_right (by omega)] at h1'
        rw [List.getElem?_append_right (by rw [← S.ll]; omega)] at h2'
        have e0 : i - A.l.length = 0 := by
          have := (List.getElem?_eq_some_iff.mp h1').1
          simp at this; omega
        rw [e0] at h1'
        rw [← S.ll, e0] at h2'
        have ea : a = b := Option.some.inj h1'
        have eo : o = q := Option.some.inj h2'
        subst ea; subst eo
        exact hu _ _ x
    · rcases h with h | h
      · rcases List.mem_append.mp h with h | h
        · exact .inl (S.own b (.inl h))
        · exact .inr (List.mem_singleton.mp h)
      · exact .inl (S.own b (.inr h))
    · rcases h with h | h
      · exact there b (S.bt b h)
      · rw [h, upd_same]; exact fun z => nomatch z
  | false =>
    have x : Ext A B H ⟨A.l, A.g ++ [a]⟩ (fun b => B b ∨ b = a) (upd H a u) :=
      ⟨⟨[], by simp⟩, ⟨[a], rfl⟩, fun b v h _ _ => hk b v h, nb, fun _ h => .inl h, there, fun b h => by
        rcases h with h | h
        · exact .inl (.inl h)
        · rcases List.mem_append.mp h with h | h
          · exact .inl (.inr h)
          · rw [List.mem_singleton.mp h]; exact .inr hn, tbs fun P q t => t.ext hk⟩
    refine ⟨_, rfl, x, ?_⟩
    refine ⟨S.ll, by simp [S.lg], ?_, fun i b q h1 h2 => (S.ol i b q h1 h2).mono x S.own fun v => hk b v, fun i b q h1 h2 => ?_, fun b h => ?_, fun q hq => (List.mem_append.mp hq).elim (S.gl q) (fun z => by rw [List.mem_singleton.mp z]; exact hog rfl), S.li, fun b h => ?_, x.tb S.tab⟩
    · show (A.l ++ (A.g ++ [a])).Nodup
      rw [← List.append_assoc]
      have nd := S.nd
      rw [List.nodup_append] 
      refine ⟨nd, by simp, fun p hp q hq => ?_⟩
      rw [List.mem_singleton.mp hq]
      exact own p ((List.mem_append.mp hp).elim .inl .inr)
    · have h1' : (A.g ++ [a])[i]? = some b := h1
      have h2' : (s.g ++ [o])[i]? = some q := h2
      by_cases hi : i < A.g.length
      · rw [List.getElem?_append_left hi] at h1'
        rw [List.getElem?_append_left (by rw [← S.lg]; exact hi)] at h2'
        exact (S.og i b q h1' h2').mono x S.own fun v => hk b v
      · rw [List.getElem?_append_right (by omega)] at h1'
        rw [List.getElem?_append_right (by rw [← S.lg]; omega)] at h2'
        have e0 : i - A.g.length = 0 := by
          have := (List.getElem?_eq_some_iff.mp h1').1
          simp at this; omega
        rw [e0] at h1'
        rw [← S.lg, e0] at h2'
        have ea : a = b := Option.some.inj h1'
        have eo : o = q := Option.some.inj h2'
        subst ea; subst eo
        exact hu _ _ x
    · rcases h with h | h
      · exact .inl (S.own b (.inl h))
      · rcases List.mem_append.mp h with h | h
        · exact .inl (S.own b (.inr h))
        · exact .inr (List.mem_singleton.mp h)
    · rcases h with h | h
      · exact there b (S.bt b h)
      · rw [h, upd_same]; exact fun z => nomatch z
/-- a new list -/
theorem mkL_out {r : Al} {xs : List P} {vs : List V} (S : StoR mg A B H s) (R : Reps mg A B H xs vs) (O : Out mg W σ A B H (mkL r xs s) (kP mg Q)) {p : Addr} (hn : H p = none) : Q (.ref p) (upd H p (.lst vs)) := by
  cases r with
  | val =>
    have x : Ext A B H A B (upd H p (.lst vs)) := ext_new S.bt hn
    exact O A B _ x (sto_new S hn) (.ref p) (by simp only [Rep]; exact ⟨p, vs, rfl, upd_same, nb_new S.bt hn, R.mono x S.own⟩)
  | loc =>
    obtain ⟨A', e, x, S'⟩ := sto_alloc (o := .lst xs) (u := .lst vs) true S hn (fun _ _ _ z => nomatch z) (fun z => nomatch z) fun A' B' x => ⟨vs, upd_same, R.mono x S.own⟩
    refine O A' _ _ x S' (.ref p) ?_
    simp only [Rep]
    refine ⟨p, rfl, ?_⟩
    rw [e, ← S.ll]
    show (A.l ++ [p])[A.l.length]? = some p
    simp
  | glob =>
    have O' : Out mg W σ A B H (allocG (.lst xs) s) (kP mg Q) := O
    unfold allocG at O'
    split at O'
    · rename_i hnl
      obtain ⟨A', e, x, S'⟩ := sto_alloc (o := .lst xs) (u := .lst vs) false S hn (fun z => nomatch z) (fun _ => hnl) fun A' B' x => ⟨vs, upd_same, R.mono x S.own⟩
      refine O' A' _ _ x S' (.ref p) ?_
      simp only [Rep]
      refine ⟨p, rfl, ?_⟩
      rw [e, ← S.lg]
      show (A.g ++ [p])[A.g.length]? = some p
      simp
    · exact O'.elim
/-- a new tuple -/
theorem mkT_out {xs : List P} {vs : List V} (S : StoR mg A B H s) (R : Reps mg A B H xs vs) (O : Out mg W σ A B H (.ok (.tup xs) s) (kP mg Q)) {p : Addr} (hn : H p = none) : Q (.ref p) (upd H p (.tup vs)) := by
  have x : Ext A B H A B (upd H p (.tup vs)) := ext_new S.bt hn
  exact O A B _ x (sto_new S hn) (.ref p) (by simp only [Rep]; exact ⟨p, vs, rfl, upd_same, nb_new S.bt hn, R.mono x S.own⟩)
end
section
variable {X : Cx} {W : WX} {pos : Pos} {a b c : Expr} {es : List Expr} {fa fb fc : Rho → M P} {fs : Rho → M (List P)}
theorem sizeLine_line : sizeLine = line := sizeLine_eq
theorem ve_tup {k : Nat} (hs : VA X W es fs) : VE X W (.Tuple es k pos) (fun ρ => bnd (fs ρ) fun ps => if ps.length ≤ line then ret (.tup ps) else bad) := by
  refine (pe_tup hs).weak fun σ H Q h => ?_
  obtain ⟨A, B, ρ, s, S, L, O⟩ := h
  refine ⟨A, B, ρ, s, S, L, O.bnd.imp fun A1 B1 H1 s1 ps x1 S1 O1 vs r => ?_⟩
  split at O1
  · rename_i hl
    exact ⟨by rw [reps_len r, sizeLine_line]; exact hl, fun p hn => mkT_out S1 r O1 hn⟩
  · exact O1.elim
theorem ve_lst {r : Al} (hs : VA X W es fs) : VE X W (.List es pos) (fun ρ => bnd (fs ρ) fun ps => if ps.length ≤ line then mkL r ps else bad) := by
  refine (pe_lst hs).weak fun σ H Q h => ?_
  obtain ⟨A, B, ρ, s, S, L, O⟩ := h
  refine ⟨A, B, ρ, s, S, L, O.bnd.imp fun A1 B1 H1 s1 ps x1 S1 O1 vs rr => ?_⟩
  split at O1
  · rename_i hl
    exact ⟨by rw [reps_len rr, sizeLine_line]; exact hl, fun p hn => mkL_out S1 rr O1 hn⟩
  · exact O1.elim
theorem ve_bin {op : Operator} {g : P → P → M P} (ho : OpR X (binaryOp op) (r2 X.mg g)) (ha : VE X W a fa) (hb : VE X W b fb) :
    VE X W (.BinOp a op b pos) (fun ρ => bnd (fa ρ) fun p => bnd (fb ρ) fun q => g p q) := (pe_op ho ha hb).weak fun σ H Q h => tE_bin h
theorem ve_un {op : UnaryOp} {g : P → M P} (ho : UnR X (unaryOp op) (r1 X.mg g)) (ha : VE X W a fa) : VE X W (.UnaryOp op a pos) (fun ρ => bnd (fa ρ) g) := (pe_un ho ha).weak fun σ H Q h => tE_un h
theorem ve_cmp {op : CmpOp} {g : P → P → M P} (ho : OpR X (compareOp op) (r2 X.mg g)) (ha : VE X W a fa) (hb : VE X W b fb) (hm : behindInMarks op b = false) :
    VE X W (.Compare a [op] [b] pos) (fun ρ => bnd (fa ρ) fun p => bnd (fb ρ) fun q => g p q) := (pe_cmpR ho ha hb hm).weak fun σ H Q h => tE_bin h
theorem ve_ix {g : P → P → M P} (hr : IxR X (r2 X.mg g)) (ha : VE X W a fa) (hb : VE X W b fb) (hs : PlainIx b) :
    VE X W (.Subscript a b pos) (fun ρ => bnd (fa ρ) fun p => bnd (fb ρ) fun q => g p q) := (pe_ix hr ha hb hs).weak fun σ H Q h => tE_bin h
end
end FW

end

section
set_option Elab.async false
set_option linter.all false
/-! Fw4: primitives: operators, comparisons, indices, slices. -/
namespace FW
open PySem PySem.Spec PyProof.Rows L2
variable [Tb]
section
variable {mg : Mg} {W : WX} {σ : L2.St} {A : As} {B : Fb} {H : Hp} {s : Sto} {K : PySem.W.Frag}
/-- a list, as it stands -/
theorem rep_list {p : P} {v : V} {xs : List P} (S : StoR mg A B H s) (r : Rep mg A B H p v) (h : listOf s p = some xs) : ∃ a vs, v = .ref a ∧ H a = some (.lst vs) ∧ Reps mg A B H xs vs := by
  cases p with
  | lst ys =>
    have e : ys = xs := Option.some.inj h
    subst e
    simp only [Rep] at r
    obtain ⟨a, vs, e, h1, _, h2⟩ := r
    exact ⟨a, vs, e, h1, h2⟩
  | lob n =>
    simp only [Rep] at r
    obtain ⟨a, e, h1⟩ := r
    have h' : (match s.l[n]? with | some (.lst xs) => some xs | _ => none) = some xs := h
    cases e2 : s.l[n]? with
    | none => rw [e2] at h'; cases h'
    | some o =>
      rw [e2] at h'
      cases o with
      | lst ys =>
        have e3 : ys = xs := Option.some.inj h'
        subst e3
        obtain ⟨vs, h2, h3⟩ := S.ol n a _ h1 e2
        exact ⟨a, vs, e, h2, h3⟩
      | _ => cases h'
  | gob n =>
    simp only [Rep] at r
    obtain ⟨a, e, h1⟩ := r
    have h' : (match s.g[n]? with | some (.lst xs) => some xs | _ => none) = some xs := h
    cases e2 : s.g[n]? with
    | none => rw [e2] at h'; cases h'
    | some o =>
      rw [e2] at h'
      cases o with
      | lst ys =>
        have e3 : ys = xs := Option.some.inj h'
        subst e3
        obtain ⟨vs, h2, h3⟩ := S.og n a _ h1 e2
        exact ⟨a, vs, e, h2, h3⟩
      | _ => cases h'
  | _ => cases h
theorem rep_tup {v : V} {xs : List P} (r : Rep mg A B H (.tup xs) v) : ∃ a vs, v = .ref a ∧ H a = some (.tup vs) ∧ Reps mg A B H xs vs := by
  simp only [Rep] at r
  obtain ⟨a, vs, e, h1, _, h2⟩ := r
  exact ⟨a, vs, e, h1, h2⟩
theorem itemsOf_cases {p : P} {xs : List P} (h : itemsOf s p = some xs) : p = .tup xs ∨ p = .scr xs ∨ listOf s p = some xs := by
  cases p with
  | tup ys => exact .inl (by rw [Option.some.inj h])
  | scr ys => exact .inr (.inl (by rw [Option.some.inj h]))
  | lst ys => exact .inr (.inr h)
  | lob n => exact .inr (.inr h)
  | gob n => exact .inr (.inr h)
  | _ => cases h
theorem rep_items {p : P} {v : V} {xs : List P} (S : StoR mg A B H s) (r : Rep mg A B H p v) (h : itemsOf s p = some xs) : ∃ a vs, v = .ref a ∧ (SqL K H a vs ∨ SqT K H a vs) ∧ Reps mg A B H xs vs := by
  rcases itemsOf_cases h with e | e | h
  · subst e
    obtain ⟨a, vs, e, h1, h2⟩ := rep_tup r
    exact ⟨a, vs, e, .inr (SqT.of h1), h2⟩
  · subst e
    simp only [Rep] at r
    obtain ⟨a, vs, e, h1, _, h2⟩ := r
    exact ⟨a, vs, e, .inl (.inl h1), h2⟩
  · obtain ⟨a, vs, e, h1, h2⟩ := rep_list S r h
    exact ⟨a, vs, e, .inl (SqL.of h1), h2⟩
theorem reps_app : ∀ {xs ys : List P} {vs ws : List V}, Reps mg A B H xs vs → Reps mg A B H ys ws → Reps mg A B H (xs ++ ys) (vs ++ ws)
  | [], _, _, _, h, h' => by simp only [Reps] at h; rw [h]; exact h'
  | p :: ps, ys, _, ws, h, h' => by
    simp only [Reps] at h
    obtain ⟨v, r, e, h1, h2⟩ := h
    rw [e]
    show Reps mg A B H (p :: (ps ++ ys)) (v :: (r ++ ws))
    simp only [Reps]
    exact ⟨v, _, rfl, h1, reps_app h2 h'⟩
theorem reps_get : ∀ {xs : List P} {vs : List V} {i : Nat} {p : P}, Reps mg A B H xs vs → xs[i]? = some p → ∃ v, vs[i]? = some v ∧ Rep mg A B H p v
  | [], _, i, _, _, h => by simp at h
  | q :: ps, _, 0, p, h, e => by
    simp only [Reps] at h
    obtain ⟨v, r, e1, h1, h2⟩ := h
    have e2 : q = p := by simpa using e
    subst e2
    exact ⟨v, by rw [e1]; rfl, h1⟩
  | q :: ps, _, i + 1, p, h, e => by
    simp only [Reps] at h
    obtain ⟨v, r, e1, h1, h2⟩ := h
    obtain ⟨w, e2, r2⟩ := reps_get (i := i) (p := p) h2 (by simpa using e)
    exact ⟨w, by rw [e1]; simpa using e2, r2⟩
theorem reps_take : ∀ {xs : List P} {vs : List V} (n : Nat), Reps mg A B H xs vs → Reps mg A B H (xs.take n) (vs.take n)
  | [], _, n, h => by simp only [Reps] at h; rw [h]; simp [Reps]
  | q :: ps, _, 0, h => by simp [Reps]
  | q :: ps, _, n + 1, h => by
    simp only [Reps] at h
    obtain ⟨v, r, e1, h1, h2⟩ := h
    rw [e1, List.take_succ_cons, List.take_succ_cons]
    simp only [Reps]
    exact ⟨v, _, rfl, h1, reps_take n h2⟩
theorem reps_drop : ∀ {xs : List P} {vs : List V} (n : Nat), Reps mg A B H xs vs → Reps mg A B H (xs.drop n) (vs.drop n)
  | [], _, n, h => by simp only [Reps] at h; rw [h]; simp [Reps]
  | q :: ps, _, 0, h => h
  | q :: ps, _, n + 1, h => by
    simp only [Reps] at h
    obtain ⟨v, r, e1, h1, h2⟩ := h
    rw [e1, List.drop_succ_cons, List.drop_succ_cons]
    exact reps_drop n h2
theorem reps_rev {xs : List P} {vs : List V} (h : Reps mg A B H xs vs) : Reps mg A B H xs.reverse vs.reverse := by
  induction xs generalizing vs with
  | nil => simp only [Reps] at h; rw [h]; simp [Reps]
  | cons q ps ih =>
    simp only [Reps] at h
    obtain ⟨v, r, e1, h1, h2⟩ := h
    rw [e1, List.reverse_cons, List.reverse_cons]
    exact reps_app (ih h2) (by simp only [Reps]; exact ⟨v, [], rfl, h1, rfl⟩)
theorem reps_cut {xs : List P} {vs : List V} (h : Reps mg A B H xs vs) (lo hi : Option Int) : Reps mg A B H (cutP xs lo hi) (cutV vs lo hi) := by
  unfold cutP cutV
  rw [reps_len h]
  exact reps_take _ (reps_drop _ h)
theorem reps_rep {xs : List P} {vs : List V} (h : Reps mg A B H xs vs) : ∀ n : Nat, Reps mg A B H (List.replicate n xs).flatten (List.replicate n vs).flatten
  | 0 => by simp [Reps]
  | n + 1 => by
    rw [List.replicate_succ, List.replicate_succ, List.flatten_cons, List.flatten_cons]
    exact reps_app h (reps_rep h n)
theorem reps_nil_iff {xs : List P} {vs : List V} (h : Reps mg A B H xs vs) : vs = [] ↔ xs = [] := by
  have e := reps_len h
  constructor
  · intro z; rw [z] at e; exact List.length_eq_zero_iff.mp e.symm
  · intro z; rw [z] at e; exact List.length_eq_zero_iff.mp e
theorem reps_at {xs : List P} {vs : List V} {i : Int} {p : P} (h : Reps mg A B H xs vs) (e : atI xs i = some p) : ∃ v, atI vs i = some v ∧ Rep mg A B H p v := by
  unfold atI at e ⊢
  rw [reps_len h]
  cases q : ixN xs.length i with
  | none => rw [q] at e; cases e
  | some j =>
    rw [q] at e
    exact reps_get h e
theorem reps_ints : ∀ {xs : List P} {vs : List V} {is : List Int}, Reps mg A B H xs vs → intsOf xs = some is → vs = is.map V.int
  | [], _, _, h, e => by
    simp only [Reps] at h
    have e' : [] = _ := Option.some.inj e
    rw [h, ← e']; rfl
  | .int i :: ps, _, is, h, e => by
    simp only [Reps] at h
    obtain ⟨v, r, e1, h1, h2⟩ := h
    have e' : (intsOf ps).map (i :: ·) = some is := e
    cases q : intsOf ps with
    | none => rw [q] at e'; cases e'
    | some js =>
      rw [q] at e'
      have e2 : i :: js = is := Option.some.inj e'
      simp only [Rep] at h1
      rw [e1, h1, ← e2, reps_ints h2 q]; rfl
  | .non :: _, _, _, _, e | .bl _ :: _, _, _, _, e | .str _ :: _, _, _, _, e | .ty _ :: _, _, _, _, e | .tup _ :: _, _, _, _, e | .lst _ :: _, _, _, _, e | .dct _ _ :: _, _, _, _, e
  | .ins _ _ :: _, _, _, _, e | .exc _ _ :: _, _, _, _, e | .lob _ :: _, _, _, _, e | .gob _ :: _, _, _, _, e | .fn _ :: _, _, _, _, e | .cls _ :: _, _, _, _, e | .scr _ :: _, _, _, _, e => by cases e
theorem reps_bls : ∀ {xs : List P} {vs : List V} {is : List Bool}, Reps mg A B H xs vs → blsOf xs = some is → vs = is.map V.bl
  | [], _, _, h, e => by
    simp only [Reps] at h
    have e' : [] = _ := Option.some.inj e
    rw [h, ← e']; rfl
  | .bl i :: ps, _, is, h, e => by
    simp only [Reps] at h
    obtain ⟨v, r, e1, h1, h2⟩ := h
    have e' : (blsOf ps).map (i :: ·) = some is := e
    cases q : blsOf ps with
    | none => rw [q] at e'; cases e'
    | some js =>
      rw [q] at e'
      have e2 : i :: js = is := Option.some.inj e'
      simp only [Rep] at h1
      rw [e1, h1, ← e2, reps_bls h2 q]; rfl
  | .non :: _, _, _, _, e | .int _ :: _, _, _, _, e | .str _ :: _, _, _, _, e | .ty _ :: _, _, _, _, e | .tup _ :: _, _, _, _, e | .lst _ :: _, _, _, _, e | .dct _ _ :: _, _, _, _, e
  | .ins _ _ :: _, _, _, _, e | .exc _ _ :: _, _, _, _, e | .lob _ :: _, _, _, _, e | .gob _ :: _, _, _, _, e | .fn _ :: _, _, _, _, e | .cls _ :: _, _, _, _, e | .scr _ :: _, _, _, _, e => by cases e
end

/-! ### binary operators -/
section
variable {X : Cx} {r : Al}
theorem out_int {mg : Mg} {W : WX} {σ : L2.St} {A : As} {B : Fb} {H : Hp} {s : Sto} {i : Int} {Q : VK} (S : StoR mg A B H s) (O : Out mg W σ A B H (.ok (.int i) s) (kP mg Q)) : Q (.int i) H := O.ok S _ (by simp only [Rep])
theorem op_addP : OpR X (binaryOp .Add) (r2 X.mg (pAdd r)) := by
  intro pins s σ H x y v u Q I rx ry h
  obtain ⟨W, σ', A, B, st, p, q, S, rp, rq, O⟩ := h
  unfold pAdd at O
  split at O
  · simp only [Rep] at rp rq
    exact op_add pins s σ H x y v u Q I rx ry ⟨_, _, rp, rq, out_int S O⟩
  · split at O
    · rename_i hl
      simp only [Rep] at rp rq
      exact op_add_str pins s σ H x y v u Q I rx ry ⟨_, _, rp, rq, by rw [sizeLine_line]; exact hl, O.ok S _ (by simp only [Rep])⟩
    · exact O.elim
  · split at O
    · rename_i hl
      obtain ⟨a, vs, e1, h1, n1, R1⟩ := (show _ from by simpa only [Rep] using rp)
      obtain ⟨b, ws, e2, h2, n2, R2⟩ := (show _ from by simpa only [Rep] using rq)
      refine op_catA pins s σ H x y v u Q I rx ry ⟨a, b, vs, ws, e1, e2, SqT.of h1, SqT.of h2, by rw [reps_len R1, reps_len R2, sizeLine_line]; exact hl, fun z => ?_, fun _ z => ?_, fun _ _ p hn => mkT_out S (reps_app R1 R2) O hn⟩
      · have e := (reps_nil_iff R1).mp z
        rw [e, List.nil_append] at O
        rw [← e2]
        exact O.ok S _ rq
      · have e := (reps_nil_iff R2).mp z
        rw [e, List.append_nil] at O
        rw [← e1]
        exact O.ok S _ rp
    · exact O.elim
  · split at O
    · rename_i e1 e2
      split at O
      · rename_i hl
        obtain ⟨a, vs, e1, h1, R1⟩ := rep_list S rp e1
        obtain ⟨b, ws, e2, h2, R2⟩ := rep_list S rq e2
        exact op_cat pins s σ H x y v u Q I rx ry ⟨a, b, vs, ws, e1, e2, h1, h2, by rw [reps_len R1, reps_len R2, sizeLine_line]; exact hl, fun p hn => mkL_out S (reps_app R1 R2) O hn⟩
      · exact O.elim
    · exact O.elim
theorem op_subP : OpR X (binaryOp .Sub) (r2 X.mg pSub) := by
  intro pins s σ H x y v u Q I rx ry h
  obtain ⟨W, σ', A, B, st, p, q, S, rp, rq, O⟩ := h
  unfold pSub at O
  split at O
  · simp only [Rep] at rp rq
    exact op_sub pins s σ H x y v u Q I rx ry ⟨_, _, rp, rq, out_int S O⟩
  · exact O.elim
theorem small64_iff {i : Int} (h : small64 i = true) : -(2 ^ 64) < i ∧ i < 2 ^ 64 := by
  unfold small64 at h
  simp only [Bool.and_eq_true, decide_eq_true_eq] at h
  exact h
theorem op_mulP : OpR X (binaryOp .Mult) (r2 X.mg (pMul r)) := by
  intro pins s σ H x y v u Q I rx ry h
  obtain ⟨W, σ', A, B, st, p, q, S, rp, rq, O⟩ := h
  unfold pMul at O
  split at O
  · split at O
    · rename_i i j hl
      simp only [Rep] at rp rq
      refine op_mul pins s σ H x y v u Q I rx ry ⟨_, _, rp, rq, ?_, out_int S O⟩
      rcases Bool.or_eq_true_iff.mp hl with h | h
      · exact .inl (small64_iff h)
      · exact .inr (small64_iff h)
    · exact O.elim
  · split at O
    · rename_i xs k hl
      simp only [Bool.and_eq_true, decide_eq_true_eq, Bool.not_eq_true', List.isEmpty_eq_false_iff] at hl
      obtain ⟨a, vs, e1, h1, n1, R1⟩ := (show _ from by simpa only [Rep] using rp)
      simp only [Rep] at rq
      exact op_repT pins s σ H x y v u Q I rx ry ⟨a, k, vs, e1, rq, SqT.of h1, fun z => hl.2 ((reps_nil_iff R1).mp z), hl.1.1.1, hl.1.1.2, by rw [reps_len R1]; exact hl.1.2, fun p hn => mkT_out S (reps_rep R1 _) O hn⟩
    · exact O.elim
  · split at O
    · rename_i e1
      split at O
      · rename_i hl
        simp only [Bool.and_eq_true, decide_eq_true_eq] at hl
        obtain ⟨a, vs, e1, h1, R1⟩ := rep_list S rp e1
        simp only [Rep] at rq
        exact op_rep pins s σ H x y v u Q I rx ry ⟨a, _, vs, e1, rq, h1, hl.1.1, hl.1.2, by rw [reps_len R1, sizeLine_line]; exact hl.2, fun p hn => mkL_out S (reps_rep R1 _) O hn⟩
      · exact O.elim
    · exact O.elim
  · exact O.elim
theorem op_fdivP : OpR X (binaryOp .FloorDiv) (r2 X.mg pFdiv) := by
  intro pins s σ H x y v u Q I rx ry h
  obtain ⟨W, σ', A, B, st, p, q, S, rp, rq, O⟩ := h
  unfold pFdiv at O
  split at O
  · split at O
    · rename_i i j hl
      simp only [Bool.and_eq_true, decide_eq_true_eq] at hl
      simp only [Rep] at rp rq
      exact op_fdivN pins s σ H x y v u Q I rx ry ⟨_, _, rp, rq, hl, out_int S O⟩
    · exact O.elim
  · exact O.elim
theorem op_modP : OpR X (binaryOp .Mod) (r2 X.mg pMod) := by
  intro pins s σ H x y v u Q I rx ry h
  obtain ⟨W, σ', A, B, st, p, q, S, rp, rq, O⟩ := h
  unfold pMod at O
  split at O
  · split at O
    · rename_i i j hl
      simp only [decide_eq_true_eq] at hl
      simp only [Rep] at rp rq
      exact op_modN pins s σ H x y v u Q I rx ry ⟨_, _, rp, rq, hl, out_int S O⟩
    · exact O.elim
  · exact O.elim
theorem op_powP : OpR X (binaryOp .Pow) (r2 X.mg pPow) := by
  intro pins s σ H x y v u Q I rx ry h
  obtain ⟨W, σ', A, B, st, p, q, S, rp, rq, O⟩ := h
  unfold pPow at O
  split at O
  · split at O
    · rename_i i j hl
      simp only [Bool.and_eq_true, decide_eq_true_eq] at hl
      simp only [Rep] at rp rq
      exact op_pow pins s σ H x y v u Q I rx ry ⟨_, _, rp, rq, ⟨hl.1.1, hl.1.2, hl.2⟩, out_int S O⟩
    · exact O.elim
  · exact O.elim
theorem un_negP : UnR X (unaryOp .USub) (r1 X.mg pNeg) := by
  intro pins s σ H x v Q I rx h
  obtain ⟨W, σ', A, B, st, p, S, rp, O⟩ := h
  unfold pNeg at O
  cases p with
  | int i =>
    simp only [Rep] at rp
    exact un_neg pins s σ H x v Q I rx ⟨_, rp, out_int S O⟩
  | _ => exact O.elim
def opOf : Op2 → Operator
  | .add => .Add | .sub => .Sub | .mul => .Mult | .fdiv => .FloorDiv | .mod => .Mod | .pow => .Pow
theorem op_binP (o : Op2) : OpR X (binaryOp (opOf o)) (r2 X.mg (pBin r o)) := by
  cases o with
  | add => exact op_addP
  | sub => exact op_subP
  | mul => exact op_mulP
  | fdiv => exact op_fdivP
  | mod => exact op_modP
  | pow => exact op_powP

/-! ### indices, slices -/
def DctR (mg : Mg) (A : As) (B : Fb) (H : Hp) (t : Bool) (kvs : List (KeyP × P)) (a : Addr) : Prop := match t with
  | false => ∃ ks, Rd H a (.dK ks) ∧ RepK mg A B H kvs ks
  | true => ∃ ks, Rd H a (.dT ks) ∧ RepT mg A B H kvs ks
theorem rep_dct {mg : Mg} {A : As} {B : Fb} {H : Hp} {s : Sto} {p : P} {v : V} {t : Bool} {kvs : List (KeyP × P)} (S : StoR mg A B H s) (r : Rep mg A B H p v) (h : dctOf s p = some (t, kvs)) :
    ∃ a, v = .ref a ∧ DctR mg A B H t kvs a := by
  cases p with
  | dct u ys =>
    have e : (u, ys) = (t, kvs) := Option.some.inj h
    cases e
    cases t <;> simp only [Rep] at r
    · obtain ⟨a, ks, e, h1, _, h2⟩ := r
      exact ⟨a, e, ks, h1, h2⟩
    · obtain ⟨a, ks, e, h1, _, h2⟩ := r
      exact ⟨a, e, ks, h1, h2⟩
  | lob n =>
    simp only [Rep] at r
    obtain ⟨a, e, h1⟩ := r
    have h' : (match s.l[n]? with | some (.dct t xs) => some (t, xs) | _ => none) = some (t, kvs) := h
    cases e2 : s.l[n]? with
    | none => rw [e2] at h'; cases h'
    | some o =>
      rw [e2] at h'
      cases o with
      | dct u ys =>
        have e3 : (u, ys) = (t, kvs) := Option.some.inj h'
        cases e3
        cases t
        · obtain ⟨ks, h2, h3⟩ := S.ol n a _ h1 e2
          exact ⟨a, e, ks, .inl h2, h3⟩
        · obtain ⟨ks, h2, h3⟩ := S.ol n a _ h1 e2
          exact ⟨a, e, ks, .inl h2, h3⟩
      | _ => cases h'
  | gob n =>
    simp only [Rep] at r
    obtain ⟨a, e, h1⟩ := r
    have h' : (match s.g[n]? with | some (.dct t xs) => some (t, xs) | _ => none) = some (t, kvs) := h
    cases e2 : s.g[n]? with
    | none => rw [e2] at h'; cases h'
    | some o =>
      rw [e2] at h'
      cases o with
      | dct u ys =>
        have e3 : (u, ys) = (t, kvs) := Option.some.inj h'
        cases e3
        cases t
        · obtain ⟨ks, h2, h3⟩ := S.og n a _ h1 e2
          exact ⟨a, e, ks, .inl h2, h3⟩
        · obtain ⟨ks, h2, h3⟩ := S.og n a _ h1 e2
          exact ⟨a, e, ks, .inl h2, h3⟩
      | _ => cases h'
  | _ => cases h
theorem look_cons {k : KeyP} {p : P} {r : List (KeyP × P)} {j : KeyP} : look ((k, p) :: r) j = if k = j then some p else look r j := by
  unfold look
  by_cases e : k = j
  · rw [List.find?_cons_of_pos (by simp [e]), if_pos e]; rfl
  · rw [List.find?_cons_of_neg (by simp [e]), if_neg e]
section
variable {mg : Mg} {A : As} {B : Fb} {H : Hp}
theorem repK_look : ∀ {kvs : List (KeyP × P)} {ks : List (Key × V)} {k : Key}, RepK mg A B H kvs ks → (∀ p, look kvs (.k k) = some p → ∃ v, valV ks k = some v ∧ Rep mg A B H p v) ∧ (look kvs (.k k) = none → valV ks k = none)
  | [], _, k, h => by simp only [RepK] at h; rw [h]; exact ⟨fun p z => (nomatch (show (none : Option P) = some p from z)), fun _ => rfl⟩
  | (kk, p) :: r, _, k, h => by
    simp only [RepK] at h
    obtain ⟨j, v, r', e, ek, h1, h2⟩ := h
    subst ek; subst e
    rw [look_cons]
    by_cases e : j = k
    · subst e
      rw [if_pos rfl]
      refine ⟨fun q z => ⟨v, valV_pos rfl, ?_⟩, fun z => nomatch z⟩
      cases z; exact h1
    · rw [if_neg (by simpa using e), valV_neg (by simpa using e)]
      exact repK_look h2
theorem repT_look : ∀ {kvs : List (KeyP × P)} {ks : List (List Key × V)} {k : List Key}, RepT mg A B H kvs ks → (∀ p, look kvs (.t k) = some p → ∃ v, valV ks k = some v ∧ Rep mg A B H p v) ∧ (look kvs (.t k) = none → valV ks k = none)
  | [], _, k, h => by simp only [RepT] at h; rw [h]; exact ⟨fun p z => (nomatch (show (none : Option P) = some p from z)), fun _ => rfl⟩
  | (kk, p) :: r, _, k, h => by
    simp only [RepT] at h
    obtain ⟨j, v, r', e, ek, h1, h2⟩ := h
    subst ek; subst e
    rw [look_cons]
    by_cases e : j = k
    · subst e
      rw [if_pos rfl]
      refine ⟨fun q z => ⟨v, valV_pos rfl, ?_⟩, fun z => nomatch z⟩
      cases z; exact h1
    · rw [if_neg (by simpa using e), valV_neg (by simpa using e)]
      exact repT_look h2
theorem keyK_rep {p : P} {k : Key} {v : V} (e : keyK p = some k) (r : Rep mg A B H p v) : v = kV k := by
  cases p with
  | int i =>
    have e' : Sum.inl i = k := Option.some.inj e
    subst e'
    simp only [Rep] at r; exact r
  | str i =>
    have e' : Sum.inr i = k := Option.some.inj e
    subst e'
    simp only [Rep] at r; exact r
  | _ => cases e
theorem keyKs_rep : ∀ {ps : List P} {ks : List Key} {vs : List V}, keyKs ps = some ks → Reps mg A B H ps vs → vs = ks.map kV
  | [], ks, vs, e, r => by
    have e' : [] = ks := Option.some.inj e
    subst e'
    simp only [Reps] at r; rw [r]; rfl
  | p :: ps, ks, vs, e, r => by
    simp only [Reps] at r
    obtain ⟨v, w, e1, h1, h2⟩ := r
    unfold keyKs at e
    cases q1 : keyK p with
    | none => rw [q1] at e; cases e
    | some k =>
      cases q2 : keyKs ps with
      | none => rw [q1, q2] at e; cases e
      | some js =>
        rw [q1, q2] at e
        have e' : k :: js = ks := Option.some.inj e
        subst e'
        rw [e1, keyK_rep q1 h1, keyKs_rep q2 h2]; rfl
/-- a key, as it lies -/
theorem keyOf_rep {p : P} {k : KeyP} {v : V} (e : keyOf p = some k) (r : Rep mg A B H p v) : (∃ j, k = .k j ∧ v = kV j) ∨ ∃ j b, k = .t j ∧ v = .ref b ∧ H b = some (.tup (j.map kV)) := by
  by_cases h : ∃ xs, p = .tup xs
  · obtain ⟨xs, rfl⟩ := h
    obtain ⟨a, vs, e1, h1, R1⟩ := rep_tup r
    have e' : (keyKs xs).map KeyP.t = some k := e
    cases q : keyKs xs with
    | none => rw [q] at e'; cases e'
    | some js =>
      rw [q] at e'
      have e2 : KeyP.t js = k := Option.some.inj e'
      exact .inr ⟨js, a, e2.symm, e1, by rw [h1, keyKs_rep q R1]⟩
  · have e' : (keyK p).map KeyP.k = some k := by
      cases p with
      | tup xs => exact absurd ⟨xs, rfl⟩ h
      | _ => exact e
    cases q : keyK p with
    | none => rw [q] at e'; cases e'
    | some j =>
      rw [q] at e'
      have e2 : KeyP.k j = k := Option.some.inj e'
      exact .inl ⟨j, e2.symm, keyK_rep q r⟩
/-- what a dict holds -/
theorem dct_get {q : P} {u : V} {t : Bool} {kvs : List (KeyP × P)} {k : KeyP} {a : Addr} (D : DctR mg A B H t kvs a) (rq : Rep mg A B H q u) (hk : keyOf q = some k) (ht : (isT k == t) = true) :
    ∃ o, DGet H a u o ∧ (∀ z, look kvs k = some z → ∃ w, o = some w ∧ Rep mg A B H z w) ∧ (look kvs k = none → o = none) := by
  rcases keyOf_rep hk rq with ⟨j, rfl, rfl⟩ | ⟨j, b, rfl, rfl, hb⟩
  · cases t with
    | true => cases ht
    | false =>
      obtain ⟨ks, h1, h2⟩ := D
      exact ⟨valV ks j, .inl ⟨ks, j, h1, rfl, rfl⟩, (repK_look h2).1, (repK_look h2).2⟩
  · cases t with
    | false => cases ht
    | true =>
      obtain ⟨ks, h1, h2⟩ := D
      exact ⟨valV ks j, .inr ⟨ks, j, b, h1, rfl, hb, rfl⟩, (repT_look h2).1, (repT_look h2).2⟩
end
end
end FW

end

section
set_option Elab.async false
set_option linter.all false
/-! Fw5: primitives: indices, slices, comparisons, tests. -/
namespace FW
open PySem PySem.Spec PyProof.Rows L2
variable [Tb]
section
variable {X : Cx} {r : Al}
def rDx : R2 := fun x y H Q => ∃ a v, x = .ref a ∧ DGet H a y (some v) ∧ Q v H
theorem ix_dict (hu : X.A.units + 1 < cLine) : IxR X rDx := by
  intro value slice pins s σ H x y v u Q I rx ry h hs
  obtain ⟨a, w, rfl, g, q⟩ := h
  cases rx
  exact tail_any (ops := [.ref a, u]) (dict_typeIs I g) PySem.F.slot_dict_getitem.lookup (d_getItem hu I g ry fun w' s3 I3 rw' => ⟨w, H, I3, rw', q⟩) hs
theorem ix_P (hu : X.A.units + 1 < cLine) : IxR X (r2 X.mg pIdx) := by
  intro value slice pins s σ H x y v u Q I rx ry h hs
  obtain ⟨W, σ', A, B, st, p, q, S, rp, rq, O⟩ := h
  unfold pIdx at O
  split at O
  · split at O
    · rename_i hl
      split at O
      · rename_i c hc
        simp only [Rep] at rp rq
        exact ix_str value slice pins s σ H x y v u Q I rx ry ⟨_, _, c, rp, rq, by rw [sizeLine_line]; exact hl, hc, O.ok S _ (by simp only [Rep])⟩ hs
      · exact O.elim
    · exact O.elim
  · split at O
    · rename_i xs hx
      split at O
      · split at O
        · rename_i z hz
          obtain ⟨a, vs, e1, h1, R1⟩ := rep_items (K := X.K) S rp hx
          obtain ⟨w, e2, rw2⟩ := reps_at R1 hz
          simp only [Rep] at rq
          rcases h1 with h1 | h1
          · exact ix_list value slice pins s σ H x y v u Q I rx ry ⟨a, vs, _, w, e1, rq, h1, e2, O.ok S _ rw2⟩ hs
          · exact ix_tup value slice pins s σ H x y v u Q I rx ry ⟨a, vs, _, w, e1, rq, h1, e2, O.ok S _ rw2⟩ hs
        · exact O.elim
      · exact O.elim
    · split at O
      · rename_i t kvs k hd hk
        split at O
        · rename_i z hz
          split at O
          · rename_i ht
            obtain ⟨a, e1, D⟩ := rep_dct S rp hd
            obtain ⟨o, g, h1, _⟩ := dct_get D rq hk ht
            obtain ⟨w, e2, rw2⟩ := h1 z hz
            subst e2
            exact ix_dict hu value slice pins s σ H x y v u Q I rx ry ⟨a, w, e1, g, O.ok S _ rw2⟩ hs
          · exact O.elim
        · exact O.elim
      · exact O.elim
end
/-! ### slices -/
/-- a slice's part -/
def tO (mg : Mg) (W : WX) (f : Rho → M (Option Int)) : TO := fun σ H Q => ∃ A B ρ s, StoR mg A B H s ∧ SloR mg A B H ρ σ ∧ Out mg W σ A B H (f ρ s) fun _ _ H' _ o => Q o H'
section
variable {X : Cx} {W : WX} {pos p2 : Pos} {a : Expr} {lo hi : Option Expr} {fa : Rho → M P} {fl fh : Rho → M (Option Int)} {r : Al}
theorem _root_.L2.PO.weak {e : Option Expr} {t u : TO} (h : PO X e t) (i : ∀ σ H Q, u σ H Q → t σ H Q) : PO X e u := ⟨fun pins s σ H Q I w => h.run pins s σ H Q I (i σ H Q w)⟩
abbrev VO (X : Cx) (W : WX) (e : Option Expr) (f : Rho → M (Option Int)) : Prop := PO X e (tO X.mg W f)
theorem vo_none : VO X W none (fun _ => ret none) := po_none.weak fun σ H Q h => by
  obtain ⟨A, B, ρ, s, S, L, O⟩ := h
  exact O.ret S
theorem vo_some {e : Expr} (h : VE X W e fa) : VO X W (some e) (fun ρ => bnd (fa ρ) toI) := (po_some h).weak fun σ H Q h => by
  obtain ⟨A, B, ρ, s, S, L, O⟩ := h
  refine ⟨A, B, ρ, s, S, L, O.bnd.imp fun A' B' H' s' p x S' O' v rv => ?_⟩
  cases p with
  | int i =>
    simp only [Rep] at rv
    exact ⟨i, rv, O'.ret S'⟩
  | _ => exact O'.elim
def rSl (mg : Mg) (g : P → Option Int → Option Int → M P) : V → Option Int → Option Int → Hp → VK → Prop := fun x lo hi H Q => ∃ W σ A B s p, StoR mg A B H s ∧ Rep mg A B H p x ∧ Out mg W σ A B H (g p lo hi s) (kP mg Q)
theorem cut_whole {α : Type} {xs : List α} {lo hi : Option Int} (h : HT.sIx xs.length 0 lo = 0 ∧ HT.sIx xs.length xs.length hi = xs.length) :
    (xs.drop (HT.sIx xs.length 0 lo)).take (HT.sIx xs.length xs.length hi - HT.sIx xs.length 0 lo) = xs := by
  rw [h.1, h.2]; simp
theorem sl_P : SlR X (rSl X.mg (pCut r)) := by
  intro pins s σ H x v vl vu lo hi sl Q I rx hs pl pu h
  obtain ⟨W, σ', A, B, st, p, S, rp, O⟩ := h
  unfold pCut at O
  split at O
  · rename_i xs
    obtain ⟨a, vs, e1, h1, n1, R1⟩ := (show _ from by simpa only [Rep] using rp)
    refine sl_tupA pins s σ H x v vl vu lo hi sl Q I rx hs pl pu ⟨a, vs, e1, SqT.of h1, fun z => ?_, fun _ p hn => mkT_out S (reps_cut R1 lo hi) O hn⟩
    have ew : cutP xs lo hi = xs := cut_whole (by rw [← reps_len R1]; exact z)
    rw [ew] at O
    rw [← e1]
    exact O.ok S _ rp
  · split at O
    · rename_i xs hx
      obtain ⟨a, vs, e1, h1, R1⟩ := rep_list S rp hx
      exact sl_list pins s σ H x v vl vu lo hi sl Q I rx hs pl pu ⟨a, vs, e1, SqL.of h1, fun p hn => mkL_out S (reps_cut R1 lo hi) O hn⟩
    · exact O.elim
theorem ve_slice (ha : VE X W a fa) (hl : VO X W lo fl) (hh : VO X W hi fh) : VE X W (.Subscript a (.Slice lo hi none p2) pos) (fun ρ => bnd (fa ρ) fun p => bnd (fl ρ) fun l => bnd (fh ρ) fun h => pCut r p l h) := by
  refine (pe_slice (sl_P (r := r)) ha hl hh).weak fun σ H Q h => ?_
  obtain ⟨A, B, ρ, s, S, L, O⟩ := h
  exact ⟨A, B, ρ, s, S, L, O.bnd.imp fun A1 B1 H1 s1 p x1 S1 O1 v r1 => ⟨A1, B1, ρ, s1, S1, L.mono x1 S.own, O1.bnd.imp fun A2 B2 H2 s2 pl x2 S2 O2 =>
    ⟨A2, B2, ρ, s2, S2, (L.mono x1 S.own).mono x2 S1.own, O2.bnd.imp fun A3 B3 H3 s3 ph x3 S3 O3 => ⟨W, σ, A3, B3, s3, p, S3, r1.mono (x2.trans x3) S1.own, O3⟩⟩⟩⟩
end
/-! ### comparisons -/
mutual
theorem dp_of {mg : Mg} {A : As} {B : Fb} {H : Hp} {K : PySem.W.Frag} {f : P → Option PyData} (hf : ∀ p d v, f p = some d → Rep mg A B H p v → Dp K H v d) :
    ∀ {p : P} {d : PyData} {v : V}, toD f p = some d → Rep mg A B H p v → Dp K H v d
  | .non, d, v, e, r => by
    have e' : PyData.none = d := Option.some.inj e
    subst e'
    simp only [Rep] at r; rw [r]; exact .non
  | .bl b, d, v, e, r => by
    have e' : PyData.bool b = d := Option.some.inj e
    subst e'
    simp only [Rep] at r; rw [r]; exact .bl b
  | .int b, d, v, e, r => by
    have e' : PyData.int b = d := Option.some.inj e
    subst e'
    simp only [Rep] at r; rw [r]; exact .int b
  | .str b, d, v, e, r => by
    have e' : PyData.str b = d := Option.some.inj e
    subst e'
    simp only [Rep] at r; rw [r]; exact .str b
  | .tup xs, d, v, e, r => by
    obtain ⟨a, vs, e1, h1, R1⟩ := rep_tup r
    have e' : (toDs f xs).map PyData.tuple = some d := e
    cases q : toDs f xs with
    | none => rw [q] at e'; cases e'
    | some ds =>
      rw [q] at e'
      have e2 : PyData.tuple ds = d := Option.some.inj e'
      subst e2
      rw [e1]
      exact .tup (SqT.of h1) (dps_of hf q R1)
  | .lst xs, d, v, e, r => by
    simp only [Rep] at r
    obtain ⟨a, vs, e1, h1, _, R1⟩ := r
    have e' : (toDs f xs).map PyData.list = some d := e
    cases q : toDs f xs with
    | none => rw [q] at e'; cases e'
    | some ds =>
      rw [q] at e'
      have e2 : PyData.list ds = d := Option.some.inj e'
      subst e2
      rw [e1]
      exact .lst (SqL.of h1) (dps_of hf q R1)
  | .lob n, d, v, e, r => hf (.lob n) d v e r
  | .gob n, d, v, e, r => hf (.gob n) d v e r
  | .ty _, _, _, e, _ | .dct _ _, _, _, e, _ | .ins _ _, _, _, e, _ | .exc _ _, _, _, e, _ | .fn _, _, _, e, _ | .cls _, _, _, e, _ | .scr _, _, _, e, _ => by cases e
theorem dps_of {mg : Mg} {A : As} {B : Fb} {H : Hp} {K : PySem.W.Frag} {f : P → Option PyData} (hf : ∀ p d v, f p = some d → Rep mg A B H p v → Dp K H v d) :
    ∀ {ps : List P} {ds : List PyData} {vs : List V}, toDs f ps = some ds → Reps mg A B H ps vs → DpAll K H vs ds
  | [], ds, vs, e, r => by
    have e' : [] = ds := Option.some.inj e
    subst e'
    simp only [Reps] at r; rw [r]; exact .nil
  | p :: ps, ds, vs, e, r => by
    simp only [Reps] at r
    obtain ⟨v, w, e1, h1, h2⟩ := r
    unfold toDs at e
    cases q1 : toD f p with
    | none => rw [q1] at e; cases e
    | some k =>
      cases q2 : toDs f ps with
      | none => rw [q1, q2] at e; cases e
      | some js =>
        rw [q1, q2] at e
        have e' : k :: js = ds := Option.some.inj e
        subst e'
        rw [e1]
        exact .cons (dp_of hf q1 h1) (dps_of hf q2 h2)
end
theorem mapM_cons_some {α β : Type} {f : α → Option β} {x : α} {xs : List α} {ys : List β} (h : (x :: xs).mapM f = some ys) : ∃ y zs, f x = some y ∧ xs.mapM f = some zs ∧ ys = y :: zs := by
  rw [List.mapM_cons] at h
  cases q : f x with
  | none => rw [q] at h; cases h
  | some y =>
    rw [q] at h
    cases q2 : xs.mapM f with
    | none => rw [q2] at h; cases h
    | some zs =>
      rw [q2] at h
      exact ⟨y, zs, rfl, rfl, (Option.some.inj h).symm⟩
theorem dat_of {mg : Mg} {A : As} {B : Fb} {H : Hp} {K : PySem.W.Frag} {s : Sto} (S : StoR mg A B H s) : ∀ (k : Nat) {p : P} {d : PyData} {v : V}, datOf k s p = some d → Rep mg A B H p v → Dp K H v d
  | 0, p, d, v, e, r => dp_of (f := fun _ => none) (fun n d v e => nomatch e) e r
  | k + 1, p, d, v, e, r => by
    refine dp_of (fun n d v e r => ?_) e r
    cases e2 : listOf s n with
    | none => rw [e2] at e; cases e
    | some ys =>
      rw [e2] at e
      obtain ⟨a, vs, e1, h2, h3⟩ := rep_list S r e2
      have e' : (ys.mapM (datOf k s)).map PyData.list = some d := e
      cases q : ys.mapM (datOf k s) with
      | none => rw [q] at e'; cases e'
      | some ds =>
        rw [q] at e'
        have e3 : PyData.list ds = d := Option.some.inj e'
        subst e3
        rw [e1]
        refine .lst (SqL.of h2) ?_
        clear e e' e2 h2 e1
        induction ys generalizing vs ds with
        | nil =>
          have e4 : ([] : List PyData) = ds := Option.some.inj q
          subst e4
          simp only [Reps] at h3; rw [h3]; exact .nil
        | cons y ys ih =>
          simp only [Reps] at h3
          obtain ⟨w, ws, e4, r1, r2⟩ := h3
          obtain ⟨d1, ds1, q1, q2, e5⟩ := mapM_cons_some q
          subst e5
          rw [e4]
          exact .cons (dat_of S k q1 r1) (ih ws r2 ds1 q2)
section
variable {X : Cx}
def pB (g : P → P → M Bool) : P → P → M P := fun p q => bnd (g p q) fun c => ret (.bl c)
theorem out_b {mg : Mg} {W : WX} {σ : L2.St} {A : As} {B : Fb} {H : Hp} {s : Sto} {c : Bool} {Q : VK} (S : StoR mg A B H s) (O : Out mg W σ A B H (.ok (.bl c) s) (kP mg Q)) : Q (.bl c) H := O.ok S _ (by simp only [Rep])
theorem deepEq_out {mg : Mg} {W : WX} {σ : L2.St} {A : As} {B : Fb} {H : Hp} {s : Sto} {p q : P} {β : Type} {g : Bool → M β} {k : As → Fb → Hp → Sto → β → Prop} (O : Out mg W σ A B H (bnd (deepEq p q) g s) k) :
    ∃ d e, datOf 3 s p = some d ∧ datOf 3 s q = some e ∧ SeqAt.shaped d = true ∧ SeqAt.shaped e = true ∧ Out mg W σ A B H (g (PyData.eqv d e) s) k := by
  unfold bnd deepEq at O
  split at O
  · rename_i h
    split at h
    · rename_i d e h1 h2
      split at h
      · rename_i hs
        cases h
        have hs' := Bool.and_eq_true_iff.mp hs
        exact ⟨d, e, h1, h2, hs'.1, hs'.2, O⟩
      · cases h
    · cases h
  · rename_i h
    split at h
    · split at h <;> cases h
    · cases h
  · exact O.elim
theorem op_eqP (hu : X.A.units + 64 < cLine) : OpR X (compareOp .Eq) (r2 X.mg (pB (pCmp .eq))) := by
  intro pins s σ H x y v u Q I rx ry h
  obtain ⟨W, σ', A, B, st, p, q, S, rp, rq, O⟩ := h
  obtain ⟨d, e, h1, h2, h3, h4, O⟩ := deepEq_out O
  exact op_eqD hu pins s σ H x y v u Q I rx ry ⟨d, e, dat_of S 3 h1 rp, dat_of S 3 h2 rq, h3, h4, out_b S O⟩
theorem bnd_assoc {α β γ : Type} (m : M α) (f : α → M β) (g : β → M γ) : bnd (bnd m f) g = bnd m fun a => bnd (f a) g := by
  funext s
  unfold bnd
  cases m s <;> rfl
theorem op_neP (hu : X.A.units + 64 < cLine) : OpR X (compareOp .NotEq) (r2 X.mg (pB (pCmp .ne))) := by
  intro pins s σ H x y v u Q I rx ry h
  obtain ⟨W, σ', A, B, st, p, q, S, rp, rq, O⟩ := h
  have O' : Out X.mg W σ' A B H (bnd (bnd (deepEq p q) fun c => ret !c) (fun c => ret (.bl c)) st) (kP X.mg Q) := O
  rw [bnd_assoc] at O'
  obtain ⟨d, e, h1, h2, h3, h4, O⟩ := deepEq_out O'
  exact op_neD hu pins s σ H x y v u Q I rx ry ⟨d, e, dat_of S 3 h1 rp, dat_of S 3 h2 rq, h3, h4, out_b S O⟩
theorem out_ofO {mg : Mg} {W : WX} {σ : L2.St} {A : As} {B : Fb} {H : Hp} {s : Sto} {o : Option Bool} {Q : VK} (S : StoR mg A B H s) (O : Out mg W σ A B H (bnd (ofO o) (fun c => ret (.bl c)) s) (kP mg Q)) : ∃ c, o = some c ∧ Q (.bl c) H := by
  cases o with
  | none => exact O.elim
  | some c => exact ⟨c, rfl, out_b S O⟩
theorem ltT_ints {K : PySem.W.Frag} (hu : X.A.units < cLine) : True := trivial
theorem op_ltP (hu : X.A.units < cLine) : OpR X (compareOp .Lt) (r2 X.mg (pB (pCmp .lt))) := by
  intro pins s σ H x y v u Q I rx ry h
  obtain ⟨W, σ', A, B, st, p, q, S, rp, rq, O⟩ := h
  obtain ⟨c, hc, hq⟩ := out_ofO S O
  unfold pLt at hc
  split at hc
  · simp only [Rep] at rp rq
    have ec := Option.some.inj hc
    rw [← ec] at hq
    exact op_lt pins s σ H x y v u Q I rx ry ⟨_, _, rp, rq, hq⟩
  · simp only [Rep] at rp rq
    have ec := Option.some.inj hc
    rw [← ec] at hq
    exact op_lt_str pins s σ H x y v u Q I rx ry ⟨_, _, rp, rq, hq⟩
  · split at hc
    · rename_i xs ys is js h1 h2
      obtain ⟨a, vs, e1, g1, R1⟩ := rep_tup rp
      obtain ⟨b, ws, e2, g2, R2⟩ := rep_tup rq
      rw [reps_ints R1 h1] at g1
      rw [reps_ints R2 h2] at g2
      have ec : HT.lexLt is js = c := Option.some.inj hc
      exact op_ltT hu pins s σ H x y v u Q I rx ry ⟨a, b, is, js, e1, e2, SqT.of g1, SqT.of g2, by rw [ec]; exact hq⟩
    · cases hc
  · cases hc
theorem op_intP {op : CmpOp} {o : Cm} {f : Int → Int → Bool} (ho : OpR X (compareOp op) (rI0 fun i j => .bl (f i j)))
    (hf : ∀ p q, pCmp o p q = match p, q with | .int i, .int j => ret (f i j) | _, _ => bad) : OpR X (compareOp op) (r2 X.mg (pB (pCmp o))) := by
  intro pins s σ H x y v u Q I rx ry h
  obtain ⟨W, σ', A, B, st, p, q, S, rp, rq, O⟩ := h
  unfold pB at O
  rw [hf] at O
  split at O
  · simp only [Rep] at rp rq
    exact ho pins s σ H x y v u Q I rx ry ⟨_, _, rp, rq, out_b S O⟩
  · exact O.elim
theorem rep_isnon {mg : Mg} {A : As} {B : Fb} {H : Hp} : ∀ {p : P} {x : V}, Rep mg A B H p x → decide (x = .non) = isNonP p
  | .non, x, h => by simp only [Rep] at h; rw [h]; rfl
  | .bl _, x, h => by simp only [Rep] at h; rw [h]; rfl
  | .int _, x, h => by simp only [Rep] at h; rw [h]; rfl
  | .str _, x, h => by simp only [Rep] at h; rw [h]; rfl
  | .ty _, x, h => by simp only [Rep] at h; rw [h]; rfl
  | .tup _, x, h => by simp only [Rep] at h; obtain ⟨a, _, e, _⟩ := h; rw [e]; rfl
  | .lst _, x, h => by simp only [Rep] at h; obtain ⟨a, _, e, _⟩ := h; rw [e]; rfl
  | .scr _, x, h => by simp only [Rep] at h; obtain ⟨a, _, e, _⟩ := h; rw [e]; rfl
  | .dct false _, x, h => by simp only [Rep] at h; obtain ⟨a, _, e, _⟩ := h; rw [e]; rfl
  | .dct true _, x, h => by simp only [Rep] at h; obtain ⟨a, _, e, _⟩ := h; rw [e]; rfl
  | .ins _ _, x, h => by simp only [Rep] at h; obtain ⟨a, _, _, _, e, _⟩ := h; rw [e]; rfl
  | .exc _ _, x, h => by simp only [Rep] at h; obtain ⟨a, _, e, _⟩ := h; rw [e]; rfl
  | .lob _, x, h => by simp only [Rep] at h; obtain ⟨a, e, _⟩ := h; rw [e]; rfl
  | .gob _, x, h => by simp only [Rep] at h; obtain ⟨a, e, _⟩ := h; rw [e]; rfl
  | .fn _, x, h => by simp only [Rep] at h; obtain ⟨a, e, _⟩ := h; rw [e]; rfl
  | .cls _, x, h => by simp only [Rep] at h; obtain ⟨a, e, _⟩ := h; rw [e]; rfl
theorem op_isP : OpR X (compareOp .Is) (r2 X.mg (pB (pCmp .is_))) := by
  intro pins s σ H x y v u Q I rx ry h
  obtain ⟨W, σ', A, B, st, p, q, S, rp, rq, O⟩ := h
  obtain ⟨c, hc, hq⟩ := out_ofO S O
  unfold pIs at hc
  split at hc
  · simp only [Rep] at rq
    refine op_isN pins s σ H x y v u Q I rx ry ⟨rq, ?_⟩
    rw [rep_isnon rp, Option.some.inj hc]; exact hq
  · split at hc
    · simp only [Rep] at rp rq
      have ec := Option.some.inj hc
      rw [← ec] at hq
      exact op_isBl pins s σ H x y v u Q I rx ry ⟨_, _, rp, rq, hq⟩
    · cases hc
  · cases hc
theorem op_isNotP : OpR X (compareOp .IsNot) (r2 X.mg (pB (pCmp .isNot))) := by
  intro pins s σ H x y v u Q I rx ry h
  obtain ⟨W, σ', A, B, st, p, q, S, rp, rq, O⟩ := h
  obtain ⟨c, hc, hq⟩ := out_ofO S O
  cases hp : pIs p q with
  | none => rw [hp] at hc; cases hc
  | some b =>
    rw [hp] at hc
    have ec : (!b) = c := Option.some.inj hc
    rw [← ec] at hq
    unfold pIs at hp
    split at hp
    · simp only [Rep] at rq
      refine op_notN pins s σ H x y v u Q I rx ry ⟨rq, ?_⟩
      rw [rep_isnon rp, Option.some.inj hp]; exact hq
    · split at hp
      · simp only [Rep] at rp rq
        have ec := Option.some.inj hp
        rw [← ec] at hq
        exact op_notBl pins s σ H x y v u Q I rx ry ⟨_, _, rp, rq, hq⟩
      · cases hp
    · cases hp
/-- flat values -/
theorem flat_rep {mg : Mg} {A : As} {B : Fb} {H : Hp} {p : P} {x : V} (hf : flatP p = true) (h : Rep mg A B H p x) : flatV x = true ∧ ∀ q y, flatP q = true → Rep mg A B H q y → eqV x y = eqP p q := by
  cases p with
  | non =>
    simp only [Rep] at h; subst h
    exact ⟨rfl, fun q y hq r => by cases q <;> first | (cases hq; done) | (simp only [Rep] at r; subst r; rfl)⟩
  | bl b =>
    simp only [Rep] at h; subst h
    refine ⟨rfl, fun q y hq r => ?_⟩
    cases q with
    | non => simp only [Rep] at r; subst r; rfl
    | bl c => simp only [Rep] at r; subst r; show (b == c) = decide (b = c); cases b <;> cases c <;> rfl
    | int c => simp only [Rep] at r; subst r; show ((if b then (1 : Int) else 0) == c) = decide (b2iP b = c); rw [Bool.beq_eq_decide_eq]; rfl
    | str c => simp only [Rep] at r; subst r; rfl
    | _ => cases hq
  | int b =>
    simp only [Rep] at h; subst h
    refine ⟨rfl, fun q y hq r => ?_⟩
    cases q with
    | non => simp only [Rep] at r; subst r; rfl
    | bl c => simp only [Rep] at r; subst r; show (b == (if c then (1 : Int) else 0)) = decide (b = b2iP c); rw [Bool.beq_eq_decide_eq]; rfl
    | int c => simp only [Rep] at r; subst r; show (b == c) = decide (b = c); rw [Bool.beq_eq_decide_eq]
    | str c => simp only [Rep] at r; subst r; rfl
    | _ => cases hq
  | str b =>
    simp only [Rep] at h; subst h
    refine ⟨rfl, fun q y hq r => ?_⟩
    cases q with
    | non => simp only [Rep] at r; subst r; rfl
    | bl c => simp only [Rep] at r; subst r; rfl
    | int c => simp only [Rep] at r; subst r; rfl
    | str c => simp only [Rep] at r; subst r; show (b == c) = decide (b = c); rw [Bool.beq_eq_decide_eq]
    | _ => cases hq
  | _ => cases hf
theorem flats_rep {mg : Mg} {A : As} {B : Fb} {H : Hp} {p : P} {x : V} (hp : flatP p = true) (h : Rep mg A B H p x) : ∀ {ps : List P} {vs : List V}, ps.all flatP = true → Reps mg A B H ps vs → vs.all flatV = true ∧ inV x vs = inSeq p ps
  | [], _, _, r => by simp only [Reps] at r; rw [r]; exact ⟨rfl, rfl⟩
  | q :: ps, _, hq, r => by
    simp only [Reps] at r
    obtain ⟨v, w, e, r1, r2⟩ := r
    rw [List.all_cons, Bool.and_eq_true] at hq
    obtain ⟨i1, i2⟩ := flats_rep hp h hq.2 r2
    obtain ⟨f1, f2⟩ := flat_rep hq.1 r1
    rw [e]
    refine ⟨by rw [List.all_cons, f1, i1]; rfl, ?_⟩
    unfold inV inSeq at i2 ⊢
    rw [List.any_cons, List.any_cons, i2, f2 p x hp h]
/-- x in o: the cases -/
theorem pIn_out {mg : Mg} {W : WX} {σ : L2.St} {A : As} {B : Fb} {H : Hp} {K : PySem.W.Frag} {s : Sto} {p q : P} {x y : V} {β : Type} {g : Bool → M β} {k : As → Fb → Hp → Sto → β → Prop} (S : StoR mg A B H s) (rp : Rep mg A B H p x) (rq : Rep mg A B H q y)
    (O : Out mg W σ A B H (bnd (pIn p q) g s) k) : ∃ c, Out mg W σ A B H (g c s) k ∧
      ((∃ a vs, y = .ref a ∧ (SqL K H a vs ∨ SqT K H a vs) ∧ flatV x = true ∧ vs.all flatV = true ∧ inV x vs = c) ∨
       (∃ d ds, Dp K H x d ∧ Dp K H y (.list ds) ∧ SeqAt.shaped d = true ∧ SeqAt.shaped (.list ds) = true ∧ (ds.any fun e => PyData.eqv e d) = c) ∨
       (∃ a o, y = .ref a ∧ DGet H a x o ∧ o.isSome = c) ∨
       (∃ i j, x = .str i ∧ y = .str j ∧ (!(Builtin.Str.occurrences j i 0 j.length 1).isEmpty) = c)) := by
  unfold bnd pIn at O
  split at O
  · rename_i c s' h
    split at h
    · rename_i xs hx
      split at h
      · rename_i hf
        cases h
        have hf' := Bool.and_eq_true_iff.mp hf
        obtain ⟨a, vs, e1, h1, R1⟩ := rep_items (K := K) S rq hx
        obtain ⟨f1, f2⟩ := flats_rep hf'.1 rp hf'.2 R1
        exact ⟨_, O, .inl ⟨a, vs, e1, h1, (flat_rep hf'.1 rp).1, f1, f2⟩⟩
      · split at h
        · rename_i d ds h1 h2
          split at h
          · rename_i hs
            cases h
            have hs' := Bool.and_eq_true_iff.mp hs
            exact ⟨_, O, .inr (.inl ⟨d, ds, dat_of S 3 h1 rp, dat_of S 3 h2 rq, hs'.1, hs'.2, rfl⟩)⟩
          · cases h
        · cases h
    · split at h
      · rename_i t kvs hd
        split at h
        · rename_i kk hk
          split at h
          · rename_i ht
            cases h
            obtain ⟨a, e1, D⟩ := rep_dct S rq hd
            obtain ⟨o, gg, h1, h2⟩ := dct_get D rp hk ht
            refine ⟨_, O, .inr (.inr (.inl ⟨a, o, e1, gg, ?_⟩))⟩
            cases hl : look kvs kk with
            | none => rw [h2 hl]; rfl
            | some z =>
              obtain ⟨w, e2, _⟩ := h1 z hl
              rw [e2]; rfl
          · cases h
        · cases h
      · split at h
        · cases h
          simp only [Rep] at rp rq
          exact ⟨_, O, .inr (.inr (.inr ⟨_, _, rp, rq, rfl⟩))⟩
        · cases h
  · rename_i h
    split at h
    · split at h
      · cases h
      · split at h
        · split at h <;> cases h
        · cases h
    · split at h
      · split at h
        · split at h <;> cases h
        · cases h
      · split at h <;> cases h
  · exact O.elim
theorem op_inP (hu : X.A.units + 65 < cLine) : OpR X (compareOp .In) (r2 X.mg (pB (pCmp .in_))) := by
  intro pins s σ H x y v u Q I rx ry h
  obtain ⟨W, σ', A, B, st, p, q, S, rp, rq, O⟩ := h
  obtain ⟨c, O, h⟩ := pIn_out (K := X.K) S rp rq O
  have hq := out_b S O
  rcases h with ⟨a, vs, e1, h1, f1, f2, ec⟩ | ⟨d, ds, h1, h2, h3, h4, ec⟩ | ⟨a, o, e1, g, ec⟩ | ⟨i, j, e1, e2, ec⟩
  · rw [← ec] at hq
    exact op_in_seq pins s σ H x y v u Q I rx ry ⟨a, vs, e1, h1, f1, f2, hq⟩
  · rw [← ec] at hq
    exact op_inD hu pins s σ H x y v u Q I rx ry ⟨d, ds, h1, h2, h3, h4, hq⟩
  · rw [← ec] at hq
    subst e1
    cases ry
    exact d_in (by omega) I g rx fun s3 I3 => ⟨.bl o.isSome, H, I3, rfl, hq⟩
  · rw [← ec] at hq
    exact op_in_str pins s σ H x y v u Q I rx ry ⟨i, j, e1, e2, hq⟩
theorem op_notInP (hu : X.A.units + 65 < cLine) : OpR X (compareOp .NotIn) (r2 X.mg (pB (pCmp .notIn))) := by
  intro pins s σ H x y v u Q I rx ry h
  obtain ⟨W, σ', A, B, st, p, q, S, rp, rq, O⟩ := h
  have O' : Out X.mg W σ' A B H (bnd (bnd (pIn p q) fun c => ret !c) (fun c => ret (.bl c)) st) (kP X.mg Q) := O
  rw [bnd_assoc] at O'
  obtain ⟨c, O, h⟩ := pIn_out (K := X.K) S rp rq O'
  have hq := out_b S O
  rcases h with ⟨a, vs, e1, h1, f1, f2, ec⟩ | ⟨d, ds, h1, h2, h3, h4, ec⟩ | ⟨a, o, e1, g, ec⟩ | ⟨i, j, e1, e2, ec⟩
  · rw [← ec] at hq
    exact op_notIn_seq pins s σ H x y v u Q I rx ry ⟨a, vs, e1, h1, f1, f2, hq⟩
  · rw [← ec] at hq
    exact op_notInD hu pins s σ H x y v u Q I rx ry ⟨d, ds, h1, h2, h3, h4, hq⟩
  · rw [← ec] at hq
    subst e1
    cases ry
    exact d_notIn (by omega) I g rx fun s3 I3 => ⟨.bl !o.isSome, H, I3, rfl, hq⟩
  · rw [← ec] at hq
    exact L2.op_notIn_str pins s σ H x y v u Q I rx ry ⟨i, j, e1, e2, hq⟩
def cmpOf : Cm → CmpOp
  | .eq => .Eq | .ne => .NotEq | .lt => .Lt | .le => .LtE | .gt => .Gt | .ge => .GtE | .is_ => .Is | .isNot => .IsNot | .in_ => .In | .notIn => .NotIn
theorem op_cmpP (hu : X.A.units + 65 < cLine) (o : Cm) : OpR X (compareOp (cmpOf o)) (r2 X.mg (pB (pCmp o))) := by
  cases o with
  | eq => exact op_eqP (by omega)
  | ne => exact op_neP (by omega)
  | lt => exact op_ltP (by omega)
  | le => exact op_intP op_le fun p q => rfl
  | gt => exact op_intP op_gt fun p q => rfl
  | ge => exact op_intP op_ge fun p q => rfl
  | is_ => exact op_isP
  | isNot => exact op_isNotP
  | in_ => exact op_inP hu
  | notIn => exact op_notInP hu
end
end FW

end

section
set_option Elab.async false
set_option linter.all false
/-! Fw6: tests, and, or, not, chains, conditional expressions; built-in functions and methods. -/
namespace FW
open PySem PySem.Spec PyProof.Rows L2
variable [Tb]
section
variable {mg : Mg} {W : WX} {σ : L2.St} {A : As} {B : Fb} {H : Hp} {K : PySem.W.Frag} {s : Sto}
theorem list_len_line (R : StoR mg A B H s) : True := trivial
theorem truth_rep {p : P} {x : V} {c : Bool} (S : StoR mg A B H s) (r : Rep mg A B H p x) (h : truth s p = some c) : TruV K x H c := by
  have ls : ∀ xs, listOf s p = some xs → some (!xs.isEmpty) = some c → TruV K x H c := fun xs hl hc => by
    obtain ⟨a, vs, e, h1, R1⟩ := rep_list S r hl
    rw [e]
    refine .inl ⟨vs, SqL.of h1, ?_⟩
    have e2 := reps_nil_iff R1
    rw [← Option.some.inj hc]
    cases xs <;> cases vs <;> simp_all
  unfold truth at h
  split at h
  · simp only [Rep] at r; rw [r]; exact (Option.some.inj h).symm
  · simp only [Rep] at r; rw [r]; exact (Option.some.inj h).symm
  · simp only [Rep] at r; rw [r]; exact (Option.some.inj h).symm
  · simp only [Rep] at r; rw [r]
    split at h
    · rename_i hl
      exact ⟨by rw [sizeLine_line]; exact hl, (Option.some.inj h).symm⟩
    · cases h
  · obtain ⟨a, vs, e, h1, R1⟩ := rep_tup r
    rw [e]
    refine .inr (.inl ⟨vs, SqT.of h1, ?_⟩)
    have e2 := reps_nil_iff R1
    rw [← Option.some.inj h]
    rename_i xs
    cases xs <;> cases vs <;> simp_all
  · split at h
    · rename_i hl
      exact ls _ hl h
    · cases h
theorem truthM_out {p : P} {x : V} {β : Type} {g : Bool → M β} {k : As → Fb → Hp → Sto → β → Prop} (S : StoR mg A B H s) (r : Rep mg A B H p x) (O : Out mg W σ A B H (bnd (truthM p) g s) k) :
    ∃ c, truth s p = some c ∧ TruV K x H c ∧ Out mg W σ A B H (g c s) k := by
  unfold bnd truthM at O
  cases h : truth s p with
  | none => rw [h] at O; exact O.elim
  | some c => rw [h] at O; exact ⟨c, rfl, truth_rep S r h, O⟩
end
section
variable {X : Cx} {W : WX} {pos : Pos} {a b c : Expr} {es : List Expr} {fa fb fc : Rho → M P} {fs : Rho → M (List P)} {ga gb : Rho → M Bool}
def tst (f : Rho → M P) : Rho → M Bool := fun ρ => bnd (f ρ) truthM
theorem truthM_ok {p : P} {s s' : Sto} {c : Bool} (h : truthM p s = .ok c s') : truth s p = some c ∧ s' = s := by
  unfold truthM at h
  cases e : truth s p with
  | none => rw [e] at h; cases h
  | some d => rw [e] at h; cases h; exact ⟨rfl, rfl⟩
theorem bnd_truth_ret {p : P} : bnd (truthM p) (fun c => ret c) = truthM p := by
  funext s
  unfold bnd
  cases h : truthM p s <;> rfl
/-- an expression whose test is its value's truth -/
theorem vt_truth (ha : VE X W a fa) (he : ∀ whole, isTrue a X.env whole = (do let v ← whole; standAt a.pos; holding [v] (truthy v))) : VT X W a (tst fa) := by
  refine (pt_truth ha he).weak fun σ H Q h => ?_
  obtain ⟨A, B, ρ, s, S, L, O⟩ := h
  refine ⟨A, B, ρ, s, S, L, O.bnd.imp fun A1 B1 H1 s1 p x1 S1 O1 v r => ?_⟩
  rw [← bnd_truth_ret] at O1
  obtain ⟨c, _, ht, O2⟩ := truthM_out (K := X.K) S1 r O1
  exact ⟨c, ht, O2.ret S1⟩
theorem vt_not (ha : VT X W a (tst fa)) : VT X W (.UnaryOp .Not a pos) (tst fun ρ => bnd (fa ρ) fun p => bnd (truthM p) fun c => ret (.bl !c)) := by
  refine (pt_not ha).weak fun σ H Q h => ?_
  obtain ⟨A, B, ρ, s, S, L, O⟩ := h
  refine ⟨A, B, ρ, s, S, L, ?_⟩
  have O' : Out X.mg W σ A B H (bnd (tst fa ρ) (fun c => truthM (.bl !c)) s) (kB Q) := by
    unfold tst at O ⊢
    rw [bnd_assoc] at O ⊢
    refine (congrArg (fun m => Out X.mg W σ A B H (bnd (fa ρ) m s) (kB Q)) (funext fun p => ?_)).mp O
    rw [bnd_assoc]
    rfl
  exact O'.bnd.imp fun A1 B1 H1 s1 c x1 S1 O1 => O1.ok S1
theorem ve_not (ha : VE X W a fa) : VE X W (.UnaryOp .Not a pos) (fun ρ => bnd (fa ρ) fun p => bnd (truthM p) fun c => ret (.bl !c)) := by
  refine (pe_notT ha).weak fun σ H Q h => ?_
  obtain ⟨A, B, ρ, s, S, L, O⟩ := h
  refine ⟨A, B, ρ, s, S, L, O.bnd.imp fun A1 B1 H1 s1 p x1 S1 O1 v r => ?_⟩
  obtain ⟨c, _, ht, O2⟩ := truthM_out (K := X.K) S1 r O1
  exact ⟨c, ht, out_b S1 O2⟩
/-- and, or, as values -/
def bAnd (f g : Rho → M P) : Rho → M P := fun ρ => bnd (f ρ) fun p => bnd (truthM p) fun c => if c then g ρ else ret p
def bOr (f g : Rho → M P) : Rho → M P := fun ρ => bnd (f ρ) fun p => bnd (truthM p) fun c => if c then ret p else g ρ
theorem ve_one {op : BoolOp} (ha : VE X W a fa) : VE X W (.BoolOp op [a] pos) fa := pe_one ha
theorem ve_and (ha : VE X W a fa) (hb : VE X W (.BoolOp .And (b :: es) pos) fb) : VE X W (.BoolOp .And (a :: b :: es) pos) (bAnd fa fb) := by
  refine (pe_andT ha hb).weak fun σ H Q h => ?_
  obtain ⟨A, B, ρ, s, S, L, O⟩ := h
  refine ⟨A, B, ρ, s, S, L, O.bnd.imp fun A1 B1 H1 s1 p x1 S1 O1 v r => ?_⟩
  obtain ⟨c, _, ht, O2⟩ := truthM_out (K := X.K) S1 r O1
  refine ⟨c, ht, ?_⟩
  cases c with
  | true => exact ⟨A1, B1, ρ, s1, S1, L.mono x1 S.own, O2⟩
  | false => exact O2.ret S1 v r
theorem ve_or (ha : VE X W a fa) (hb : VE X W (.BoolOp .Or (b :: es) pos) fb) : VE X W (.BoolOp .Or (a :: b :: es) pos) (bOr fa fb) := by
  refine (pe_orT ha hb).weak fun σ H Q h => ?_
  obtain ⟨A, B, ρ, s, S, L, O⟩ := h
  refine ⟨A, B, ρ, s, S, L, O.bnd.imp fun A1 B1 H1 s1 p x1 S1 O1 v r => ?_⟩
  obtain ⟨c, _, ht, O2⟩ := truthM_out (K := X.K) S1 r O1
  refine ⟨c, ht, ?_⟩
  cases c with
  | false => exact ⟨A1, B1, ρ, s1, S1, L.mono x1 S.own, O2⟩
  | true => exact O2.ret S1 v r
/-- .. as tests -/
abbrev VW (X : Cx) (W : WX) (e : Expr) (f : Rho → M Bool) : Prop := PW X e (tT X.mg W f)
theorem tst_and {σ : L2.St} {A : As} {B : Fb} {H : Hp} {ρ : Rho} {s : Sto} {Q : Bool → Hp → Prop} {mg : Mg} (O : Out mg W σ A B H (tst (bAnd fa fb) ρ s) (kB Q)) : Out mg W σ A B H (bnd (tst fa ρ) (fun c => if c then tst fb ρ else ret false) s) (kB Q) := by
  unfold tst bAnd at O
  unfold tst
  rw [bnd_assoc] at O ⊢
  unfold bnd at O ⊢
  cases h : fa ρ s with
  | bad => rw [h] at O; exact O
  | exn x s' => rw [h] at O; exact O
  | ok p s' =>
    rw [h] at O
    dsimp only at O ⊢
    cases h2 : truthM p s' with
    | bad => rw [h2] at O; exact O
    | exn x s2 => rw [h2] at O; exact O
    | ok c s2 =>
      rw [h2] at O
      obtain ⟨e1, e2⟩ := truthM_ok h2
      cases c with
      | true => exact O
      | false =>
        subst e2
        dsimp only [ret] at O ⊢
        have O' : Out mg W σ A B H (truthM p s2) (kB Q) := O
        rw [h2] at O'
        exact O'
theorem tst_or {σ : L2.St} {A : As} {B : Fb} {H : Hp} {ρ : Rho} {s : Sto} {Q : Bool → Hp → Prop} {mg : Mg} (O : Out mg W σ A B H (tst (bOr fa fb) ρ s) (kB Q)) : Out mg W σ A B H (bnd (tst fa ρ) (fun c => if c then ret true else tst fb ρ) s) (kB Q) := by
  unfold tst bOr at O
  unfold tst
  rw [bnd_assoc] at O ⊢
  unfold bnd at O ⊢
  cases h : fa ρ s with
  | bad => rw [h] at O; exact O
  | exn x s' => rw [h] at O; exact O
  | ok p s' =>
    rw [h] at O
    dsimp only at O ⊢
    cases h2 : truthM p s' with
    | bad => rw [h2] at O; exact O
    | exn x s2 => rw [h2] at O; exact O
    | ok c s2 =>
      rw [h2] at O
      obtain ⟨e1, e2⟩ := truthM_ok h2
      cases c with
      | false => exact O
      | true =>
        subst e2
        dsimp only [ret] at O ⊢
        have O' : Out mg W σ A B H (truthM p s2) (kB Q) := O
        rw [h2] at O'
        exact O'
theorem vw_and1 (ha : VT X W a ga) : VW X W (.BoolOp .And [a] pos) ga := pw_and1 ha
theorem vw_or1 (ha : VT X W a ga) : VW X W (.BoolOp .Or [a] pos) ga := pw_or1 ha
theorem vw_and (ha : VT X W a (tst fa)) (hb : VW X W (.BoolOp .And (b :: es) pos) (tst fb)) : VW X W (.BoolOp .And (a :: b :: es) pos) (tst (bAnd fa fb)) := by
  refine (pw_and ha hb).weak fun σ H Q h => ?_
  obtain ⟨A, B, ρ, s, S, L, O⟩ := h
  refine ⟨A, B, ρ, s, S, L, (tst_and O).bnd.imp fun A1 B1 H1 s1 c x1 S1 O1 => ?_⟩
  cases c with
  | true => exact ⟨A1, B1, ρ, s1, S1, L.mono x1 S.own, O1⟩
  | false => exact O1.ret S1
theorem vw_or (ha : VT X W a (tst fa)) (hb : VW X W (.BoolOp .Or (b :: es) pos) (tst fb)) : VW X W (.BoolOp .Or (a :: b :: es) pos) (tst (bOr fa fb)) := by
  refine (pw_or ha hb).weak fun σ H Q h => ?_
  obtain ⟨A, B, ρ, s, S, L, O⟩ := h
  refine ⟨A, B, ρ, s, S, L, (tst_or O).bnd.imp fun A1 B1 H1 s1 c x1 S1 O1 => ?_⟩
  cases c with
  | false => exact ⟨A1, B1, ρ, s1, S1, L.mono x1 S.own, O1⟩
  | true => exact O1.ret S1
/-- comparisons as tests -/
theorem pB_truth {g : P → P → M Bool} {p q : P} : bnd (pB g p q) truthM = g p q := by
  funext s
  unfold pB bnd
  cases g p q s <;> rfl
theorem tst_pB {g : P → P → M Bool} : tst (fun ρ => bnd (fa ρ) fun p => bnd (fb ρ) fun q => pB g p q) = fun ρ => bnd (fa ρ) fun p => bnd (fb ρ) fun q => g p q := by
  funext ρ
  unfold tst
  rw [bnd_assoc]
  congr 1; funext p
  rw [bnd_assoc]
  congr 1; funext q
  exact pB_truth
theorem vt_cmp {op : CmpOp} {g : P → P → M Bool} (ho : OpR X (compareOp op) (r2 X.mg (pB g))) (ha : VE X W a fa) (hb : VE X W b fb) (hm : behindInMarks op b = false) :
    VT X W (.Compare a [op] [b] pos) (tst fun ρ => bnd (fa ρ) fun p => bnd (fb ρ) fun q => pB g p q) := by
  refine (pt_cmpR ho ha hb hm).weak fun σ H Q h => ?_
  rw [tst_pB] at h
  obtain ⟨A, B, ρ, s, S, L, O⟩ := h
  refine ⟨A, B, ρ, s, S, L, O.bnd.imp fun A1 B1 H1 s1 p x1 S1 O1 v r => ⟨A1, B1, ρ, s1, S1, L.mono x1 S.own, O1.bnd.imp fun A2 B2 H2 s2 q x2 S2 O2 w r' => ?_⟩⟩
  refine ⟨W, σ, A2, B2, s2, p, q, S2, r.mono x2 S1.own, r', ?_⟩
  unfold pB
  cases h2 : g p q s2 with
  | bad => rw [h2] at O2; exact O2.elim
  | exn x s3 => rw [bnd_exn h2]; rw [h2] at O2; exact O2
  | ok c s3 =>
    rw [bnd_ok h2]
    rw [h2] at O2
    exact fun A3 B3 H3 x3 S3 v rv => by
      simp only [Rep] at rv
      exact ⟨c, rv, O2 A3 B3 H3 x3 S3⟩
/-- a op b op' c -/
def bChain (g g' : P → P → M Bool) (fa fb fc : Rho → M P) : Rho → M P := fun ρ => bnd (fa ρ) fun p => bnd (fb ρ) fun q => bnd (g p q) fun k => if k then bnd (fc ρ) fun r => bnd (g' q r) fun k' => ret (.bl k') else ret (.bl false)
theorem chain_read {op op' : CmpOp} {g g' : P → P → M Bool} {σ : L2.St} {H : Hp} {Q : VK} (h : tE X.mg W (bChain g g' fa fb fc) σ H Q) :
    tChain (r2 X.mg (pB g)) (r2 X.mg (pB g')) (tE X.mg W fa) (tE X.mg W fb) (tE X.mg W fc) σ H Q := by
  obtain ⟨A, B, ρ, s, S, L, O⟩ := h
  refine ⟨A, B, ρ, s, S, L, O.bnd.imp fun A1 B1 H1 s1 p x1 S1 O1 v r => ⟨A1, B1, ρ, s1, S1, L.mono x1 S.own, O1.bnd.imp fun A2 B2 H2 s2 q x2 S2 O2 w r' => ?_⟩⟩
  refine ⟨W, σ, A2, B2, s2, p, q, S2, r.mono x2 S1.own, r', ?_⟩
  cases h2 : g p q s2 with
  | bad => rw [bnd_bad h2] at O2; exact O2.elim
  | exn x s3 => rw [bnd_exn h2] at O2; unfold pB; rw [bnd_exn h2]; exact O2
  | ok k s3 =>
    rw [bnd_ok h2] at O2
    unfold pB; rw [bnd_ok h2]
    refine fun A3 B3 H3 x3 S3 z rz => ?_
    simp only [Rep] at rz
    refine ⟨k, rz, ?_⟩
    have O3 := Out.ext O2 x3
    cases k with
    | false => exact O3.ok S3 _ (by simp only [Rep])
    | true =>
      have O3' : Out X.mg W σ A3 B3 H3 (bnd (fc ρ) (fun r => bnd (g' q r) fun k' => ret (.bl k')) s3) (kP X.mg Q) := O3
      refine ⟨A3, B3, ρ, s3, S3, ((L.mono x1 S.own).mono x2 S1.own).mono x3 S2.own, O3'.bnd.imp fun A4 B4 H4 s4 t x4 S4 O4 y ry => ?_⟩
      exact ⟨W, σ, A4, B4, s4, q, t, S4, r'.mono (x3.trans x4) S2.own, ry, O4⟩
theorem ve_chain {op op' : CmpOp} {g g' : P → P → M Bool} (ho : OpR X (compareOp op) (r2 X.mg (pB g))) (ho' : OpR X (compareOp op') (r2 X.mg (pB g'))) (ha : VE X W a fa) (hb : VE X W b fb) (hc : VE X W c fc) (hm : lastMarks [op, op'] [b, c] = false) :
    VE X W (.Compare a [op, op'] [b, c] pos) (bChain g g' fa fb fc) := (pe_chain ho ho' ha hb hc hm).weak fun σ H Q h => chain_read (op := op) (op' := op') h
theorem chain_bl {g g' : P → P → M Bool} {ρ : Rho} {s s' : Sto} {p : P} (h : bChain g g' fa fb fc ρ s = .ok p s') : ∃ k, p = .bl k := by
  obtain ⟨_, _, _, h⟩ := bnd_inv h
  obtain ⟨_, _, _, h⟩ := bnd_inv h
  obtain ⟨k, _, _, h⟩ := bnd_inv h
  cases k with
  | false => cases h; exact ⟨_, rfl⟩
  | true =>
    have h' := (show bnd _ _ _ = _ from h)
    obtain ⟨_, _, _, h⟩ := bnd_inv h'
    obtain ⟨_, _, _, h⟩ := bnd_inv h
    cases h; exact ⟨_, rfl⟩
theorem vt_chain {op op' : CmpOp} {g g' : P → P → M Bool} (ho : OpR X (compareOp op) (r2 X.mg (pB g))) (ho' : OpR X (compareOp op') (r2 X.mg (pB g'))) (ha : VE X W a fa) (hb : VE X W b fb) (hc : VE X W c fc) (hm : lastMarks [op, op'] [b, c] = false) :
    VT X W (.Compare a [op, op'] [b, c] pos) (tst (bChain g g' fa fb fc)) := by
  refine (pt_chain ho ho' ha hb hc hm).weak fun σ H Q h => chain_read (op := op) (op' := op') (X := X) (W := W) ?_
  obtain ⟨A, B, ρ, s, S, L, O⟩ := h
  refine ⟨A, B, ρ, s, S, L, ?_⟩
  unfold tst at O
  cases h2 : bChain g g' fa fb fc ρ s with
  | bad => rw [bnd_bad h2] at O; exact O.elim
  | exn x s3 => rw [bnd_exn h2] at O; exact O
  | ok p s3 =>
    rw [bnd_ok h2] at O
    obtain ⟨k, rfl⟩ := chain_bl h2
    exact fun A3 B3 H3 x3 S3 v rv => by
      simp only [Rep] at rv
      exact ⟨k, rv, O A3 B3 H3 x3 S3⟩
/-- a if t else b -/
theorem ve_ite (hc : VT X W c (tst fc)) (ha : VE X W a fa) (hb : VE X W b fb) : VE X W (.IfExp c a b pos) (fun ρ => bnd (fc ρ) fun p => bnd (truthM p) fun k => if k then fa ρ else fb ρ) := by
  refine (pe_ifExp hc ha hb).weak fun σ H Q h => ?_
  obtain ⟨A, B, ρ, s, S, L, O⟩ := h
  refine ⟨A, B, ρ, s, S, L, ?_⟩
  have O' : Out X.mg W σ A B H (bnd (tst fc ρ) (fun k => if k then fa ρ else fb ρ) s) (kP X.mg Q) := by
    unfold tst; rw [bnd_assoc]; exact O
  refine O'.bnd.imp fun A1 B1 H1 s1 k x1 S1 O1 => ?_
  cases k with
  | true => exact ⟨A1, B1, ρ, s1, S1, L.mono x1 S.own, O1⟩
  | false => exact ⟨A1, B1, ρ, s1, S1, L.mono x1 S.own, O1⟩
end
end FW

end

section
set_option Elab.async false
set_option linter.all false
/-! Fw7: calls of the text's own defs. -/
namespace FW
open PySem PySem.Spec PyProof.Rows L2
variable [Tb]
section
variable {mg : Mg} {A A' : As} {B B' : Fb} {H : Hp}
/-- without references to local objects it does not matter where these stand; and what may not be shared may be less -/
def Sub (A : As) (B : Fb) (A' : As) (B' : Fb) : Prop := A'.g = A.g ∧ ∀ a, B' a → B a
mutual
theorem Rep.lower (x : Sub A B A' B') : ∀ {p : P} {v : V}, noLob p = true → Rep mg A B H p v → Rep mg A' B' H p v
  | .non, _, _, h => by simp only [Rep] at h ⊢; exact h
  | .bl _, _, _, h => by simp only [Rep] at h ⊢; exact h
  | .int _, _, _, h => by simp only [Rep] at h ⊢; exact h
  | .str _, _, _, h => by simp only [Rep] at h ⊢; exact h
  | .ty _, _, _, h => by simp only [Rep] at h ⊢; exact h
  | .tup xs, _, hn, h => by
    simp only [Rep] at h ⊢
    obtain ⟨a, vs, e, h1, n, r⟩ := h
    exact ⟨a, vs, e, h1, fun z => n (x.2 a z), Reps.lower x hn r⟩
  | .lst xs, _, hn, h => by
    simp only [Rep] at h ⊢
    obtain ⟨a, vs, e, h1, n, r⟩ := h
    exact ⟨a, vs, e, h1, fun z => n (x.2 a z), Reps.lower x hn r⟩
  | .scr xs, _, hn, h => by
    simp only [Rep] at h ⊢
    obtain ⟨a, vs, e, h1, n, r⟩ := h
    exact ⟨a, vs, e, h1, fun z => n (x.2 a z), Reps.lower x hn r⟩
  | .dct false kvs, _, hn, h => by
    simp only [Rep] at h ⊢
    obtain ⟨a, ks, e, h1, n, r⟩ := h
    exact ⟨a, ks, e, h1, fun z => n (x.2 a z), RepK.lower x hn r⟩
  | .dct true kvs, _, hn, h => by
    simp only [Rep] at h ⊢
    obtain ⟨a, ks, e, h1, n, r⟩ := h
    exact ⟨a, ks, e, h1, fun z => n (x.2 a z), RepT.lower x hn r⟩
  | .ins c fs, _, hn, h => by
    simp only [Rep] at h ⊢
    obtain ⟨a, C, dx, gs, e, h1, n, hc, r⟩ := h
    exact ⟨a, C, dx, gs, e, h1, fun z => n (x.2 a z), hc, RepF.lower x hn r⟩
  | .exc c fs, _, hn, h => by
    simp only [Rep] at h ⊢
    obtain ⟨a, C, e, n, hc, h1⟩ := h
    refine ⟨a, C, e, fun z => n (x.2 a z), hc, ?_⟩
    rcases h1 with ⟨e1, φ, h1, h2⟩ | ⟨d, gs, φ, h1, h2, hd, nd, r⟩
    · exact .inl ⟨e1, φ, h1, h2⟩
    · exact .inr ⟨d, gs, φ, h1, h2, hd, fun z => nd (x.2 d z), RepF.lower x hn r⟩
  | .lob n, _, hn, h => by cases hn
  | .gob n, _, _, h => by
    simp only [Rep] at h ⊢
    rw [x.1]; exact h
  | .fn _, _, _, h => by simp only [Rep] at h ⊢; exact h
  | .cls _, _, _, h => by simp only [Rep] at h ⊢; exact h
theorem Reps.lower (x : Sub A B A' B') : ∀ {ps : List P} {vs : List V}, noLobs ps = true → Reps mg A B H ps vs → Reps mg A' B' H ps vs
  | [], _, _, h => by simp only [Reps] at h ⊢; exact h
  | p :: ps, _, hn, h => by
    simp only [Reps] at h ⊢
    obtain ⟨v, r, e, h1, h2⟩ := h
    have hn' := Bool.and_eq_true_iff.mp hn
    exact ⟨v, r, e, Rep.lower x hn'.1 h1, Reps.lower x hn'.2 h2⟩
theorem RepK.lower (x : Sub A B A' B') : ∀ {ps : List (KeyP × P)} {vs : List (Key × V)}, noLobk ps = true → RepK mg A B H ps vs → RepK mg A' B' H ps vs
  | [], _, _, h => by simp only [RepK] at h ⊢; exact h
  | (k, p) :: ps, _, hn, h => by
    simp only [RepK] at h ⊢
    obtain ⟨j, v, r, e, ek, h1, h2⟩ := h
    have hn' := Bool.and_eq_true_iff.mp hn
    exact ⟨j, v, r, e, ek, Rep.lower x hn'.1 h1, RepK.lower x hn'.2 h2⟩
theorem RepT.lower (x : Sub A B A' B') : ∀ {ps : List (KeyP × P)} {vs : List (List Key × V)}, noLobk ps = true → RepT mg A B H ps vs → RepT mg A' B' H ps vs
  | [], _, _, h => by simp only [RepT] at h ⊢; exact h
  | (k, p) :: ps, _, hn, h => by
    simp only [RepT] at h ⊢
    obtain ⟨j, v, r, e, ek, h1, h2⟩ := h
    have hn' := Bool.and_eq_true_iff.mp hn
    exact ⟨j, v, r, e, ek, Rep.lower x hn'.1 h1, RepT.lower x hn'.2 h2⟩
theorem RepF.lower (x : Sub A B A' B') : ∀ {ps : List (String × P)} {vs : List (Str × V)}, noLobf ps = true → RepF mg A B H ps vs → RepF mg A' B' H ps vs
  | [], _, _, h => by simp only [RepF] at h ⊢; exact h
  | (k, p) :: ps, _, hn, h => by
    simp only [RepF] at h ⊢
    obtain ⟨v, r, e, h1, h2⟩ := h
    have hn' := Bool.and_eq_true_iff.mp hn
    exact ⟨v, r, e, Rep.lower x hn'.1 h1, RepF.lower x hn'.2 h2⟩
end
mutual
theorem Rep.noLob (x : A.l = []) : ∀ {p : P} {v : V}, Rep mg A B H p v → FW.noLob p = true
  | .non, _, h => rfl
  | .bl _, _, h => rfl
  | .int _, _, h => rfl
  | .str _, _, h => rfl
  | .ty _, _, h => rfl
  | .tup xs, _, h => by
    simp only [Rep] at h
    obtain ⟨a, vs, e, h1, n, r⟩ := h
    exact Reps.noLob x r
  | .lst xs, _, h => by
    simp only [Rep] at h
    obtain ⟨a, vs, e, h1, n, r⟩ := h
    exact Reps.noLob x r
  | .scr xs, _, h => by
    simp only [Rep] at h
    obtain ⟨a, vs, e, h1, n, r⟩ := h
    exact Reps.noLob x r
  | .dct false kvs, _, h => by
    simp only [Rep] at h
    obtain ⟨a, ks, e, h1, n, r⟩ := h
    exact RepK.noLob x r
  | .dct true kvs, _, h => by
    simp only [Rep] at h
    obtain ⟨a, ks, e, h1, n, r⟩ := h
    exact RepT.noLob x r
  | .ins c fs, _, h => by
    simp only [Rep] at h
    obtain ⟨a, C, dx, gs, e, h1, n, hc, r⟩ := h
    exact RepF.noLob x r
  | .exc c fs, _, h => by
    simp only [Rep] at h
    obtain ⟨a, C, e, n, hc, h1⟩ := h
    rcases h1 with ⟨e1, _⟩ | ⟨d, gs, φ, h1, h2, hd, nd, r⟩
    · rw [e1]; rfl
    · exact RepF.noLob x r
  | .lob n, _, h => by
    simp only [Rep] at h
    obtain ⟨a, _, h⟩ := h
    rw [x] at h; cases h
  | .gob n, _, h => rfl
  | .fn _, _, h => rfl
  | .cls _, _, h => rfl
theorem Reps.noLob (x : A.l = []) : ∀ {ps : List P} {vs : List V}, Reps mg A B H ps vs → noLobs ps = true
  | [], _, h => rfl
  | p :: ps, _, h => by
    simp only [Reps] at h
    obtain ⟨v, r, e, h1, h2⟩ := h
    exact Bool.and_eq_true_iff.mpr ⟨Rep.noLob x h1, Reps.noLob x h2⟩
theorem RepK.noLob (x : A.l = []) : ∀ {ps : List (KeyP × P)} {vs : List (Key × V)}, RepK mg A B H ps vs → noLobk ps = true
  | [], _, h => rfl
  | (k, p) :: ps, _, h => by
    simp only [RepK] at h
    obtain ⟨j, v, r, e, ek, h1, h2⟩ := h
    exact Bool.and_eq_true_iff.mpr ⟨Rep.noLob x h1, RepK.noLob x h2⟩
theorem RepT.noLob (x : A.l = []) : ∀ {ps : List (KeyP × P)} {vs : List (List Key × V)}, RepT mg A B H ps vs → noLobk ps = true
  | [], _, h => rfl
  | (k, p) :: ps, _, h => by
    simp only [RepT] at h
    obtain ⟨j, v, r, e, ek, h1, h2⟩ := h
    exact Bool.and_eq_true_iff.mpr ⟨Rep.noLob x h1, RepT.noLob x h2⟩
theorem RepF.noLob (x : A.l = []) : ∀ {ps : List (String × P)} {vs : List (Str × V)}, RepF mg A B H ps vs → noLobf ps = true
  | [], _, h => rfl
  | (k, p) :: ps, _, h => by
    simp only [RepF] at h
    obtain ⟨v, r, e, h1, h2⟩ := h
    exact Bool.and_eq_true_iff.mpr ⟨Rep.noLob x h1, RepF.noLob x h2⟩
end
theorem noLobk_of {kvs : List (KeyP × P)} (h : (kvs.map (·.2)).all FW.noLob = true) : noLobk kvs = true := by
  induction kvs with
  | nil => rfl
  | cons q r ih =>
    rw [List.map_cons, List.all_cons, Bool.and_eq_true] at h
    exact Bool.and_eq_true_iff.mpr ⟨h.1, ih h.2⟩
theorem noLobf_of {kvs : List (String × P)} (h : (kvs.map (·.2)).all FW.noLob = true) : noLobf kvs = true := by
  induction kvs with
  | nil => rfl
  | cons q r ih =>
    rw [List.map_cons, List.all_cons, Bool.and_eq_true] at h
    exact Bool.and_eq_true_iff.mpr ⟨h.1, ih h.2⟩
theorem noLobs_of {ps : List P} (h : ps.all FW.noLob = true) : noLobs ps = true := by
  induction ps with
  | nil => rfl
  | cons q r ih =>
    rw [List.all_cons, Bool.and_eq_true] at h
    exact Bool.and_eq_true_iff.mpr ⟨h.1, ih h.2⟩
theorem ObR.lower (x : Sub A B A' B') {o : Ob} {a : Addr} (hn : o.noLob = true) (h : ObR mg A B H o a) : ObR mg A' B' H o a := by
  cases o with
  | lst xs =>
    obtain ⟨vs, h1, r⟩ := h
    exact ⟨vs, h1, Reps.lower x (noLobs_of hn) r⟩
  | dct t kvs =>
    cases t with
    | false =>
      obtain ⟨ks, h1, r⟩ := h
      exact ⟨ks, h1, RepK.lower x (noLobk_of hn) r⟩
    | true =>
      obtain ⟨ks, h1, r⟩ := h
      exact ⟨ks, h1, RepT.lower x (noLobk_of hn) r⟩
  | ins c fs =>
    obtain ⟨C, dx, gs, h1, hc, r⟩ := h
    exact ⟨C, dx, gs, h1, hc, RepF.lower x (noLobf_of hn) r⟩
/-- the callee's look at the stores -/
theorem StoR.callee {s : Sto} (S : StoR mg A B H s) (hB' : ∀ a, B' a → B a) (hg : ∀ a, a ∈ A.g → B' a) : StoR mg ⟨[], A.g⟩ B' H ⟨[], s.g⟩ :=
  ⟨rfl, S.lg, by have := S.nd; rw [List.nodup_append] at this; simpa using this.2.1, fun i a o h _ => by simp at h,
    fun i a o h1 h2 => ObR.lower (A := A) (B := B) (A' := ⟨[], A.g⟩) ⟨rfl, hB'⟩ (S.gl o (List.mem_of_getElem? h2)) (S.og i a o h1 h2), fun a h => h.elim (fun z => by cases z) (hg a), S.gl, fun o h => (nomatch h), fun a h => S.bt a (hB' a h), S.tab⟩
end

/-- a def's promise, from its function -/
def OutF (mg : Mg) (A : As) (B : Fb) (H : Hp) (r : Rf) (Q : VK) (E : XK) : Prop := match r with
  | .ok p g => ∀ A' B' H' v, A'.l = [] → Ext A B H A' B' H' → StoR mg A' B' H' ⟨[], g⟩ → Rep mg A' B' H' p v → Q v H'
  | .exn x g => ∀ A' B' H' cls d, A'.l = [] → Ext A B H A' B' H' → StoR mg A' B' H' ⟨[], g⟩ → ExR mg A' B' H' x cls d → E cls d H'
  | .bad => False
def spOf (mg : Mg) (n : Nat) (F : Fn) : Sp := fun vs H Q E => ∃ A B g ps, A.l = [] ∧ StoR mg A B H ⟨[], g⟩ ∧ Reps mg A B H ps vs ∧ ps.length = n ∧ OutF mg A B H (F ps g) Q E

section
variable {mg : Mg} {W : WX} {σ : L2.St} {A A' : As} {B B' Bc : Fb} {H H' : Hp} {s : Sto}
/-- back in the caller -/
theorem back {g : List Ob} (S : StoR mg A B H s) (hc : ∀ a, Bc a → B a)
    (hl : A'.l = []) (x : Ext ⟨[], A.g⟩ Bc H A' B' H') (S' : StoR mg A' B' H' ⟨[], g⟩) (hup : ∀ o ∈ g, ∀ a, ObR mg A' B' H' o a → ObR mg ⟨A.l, A'.g⟩ (fun b => B' b ∨ B b) H' o a) :
    Ext A B H ⟨A.l, A'.g⟩ (fun b => B' b ∨ B b) H' ∧ StoR mg ⟨A.l, A'.g⟩ (fun b => B' b ∨ B b) H' ⟨s.l, g⟩ := by
  have dis : ∀ a, a ∈ A.l → a ∉ A.g := fun a h1 h2 => by
    have := S.nd
    rw [List.nodup_append] at this
    exact this.2.2 a h1 a h2 rfl
  have own : ∀ a, Own A' a → a ∈ A.g ∨ H a = none := fun a h => by
    rcases x.fresh a h with z | z
    · rcases z with z | z
      · cases z
      · exact .inl z
    · exact .inr z
  have e : Ext A B H ⟨A.l, A'.g⟩ (fun b => B' b ∨ B b) H' := by
    refine ⟨⟨[], by simp⟩, x.pg, fun a o h n t => x.keep a o h (fun z => n (.inr (z.elim (fun z => by cases z) id))) t, fun a h n z => ?_, fun a h => .inr h, x.there, fun a h => ?_, x.tb⟩
    · rcases z with z | z
      · exact x.nb a h (fun w => n (hc a w)) z
      · exact n z
    · rcases h with h | h
      · exact .inl (.inl h)
      · exact (own a (.inr h)).imp .inr id
  have keepL : ∀ a, a ∈ A.l → ∀ u, H a = some u → (∀ ps, u ≠ .tbl ps) → H' a = some u := fun a h u hu t => x.keep a u hu (fun z => z.elim (fun z => by cases z) (dis a h)) t
  refine ⟨e, ⟨S.ll, S'.lg, ?_, fun i a o h1 h2 => ?_, fun i a o h1 h2 => hup o (List.mem_of_getElem? h2) a (S'.og i a o h1 h2), fun a h => ?_, S'.gl, S.li, fun a h => ?_, S'.tab⟩⟩
  · show (A.l ++ A'.g).Nodup
    have n1 := S.nd
    have n2 := S'.nd
    rw [hl, List.nil_append] at n2
    rw [List.nodup_append] at n1 ⊢
    refine ⟨n1.1, n2, fun a ha b hb z => ?_⟩
    subst z
    rcases own a (.inr hb) with w | w
    · exact dis a ha w
    · exact S.bt a (S.own a (.inl ha)) w
  · have h := S.ol i a o h1 h2
    have ha : a ∈ A.l := List.mem_of_getElem? h1
    have nt : ∀ u, H a = some u → ∀ ps, u ≠ .tbl ps := fun u hu ps z => by
      subst z
      cases o with
      | lst xs => obtain ⟨vs, q, _⟩ := h; rw [q] at hu; cases hu
      | dct t kvs => cases t <;> (obtain ⟨vs, q, _⟩ := h; rw [q] at hu; cases hu)
      | ins c fs => obtain ⟨C, dx, gs, q, _⟩ := h; rw [q] at hu; cases hu
    exact h.mono e S.own fun u hu => keepL a ha u hu (nt u hu)
  · rcases h with h | h
    · exact .inr (S.own a (.inl h))
    · exact .inl (S'.own a (.inr h))
  · rcases h with h | h
    · exact S'.bt a h
    · exact x.there a (S.bt a h)
end
/-! ### what is flat -/
section
variable {mg : Mg} {A A' : As} {B B' : Fb} {H : Hp}
/-- forbidden addresses that hold no tuple, instance or exception -/
def Apart (H : Hp) (B B' : Fb) : Prop := ∀ a, B' a → B a ∨ (∃ xs, H a = some (.lst xs)) ∨ (∃ xs, H a = some (.dK xs)) ∨ ∃ xs, H a = some (.dT xs)
theorem apart_ne {a : Addr} {u : HO} (x : Apart H B B') (h : H a = some u) (n : ¬ B a) (h1 : ∀ xs, u ≠ .lst xs) (h2 : ∀ xs, u ≠ .dK xs) (h3 : ∀ xs, u ≠ .dT xs) : ¬ B' a := fun z => by
  rcases x a z with z | ⟨xs, z⟩ | ⟨xs, z⟩ | ⟨xs, z⟩
  · exact n z
  · rw [h] at z; exact h1 xs (Option.some.inj z)
  · rw [h] at z; exact h2 xs (Option.some.inj z)
  · rw [h] at z; exact h3 xs (Option.some.inj z)
mutual
theorem Rep.flat_up (x : Apart H B B') : ∀ {p : P} {v : V}, flat p = true → Rep mg A B H p v → Rep mg A B' H p v
  | .non, _, _, h => by simp only [Rep] at h ⊢; exact h
  | .bl _, _, _, h => by simp only [Rep] at h ⊢; exact h
  | .int _, _, _, h => by simp only [Rep] at h ⊢; exact h
  | .str _, _, _, h => by simp only [Rep] at h ⊢; exact h
  | .ty _, _, _, h => by simp only [Rep] at h ⊢; exact h
  | .tup xs, _, hn, h => by
    simp only [Rep] at h ⊢
    obtain ⟨a, vs, e, h1, n, r⟩ := h
    exact ⟨a, vs, e, h1, apart_ne x h1 n (fun _ z => nomatch z) (fun _ z => nomatch z) (fun _ z => nomatch z), Reps.flat_up x hn r⟩
  | .lst xs, _, hn, h => by cases hn
  | .scr xs, _, hn, h => by cases hn
  | .dct _ kvs, _, hn, h => by cases hn
  | .ins c fs, _, hn, h => by
    simp only [Rep] at h ⊢
    obtain ⟨a, C, dx, gs, e, h1, n, hc, r⟩ := h
    exact ⟨a, C, dx, gs, e, h1, apart_ne x h1 n (fun _ z => nomatch z) (fun _ z => nomatch z) (fun _ z => nomatch z), hc, RepF.flat_up x hn r⟩
  | .exc c fs, _, hn, h => by
    simp only [Rep] at h ⊢
    obtain ⟨a, C, e, n, hc, h1⟩ := h
    rcases h1 with ⟨e1, φ, h1, h2⟩ | ⟨d, gs, φ, h1, h2, hd, nd, r⟩
    · exact ⟨a, C, e, apart_ne x h1 n (fun _ z => nomatch z) (fun _ z => nomatch z) (fun _ z => nomatch z), hc, .inl ⟨e1, φ, h1, h2⟩⟩
    · exact ⟨a, C, e, apart_ne x h1 n (fun _ z => nomatch z) (fun _ z => nomatch z) (fun _ z => nomatch z), hc, .inr ⟨d, gs, φ, h1, h2, hd, apart_ne x hd nd (fun _ z => nomatch z) (fun _ z => nomatch z) (fun _ z => nomatch z), RepF.flat_up x hn r⟩⟩
  | .lob n, _, hn, h => by simp only [Rep] at h ⊢; exact h
  | .gob n, _, _, h => by simp only [Rep] at h ⊢; exact h
  | .fn _, _, _, h => by simp only [Rep] at h ⊢; exact h
  | .cls _, _, _, h => by simp only [Rep] at h ⊢; exact h
theorem Reps.flat_up (x : Apart H B B') : ∀ {ps : List P} {vs : List V}, flats ps = true → Reps mg A B H ps vs → Reps mg A B' H ps vs
  | [], _, _, h => by simp only [Reps] at h ⊢; exact h
  | p :: ps, _, hn, h => by
    simp only [Reps] at h ⊢
    obtain ⟨v, r, e, h1, h2⟩ := h
    have hn' := Bool.and_eq_true_iff.mp hn
    exact ⟨v, r, e, Rep.flat_up x hn'.1 h1, Reps.flat_up x hn'.2 h2⟩
theorem RepF.flat_up (x : Apart H B B') : ∀ {ps : List (String × P)} {vs : List (Str × V)}, flatf ps = true → RepF mg A B H ps vs → RepF mg A B' H ps vs
  | [], _, _, h => by simp only [RepF] at h ⊢; exact h
  | (k, p) :: ps, _, hn, h => by
    simp only [RepF] at h ⊢
    obtain ⟨v, r, e, h1, h2⟩ := h
    have hn' := Bool.and_eq_true_iff.mp hn
    exact ⟨v, r, e, Rep.flat_up x hn'.1 h1, RepF.flat_up x hn'.2 h2⟩
end
theorem RepK.flat_up (x : Apart H B B') : ∀ {ps : List (KeyP × P)} {vs : List (Key × V)}, (ps.map (·.2)).all FW.flat = true → RepK mg A B H ps vs → RepK mg A B' H ps vs
  | [], _, _, h => by simp only [RepK] at h ⊢; exact h
  | (k, p) :: ps, _, hn, h => by
    simp only [RepK] at h ⊢
    obtain ⟨j, v, r, e, ek, h1, h2⟩ := h
    rw [List.map_cons, List.all_cons, Bool.and_eq_true] at hn
    exact ⟨j, v, r, e, ek, Rep.flat_up x hn.1 h1, RepK.flat_up x hn.2 h2⟩
theorem RepT.flat_up (x : Apart H B B') : ∀ {ps : List (KeyP × P)} {vs : List (List Key × V)}, (ps.map (·.2)).all FW.flat = true → RepT mg A B H ps vs → RepT mg A B' H ps vs
  | [], _, _, h => by simp only [RepT] at h ⊢; exact h
  | (k, p) :: ps, _, hn, h => by
    simp only [RepT] at h ⊢
    obtain ⟨j, v, r, e, ek, h1, h2⟩ := h
    rw [List.map_cons, List.all_cons, Bool.and_eq_true] at hn
    exact ⟨j, v, r, e, ek, Rep.flat_up x hn.1 h1, RepT.flat_up x hn.2 h2⟩
theorem flats_of {ps : List P} (h : ps.all FW.flat = true) : flats ps = true := by
  induction ps with
  | nil => rfl
  | cons q r ih =>
    rw [List.all_cons, Bool.and_eq_true] at h
    exact Bool.and_eq_true_iff.mpr ⟨h.1, ih h.2⟩
theorem flatf_of {kvs : List (String × P)} (h : (kvs.map (·.2)).all FW.flat = true) : flatf kvs = true := by
  induction kvs with
  | nil => rfl
  | cons q r ih =>
    rw [List.map_cons, List.all_cons, Bool.and_eq_true] at h
    exact Bool.and_eq_true_iff.mpr ⟨h.1, ih h.2⟩
theorem ObR.flat_up (x : Apart H B B') {o : Ob} {a : Addr} (hn : o.flat = true) (h : ObR mg A B H o a) : ObR mg A B' H o a := by
  cases o with
  | lst xs =>
    obtain ⟨vs, h1, r⟩ := h
    exact ⟨vs, h1, Reps.flat_up x (flats_of hn) r⟩
  | dct t kvs =>
    cases t with
    | false =>
      obtain ⟨ks, h1, r⟩ := h
      exact ⟨ks, h1, RepK.flat_up x hn r⟩
    | true =>
      obtain ⟨ks, h1, r⟩ := h
      exact ⟨ks, h1, RepT.flat_up x hn r⟩
  | ins c fs =>
    obtain ⟨C, dx, gs, h1, hc, r⟩ := h
    exact ⟨C, dx, gs, h1, hc, RepF.flat_up x (flatf_of hn) r⟩
end

/-! ### views -/
section
variable {mg : Mg} {A : As} {B : Fb} {H : Hp} {s : Sto}
/-- what is not ours alone -/
def Less (A : As) (B : Fb) : Fb := fun a => B a ∧ a ∉ A.l
mutual
theorem vw_rep {f : Nat → Option P} (hf : ∀ n p v, f n = some p → Rep mg A B H (.lob n) v → Rep mg ⟨[], A.g⟩ (Less A B) H p v) : ∀ {p q : P} {v : V}, vw f p = some q → Rep mg A B H p v → Rep mg ⟨[], A.g⟩ (Less A B) H q v
  | .non, q, _, e, h => by cases e; simp only [Rep] at h ⊢; exact h
  | .bl _, q, _, e, h => by cases e; simp only [Rep] at h ⊢; exact h
  | .int _, q, _, e, h => by cases e; simp only [Rep] at h ⊢; exact h
  | .str _, q, _, e, h => by cases e; simp only [Rep] at h ⊢; exact h
  | .ty _, q, _, e, h => by cases e; simp only [Rep] at h ⊢; exact h
  | .tup xs, q, _, e, h => by
    simp only [Rep] at h
    obtain ⟨a, vs, e1, h1, n, r⟩ := h
    obtain ⟨ys, e2, e3⟩ := Option.map_eq_some_iff.mp e
    subst e3
    simp only [Rep]
    exact ⟨a, vs, e1, h1, fun z => n z.1, vws_rep hf e2 r⟩
  | .lst xs, q, _, e, h => by
    simp only [Rep] at h
    obtain ⟨a, vs, e1, h1, n, r⟩ := h
    obtain ⟨ys, e2, e3⟩ := Option.map_eq_some_iff.mp e
    subst e3
    simp only [Rep]
    exact ⟨a, vs, e1, h1, fun z => n z.1, vws_rep hf e2 r⟩
  | .scr xs, q, _, e, h => by
    simp only [Rep] at h
    obtain ⟨a, vs, e1, h1, n, r⟩ := h
    obtain ⟨ys, e2, e3⟩ := Option.map_eq_some_iff.mp e
    subst e3
    simp only [Rep]
    exact ⟨a, vs, e1, h1, fun z => n z.1, vws_rep hf e2 r⟩
  | .dct false kvs, q, _, e, h => by
    simp only [Rep] at h
    obtain ⟨a, vs, e1, h1, n, r⟩ := h
    obtain ⟨ys, e2, e3⟩ := Option.map_eq_some_iff.mp e
    subst e3
    simp only [Rep]
    exact ⟨a, vs, e1, h1, fun z => n z.1, vwk_repK hf e2 r⟩
  | .dct true kvs, q, _, e, h => by
    simp only [Rep] at h
    obtain ⟨a, vs, e1, h1, n, r⟩ := h
    obtain ⟨ys, e2, e3⟩ := Option.map_eq_some_iff.mp e
    subst e3
    simp only [Rep]
    exact ⟨a, vs, e1, h1, fun z => n z.1, vwk_repT hf e2 r⟩
  | .ins c fs, q, _, e, h => by
    simp only [Rep] at h
    obtain ⟨a, C, dx, gs, e1, h1, n, hc, r⟩ := h
    obtain ⟨ys, e2, e3⟩ := Option.map_eq_some_iff.mp e
    subst e3
    simp only [Rep]
    exact ⟨a, C, dx, gs, e1, h1, fun z => n z.1, hc, vwf_rep hf e2 r⟩
  | .exc c fs, q, _, e, h => by
    simp only [Rep] at h
    obtain ⟨a, C, e1, n, hc, h1⟩ := h
    obtain ⟨ys, e2, e3⟩ := Option.map_eq_some_iff.mp e
    subst e3
    simp only [Rep]
    refine ⟨a, C, e1, fun z => n z.1, hc, ?_⟩
    rcases h1 with ⟨e4, h1⟩ | ⟨d, gs, φ, h1, h2, hd, nd, r⟩
    · rw [e4] at e2
      exact .inl ⟨(Option.some.inj e2).symm, h1⟩
    · exact .inr ⟨d, gs, φ, h1, h2, hd, fun z => nd z.1, vwf_rep hf e2 r⟩
  | .lob n, q, v, e, h => hf n q v e h
  | .gob n, q, _, e, h => by cases e; simp only [Rep] at h ⊢; exact h
  | .fn _, q, _, e, h => by cases e; simp only [Rep] at h ⊢; exact h
  | .cls _, q, _, e, h => by cases e; simp only [Rep] at h ⊢; exact h
theorem vws_rep {f : Nat → Option P} (hf : ∀ n p v, f n = some p → Rep mg A B H (.lob n) v → Rep mg ⟨[], A.g⟩ (Less A B) H p v) : ∀ {ps qs : List P} {vs : List V}, vws f ps = some qs → Reps mg A B H ps vs → Reps mg ⟨[], A.g⟩ (Less A B) H qs vs
  | [], qs, _, e, h => by cases e; simp only [Reps] at h ⊢; exact h
  | p :: ps, qs, _, e, h => by
    simp only [Reps] at h
    obtain ⟨v, r, e1, h1, h2⟩ := h
    unfold vws at e
    cases q1 : vw f p with
    | none => rw [q1] at e; cases e
    | some q =>
      cases q2 : vws f ps with
      | none => rw [q1, q2] at e; cases e
      | some js =>
        rw [q1, q2] at e
        cases e
        simp only [Reps]
        exact ⟨v, r, e1, vw_rep hf q1 h1, vws_rep hf q2 h2⟩
theorem vwk_repK {f : Nat → Option P} (hf : ∀ n p v, f n = some p → Rep mg A B H (.lob n) v → Rep mg ⟨[], A.g⟩ (Less A B) H p v) : ∀ {ps qs : List (KeyP × P)} {vs : List (Key × V)}, vwk f ps = some qs → RepK mg A B H ps vs → RepK mg ⟨[], A.g⟩ (Less A B) H qs vs
  | [], qs, _, e, h => by cases e; simp only [RepK] at h ⊢; exact h
  | (k, p) :: ps, qs, _, e, h => by
    simp only [RepK] at h
    obtain ⟨j, v, r, e1, ek, h1, h2⟩ := h
    unfold vwk at e
    cases q1 : vw f p with
    | none => rw [q1] at e; cases e
    | some q =>
      cases q2 : vwk f ps with
      | none => rw [q1, q2] at e; cases e
      | some js =>
        rw [q1, q2] at e
        cases e
        simp only [RepK]
        exact ⟨j, v, r, e1, ek, vw_rep hf q1 h1, vwk_repK hf q2 h2⟩
theorem vwk_repT {f : Nat → Option P} (hf : ∀ n p v, f n = some p → Rep mg A B H (.lob n) v → Rep mg ⟨[], A.g⟩ (Less A B) H p v) : ∀ {ps qs : List (KeyP × P)} {vs : List (List Key × V)}, vwk f ps = some qs → RepT mg A B H ps vs → RepT mg ⟨[], A.g⟩ (Less A B) H qs vs
  | [], qs, _, e, h => by cases e; simp only [RepT] at h ⊢; exact h
  | (k, p) :: ps, qs, _, e, h => by
    simp only [RepT] at h
    obtain ⟨j, v, r, e1, ek, h1, h2⟩ := h
    unfold vwk at e
    cases q1 : vw f p with
    | none => rw [q1] at e; cases e
    | some q =>
      cases q2 : vwk f ps with
      | none => rw [q1, q2] at e; cases e
      | some js =>
        rw [q1, q2] at e
        cases e
        simp only [RepT]
        exact ⟨j, v, r, e1, ek, vw_rep hf q1 h1, vwk_repT hf q2 h2⟩
theorem vwf_rep {f : Nat → Option P} (hf : ∀ n p v, f n = some p → Rep mg A B H (.lob n) v → Rep mg ⟨[], A.g⟩ (Less A B) H p v) : ∀ {ps qs : List (String × P)} {vs : List (Str × V)}, vwf f ps = some qs → RepF mg A B H ps vs → RepF mg ⟨[], A.g⟩ (Less A B) H qs vs
  | [], qs, _, e, h => by cases e; simp only [RepF] at h ⊢; exact h
  | (k, p) :: ps, qs, _, e, h => by
    simp only [RepF] at h
    obtain ⟨v, r, e1, h1, h2⟩ := h
    unfold vwf at e
    cases q1 : vw f p with
    | none => rw [q1] at e; cases e
    | some q =>
      cases q2 : vwf f ps with
      | none => rw [q1, q2] at e; cases e
      | some js =>
        rw [q1, q2] at e
        cases e
        simp only [RepF]
        exact ⟨v, r, e1, vw_rep hf q1 h1, vwf_rep hf q2 h2⟩
end
theorem view_rep (S : StoR mg A B H s) : ∀ (k : Nat) {p q : P} {v : V}, view k s p = some q → Rep mg A B H p v → Rep mg ⟨[], A.g⟩ (Less A B) H q v
  | 0, p, q, v, e, r => vw_rep (f := fun _ => none) (fun n p v e => nomatch e) e r
  | k + 1, p, q, v, e, r => by
    have ih : ∀ {p q : P} {v : V}, view k s p = some q → Rep mg A B H p v → Rep mg ⟨[], A.g⟩ (Less A B) H q v := view_rep S k
    refine vw_rep (fun n q v e r => ?_) e r
    simp only [Rep] at r
    obtain ⟨a, e1, h1⟩ := r
    have ha : ¬ Less A B a := fun z => z.2 (List.mem_of_getElem? h1)
    cases e2 : s.l[n]? with
    | none => rw [e2] at e; cases e
    | some o =>
      rw [e2] at e
      cases o with
      | lst ys =>
        obtain ⟨vs, h2, h3⟩ := S.ol n a _ h1 e2
        obtain ⟨zs, q1, q2⟩ := Option.map_eq_some_iff.mp e
        subst q2
        simp only [Rep]
        refine ⟨a, vs, e1, h2, ha, ?_⟩
        clear e h2 e2 h1 e1
        induction ys generalizing vs zs with
        | nil => cases q1; simp only [Reps] at h3 ⊢; exact h3
        | cons y ys ihh =>
          simp only [Reps] at h3
          obtain ⟨w, ws, e4, r1, r2⟩ := h3
          obtain ⟨d1, ds1, p1, p2, e5⟩ := mapM_cons_some q1
          subst e5
          simp only [Reps]
          exact ⟨w, ws, e4, ih p1 r1, ihh ws r2 ds1 p2⟩
      | dct t ys =>
        obtain ⟨zs, q1, q2⟩ := Option.map_eq_some_iff.mp e
        subst q2
        cases t with
        | false =>
          obtain ⟨ks, h2, h3⟩ := S.ol n a _ h1 e2
          simp only [Rep]
          refine ⟨a, ks, e1, .inl h2, ha, ?_⟩
          clear e h2 e2 h1 e1
          induction ys generalizing ks zs with
          | nil => cases q1; simp only [RepK] at h3 ⊢; exact h3
          | cons y ys ihh =>
            obtain ⟨kk, y⟩ := y
            simp only [RepK] at h3
            obtain ⟨j, w, ws, e4, ek, r1, r2⟩ := h3
            obtain ⟨d1, ds1, p1, p2, e5⟩ := mapM_cons_some q1
            obtain ⟨d2, p3, p4⟩ := Option.map_eq_some_iff.mp p1
            subst e5; subst p4
            simp only [RepK]
            exact ⟨j, w, ws, e4, ek, ih p3 r1, ihh _ p2 ws r2⟩
        | true =>
          obtain ⟨ks, h2, h3⟩ := S.ol n a _ h1 e2
          simp only [Rep]
          refine ⟨a, ks, e1, .inl h2, ha, ?_⟩
          clear e h2 e2 h1 e1
          induction ys generalizing ks zs with
          | nil => cases q1; simp only [RepT] at h3 ⊢; exact h3
          | cons y ys ihh =>
            obtain ⟨kk, y⟩ := y
            simp only [RepT] at h3
            obtain ⟨j, w, ws, e4, ek, r1, r2⟩ := h3
            obtain ⟨d1, ds1, p1, p2, e5⟩ := mapM_cons_some q1
            obtain ⟨d2, p3, p4⟩ := Option.map_eq_some_iff.mp p1
            subst e5; subst p4
            simp only [RepT]
            exact ⟨j, w, ws, e4, ek, ih p3 r1, ihh _ p2 ws r2⟩
      | ins c fs => cases e
theorem views_rep (S : StoR mg A B H s) (k : Nat) : ∀ {ps qs : List P} {vs : List V}, ps.mapM (view k s) = some qs → Reps mg A B H ps vs → Reps mg ⟨[], A.g⟩ (Less A B) H qs vs
  | [], qs, _, e, h => by cases e; simp only [Reps] at h ⊢; exact h
  | p :: ps, qs, _, e, h => by
    simp only [Reps] at h
    obtain ⟨w, ws, e4, r1, r2⟩ := h
    obtain ⟨d1, ds1, p1, p2, e5⟩ := mapM_cons_some e
    subst e5
    simp only [Reps]
    exact ⟨w, ws, e4, view_rep S k p1 r1, views_rep S k p2 r2⟩
end
end FW

end

section
set_option Elab.async false
set_option linter.all false
/-! Fw8: the reading of a call. -/
namespace FW
open PySem PySem.Spec PyProof.Rows L2
variable [Tb]
section
variable {mg : Mg} {W : WX} {σ : L2.St} {A A' : As} {B B' Bc : Fb} {H H' : Hp} {s : Sto}
theorem ExR.lower (x : Sub A B A' B') (hl : A.l = []) {e : P} {cls : Value} {d : Option Addr} (h : ExR mg A B H e cls d) : ExR mg A' B' H e cls d := by
  obtain ⟨c, fs, C, e1, e2, hc, h1⟩ := h
  refine ⟨c, fs, C, e1, e2, hc, ?_⟩
  rcases h1 with h1 | ⟨dd, gs, h2, h3, h4, h5⟩
  · exact .inl h1
  · exact .inr ⟨dd, gs, h2, h3, fun z => h4 (x.2 dd z), RepF.lower x (RepF.noLob hl h5) h5⟩
theorem ExR.flat_up (x : Apart H B B') {e : P} {cls : Value} {d : Option Addr} (hf : flat e = true) (h : ExR mg A B H e cls d) : ExR mg A B' H e cls d := by
  obtain ⟨c, fs, C, e1, e2, hc, h1⟩ := h
  subst e1
  refine ⟨c, fs, C, rfl, e2, hc, ?_⟩
  rcases h1 with h1 | ⟨dd, gs, h2, h3, h4, h5⟩
  · exact .inl h1
  · exact .inr ⟨dd, gs, h2, h3, apart_ne x h3 h4 (fun _ z => nomatch z) (fun _ z => nomatch z) (fun _ z => nomatch z), RepF.flat_up x hf h5⟩
theorem call_read {F : Fn} {n : Nat} {ps : List P} {vs : List V} {Q : VK} (S : StoR mg A B H s) (R : Reps mg A B H ps vs) (hn : ps.length = n) (O : Out mg W σ A B H (callF F ps s) (kP mg Q)) :
    spOf mg n F vs H Q (fun cls d H' => W cls d σ H') := by
  have dis : ∀ a, a ∈ A.l → a ∉ A.g := fun a h1 h2 => by
    have := S.nd
    rw [List.nodup_append] at this
    exact this.2.2 a h1 a h2 rfl
  unfold callF at O
  split at O
  · rename_i hnl
    refine ⟨⟨[], A.g⟩, B, s.g, ps, rfl, S.callee (fun _ h => h) (fun a h => S.own a (.inr h)), Reps.lower (A := A) (B := B) (A' := ⟨[], A.g⟩) ⟨rfl, fun _ h => h⟩ hnl R, hn, ?_⟩
    unfold OutF
    have sub : ∀ (A' : As) (B' : Fb) (H' : Hp), Ext ⟨[], A.g⟩ B H A' B' H' → Sub A' B' ⟨A.l, A'.g⟩ (fun b => B' b ∨ B b) := fun A' B' H' x => ⟨rfl, fun a h => h.elim id (x.bb a)⟩
    cases hf : F ps s.g with
    | bad => rw [hf] at O; exact O
    | ok p g =>
      rw [hf] at O
      intro A' B' H' v hl x S' rv
      obtain ⟨e, S2⟩ := back S (Bc := B) (fun _ h => h) hl x S' fun o ho a h => ObR.lower (sub A' B' H' x) (S'.gl o ho) h
      exact O _ _ _ e S2 v (Rep.lower (sub A' B' H' x) (Rep.noLob hl rv) rv)
    | exn q g =>
      rw [hf] at O
      intro A' B' H' cls d hl x S' rv
      obtain ⟨e, S2⟩ := back S (Bc := B) (fun _ h => h) hl x S' fun o ho a h => ObR.lower (sub A' B' H' x) (S'.gl o ho) h
      exact O _ _ _ e S2 cls d (ExR.lower (sub A' B' H' x) hl rv)
  · split at O
    · exact O.elim
    · rename_i qs hv
      refine ⟨⟨[], A.g⟩, Less A B, s.g, qs, rfl, S.callee (fun _ h => h.1) (fun a h => ⟨S.own a (.inr h), fun z => dis a z h⟩), views_rep S 3 hv R, ?_, ?_⟩
      · rw [← hn, ← reps_len R, ← reps_len (views_rep S 3 hv R)]
      unfold OutF
      have ap : ∀ (A' : As) (B' : Fb) (H' : Hp), Ext ⟨[], A.g⟩ (Less A B) H A' B' H' → Apart H' B' (fun b => B' b ∨ B b) := fun A' B' H' x a h => by
        rcases h with h | h
        · exact .inl h
        · by_cases ha : a ∈ A.l
          · obtain ⟨i, hi⟩ := List.getElem?_of_mem ha
            have hlt : i < s.l.length := by rw [← S.ll]; exact (List.getElem?_eq_some_iff.mp hi).1
            have ho := S.ol i a _ hi (List.getElem?_eq_getElem hlt)
            have hk : ∀ u, H a = some u → (∀ ps, u ≠ .tbl ps) → H' a = some u := fun u hu t => x.keep a u hu (fun z => z.elim (fun z => by cases z) (dis a ha)) t
            have hmem : s.l[i] ∈ s.l := List.getElem_mem hlt
            cases ho2 : s.l[i] with
            | lst xs =>
              rw [ho2] at ho
              obtain ⟨vs, q, _⟩ := ho
              exact .inr (.inl ⟨vs, hk _ q (fun _ z => nomatch z)⟩)
            | dct t kvs =>
              rw [ho2] at ho
              cases t with
              | false =>
                obtain ⟨vs, q, _⟩ := ho
                exact .inr (.inr (.inl ⟨vs, hk _ q (fun _ z => nomatch z)⟩))
              | true =>
                obtain ⟨vs, q, _⟩ := ho
                exact .inr (.inr (.inr ⟨vs, hk _ q (fun _ z => nomatch z)⟩))
            | ins c fs => exact absurd ho2 (S.li _ hmem c fs)
          · exact .inl (x.bb a ⟨h, ha⟩)
      have sub : ∀ (A' : As) (B' : Fb), Sub A' (fun b => B' b ∨ B b) ⟨A.l, A'.g⟩ (fun b => B' b ∨ B b) := fun A' B' => ⟨rfl, fun a h => h⟩
      cases hf : F qs s.g with
      | bad => rw [hf] at O; exact O
      | ok p g =>
        rw [hf] at O
        dsimp only at O
        split at O
        · rename_i hfl
          have hfl' := Bool.and_eq_true_iff.mp hfl
          intro A' B' H' v hl x S' rv
          obtain ⟨e, S2⟩ := back S (Bc := Less A B) (fun _ h => h.1) hl x S' fun o ho a h =>
            ObR.lower (sub A' B') (S'.gl o ho) (ObR.flat_up (ap A' B' H' x) (List.all_eq_true.mp hfl'.2 o ho) h)
          exact O _ _ _ e S2 v (Rep.lower (sub A' B') (Rep.noLob hl rv) (Rep.flat_up (ap A' B' H' x) hfl'.1 rv))
        · exact O.elim
      | exn q g =>
        rw [hf] at O
        dsimp only at O
        split at O
        · rename_i hfl
          have hfl' := Bool.and_eq_true_iff.mp hfl
          intro A' B' H' cls d hl x S' rv
          obtain ⟨e, S2⟩ := back S (Bc := Less A B) (fun _ h => h.1) hl x S' fun o ho a h =>
            ObR.lower (sub A' B') (S'.gl o ho) (ObR.flat_up (ap A' B' H' x) (List.all_eq_true.mp hfl'.2 o ho) h)
          exact O _ _ _ e S2 cls d (ExR.lower (sub A' B') hl (ExR.flat_up (ap A' B' H' x) hfl'.1 rv))
        · exact O.elim
end
/-! ### the expression -/
/-- scalars, as defaults -/
def scalV : P → Option V
  | .non => some .non
  | .bl b => some (.bl b)
  | .int i => some (.int i)
  | .str x => some (.str x)
  | _ => none
theorem scal_rep {mg : Mg} {A : As} {B : Fb} {H : Hp} {p : P} {v : V} (h : scalV p = some v) : Rep mg A B H p v := by
  cases p <;> first | (cases h; done) | (cases h; simp only [Rep])
theorem scals_rep {mg : Mg} {A : As} {B : Fb} {H : Hp} : ∀ {ps : List P} {vs : List V}, ps.mapM scalV = some vs → Reps mg A B H ps vs
  | [], vs, h => by
    have e : ([] : List V) = vs := by simpa using h
    subst e; simp only [Reps]
  | p :: ps, vs, h => by
    obtain ⟨v, ws, h1, h2, e⟩ := mapM_cons_some h
    subst e
    simp only [Reps]
    exact ⟨v, ws, rfl, scal_rep h1, scals_rep h2⟩
section
variable {X : Cx} {W : WX} {k n : Nat} {f : Addr} {fd : FuncData} {params : List Str} {F : Fn} {ds : List P} {dvs : List V} {dus : List Value} {x : Str} {p pos : Pos} {e : Expr} {es : List Expr} {fs : Rho → M (List P)}
theorem ve_call (G : FnOk X.prog X.w X.K X.mg X.base (L2.CX X.prog X.w) k f fd params (spOf X.mg params.length F)) (hr : Room k X.A) (hg : Gl X x) (hm : X.mg x = some (.ref f)) (hk : PySem.W.keepIn X.K (.ref f) = true)
    (hb : Binds X.K fd params dus) (hd : Vals dvs dus) (hds : ds.mapM scalV = some dvs) (tk : Takes X W) (ha : VA X W (e :: es) fs) (hdb : (x == ("__debug__" : Str)) = false)
    (he : starEach (e :: es) X.env = (false, eval e X.env) :: starEach es X.env) (hpl : (backTo pos (starEach es X.env)).any (·.1) = false) (hlen : ∀ ρ s ps s', fs ρ s = .ok ps s' → (ps ++ ds).length = params.length) :
    VE X W (.Call (.Name x p) (e :: es) [] pos) (fun ρ => bnd (fs ρ) fun ps => callF F (ps ++ ds)) := by
  refine (pe_callSD G hr hg hm hk hb hd (E := fun σ => WE W σ) (fun σ => passAt tk σ) ha hdb he hpl).weak fun σ H Q h => ?_
  obtain ⟨A, B, ρ, s, S, L, O⟩ := h
  refine ⟨A, B, ρ, s, S, L, ?_⟩
  have O : Out X.mg W σ A B H (bnd (fs ρ) (fun ps => callF F (ps ++ ds)) s) (kP X.mg Q) := O
  cases hf : fs ρ s with
  | bad => rw [bnd_bad hf] at O; exact O.elim
  | exn q s' => rw [bnd_exn hf] at O; exact O
  | ok ps s' =>
    rw [bnd_ok hf] at O
    intro A1 B1 H1 x1 S1 vs r
    exact call_read S1 (reps_app r (scals_rep hds)) (hlen ρ s ps s' hf) (O.ext x1)
end
end FW

end

section
set_option Elab.async false
set_option linter.all false
set_option maxRecDepth 100000
/-! Fw9a: list.extend of a tuple. -/
namespace PySem
namespace FWx
open PySem.AutoSeq1
set_option maxRecDepth 8000 in
theorem extT (l b : Addr) (xs ys : Array Value) (n m : Nat) (od : Option Addr) (sl : Array (Option Value))
    (h0 : ¬(!xs.isEmpty && Builtin.List.listTooLong (xs.size + ys.size)) = true)
    (h1 : xs.size ≤ sizeLine) (h2 : xs.size + ys.size ≤ sizeLine + 1) :
    Meets (Builtin.«list.extend» ⟨[.ref l, .ref b], []⟩) (fun _ R s =>
      s.heap.get? l = some { cls := .type "list", dict := none, data := .seq xs n, slots := #[] } ∧
      s.heap.get? b = some { cls := .type "tuple", dict := od, data := .seq ys m, slots := sl } ∧
      R (.ok (.ret Value.none)) { s with heap := s.heap.update l (Obj.mapSeq fun x => x ++ ys), toks := s.toks }) :=
  .of_wp fun prog w A R s h => by
    obtain ⟨hp, g, d, tk, os⟩ := s
    obtain ⟨hl, hb, h⟩ := h
    have f1 := idx_int
    have f2 := sub_tuple_tuple
    have f3 := sub_list_list
    have f4 := sub_tuple_list
    have f5 := sub_list_tuple
    have hz : (xs ++ ys).size ≤ sizeLine + 1 := by
      rw [Array.size_append]
      exact h2
    wp_walk using (wpAny_updateSeq hl rfl (hz := h1) (_hz' := hz)), wpAny_loadPart' hl, wpAny_loadPart' hb
    exact ⟨_, rfl, h⟩
end FWx
end PySem

end

section
set_option Elab.async false
set_option linter.all false
/-! Fw9: built-in functions and methods, by values. -/
namespace FW
open PySem PySem.Spec PyProof.Rows L2
variable [Tb]
def biV : Bi → Value
  | .len => .builtin "len" | .abs => .builtin "abs" | .min => .builtin "min" | .max => .builtin "max" | .sum => .builtin "sum" | .all => .builtin "all" | .any => .builtin "any"
  | .int => .type "int" | .str => .type "str" | .list => .type "list" | .tuple => .type "tuple" | .sorted => .builtin "sorted" | .repr => .builtin "repr" | .isinstance => .builtin "isinstance"
  | .zip => .type "zip" | .set => .type "set" | .dict => .type "dict" | .bool => .type "bool"
def biN : Bi → String
  | .len => "len" | .abs => "abs" | .min => "min" | .max => "max" | .sum => "sum" | .all => "all" | .any => "any"
  | .int => "int" | .str => "str" | .list => "list" | .tuple => "tuple" | .sorted => "sorted" | .repr => "repr" | .isinstance => "isinstance"
  | .zip => "zip" | .set => "set" | .dict => "dict" | .bool => "bool"
/-- isinstance, as the head's facts must give it -/
def IsiOk (X : Cx) (Φ : Fenv) : Prop := ∀ (pins : List (Addr × Obj)) (s : Shared) (σ : L2.St) (H : Hp) (x y : V) (us : List Value) (Q : VK) (A : As) (B : Fb) (st : Sto) (p c : P) (b : Bool), Inv X pins σ H s → Vals [x, y] us →
  StoR X.mg A B H st → Rep X.mg A B H p x → Rep X.mg A B H c y → (isOne Φ st p c = some b ∨ ∃ cs, c = .tup cs ∧ isAny Φ st p cs = some b) → Q (.bl b) H → wpAny (model X.prog X.w) X.A (call (.builtin "isinstance") us) (EP X pins σ Q) X.xe s
section
variable {mg : Mg} {A : As} {B : Fb} {H : Hp}
theorem reps_one {p : P} {xs : List V} (r : Reps mg A B H [p] xs) : ∃ v, xs = [v] ∧ Rep mg A B H p v := by
  simp only [Reps] at r
  obtain ⟨v, w, e, h, e2⟩ := r
  exact ⟨v, by rw [e, e2], h⟩
theorem reps_two {p q : P} {xs : List V} (r : Reps mg A B H [p, q] xs) : ∃ v w, xs = [v, w] ∧ Rep mg A B H p v ∧ Rep mg A B H q w := by
  simp only [Reps] at r
  obtain ⟨v, w, e, h, v2, w2, e2, h2, e3⟩ := r
  exact ⟨v, v2, by rw [e, e2, e3], h, h2⟩
theorem reps_ofI : ∀ (is : List Int), Reps mg A B H (is.map P.int) (is.map V.int)
  | [] => by simp [Reps]
  | i :: is => by simp only [List.map_cons, Reps]; exact ⟨_, _, rfl, by simp only [Rep], reps_ofI is⟩
end
theorem insI_perm (x : Int) : ∀ ys, (insI x ys).Perm (x :: ys)
  | [] => .refl _
  | y :: r => by
    unfold insI
    split
    · exact .refl _
    · exact ((insI_perm x r).cons y).trans (.swap x y r)
theorem sortI_perm : ∀ ys, (sortI ys).Perm ys
  | [] => .refl _
  | x :: r => (insI_perm x (sortI r)).trans ((sortI_perm r).cons x)
theorem insI_sorted (x : Int) : ∀ {ys : List Int}, ys.Pairwise (· ≤ ·) → (insI x ys).Pairwise (· ≤ ·)
  | [], _ => by simp [insI]
  | y :: r, h => by
    unfold insI
    split
    · rename_i hx
      refine List.pairwise_cons.mpr ⟨fun z hz => ?_, h⟩
      rcases List.mem_cons.mp hz with e | hz
      · omega
      · exact Int.le_trans hx ((List.pairwise_cons.mp h).1 z hz)
    · rename_i hx
      refine List.pairwise_cons.mpr ⟨fun z hz => ?_, insI_sorted x (List.pairwise_cons.mp h).2⟩
      rcases List.mem_cons.mp ((insI_perm x r).mem_iff.mp hz) with e | hz
      · omega
      · exact (List.pairwise_cons.mp h).1 z hz
theorem sortI_sorted : ∀ ys, (sortI ys).Pairwise (· ≤ ·)
  | [] => .nil
  | x :: r => insI_sorted x (sortI_sorted r)
theorem sorted_uniq {xs ys : List Int} (h1 : xs.Pairwise (· ≤ ·)) (h2 : ys.Pairwise (· ≤ ·)) (h : xs.Perm ys) : xs = ys :=
  List.Perm.eq_of_pairwise (fun a b _ _ h1 h2 => Int.le_antisymm h1 h2) h1 h2 h
theorem minBy_int : ∀ (is : List Int) (m : Int), ∃ k, minBy pLt (is.map .int) (.int m) = some (.int k) ∧ k ∈ m :: is ∧ ∀ y ∈ m :: is, k ≤ y
  | [], m => ⟨m, rfl, by simp, by simp⟩
  | i :: is, m => by
    show ∃ k, (match pLt (.int i) (.int m) with | some true => minBy pLt (is.map .int) (.int i) | some false => minBy pLt (is.map .int) (.int m) | none => none) = some (.int k) ∧ _
    have e : pLt (.int i) (.int m) = some (decide (i < m)) := rfl
    rw [e]
    by_cases h : i < m
    · rw [decide_eq_true h]
      obtain ⟨k, h1, h2, h3⟩ := minBy_int is i
      refine ⟨k, h1, List.mem_cons_of_mem _ h2, fun y hy => ?_⟩
      rcases List.mem_cons.mp hy with e | hy
      · have := h3 i List.mem_cons_self; omega
      · exact h3 y hy
    · rw [decide_eq_false h]
      obtain ⟨k, h1, h2, h3⟩ := minBy_int is m
      refine ⟨k, h1, ?_, fun y hy => ?_⟩
      · rcases List.mem_cons.mp h2 with e | h2
        · rw [e]; exact List.mem_cons_self
        · exact List.mem_cons_of_mem _ (List.mem_cons_of_mem _ h2)
      · rcases List.mem_cons.mp hy with e | hy
        · rw [e]; exact h3 m List.mem_cons_self
        · rcases List.mem_cons.mp hy with e | hy
          · have := h3 m List.mem_cons_self; omega
          · exact h3 y (List.mem_cons_of_mem _ hy)
theorem maxBy_int : ∀ (is : List Int) (m : Int), ∃ k, minBy (fun a b => pLt b a) (is.map .int) (.int m) = some (.int k) ∧ k ∈ m :: is ∧ ∀ y ∈ m :: is, y ≤ k
  | [], m => ⟨m, rfl, by simp, by simp⟩
  | i :: is, m => by
    show ∃ k, (match pLt (.int m) (.int i) with | some true => minBy (fun a b => pLt b a) (is.map .int) (.int i) | some false => minBy (fun a b => pLt b a) (is.map .int) (.int m) | none => none) = some (.int k) ∧ _
    have e : pLt (.int m) (.int i) = some (decide (m < i)) := rfl
    rw [e]
    by_cases h : m < i
    · rw [decide_eq_true h]
      obtain ⟨k, h1, h2, h3⟩ := maxBy_int is i
      refine ⟨k, h1, List.mem_cons_of_mem _ h2, fun y hy => ?_⟩
      rcases List.mem_cons.mp hy with e | hy
      · have := h3 i List.mem_cons_self; omega
      · exact h3 y hy
    · rw [decide_eq_false h]
      obtain ⟨k, h1, h2, h3⟩ := maxBy_int is m
      refine ⟨k, h1, ?_, fun y hy => ?_⟩
      · rcases List.mem_cons.mp h2 with e | h2
        · rw [e]; exact List.mem_cons_self
        · exact List.mem_cons_of_mem _ (List.mem_cons_of_mem _ h2)
      · rcases List.mem_cons.mp hy with e | hy
        · rw [e]; exact h3 m List.mem_cons_self
        · rcases List.mem_cons.mp hy with e | hy
          · have := h3 m List.mem_cons_self; omega
          · exact h3 y (List.mem_cons_of_mem _ hy)
theorem intsOf_map : ∀ (is : List Int), intsOf (is.map P.int) = some is
  | [] => rfl
  | i :: is => by show (intsOf (is.map P.int)).map (i :: ·) = _; rw [intsOf_map is]; rfl
theorem intsOf_inv : ∀ {xs : List P} {is : List Int}, intsOf xs = some is → xs = is.map P.int
  | [], is, h => by cases h; rfl
  | .int i :: r, is, h => by
    have h' : (intsOf r).map (i :: ·) = some is := h
    obtain ⟨js, h1, h2⟩ := Option.map_eq_some_iff.mp h'
    subst h2
    rw [intsOf_inv h1]; rfl
  | .non :: _, _, e | .bl _ :: _, _, e | .str _ :: _, _, e | .ty _ :: _, _, e | .tup _ :: _, _, e | .lst _ :: _, _, e | .dct _ _ :: _, _, e
  | .ins _ _ :: _, _, e | .exc _ _ :: _, _, e | .lob _ :: _, _, e | .gob _ :: _, _, e | .fn _ :: _, _, e | .cls _ :: _, _, e | .scr _ :: _, _, e => by cases e
section
variable {X : Cx} {Φ : Fenv} {r : Al}
/-- a minimum, a maximum of other things than ints -/
def MinOk (X : Cx) : Prop := ∀ (pins : List (Addr × Obj)) (s : Shared) (σ : L2.St) (H : Hp) (us : List Value) (Q : VK) (A : As) (B : Fb) (st : Sto) (a : Addr) (vs : List V) (xs : List P) (m : P), Inv X pins σ H s → Vals [.ref a] us →
  StoR X.mg A B H st → H a = some (.lst vs) → Reps X.mg A B H xs vs → intsOf xs = none → okMn xs = true → pMin xs = some m → (∀ v, Rep X.mg A B H m v → Q v H) → wpAny (model X.prog X.w) X.A (call (.builtin "min") us) (EP X pins σ Q) X.xe s
theorem bi_P (hc : X.calm = true) (hi : IsiOk X Φ) (hm : MinOk X) (b : Bi) : CallR X (biV b) (rN X.mg (pBi Φ r b)) := by
  intro pins s σ H xs us Q I rv h
  obtain ⟨W, σ', A, B, st, ps, S, R, O⟩ := h
  unfold pBi at O
  split at O
  -- len
  · obtain ⟨v, e, r1⟩ := reps_one R
    subst e
    split at O
    · split at O
      · rename_i hl
        simp only [Rep] at r1
        exact call_len_str pins s σ H _ us Q I rv ⟨_, by rw [r1], by rw [sizeLine_line]; exact hl, out_int S O⟩
      · exact O.elim
    · split at O
      · rename_i ys hx
        obtain ⟨a, vs, e1, h1, R1⟩ := rep_items (K := X.K) S r1 hx
        have hq := out_int S O
        rw [← reps_len R1] at hq
        exact call_len_seq pins s σ H _ us Q I rv ⟨a, vs, by rw [e1], h1, hq⟩
      · split at O
        · rename_i kvs hd
          obtain ⟨a, e1, ks, h1, h2⟩ := rep_dct S r1 hd
          subst e1
          obtain ⟨u, rfl, ru⟩ := rv.one
          cases ru
          have hl : ks.length = kvs.length := by
            clear h1 hd O
            induction kvs generalizing ks with
            | nil => simp only [RepK] at h2; rw [h2]; rfl
            | cons q r ih =>
              obtain ⟨kk, p⟩ := q
              simp only [RepK] at h2
              obtain ⟨j, v, w, e, _, _, h4⟩ := h2
              rw [e, List.length_cons, List.length_cons, ih w h4]
          have hq := out_int S O
          rw [← hl] at hq
          exact d_len I h1 fun t s' I' => ⟨.int _, H, I', ⟨t, rfl⟩, hq⟩
        · exact O.elim
  -- abs
  · obtain ⟨v, e, r1⟩ := reps_one R
    simp only [Rep] at r1
    exact call_abs pins s σ H _ us Q I rv ⟨_, by rw [e, r1], out_int S O⟩
  -- min, max of two
  · obtain ⟨v, w, e, r1, r2⟩ := reps_two R
    simp only [Rep] at r1 r2
    exact call_min2 hc pins s σ H _ us Q I rv ⟨_, _, by rw [e, r1, r2], out_int S O⟩
  · obtain ⟨v, w, e, r1, r2⟩ := reps_two R
    simp only [Rep] at r1 r2
    exact call_max2 hc pins s σ H _ us Q I rv ⟨_, _, by rw [e, r1, r2], out_int S O⟩
  -- min, max of a list
  · obtain ⟨v, e, r1⟩ := reps_one R
    subst e
    split at O
    · rename_i ys hx
      by_cases hok : okMn ys = true
      rotate_left
      · rw [if_neg hok] at O; exact O.elim
      rw [if_pos hok] at O
      split at O
      · rename_i m hmin
        obtain ⟨a, vs, e1, h1, R1⟩ := rep_list S r1 hx
        subst e1
        cases hio : intsOf ys with
        | some is =>
          have ey := intsOf_inv hio
          subst ey
          rw [reps_ints R1 hio] at h1
          cases is with
          | nil => cases hmin
          | cons i is =>
            obtain ⟨k, k1, k2, k3⟩ := minBy_int is i
            have em : m = .int k := Option.some.inj (hmin.symm.trans k1)
            subst em
            refine cr_min hc pins s σ H _ us Q I rv ⟨a, i :: is, rfl, SqL.of h1, by simp, fun z hz hz2 => ?_⟩
            have : z = k := Int.le_antisymm (hz2 k k2) (k3 z hz)
            rw [this]; exact out_int S O
        | none => exact hm pins s σ H us Q A B st a vs ys m I rv S h1 R1 hio hok hmin (O.ok S)
      · exact O.elim
    · exact O.elim
  · obtain ⟨v, e, r1⟩ := reps_one R
    subst e
    split at O
    · rename_i ys hx
      by_cases hok : okMx ys = true
      rotate_left
      · rw [if_neg hok] at O; exact O.elim
      rw [if_pos hok] at O
      split at O
      · rename_i m hmin
        obtain ⟨a, vs, e1, h1, R1⟩ := rep_list S r1 hx
        subst e1
        cases hio : intsOf ys with
        | some is =>
          have ey := intsOf_inv hio
          subst ey
          rw [reps_ints R1 hio] at h1
          cases is with
          | nil => cases hmin
          | cons i is =>
            obtain ⟨k, k1, k2, k3⟩ := maxBy_int is i
            have em : m = .int k := Option.some.inj (hmin.symm.trans k1)
            subst em
            refine cr_max hc pins s σ H _ us Q I rv ⟨a, i :: is, rfl, SqL.of h1, by simp, fun z hz hz2 => ?_⟩
            have : z = k := Int.le_antisymm (k3 z hz) (hz2 k k2)
            rw [this]; exact out_int S O
        | none => unfold okMx at hok; rw [hio] at hok; cases hok
      · exact O.elim
    · exact O.elim
  -- sum
  · obtain ⟨v, e, r1⟩ := reps_one R
    subst e
    split at O
    · rename_i ys hx
      split at O
      · rename_i is hio
        obtain ⟨a, vs, e1, h1, R1⟩ := rep_list S r1 hx
        rw [reps_ints R1 hio] at h1
        exact cr_sum hc pins s σ H _ us Q I rv ⟨a, is, by rw [e1], SqL.of h1, out_int S O⟩
      · exact O.elim
    · exact O.elim
  -- all, any
  · obtain ⟨v, e, r1⟩ := reps_one R
    subst e
    split at O
    · rename_i ys hx
      split at O
      · rename_i is hio
        obtain ⟨a, vs, e1, h1, R1⟩ := rep_list S r1 hx
        rw [reps_bls R1 hio] at h1
        exact cr_all hc pins s σ H _ us Q I rv ⟨a, is, by rw [e1], SqL.of h1, out_b S O⟩
      · exact O.elim
    · exact O.elim
  · obtain ⟨v, e, r1⟩ := reps_one R
    subst e
    split at O
    · rename_i ys hx
      split at O
      · rename_i is hio
        obtain ⟨a, vs, e1, h1, R1⟩ := rep_list S r1 hx
        rw [reps_bls R1 hio] at h1
        exact cr_any hc pins s σ H _ us Q I rv ⟨a, is, by rw [e1], SqL.of h1, out_b S O⟩
      · exact O.elim
    · exact O.elim
  -- int
  · obtain ⟨v, e, r1⟩ := reps_one R
    simp only [Rep] at r1
    exact call_int1 pins s σ H _ us Q I rv (.inl ⟨_, by rw [e, r1], out_int S O⟩)
  · obtain ⟨v, e, r1⟩ := reps_one R
    simp only [Rep] at r1
    exact call_int1 pins s σ H _ us Q I rv (.inr ⟨_, by rw [e, r1], out_int S O⟩)
  -- str
  · split at O
    · rename_i hl
      obtain ⟨v, e, r1⟩ := reps_one R
      simp only [Rep] at r1
      exact call_str_int pins s σ H _ us Q I rv ⟨_, by rw [e, r1], hl, O.ok S _ (by simp only [Rep])⟩
    · exact O.elim
  · obtain ⟨v, e, r1⟩ := reps_one R
    simp only [Rep] at r1
    exact SkE.call_str_str pins s σ H _ us Q I rv ⟨_, by rw [e, r1], O.ok S _ (by simp only [Rep])⟩
  -- list, tuple
  · obtain ⟨v, e, r1⟩ := reps_one R
    subst e
    split at O
    · rename_i ys hx
      obtain ⟨a, vs, e1, h1, R1⟩ := rep_items (K := X.K) S r1 hx
      exact call_list_of pins s σ H _ us Q I rv ⟨a, vs, by rw [e1], h1, fun p hn => mkL_out S R1 O hn⟩
    · exact O.elim
  · obtain ⟨v, e, r1⟩ := reps_one R
    subst e
    split at O
    · rename_i ys hx
      rcases itemsOf_cases hx with e2 | e2 | e2
      · subst e2
        obtain ⟨a, vs, e1, h1, R1⟩ := rep_tup r1
        exact call_tuple_of pins s σ H _ us Q I rv ⟨a, vs, by rw [e1], .inr ⟨SqT.of h1, by rw [← e1]; exact O.ok S _ r1⟩⟩
      · subst e2
        simp only [Rep] at r1
        obtain ⟨a, vs, e1, h1, _, R1⟩ := r1
        exact call_tuple_of pins s σ H _ us Q I rv ⟨a, vs, by rw [e1], .inl ⟨.inl h1, fun p hn => mkT_out S R1 O hn⟩⟩
      · obtain ⟨a, vs, e1, h1, R1⟩ := rep_list S r1 e2
        exact call_tuple_of pins s σ H _ us Q I rv ⟨a, vs, by rw [e1], .inl ⟨SqL.of h1, fun p hn => mkT_out S R1 O hn⟩⟩
    · exact O.elim
  -- sorted
  · obtain ⟨v, e, r1⟩ := reps_one R
    subst e
    split at O
    · rename_i ys hx
      split at O
      · rename_i is hio
        split at O
        · rename_i hl
          obtain ⟨a, vs, e1, h1, R1⟩ := rep_list S r1 hx
          rw [reps_ints R1 hio] at h1
          refine cr_sorted pins s σ H _ us Q I rv ⟨a, is, by rw [e1], SqL.of h1, hl, fun ns' p hp hs hn => ?_⟩
          have es : ns' = sortI is := sorted_uniq hs (sortI_sorted is) (hp.trans (sortI_perm is).symm)
          rw [es]
          exact mkL_out S (reps_ofI _) O hn
        · exact O.elim
      · exact O.elim
    · exact O.elim
  -- isinstance
  · obtain ⟨v, w, e, r1, r2⟩ := reps_two R
    subst e
    split at O
    · rename_i c hcs
      exact hi pins s σ H v w us Q A B st _ _ c I rv S r1 r2 (.inr ⟨_, rfl, hcs⟩) (out_b S O)
    · exact O.elim
  · obtain ⟨v, w, e, r1, r2⟩ := reps_two R
    subst e
    split at O
    · rename_i c hcs
      exact hi pins s σ H v w us Q A B st _ _ c I rv S r1 r2 (.inl hcs) (out_b S O)
    · exact O.elim
  · exact O.elim
end
/-! ### objects written -/
section
variable {mg : Mg} {W : WX} {σ : L2.St} {A : As} {B : Fb} {H : Hp} {s : Sto}
theorem obR_no {o : Ob} {a : Addr} (h : ObR mg A B H o a) : ∀ u, H a = some u → (∀ ps, u ≠ .tbl ps) ∧ ∀ φ, u ≠ .ext φ := fun u hu => by
  cases o with
  | lst xs => obtain ⟨vs, q, _⟩ := h; rw [q] at hu; cases hu; exact ⟨(fun _ z => nomatch z), (fun _ z => nomatch z)⟩
  | dct t kvs => cases t <;> (obtain ⟨vs, q, _⟩ := h; rw [q] at hu; cases hu; exact ⟨(fun _ z => nomatch z), (fun _ z => nomatch z)⟩)
  | ins c fs => obtain ⟨C, dx, gs, q, _⟩ := h; rw [q] at hu; cases hu; exact ⟨(fun _ z => nomatch z), (fun _ z => nomatch z)⟩
theorem own_obj {a : Addr} (S : StoR mg A B H s) (ha : Own A a) : ∀ u, H a = some u → (∀ ps, u ≠ .tbl ps) ∧ ∀ φ, u ≠ .ext φ := by
  rcases ha with h | h
  · obtain ⟨i, hi⟩ := List.getElem?_of_mem h
    have hl : i < s.l.length := by rw [← S.ll]; exact (List.getElem?_eq_some_iff.mp hi).1
    exact obR_no (S.ol i a _ hi (List.getElem?_eq_getElem hl))
  · obtain ⟨i, hi⟩ := List.getElem?_of_mem h
    have hl : i < s.g.length := by rw [← S.lg]; exact (List.getElem?_eq_some_iff.mp hi).1
    exact obR_no (S.og i a _ hi (List.getElem?_eq_getElem hl))
theorem ext_write {a : Addr} {u : HO} (S : StoR mg A B H s) (ha : Own A a) : Ext A B H A B (upd H a u) :=
  ⟨⟨[], by simp⟩, ⟨[], by simp⟩, fun b v h n _ => by rw [upd_ne (fun e => by subst e; exact n ha)]; exact h, fun _ _ h => h, fun _ h => h, fun b h => by
    by_cases e : b = a
    · subst e; rw [upd_same]; exact fun z => nomatch z
    · rw [upd_ne e]; exact h, fun _ h => .inl h, tbs fun P q t => tab_chg (a := a) (own_obj S ha) (fun b o z e => by rw [upd_ne z]; exact e) t⟩
theorem get_inj {l : List Addr} (nd : l.Nodup) {i j : Nat} {a : Addr} (h1 : l[i]? = some a) (h2 : l[j]? = some a) : i = j := by
  obtain ⟨l1, e1⟩ := List.getElem?_eq_some_iff.mp h1
  obtain ⟨l2, e2⟩ := List.getElem?_eq_some_iff.mp h2
  exact (List.getElem_inj nd).mp (e1.trans e2.symm)
theorem sto_write {loc : Bool} {n : Nat} {a : Addr} {o : Ob} {u : HO} (S : StoR mg A B H s) (ha : (if loc then A.l else A.g)[n]? = some a) (hol : loc = true → ∀ c fs, o ≠ .ins c fs) (hog : loc = false → o.noLob = true)
    (hu : ObR mg A B (upd H a u) o a) : StoR mg A B (upd H a u) (if loc then { s with l := s.l.set n o } else { s with g := s.g.set n o }) := by
  have nd := S.nd
  rw [List.nodup_append] at nd
  have own : Own A a := by
    cases loc with
    | true => exact .inl (List.mem_of_getElem? ha)
    | false => exact .inr (List.mem_of_getElem? ha)
  have x : Ext A B H A B (upd H a u) := ext_write S own
  have hk : ∀ b, b ≠ a → ∀ v, H b = some v → upd H a u b = some v := fun b e v h => by rw [upd_ne e]; exact h
  cases loc with
  | true =>
    have ha' : A.l[n]? = some a := ha
    refine ⟨by show A.l.length = (s.l.set n o).length; rw [List.length_set]; exact S.ll, S.lg, S.nd, fun i b q h1 h2 => ?_, fun i b q h1 h2 => ?_, S.own, S.gl, fun q hq => ?_, fun b h => x.there b (S.bt b h), x.tb S.tab⟩
    · have h2' : (s.l.set n o)[i]? = some q := h2
      by_cases e : i = n
      · subst e
        rw [ha'] at h1; cases h1
        have hlt : i < s.l.length := by rw [← S.ll]; exact (List.getElem?_eq_some_iff.mp ha').1
        rw [List.getElem?_set_self hlt] at h2'
        cases h2'
        exact hu
      · rw [List.getElem?_set_ne (Ne.symm e)] at h2'
        exact (S.ol i b q h1 h2').mono x S.own fun v => hk b (fun z => e (get_inj nd.1 h1 (z ▸ ha'))) v
    · exact (S.og i b q h1 h2).mono x S.own fun v => hk b (fun z => nd.2.2 a (List.mem_of_getElem? ha') b (List.mem_of_getElem? h1) z.symm) v
    · rcases List.mem_or_eq_of_mem_set hq with h | h
      · exact S.li q h
      · rw [h]; exact hol rfl
  | false =>
    have ha' : A.g[n]? = some a := ha
    refine ⟨S.ll, by show A.g.length = (s.g.set n o).length; rw [List.length_set]; exact S.lg, S.nd, fun i b q h1 h2 => ?_, fun i b q h1 h2 => ?_, S.own, fun q hq => ?_, S.li, fun b h => x.there b (S.bt b h), x.tb S.tab⟩
    · exact (S.ol i b q h1 h2).mono x S.own fun v => hk b (fun z => nd.2.2 b (List.mem_of_getElem? h1) a (List.mem_of_getElem? ha') z) v
    · have h2' : (s.g.set n o)[i]? = some q := h2
      by_cases e : i = n
      · subst e
        rw [ha'] at h1; cases h1
        have hlt : i < s.g.length := by rw [← S.lg]; exact (List.getElem?_eq_some_iff.mp ha').1
        rw [List.getElem?_set_self hlt] at h2'
        cases h2'
        exact hu
      · rw [List.getElem?_set_ne (Ne.symm e)] at h2'
        exact (S.og i b q h1 h2').mono x S.own fun v => hk b (fun z => e (get_inj nd.2.1 h1 (z ▸ ha'))) v
    · rcases List.mem_or_eq_of_mem_set hq with h | h
      · exact S.gl q h
      · rw [h]; exact hog rfl
/-- an object that a reference stands for is written -/
theorem setOb_out {p : P} {v : V} {a : Addr} {o : Ob} {u : HO} {β : Type} {g : Unit → M β} {k : As → Fb → Hp → Sto → β → Prop} (S : StoR mg A B H s) (rp : Rep mg A B H p v) (ev : v = .ref a) (hni : ∀ c fs, o ≠ .ins c fs)
    (hu : Ext A B H A B (upd H a u) → ObR mg A B (upd H a u) o a) (O : Out mg W σ A B H (bnd (setOb p o) g s) k) :
    ∃ s', Ext A B H A B (upd H a u) ∧ StoR mg A B (upd H a u) s' ∧ Out mg W σ A B (upd H a u) (g () s') k := by
  subst ev
  cases p with
  | lob n =>
    simp only [Rep] at rp
    obtain ⟨b, e, h1⟩ := rp
    cases e
    unfold bnd setOb at O
    have hlt : n < s.l.length := by rw [← S.ll]; exact (List.getElem?_eq_some_iff.mp h1).1
    simp only [if_pos hlt] at O
    have x : Ext A B H A B (upd H a u) := ext_write S (.inl (List.mem_of_getElem? h1))
    have S' := sto_write (loc := true) S h1 (fun _ => hni) (fun z => nomatch z) (hu x)
    exact ⟨_, x, S', O.ext x⟩
  | gob n =>
    simp only [Rep] at rp
    obtain ⟨b, e, h1⟩ := rp
    cases e
    unfold bnd setOb at O
    have hlt : n < s.g.length := by rw [← S.lg]; exact (List.getElem?_eq_some_iff.mp h1).1
    by_cases hn : o.noLob = true
    · have hc : (decide (n < s.g.length) && o.noLob) = true := by rw [hn, decide_eq_true hlt]; rfl
      simp only [if_pos hc] at O
      have x : Ext A B H A B (upd H a u) := ext_write S (.inr (List.mem_of_getElem? h1))
      have S' := sto_write (loc := false) S h1 (fun z => nomatch z) (fun _ => hn) (hu x)
      exact ⟨_, x, S', O.ext x⟩
    · have hc : ¬ (decide (n < s.g.length) && o.noLob) = true := fun z => hn (Bool.and_eq_true_iff.mp z).2
      simp only [if_neg hc] at O
      exact O.elim
  | _ => exact O.elim
theorem reps_set {xs : List P} {vs : List V} {p : P} {v : V} (h : Reps mg A B H xs vs) (r : Rep mg A B H p v) : ∀ (j : Nat), Reps mg A B H (xs.set j p) (vs.set j v) := by
  induction xs generalizing vs with
  | nil => intro j; simp only [Reps] at h; rw [h]; simp [Reps]
  | cons q ps ih =>
    intro j
    simp only [Reps] at h
    obtain ⟨w, t, e1, h1, h2⟩ := h
    subst e1
    cases j with
    | zero => simp only [List.set_cons_zero, Reps]; exact ⟨v, t, rfl, r, h2⟩
    | succ j => simp only [List.set_cons_succ, Reps]; exact ⟨w, _, rfl, h1, ih h2 j⟩
theorem reps_erase {xs : List P} {vs : List V} (h : Reps mg A B H xs vs) : ∀ (j : Nat), Reps mg A B H (xs.eraseIdx j) (vs.eraseIdx j) := by
  induction xs generalizing vs with
  | nil => intro j; simp only [Reps] at h; rw [h]; simp [Reps]
  | cons q ps ih =>
    intro j
    simp only [Reps] at h
    obtain ⟨w, t, e1, h1, h2⟩ := h
    subst e1
    cases j with
    | zero => simp only [List.eraseIdx_cons_zero]; exact h2
    | succ j => simp only [List.eraseIdx_cons_succ, Reps]; exact ⟨w, _, rfl, h1, ih h2 j⟩
theorem reps_dropLast {xs : List P} {vs : List V} (h : Reps mg A B H xs vs) : Reps mg A B H xs.dropLast vs.dropLast := by
  rw [List.dropLast_eq_take, List.dropLast_eq_take, reps_len h]
  exact reps_take _ h
/-- a list's reference -/
theorem list_ref {p : P} {a : Addr} {xs : List P} {o : Ob} {β : Type} {g : Unit → M β} {k : As → Fb → Hp → Sto → β → Prop} (O : Out mg W σ A B H (bnd (setOb p o) g s) k) : (∃ n, p = .lob n) ∨ ∃ n, p = .gob n := by
  cases p with
  | lob n => exact .inl ⟨n, rfl⟩
  | gob n => exact .inr ⟨n, rfl⟩
  | _ => exact O.elim
end
section
variable {X : Cx}
/-- a list is changed -/
theorem mt_lst {mg : Mg} {W : WX} {σ : L2.St} {A : As} {B : Fb} {H : Hp} {s : Sto} {p q : P} {v : V} {a : Addr} {xs' : List P} {vs' : List V} {Q : VK} {w : V} (S : StoR mg A B H s) (rp : Rep mg A B H p v) (ev : v = .ref a)
    (R : Reps mg A B H xs' vs') (rq : Rep mg A B H q w) (O : Out mg W σ A B H (bnd (setOb p (.lst xs')) (fun _ => ret q) s) (kP mg Q)) : Q w (upd H a (.lst vs')) := by
  obtain ⟨s', x, S', O'⟩ := setOb_out (o := .lst xs') (u := .lst vs') S rp ev (fun _ _ z => nomatch z) (fun x => ⟨vs', upd_same, R.mono x S.own⟩) O
  exact O'.ret S' w (rq.mono x S.own)
theorem mt_appendP : MtR X "list.append" (rM X.mg pAppend) := by
  intro pins s σ H x xs v us Q I rx rv h
  obtain ⟨W, σ', A, B, st, p, ps, S, rp, R, O⟩ := h
  unfold pAppend at O
  split at O
  · split at O
    · rename_i ys hl
      split at O
      · rename_i hz
        obtain ⟨w, e, r1⟩ := reps_one R
        subst e
        obtain ⟨a, vs, e1, h1, R1⟩ := rep_list S rp hl
        exact mt_append pins s σ H x _ v us Q I rx rv ⟨a, vs, w, e1, rfl, h1, by rw [reps_len R1, sizeLine_line]; exact hz,
          mt_lst S rp e1 (reps_app R1 (by simp only [Reps]; exact ⟨w, [], rfl, r1, rfl⟩)) (by simp only [Rep]) O⟩
      · exact O.elim
    · exact O.elim
  · exact O.elim
theorem seqOf_cases {s : Sto} {p : P} {xs : List P} (h : seqOf s p = some xs) : p = .tup xs ∨ listOf s p = some xs := by
  cases p with
  | tup ys => exact .inl (by rw [Option.some.inj h])
  | _ => exact .inr h
def rExtT : V → List V → Hp → VK → Prop := fun x vs H Q => ∃ l b xs zs, x = .ref l ∧ vs = [.ref b] ∧ H l = some (.lst xs) ∧ H b = some (.tup zs) ∧
  xs.length + zs.length ≤ sizeLine ∧ Q .non (upd H l (.lst (xs ++ zs)))
theorem mt_extT : MtR X "list.extend" rExtT := by
  intro pins s σ H x vs v us Q I rx rv h
  obtain ⟨l, b, xs, zs, rfl, rfl, hl, hb, hz, q⟩ := h
  cases rx
  obtain ⟨u, rfl, ru⟩ := rv.one
  cases ru
  obtain ⟨z1, i1, n1, r1, l1, e1⟩ := I.lstM hl
  obtain ⟨z2, i2, r2, ⟨oc, od, dat, sl⟩, e2, c2, n2, d2⟩ := I.hok b _ hb
  dsimp only at c2 d2
  subst c2 d2
  have l2 := r2.length
  have hs : i1.toArray.size + i2.toArray.size ≤ sizeLine := by
    rw [List.size_toArray, List.size_toArray]
    omega
  have hf : ¬ (!i1.toArray.isEmpty && Builtin.List.listTooLong (i1.toArray.size + i2.toArray.size)) = true := by
    rw [notLongL hs, Bool.and_false]
    decide
  refine call_meets F.slot_list_extend ⟨_, e1, rfl⟩ F.entry_list_extend (F.args_list_extend_2 _ _)
    (PySem.FWx.extT l b i1.toArray i2.toArray n1 n2 od sl hf (by rw [List.size_toArray]; omega) (by omega)) ⟨e1, e2, ?_⟩
  exact ⟨.non, _, I.lset (its' := i1 ++ i2) hl e1 (by simp) (r1.append r2) (by rw [List.length_append]; exact hz), rfl, q⟩
theorem mt_extendP : MtR X "list.extend" (rM X.mg pExtend) := by
  intro pins s σ H x xs v us Q I rx rv h
  obtain ⟨W, σ', A, B, st, p, ps, S, rp, R, O⟩ := h
  unfold pExtend at O
  split at O
  · split at O
    · rename_i ys zs hl hl2
      split at O
      · rename_i hz
        obtain ⟨w, e, r1⟩ := reps_one R
        subst e
        obtain ⟨a, vs, e1, h1, R1⟩ := rep_list S rp hl
        rcases seqOf_cases hl2 with e2 | e2
        · rw [e2] at r1
          obtain ⟨b, ws, e3, h3, R3⟩ := rep_tup r1
          exact mt_extT pins s σ H x _ v us Q I rx rv ⟨a, b, vs, ws, e1, by rw [e3], h1, h3, by rw [reps_len R1, reps_len R3, sizeLine_line]; exact hz,
            mt_lst S rp e1 (reps_app R1 R3) (by simp only [Rep]) O⟩
        · obtain ⟨b, ws, e3, h3, R3⟩ := rep_list S r1 e2
          exact mt_extend pins s σ H x _ v us Q I rx rv ⟨a, b, vs, ws, e1, by rw [e3], h1, h3, by rw [reps_len R1, reps_len R3, sizeLine_line]; exact hz,
            mt_lst S rp e1 (reps_app R1 R3) (by simp only [Rep]) O⟩
      · exact O.elim
    · exact O.elim
  · exact O.elim
theorem mt_popP : MtR X "list.pop" (rM X.mg pPop) := by
  intro pins s σ H x xs v us Q I rx rv h
  obtain ⟨W, σ', A, B, st, p, ps, S, rp, R, O⟩ := h
  unfold pPop at O
  split at O
  · split at O
    · rename_i ys hl
      split at O
      · rename_i y hy
        obtain ⟨a, vs, e1, h1, R1⟩ := rep_list S rp hl
        rw [← reps_len R1] at hy
        obtain ⟨w, hw, rw1⟩ := reps_get R1 hy
        simp only [Reps] at R
        exact mt_pop pins s σ H x _ v us Q I rx rv ⟨a, vs, w, e1, R, h1, hw, mt_lst S rp e1 (reps_dropLast R1) rw1 O⟩
      · exact O.elim
    · exact O.elim
  · split at O
    · rename_i ys hl
      split at O
      · rename_i hb
        split at O
        · rename_i kk hk
          split at O
          · rename_i y hy
            simp only [Bool.and_eq_true, decide_eq_true_eq] at hb
            obtain ⟨w, e, r1⟩ := reps_one R
            subst e
            simp only [Rep] at r1
            obtain ⟨a, vs, e1, h1, R1⟩ := rep_list S rp hl
            obtain ⟨z, hz, rz⟩ := reps_get R1 hy
            exact mt_popAt pins s σ H x _ v us Q I rx rv ⟨a, vs, _, kk, z, e1, by rw [r1], h1, hb.1, hb.2, by rw [reps_len R1]; exact hk, hz, mt_lst S rp e1 (reps_erase R1 kk) rz O⟩
          · exact O.elim
        · exact O.elim
      · exact O.elim
    · exact O.elim
  · exact O.elim
end
end FW

end

section
set_option Elab.async false
set_option linter.all false
/-! Fw10: statements. -/
namespace FW
open PySem PySem.Spec PyProof.Rows L2
variable [Tb]
/-- what is wanted of a statement's outcome -/
def kS (mg : Mg) (D : Ends) (A' : As) (B' : Fb) (H' : Hp) (q : Flow × Rho) : Prop := ∀ σ', SloR mg A' B' H' q.2 σ' → match q.1 with
  | .next => D.nx σ' H'
  | .brk => D.bk σ' H'
  | .cont => D.ct σ' H'
  | .ret p => ∀ v, Rep mg A' B' H' p v → D.rt v H'
def OutS (mg : Mg) (W : WX) (D : Ends) (A : As) (B : Fb) (H : Hp) (r : R (Flow × Rho)) : Prop := match r with
  | .ok q s' => ∀ A' B' H', Ext A B H A' B' H' → StoR mg A' B' H' s' → kS mg D A' B' H' q
  | .exn x s' => ∀ A' B' H', Ext A B H A' B' H' → StoR mg A' B' H' s' → ∀ cls d, ExR mg A' B' H' x cls d → ∀ σ', W cls d σ' H'
  | .bad => False
def tS (mg : Mg) (W : WX) (f : Rho → M (Flow × Rho)) : TS := fun D σ H => ∃ A B ρ s, StoR mg A B H s ∧ SloR mg A B H ρ σ ∧ OutS mg W D A B H (f ρ s)
abbrev VS (X : Cx) (W : WX) (st : Stmt) (f : Rho → M (Flow × Rho)) : Prop := PS X st (tS X.mg W f)
abbrev VSs (X : Cx) (W : WX) (sts : List Stmt) (f : Rho → M (Flow × Rho)) : Prop := PSs X sts (tS X.mg W f)
theorem _root_.L2.PS.weak {X : Cx} {st : Stmt} {t u : TS} (h : PS X st t) (i : ∀ D σ H, u D σ H → t D σ H) : PS X st u := ⟨fun pins s σ H D I w => h.run pins s σ H D I (i D σ H w)⟩
theorem _root_.L2.PSs.weak {X : Cx} {st : List Stmt} {t u : TS} (h : PSs X st t) (i : ∀ D σ H, u D σ H → t D σ H) : PSs X st u := ⟨fun pins s σ H D I w => h.run pins s σ H D I (i D σ H w)⟩
section
variable {mg : Mg} {W : WX} {D : Ends} {A A' : As} {B B' : Fb} {H H' : Hp} {α : Type}
theorem OutS.ext {r : R (Flow × Rho)} (h : OutS mg W D A B H r) (x : Ext A B H A' B' H') : OutS mg W D A' B' H' r := by
  cases r with
  | ok a s' => exact fun A2 B2 H2 x2 R => h A2 B2 H2 (x.trans x2) R
  | exn e s' => exact fun A2 B2 H2 x2 R => h A2 B2 H2 (x.trans x2) R
  | bad => exact h
/-- an expression's part of a statement -/
theorem OutS.bnd {σ : L2.St} {m : M α} {g : α → M (Flow × Rho)} {s : Sto} (h : OutS mg W D A B H (FW.bnd m g s)) : Out mg W σ A B H (m s) fun A' B' H' s' a => OutS mg W D A' B' H' (g a s') := by
  cases e : m s with
  | ok a s' => rw [bnd_ok e] at h; exact fun A2 B2 H2 x2 R => h.ext x2
  | exn x s' => rw [bnd_exn e] at h; exact fun A2 B2 H2 x2 R cls d er => h A2 B2 H2 x2 R cls d er σ
  | bad => rw [bnd_bad e] at h; exact h
theorem OutS.ret {q : Flow × Rho} {s : Sto} (h : OutS mg W D A B H (FW.ret q s)) (R : StoR mg A B H s) : kS mg D A B H q := h A B H Ext.refl R
end
section
variable {mg : Mg} {A : As} {B : Fb} {H : Hp} {ρ : Rho} {σ : L2.St}
theorem SloR.set {p : P} {v : V} (L : SloR mg A B H ρ σ) (r : Rep mg A B H p v) (i : Nat) : SloR mg A B H (ρ.set i (some p)) (σ.set i (some v)) := by
  refine ⟨by rw [List.length_set, List.length_set]; exact L.len, fun j q h => ?_⟩
  by_cases e : i = j
  · subst e
    by_cases hl : i < ρ.length
    · rw [List.getElem?_set_self hl] at h
      cases h
      exact ⟨v, List.getElem?_set_self (by rw [← L.len]; exact hl), r⟩
    · rw [List.getElem?_eq_none (by rw [List.length_set]; omega)] at h
      cases h
  · rw [List.getElem?_set_ne e] at h
    obtain ⟨w, h1, h2⟩ := L.at_ j q h
    exact ⟨w, by rw [List.getElem?_set_ne e]; exact h1, h2⟩
mutual
def slotsT : T → List Nat
  | .name i => [i]
  | .tup ts => slotsTs ts
def slotsTs : List T → List Nat
  | [] => []
  | t :: ts => slotsT t ++ slotsTs ts
end
/-- only these slots have changed -/
def Upd (is : List Nat) (σ σ' : L2.St) : Prop := σ'.length = σ.length ∧ ∀ j, j ∉ is → σ'[j]? = σ[j]?
/-- a target takes a value: the slots that come -/
def tG (mg : Mg) (T : T) : TG := fun v σ H Q => ∃ A B ρ s p ρ', StoR mg A B H s ∧ SloR mg A B H ρ σ ∧ Rep mg A B H p v ∧ asgT T p ρ = some ρ' ∧ ∀ σ', SloR mg A B H ρ' σ' → Upd (slotsT T) σ σ' → Q σ' H
def tGs (mg : Mg) (Ts : List T) : TGs := fun vs σ H Q => ∃ A B ρ s ps ρ', StoR mg A B H s ∧ SloR mg A B H ρ σ ∧ Reps mg A B H ps vs ∧ asgTs Ts ps ρ = some ρ' ∧ ∀ σ', SloR mg A B H ρ' σ' → Upd (slotsTs Ts) σ σ' → Q σ' H
end
theorem _root_.L2.PG.weak {X : Cx} {tg : Expr} {t u : TG} (h : PG X tg t) (i : ∀ v σ H Q, u v σ H Q → t v σ H Q) : PG X tg u := ⟨fun pins s σ H v w Q I r q => h.run pins s σ H v w Q I r (i v σ H Q q)⟩
theorem _root_.L2.PGs.weak {X : Cx} {tg : List Expr} {t u : TGs} (h : PGs X tg t) (i : ∀ v σ H Q, u v σ H Q → t v σ H Q) : PGs X tg u := ⟨fun pins s σ H v w Q I r q => h.run pins s σ H v w Q I r (i v σ H Q q)⟩
section
variable {X : Cx} {pos : Pos}
theorem vg_name {i : Nat} {x : Str} (hN : X.N.Nodup) (hi : X.N[i]? = some x) (hx : Loc X.env.scope x) (hf : X.fn x = true ∨ X.env.scope.names.lookup x = some .local) : PG X (.Name x pos) (tG X.mg (.name i)) :=
  (pg_name hN hi hx hf).weak fun v σ H Q h => by
    obtain ⟨A, B, ρ, s, p, ρ', S, L, r, e, q⟩ := h
    have e' : ρ.set i (some p) = ρ' := Option.some.inj e
    exact q _ (e' ▸ L.set r i) ⟨List.length_set, fun j hj => List.getElem?_set_ne (fun z => hj (by rw [z]; exact List.mem_singleton.mpr rfl))⟩
theorem vgs_nil : PGs X [] (tGs X.mg []) := pgs_nil.weak fun vs σ H Q h => by
  obtain ⟨A, B, ρ, s, ps, ρ', S, L, r, e, q⟩ := h
  cases ps with
  | nil =>
    simp only [Reps] at r
    have e' : ρ = ρ' := Option.some.inj e
    exact ⟨r, q σ (e' ▸ L) ⟨rfl, fun _ _ => rfl⟩⟩
  | cons p ps => cases e
theorem vgs_cons {tg : Expr} {tgs : List Expr} {T : T} {Ts : List FW.T} (h1 : PG X tg (tG X.mg T)) (h2 : PGs X tgs (tGs X.mg Ts)) (hs : (assignEach (tg :: tgs) X.env).map (·.2) = assign tg X.env :: (assignEach tgs X.env).map (·.2)) :
    PGs X (tg :: tgs) (tGs X.mg (T :: Ts)) := (pgs_cons h1 h2 hs).weak fun vs σ H Q h => by
  obtain ⟨A, B, ρ, s, ps, ρ', S, L, r, e, q⟩ := h
  cases ps with
  | nil => cases e
  | cons p ps =>
    simp only [Reps] at r
    obtain ⟨v, w, ev, r1, r2⟩ := r
    unfold asgTs at e
    cases e1 : asgT T p ρ with
    | none => rw [e1] at e; cases e
    | some ρ1 =>
      rw [e1] at e
      refine ⟨v, w, ev, A, B, ρ, s, p, ρ1, S, L, r1, e1, fun σ1 L1 u1 => ⟨A, B, ρ1, s, ps, ρ', S, L1, r2, e, fun σ2 L2 u2 => q σ2 L2 ⟨u2.1.trans u1.1, fun j hj => ?_⟩⟩⟩
      have hj' : j ∉ slotsT T ++ slotsTs Ts := hj
      rw [List.mem_append, not_or] at hj'
      exact (u2.2 j hj'.2).trans (u1.2 j hj'.1)
theorem asgTs_len : ∀ {Ts : List FW.T} {ps : List P} {ρ ρ' : Rho}, asgTs Ts ps ρ = some ρ' → ps.length = Ts.length
  | [], [], _, _, _ => rfl
  | [], _ :: _, _, _, h => by cases h
  | _ :: _, [], _, _, h => by cases h
  | t :: ts, p :: ps, ρ, ρ', h => by
    unfold asgTs at h
    cases e1 : asgT t p ρ with
    | none => rw [e1] at h; cases h
    | some ρ1 => rw [e1] at h; rw [List.length_cons, List.length_cons, asgTs_len h]
theorem vg_tup {tgs : List Expr} {k : Nat} {Ts : List FW.T} (hc : X.calm = true) (h : PGs X tgs (tGs X.mg Ts)) (hn : (assignEach tgs X.env).length = Ts.length) (hst : (assignEach tgs X.env).findIdx? (·.1) = none) :
    PG X (.Tuple tgs k pos) (tG X.mg (.tup Ts)) := (pg_tup (n := Ts.length) hc h hn hst).weak fun v σ H Q h => by
  obtain ⟨A, B, ρ, s, p, ρ', S, L, r, e, q⟩ := h
  cases p with
  | tup ps =>
    obtain ⟨a, vs, e1, h1, R1⟩ := rep_tup r
    have e' : asgTs Ts ps ρ = some ρ' := e
    exact ⟨a, vs, e1, SqT.of h1, by rw [reps_len R1]; exact asgTs_len e', A, B, ρ, s, ps, ρ', S, L, R1, e', q⟩
  | _ => cases e
end
/-! ### statements -/
section
variable {X : Cx} {W : WX} {pos : Pos} {e o i : Expr} {es : List Expr} {fe fo fi : Rho → M P} {st : Stmt} {rest : List Stmt} {f g : Rho → M (Flow × Rho)}
theorem vss_nil : VSs X W [] (fun ρ => ret (.next, ρ)) := pss_nil.weak fun D σ H h => by
  obtain ⟨A, B, ρ, s, S, L, O⟩ := h
  exact O.ret S σ L
def seqM (f g : Rho → M (Flow × Rho)) : Rho → M (Flow × Rho) := fun ρ => bnd (f ρ) fun q => match q.1 with
  | .next => g q.2
  | _ => ret q
theorem vss_cons (h1 : VS X W st f) (h2 : VSs X W rest g) : VSs X W (st :: rest) (seqM f g) := (pss_cons h1 h2).weak fun D σ H h => by
  obtain ⟨A, B, ρ, s, S, L, O⟩ := h
  refine ⟨A, B, ρ, s, S, L, ?_⟩
  have O : OutS X.mg W D A B H (bnd (f ρ) (fun q => match q.1 with | .next => g q.2 | _ => ret q) s) := O
  cases e : f ρ s with
  | bad => rw [bnd_bad e] at O; exact O
  | exn x s' => rw [bnd_exn e] at O; exact O
  | ok q s' =>
    rw [bnd_ok e] at O
    obtain ⟨fl, ρ'⟩ := q
    cases fl with
    | next => exact fun A2 B2 H2 x2 S2 σ' L2 => ⟨A2, B2, ρ', s', S2, L2, O.ext x2⟩
    | ret p => exact fun A2 B2 H2 x2 S2 => O A2 B2 H2 x2 S2
    | brk => exact fun A2 B2 H2 x2 S2 => O A2 B2 H2 x2 S2
    | cont => exact fun A2 B2 H2 x2 S2 => O A2 B2 H2 x2 S2
theorem vs_pass : VS X W (.Pass pos) (fun ρ => ret (.next, ρ)) := ps_pass.weak fun D σ H h => by
  obtain ⟨A, B, ρ, s, S, L, O⟩ := h
  exact O.ret S σ L
theorem vs_brk : VS X W (.Break pos) (fun ρ => ret (.brk, ρ)) := ps_break.weak fun D σ H h => by
  obtain ⟨A, B, ρ, s, S, L, O⟩ := h
  exact O.ret S σ L
theorem vs_cont : VS X W (.Continue pos) (fun ρ => ret (.cont, ρ)) := ps_continue.weak fun D σ H h => by
  obtain ⟨A, B, ρ, s, S, L, O⟩ := h
  exact O.ret S σ L
theorem vs_expr (he : VE X W e fe) (hs : swapsWith e none pos.line X.env = pure false) : VS X W (.Expr e pos) (fun ρ => bnd (fe ρ) fun _ => ret (.next, ρ)) := (ps_expr he hs).weak fun D σ H h => by
  obtain ⟨A, B, ρ, s, S, L, O⟩ := h
  exact ⟨A, B, ρ, s, S, L, O.bnd.imp fun A1 B1 H1 s1 p x1 S1 O1 v r => O1.ret S1 σ (L.mono x1 S.own)⟩
theorem vs_ret (he : VE X W e fe) : VS X W (.Return (some e) pos) (fun ρ => bnd (fe ρ) fun p => ret (.ret p, ρ)) := (ps_ret he).weak fun D σ H h => by
  obtain ⟨A, B, ρ, s, S, L, O⟩ := h
  exact ⟨A, B, ρ, s, S, L, O.bnd.imp fun A1 B1 H1 s1 p x1 S1 O1 v r => O1.ret S1 σ (L.mono x1 S.own) v r⟩
theorem vs_retN : VS X W (.Return none pos) (fun ρ => ret (.ret .non, ρ)) := ps_retN.weak fun D σ H h => by
  obtain ⟨A, B, ρ, s, S, L, O⟩ := h
  exact O.ret S σ L .non (by simp only [Rep])
theorem vs_if {a b : List Stmt} (hc : VT X W e (tst fe)) (ha : VSs X W a f) (hb : VSs X W b g) : VS X W (.If e a b pos) (fun ρ => bnd (fe ρ) fun p => bnd (truthM p) fun c => if c then f ρ else g ρ) := (ps_if hc ha hb).weak fun D σ H h => by
  obtain ⟨A, B, ρ, s, S, L, O⟩ := h
  refine ⟨A, B, ρ, s, S, L, ?_⟩
  have O' : OutS X.mg W D A B H (bnd (tst fe ρ) (fun c => if c then f ρ else g ρ) s) := by unfold tst; rw [bnd_assoc]; exact O
  refine O'.bnd.imp fun A1 B1 H1 s1 c x1 S1 O1 => ?_
  cases c with
  | true => exact ⟨A1, B1, ρ, s1, S1, L.mono x1 S.own, O1⟩
  | false => exact ⟨A1, B1, ρ, s1, S1, L.mono x1 S.own, O1⟩
/-- target = value -/
theorem asg_read {T : FW.T} {D : Ends} {σ : L2.St} {H : Hp} (h : tS X.mg W (fun ρ => bnd (fe ρ) fun p => bnd (ofO (asgT T p ρ)) fun ρ' => ret (.next, ρ')) D σ H) :
    tE X.mg W fe σ H fun x H1 => tG X.mg T x σ H1 D.nx := by
  obtain ⟨A, B, ρ, s, S, L, O⟩ := h
  refine ⟨A, B, ρ, s, S, L, O.bnd.imp fun A1 B1 H1 s1 p x1 S1 O1 v r => ?_⟩
  cases e : asgT T p ρ with
  | none => rw [e] at O1; exact O1.elim
  | some ρ' =>
    rw [e] at O1
    exact ⟨A1, B1, ρ, s1, p, ρ', S1, L.mono x1 S.own, r, e, fun σ' L' _ => O1.ret S1 σ' L'⟩
theorem vs_asg {tg : Expr} {T : FW.T} (he : VE X W e fe) (hg : PG X tg (tG X.mg T)) (hs : swapsWithSole [tg] e pos.line X.env = pure false) (hw : swappedStores [tg] e X.env = pure none)
    (h1 : (assignEach [tg] X.env).map (·.2) = [assign tg X.env]) : VS X W (.Assign [tg] e pos) (fun ρ => bnd (fe ρ) fun p => bnd (ofO (asgT T p ρ)) fun ρ' => ret (.next, ρ')) :=
  (ps_asg he hg hs hw h1).weak fun D σ H h => asg_read h
/-- o[i] = e -/
def rSet (mg : Mg) (g : P → P → P → M Unit) : TSet := fun x y z H Q => ∃ W σ A B s p q r, StoR mg A B H s ∧ Rep mg A B H p x ∧ Rep mg A B H q y ∧ Rep mg A B H r z ∧ Out mg W σ A B H (g p q r s) fun _ _ H' _ _ => Q H'
theorem setD_out {mg : Mg} {W : WX} {σ : L2.St} {A : As} {B : Fb} {H : Hp} {s : Sto} {p : P} {v : V} {a : Addr} {o : Ob} {u : HO} {Q : Hp → Prop} (S : StoR mg A B H s) (rp : Rep mg A B H p v) (ev : v = .ref a) (hni : ∀ c fs, o ≠ .ins c fs)
    (hu : Ext A B H A B (upd H a u) → ObR mg A B (upd H a u) o a) (O : Out mg W σ A B H (setOb p o s) fun _ _ H' _ _ => Q H') : Q (upd H a u) := by
  have O' : Out mg W σ A B H (bnd (setOb p o) (fun _ => ret ()) s) fun _ _ H' _ _ => Q H' := by
    cases e : setOb p o s with
    | bad => rw [e] at O; exact O.elim
    | exn x s' => rw [bnd_exn e]; rw [e] at O; exact O
    | ok q s' => rw [bnd_ok e]; rw [e] at O; exact O
  obtain ⟨s', x, S', O2⟩ := setOb_out S rp ev hni hu O'
  exact O2.ret S'
theorem repK_put {mg : Mg} {A : As} {B : Fb} {H : Hp} {kvs : List (KeyP × P)} {ks : List (Key × V)} {j : Key} {p : P} {v : V} (h : RepK mg A B H kvs ks) (r : Rep mg A B H p v) : RepK mg A B H (put kvs (.k j) p) (putK ks j v) := by
  have any : ∀ {kvs : List (KeyP × P)} {ks : List (Key × V)}, RepK mg A B H kvs ks → (kvs.any fun kv => decide (kv.1 = .k j)) = ks.any fun kv => decide (kv.1 = j) := by
    intro kvs
    induction kvs with
    | nil => intro ks h; simp only [RepK] at h; rw [h]; rfl
    | cons q t ih =>
      intro ks h
      obtain ⟨kk, w⟩ := q
      simp only [RepK] at h
      obtain ⟨i, x, t', e, ek, _, h2⟩ := h
      subst ek; subst e
      rw [List.any_cons, List.any_cons, ih h2]
      congr 1
      by_cases e : i = j <;> simp [e]
  unfold put putK
  rw [any h]
  by_cases c : (ks.any fun kv => decide (kv.1 = j)) = true
  · rw [if_pos c, if_pos c]
    clear c any
    induction kvs generalizing ks with
    | nil => simp only [RepK] at h; rw [h]; simp [RepK]
    | cons q t ih =>
      obtain ⟨kk, w⟩ := q
      simp only [RepK] at h
      obtain ⟨i, x, t', e, ek, h1, h2⟩ := h
      subst ek; subst e
      rw [List.map_cons, List.map_cons]
      by_cases e : i = j
      · subst e
        simp only [if_pos, RepK]
        exact ⟨i, v, _, rfl, rfl, r, ih h2⟩
      · have e' : ¬ KeyP.k i = KeyP.k j := by simpa using e
        rw [if_neg e', if_neg e]
        simp only [RepK]
        exact ⟨i, x, _, rfl, rfl, h1, ih h2⟩
  · rw [if_neg c, if_neg c]
    clear c any
    induction kvs generalizing ks with
    | nil => simp only [RepK] at h; rw [h]; simp only [List.nil_append, RepK]; exact ⟨j, v, [], rfl, rfl, r, rfl⟩
    | cons q t ih =>
      obtain ⟨kk, w⟩ := q
      simp only [RepK] at h
      obtain ⟨i, x, t', e, ek, h1, h2⟩ := h
      subst ek; subst e
      rw [List.cons_append, List.cons_append]
      simp only [RepK]
      exact ⟨i, x, _, rfl, rfl, h1, ih h2⟩
theorem repT_put {mg : Mg} {A : As} {B : Fb} {H : Hp} {kvs : List (KeyP × P)} {ks : List (List Key × V)} {j : List Key} {p : P} {v : V} (h : RepT mg A B H kvs ks) (r : Rep mg A B H p v) : RepT mg A B H (put kvs (.t j) p) (putK ks j v) := by
  have any : ∀ {kvs : List (KeyP × P)} {ks : List (List Key × V)}, RepT mg A B H kvs ks → (kvs.any fun kv => decide (kv.1 = .t j)) = ks.any fun kv => decide (kv.1 = j) := by
    intro kvs
    induction kvs with
    | nil => intro ks h; simp only [RepT] at h; rw [h]; rfl
    | cons q t ih =>
      intro ks h
      obtain ⟨kk, w⟩ := q
      simp only [RepT] at h
      obtain ⟨i, x, t', e, ek, _, h2⟩ := h
      subst ek; subst e
      rw [List.any_cons, List.any_cons, ih h2]
      congr 1
      by_cases e : i = j <;> simp [e]
  unfold put putK
  rw [any h]
  by_cases c : (ks.any fun kv => decide (kv.1 = j)) = true
  · rw [if_pos c, if_pos c]
    clear c any
    induction kvs generalizing ks with
    | nil => simp only [RepT] at h; rw [h]; simp [RepT]
    | cons q t ih =>
      obtain ⟨kk, w⟩ := q
      simp only [RepT] at h
      obtain ⟨i, x, t', e, ek, h1, h2⟩ := h
      subst ek; subst e
      rw [List.map_cons, List.map_cons]
      by_cases e : i = j
      · subst e
        simp only [if_pos, RepT]
        exact ⟨i, v, _, rfl, rfl, r, ih h2⟩
      · have e' : ¬ KeyP.t i = KeyP.t j := by simpa using e
        rw [if_neg e', if_neg e]
        simp only [RepT]
        exact ⟨i, x, _, rfl, rfl, h1, ih h2⟩
  · rw [if_neg c, if_neg c]
    clear c any
    induction kvs generalizing ks with
    | nil => simp only [RepT] at h; rw [h]; simp only [List.nil_append, RepT]; exact ⟨j, v, [], rfl, rfl, r, rfl⟩
    | cons q t ih =>
      obtain ⟨kk, w⟩ := q
      simp only [RepT] at h
      obtain ⟨i, x, t', e, ek, h1, h2⟩ := h
      subst ek; subst e
      rw [List.cons_append, List.cons_append]
      simp only [RepT]
      exact ⟨i, x, _, rfl, rfl, h1, ih h2⟩
theorem repK_len {mg : Mg} {A : As} {B : Fb} {H : Hp} : ∀ {kvs : List (KeyP × P)} {ks : List (Key × V)}, RepK mg A B H kvs ks → ks.length = kvs.length
  | [], _, h => by simp only [RepK] at h; rw [h]; rfl
  | (k, p) :: r, _, h => by
    simp only [RepK] at h
    obtain ⟨j, v, w, e, _, _, h4⟩ := h
    rw [e, List.length_cons, List.length_cons, repK_len h4]
theorem repT_len {mg : Mg} {A : As} {B : Fb} {H : Hp} : ∀ {kvs : List (KeyP × P)} {ks : List (List Key × V)}, RepT mg A B H kvs ks → ks.length = kvs.length
  | [], _, h => by simp only [RepT] at h; rw [h]; rfl
  | (k, p) :: r, _, h => by
    simp only [RepT] at h
    obtain ⟨j, v, w, e, _, _, h4⟩ := h
    rw [e, List.length_cons, List.length_cons, repT_len h4]
/-- a dict that may be written: its reference's object -/
theorem dct_obj {mg : Mg} {W : WX} {σ : L2.St} {A : As} {B : Fb} {H : Hp} {s : Sto} {p : P} {x : V} {t : Bool} {kvs : List (KeyP × P)} {o : Ob} {k : As → Fb → Hp → Sto → Unit → Prop} (S : StoR mg A B H s) (rp : Rep mg A B H p x) (hd : dctOf s p = some (t, kvs)) (O : Out mg W σ A B H (setOb p o s) k) :
    ∃ a, x = .ref a ∧ ObR mg A B H (.dct t kvs) a := by
  cases p with
  | lob n =>
    simp only [Rep] at rp
    obtain ⟨a, e, h1⟩ := rp
    have hd' : (match s.l[n]? with | some (.dct t xs) => some (t, xs) | _ => none) = some (t, kvs) := hd
    cases e2 : s.l[n]? with
    | none => rw [e2] at hd'; cases hd'
    | some o =>
      rw [e2] at hd'
      cases o with
      | dct u ys =>
        have e3 : (u, ys) = (t, kvs) := Option.some.inj hd'
        cases e3
        exact ⟨a, e, S.ol n a _ h1 e2⟩
      | _ => cases hd'
  | gob n =>
    simp only [Rep] at rp
    obtain ⟨a, e, h1⟩ := rp
    have hd' : (match s.g[n]? with | some (.dct t xs) => some (t, xs) | _ => none) = some (t, kvs) := hd
    cases e2 : s.g[n]? with
    | none => rw [e2] at hd'; cases hd'
    | some o =>
      rw [e2] at hd'
      cases o with
      | dct u ys =>
        have e3 : (u, ys) = (t, kvs) := Option.some.inj hd'
        cases e3
        exact ⟨a, e, S.og n a _ h1 e2⟩
      | _ => cases hd'
  | _ => exact O.elim
theorem set_P (hu : X.A.units + 1 < cLine) : PSet X (rSet X.mg pSet) := by
  intro pins s σ H x y z v w u Q I rx ry rz h
  obtain ⟨W, σ', A, B, st, p, q, r, S, rp, rq, rr, O⟩ := h
  unfold pSet at O
  split at O
  · rename_i xs hl
    split at O
    · split at O
      · rename_i j hj
        obtain ⟨a, vs, e1, h1, R1⟩ := rep_list S rp hl
        simp only [Rep] at rq
        exact set_list pins s σ H x y z v w u Q I rx ry rz ⟨a, vs, _, j, e1, rq, h1, by rw [reps_len R1]; exact hj,
          setD_out (o := .lst (xs.set j r)) (u := .lst (vs.set j z)) S rp e1 (fun _ _ z => nomatch z) (fun xx => ⟨_, upd_same, (reps_set R1 rr j).mono xx S.own⟩) O⟩
      · exact O.elim
    · exact O.elim
  · split at O
    · rename_i t kvs kk hd hk
      split at O
      · rename_i hc
        simp only [Bool.and_eq_true, decide_eq_true_eq] at hc
        obtain ⟨a, e1, ob⟩ := dct_obj S rp hd O
        subst e1
        cases rx
        rcases keyOf_rep hk rq with ⟨j, ej, ey⟩ | ⟨j, b, ej, ey, hb⟩
        · subst ej
          cases t with
          | true => exact absurd hc.2 (fun z => nomatch (show (false == true) = true from z))
          | false =>
            obtain ⟨ks, h1, R1⟩ := ob
            have hlen : ks.length < sizeLine := by rw [repK_len R1, sizeLine_line]; exact hc.1
            exact d_setItem hu I (.inl ⟨ks, j, h1, ey, hlen, rfl⟩) ry rz fun s' I' => ⟨_, I',
              setD_out (o := .dct false (put kvs (.k j) r)) (u := .dK (putK ks j z)) S rp rfl (fun _ _ z => nomatch z) (fun xx => ⟨_, upd_same, (repK_put R1 rr).mono xx S.own⟩) O⟩
        · subst ej
          cases t with
          | false => exact absurd hc.2 (fun z => nomatch (show (true == false) = true from z))
          | true =>
            obtain ⟨ks, h1, R1⟩ := ob
            have hlen : ks.length < sizeLine := by rw [repT_len R1, sizeLine_line]; exact hc.1
            exact d_setItem hu I (.inr ⟨ks, j, b, h1, ey, hb, hlen, rfl⟩) ry rz fun s' I' => ⟨_, I',
              setD_out (o := .dct true (put kvs (.t j) r)) (u := .dT (putK ks j z)) S rp rfl (fun _ _ z => nomatch z) (fun xx => ⟨_, upd_same, (repT_put R1 rr).mono xx S.own⟩) O⟩
      · exact O.elim
    · exact O.elim
theorem vs_asub {pos' : Pos} (hu : X.A.units + 1 < cLine) (he : VE X W e fe) (ho : VE X W o fo) (hi : VE X W i fi) (hs : swapsWithSole [.Subscript o i pos'] e pos.line X.env = pure false) (hw : swappedStores [.Subscript o i pos'] e X.env = pure none)
    (h1 : (assignEach [.Subscript o i pos'] X.env).map (·.2) = [assign (.Subscript o i pos') X.env])
    (ha : ∀ v, assign (.Subscript o i pos') X.env v = (do
      let ov ← holding [v] (eval o X.env)
      let iv ← holding [v, ov] (eval i X.env)
      standAt pos'
      holding [v, ov, iv] (setItem ov iv v)
      release [v, ov, iv] [])) :
    VS X W (.Assign [.Subscript o i pos'] e pos) (fun ρ => bnd (fe ρ) fun p => bnd (fo ρ) fun q => bnd (fi ρ) fun k => bnd (pSet q k p) fun _ => ret (.next, ρ)) :=
  (ps_asg he (pg_sub ho hi (set_P hu) ha) hs hw h1).weak fun D σ H h => by
    obtain ⟨A, B, ρ, s, S, L, O⟩ := h
    refine ⟨A, B, ρ, s, S, L, O.bnd.imp fun A1 B1 H1 s1 p x1 S1 O1 v r => ⟨A1, B1, ρ, s1, S1, L.mono x1 S.own, O1.bnd.imp fun A2 B2 H2 s2 q x2 S2 O2 w r2 =>
      ⟨A2, B2, ρ, s2, S2, (L.mono x1 S.own).mono x2 S1.own, O2.bnd.imp fun A3 B3 H3 s3 k x3 S3 O3 u r3 => ?_⟩⟩⟩
    refine ⟨W, σ, A3, B3, s3, q, k, p, S3, r2.mono x3 S2.own, r3, (r.mono x2 S1.own).mono x3 S2.own, O3.bnd.imp fun A4 B4 H4 s4 _ x4 S4 O4 => ?_⟩
    exact O4.ret S4 σ (((L.mono x1 S.own).mono x2 S1.own).mono x3 S2.own |>.mono x4 S3.own)
end
end FW

end

section
set_option Elab.async false
set_option linter.all false
/-! Fw11: loops, comprehensions. -/
namespace FW
open PySem PySem.Spec PyProof.Rows L2
variable [Tb]
/-- an iterator of the layer walks these values -/
def Yields (mg : Mg) (J : It) (i : Nat) (A : As) (B : Fb) (H : Hp) (s : Sto) (p : P) : Prop :=
  J.go i H ∧ ∀ x H', J.yld i H x H' → Ext A B H A B H' ∧ StoR mg A B H' s ∧ Rep mg A B H' p x
def WalkV (mg : Mg) (A : As) (B : Fb) (H : Hp) (J : It) (xs : List P) : Prop := ∀ A2 B2 H2 s2, Ext A B H A2 B2 H2 → StoR mg A2 B2 H2 s2 →
  (∀ i p, xs[i]? = some p → Yields mg J i A2 B2 H2 s2 p) ∧ J.stop xs.length H2
def WalkR (mg : Mg) (A : As) (B : Fb) (H : Hp) (J : It) (q : P) (mk : Nat → P → P) : Prop := ∀ A2 B2 H2 s2 ys, Ext A B H A2 B2 H2 → StoR mg A2 B2 H2 s2 → listOf s2 q = some ys →
  (∀ i p, ys[i]? = some p → Yields mg J i A2 B2 H2 s2 (mk i p)) ∧ ∀ i, ys[i]? = none → J.stop i H2
def ItR (mg : Mg) (A : As) (B : Fb) (H : Hp) (J : It) : Iter → Prop
  | .vals xs => WalkV mg A B H J xs
  | .ref q mk => WalkR mg A B H J q mk
def tI (mg : Mg) (W : WX) (f : Rho → M Iter) : TI := fun σ H R => ∃ A B ρ s, StoR mg A B H s ∧ SloR mg A B H ρ σ ∧ Out mg W σ A B H (f ρ s) fun A' B' H' _ it => ∀ J, ItR mg A' B' H' J it → R J H'
abbrev VI (X : Cx) (W : WX) (tg iter : Expr) (f : Rho → M Iter) : Prop := PI X tg iter (tI X.mg W f)
theorem _root_.L2.PI.weak {X : Cx} {tg iter : Expr} {t u : TI} (h : PI X tg iter t) (i : ∀ σ H R, u σ H R → t σ H R) : PI X tg iter u := ⟨fun pins s σ H R I w => h.run pins s σ H R I (i σ H R w)⟩
section
variable {mg : Mg} {W : WX} {D : Ends} {A : As} {B : Fb} {H : Hp}
theorem Yields.ext {J : It} {i : Nat} {s : Sto} {p : P} (h : Yields mg J i A B H s p) : J.go i H := h.1
/-- a turn's body, then the rest -/
def goOn (rest : Rho → M (Flow × Rho)) (q : Flow × Rho) : M (Flow × Rho) := match q.1 with
  | .next => rest q.2
  | .cont => rest q.2
  | .brk => ret (.next, q.2)
  | .ret p => ret (.ret p, q.2)
/-- what is left of a loop, and where its ends lead -/
theorem body_ends {f : Rho → M (Flow × Rho)} {rest : Rho → M (Flow × Rho)} {ρ : Rho} {s : Sto} {N : L2.St → Hp → Prop} (O : OutS mg W D A B H (bnd (f ρ) (goOn rest) s))
    (hN : ∀ A' B' H' s' ρ' σ', Ext A B H A' B' H' → StoR mg A' B' H' s' → SloR mg A' B' H' ρ' σ' → OutS mg W D A' B' H' (rest ρ' s') → N σ' H') :
    OutS mg W { D with nx := N, ct := N, bk := D.nx } A B H (f ρ s) := by
  cases e : f ρ s with
  | bad => rw [bnd_bad e] at O; exact O
  | exn x s' => rw [bnd_exn e] at O; exact O
  | ok q s' =>
    rw [bnd_ok e] at O
    obtain ⟨fl, ρ'⟩ := q
    intro A2 B2 H2 x2 S2 σ' L2
    have O2 := OutS.ext O x2
    cases fl with
    | next => exact hN A2 B2 H2 s' ρ' σ' x2 S2 L2 O2
    | cont => exact hN A2 B2 H2 s' ρ' σ' x2 S2 L2 O2
    | brk => exact O2.ret S2 σ' L2
    | ret p => exact fun v r => O2.ret S2 σ' L2 v r
theorem forVals_cons {step : P → Rho → M (Flow × Rho)} {x : P} {xs : List P} {ρ : Rho} : forVals step (x :: xs) ρ = bnd (step x ρ) (goOn (forVals step xs)) := by
  show bnd (step x ρ) _ = bnd (step x ρ) _
  refine congrArg (bnd (step x ρ)) (funext fun q => ?_)
  obtain ⟨f, r⟩ := q
  cases f <;> rfl
theorem forRef_succ {step : P → Rho → M (Flow × Rho)} {q : P} {mk : Nat → P → P} {n i : Nat} {ρ : Rho} {s : Sto} : forRef q mk step (n + 1) i ρ s = (match listOf s q with
    | none => .bad
    | some xs => match xs[i]? with
      | none => .ok (.next, ρ) s
      | some x => bnd (step (mk i x) ρ) (goOn (forRef q mk step n (i + 1))) s) := by
  show (match listOf s q with | none => _ | some xs => _) = _
  cases listOf s q with
  | none => rfl
  | some xs =>
    dsimp only
    cases xs[i]? with
    | none => rfl
    | some x =>
      dsimp only
      refine congrArg (fun g => bnd (step (mk i x) ρ) g s) (funext fun r => ?_)
      obtain ⟨f, r⟩ := r
      cases f <;> rfl
end
section
variable {X : Cx} {W : WX} {pos : Pos} {e tg iter : Expr} {body : List Stmt} {fe : Rho → M P} {fi : Rho → M Iter} {fb : Rho → M (Flow × Rho)} {T : FW.T}
def stepM (T : FW.T) (fb : Rho → M (Flow × Rho)) : P → Rho → M (Flow × Rho) := fun x ρ' => bnd (ofO (asgT T x ρ')) fun ρ2 => fb ρ2
theorem step_some {mg : Mg} {D : Ends} {A : As} {B : Fb} {H : Hp} {x : P} {ρ : Rho} {s : Sto} {g : Flow × Rho → M (Flow × Rho)} (O : OutS mg W D A B H (bnd (stepM T fb x ρ) g s)) : ∃ ρ2, asgT T x ρ = some ρ2 ∧ OutS mg W D A B H (bnd (fb ρ2) g s) := by
  unfold stepM at O
  rw [bnd_assoc] at O
  cases e : asgT T x ρ with
  | none => rw [e] at O; exact O.elim
  | some ρ2 => rw [e] at O; exact ⟨ρ2, rfl, O⟩
theorem for_read {D : Ends} {σ : L2.St} {H : Hp} (h : tS X.mg W (fun ρ => bnd (fi ρ) fun it => forIter it (stepM T fb) ρ) D σ H) : tFor (tI X.mg W fi) (tG X.mg T) (tS X.mg W fb) D σ H := by
  obtain ⟨A, B, ρ, s, S, L, O⟩ := h
  refine ⟨A, B, ρ, s, S, L, O.bnd.imp fun A1 B1 H1 s1 it x1 S1 O1 J hJ => ?_⟩
  cases it with
  | vals xs =>
    have hJ : WalkV X.mg A1 B1 H1 J xs := hJ
    have O1 : OutS X.mg W D A1 B1 H1 (forVals (stepM T fb) xs ρ s1) := O1
    refine ⟨fun i m σ H => m = xs.length - i ∧ i ≤ xs.length ∧ ∃ A B ρ s, Ext A1 B1 H1 A B H ∧ StoR X.mg A B H s ∧ SloR X.mg A B H ρ σ ∧ OutS X.mg W D A B H (forVals (stepM T fb) (xs.drop i) ρ s),
      ⟨_, rfl, Nat.zero_le _, A1, B1, ρ, s1, Ext.refl, S1, L.mono x1 S.own, O1⟩, fun i m σ H ⟨em, hi, A2, B2, ρ2, s2, x2, S2, L2, O2⟩ => ?_⟩
    obtain ⟨hy, hst⟩ := hJ A2 B2 H s2 x2 S2
    by_cases hlt : i < xs.length
    · rw [List.drop_eq_getElem_cons hlt, forVals_cons] at O2
      obtain ⟨hgo, hyl⟩ := hy i xs[i] (List.getElem?_eq_getElem hlt)
      refine .inr ⟨hgo, fun σ' H' => ∃ A B ρ s, Ext A1 B1 H1 A B H' ∧ StoR X.mg A B H' s ∧ SloR X.mg A B H' ρ σ' ∧ OutS X.mg W D A B H' (forVals (stepM T fb) (xs.drop (i + 1)) ρ s),
        fun σ' H' hN => ⟨xs.length - (i + 1), by omega, rfl, hlt, hN⟩, fun x H' hx => ?_⟩
      obtain ⟨x3, S3, r3⟩ := hyl x H' hx
      obtain ⟨ρ3, e3, O3⟩ := step_some O2
      refine ⟨A2, B2, ρ2, s2, xs[i], ρ3, S3, L2.mono x3 S2.own, r3, e3, fun σ' L3 _ => ⟨A2, B2, ρ3, s2, S3, L3, ?_⟩⟩
      exact body_ends (OutS.ext O3 x3) fun A4 B4 H4 s4 ρ4 σ4 x4 S4 L4 O4 => ⟨A4, B4, ρ4, s4, x2.trans (x3.trans x4), S4, L4, O4⟩
    · have ei : i = xs.length := by omega
      subst ei
      rw [List.drop_length] at O2
      exact .inl ⟨hst, O2.ret S2 σ L2⟩
  | ref q mk =>
    have hJ : WalkR X.mg A1 B1 H1 J q mk := hJ
    have O1 : OutS X.mg W D A1 B1 H1 (forRef q mk (stepM T fb) FUEL 0 ρ s1) := O1
    refine ⟨fun i m σ H => ∃ A B ρ s, Ext A1 B1 H1 A B H ∧ StoR X.mg A B H s ∧ SloR X.mg A B H ρ σ ∧ OutS X.mg W D A B H (forRef q mk (stepM T fb) m i ρ s),
      ⟨FUEL, A1, B1, ρ, s1, Ext.refl, S1, L.mono x1 S.own, O1⟩, fun i m σ H ⟨A2, B2, ρ2, s2, x2, S2, L2, O2⟩ => ?_⟩
    cases m with
    | zero => exact O2.elim
    | succ m =>
      rw [forRef_succ] at O2
      cases e : listOf s2 q with
      | none => rw [e] at O2; exact O2.elim
      | some ys =>
        rw [e] at O2
        dsimp only at O2
        obtain ⟨hy, hst⟩ := hJ A2 B2 H s2 ys x2 S2 e
        cases e2 : ys[i]? with
        | none => rw [e2] at O2; exact .inl ⟨hst i e2, O2 _ _ _ Ext.refl S2 σ L2⟩
        | some p =>
          rw [e2] at O2
          dsimp only at O2
          obtain ⟨hgo, hyl⟩ := hy i p e2
          refine .inr ⟨hgo, fun σ' H' => ∃ A B ρ s, Ext A1 B1 H1 A B H' ∧ StoR X.mg A B H' s ∧ SloR X.mg A B H' ρ σ' ∧ OutS X.mg W D A B H' (forRef q mk (stepM T fb) m (i + 1) ρ s),
            fun σ' H' hN => ⟨m, by omega, hN⟩, fun x H' hx => ?_⟩
          obtain ⟨x3, S3, r3⟩ := hyl x H' hx
          obtain ⟨ρ3, e3, O3⟩ := step_some O2
          refine ⟨A2, B2, ρ2, s2, mk i p, ρ3, S3, L2.mono x3 S2.own, r3, e3, fun σ' L3 _ => ⟨A2, B2, ρ3, s2, S3, L3, ?_⟩⟩
          exact body_ends (OutS.ext O3 x3) fun A4 B4 H4 s4 ρ4 σ4 x4 S4 L4 O4 => ⟨A4, B4, ρ4, s4, x2.trans (x3.trans x4), S4, L4, O4⟩
theorem vs_for (hp : PassesOwn (model X.prog X.w) X.A X.env X.xe) (hc : X.calm = true) (hi : VI X W tg iter fi) (hg : PG X tg (tG X.mg T)) (hb : VSs X W body fb) (hs : ∀ x, foldedSetIterable iter X.env x = pure x) :
    VS X W (.For tg iter body [] pos) (fun ρ => bnd (fi ρ) fun it => forIter it (stepM T fb) ρ) := (ps_for hp hc hi hg hb hs).weak fun D σ H h => for_read h
theorem whileL_succ {c : Rho → M Bool} {b : Rho → M (Flow × Rho)} {n : Nat} {ρ : Rho} : whileL c b (n + 1) ρ = bnd (c ρ) fun k => if k then bnd (b ρ) (goOn (whileL c b n)) else ret (.next, ρ) := by
  refine congrArg (bnd (c ρ)) (funext fun k => ?_)
  cases k with
  | false => rfl
  | true =>
    refine congrArg (bnd (b ρ)) (funext fun q => ?_)
    obtain ⟨f, r⟩ := q
    cases f <;> rfl
theorem while_read {D : Ends} {σ : L2.St} {H : Hp} (h : tS X.mg W (fun ρ => whileL (tst fe) fb FUEL ρ) D σ H) : tWhile (tT X.mg W (tst fe)) (tS X.mg W fb) D σ H := by
  obtain ⟨A, B, ρ, s, S, L, O⟩ := h
  refine ⟨fun m σ H => ∃ A B ρ s, StoR X.mg A B H s ∧ SloR X.mg A B H ρ σ ∧ OutS X.mg W D A B H (whileL (tst fe) fb m ρ s), ⟨FUEL, A, B, ρ, s, S, L, O⟩, fun m σ H ⟨A2, B2, ρ2, s2, S2, L2, O2⟩ => ?_⟩
  cases m with
  | zero => exact O2.elim
  | succ m =>
    rw [whileL_succ] at O2
    refine ⟨A2, B2, ρ2, s2, S2, L2, O2.bnd.imp fun A3 B3 H3 s3 k x3 S3 O3 => ?_⟩
    cases k with
    | false => exact O3.ret S3 σ (L2.mono x3 S2.own)
    | true =>
      refine ⟨fun σ' H' => ∃ A B ρ s, StoR X.mg A B H' s ∧ SloR X.mg A B H' ρ σ' ∧ OutS X.mg W D A B H' (whileL (tst fe) fb m ρ s), fun σ' H' hN => ⟨m, by omega, hN⟩, ?_⟩
      exact ⟨A3, B3, ρ2, s3, S3, L2.mono x3 S2.own, body_ends (rest := whileL (tst fe) fb m) O3 fun A4 B4 H4 s4 ρ4 σ4 x4 S4 L4 O4 => ⟨A4, B4, ρ4, s4, S4, L4, O4⟩⟩
theorem vs_while (hp : PassesOwn (model X.prog X.w) X.A X.env X.xe) (hc : VT X W e (tst fe)) (hb : VSs X W body fb) : VS X W (.While e body [] pos) (fun ρ => whileL (tst fe) fb FUEL ρ) :=
  (ps_while hp hc hb).weak fun D σ H h => while_read h
end
end FW

end

section
set_option Elab.async false
set_option linter.all false
set_option maxRecDepth 100000
/-! Fw12: what is walked. -/
namespace PySem
namespace FWx
open PySem.AutoSeq1
end FWx
end PySem
namespace FW
open PySem PySem.Spec PyProof.Rows L2
variable [Tb]
section
variable {X : Cx} {tg : Expr} {pins : List (Addr × Obj)} {σ : L2.St} {H : Hp} {s : Shared} {E : Value → Shared → Prop} {R : It → Hp → Prop}
/-- iter(a list), iter(a tuple) -/
theorem it_list {a : Addr} {xs : List V} (I : Inv X pins σ H s) (h : SqL X.K H a xs) (q : R (Itl X.K a) H) : wpAny (model X.prog X.w) X.A (pyIter (.ref a)) (PIE X pins σ tg R) E s := by
  obtain ⟨its, rv, p, hz⟩ := I.list h
  have hf : ∀ b ∈ [s.heap.objs.size], FpOk X pins H b := by
    intro b hb
    have e := List.mem_singleton.mp hb
    rw [e]
    exact I.fpOk (Nat.le_refl _) (I.hok.fresh (Nat.le_refl _))
  have I2 := I.kept (t' := s.toks) (h' := s.heap.push { cls := .type "list_iterator", data := .fields #[.ref a, .int 0 0] }) fun b o e => Heap.get?_push_of_some _ e
  exact wpAny_pyIter_list p.isList ⟨_, [s.heap.objs.size], _, _, H, rfl, I2, turn_list a _, ⟨_, Heap.get?_push_size _ rfl, rfl, rfl⟩, hf, q⟩
theorem it_tup {a : Addr} {xs : List V} (I : Inv X pins σ H s) (h : SqT X.K H a xs) (q : R (Itt X.K a) H) : wpAny (model X.prog X.w) X.A (pyIter (.ref a)) (PIE X pins σ tg R) E s := by
  obtain ⟨its, rv, p, hz⟩ := I.tuple h
  have hf : ∀ b ∈ [s.heap.objs.size], FpOk X pins H b := by
    intro b hb
    have e := List.mem_singleton.mp hb
    rw [e]
    exact I.fpOk (Nat.le_refl _) (I.hok.fresh (Nat.le_refl _))
  have hp : s.heap.IsTuple a its.toArray := p
  have I2 := I.kept (t' := s.toks) (h' := s.heap.push { cls := .type "tuple_iterator", data := .fields #[.ref a, .int 0 0] }) fun b o e => Heap.get?_push_of_some _ e
  exact wpAny_pyIter_tuple hp ⟨_, [s.heap.objs.size], _, _, H, rfl, I2, turn_tuple a _, ⟨_, Heap.get?_push_size _ rfl, rfl, rfl⟩, hf, q⟩
theorem it_keys {d : Addr} {o : Obj} (I : Inv X pins σ H s) (h : (∃ kvs, H d = some (.frz o (.dK kvs)) ∧ R (Itk d o kvs) H) ∨ ∃ kvs, H d = some (.frz o (.dT kvs)) ∧ R (Itkt d o kvs) H) :
    wpAny (model X.prog X.w) X.A (pyIter (.ref d)) (PIE X pins σ tg R) E s := by
  rcases h with ⟨kvs, hd, q⟩ | ⟨kvs, hd, q⟩
  · obtain ⟨a1, a2, a3, es, ep, vs, a4, a5, a6, a7⟩ := I.frzK hd
    exact iter_keys a1 a2 a3 a4 (pi_one (tk := s.toks) I _ (turn_keys _ a4) ⟨_, Heap.get?_push_size _ rfl, rfl, by rw [a5] <;> rfl⟩ q)
  · obtain ⟨a1, a2, a3, es, ep, a4, a5, a6⟩ := I.frzT hd
    exact iter_keys a1 a2 a3 a4 (pi_one (tk := s.toks) I _ (turn_keysT _ a4) ⟨_, Heap.get?_push_size _ rfl, rfl, by rw [a5] <;> rfl⟩ q)
/-- what is walked, by the value -/
def iSeq (K : PySem.W.Frag) (tl : TE) : TI := fun σ H R => tl σ H fun x H1 => ∃ a, x = .ref a ∧ ((∃ xs, SqL K H1 a xs ∧ R (Itl K a) H1) ∨ (∃ xs, SqT K H1 a xs ∧ R (Itt K a) H1) ∨
  ∃ o, (∃ kvs, H1 a = some (.frz o (.dK kvs)) ∧ R (Itk a o kvs) H1) ∨ ∃ kvs, H1 a = some (.frz o (.dT kvs)) ∧ R (Itkt a o kvs) H1)
theorem pi_seq {l : Expr} {tl : TE} (hl : PE X l tl) : PI X tg l (iSeq X.K tl) := by
  refine ⟨fun pins s σ H R I h => thn (hl.run pins s σ H _ I h) ?_⟩
  rintro v s1 ⟨x, H1, I1, r1, a, e, q⟩
  subst e
  obtain rfl : v = Value.ref a := r1
  rcases q with ⟨xs, q1, q2⟩ | ⟨xs, q1, q2⟩ | ⟨o, q1⟩
  · exact it_list I1 q1 q2
  · exact it_tup I1 q1 q2
  · exact it_keys I1 q1
end
section
variable {X : Cx} {W : WX} {tg l a b : Expr} {fa fb : Rho → M P} {pos p : Pos}
theorem walkV_list {mg : Mg} {K : PySem.W.Frag} {A : As} {B : Fb} {H : Hp} {a : Addr} {vs : List V} {xs : List P} (ho : ∀ a, Own A a → B a) (hk : ∀ A2 B2 H2, Ext A B H A2 B2 H2 → SqL K H2 a vs) (R : Reps mg A B H xs vs) : WalkV mg A B H (Itl K a) xs := fun A2 B2 H2 s2 x S2 => by
  have h2 := hk A2 B2 H2 x
  have R2 := R.mono x ho
  refine ⟨fun i q hq => ?_, ⟨vs, h2, by rw [reps_len R2]; exact Nat.le_refl _⟩⟩
  obtain ⟨v, hv, rv⟩ := reps_get R2 hq
  refine ⟨⟨vs, v, h2, hv⟩, fun y H3 ⟨e, hy⟩ => ?_⟩
  subst e
  have e2 : v = y := Option.some.inj (hv.symm.trans (hy vs h2))
  exact ⟨Ext.refl, S2, e2 ▸ rv⟩
theorem walkV_tup {mg : Mg} {K : PySem.W.Frag} {A : As} {B : Fb} {H : Hp} {a : Addr} {vs : List V} {xs : List P} (ho : ∀ a, Own A a → B a) (hk : ∀ A2 B2 H2, Ext A B H A2 B2 H2 → SqT K H2 a vs) (R : Reps mg A B H xs vs) : WalkV mg A B H (Itt K a) xs := fun A2 B2 H2 s2 x S2 => by
  have h2 := hk A2 B2 H2 x
  have R2 := R.mono x ho
  refine ⟨fun i q hq => ?_, ⟨vs, h2, by rw [reps_len R2]; exact Nat.le_refl _⟩⟩
  obtain ⟨v, hv, rv⟩ := reps_get R2 hq
  refine ⟨⟨vs, v, h2, hv⟩, fun y H3 ⟨e, hy⟩ => ?_⟩
  subst e
  have e2 : v = y := Option.some.inj (hv.symm.trans (hy vs h2))
  exact ⟨Ext.refl, S2, e2 ▸ rv⟩
/-- the list of a reference -/
theorem ref_list {mg : Mg} {A : As} {B : Fb} {H : Hp} {s : Sto} {p : P} {v : V} {ys : List P} (S : StoR mg A B H s) (r : Rep mg A B H p v) (h : listOf s p = some ys) : ∃ a vs, v = .ref a ∧ H a = some (.lst vs) ∧ Reps mg A B H ys vs := rep_list S r h
theorem walkR_list {mg : Mg} {K : PySem.W.Frag} {A : As} {B : Fb} {H : Hp} {a : Addr} {q : P} (ho : ∀ a, Own A a → B a) (r : Rep mg A B H q (.ref a)) : WalkR mg A B H (Itl K a) q (fun _ x => x) := fun A2 B2 H2 s2 ys x S2 hl => by
  obtain ⟨a', vs, e, h2, R2⟩ := rep_list S2 (r.mono x ho) hl
  cases e
  refine ⟨fun i z hz => ?_, fun i hi => ⟨vs, SqL.of h2, by rw [reps_len R2]; exact List.getElem?_eq_none_iff.mp hi⟩⟩
  obtain ⟨v, hv, rv⟩ := reps_get R2 hz
  refine ⟨⟨vs, v, SqL.of h2, hv⟩, fun y H3 ⟨e, hy⟩ => ?_⟩
  subst e
  have e2 : v = y := Option.some.inj (hv.symm.trans (hy vs (SqL.of h2)))
  exact ⟨Ext.refl, S2, e2 ▸ rv⟩
theorem repK_key {mg : Mg} {A : As} {B : Fb} {H : Hp} : ∀ {kvs : List (KeyP × P)} {ks : List (Key × V)} {i : Nat} {q : P}, RepK mg A B H kvs ks → (kvs.map fun kv => keyP kv.1)[i]? = some q → ∃ k v, ks[i]? = some (k, v) ∧ q = keyK' k
  | [], _, i, q, h, e => by simp at e
  | (kk, p) :: r, _, i, q, h, e => by
    simp only [RepK] at h
    obtain ⟨j, v, w, e1, ek, h1, h2⟩ := h
    subst e1; subst ek
    cases i with
    | zero => simp at e; exact ⟨j, v, rfl, e.symm⟩
    | succ i =>
      obtain ⟨k, u, e2, e3⟩ := repK_key (i := i) (q := q) h2 (by simpa using e)
      exact ⟨k, u, by simpa using e2, e3⟩
theorem repT_key {mg : Mg} {A : As} {B : Fb} {H : Hp} : ∀ {kvs : List (KeyP × P)} {ks : List (List Key × V)} {i : Nat} {q : P}, RepT mg A B H kvs ks → (kvs.map fun kv => keyP kv.1)[i]? = some q → ∃ k v, ks[i]? = some (k, v) ∧ q = .tup (k.map keyK')
  | [], _, i, q, h, e => by simp at e
  | (kk, p) :: r, _, i, q, h, e => by
    simp only [RepT] at h
    obtain ⟨j, v, w, e1, ek, h1, h2⟩ := h
    subst e1; subst ek
    cases i with
    | zero => simp at e; exact ⟨j, v, rfl, e.symm⟩
    | succ i =>
      obtain ⟨k, u, e2, e3⟩ := repT_key (i := i) (q := q) h2 (by simpa using e)
      exact ⟨k, u, by simpa using e2, e3⟩
theorem rep_keyK {mg : Mg} {A : As} {B : Fb} {H : Hp} (k : Key) : Rep mg A B H (keyK' k) (kV k) := by
  cases k <;> simp only [keyK', kV, Rep]
theorem reps_keyK {mg : Mg} {A : As} {B : Fb} {H : Hp} : ∀ (ks : List Key), Reps mg A B H (ks.map keyK') (ks.map kV)
  | [] => by simp [Reps]
  | k :: ks => by simp only [List.map_cons, Reps]; exact ⟨_, _, rfl, rep_keyK k, reps_keyK ks⟩
/-- a locked dict's keys -/
theorem walkV_keys {mg : Mg} {A : As} {B : Fb} {H : Hp} {d : Addr} {o : Obj} {ks : List (Key × V)} {kvs : List (KeyP × P)} (hd : H d = some (.frz o (.dK ks))) (ho : ¬ Own A d) (R : RepK mg A B H kvs ks) : WalkV mg A B H (Itk d o ks) (kvs.map fun kv => keyP kv.1) := fun A2 B2 H2 s2 x S2 => by
  have h2 := x.keep d _ hd ho (fun _ z => nomatch z)
  refine ⟨fun i q hq => ?_, ⟨h2, by rw [List.length_map, repK_len R]; exact Nat.le_refl _⟩⟩
  obtain ⟨k, v, e1, e2⟩ := repK_key R hq
  refine ⟨⟨h2, (List.getElem?_eq_some_iff.mp e1).1⟩, fun y H3 ⟨e, k', v', e3, e4⟩ => ?_⟩
  subst e
  rw [e1] at e3
  cases e3
  rw [e2, e4]
  exact ⟨Ext.refl, S2, rep_keyK k⟩
theorem vi_seq (hl : VE X W l fa) : VI X W tg l (fun ρ => bnd (fa ρ) iterOf) := by
  refine (pi_seq hl).weak fun σ H R h => ?_
  obtain ⟨A, B, ρ, s, S, L, O⟩ := h
  refine ⟨A, B, ρ, s, S, L, O.bnd.imp fun A1 B1 H1 s1 p x1 S1 O1 v r => ?_⟩
  unfold iterOf at O1
  split at O1
  · have q := O1.ok S1
    obtain ⟨a, vs, e, h1, R1⟩ := rep_tup r
    simp only [Rep] at r
    obtain ⟨a', _, e', h1', nb, _⟩ := r
    rw [e] at e'; cases e'
    refine ⟨a, e, .inr (.inl ⟨vs, SqT.of h1, q _ ?_⟩)⟩
    exact walkV_tup S1.own (fun A2 B2 H2 x => SqT.of (x.keep a _ h1 (fun z => nb (S1.own a z)) (fun _ z => nomatch z))) R1
  · have q := O1.ok S1
    simp only [Rep] at r
    obtain ⟨a, vs, e, h1, nb, R1⟩ := r
    refine ⟨a, e, .inl ⟨vs, .inl h1, q _ ?_⟩⟩
    exact walkV_list S1.own (fun A2 B2 H2 x => .inl (ext_rdL (x.to0 S1.own) h1 nb)) R1
  · have q := O1.ok S1
    simp only [Rep] at r
    obtain ⟨a, vs, e, h1, nb, R1⟩ := r
    refine ⟨a, e, .inl ⟨vs, SqL.of h1, q _ ?_⟩⟩
    exact walkV_list S1.own (fun A2 B2 H2 x => SqL.of (x.keep a _ h1 (fun z => nb (S1.own a z)) (fun _ z => nomatch z))) R1
  · rename_i n
    split at O1
    · rename_i ys he
      have q := O1.ok S1
      obtain ⟨a, vs, e, h1, R1⟩ := rep_list S1 r (show listOf s1 (.lob n) = some ys by exact (by simp only [he] : (match s1.l[n]? with | some (Ob.lst xs) => some xs | _ => none) = some ys))
      rw [e] at r
      exact ⟨a, e, .inl ⟨vs, SqL.of h1, q _ (walkR_list S1.own r)⟩⟩
    · exact O1.elim
  · rename_i n
    split at O1
    · rename_i ys he
      have q := O1.ok S1
      obtain ⟨a, vs, e, h1, R1⟩ := rep_list S1 r (show listOf s1 (.gob n) = some ys by exact (by simp only [he] : (match s1.g[n]? with | some (Ob.lst xs) => some xs | _ => none) = some ys))
      rw [e] at r
      exact ⟨a, e, .inl ⟨vs, SqL.of h1, q _ (walkR_list S1.own r)⟩⟩
    · exact O1.elim
  · exact O1.elim
theorem getV_in {mg : Mg} {α : Type} {σ : L2.St} {A : As} {B : Fb} {H : Hp} {ρ : Rho} {i : Nat} {s : Sto} {g : P → M α} {k : As → Fb → Hp → Sto → α → Prop} (O : Out mg W σ A B H (bnd (getV ρ i) g s) k) : ∃ p, ρ[i]? = some (some p) ∧ getV ρ i = ret p := by
  cases e : ρ[i]? with
  | none => 
    have e2 : getV ρ i = bad := by unfold getV; rw [e]
    rw [e2] at O; exact O.elim
  | some op =>
    cases op with
    | none =>
      have e2 : getV ρ i = bad := by unfold getV; rw [e]
      rw [e2] at O; exact O.elim
    | some p => exact ⟨p, rfl, by unfold getV; rw [e]⟩
/-- the dict in slot i is locked -/
def Locked (i : Nat) (σ : L2.St) (H : Hp) : Prop := ∃ d o ks, σ[i]? = some (some (.ref d)) ∧ H d = some (.frz o (.dK ks))
theorem vi_keys {i : Nat} (hl : PE X l (tVar i)) : PI X tg l (fun σ H R => Locked i σ H ∧ tI X.mg W (fun ρ => bnd (getV ρ i) keysOf) σ H R) := by
  refine (pi_seq hl).weak fun σ H R h => ?_
  obtain ⟨⟨d, o, ks, hs, hd⟩, A, B, ρ, s, S, L, O⟩ := h
  refine ⟨.ref d, hs, d, rfl, .inr (.inr ⟨o, .inl ⟨ks, hd, ?_⟩⟩)⟩
  obtain ⟨p, e, e2⟩ := getV_in O
  have O' : Out X.mg W σ A B H (keysOf p s) (fun A' B' H' _ it => ∀ J, ItR X.mg A' B' H' J it → R J H') := by
    dsimp only at O; rw [e2] at O; exact O
  obtain ⟨v, e3, r⟩ := L.at_ i p e
  have ev : v = .ref d := by rw [hs] at e3; cases e3; rfl
  subst ev
  unfold keysOf at O'
  split at O'
  · rename_i kvs
    simp only [Rep] at r
    obtain ⟨a, ks', ea, rd, nb, R1⟩ := r
    cases ea
    have hks : ks' = ks := by
      rcases rd_at hd rd with z | ⟨ob, z⟩
      · cases z
      · cases z; rfl
    subst hks
    exact O'.ok S _ (walkV_keys hd (fun z => nb (S.own _ z)) R1)
  · exact O'.elim
end
end FW

end

section
set_option Elab.async false
set_option linter.all false
set_option maxRecDepth 100000
/-! Fw12a: enumerate of a tuple. -/
namespace PySem
namespace FWx
open PySem.AutoSeq1
theorem enumNewT (l : Addr) (xs : Array Value) (m : Nat) (od : Option Addr) (sl : Array (Option Value)) :
    Meets (Builtin.«enumerate.__new__» ⟨[.type "enumerate", .ref l], []⟩) (fun _ R s =>
      s.heap.get? l = some { cls := .type "tuple", dict := od, data := .seq xs m, slots := sl } ∧
      R (.ok (.ret (.ref (s.heap.push { cls := .type "tuple_iterator", data := .fields #[.ref l, .int 0 0] }).objs.size)))
        { s with heap := (s.heap.push { cls := .type "tuple_iterator", data := .fields #[.ref l, .int 0 0] }).push { cls := .type "enumerate", data := .fields #[.none, .bool false, .ref s.heap.objs.size, rawInt 0, .none, .none] } }) :=
  .of_wp fun prog w A R s h => by
    obtain ⟨hp, g, d, tk, os⟩ := s
    obtain ⟨hl, h⟩ := h
    have hsub := sub_enumerate
    have hL : Heap.IsTuple (Shared.heap ⟨hp, g, d, tk, os⟩) l xs := ⟨_, hl, rfl, m, rfl⟩
    wp_walk using wpAny_loadPart' hl
    refine wpAny_stack_any fun _ => wpAny_pure ?_
    split
    next c _ _ _ _ _ =>
      cases (c == Value.type "enumerate") <;>
        (wp_walk using wpAny_loadPart' hl, wpAny_pyIter_tuple hL
         exact ⟨_, rfl, h⟩)
    next =>
      wp_walk using wpAny_loadPart' hl, wpAny_pyIter_tuple hL
      exact ⟨_, rfl, h⟩
theorem drawsT {prog : Program} {w : World} {A : Around} (hh : A.handled = none) (it l : Addr) (hne : l ≠ it) (xs : Array Value) :
    Draws prog w A it [it, l] xs.size (fun i v => xs[i]? = some v) (fun i h => h.IsTupleIter it l i ∧ h.IsTuple l xs) where
  live := fun _ _ q => q.1.elim fun o z => ⟨o, z.1⟩
  frame := fun _ _ _ q k => ⟨q.1.at fun o z => k it (by simp) o z, q.2.at fun o z => k l (by simp) o z⟩
  item := fun i s Q E hi q hQ => by
    refine RZ.nextOf_tuple_item q.1 q.2 (x := xs[i]) (by simp [hi]) fun h2 hi2 hs2 => ?_
    exact hQ _ h2 s.toks (by simp [hi]) ⟨hi2, q.2.extBut hs2.extBut hne⟩ hs2
  done := fun s Q E q hE => RZ.nextOf_tuple_end hh q.1 q.2 (by simp) hE
section
variable {prog : Program} {w : World} {A : Around} {E : Value → Shared → Prop} {s : Shared}
theorem callEnumT {l : Addr} {xs : Array Value} {Q : Value → Shared → Prop} (hL : s.heap.IsTuple l xs)
    (h : ∀ h', IsEnum h' (s.heap.objs.size + 1) s.heap.objs.size 0 .none → h'.IsTupleIter s.heap.objs.size l 0 →
      (∀ b o, s.heap.get? b = some o → h'.get? b = some o) → Q (.ref (s.heap.objs.size + 1)) { s with heap := h' }) :
    wpAny (model prog w) A (call (.type "enumerate") [.ref l]) Q E s := by
  obtain ⟨⟨c, od, dt, sl⟩, hl, hc, m, hd⟩ := hL
  replace hc : c = .type "tuple" := hc
  replace hd : dt = .seq xs m := hd
  subst hc hd
  refine callType_new F.called_enumerate (by decide) (F.typeCall_enumerate_1 _) (F.newCall_enumerate_1 _) (fun obj => F.args_object_init_2 obj _) F.entry_enumerate_new (enumNewT l xs m od sl) ⟨hl, ?_⟩
  have hz : (s.heap.push { cls := .type "tuple_iterator", data := .fields #[.ref l, .int 0 0] }).objs.size = s.heap.objs.size + 1 := Heap.size_push ..
  show _ ∧ _
  rw [hz]
  have he : IsEnum ((s.heap.push { cls := .type "tuple_iterator", data := .fields #[.ref l, .int 0 0] }).push
      { cls := .type "enumerate", data := .fields #[.none, .bool false, .ref s.heap.objs.size, rawInt 0, .none, .none] }) (s.heap.objs.size + 1) s.heap.objs.size 0 .none := by
    have q := Heap.get?_push_size (s.heap.push { cls := .type "tuple_iterator", data := .fields #[.ref l, .int 0 0] })
      (o := { cls := .type "enumerate", data := .fields #[.none, .bool false, .ref s.heap.objs.size, rawInt 0, .none, .none] }) rfl
    rw [hz] at q
    exact q
  exact ⟨⟨_, he, rfl⟩, h _ he ⟨_, Heap.get?_push_of_some _ (Heap.get?_push_size _ rfl), rfl, rfl⟩ fun b o z => Heap.get?_push_of_some _ (Heap.get?_push_of_some _ z)⟩
end
end FWx
end PySem
namespace FW
open PySem PySem.Spec PyProof.Rows L2
variable [Tb]
/-- the tuple at a, each item in a new pair -/
def IteT (K : PySem.W.Frag) (a : Addr) : It :=
  ⟨fun i H => ∃ (xs : List V) (x : V), SqT K H a xs ∧ xs[i]? = some x, fun i H v H' => ∃ T x, v = .ref T ∧ H T = none ∧ H' = upd H T (.tup [.int (i : Nat), x]) ∧ ∀ xs, SqT K H a xs → xs[i]? = some x, fun i H => ∃ xs : List V, SqT K H a xs ∧ i = xs.length⟩
theorem turn_enumT {P : Program} {w : World} {K : PySem.W.Frag} {elts : List Expr} {kk : Nat} {tpos : Pos} (a e it : Addr) :
    Turn P w K (.Tuple elts kk tpos) (IteT K a) [e, it] e (fun i h => (∃ old, IsEnum h e it ((i : Nat) : Int) old) ∧ h.IsTupleIter it a i ∧ e ≠ it ∧ e ≠ a ∧ a ≠ it) where
  mem := by simp
  obj := fun i h st b hb => by
    obtain ⟨⟨old, he⟩, ⟨o, ho, hc, hd⟩, _⟩ := st
    rcases (show b = e ∨ b = it by simpa using hb) with z | z
    · rw [z]; exact ⟨_, he, fun v q => nomatch q⟩
    · rw [z]; exact ⟨o, ho, fun v q => by rw [hd] at q; cases q⟩
  keep := fun i h h' st k => by
    obtain ⟨⟨old, he⟩, hi, hne⟩ := st
    exact ⟨⟨old, k e (by simp) _ he⟩, hi.at fun o q => k it (by simp) o q, hne⟩
  item := by
    intro X hP hw hK hc i pins s σ H E I hf st hg
    subst hP hw hK
    obtain ⟨⟨old, he⟩, hit, hne, hea, hai⟩ := st
    obtain ⟨xs, x, hq, hx⟩ := hg
    obtain ⟨its, rv, p, hz⟩ := I.tuple hq
    obtain ⟨u, hu, ru⟩ := rv.get hx
    have hel : e < s.heap.objs.size := Heap.lt_size he
    have hil : it < s.heap.objs.size := by obtain ⟨_, q, _⟩ := hit; exact Heap.lt_size q
    have hlt : i < its.toArray.size := by have z := (List.getElem?_eq_some_iff.mp hu).1; simpa using z
    refine wpAny_pyNext_enum_itemD (PySem.FWx.drawsT (show X.A.in1.handled = none from I.ok.hd hc) it a hai its.toArray) he ⟨hit, p⟩ hlt hne (by simp [hne, hea]) fun y h' tk hy ho hs' hT hsz hk => ?_
    have ey : y = u := by
      have z : its.toArray[i]? = some u := by simpa using hu
      exact Option.some.inj (hy.symm.trans z)
    subst ey
    refine ⟨_, rfl, wpAny_letOwnedTupleGo_enum (s := { s with heap := h', toks := tk + 1 }) ho fun h'' he' sb => ?_⟩
    have hT2 : h''.get? s.heap.objs.size = some { cls := .type "tuple", data := .seq #[.int i tk, y] } := (sb.2 _ (Nat.ne_of_gt hel)).trans hT
    have new : ObjOk X.prog X.w (upd H s.heap.objs.size (.tup [.int (i : Nat), x])) h'' s.heap.objs.size (.tup [.int (i : Nat), x]) :=
      ⟨by show 2 ≤ sizeLine; decide, [.int i tk, y], .cons ⟨_, rfl⟩ (.cons ru .nil), ⟨_, hT2, rfl, _, rfl⟩⟩
    have I1 : Inv X pins σ (upd H s.heap.objs.size (.tup [.int (i : Nat), x])) { s with heap := h'', toks := tk + 1 } :=
      I.turnedNew (ch := [e, it]) (fun b ob hb q => (sb.2 b (fun z => hb (by simp [z]))).trans (hk b ob (fun z => hb (by simp [z])) (fun z => hb (by simp [z])) q)) hf (Nat.le_refl _) new
    refine ⟨.ref s.heap.objs.size, _, I1, rfl, ⟨_, x, rfl, I.hok.fresh (Nat.le_refl _), rfl, fun ys hy => by rw [I.tuple_inj hy hq]; exact hx⟩, ⟨⟨y, ?_⟩, hs'.1.at fun o q => (sb.2 it (Ne.symm hne)).trans q, hne, hea, hai⟩, fun b hb => ?_⟩
    · rw [show ((i + 1 : Nat) : Int) = (i : Int) + 1 by omega]; exact he'
    · have hb' : b < s.heap.objs.size := by
        rcases (show b = e ∨ b = it by simpa using hb) with z | z
        · rw [z]; exact hel
        · rw [z]; exact hil
      rw [upd_ne (Nat.ne_of_lt hb')]
      exact (hf b hb).1
  done := by
    intro X hP hw hK hc i pins s σ H E I hf st hg
    subst hP hw hK
    obtain ⟨⟨old, he⟩, hit, hne, hea, hai⟩ := st
    obtain ⟨xs, hq, hx⟩ := hg
    obtain ⟨its, rv, p, hz⟩ := I.tuple hq
    obtain ⟨f0, f1, f2, f3, f4, f5⟩ := hf it (by simp)
    have hl := rv.length
    have hi : i = its.toArray.size := by simp; omega
    subst hi
    exact wpAny_pyNext_enum_endD (PySem.FWx.drawsT (show X.A.in1.handled = none from I.ok.hd hc) it a hai its.toArray) he ⟨hit, p⟩ fun h' eb => ⟨rfl, I.turned (t' := s.toks) (fun b o hb q => eb b o hb q) f0 f1 f3 f4 f5⟩
  self := fun A i s Q E st h => by
    obtain ⟨⟨_, he⟩, _⟩ := st
    exact wpAny_pyIter_enum he h
def iEnumA (K : PySem.W.Frag) (te : TE) : TI := fun σ H R => te σ H fun v H1 => ∃ a xs, [v] = [V.ref a] ∧ ((SqL K H1 a xs ∧ R (Ite K a) H1) ∨ (SqT K H1 a xs ∧ R (IteT K a) H1))
theorem pi_enumA {X : Cx} {e : Expr} {te : TE} {p pos tpos : Pos} {elts : List Expr} {kk : Nat} (hg : Gl X "enumerate") (hm : X.mg "enumerate" = none) (ha : PE X e te) (hs : starEach [e] X.env = [(false, eval e X.env)]) :
    PI X (.Tuple elts kk tpos) (.Call (.Name "enumerate" p) [e] [] pos) (iEnumA X.K te) := by
  have ha' : PA X [e] (tCons te tNil) := pa_cons ha pa_nil (by rw [hs]; rfl)
  refine ⟨fun pins s σ H R I h => ?_⟩
  refine Call_ (ld_blt I hg hm boot_enumerate (PyProof.Rows.callWith_type1 (thn (ha'.run pos pins s σ H (fun vs H1 => ∃ a xs, vs = [V.ref a] ∧ ((SqL X.K H1 a xs ∧ R (Ite X.K a) H1) ∨ (SqT X.K H1 a xs ∧ R (IteT X.K a) H1))) I h) fun us s1 q0 => ?_) hs rfl))
  obtain ⟨vs, H1, I1, r1, a, xs, ex, q⟩ := q0
  subst ex
  cases r1 with
  | cons r rr =>
    cases rr
    cases r
    have fp2 : ∀ b, b ∈ [s1.heap.objs.size + 1, s1.heap.objs.size] → FpOk X pins H1 b := fun b hb => by
      have hle : s1.heap.objs.size ≤ b := by
        rcases (show b = s1.heap.objs.size + 1 ∨ b = s1.heap.objs.size by simpa using hb) with z | z
        · rw [z]; exact Nat.le_add_right _ _
        · rw [z]; exact Nat.le_refl _
      exact I1.fpOk hle (I1.hok.fresh hle)
    rcases q with ⟨hq, q⟩ | ⟨hq, q⟩
    · obtain ⟨its, rv, p', hz⟩ := I1.list hq
      refine call_enumerate_list p'.isList fun h' he hit hsz hk => wpAny_pyIter_enum he ?_
      exact ⟨s1.heap.objs.size + 1, [s1.heap.objs.size + 1, s1.heap.objs.size], _, _, H1, rfl, I1.kept (t' := s1.toks) hk, turn_enum a (s1.heap.objs.size + 1) s1.heap.objs.size, ⟨⟨.none, he⟩, hit, Nat.succ_ne_self _⟩, fp2, q⟩
    · obtain ⟨its, rv, p', hz⟩ := I1.tuple hq
      obtain ⟨ob, hob, _⟩ := id p'
      have hlt := Heap.lt_size hob
      refine PySem.FWx.callEnumT p' fun h' he hit hk => wpAny_pyIter_enum he ?_
      exact ⟨s1.heap.objs.size + 1, [s1.heap.objs.size + 1, s1.heap.objs.size], _, _, H1, rfl, I1.kept (t' := s1.toks) hk, turn_enumT a (s1.heap.objs.size + 1) s1.heap.objs.size, ⟨⟨.none, he⟩, hit, Nat.succ_ne_self _, Nat.ne_of_gt (Nat.lt_succ_of_lt hlt), Nat.ne_of_lt hlt⟩, fp2, q⟩
end FW

end

section
set_option Elab.async false
set_option linter.all false
set_option maxRecDepth 100000
/-! Fw12b: range, enumerate, zip. -/
namespace FW
open PySem PySem.Spec PyProof.Rows L2
variable [Tb]
section
variable {mg : Mg} {K : PySem.W.Frag} {A : As} {B : Fb} {H : Hp}
theorem range_get {lo : Int} {n i : Nat} {p : P} (h : (rangeP lo n)[i]? = some p) : i < n ∧ p = .int (lo + (i : Nat)) := by
  unfold rangeP at h
  rw [List.getElem?_map] at h
  by_cases hi : i < n
  · rw [List.getElem?_range hi] at h; exact ⟨hi, (Option.some.inj h).symm⟩
  · rw [List.getElem?_eq_none (by simpa using hi)] at h; cases h
theorem range_len {lo : Int} {n : Nat} : (rangeP lo n).length = n := by unfold rangeP; rw [List.length_map, List.length_range]
theorem walkV_range {lo : Int} {n : Nat} : WalkV mg A B H (Itr lo n) (rangeP lo n) := fun A2 B2 H2 s2 x S2 => by
  refine ⟨fun i p hp => ?_, by rw [range_len]; exact Nat.le_refl n⟩
  obtain ⟨hi, e⟩ := range_get hp
  refine ⟨hi, fun v H' ⟨e1, e2⟩ => ?_⟩
  subst e; subst e1; subst e2
  exact ⟨Ext.refl, S2, by simp only [Rep]⟩
theorem pair_yield {J : It} {i : Nat} {s : Sto} {p q : P} {x y : V} {T : Addr} {H' : Hp} {v : V} (S : StoR mg A B H s) (rp : Rep mg A B H p x) (rq : Rep mg A B H q y) (hT : H T = none) (e : H' = upd H T (.tup [x, y])) (ev : v = .ref T) :
    Ext A B H A B H' ∧ StoR mg A B H' s ∧ Rep mg A B H' (.tup [p, q]) v := by
  subst e; subst ev
  have xx : Ext A B H A B (upd H T (.tup [x, y])) := ext_new S.bt hT
  refine ⟨xx, sto_new S hT, ?_⟩
  simp only [Rep]
  refine ⟨T, [x, y], rfl, upd_same, nb_new S.bt hT, ?_⟩
  simp only [Reps]
  exact ⟨x, [y], rfl, rp.mono xx S.own, y, [], rfl, rq.mono xx S.own, rfl⟩
theorem enum_get {xs : List P} {i : Nat} {p : P} (h : (enumP xs)[i]? = some p) : ∃ q, xs[i]? = some q ∧ p = .tup [.int (i : Nat), q] := by
  unfold enumP at h
  rw [List.getElem?_map] at h
  obtain ⟨a, h1, h2⟩ := Option.map_eq_some_iff.mp h
  rw [List.getElem?_zipIdx] at h1
  obtain ⟨b, h3, h4⟩ := Option.map_eq_some_iff.mp h1
  subst h4
  exact ⟨b, h3, by rw [← h2]; simp⟩
theorem enum_len {xs : List P} : (enumP xs).length = xs.length := by unfold enumP; rw [List.length_map, List.length_zipIdx]
theorem int_rep {i : Int} : Rep mg A B H (.int i) (.int i) := by simp only [Rep]
theorem walkV_enumL {a : Addr} {vs : List V} {xs : List P} (ho : ∀ a, Own A a → B a) (hk : ∀ A2 B2 H2, Ext A B H A2 B2 H2 → SqL K H2 a vs) (R : Reps mg A B H xs vs) : WalkV mg A B H (Ite K a) (enumP xs) := fun A2 B2 H2 s2 x S2 => by
  have h2 := hk A2 B2 H2 x
  have R2 := R.mono x ho
  refine ⟨fun i p hp => ?_, ⟨vs, h2, by rw [reps_len R2, enum_len]; exact Nat.le_refl _⟩⟩
  obtain ⟨q, hq, e⟩ := enum_get hp
  obtain ⟨v, hv, rv⟩ := reps_get R2 hq
  refine ⟨⟨vs, v, h2, hv⟩, fun y H3 ⟨T, w, e1, e2, e3, e4⟩ => ?_⟩
  have ew : v = w := Option.some.inj (hv.symm.trans (e4 vs h2))
  subst ew; subst e
  exact pair_yield (J := Ite K a) (i := i) S2 int_rep rv e2 e3 e1
theorem walkV_enumT {a : Addr} {vs : List V} {xs : List P} (ho : ∀ a, Own A a → B a) (hk : ∀ A2 B2 H2, Ext A B H A2 B2 H2 → SqT K H2 a vs) (R : Reps mg A B H xs vs) : WalkV mg A B H (IteT K a) (enumP xs) := fun A2 B2 H2 s2 x S2 => by
  have h2 := hk A2 B2 H2 x
  have R2 := R.mono x ho
  refine ⟨fun i p hp => ?_, ⟨vs, h2, by rw [reps_len R2, enum_len]⟩⟩
  obtain ⟨q, hq, e⟩ := enum_get hp
  obtain ⟨v, hv, rv⟩ := reps_get R2 hq
  refine ⟨⟨vs, v, h2, hv⟩, fun y H3 ⟨T, w, e1, e2, e3, e4⟩ => ?_⟩
  have ew : v = w := Option.some.inj (hv.symm.trans (e4 vs h2))
  subst ew; subst e
  exact pair_yield (J := IteT K a) (i := i) S2 int_rep rv e2 e3 e1
theorem walkR_enum {a : Addr} {q : P} (ho : ∀ a, Own A a → B a) (r : Rep mg A B H q (.ref a)) : WalkR mg A B H (Ite K a) q (fun i x => .tup [.int (i : Nat), x]) := fun A2 B2 H2 s2 ys x S2 hl => by
  obtain ⟨a', vs, e, h2, R2⟩ := rep_list S2 (r.mono x ho) hl
  cases e
  refine ⟨fun i z hz => ?_, fun i hi => ⟨vs, SqL.of h2, by rw [reps_len R2]; exact List.getElem?_eq_none_iff.mp hi⟩⟩
  obtain ⟨v, hv, rv⟩ := reps_get R2 hz
  refine ⟨⟨vs, v, SqL.of h2, hv⟩, fun y H3 ⟨T, w, e1, e2, e3, e4⟩ => ?_⟩
  have ew : v = w := Option.some.inj (hv.symm.trans (e4 vs (SqL.of h2)))
  subst ew
  exact pair_yield (J := Ite K a) (i := i) S2 int_rep rv e2 e3 e1
end
section
variable {X : Cx} {W : WX} {tg a b : Expr} {fa fb : Rho → M P} {pos p tpos : Pos} {elts : List Expr} {kk : Nat}
def rng1 (p : P) : M Iter := match p with | .int j => if okR j then ret (.vals (rangeP 0 j.toNat)) else bad | _ => bad
def rng2 (p q : P) : M Iter := match p, q with
    | .int i, .int j => if okR i && okR j then ret (.vals (rangeP i (j - i).toNat)) else bad
    | _, _ => bad
theorem okR_of {i : Int} (h : okR i = true) : -(2 ^ 62) ≤ i ∧ i < 2 ^ 62 := by
  unfold okR at h
  rw [Bool.and_eq_true, decide_eq_true_eq, decide_eq_true_eq] at h
  exact h
theorem vi_range1 (hg : Gl X "range") (hm : X.mg "range" = none) (ha : VE X W a fa) (hs : starEach [a] X.env = [(false, eval a X.env)]) : VI X W tg (.Call (.Name "range" p) [a] [] pos) (fun ρ => bnd (fa ρ) rng1) := by
  refine (pi_range1 hg hm (pa_cons ha pa_nil (by rw [hs]; rfl)) hs).weak fun σ H R h => ?_
  obtain ⟨A, B, ρ, s, S, L, O⟩ := h
  refine ⟨A, B, ρ, s, S, L, O.bnd.imp fun A1 B1 H1 s1 p x1 S1 O1 v r => ?_⟩
  unfold rng1 at O1
  split at O1
  · rename_i j
    split at O1
    · rename_i hj
      obtain ⟨q1, q2⟩ := okR_of hj
      simp only [Rep] at r
      subst r
      exact ⟨j, rfl, q1, q2, O1.ret S1 _ walkV_range⟩
    · exact O1.elim
  · exact O1.elim
theorem vi_range2 (hg : Gl X "range") (hm : X.mg "range" = none) (ha : VE X W a fa) (hb : VE X W b fb) (hs : starEach [a, b] X.env = [(false, eval a X.env), (false, eval b X.env)]) (hs2 : starEach [b] X.env = [(false, eval b X.env)]) :
    VI X W tg (.Call (.Name "range" p) [a, b] [] pos) (fun ρ => bnd (fa ρ) fun p => bnd (fb ρ) fun q => rng2 p q) := by
  refine (pi_range2 hg hm (pa_cons ha (pa_cons hb pa_nil (by rw [hs2]; rfl)) (by rw [hs, hs2])) hs hs2).weak fun σ H R h => ?_
  obtain ⟨A, B, ρ, s, S, L, O⟩ := h
  refine ⟨A, B, ρ, s, S, L, O.bnd.imp fun A1 B1 H1 s1 p x1 S1 O1 v r => ⟨A1, B1, ρ, s1, S1, L.mono x1 S.own, O1.bnd.imp fun A2 B2 H2 s2 q x2 S2 O2 w r2 => ?_⟩⟩
  unfold rng2 at O2
  split at O2
  · rename_i i j
    split at O2
    · rename_i hj
      rw [Bool.and_eq_true] at hj
      obtain ⟨q1, q2⟩ := okR_of hj.1
      obtain ⟨q3, q4⟩ := okR_of hj.2
      simp only [Rep] at r r2
      subst r; subst r2
      exact ⟨i, j, rfl, ⟨q1, q2, q3, q4⟩, O2.ret S2 _ walkV_range⟩
    · exact O2.elim
  · exact O2.elim
theorem vi_enum (hg : Gl X "enumerate") (hm : X.mg "enumerate" = none) (ha : VE X W a fa) (hs : starEach [a] X.env = [(false, eval a X.env)]) : VI X W (.Tuple elts kk tpos) (.Call (.Name "enumerate" p) [a] [] pos) (fun ρ => bnd (fa ρ) enumOf) := by
  refine (pi_enumA hg hm ha hs).weak fun σ H R h => ?_
  obtain ⟨A, B, ρ, s, S, L, O⟩ := h
  refine ⟨A, B, ρ, s, S, L, O.bnd.imp fun A1 B1 H1 s1 p x1 S1 O1 v r => ?_⟩
  unfold enumOf at O1
  split at O1
  · have q := O1.ok S1
    obtain ⟨a, vs, e, h1, R1⟩ := rep_tup r
    simp only [Rep] at r
    obtain ⟨a', _, e', h1', nb, _⟩ := r
    rw [e] at e'; cases e'
    refine ⟨a, vs, by rw [e], .inr ⟨SqT.of h1, q _ ?_⟩⟩
    exact walkV_enumT S1.own (fun A2 B2 H2 x => SqT.of (x.keep a _ h1 (fun z => nb (S1.own a z)) (fun _ z => nomatch z))) R1
  · have q := O1.ok S1
    simp only [Rep] at r
    obtain ⟨a, vs, e, h1, nb, R1⟩ := r
    refine ⟨a, vs, by rw [e], .inl ⟨SqL.of h1, q _ ?_⟩⟩
    exact walkV_enumL S1.own (fun A2 B2 H2 x => SqL.of (x.keep a _ h1 (fun z => nb (S1.own a z)) (fun _ z => nomatch z))) R1
  · rename_i n
    split at O1
    · rename_i ys he
      have q := O1.ok S1
      have hl : listOf s1 (.lob n) = some ys := (by simp only [he] : (match s1.l[n]? with | some (Ob.lst xs) => some xs | _ => none) = some ys)
      obtain ⟨a, vs, e, h1, R1⟩ := rep_list S1 r hl
      rw [e] at r
      exact ⟨a, vs, by rw [e], .inl ⟨SqL.of h1, q _ (walkR_enum S1.own r)⟩⟩
    · exact O1.elim
  · rename_i n
    split at O1
    · rename_i ys he
      have q := O1.ok S1
      have hl : listOf s1 (.gob n) = some ys := (by simp only [he] : (match s1.g[n]? with | some (Ob.lst xs) => some xs | _ => none) = some ys)
      obtain ⟨a, vs, e, h1, R1⟩ := rep_list S1 r hl
      rw [e] at r
      exact ⟨a, vs, by rw [e], .inl ⟨SqL.of h1, q _ (walkR_enum S1.own r)⟩⟩
    · exact O1.elim
  · exact O1.elim
end
end FW

end

section
set_option Elab.async false
set_option linter.all false
set_option maxRecDepth 100000
/-! Fw13: list comprehensions. -/
namespace FW
open PySem PySem.Spec PyProof.Rows L2
variable [Tb]
def W0 : WX := fun _ _ _ _ => False
/-- without the object under construction -/
def cutB (D : Addr) (B : Fb) : Fb := fun b => B b ∧ b ≠ D
def cutH (D : Addr) (H : Hp) : Hp := fun b => if b = D then none else H b
section
variable {mg : Mg} {W : WX} {σ σ' : L2.St} {A A' : As} {B B' : Fb} {H H' : Hp} {D : Addr} {α β : Type}
theorem cutH_some {a : Addr} {o : HO} (h : cutH D H a = some o) : a ≠ D ∧ H a = some o := by
  unfold cutH at h
  split at h
  · cases h
  · rename_i z; exact ⟨z, h⟩
theorem cutH_ne {a : Addr} (z : a ≠ D) : cutH D H a = H a := if_neg z
/-- neither a table nor a code object -/
def Pl (o : HO) : Prop := (∀ ps, o ≠ .tbl ps) ∧ ∀ φ, o ≠ .ext φ
theorem pl_lst {vs : List V} : Pl (.lst vs) := ⟨(fun _ z => nomatch z), (fun _ z => nomatch z)⟩
theorem pl_dK {vs : List (Key × V)} : Pl (.dK vs) := ⟨(fun _ z => nomatch z), (fun _ z => nomatch z)⟩
theorem tab_cut (hD : ∀ o, H' D = some o → Pl o) {P : Addr} {q : Str} (h : LamX.TabS H' P q) : LamX.TabS (cutH D H') P q := by
  obtain ⟨ps, h1, h2, h3⟩ := h
  refine ⟨ps, ?_, h2, fun pos cv hc => ?_⟩
  · rw [cutH_ne (show P ≠ D from fun z => (hD _ (z ▸ h1)).1 ps rfl)]; exact h1
  · obtain ⟨c, e1, e2⟩ := h3 pos cv hc
    refine ⟨c, e1, ?_⟩
    rw [cutH_ne (show c ≠ D from fun z => by
      subst z
      exact (hD _ e2).2 _ rfl)]; exact e2
theorem ext_cut (x : Ext A B H A' B' H') (hD : ∀ o, H' D = some o → Pl o) : Ext A (cutB D B) (cutH D H) A' (cutB D B') (cutH D H') where
  pl := x.pl
  pg := x.pg
  keep := fun a o h n t => by
    obtain ⟨z, h⟩ := cutH_some h
    rw [cutH_ne z]; exact x.keep a o h n t
  nb := fun a h n => by
    intro ⟨q1, q2⟩
    rw [cutH_ne q2] at h
    exact x.nb a h (fun z => n ⟨z, q2⟩) q1
  bb := fun a ⟨q1, q2⟩ => ⟨x.bb a q1, q2⟩
  there := fun a h => by
    by_cases z : a = D
    · subst z; exact absurd (if_pos rfl) h
    · rw [cutH_ne z] at h ⊢; exact x.there a h
  fresh := fun a h => (x.fresh a h).imp id fun z => by
    by_cases q : a = D
    · subst q; exact if_pos rfl
    · rw [cutH_ne q]; exact z
  tb := fun t p hp => tab_cut hD (x.tb (t.ext fun b o h => (cutH_some h).2) p hp)
theorem ext0_cut (hD : B D) : Ext0 A B H A (cutB D B) (cutH D H) where
  pl := ⟨[], by simp⟩
  pg := ⟨[], by simp⟩
  keep := fun a o h n _ _ _ => by rw [cutH_ne (show a ≠ D from fun z => n (z ▸ hD))]; exact h
  kk := fun a ks r n => by
    have z : a ≠ D := fun z => n (z ▸ hD)
    unfold Rd; rw [cutH_ne z]; exact r
  kt := fun a ks r n => by
    have z : a ≠ D := fun z => n (z ▸ hD)
    unfold Rd; rw [cutH_ne z]; exact r
  nb := fun a _ n q => n q.1
theorem sto_cut {s : Sto} (S : StoR mg A B H s) (hD : B D) (hn : ¬ Own A D) (hp : ∀ o, H D = some o → Pl o) : StoR mg A (cutB D B) (cutH D H) s :=
  S.mono0 (ext0_cut hD) (fun a h u e => by rw [cutH_ne (show a ≠ D from fun z => hn (z ▸ h))]; exact e) (fun a h => ⟨S.own a h, fun z => hn (z ▸ h)⟩) (fun a h => by rw [cutH_ne h.2]; exact S.bt a h.1) fun p q => tab_cut hp (S.tab p q)
/-- what does not raise, with the object under construction in sight -/
theorem Out.quiet {m : M α} {s : Sto} {k : As → Fb → Hp → Sto → α → Prop} (O : Out mg W σ A (cutB D B) (cutH D H) (FW.quiet m s) k) (hD : B D) (hn : ¬ Own A D) {o : HO} (ho : H D = some o) (hp : Pl o) :
    Out mg W0 σ' A B H (m s) fun A' B' H' s' a => Ext A B H A' B' H' ∧ B' D ∧ ¬ Own A' D ∧ k A' (cutB D B') (cutH D H') s' a := by
  unfold FW.quiet at O
  cases e : m s with
  | bad => rw [e] at O; exact O.elim
  | exn x s' => rw [e] at O; exact O.elim
  | ok a s' =>
    rw [e] at O
    intro A' B' H' x S
    have hn' : ¬ Own A' D := fun z => (x.fresh D z).elim hn (by rw [ho]; exact fun z => nomatch z)
    have ho' : H' D = some o := x.keep D o ho hn hp.1
    exact ⟨x, x.bb D hD, hn', O A' (cutB D B') (cutH D H') (ext_cut x fun u hu => by rw [ho'] at hu; cases hu; exact hp) (sto_cut S (x.bb D hD) hn' fun u hu => by rw [ho'] at hu; cases hu; exact hp)⟩
theorem wipe_get {σ : L2.St} {i : Nat} : ∀ {vs : List Nat}, i ∉ vs → (wipe σ vs)[i]? = σ[i]?
  | [], _ => rfl
  | v :: vs, h => by
    unfold wipe
    rw [List.getElem?_set_ne (fun z => h (by rw [z]; exact List.mem_cons_self))]
    exact wipe_get fun z => h (List.mem_cons_of_mem _ z)
theorem wipe_in {σ : L2.St} {i : Nat} : ∀ {vs : List Nat}, i ∈ vs → (wipe σ vs)[i]? = if i < σ.length then some none else none
  | v :: vs, h => by
    unfold wipe
    by_cases e : v = i
    · subst e
      by_cases hl : v < σ.length
      · rw [List.getElem?_set_self (by rw [wipe_length]; exact hl), if_pos hl]
      · rw [List.getElem?_eq_none (by rw [List.length_set, wipe_length]; omega), if_neg hl]
    · rw [List.getElem?_set_ne e]
      rcases List.mem_cons.mp h with z | z
      · exact absurd z.symm e
      · exact wipe_in z
/-- a target's slots are wiped -/
theorem wipe_upd {σ1 : L2.St} {is vs : List Nat} (u : Upd is (wipe σ vs) σ1) (h : ∀ i ∈ is, i ∈ vs) : wipe σ1 vs = wipe σ vs := by
  refine List.ext_getElem? fun i => ?_
  have el : σ1.length = σ.length := u.1.trans (wipe_length σ vs)
  by_cases hi : i ∈ vs
  · rw [wipe_in hi, wipe_in hi, el]
  · rw [wipe_get hi, u.2 i (fun z => hi (h i z))]
theorem wipeR_get {ρ : Rho} {i : Nat} {p : P} : ∀ {vs : List Nat}, (wipeR ρ vs)[i]? = some (some p) → ρ[i]? = some (some p) ∧ i ∉ vs
  | [], h => ⟨h, by simp⟩
  | v :: vs, h => by
    unfold wipeR at h
    by_cases e : v = i
    · subst e
      by_cases hl : v < (wipeR ρ vs).length
      · rw [List.getElem?_set_self hl] at h; cases h
      · rw [List.getElem?_eq_none (by rw [List.length_set]; omega)] at h; cases h
    · rw [List.getElem?_set_ne e] at h
      obtain ⟨h1, h2⟩ := wipeR_get h
      exact ⟨h1, by simp only [List.mem_cons, not_or]; exact ⟨fun z => e z.symm, h2⟩⟩
theorem wipeR_len {ρ : Rho} : ∀ {vs : List Nat}, (wipeR ρ vs).length = ρ.length
  | [] => rfl
  | v :: vs => by unfold wipeR; rw [List.length_set, wipeR_len]
theorem SloR.wipe {ρ : Rho} {vs : List Nat} (L : SloR mg A B H ρ σ) : SloR mg A B H (wipeR ρ vs) (L2.wipe σ vs) :=
  ⟨by rw [wipeR_len, wipe_length]; exact L.len, fun i p e => by
    obtain ⟨h1, h2⟩ := wipeR_get e
    rw [wipe_get h2]
    exact L.at_ i p h1⟩
/-- the object under construction, in the states of a loop -/
structure Con (mg : Mg) (A1 : As) (B1 : Fb) (H1 : Hp) (D : Addr) (A : As) (B : Fb) (H : Hp) (s : Sto) : Prop where
  x : Ext A1 B1 H1 A B H
  S : StoR mg A B H s
  b : B D
  n : ¬ Own A D
variable {A1 : As} {B1 : Fb} {H1 : Hp} {s : Sto}
theorem con_start {o : HO} (S : StoR mg A1 B1 H1 s) (hD : H1 D = none) : Con mg A1 B1 H1 D A1 (fun b => B1 b ∨ b = D) (upd H1 D o) s := by
  have nD : ¬ B1 D := nb_new S.bt hD
  have hs : ∀ a u, H1 a = some u → upd H1 D o a = some u := fun a u e => by rw [upd_ne (ne_of_none e hD)]; exact e
  have x0 : Ext0 A1 B1 H1 A1 (fun b => B1 b ∨ b = D) (upd H1 D o) := ⟨⟨[], by simp⟩, ⟨[], by simp⟩, fun a u e _ _ _ _ => hs a u e, fun a ks r _ => r.elim (fun z => .inl (hs a _ z)) fun ⟨ob, z⟩ => .inr ⟨ob, hs a _ z⟩,
    fun a ks r _ => r.elim (fun z => .inl (hs a _ z)) fun ⟨ob, z⟩ => .inr ⟨ob, hs a _ z⟩, fun a e n z => z.elim n fun z => e (z ▸ hD)⟩
  refine ⟨⟨⟨[], by simp⟩, ⟨[], by simp⟩, fun a u e _ _ => hs a u e, fun a e n z => z.elim n fun z => e (z ▸ hD), fun a z => .inl z, fun a e => ?_, fun a z => .inl z, tbs fun P q t => t.ext hs⟩, ?_, .inr rfl, fun z => nD (S.own D z)⟩
  · by_cases z : a = D
    · subst z; rw [upd_same]; exact fun z => nomatch z
    · rw [upd_ne z]; exact e
  · refine S.mono0 x0 (fun a h u e => hs a u e) (fun a h => .inl (S.own a h)) (fun a h => ?_) (S.tab.ext hs)
    by_cases z : a = D
    · subst z; rw [upd_same]; exact fun z => nomatch z
    · rw [upd_ne z]; exact S.bt a (h.resolve_right z)
theorem ext0_upd {o : HO} (hb : B D) : Ext0 A B H A B (upd H D o) :=
  have hs : ∀ a, ¬ B a → upd H D o a = H a := fun a n => upd_ne (fun z => n (z ▸ hb))
  ⟨⟨[], by simp⟩, ⟨[], by simp⟩, fun a u e n _ _ _ => (hs a n).trans e, fun a ks r n => by unfold Rd; rw [hs a n]; exact r, fun a ks r n => by unfold Rd; rw [hs a n]; exact r, fun a _ n => n⟩
theorem Con.put {o : HO} (c : Con mg A1 B1 H1 D A B H s) (hD : H1 D = none) (n1 : ¬ Own A1 D) {o' : HO} (ho : H D = some o') (hp : Pl o') : Con mg A1 B1 H1 D A B (upd H D o) s := by
  refine ⟨⟨c.x.pl, c.x.pg, fun a u e n t => ?_, c.x.nb, c.x.bb, fun a e => ?_, c.x.fresh, fun t p hT => tab_chg (a := D) (fun u hu => by rw [ho] at hu; cases hu; exact hp) (fun b u z e => by rw [upd_ne z]; exact e) (c.x.tb t p hT)⟩, ?_, c.b, c.n⟩
  · rw [upd_ne (ne_of_none e hD)]; exact c.x.keep a u e n t
  · by_cases z : a = D
    · subst z; rw [upd_same]; exact fun z => nomatch z
    · rw [upd_ne z]; exact c.x.there a e
  · refine c.S.mono0 (ext0_upd c.b) (fun a h u e => by rw [upd_ne (show a ≠ D from fun z => c.n (z ▸ h))]; exact e) c.S.own (fun a h => ?_) fun p q => tab_chg (a := D) (fun u hu => by rw [ho] at hu; cases hu; exact hp) (fun b u z e => by rw [upd_ne z]; exact e) (c.S.tab p q)
    by_cases z : a = D
    · subst z; rw [upd_same]; exact fun z => nomatch z
    · rw [upd_ne z]; exact c.S.bt a h
theorem cutH_upd {o : HO} : cutH D (upd H D o) = cutH D H := by
  funext b
  by_cases z : b = D
  · subst z; show (if b = b then none else _) = if b = b then none else _; rw [if_pos rfl, if_pos rfl]
  · rw [cutH_ne z, cutH_ne z, upd_ne z]
theorem upd_cutH {o : HO} (h : H D = some o) : upd (cutH D H) D o = H := by
  funext b
  by_cases z : b = D
  · subst z; rw [upd_same, h]
  · rw [upd_ne z, cutH_ne z]
theorem Con.out (c : Con mg A1 B1 H1 D A B H s) (hD : H1 D = none) {r : R α} {k : As → Fb → Hp → Sto → α → Prop} (h1 : Ext A1 B1 H1 A (cutB D B) (cutH D H)) (O : Out mg W σ A1 B1 H1 r k) : Out mg W σ A (cutB D B) (cutH D H) r k := O.ext h1
theorem con_ext0 {o : HO} (S : StoR mg A1 B1 H1 s) (hD : H1 D = none) : Ext A1 B1 H1 A1 (cutB D fun b => B1 b ∨ b = D) (cutH D (upd H1 D o)) := by
  have hs : ∀ a u, H1 a = some u → cutH D (upd H1 D o) a = some u := fun a u e => by
    have z := ne_of_none e hD
    rw [cutH_ne z, upd_ne z]; exact e
  exact ⟨⟨[], by simp⟩, ⟨[], by simp⟩, fun a u e _ _ => hs a u e, fun a e n z => z.1.elim n z.2, fun a z => ⟨Or.inl z, fun q => nb_new S.bt hD (q ▸ z)⟩, fun a e => by
    cases q : H1 a with
    | none => exact absurd q e
    | some u => rw [hs a u q]; exact (fun z => nomatch z), fun a z => Or.inl z, tbs fun P q t => t.ext hs⟩
/-- one element more, or none -/
def stepC (T : T) (own : List Nat) (fc : Rho → M Bool) (fe : Rho → M P) (ρ : Rho) : P → List P → M (List P) := fun x acc => bnd (ofO (asgT T x (wipeR ρ own))) fun ρ' => bnd (quiet (fc ρ')) fun c =>
  if c then bnd (quiet (fe ρ')) fun p => if acc.length < line then ret (acc ++ [p]) else bad else ret acc
variable {r : Al} {Q : VK} {T : FW.T} {own : List Nat} {fc : Rho → M Bool} {fe : Rho → M P} {fi : Rho → M Iter} {ρ : Rho}
theorem reps_sole {p : P} {v : V} (h : Rep mg A B H p v) : Reps mg A B H [p] [v] := by simp only [Reps]; exact ⟨v, [], rfl, h, rfl⟩
def LcS (mg : Mg) (W : WX) (σ : L2.St) (A1 : As) (B1 : Fb) (H1 : Hp) (D : Addr) (r : Al) (Q : VK) (rest : List P → M (List P)) (H : Hp) : Prop :=
  ∃ A B s acc vs, Con mg A1 B1 H1 D A B H s ∧ H D = some (.lst vs) ∧ Reps mg A B H acc vs ∧ Out mg W σ A (cutB D B) (cutH D H) (bnd (rest acc) (mkL r) s) (kP mg Q)
theorem lc_turn {rest : List P → M (List P)} {s1 : Sto} {acc : List P} {vs : List V} {p : P} {v : V} (hsub : ∀ i ∈ slotsT T, i ∈ own) (S1 : StoR mg A1 B1 H1 s1) (L1 : SloR mg A1 B1 H1 ρ σ) (hD : H1 D = none)
    (c : Con mg A1 B1 H1 D A B H s) (hv : H D = some (.lst vs)) (R : Reps mg A B H acc vs) (O0 : Out mg W σ A (cutB D B) (cutH D H) (bnd (bnd (stepC T own fc fe ρ p acc) rest) (mkL r) s) (kP mg Q))
    (x3 : Ext A B H A B H') (S3 : StoR mg A B H' s) (r3 : Rep mg A B H' p v) :
    tG mg T v (wipe σ own) H' fun σ2 H2 => wipe σ2 own = wipe σ own ∧ tT mg W0 fc σ2 H2 fun b H3 =>
      if b = true then tE mg W0 fe σ2 H3 fun y H4 => ∃ acc, H4 D = some (.lst acc) ∧ acc.length < sizeLine ∧ LcS mg W σ A1 B1 H1 D r Q rest (upd H4 D (.lst (acc ++ [y]))) else LcS mg W σ A1 B1 H1 D r Q rest H3 := by
  have n1 : ¬ Own A1 D := fun z => nb_new S1.bt hD (S1.own D z)
  have c3 : Con mg A1 B1 H1 D A B H' s := ⟨c.x.trans x3, S3, c.b, c.n⟩
  have hv3 : H' D = some (.lst vs) := x3.keep D _ hv c.n (fun _ z => nomatch z)
  have R3 := R.mono x3 c.S.own
  have O : Out mg W σ A (cutB D B) (cutH D H) (bnd (stepC T own fc fe ρ p acc) (fun a => bnd (rest a) (mkL r)) s) (kP mg Q) := by rw [bnd_assoc] at O0; exact O0
  have O3 := O.ext (ext_cut x3 (D := D) fun u hu => by rw [hv3] at hu; cases hu; exact pl_lst)
  unfold stepC at O3
  rw [bnd_assoc] at O3
  cases e : asgT T p (wipeR ρ own) with
  | none => rw [e] at O3; exact O3.elim
  | some ρ' =>
    rw [e] at O3
    rw [ofO_some, bnd_ret, bnd_assoc] at O3
    refine ⟨A, B, wipeR ρ own, s, p, ρ', S3, (L1.mono c3.x S1.own).wipe, r3, e, fun σ' L' u' => ⟨wipe_upd u' hsub, A, B, ρ', s, S3, L', (Out.quiet O3.bnd c.b c.n hv3 pl_lst).imp fun A4 B4 H4 s4 b x4 S4 ⟨_, b4, n4, O4⟩ => ?_⟩⟩
    have c4 : Con mg A1 B1 H1 D A4 B4 H4 s4 := ⟨c3.x.trans x4, S4, b4, n4⟩
    have hv4 : H4 D = some (.lst vs) := x4.keep D _ hv3 c.n (fun _ z => nomatch z)
    have R4 := R3.mono x4 S3.own
    cases b with
    | false => exact ⟨A4, B4, s4, acc, vs, c4, hv4, R4, O4⟩
    | true =>
      rw [if_pos rfl, bnd_assoc] at O4
      refine ⟨A4, B4, ρ', s4, S4, L'.mono x4 S3.own, (Out.quiet O4.bnd b4 n4 hv4 pl_lst).imp fun A5 B5 H5 s5 q x5 S5 ⟨_, b5, n5, O5⟩ y ry => ?_⟩
      have c5 : Con mg A1 B1 H1 D A5 B5 H5 s5 := ⟨c4.x.trans x5, S5, b5, n5⟩
      have hv5 : H5 D = some (.lst vs) := x5.keep D _ hv4 n4 (fun _ z => nomatch z)
      have R5 := R4.mono x5 S4.own
      by_cases hl : acc.length < line
      · rw [if_pos hl] at O5
        refine ⟨vs, hv5, by rw [reps_len R5, sizeLine_line]; exact hl, A5, B5, s5, acc ++ [q], vs ++ [y], c5.put hD n1 hv5 pl_lst, upd_same, (reps_app R5 (reps_sole ry)).mono0 (ext0_upd b5), ?_⟩
        rw [cutH_upd]
        exact O5
      · rw [if_neg hl] at O5; exact O5.elim
theorem lc_end {vs : List V} {acc : List P} (c : Con mg A1 B1 H1 D A B H s) (hv : H D = some (.lst vs)) (R : Reps mg A B H acc vs) (O : Out mg W σ A (cutB D B) (cutH D H) (bnd (ret acc) (mkL r) s) (kP mg Q)) : Q (.ref D) H := by
  have z := mkL_out (sto_cut c.S c.b c.n fun u hu => by rw [hv] at hu; cases hu; exact pl_lst) (R.mono0 (ext0_cut c.b)) O (show cutH D H D = none from if_pos rfl)
  rw [upd_cutH hv] at z
  exact z
theorem bnd_cong {m m' : M α} {g : α → M β} {s : Sto} (h : m s = m' s) : bnd m g s = bnd m' g s := by unfold bnd; rw [h]
section
variable {q : P} {mk : Nat → P → P} {step : P → α → M α} {n i : Nat} {a : α} {ys : List P} {y : P}
theorem col_none (e : listOf s q = none) : colRef q mk step (n + 1) i a s = .bad := by unfold colRef; rw [e]
theorem col_end (e : listOf s q = some ys) (h : ys[i]? = none) : colRef q mk step (n + 1) i a s = .ok a s := by unfold colRef; rw [e]; dsimp only; rw [h]
theorem col_item (e : listOf s q = some ys) (h : ys[i]? = some y) : colRef q mk step (n + 1) i a s = bnd (step (mk i y) a) (colRef q mk step n (i + 1)) s := by
  show (match listOf s q with | none => _ | some xs => _) = _
  rw [e]; dsimp only; rw [h]
end
theorem comp_read (hsub : ∀ i ∈ slotsT T, i ∈ own) (h : tE mg W (fun ρ => bnd (fi ρ) fun it => bnd (colIter it (stepC T own fc fe ρ) []) (mkL r)) σ H Q) : tLc (tI mg W fi) (tG mg T) (tT mg W0 fc) (tE mg W0 fe) own σ H Q := by
  obtain ⟨A, B, ρ, s, S, L, O⟩ := h
  refine ⟨A, B, ρ, s, S, L, O.bnd.imp fun A1 B1 H1 s1 it x1 S1 O1 J hJ D hD => ?_⟩
  have L1 := L.mono x1 S.own
  have c0 := con_start (o := .lst []) S1 hD
  have e0 := con_ext0 (o := .lst []) S1 hD
  cases it with
  | vals xs =>
    have hJ : WalkV mg A1 B1 H1 J xs := hJ
    refine ⟨fun i m H => m = xs.length - i ∧ i ≤ xs.length ∧ LcS mg W σ A1 B1 H1 D r Q (colVals (stepC T own fc fe ρ) (xs.drop i)) H, ⟨_, rfl, Nat.zero_le _, A1, _, s1, [], [], c0, upd_same, by simp only [Reps], ?_⟩, fun i m H ⟨em, hi, A2, B2, s2, acc, vs, c, hv, R, O2⟩ => ?_⟩
    · exact Out.ext O1 e0
    obtain ⟨hy, hst⟩ := hJ A2 B2 H s2 c.x c.S
    by_cases hlt : i < xs.length
    · rw [List.drop_eq_getElem_cons hlt] at O2
      obtain ⟨hgo, hyl⟩ := hy i xs[i] (List.getElem?_eq_getElem hlt)
      refine .inr ⟨hgo, LcS mg W σ A1 B1 H1 D r Q (colVals (stepC T own fc fe ρ) (xs.drop (i + 1))), fun H' hN => ⟨xs.length - (i + 1), by omega, rfl, hlt, hN⟩, fun x H' hx => ?_⟩
      obtain ⟨x3, S3, r3⟩ := hyl x H' hx
      exact lc_turn hsub S1 L1 hD c hv R O2 x3 S3 r3
    · have ei : i = xs.length := by omega
      subst ei
      rw [List.drop_length] at O2
      exact .inl ⟨hst, lc_end c hv R O2⟩
  | ref q mk =>
    have hJ : WalkR mg A1 B1 H1 J q mk := hJ
    refine ⟨fun i m H => LcS mg W σ A1 B1 H1 D r Q (colRef q mk (stepC T own fc fe ρ) m i) H, ⟨FUEL, A1, _, s1, [], [], c0, upd_same, by simp only [Reps], ?_⟩, fun i m H ⟨A2, B2, s2, acc, vs, c, hv, R, O2⟩ => ?_⟩
    · exact Out.ext O1 e0
    cases m with
    | zero => exact O2.elim
    | succ m =>
      cases e : listOf s2 q with
      | none => rw [bnd_bad (col_none e)] at O2; exact O2.elim
      | some ys =>
        obtain ⟨hy, hst⟩ := hJ A2 B2 H s2 ys c.x c.S e
        cases e2 : ys[i]? with
        | none =>
          rw [bnd_cong (m' := ret acc) (col_end e e2)] at O2
          exact .inl ⟨hst i e2, lc_end c hv R O2⟩
        | some p =>
          rw [bnd_cong (col_item e e2)] at O2
          obtain ⟨hgo, hyl⟩ := hy i p e2
          refine .inr ⟨hgo, LcS mg W σ A1 B1 H1 D r Q (colRef q mk (stepC T own fc fe ρ) m (i + 1)), fun H' hN => ⟨m, by omega, hN⟩, fun x H' hx => ?_⟩
          obtain ⟨x3, S3, r3⟩ := hyl x H' hx
          exact lc_turn hsub S1 L1 hD c hv R O2 x3 S3 r3
end
end FW

end

section
set_option Elab.async false
set_option linter.all false
set_option maxRecDepth 100000
/-! Fw14: dict comprehensions, dict displays. -/
namespace FW
open PySem PySem.Spec PyProof.Rows L2
variable [Tb]
section
variable {mg : Mg} {W : WX} {σ : L2.St} {A : As} {B : Fb} {H : Hp} {s : Sto} {Q : VK}
theorem mkK_out {r : Al} {xs : List (KeyP × P)} {ks : List (Key × V)} (S : StoR mg A B H s) (R : RepK mg A B H xs ks) (O : Out mg W σ A B H (mkD r false xs s) (kP mg Q)) {p : Addr} (hn : H p = none) : Q (.ref p) (upd H p (.dK ks)) := by
  cases r with
  | val =>
    have x : Ext A B H A B (upd H p (.dK ks)) := ext_new S.bt hn
    exact O A B _ x (sto_new S hn) (.ref p) (by simp only [Rep]; exact ⟨p, ks, rfl, .inl upd_same, nb_new S.bt hn, R.mono x S.own⟩)
  | loc =>
    obtain ⟨A', e, x, S'⟩ := sto_alloc (o := .dct false xs) (u := .dK ks) true S hn (fun _ _ _ z => nomatch z) (fun z => nomatch z) fun A' B' x => ⟨ks, upd_same, R.mono x S.own⟩
    refine O A' _ _ x S' (.ref p) ?_
    simp only [Rep]
    refine ⟨p, rfl, ?_⟩
    rw [e, ← S.ll]
    show (A.l ++ [p])[A.l.length]? = some p
    simp
  | glob =>
    have O : Out mg W σ A B H (allocG (.dct false xs) s) (kP mg Q) := O
    unfold allocG at O
    split at O
    · rename_i hg
      obtain ⟨A', e, x, S'⟩ := sto_alloc (o := .dct false xs) (u := .dK ks) false S hn (fun z => nomatch z) (fun _ => hg) fun A' B' x => ⟨ks, upd_same, R.mono x S.own⟩
      refine O A' _ _ x S' (.ref p) ?_
      simp only [Rep]
      refine ⟨p, rfl, ?_⟩
      rw [e, ← S.lg]
      show (A.g ++ [p])[A.g.length]? = some p
      simp
    · exact O.elim
theorem mkT'_out {r : Al} {xs : List (KeyP × P)} {ks : List (List Key × V)} (S : StoR mg A B H s) (R : RepT mg A B H xs ks) (O : Out mg W σ A B H (mkD r true xs s) (kP mg Q)) {p : Addr} (hn : H p = none) : Q (.ref p) (upd H p (.dT ks)) := by
  cases r with
  | val =>
    have x : Ext A B H A B (upd H p (.dT ks)) := ext_new S.bt hn
    exact O A B _ x (sto_new S hn) (.ref p) (by simp only [Rep]; exact ⟨p, ks, rfl, .inl upd_same, nb_new S.bt hn, R.mono x S.own⟩)
  | loc =>
    obtain ⟨A', e, x, S'⟩ := sto_alloc (o := .dct true xs) (u := .dT ks) true S hn (fun _ _ _ z => nomatch z) (fun z => nomatch z) fun A' B' x => ⟨ks, upd_same, R.mono x S.own⟩
    refine O A' _ _ x S' (.ref p) ?_
    simp only [Rep]
    refine ⟨p, rfl, ?_⟩
    rw [e, ← S.ll]
    show (A.l ++ [p])[A.l.length]? = some p
    simp
  | glob =>
    have O : Out mg W σ A B H (allocG (.dct true xs) s) (kP mg Q) := O
    unfold allocG at O
    split at O
    · rename_i hg
      obtain ⟨A', e, x, S'⟩ := sto_alloc (o := .dct true xs) (u := .dT ks) false S hn (fun z => nomatch z) (fun _ => hg) fun A' B' x => ⟨ks, upd_same, R.mono x S.own⟩
      refine O A' _ _ x S' (.ref p) ?_
      simp only [Rep]
      refine ⟨p, rfl, ?_⟩
      rw [e, ← S.lg]
      show (A.g ++ [p])[A.g.length]? = some p
      simp
    · exact O.elim
end
section
variable {X : Cx} {W : WX} {pos : Pos}
theorem ve_dnewK {r : Al} : VE X W (.Dict [] [] pos) (fun _ => mkD r false []) := pe_dnewK.weak fun σ H Q h => by
  obtain ⟨A, B, ρ, s, S, L, O⟩ := h
  exact fun p hp => mkK_out S (by simp only [RepK]) O hp
theorem ve_dnewT {r : Al} : VE X W (.Dict [] [] pos) (fun _ => mkD r true []) := pe_dnewT.weak fun σ H Q h => by
  obtain ⟨A, B, ρ, s, S, L, O⟩ := h
  exact fun p hp => mkT'_out S (by simp only [RepT]) O hp
end
section
variable {mg : Mg} {W : WX} {σ σ' : L2.St} {A A' : As} {B B' : Fb} {H H' : Hp} {D : Addr} {A1 : As} {B1 : Fb} {H1 : Hp} {s : Sto}
variable {r : Al} {Q : VK} {T : FW.T} {own : List Nat} {fc : Rho → M Bool} {fk fv : Rho → M P} {fi : Rho → M Iter} {ρ : Rho}
abbrev KvP := List (KeyP × P)
def stepD (T : FW.T) (own : List Nat) (fc : Rho → M Bool) (fk fv : Rho → M P) (ρ : Rho) : P → KvP → M KvP := fun x acc => bnd (ofO (asgT T x (wipeR ρ own))) fun ρ' => bnd (quiet (fc ρ')) fun c =>
  if c then bnd (quiet (fk ρ')) fun k => bnd (quiet (fv ρ')) fun v => bnd (ofO (keyOf k)) fun k => if acc.length < line && isT k == false then ret (put acc k v) else bad else ret acc
def DcS (mg : Mg) (W : WX) (σ : L2.St) (A1 : As) (B1 : Fb) (H1 : Hp) (D : Addr) (r : Al) (Q : VK) (rest : KvP → M KvP) (H : Hp) : Prop :=
  ∃ A B s acc ks, Con mg A1 B1 H1 D A B H s ∧ H D = some (.dK ks) ∧ RepK mg A B H acc ks ∧ Out mg W σ A (cutB D B) (cutH D H) (bnd (rest acc) (mkD r false) s) (kP mg Q)
theorem dc_turn {rest : KvP → M KvP} {s1 : Sto} {acc : KvP} {ks : List (Key × V)} {p : P} {v : V} (hsub : ∀ i ∈ slotsT T, i ∈ own) (S1 : StoR mg A1 B1 H1 s1) (L1 : SloR mg A1 B1 H1 ρ σ) (hD : H1 D = none)
    (c : Con mg A1 B1 H1 D A B H s) (hv : H D = some (.dK ks)) (R : RepK mg A B H acc ks) (O0 : Out mg W σ A (cutB D B) (cutH D H) (bnd (bnd (stepD T own fc fk fv ρ p acc) rest) (mkD r false) s) (kP mg Q))
    (x3 : Ext A B H A B H') (S3 : StoR mg A B H' s) (r3 : Rep mg A B H' p v) :
    tG mg T v (wipe σ own) H' fun σ2 H2 => wipe σ2 own = wipe σ own ∧ tT mg W0 fc σ2 H2 fun b H3 =>
      if b = true then tE mg W0 fk σ2 H3 fun y H4 => tE mg W0 fv σ2 H4 fun z H5 => ∃ ks k, y = kV k ∧ H5 D = some (.dK ks) ∧ ks.length < sizeLine ∧ DcS mg W σ A1 B1 H1 D r Q rest (upd H5 D (.dK (putK ks k z))) else DcS mg W σ A1 B1 H1 D r Q rest H3 := by
  have n1 : ¬ Own A1 D := fun z => nb_new S1.bt hD (S1.own D z)
  have c3 : Con mg A1 B1 H1 D A B H' s := ⟨c.x.trans x3, S3, c.b, c.n⟩
  have hv3 : H' D = some (.dK ks) := x3.keep D _ hv c.n (fun _ z => nomatch z)
  have R3 := R.mono x3 c.S.own
  have O : Out mg W σ A (cutB D B) (cutH D H) (bnd (stepD T own fc fk fv ρ p acc) (fun a => bnd (rest a) (mkD r false)) s) (kP mg Q) := by rw [bnd_assoc] at O0; exact O0
  have O3 := O.ext (ext_cut x3 (D := D) fun u hu => by rw [hv3] at hu; cases hu; exact pl_dK)
  unfold stepD at O3
  rw [bnd_assoc] at O3
  cases e : asgT T p (wipeR ρ own) with
  | none => rw [e] at O3; exact O3.elim
  | some ρ' =>
    rw [e] at O3
    rw [ofO_some, bnd_ret, bnd_assoc] at O3
    refine ⟨A, B, wipeR ρ own, s, p, ρ', S3, (L1.mono c3.x S1.own).wipe, r3, e, fun σ' L' u' => ⟨wipe_upd u' hsub, A, B, ρ', s, S3, L', (Out.quiet O3.bnd c.b c.n hv3 pl_dK).imp fun A4 B4 H4 s4 b x4 S4 ⟨_, b4, n4, O4⟩ => ?_⟩⟩
    have c4 : Con mg A1 B1 H1 D A4 B4 H4 s4 := ⟨c3.x.trans x4, S4, b4, n4⟩
    have hv4 : H4 D = some (.dK ks) := x4.keep D _ hv3 c.n (fun _ z => nomatch z)
    have R4 := R3.mono x4 S3.own
    cases b with
    | false => exact ⟨A4, B4, s4, acc, ks, c4, hv4, R4, O4⟩
    | true =>
      rw [if_pos rfl, bnd_assoc] at O4
      refine ⟨A4, B4, ρ', s4, S4, L'.mono x4 S3.own, (Out.quiet O4.bnd b4 n4 hv4 pl_dK).imp fun A5 B5 H5 s5 q x5 S5 ⟨_, b5, n5, O5⟩ y ry => ?_⟩
      have hv5 : H5 D = some (.dK ks) := x5.keep D _ hv4 n4 (fun _ z => nomatch z)
      have R5 := R4.mono x5 S4.own
      rw [bnd_assoc] at O5
      refine ⟨A5, B5, ρ', s5, S5, (L'.mono x4 S3.own).mono x5 S4.own, (Out.quiet O5.bnd b5 n5 hv5 pl_dK).imp fun A6 B6 H6 s6 w x6 S6 ⟨_, b6, n6, O6⟩ z rz => ?_⟩
      have c6 : Con mg A1 B1 H1 D A6 B6 H6 s6 := ⟨(c4.x.trans x5).trans x6, S6, b6, n6⟩
      have hv6 : H6 D = some (.dK ks) := x6.keep D _ hv5 n5 (fun _ z => nomatch z)
      have R6 := R5.mono x6 S5.own
      have ry6 := ry.mono x6 S5.own
      cases hk : keyOf q with
      | none => rw [hk] at O6; exact O6.elim
      | some k =>
        rw [hk, ofO_some, bnd_ret] at O6
        by_cases hl : (acc.length < line && isT k == false) = true
        · rw [if_pos hl] at O6
          rw [Bool.and_eq_true, decide_eq_true_eq] at hl
          rcases keyOf_rep hk ry6 with ⟨j, ej, ey⟩ | ⟨j, b, ej, ey, hb⟩
          · subst ej
            refine ⟨ks, j, ey, hv6, by rw [repK_len R6, sizeLine_line]; exact hl.1, A6, B6, s6, put acc (.k j) w, putK ks j z, c6.put hD n1 hv6 pl_dK, upd_same, (repK_put R6 rz).mono0 (ext0_upd b6), ?_⟩
            rw [cutH_upd]
            exact O6
          · subst ej; exact absurd hl.2 (show ¬ ((true == false) = true) by decide)
        · rw [if_neg hl] at O6; exact O6.elim
theorem dc_end {ks : List (Key × V)} {acc : KvP} (c : Con mg A1 B1 H1 D A B H s) (hv : H D = some (.dK ks)) (R : RepK mg A B H acc ks) (O : Out mg W σ A (cutB D B) (cutH D H) (bnd (ret acc) (mkD r false) s) (kP mg Q)) : Q (.ref D) H := by
  have z := mkK_out (sto_cut c.S c.b c.n fun u hu => by rw [hv] at hu; cases hu; exact pl_dK) (R.mono0 (ext0_cut c.b)) O (show cutH D H D = none from if_pos rfl)
  rw [upd_cutH hv] at z
  exact z
theorem dcomp_read (hsub : ∀ i ∈ slotsT T, i ∈ own) (h : tE mg W (fun ρ => bnd (fi ρ) fun it => bnd (colIter it (stepD T own fc fk fv ρ) []) (mkD r false)) σ H Q) : tDc (tI mg W fi) (tG mg T) (tT mg W0 fc) (tE mg W0 fk) (tE mg W0 fv) own σ H Q := by
  obtain ⟨A, B, ρ, s, S, L, O⟩ := h
  refine ⟨A, B, ρ, s, S, L, O.bnd.imp fun A1 B1 H1 s1 it x1 S1 O1 J hJ D hD => ?_⟩
  have L1 := L.mono x1 S.own
  have c0 := con_start (o := .dK []) S1 hD
  have e0 := con_ext0 (o := .dK []) S1 hD
  cases it with
  | vals xs =>
    have hJ : WalkV mg A1 B1 H1 J xs := hJ
    refine ⟨fun i m H => m = xs.length - i ∧ i ≤ xs.length ∧ DcS mg W σ A1 B1 H1 D r Q (colVals (stepD T own fc fk fv ρ) (xs.drop i)) H, ⟨_, rfl, Nat.zero_le _, A1, _, s1, [], [], c0, upd_same, by simp only [RepK], ?_⟩, fun i m H ⟨em, hi, A2, B2, s2, acc, vs, c, hv, R, O2⟩ => ?_⟩
    · exact Out.ext O1 e0
    obtain ⟨hy, hst⟩ := hJ A2 B2 H s2 c.x c.S
    by_cases hlt : i < xs.length
    · rw [List.drop_eq_getElem_cons hlt] at O2
      obtain ⟨hgo, hyl⟩ := hy i xs[i] (List.getElem?_eq_getElem hlt)
      refine .inr ⟨hgo, DcS mg W σ A1 B1 H1 D r Q (colVals (stepD T own fc fk fv ρ) (xs.drop (i + 1))), fun H' hN => ⟨xs.length - (i + 1), by omega, rfl, hlt, hN⟩, fun x H' hx => ?_⟩
      obtain ⟨x3, S3, r3⟩ := hyl x H' hx
      exact dc_turn hsub S1 L1 hD c hv R O2 x3 S3 r3
    · have ei : i = xs.length := by omega
      subst ei
      rw [List.drop_length] at O2
      exact .inl ⟨hst, dc_end c hv R O2⟩
  | ref q mk =>
    have hJ : WalkR mg A1 B1 H1 J q mk := hJ
    refine ⟨fun i m H => DcS mg W σ A1 B1 H1 D r Q (colRef q mk (stepD T own fc fk fv ρ) m i) H, ⟨FUEL, A1, _, s1, [], [], c0, upd_same, by simp only [RepK], ?_⟩, fun i m H ⟨A2, B2, s2, acc, vs, c, hv, R, O2⟩ => ?_⟩
    · exact Out.ext O1 e0
    cases m with
    | zero => exact O2.elim
    | succ m =>
      cases e : listOf s2 q with
      | none => rw [bnd_bad (col_none e)] at O2; exact O2.elim
      | some ys =>
        obtain ⟨hy, hst⟩ := hJ A2 B2 H s2 ys c.x c.S e
        cases e2 : ys[i]? with
        | none =>
          rw [bnd_cong (m' := ret acc) (col_end e e2)] at O2
          exact .inl ⟨hst i e2, dc_end c hv R O2⟩
        | some p =>
          rw [bnd_cong (col_item e e2)] at O2
          obtain ⟨hgo, hyl⟩ := hy i p e2
          refine .inr ⟨hgo, DcS mg W σ A1 B1 H1 D r Q (colRef q mk (stepD T own fc fk fv ρ) m (i + 1)), fun H' hN => ⟨m, by omega, hN⟩, fun x H' hx => ?_⟩
          obtain ⟨x3, S3, r3⟩ := hyl x H' hx
          exact dc_turn hsub S1 L1 hD c hv R O2 x3 S3 r3
end
end FW

end

section
set_option Elab.async false
set_option linter.all false
set_option maxRecDepth 100000
/-! Fw15: comprehensions as values and as what a name is set to; locks; displays of dicts. -/
namespace FW
open PySem PySem.Spec PyProof.Rows L2
variable [Tb]
/-- in every block that starts here -/
def InBlk (X : Cx) (scope : Scope) (P : Cx → Prop) : Prop := ∀ (s : Shared) (H : Hp) (C : Addr) (cl : List (Str × Addr)) (fp : List Addr), P (X.blk s H scope (compEnvC scope cl C X.env) fp)
section
variable {X : Cx} {tg iter : Expr} {ifs : List Expr} {scope : Scope} {own : List (Str × Nat)} {pos py spos : Pos} {wi : TI} {g : TG} {tt : TT} {i : Nat} {y : Str}
theorem ps_setDc {kx vx : Expr} {tk tv : TE} (hc : X.calm = true) (hN : X.N.Nodup) (hy : X.N[i]? = some y) (hyl : X.env.scope.names.lookup y = some .local)
    (hsw : swapsWith (.DictComp kx vx [⟨tg, iter, ifs, 0⟩] scope pos) (some (.Name y py)) spos.line X.env = pure true) (hi : PI X tg iter wi) (ok : BlkOk X.N X.env.scope scope own)
    (hg : InBlk X scope fun X => PG X tg g) (ht : InBlk X scope fun X => PTs X ifs tt) (hk : InBlk X scope fun X => PE X kx tk) (hv : InBlk X scope fun X => PE X vx tv) (hs : ∀ x, foldedSetIterable iter X.env x = pure x) :
    PS X (.Assign [.Name y py] (.DictComp kx vx [⟨tg, iter, ifs, 0⟩] scope pos) spos) (tAsg (tDc wi g tt tk tv (own.map (·.2))) (gName i)) where
  run := fun pins s σ H D I h => by
    rw [exec_Assign_Name_used _ _ _ _ hsw]
    refine wpAny_bind (wpAny_standAt (wpAny_bind ?_))
    show wpAny _ X.A (do
      let _ ← comprehension (.DictComp kx vx [⟨tg, iter, ifs, 0⟩] scope pos) scope X.env (firstIterPos [⟨tg, iter, ifs, 0⟩] pos) newDict false (eval iter X.env) (some (assign (.Name y py) X.env))) _ _ s
    replace h : tDc wi g tt tk tv (own.map (·.2)) σ H fun x H1 => gName i x σ H1 D.nx := h
    have core := dc_core (pos := pos) (pos' := firstIterPos [⟨tg, iter, ifs, 0⟩] pos) (use := some (assign (.Name y py) X.env)) (Qf := fun _ s' => SP X pins D .next s') hc hN I hi ok hg ht hk hv hs h fun L C s' m H' I' q hn f => by
      show wpAny _ _ (assign (.Name y py) X.env (.ref L)) _ _ _
      refine wpAny_assign_Name (store_ok2 (v := V.ref L) I' hN hy (Or.inl hyl) rfl (fun s2 I2 w => ?_) (Or.inr hyl))
      obtain ⟨a, sb, ha⟩ := w
      have haC : C ≠ a := ha.elim (fun z => z ▸ f.2.1) fun z => fun e => f.2.2.2.2.1 y a z e.symm
      exact ⟨m, hn.sameBut sb haC, fun h3 sb3 => ⟨_, H', I2.turned (t' := s2.toks) (fun b o hb e => (sb3.2 b hb).trans e) f.1 f.2.1 f.2.2.2.1 f.2.2.2.2.1 f.2.2.2.2.2, q⟩⟩
    exact wpAny_bind (thn core fun _ s' hq => wpAny_pure (wpAny_pure hq))
/-- a comprehension, both ways -/
structure CE (X : Cx) (e : Expr) (u : TE) : Prop where
  pe : PE X e u
  ps : ∀ (i : Nat) (y : Str) (py spos : Pos), X.N[i]? = some y → X.env.scope.names.lookup y = some .local → swapsWith e (some (.Name y py)) spos.line X.env = pure true → PS X (.Assign [.Name y py] e spos) (tAsg u (gName i))
theorem CE.weak {e : Expr} {t u : TE} (c : CE X e t) (h : ∀ σ H Q, u σ H Q → t σ H Q) : CE X e u :=
  ⟨c.pe.weak h, fun i y py spos h1 h2 h3 => (c.ps i y py spos h1 h2 h3).weak fun D σ H q => h _ _ _ q⟩
theorem ce_lc {elt : Expr} {te : TE} (hc : X.calm = true) (hN : X.N.Nodup) (hi : PI X tg iter wi) (ok : BlkOk X.N X.env.scope scope own) (hg : InBlk X scope fun X => PG X tg g) (ht : InBlk X scope fun X => PTs X ifs tt) (he : InBlk X scope fun X => PE X elt te)
    (hs : ∀ x, foldedSetIterable iter X.env x = pure x) : CE X (.ListComp elt [⟨tg, iter, ifs, 0⟩] scope pos) (tLc wi g tt te (own.map (·.2))) :=
  ⟨pe_lc hc hN hi ok hg ht he hs, fun i y py spos h1 h2 h3 => ps_setLc hc hN h1 h2 h3 hi ok hg ht he hs⟩
theorem ce_dc {kx vx : Expr} {tk tv : TE} (hc : X.calm = true) (hN : X.N.Nodup) (hi : PI X tg iter wi) (ok : BlkOk X.N X.env.scope scope own) (hg : InBlk X scope fun X => PG X tg g) (ht : InBlk X scope fun X => PTs X ifs tt) (hk : InBlk X scope fun X => PE X kx tk) (hv : InBlk X scope fun X => PE X vx tv)
    (hs : ∀ x, foldedSetIterable iter X.env x = pure x) : CE X (.DictComp kx vx [⟨tg, iter, ifs, 0⟩] scope pos) (tDc wi g tt tk tv (own.map (·.2))) :=
  ⟨pe_dc hc hN hi ok hg ht hk hv hs, fun i y py spos h1 h2 h3 => ps_setDc hc hN h1 h2 h3 hi ok hg ht hk hv hs⟩
end
/-! ### nothing is raised -/
def NoEx {α : Type} (m : M α) : Prop := ∀ s x s', m s ≠ .exn x s'
section
variable {α β : Type}
theorem noex_ret {a : α} : NoEx (ret a) := fun _ _ _ z => nomatch z
theorem noex_bad : NoEx (bad : M α) := fun _ _ _ z => nomatch z
theorem noex_ofO {a : Option α} : NoEx (ofO a) := by cases a <;> exact fun _ _ _ z => nomatch z
theorem noex_bnd {m : M α} {g : α → M β} (h : NoEx m) (k : ∀ a, NoEx (g a)) : NoEx (bnd m g) := fun s x s' e => by
  unfold bnd at e
  split at e
  · exact k _ _ _ _ e
  · rename_i q; exact h _ _ _ q
  · cases e
theorem noex_quiet {m : M α} : NoEx (quiet m) := fun s x s' e => by
  unfold quiet at e
  split at e <;> cases e
theorem noex_vals {step : P → α → M α} (h : ∀ x a, NoEx (step x a)) : ∀ (xs : List P) (a : α), NoEx (colVals step xs a)
  | [], a => noex_ret
  | x :: xs, a => noex_bnd (h x a) fun b => noex_vals h xs b
theorem noex_col {step : P → α → M α} (h : ∀ x a, NoEx (step x a)) {it : Iter} {a : α} : NoEx (colIter it step a) := by
  cases it with
  | vals xs => exact noex_vals h xs a
  | ref q mk =>
    show NoEx (colRef q mk step FUEL 0 a)
    generalize FUEL = n
    generalize (0 : Nat) = i
    induction n generalizing i a with
    | zero => exact noex_bad
    | succ n ih =>
      intro s x s' e
      cases e1 : listOf s q with
      | none => rw [col_none e1] at e; cases e
      | some ys =>
        cases e2 : ys[i]? with
        | none => rw [col_end e1 e2] at e; cases e
        | some y => rw [col_item e1 e2] at e; exact noex_bnd (h _ _) (fun b => ih _) _ _ _ e
theorem noex_mkL {r : Al} {xs : List P} : NoEx (mkL r xs) := by
  cases r with
  | val => exact noex_ret
  | loc => exact fun _ _ _ z => nomatch z
  | glob =>
    intro s x s' e
    have e : allocG (.lst xs) s = .exn x s' := e
    unfold allocG at e
    split at e <;> cases e
theorem noex_mkD {r : Al} {t : Bool} {xs : KvP} : NoEx (mkD r t xs) := by
  cases r with
  | val => exact noex_ret
  | loc => exact fun _ _ _ z => nomatch z
  | glob =>
    intro s x s' e
    have e : allocG (.dct t xs) s = .exn x s' := e
    unfold allocG at e
    split at e <;> cases e
theorem noex_keys {ρ : Rho} {i : Nat} : NoEx (bnd (getV ρ i) keysOf) := by
  refine noex_bnd ?_ fun p => ?_
  · unfold getV; split
    · exact noex_ret
    · exact noex_bad
  · intro s x s' e
    unfold keysOf at e
    split at e <;> cases e
theorem noex_stepC {T : FW.T} {own : List Nat} {fc : Rho → M Bool} {fe : Rho → M P} {ρ : Rho} {x : P} {acc : List P} : NoEx (stepC T own fc fe ρ x acc) := by
  refine noex_bnd noex_ofO fun ρ' => noex_bnd noex_quiet fun c => ?_
  split
  · refine noex_bnd noex_quiet fun p => ?_
    split
    · exact noex_ret
    · exact noex_bad
  · exact noex_ret
theorem noex_stepD {T : FW.T} {own : List Nat} {fc : Rho → M Bool} {fk fv : Rho → M P} {ρ : Rho} {x : P} {acc : KvP} : NoEx (stepD T own fc fk fv ρ x acc) := by
  refine noex_bnd noex_ofO fun ρ' => noex_bnd noex_quiet fun c => ?_
  split
  · refine noex_bnd noex_quiet fun p => noex_bnd noex_quiet fun v => noex_bnd noex_ofO fun k => ?_
    split
    · exact noex_ret
    · exact noex_bad
  · exact noex_ret
end
/-! ### the lock -/
section
variable {mg : Mg} {W : WX} {σ : L2.St} {H : Hp} {Q : VK} {f : Rho → M P} {i : Nat}
theorem Out.w0 {A : As} {B : Fb} {α : Type} {m : M α} {s : Sto} {k : As → Fb → Hp → Sto → α → Prop} (n : NoEx m) (O : Out mg W σ A B H (m s) k) : Out mg W0 σ A B H (m s) k := by
  cases e : m s with
  | ok a s' => rw [e] at O; exact O
  | exn x s' => exact absurd e (n _ _ _)
  | bad => rw [e] at O; exact O
theorem tE_imp {R : VK} (h : tE mg W f σ H Q) (k : ∀ v H, Q v H → R v H) : tE mg W f σ H R := by
  obtain ⟨A, B, ρ, s, S, L, O⟩ := h
  exact ⟨A, B, ρ, s, S, L, O.imp fun A1 B1 H1 s1 p x1 S1 O1 v r => k _ _ (O1 v r)⟩
theorem ext0_lock {A : As} {B : Fb} {a : Addr} {ks : List (Key × V)} {u u' : HO} (h : H a = some u) (hu : u = .dK ks ∨ ∃ ob, u = .frz ob (.dK ks)) (hu' : u' = .dK ks ∨ ∃ ob, u' = .frz ob (.dK ks)) : Ext0 A B H A B (upd H a u') where
  pl := ⟨[], by simp⟩
  pg := ⟨[], by simp⟩
  keep := fun b o e n t k k' => by
    rw [upd_ne]
    · exact e
    · intro z; subst z
      refine k ks ?_
      rcases hu with z | ⟨ob, z⟩
      · exact .inl (by rw [h, z])
      · exact .inr ⟨ob, by rw [h, z]⟩
  kk := fun b ks' r n => by
    by_cases z : b = a
    · subst z
      have e : ks' = ks := by
        rcases rd_at h r with q | ⟨ob, q⟩ <;> rcases hu with z | ⟨ob', z⟩ <;> rw [z] at q <;> cases q <;> rfl
      subst e
      rcases hu' with z | ⟨ob, z⟩
      · exact .inl (by rw [upd_same, z])
      · exact .inr ⟨ob, by rw [upd_same, z]⟩
    · unfold Rd; rw [upd_ne z]; exact r
  kt := fun b ks' r n => by
    by_cases z : b = a
    · subst z
      rcases rd_at h r with q | ⟨ob, q⟩ <;> rcases hu with z | ⟨ob', z⟩ <;> rw [z] at q <;> cases q
    · unfold Rd; rw [upd_ne z]; exact r
  nb := fun b e n => n
theorem lock_tE (hf : ∀ ρ s, f ρ s ≠ .bad → ∃ kvs, ρ[i]? = some (some (.dct false kvs))) (nx : ∀ ρ, NoEx (f ρ)) (h : tE mg W f σ H Q) :
    (Locked i σ H ∧ tE mg W0 f σ H Q) ∨ tLockE (fun σ H Q => Locked i σ H ∧ tE mg W0 f σ H Q) σ H Q := by
  obtain ⟨A, B, ρ, s, S, L, O⟩ := h
  obtain ⟨kvs, hi⟩ := hf ρ s fun z => by rw [z] at O; exact O
  replace O := Out.w0 (nx ρ) O
  obtain ⟨v, hv, r⟩ := L.at_ i _ hi
  simp only [Rep] at r
  obtain ⟨a, ks, ev, rd, nb, R⟩ := r
  subst ev
  rcases rd with rd | ⟨ob, rd⟩
  · refine .inr ⟨a, .dK ks, rd, True.intro, fun od => ?_⟩
    have x0 : Ext0 A B H A B (upd H a (.frz od (.dK ks))) := ext0_lock rd (.inl rfl) (.inr ⟨od, rfl⟩)
    have S1 : StoR mg A B (upd H a (.frz od (.dK ks))) s := S.mono0 x0 (fun b hb u e => by rw [upd_ne (show b ≠ a from fun z => nb (z ▸ S.own b hb))]; exact e) S.own (fun b hb => by
      rw [upd_ne (show b ≠ a from fun z => nb (z ▸ hb))]; exact S.bt b hb) fun p q => tab_chg (a := a) (fun u hu => by rw [rd] at hu; cases hu; exact pl_dK) (fun b u z e => by rw [upd_ne z]; exact e) (S.tab p q)
    refine ⟨⟨a, od, ks, hv, upd_same⟩, A, B, ρ, s, S1, L.mono0 x0, ?_⟩
    cases e : f ρ s with
    | bad => rw [e] at O; exact O
    | exn x s' => rw [e] at O; exact absurd e (nx ρ _ _ _)
    | ok p s' =>
      rw [e] at O
      intro A' B' H' x S' w r
      have na : ¬ Own A a := fun z => nb (S.own a z)
      have ha : H' a = some (.frz od (.dK ks)) := x.keep a _ upd_same na (fun _ z => nomatch z)
      have nb' : ¬ B' a := x.nb a (by rw [upd_same]; exact fun z => nomatch z) nb
      have x2 : Ext0 A' B' H' A' B' (upd H' a (.dK ks)) := ext0_lock ha (.inr ⟨od, rfl⟩) (.inl rfl)
      have S2 : StoR mg A' B' (upd H' a (.dK ks)) s' := S'.mono0 x2 (fun b hb u e => by rw [upd_ne (show b ≠ a from fun z => nb' (z ▸ S'.own b hb))]; exact e) S'.own (fun b hb => by
        rw [upd_ne (show b ≠ a from fun z => nb' (z ▸ hb))]; exact S'.bt b hb) fun p q => tab_chg (a := a) (fun u hu => by rw [ha] at hu; cases hu; exact ⟨(fun _ z => nomatch z), (fun _ z => nomatch z)⟩) (fun b u z e => by rw [upd_ne z]; exact e) (S'.tab p q)
      refine ⟨ha, O A' B' _ ⟨x.pl, x.pg, fun b o e n t => ?_, fun b e n => ?_, x.bb, fun b e => ?_, fun b hb => ?_, fun tt p hp => ?_⟩ S2 w (r.mono0 x2)⟩
      · by_cases z : b = a
        · subst z; rw [upd_same, ← e, rd]
        · rw [upd_ne z]; exact x.keep b o (by rw [upd_ne z]; exact e) n t
      · by_cases z : b = a
        · subst z; exact nb'
        · exact x.nb b (by rw [upd_ne z]; exact e) n
      · by_cases z : b = a
        · subst z; rw [upd_same]; exact fun z => nomatch z
        · rw [upd_ne z]; exact x.there b (by rw [upd_ne z]; exact e)
      · refine (x.fresh b hb).imp id fun q => ?_
        by_cases z : b = a
        · subst z; rw [upd_same] at q; cases q
        · rw [upd_ne z] at q; exact q
      · have t1 : LamX.Tabs Tb.T (upd H a (.frz od (.dK ks))) := fun p hp => tab_chg (a := a) (fun u hu => by rw [rd] at hu; cases hu; exact pl_dK) (fun b u z e => by rw [upd_ne z]; exact e) (tt p hp)
        exact tab_chg (a := a) (fun u hu => by rw [ha] at hu; cases hu; exact ⟨(fun _ z => nomatch z), (fun _ z => nomatch z)⟩) (fun b u z e => by rw [upd_ne z]; exact e) (x.tb t1 p hp)
  · exact .inl ⟨⟨a, ob, ks, hv, rd⟩, A, B, ρ, s, S, L, O⟩
end
section
variable {X : Cx} {W : WX} {e : Expr} {f : Rho → M P} {i : Nat}
abbrev asgM (T : FW.T) (f : Rho → M P) : Rho → M (Flow × Rho) := fun ρ => bnd (f ρ) fun p => bnd (ofO (asgT T p ρ)) fun ρ' => ret (.next, ρ')
/-- what a comprehension is known by -/
structure VC (X : Cx) (W : WX) (e : Expr) (f : Rho → M P) : Prop where
  ve : VE X W e f
  vs : ∀ (i : Nat) (y : Str) (py spos : Pos), X.N[i]? = some y → X.env.scope.names.lookup y = some .local → swapsWith e (some (.Name y py)) spos.line X.env = pure true → VS X W (.Assign [.Name y py] e spos) (asgM (.name i) f)
theorem tG_name {mg : Mg} {i : Nat} {v : V} {σ : L2.St} {H : Hp} {Q : L2.St → Hp → Prop} (h : tG mg (.name i) v σ H Q) : gName i v σ H Q := by
  obtain ⟨A, B, ρ, s, p, ρ', S, L, r, e, q⟩ := h
  have e' : ρ.set i (some p) = ρ' := Option.some.inj e
  exact q _ (e' ▸ L.set r i) ⟨List.length_set, fun j hj => List.getElem?_set_ne (fun z => hj (by rw [z]; exact List.mem_singleton.mpr rfl))⟩
theorem vc_plain (c : CE X e (tE X.mg W f)) : VC X W e f := ⟨c.pe, fun i y py spos h1 h2 h3 => (c.ps i y py spos h1 h2 h3).weak fun D σ H h => tE_imp (asg_read h) fun v H1 q => tG_name q⟩
theorem vc_keys (c : CE X e (fun σ H Q => Locked i σ H ∧ tE X.mg W0 f σ H Q)) (hf : ∀ ρ s, f ρ s ≠ .bad → ∃ kvs, ρ[i]? = some (some (.dct false kvs))) (nx : ∀ ρ, NoEx (f ρ)) : VC X W e f where
  ve := ⟨fun pins s σ H Q I h => (lock_tE hf nx h).elim (fun q => c.pe.run pins s σ H Q I q) fun q => (pe_lock c.pe).run pins s σ H Q I q⟩
  vs := fun i y py spos h1 h2 h3 => ⟨fun pins s σ H D I h => by
    have z : tE X.mg W f σ H fun x H1 => gName i x σ H1 D.nx := tE_imp (asg_read h) fun v H1 q => tG_name q
    rcases lock_tE hf nx z with q | q
    · exact (c.ps i y py spos h1 h2 h3).run pins s σ H D I q
    · exact (ps_lock (c.ps i y py spos h1 h2 h3)).run pins s σ H D I q⟩
end
end FW

end

section
set_option Elab.async false
set_option linter.all false
set_option maxRecDepth 100000
/-! Fw16: a, b = x, y; displays of dicts. -/
namespace FW
open PySem PySem.Spec PyProof.Rows L2
variable [Tb]
def tupM (fs : Rho → M (List P)) : Rho → M P := fun ρ => bnd (fs ρ) fun ps => if ps.length ≤ line then ret (.tup ps) else bad
section
variable {X : Cx} {W : WX} {pos px py pz pt pt2 : Pos} {a b c : Expr} {fs : Rho → M (List P)} {i j l : Nat} {x y z : Str} {kt k2 : Nat}
theorem par_read {mg : Mg} {D : Ends} {σ : L2.St} {H : Hp} {is : List Nat} (h : tS mg W (asgM (.tup (is.map .name)) (tupM fs)) D σ H) :
    tAs mg W fs σ H fun vs H1 => ∃ A B s ps ρ' ρ, StoR mg A B H1 s ∧ SloR mg A B H1 ρ σ ∧ Reps mg A B H1 ps vs ∧ asgTs (is.map .name) ps ρ = some ρ' ∧ ∀ σ', SloR mg A B H1 ρ' σ' → D.nx σ' H1 := by
  obtain ⟨A, B, ρ, s, S, L, O⟩ := h
  have O' : OutS mg W D A B H (bnd (fs ρ) (fun ps => bnd (if ps.length ≤ line then ret (P.tup ps) else bad) fun p => bnd (ofO (asgT (.tup (is.map .name)) p ρ)) fun ρ' => ret (.next, ρ')) s) := by
    have q := O
    unfold asgM tupM at q
    rw [bnd_assoc] at q
    exact q
  refine ⟨A, B, ρ, s, S, L, O'.bnd.imp fun A1 B1 H1 s1 ps x1 S1 O1 vs R => ?_⟩
  by_cases hl : ps.length ≤ line
  · rw [if_pos hl, bnd_ret] at O1
    cases e : asgT (.tup (is.map .name)) (.tup ps) ρ with
    | none => rw [e] at O1; exact O1.elim
    | some ρ' =>
      rw [e, ofO_some, bnd_ret] at O1
      exact ⟨A1, B1, s1, ps, ρ', ρ, S1, L.mono x1 S.own, R, e, fun σ' L' => O1.ret S1 σ' L'⟩
  · rw [if_neg hl] at O1; exact O1.elim
theorem vs_par (hc : X.calm = true) (hN : X.N.Nodup) (hi : X.N[i]? = some x) (hj : X.N[j]? = some y) (hij : i ≠ j) (hx : X.env.scope.names.lookup x = some .local) (hy : X.env.scope.names.lookup y = some .local) (ha : VA X W [a, b] fs)
    (hw : swappedStores [.Tuple [.Name x px, .Name y py] kt pt] (.Tuple [a, b] k2 pt2) X.env = pure (some [x, y])) : VS X W (.Assign [.Tuple [.Name x px, .Name y py] kt pt] (.Tuple [a, b] k2 pt2) pos) (asgM (.tup [.name i, .name j]) (tupM fs)) :=
  (ps_par hc hN hi hj hij hx hy ha hw).weak fun D σ H h => by
    obtain ⟨A0, B0, ρ0, s0, S0, L0, O0⟩ := par_read (is := [i, j]) h
    refine ⟨A0, B0, ρ0, s0, S0, L0, O0.imp fun A1 B1 H1 s1 qs x1 S1 O1 vs Rv => ?_⟩
    obtain ⟨A, B, s, ps, ρ', ρ, S, L, R, e, k⟩ := O1 vs Rv
    have hl := asgTs_len e
    match ps, hl with
    | [p, q], _ =>
      simp only [Reps] at R
      obtain ⟨v, _, e1, r1, w, _, e2, r2, e3⟩ := R
      subst e3; subst e2
      have e' : (ρ.set i (some p)).set j (some q) = ρ' := Option.some.inj e
      exact ⟨v, w, e1, k _ (e' ▸ (L.set r1 i).set r2 j)⟩
theorem vs_par3 (hc : X.calm = true) (hN : X.N.Nodup) (hi : X.N[i]? = some x) (hj : X.N[j]? = some y) (hl : X.N[l]? = some z) (hij : i ≠ j) (hil : i ≠ l) (hjl : j ≠ l) (hx : X.env.scope.names.lookup x = some .local) (hy : X.env.scope.names.lookup y = some .local) (hz : X.env.scope.names.lookup z = some .local) (ha : VA X W [a, b, c] fs)
    (hw : swappedStores [.Tuple [.Name x px, .Name y py, .Name z pz] kt pt] (.Tuple [a, b, c] k2 pt2) X.env = pure (some [x, y, z])) : VS X W (.Assign [.Tuple [.Name x px, .Name y py, .Name z pz] kt pt] (.Tuple [a, b, c] k2 pt2) pos) (asgM (.tup [.name i, .name j, .name l]) (tupM fs)) :=
  (ps_par3 hc hN hi hj hl hij hil hjl hx hy hz ha hw).weak fun D σ H h => by
    obtain ⟨A0, B0, ρ0, s0, S0, L0, O0⟩ := par_read (is := [i, j, l]) h
    refine ⟨A0, B0, ρ0, s0, S0, L0, O0.imp fun A1 B1 H1 s1 qs x1 S1 O1 vs Rv => ?_⟩
    obtain ⟨A, B, s, ps, ρ', ρ, S, L, R, e, k⟩ := O1 vs Rv
    have hl := asgTs_len e
    match ps, hl with
    | [p, q, r], _ =>
      simp only [Reps] at R
      obtain ⟨v, _, e1, r1, w, _, e2, r2, u, _, e3, r3, e4⟩ := R
      subst e4; subst e3; subst e2
      have e' : ((ρ.set i (some p)).set j (some q)).set l (some r) = ρ' := Option.some.inj e
      exact ⟨v, w, u, e1, k _ (e' ▸ ((L.set r1 i).set r2 j).set r3 l)⟩
end
/-! ### displays of dicts, the keys constants -/
def evL : List (Rho → M P) → Rho → M (List P)
  | [], _ => ret []
  | f :: r, ρ => bnd (f ρ) fun p => bnd (evL r ρ) fun ps => ret (p :: ps)
section
variable {mg : Mg} {σ : L2.St} {H : Hp}
/-- k: f, pair by pair -/
def trK (mg : Mg) : List Key → List (Rho → M P) → List (TE × TE)
  | k :: ks, f :: fs => (tE mg W0 (fun _ => ret (keyK' k)), tE mg W0 f) :: trK mg ks fs
  | _, _ => []
theorem pairs_read {ρ : Rho} : ∀ {ks : List Key} {fs : List (Rho → M P)} {H : Hp} {A : As} {B : Fb} {s : Sto} {K : List (V × V) → Hp → Prop}, ks.length = fs.length → StoR mg A B H s → SloR mg A B H ρ σ →
    Out mg W0 σ A B H (evL fs ρ s) (fun A' B' H' s' qs => ∀ ws, Reps mg A' B' H' qs ws → K ((ks.map kV).zip ws) H') → tPairs (trK mg ks fs) σ H K
  | [], [], H, A, B, s, K, _, S, L, O => O.ret S [] (by simp only [Reps])
  | k :: ks, f :: fs, H, A, B, s, K, hl, S, L, O => by
    refine ⟨A, B, ρ, s, S, L, fun A1 B1 H1 x1 S1 v r => ?_⟩
    have ek : v = kV k := by cases k <;> (simp only [keyK', Rep] at r; exact r)
    subst ek
    have O1 : Out mg W0 σ A1 B1 H1 (evL (f :: fs) ρ s) _ := Out.ext O x1
    refine ⟨A1, B1, ρ, s, S1, L.mono x1 S.own, O1.bnd.imp fun A2 B2 H2 s2 p x2 S2 O2 w rw => ?_⟩
    refine pairs_read (ks := ks) (fs := fs) (by simpa using hl) S2 ((L.mono x1 S.own).mono x2 S1.own) (O2.bnd.imp fun A3 B3 H3 s3 qs x3 S3 O3 ws Rw => ?_)
    exact O3.ret S3 (w :: ws) (by simp only [Reps]; exact ⟨w, ws, rfl, rw.mono x3 S2.own, Rw⟩)
theorem repK_of {A : As} {B : Fb} : ∀ {ks : List Key} {qs : List P} {ws : List V}, ks.length = qs.length → Reps mg A B H qs ws → RepK mg A B H ((ks.map KeyP.k).zip qs) (ks.zip ws)
  | [], [], ws, _, h => by simp only [Reps] at h; subst h; simp [RepK]
  | k :: ks, q :: qs, ws, hl, h => by
    simp only [Reps] at h
    obtain ⟨v, r, e, h1, h2⟩ := h
    subst e
    simp only [List.map_cons, List.zip_cons_cons, RepK]
    exact ⟨k, v, _, rfl, rfl, h1, repK_of (by simpa using hl) h2⟩
theorem repK_fold {A : As} {B : Fb} : ∀ {kvs : KvP} {ks : List (Key × V)} {acc : KvP} {ac : List (Key × V)}, RepK mg A B H kvs ks → RepK mg A B H acc ac → RepK mg A B H (kvs.foldl (fun acc kv => put acc kv.1 kv.2) acc) (mergeK ac ks)
  | [], _, acc, ac, h, h2 => by simp only [RepK] at h; subst h; exact h2
  | (k, p) :: kvs, _, acc, ac, h, h2 => by
    simp only [RepK] at h
    obtain ⟨j, v, r, e, ek, h1, h3⟩ := h
    subst e; subst ek
    show RepK mg A B H (kvs.foldl _ (put acc (.k j) p)) (mergeK (putK ac j v) r)
    exact repK_fold h3 (repK_put h2 h1)
end
/-- a display, the keys these -/
def dispM (r : Al) (ks : List Key) (fs : List (Rho → M P)) : Rho → M P := fun ρ => bnd (quiet (evL fs ρ)) fun qs => mkD r false (((ks.map KeyP.k).zip qs).foldl (fun acc kv => put acc kv.1 kv.2) [])
section
variable {X : Cx} {W : WX} {pos : Pos}
theorem evL_len : ∀ {fs : List (Rho → M P)} {ρ : Rho} {s s' : Sto} {qs : List P}, evL fs ρ s = .ok qs s' → qs.length = fs.length
  | [], _, _, _, _, h => by cases h; rfl
  | f :: fs, ρ, s, s', qs, h => by
    obtain ⟨p, s1, h1, h2⟩ := bnd_inv h
    obtain ⟨ps, s2, h3, h4⟩ := bnd_inv h2
    cases h4
    rw [List.length_cons, List.length_cons, evL_len h3]
theorem disp_read {mg : Mg} {r : Al} {ks : List Key} {fs : List (Rho → M P)} {σ : L2.St} {H : Hp} {Q : VK} (hl : ks.length = fs.length) (h15 : ks.length ≤ 15) (h : tE mg W (dispM r ks fs) σ H Q) : tDisp (trK mg ks fs) σ H Q := by
  obtain ⟨A, B, ρ, s, S, L, O⟩ := h
  intro D hD
  have c0 := con_start (o := .dK []) S hD
  have e0 := con_ext0 (o := .dK []) S hD
  have O0 : Out mg W σ A (cutB D fun b => B b ∨ b = D) (cutH D (upd H D (.dK []))) (bnd (quiet (evL fs ρ)) (fun qs => mkD r false (((ks.map KeyP.k).zip qs).foldl (fun acc kv => put acc kv.1 kv.2) [])) s) (kP mg Q) := Out.ext O e0
  have hD0 : upd H D (.dK []) D ≠ none := by rw [upd_same]; exact fun z => nomatch z
  have O1 := Out.quiet (σ' := σ) O0.bnd c0.b c0.n (o := .dK []) upd_same pl_dK
  refine pairs_read hl c0.S (L.mono c0.x S.own) ?_
  cases e : evL fs ρ s with
  | bad => rw [e] at O1; exact O1
  | exn x s' => rw [e] at O1; exact O1
  | ok qs s' =>
    rw [e] at O1
    intro A2 B2 H2 x2 S2 ws Rw
    obtain ⟨_, b2, n2, O2⟩ := O1 A2 B2 H2 x2 S2
    have hD2 : H2 D = some (.dK []) := x2.keep D _ upd_same c0.n (fun _ z => nomatch z)
    have lq := evL_len e
    refine ⟨hD2, ks.zip ws, ?_, by rw [List.length_zip]; omega, ?_⟩
    · have lw := reps_len Rw
      clear O1 O2 Rw
      have : ∀ (ks : List Key) (ws : List V), (ks.map kV).zip ws = (ks.zip ws).map fun kv => (kV kv.1, kv.2) := by
        intro ks
        induction ks with
        | nil => intro ws; rfl
        | cons k ks ih =>
          intro ws
          cases ws with
          | nil => rfl
          | cons w ws => simp only [List.map_cons, List.zip_cons_cons, ih]
      exact this ks ws
    · have R1 : RepK mg A2 B2 H2 ((ks.map KeyP.k).zip qs) (ks.zip ws) := repK_of (by omega) Rw
      have R2 := repK_fold (acc := []) (ac := []) R1 (by simp only [RepK])
      have z := mkK_out (sto_cut S2 b2 n2 fun u hu => by rw [hD2] at hu; cases hu; exact pl_dK) (R2.mono0 (ext0_cut b2)) O2 (show cutH D H2 D = none from if_pos rfl)
      have e3 : upd (cutH D H2) D (.dK (mergeK [] (ks.zip ws))) = upd H2 D (.dK (mergeK [] (ks.zip ws))) := by
        funext b
        by_cases q : b = D
        · subst q; rw [upd_same, upd_same]
        · rw [upd_ne q, upd_ne q, cutH_ne q]
      rw [e3] at z
      exact z
theorem ve_disp {r : Al} {ks : List Key} {fs : List (Rho → M P)} {keys : List (Option Expr)} {values : List Expr} (hp : PPs X pos keys values (trK X.mg ks fs)) (hl : ks.length = fs.length) (h15 : ks.length ≤ 15) (hk : keys.length = ks.length) (hv : values.length = ks.length) (h0 : ks ≠ [])
    (hall : keys.all (·.isSome) = true) : VE X W (.Dict keys values pos) (dispM r ks fs) :=
  (pe_disp hp hall (by omega) (fun z => h0 (by rw [z] at hk; exact List.length_eq_zero_iff.mp hk.symm)) (by omega)).weak fun σ H Q h => disp_read hl h15 h
end
end FW

end

section
set_option Elab.async false
set_option linter.all false
set_option maxRecDepth 100000
/-! Fw17a: t[::-1] of a tuple. -/
namespace HT
open PySem PyProof.Rows
section
variable {prog : Program} {w : World} {A : Around} {E : Value → Shared → Prop} {s : Shared}
theorem places_rev (n : Nat) : Builtin.Slice.slicePlaces ((n : Int) - 1) (-1) (-1) = n := by
  unfold Builtin.Slice.slicePlaces
  have h1 : ¬ ((-1 : Int) > 0) := by omega
  simp only [h1, if_false]
  split
  · have e : ((n : Int) - 1 - -1 + - -1 - 1) = (n : Int) := by omega
    simp only [Int.neg_neg, Int.ediv_one] at *
    omega
  · omega
theorem adjust_rev (n : Nat) : Builtin.Slice.sliceAdjust none none (-1) (n : Int) = ((n : Int) - 1, -1) := by
  unfold Builtin.Slice.sliceAdjust
  have h1 : (-1 : Int) < 0 := by omega
  simp only [h1, if_true]
theorem applied_rev {sl : Addr} {u : Tok} {n : Nat} {Q : Int × Int × Nat → Shared → Prop} (hs : s.heap.IsSliceOf sl .none .none (.int (-1) u)) (h : Q ((n : Int) - 1, -1, n) s) :
    wpAny (model prog w) A (Builtin.Slice.sliceApplied (.ref sl) (pure (n : Int))) Q E s := by
  obtain ⟨os, hos, hcs, hds⟩ := id hs
  unfold Builtin.Slice.sliceApplied; unfold Builtin.Slice.sliceFields
  refine wpAny_bind (wpAny_bind (wpAny_field hos hds (x := .none) rfl (wpAny_bind (wpAny_field hos hds (x := .none) rfl (wpAny_bind (wpAny_field hos hds (x := .int (-1) u) rfl (wpAny_pure ?_)))))))
  refine wpAny_bind (slicePart_int ?_)
  show wpAny _ _ (if ((-1 : Int) == 0) = true then _ else _) _ _ s
  rw [if_neg (show ¬ (((-1 : Int) == 0) = true) by decide)]
  refine wpAny_bind (slicePart_none (wpAny_bind (slicePart_none (wpAny_bind (wpAny_pure ?_)))))
  show wpAny _ _ (match Builtin.Slice.sliceAdjust none none (-1) (n : Int) with | (lo, hi) => pure (lo, (-1 : Int), Builtin.Slice.slicePlaces lo hi (-1))) _ _ s
  rw [adjust_rev n]
  show wpAny _ _ (pure ((n : Int) - 1, (-1 : Int), Builtin.Slice.slicePlaces ((n : Int) - 1) (-1) (-1))) _ _ s
  rw [places_rev]
  exact wpAny_pure h
theorem pick_rev (xs : Array Value) : ((List.range xs.size).filterMap fun (m : Nat) => xs[(((xs.size : Int) - 1) + (m : Int) * (-1)).toNat]?).toArray = xs.toList.reverse.toArray := by
  congr 1
  have e : ∀ m ∈ List.range xs.size, xs[(((xs.size : Int) - 1) + (m : Int) * (-1)).toNat]? = some (xs[xs.size - 1 - m]?.getD .none) := fun m hm => by
    have hm := List.mem_range.mp hm
    have e1 : (((xs.size : Int) - 1) + (m : Int) * (-1)).toNat = xs.size - 1 - m := by omega
    rw [e1, Array.getElem?_eq_getElem (by omega)]
    rfl
  have key : ∀ (l : List Nat) (f : Nat → Option Value) (g : Nat → Value), (∀ m ∈ l, f m = some (g m)) → l.filterMap f = l.map g := by
    intro l f g
    induction l with
    | nil => intro _; rfl
    | cons a l ih =>
      intro h
      rw [List.filterMap_cons, h a List.mem_cons_self, ih fun m hm => h m (List.mem_cons_of_mem _ hm)]
      rfl
  rw [key _ _ _ e]
  refine List.ext_getElem (by simp) fun i h1 h2 => ?_
  simp only [List.getElem_map, List.getElem_range, List.getElem_reverse, Array.getElem_toList, Array.length_toList]
  have hi : i < xs.size := by simpa using h1
  rw [Array.getElem?_eq_getElem (by omega)]
  rfl
theorem getItem_tuple_rev {t sl : Addr} {items : Array Value} {u : Tok} {Q : Value → Shared → Prop} (ht : IsTup s.heap t items) (hs : s.heap.IsSliceOf sl .none .none (.int (-1) u))
    (h : Q (.ref s.heap.objs.size) { s with heap := s.heap.push { cls := .type "tuple", data := .seq items.toList.reverse.toArray } }) (hsz : items.size ≤ sizeLine) : wpAny (model prog w) A (getItem (.ref t) (.ref sl)) Q E s := by
  have hz : sizeOk (.seq items.toList.reverse.toArray) := by
    show items.toList.reverse.toArray.size ≤ sizeLine
    rw [List.size_toArray, List.length_reverse, Array.length_toList]; exact hsz
  obtain ⟨os, hos, hcs, hds⟩ := id hs
  have hTs : s.TypeIs (.ref sl) "slice" := ⟨os, hos, hcs⟩
  unfold getItem; try with_reducible refine wpAny_holding ?_
  first | refine wpAny_bind (wpAny_pure ?_) | skip
  refine wpAny_bind (wpAny_sequenceKey ht.typeIs (by decide) (wpAny_bind (wpAny_callSpecial?_slot (name := Str.ofString "__getitem__") ht.typeIs PyProof.Rows.slot_tuple_getitem
    (wpAny_call_entry PyProof.Rows.slot_tuple_getitem ht.typeIs entry_tuple_getitem ?_ (args_tuple_getitem _ _)))))
  show wpAny _ _ (Builtin.Tuple.tupleItemsOf (.ref t) >>= _) _ _ s
  refine wpAny_bind (tupleItemsOf_ ht (wpAny_bind (wpAny_typeOf hTs ?_)))
  rw [if_pos (show (Value.type "slice" == Value.type "slice") = true by decide)]
  refine wpAny_bind (applied_rev hs ?_)
  have hno : ¬ ((((items.size : Int) - 1) == 0 && (-1 : Int) == 1 && items.size == items.size) = true) := fun q => by
    rw [Bool.and_eq_true, Bool.and_eq_true] at q
    exact absurd q.1.2 (by decide)
  show wpAny _ _ (if (((items.size : Int) - 1) == 0 && (-1 : Int) == 1 && items.size == items.size) = true then _ else _) _ _ s
  rw [if_neg hno, pick_rev]
  exact wpAny_bind (m := Builtin.Tuple.tupleExact _) (wpAny_newObj_type (wpAny_pure ⟨_, rfl, wpAny_pure h⟩) hz)
end
end HT
namespace FW
open PySem PySem.Spec PyProof.Rows L2
variable [Tb]
/-- e[::-1], a list or a tuple -/
def tRevA (K : PySem.W.Frag) (te : TE) : TE := fun σ H Q => te σ H fun x H1 => ∃ a xs, x = .ref a ∧ ((SqL K H1 a xs ∧ ∀ p, H1 p = none → Q (.ref p) (upd H1 p (.lst xs.reverse))) ∨ (SqT K H1 a xs ∧ ∀ p, H1 p = none → Q (.ref p) (upd H1 p (.tup xs.reverse))))
abbrev revSl (k : Nat) (p1 p2 p3 : Pos) : Expr := .Slice none none (some (.UnaryOp .USub (.Constant (.int 1) k p1) p2)) p3
theorem pe_revA {X : Cx} {e : Expr} {te : TE} {k : Nat} {p1 p2 p3 pos : Pos} (he : PE X e te) : PE X (.Subscript e (revSl k p1 p2 p3) pos) (tRevA X.K te) where
  run := fun pins s σ H Q I h => by
    refine Subscript_ (thn (he.run pins s σ H _ I h) fun v s1 ⟨x, H1, I1, r1, a, xs, ex, q⟩ => ?_)
    subst ex
    cases r1
    have hst : PO X (some (.UnaryOp .USub (.Constant (.int 1) k p1) p2)) (tPart (tUn (rU fun i => .int (-i)) (tC (.int 1)))) := po_some (pe_un un_neg pe_int)
    refine wpAny_Slice (thn (po_none.run pins s1 σ H1 (fun o H2 => o = none ∧ H2 = H1) I1 ⟨rfl, rfl⟩) fun vl s2 ⟨l, H2, I2, pl, el, e2⟩ => thn (po_none.run pins s2 σ H2 (fun o H3 => o = none ∧ H3 = H1) I2 ⟨rfl, e2⟩) fun vu s3 ⟨u, H3, I3, pu, eu, e3⟩ => ?_)
    subst el e2 eu e3
    refine thn (hst.run pins s3 σ _ (fun o H4 => o = some (-1) ∧ H4 = H3) I3 ⟨1, rfl, -1, rfl, rfl, rfl⟩) fun vs s4 ⟨o, H4, I4, ps, eo, e4⟩ => ?_
    subst eo e4
    have I5 : Inv X pins σ H4 { s4 with heap := s4.heap.push { cls := .type "slice", data := .fields #[vl, vu, vs] } } := I4.kept (t' := s4.toks) fun b ob q => Heap.get?_push_of_some _ q
    cases pl
    cases pu
    cases ps with
    | int i t =>
      show wpAny (model X.prog X.w) X.A (subscriptTail e (revSl k p1 p2 p3) (.ref a) (.ref s4.heap.objs.size)) (EP X pins σ Q) X.xe { s4 with heap := s4.heap.push { cls := .type "slice", data := .fields #[.none, .none, .int (-1) t] } }
      rcases q with ⟨hx, q⟩ | ⟨hx, q⟩
      · obtain ⟨its, r, ht, hz⟩ := I5.list hx
        have hlen := r.length
        refine tail_any (ops := [.ref a, .ref s4.heap.objs.size]) ht.isList.typeIs (PySem.slot_list_getitem.lookup) ?_ (by with_unfolding_all rfl)
        refine wpAny_getItem_list_slice ht.isList (Heap.IsSliceOf.new _ _ _ _) .none .none (.int (-1) t) (by decide) ?_ (by rw [List.size_toArray]; omega)
        rw [PySem.W.krv_pick]
        exact ⟨.ref _, _, I5.laid (t' := s4.toks) (o := .lst xs.reverse) (fun b ob q => Heap.get?_push_of_some _ q) (Nat.le_refl _) ⟨by rw [List.length_reverse]; exact hz, _, 0, r.reverse, Heap.get?_push_size _ rfl⟩, rfl, q _ (I5.hok.fresh (Nat.le_refl _))⟩
      · obtain ⟨its, r, ht, hz⟩ := I5.tuple hx
        have hlen := r.length
        refine tail_any (ops := [.ref a, .ref s4.heap.objs.size]) ht.typeIs (PyProof.Rows.slot_tuple_getitem.lookup) ?_ (by with_unfolding_all rfl)
        refine HT.getItem_tuple_rev ht (Heap.IsSliceOf.new _ _ _ _) ?_ (by rw [List.size_toArray]; omega)
        exact ⟨.ref _, _, I5.laid (t' := s4.toks) (o := .tup xs.reverse) (fun b ob q => Heap.get?_push_of_some _ q) (Nat.le_refl _) ⟨by rw [List.length_reverse]; exact hz, _, r.reverse, ⟨_, Heap.get?_push_size _ rfl, rfl, _, rfl⟩⟩, rfl, q _ (I5.hok.fresh (Nat.le_refl _))⟩
theorem ve_rev {X : Cx} {W : WX} {a : Expr} {fa : Rho → M P} {r : Al} {k : Nat} {p1 p2 p3 pos : Pos} (ha : VE X W a fa) : VE X W (.Subscript a (revSl k p1 p2 p3) pos) (fun ρ => bnd (fa ρ) (pRev r)) :=
  (pe_revA ha).weak fun σ H Q h => by
    obtain ⟨A, B, ρ, s, S, L, O⟩ := h
    refine ⟨A, B, ρ, s, S, L, O.bnd.imp fun A1 B1 H1 s1 p x1 S1 O1 v rp => ?_⟩
    unfold pRev at O1
    split at O1
    · obtain ⟨a, vs, e, h1, R1⟩ := rep_tup rp
      exact ⟨a, vs, e, .inr ⟨SqT.of h1, fun p hp => mkT_out S1 (reps_rev R1) O1 hp⟩⟩
    · split at O1
      · rename_i xs hx
        obtain ⟨a, vs, e, h1, R1⟩ := rep_list S1 rp hx
        exact ⟨a, vs, e, .inl ⟨SqL.of h1, fun p hp => mkL_out S1 (reps_rev R1) O1 hp⟩⟩
      · exact O1.elim
end FW

end

section
set_option Elab.async false
set_option linter.all false
set_option maxRecDepth 100000
/-! Fw17: calls, by the names' entries; built-in functions, methods; attributes. -/
namespace FW
open PySem PySem.Spec PyProof.Rows L2
variable [Tb]
/-- what is wanted of exceptions, whatever the slots -/
abbrev wE (E : XK) : WX := fun cls d _ H => E cls d H
theorem passes_of' {X : Cx} {E : XK} (tk : Takes X (wE E)) : Passes (L2.CX X.prog X.w) X E := fun pins σ H s e s' I c => passAt tk σ pins H s e s' I c
theorem passes_no {X : Cx} : Passes (L2.CX X.prog X.w) X (fun _ _ _ => False) := fun pins σ H s e s' I c => by
  obtain ⟨_, _, _, _, _, _, _, _, _, _, _, _, z⟩ := c
  exact z.elim
/-- a def, as a call must know it -/
structure FnE (pg : Program) (w : World) (K : PySem.W.Frag) (mg : Mg) (base : Heap) (k : Nat) (dsOk : List P → Bool) (ksOk : List String → List Nat → Bool) (f : String) (F : Fn) : Prop where
  ex : ∃ (a : Addr) (fd : FuncData) (params : List Str), mg (f : Str) = some (.ref a) ∧ PySem.W.keepIn K (.ref a) = true ∧ FnOk pg w K mg base (L2.CX pg w) k a fd params (spOf mg params.length F) ∧ (∀ args g, F args g ≠ .bad → args.length = params.length) ∧
    (∀ ds, dsOk ds = true → ∃ dvs dus, ds.mapM scalV = some dvs ∧ Vals dvs dus ∧ Binds K fd params dus) ∧
    (∀ ks pm, ksOk ks pm = true → KBn K fd params 0 (ks.map Str.ofString) (fun us ws => us ++ pm.filterMap (ws[·]?)) (fun vs zs => vs ++ pm.filterMap (zs[·]?)))
theorem mapM_len {α β : Type} {f : α → Option β} : ∀ {xs : List α} {ys : List β}, xs.mapM f = some ys → ys.length = xs.length
  | [], ys, h => by
    have e : ([] : List β) = ys := by simpa using h
    subst e; rfl
  | x :: xs, ys, h => by
    obtain ⟨d, ds, h1, h2, e⟩ := mapM_cons_some h
    subst e
    rw [List.length_cons, List.length_cons, mapM_len h2]
theorem callF_len {F : Fn} {n : Nat} {ps : List P} {s : Sto} (hF : ∀ args g, F args g ≠ .bad → args.length = n) (h : callF F ps s ≠ .bad) : ps.length = n := by
  unfold callF at h
  split at h
  · exact hF ps s.g fun z => h (by rw [z])
  · split at h
    · exact absurd rfl h
    · rename_i vs hv
      rw [← mapM_len hv]
      exact hF vs s.g fun z => h (by rw [z])
theorem Out.nbad {mg : Mg} {W : WX} {σ : L2.St} {A : As} {B : Fb} {H : Hp} {α : Type} {r : R α} {k : As → Fb → Hp → Sto → α → Prop} (O : Out mg W σ A B H r k) : r ≠ .bad := fun z => by rw [z] at O; exact O
section
variable {X : Cx} {E : XK} {k : Nat} {dsOk : List P → Bool} {ksOk : List String → List Nat → Bool} {f : String} {F : Fn} {ds : List P} {p pos : Pos} {e : Expr} {es : List Expr} {fs fk : Rho → M (List P)}
theorem ve_callE (G : FnE X.prog X.w X.K X.mg X.base k dsOk ksOk f F) (hr : Room k X.A) (hg : Gl X (f : Str)) (hds : dsOk ds = true) (tk : Takes X (wE E)) (ha : VA X (wE E) (e :: es) fs) (hdb : ((f : Str) == ("__debug__" : Str)) = false)
    (he : starEach (e :: es) X.env = (false, eval e X.env) :: starEach es X.env) (hpl : (backTo pos (starEach es X.env)).any (·.1) = false) :
    VE X (wE E) (.Call (.Name (f : Str) p) (e :: es) [] pos) (fun ρ => bnd (fs ρ) fun ps => callF F (ps ++ ds)) := by
  obtain ⟨a, fd, params, hm, hk, G, hF, hd, _⟩ := G.ex
  obtain ⟨dvs, dus, e1, e2, hb⟩ := hd ds hds
  refine (pe_callSD G hr hg hm hk hb e2 (E := fun σ => WE (wE E) σ) (fun σ => passAt tk σ) ha hdb he hpl).weak fun σ H Q h => ?_
  obtain ⟨A, B, ρ, s, S, L, O⟩ := h
  refine ⟨A, B, ρ, s, S, L, O.bnd.imp fun A1 B1 H1 s1 ps x1 S1 O1 vs r => ?_⟩
  exact call_read S1 (reps_app r (scals_rep e1)) (callF_len hF O1.nbad) O1
/-- keywords -/
theorem pk_len {X : Cx} {W : WX} : True := trivial
def tKs (mg : Mg) (W : WX) (f : Rho → M (List P)) : TA := tAs mg W f
theorem reps_pick {mg : Mg} {A : As} {B : Fb} {H : Hp} {qs : List P} {zs : List V} (R : Reps mg A B H qs zs) : ∀ (pm : List Nat), Reps mg A B H (pm.filterMap (qs[·]?)) (pm.filterMap (zs[·]?))
  | [] => by simp [Reps]
  | i :: pm => by
    cases h : qs[i]? with
    | none =>
      have h2 : zs[i]? = none := by
        rw [List.getElem?_eq_none_iff] at h ⊢
        rw [reps_len R]; exact h
      rw [List.filterMap_cons, List.filterMap_cons, h, h2]
      exact reps_pick R pm
    | some q =>
      obtain ⟨v, hv, rv⟩ := reps_get R h
      rw [List.filterMap_cons, List.filterMap_cons, h, hv]
      simp only [Reps]
      exact ⟨v, _, rfl, rv, reps_pick R pm⟩
theorem ve_callK0 {ks : List String} {pm : List Nat} {kws : List Keyword} (G : FnE X.prog X.w X.K X.mg X.base k dsOk ksOk f F) (hr : Room k X.A) (hg : Gl X (f : Str)) (hks : ksOk ks pm = true) (tk : Takes X (wE E)) (hkw : PK X kws (tAs X.mg (wE E) fk)) (hdb : ((f : Str) == ("__debug__" : Str)) = false)
    (hall : (backToKw pos (keywordEach kws X.env)).all (·.1.isSome) = true) (hkn : (backToKw pos (keywordEach kws X.env)).filterMap (·.1) = ks.map Str.ofString) (hpl : ((backTo pos (starEach [] X.env)).any (·.1) || (backToKw pos (keywordEach kws X.env)).any (·.1.isNone)) = false)
    (hlen : ∀ ρ s qs s', fk ρ s = .ok qs s' → qs.length = ks.length) :
    VE X (wE E) (.Call (.Name (f : Str) p) [] kws pos) (fun ρ => bnd (fk ρ) fun qs => callF F (pm.filterMap (qs[·]?))) := by
  obtain ⟨a, fd, params, hm, hk, G, hF, _, hb⟩ := G.ex
  refine ⟨fun pins s σ H Q I h => wpAny_Call_Name_kw (ld_glob I hg hm (PySem.W.callWith_KW0 (h₀ := X.base) I.ok.mod.kin hk hall ?_ hpl) hdb)⟩
  obtain ⟨A, B, ρ, st, S, L, O⟩ := h
  refine thn (hkw.run pos pins s σ H (fun zs H1 => zs.length = ks.length ∧ spOf X.mg params.length F (pm.filterMap (zs[·]?)) H1 Q E) I ⟨A, B, ρ, st, S, L, ?_⟩) fun ws s2 q => ?_
  · have O : Out X.mg (wE E) σ A B H (bnd (fk ρ) (fun qs => callF F (pm.filterMap (qs[·]?))) st) (kP X.mg Q) := O
    cases e : fk ρ st with
    | bad => rw [bnd_bad e] at O; exact O
    | exn x s' => rw [bnd_exn e] at O; exact O
    | ok qs s' =>
      rw [bnd_ok e] at O
      intro A1 B1 H1 x1 S1 zs R
      have O1 := O.ext x1
      exact ⟨by rw [reps_len R]; exact hlen _ _ _ _ e, call_read S1 (reps_pick R pm) (callF_len hF O1.nbad) O1⟩
  · obtain ⟨zs, H2, I2, rz, l2, q2⟩ := q
    refine ⟨I2.kIn, ?_⟩
    rw [hkn]
    exact run_fnN (us := []) (vs := []) G hr (hb ks pm hks) (passes_of' tk) I2 .nil rz rfl (by rw [List.length_map]; exact l2) q2
end
/-! ### built-in functions -/
section
variable {X : Cx} {W : WX} {Φ : Fenv} {p pos : Pos} {e : Expr} {es : List Expr} {fs : Rho → M (List P)}
theorem bi_boot (b : Bi) : bootBuiltins (biN b : Str) = some (biV b) := by cases b <;> rfl
theorem bi_ne (b : Bi) : ((biN b : Str) ≠ ("__name__" : Str)) ∧ ((biN b : Str) == ("__debug__" : Str)) = false := by cases b <;> exact ⟨by decide, by decide⟩
theorem ve_bi {r : Al} {b : Bi} (hc : CallR X (biV b) (rN X.mg (pBi Φ r b))) (hg : Gl X (biN b : Str)) (hm : X.mg (biN b : Str) = none) (ha : VA X W (e :: es) fs)
    (he : starEach (e :: es) X.env = (false, eval e X.env) :: starEach es X.env) (hpl : (backTo pos (starEach es X.env)).any (·.1) = false) :
    VE X W (.Call (.Name (biN b : Str) p) (e :: es) [] pos) (fun ρ => bnd (fs ρ) fun ps => pBi Φ r b ps) := by
  have hv := bi_boot b
  have hn := bi_ne b
  have key : PE X (.Call (.Name (biN b : Str) p) (e :: es) [] pos) (tCB (rN X.mg (pBi Φ r b)) (tAs X.mg W fs)) := by
    cases b <;> first
      | exact pe_callB hc hg hm hv ha hn.1 hn.2 he hpl
      | exact pe_callTy hc hg hm hv ha hn.1 hn.2 he hpl
  exact key.weak fun σ H Q h => tE_args h
end
/-! ### methods of lists -/
section
variable {X : Cx} {W : WX} {pos apos : Pos} {o e : Expr} {fo : Rho → M P} {fs : Rho → M (List P)}
/-- the receiver a list -/
def mtM (g : P → List P → M P) (fo : Rho → M P) (fs : Rho → M (List P)) : Rho → M P := fun ρ => bnd (fo ρ) fun p => bnd (isLst p) fun _ => bnd (fs ρ) fun ps => g p ps
theorem isLst_out {mg : Mg} {W : WX} {σ : L2.St} {A : As} {B : Fb} {H : Hp} {s : Sto} {p : P} {v : V} {K : PySem.W.Frag} {α : Type} {g : Unit → M α} {k : As → Fb → Hp → Sto → α → Prop} (S : StoR mg A B H s) (r : Rep mg A B H p v) (O : Out mg W σ A B H (bnd (isLst p) g s) k) :
    tyV K "list" v H ∧ Out mg W σ A B H (g () s) k := by
  cases h : listOf s p with
  | none =>
    have e : isLst p s = .bad := by unfold isLst; rw [h]
    rw [bnd_bad e] at O; exact O.elim
  | some xs =>
    have e : isLst p s = .ok () s := by unfold isLst; rw [h]
    rw [bnd_ok e] at O
    obtain ⟨a, vs, e, h1, _⟩ := rep_list S r h
    subst e
    exact ⟨.inl ⟨rfl, vs, SqL.of h1⟩, O⟩
theorem meth_read {mg : Mg} {W : WX} {σ : L2.St} {H : Hp} {Q : VK} {K : PySem.W.Frag} {g : P → List P → M P} {fo : Rho → M P} {fs : Rho → M (List P)} (h : tE mg W (mtM g fo fs) σ H Q) :
    tE mg W fo σ H fun x H1 => tyV K "list" x H1 ∧ tAs mg W fs σ H1 fun xs H2 => rM mg g x xs H2 Q := by
  obtain ⟨A, B, ρ, s, S, L, O⟩ := h
  refine ⟨A, B, ρ, s, S, L, O.bnd.imp fun A1 B1 H1 s1 p x1 S1 O1 v r => ?_⟩
  obtain ⟨ty, O2⟩ := isLst_out (K := K) S1 r O1
  exact ⟨ty, A1, B1, ρ, s1, S1, L.mono x1 S.own, O2.bnd.imp fun A2 B2 H2 s2 ps x2 S2 O3 vs R => ⟨W, σ, A2, B2, s2, p, ps, S2, r.mono x2 S1.own, R, O3⟩⟩
variable {name : Str} {id : String} {g : P → List P → M P}
theorem ve_m (slot : Slot "list" name id) (hty : typeOf (.builtin id) = pure (.type "method_descriptor")) (hm : MtR X id (rM X.mg g)) (ho : VE X W o fo) (ha : VA X W [e] fs)
    (hbase : attributeBase o name X.env (eval o X.env) = eval o X.env) (hline : (apos.endLine == pos.line) = true) (hs : starEach [e] X.env = (false, eval e X.env) :: starEach [] X.env) :
    VE X W (.Call (.Attribute o name apos) [e] [] pos) (mtM g fo fs) :=
  (pe_bm F.plainAttrs_list slot hty hm ho ha hbase (by rw [hs]; rfl) hline hs rfl).weak fun σ H Q h => meth_read h
theorem ve_m0 (slot : Slot "list" name id) (hty : typeOf (.builtin id) = pure (.type "method_descriptor")) (hm : MtR X id (rM X.mg g)) (ho : VE X W o fo)
    (hbase : attributeBase o name X.env (eval o X.env) = eval o X.env) (hline : (apos.endLine == pos.line) = true) :
    VE X W (.Call (.Attribute o name apos) [] [] pos) (mtM g fo fun _ => ret []) :=
  (pe_bm0 F.plainAttrs_list slot hty hm ho hbase hline).weak fun σ H Q h => by
    obtain ⟨A, B, ρ, s, S, L, O⟩ := meth_read (K := X.K) h
    refine ⟨A, B, ρ, s, S, L, O.imp fun A1 B1 H1 s1 p x1 S1 O1 v r => ?_⟩
    obtain ⟨ty, A2, B2, ρ2, s2, S2, L2', O2⟩ := O1 v r
    exact ⟨ty, O2.ret S2 [] (by simp only [Reps])⟩
theorem ve_append (ho : VE X W o fo) (ha : VA X W [e] fs) (hbase : attributeBase o "append" X.env (eval o X.env) = eval o X.env) (hline : (apos.endLine == pos.line) = true) (hs : starEach [e] X.env = (false, eval e X.env) :: starEach [] X.env) :
    VE X W (.Call (.Attribute o "append" apos) [e] [] pos) (mtM pAppend fo fs) := ve_m F.slot_list_append F.type_list_append mt_appendP ho ha hbase hline hs
theorem ve_extend (ho : VE X W o fo) (ha : VA X W [e] fs) (hbase : attributeBase o "extend" X.env (eval o X.env) = eval o X.env) (hline : (apos.endLine == pos.line) = true) (hs : starEach [e] X.env = (false, eval e X.env) :: starEach [] X.env) :
    VE X W (.Call (.Attribute o "extend" apos) [e] [] pos) (mtM pExtend fo fs) := ve_m F.slot_list_extend F.type_list_extend mt_extendP ho ha hbase hline hs
theorem ve_pop (ho : VE X W o fo) (ha : VA X W [e] fs) (hbase : attributeBase o "pop" X.env (eval o X.env) = eval o X.env) (hline : (apos.endLine == pos.line) = true) (hs : starEach [e] X.env = (false, eval e X.env) :: starEach [] X.env) :
    VE X W (.Call (.Attribute o "pop" apos) [e] [] pos) (mtM pPop fo fs) := ve_m F.slot_list_pop F.type_list_pop mt_popP ho ha hbase hline hs
theorem ve_pop0 (ho : VE X W o fo) (hbase : attributeBase o "pop" X.env (eval o X.env) = eval o X.env) (hline : (apos.endLine == pos.line) = true) :
    VE X W (.Call (.Attribute o "pop" apos) [] [] pos) (mtM pPop fo fun _ => ret []) := ve_m0 F.slot_list_pop F.type_list_pop mt_popP ho hbase hline
end
/-! ### attributes -/
/-- a property's getter -/
structure PropE (pg : Program) (w : World) (K : PySem.W.Frag) (mg : Mg) (base : Heap) (k : Nat) (c f : String) (F : Fn) : Prop where
  ex : ∀ C, mg (c : Str) = some (.ref C) → ∃ (p g : Addr) (fd : FuncData) (params : List Str), PropOf K C (f : Str) p g ∧ FnOk pg w K mg base (L2.CX pg w) k g fd params (spOf mg params.length F) ∧ (∀ args g, F args g ≠ .bad → args.length = params.length) ∧ Binds K fd params []
/-- classes of instances, with these fields and properties -/
structure ClsE (K : PySem.W.Frag) (mg : Mg) (fl : String → Bool) (c : String) : Prop where
  cls : ∀ C, mg (c : Str) = some (.ref C) → Cls K C
  fld : ∀ C f, mg (c : Str) = some (.ref C) → fl f = true → NoAttr K C (f : Str)
theorem str_inj {a b : String} (h : Str.ofString a = Str.ofString b) : a = b := by
  rw [Str.ofString_eq_toList, Str.ofString_eq_toList] at h
  have h1 : a.toList.map Char.toNat = b.toList.map Char.toNat := by
    have z := congrArg (fun s => s.cps.toList) h
    simpa using z
  have key : ∀ (x y : List Char), x.map Char.toNat = y.map Char.toNat → x = y := by
    intro x
    induction x with
    | nil => intro y h; cases y with
      | nil => rfl
      | cons c y => cases h
    | cons c x ih =>
      intro y h
      cases y with
      | nil => cases h
      | cons d y =>
        rw [List.map_cons, List.map_cons, List.cons.injEq] at h
        have e : c = d := Char.ext (UInt32.toNat_inj.mp h.1)
        rw [e, ih y h.2]
  exact String.toList_inj.mp (key _ _ h1)
theorem repF_look {mg : Mg} {A : As} {B : Fb} {H : Hp} : ∀ {fs : List (String × P)} {gs : List (Str × V)} {f : String} {p : P}, RepF mg A B H fs gs → fs.lookup f = some p → ∃ v, gs.lookup (f : Str) = some v ∧ Rep mg A B H p v
  | [], _, _, _, _, e => by cases e
  | (k, q) :: fs, _, f, p, h, e => by
    simp only [RepF] at h
    obtain ⟨v, r, e1, h1, h2⟩ := h
    subst e1
    rw [List.lookup_cons] at e ⊢
    by_cases z : f = k
    · subst z
      simp only [beq_self_eq_true] at e ⊢
      cases e
      exact ⟨v, rfl, h1⟩
    · have z1 : (f == k) = false := beq_eq_false_iff_ne.mpr z
      have z2 : ((f : Str) == (k : Str)) = false := beq_eq_false_iff_ne.mpr fun q => z (str_inj q)
      rw [z1] at e
      rw [z2]
      exact repF_look h2 e
section
variable {X : Cx} {W : WX} {Φ : Fenv} {pos : Pos} {a : Expr} {fa : Rho → M P} {f : String} {k : Nat} {fl : String → Bool}
/-- exceptions with fields -/
structure ExcE (K : PySem.W.Frag) (mg : Mg) (fl : String → Bool) (c : String) : Prop where
  xf : ∀ C, mg (c : Str) = some (.ref C) → XfC K C
  fld : ∀ C f, mg (c : Str) = some (.ref C) → fl f = true → NoAttr K C (f : Str)
theorem Out.unq {mg : Mg} {W : WX} {σ σ' : L2.St} {A : As} {B : Fb} {H : Hp} {α : Type} {m : M α} {s : Sto} {k : As → Fb → Hp → Sto → α → Prop} (O : Out mg W σ A B H (FW.quiet m s) k) : Out mg W0 σ' A B H (m s) k := by
  unfold FW.quiet at O
  cases e : m s with
  | ok a s' => rw [e] at O; exact O
  | exn x s' => rw [e] at O; exact O.elim
  | bad => rw [e] at O; exact O
theorem fld_go {pins : List (Addr × Obj)} {s1 : Shared} {σ σ' : L2.St} {H : Hp} {Q : VK} {A : As} {B : Fb} {s : Sto} {p : P} {c : String} {fs : List (String × P)} {ad C dx : Addr} {gs : List (Str × V)} {E' : Value → Shared → Prop} {bb : Bool}
    (hcl : ∀ c, Φ.cls.contains c = true → ClsE X.K X.mg (fun f => fl f && (Φ.prop c f).isNone) c) (hfl : fl f = true) (hpr : ∀ c F, Φ.prop c f = some F → PropE X.prog X.w X.K X.mg X.base k c f F) (hr : Room (k + 1) X.A)
    (I : Inv X pins σ H s1) (S : StoR X.mg A B H s) (ea : H ad = some (.ins C dx gs)) (hm : X.mg (c : Str) = some (.ref C)) (R : RepF X.mg A B H fs gs) (r : Rep X.mg A B H p (.ref ad)) (O : Out X.mg W σ' A B H (pFld Φ p c fs f s) (kP X.mg Q)) :
    wpAny (model X.prog X.w) X.A (getAttr (.ref ad) (f : Str) bb) (EP X pins σ Q) E' s1 := by
  unfold pFld at O
  split at O
  · rename_i hc
    have ce := hcl c hc
    cases e : Φ.prop c f with
    | none =>
      rw [e] at O
      cases hq : fs.lookup f with
      | some q =>
        rw [hq] at O
        obtain ⟨v, hv, rv⟩ := repF_look R hq
        exact getattr_ok I ea (ce.cls C hm) (ce.fld C f hm (by rw [hfl, e]; rfl)) hv fun u s' I' ru => ⟨v, H, I', ru, O.ret S v rv⟩
      | none => rw [hq] at O; exact O.elim
    | some F =>
      rw [e] at O
      obtain ⟨pa, g, fd, params, hp, G, hF, hb⟩ := (hpr c F e).ex C hm
      have O2 : Out X.mg W0 σ A B H (callF F [p] s) (kP X.mg Q) := Out.unq O
      exact getprop_ok I ea (ce.cls C hm) hp G hr hb .nil (passes_no (X := X.nox)) (call_read S (reps_sole r) (callF_len hF O2.nbad) O2)
  · exact O.elim
theorem ve_attr (hcl : ∀ c, Φ.cls.contains c = true → ClsE X.K X.mg (fun f => fl f && (Φ.prop c f).isNone) c) (hex : ∀ c, Φ.exc.contains c = true → ExcE X.K X.mg fl c) (hfl : fl f = true) (hpr : ∀ c F, Φ.prop c f = some F → PropE X.prog X.w X.K X.mg X.base k c f F) (hr : Room (k + 1) X.A) (ha : VE X W a fa)
    (hb : attributeBase a (f : Str) X.env (eval a X.env) = eval a X.env) : VE X W (.Attribute a (f : Str) pos) (fun ρ => bnd (fa ρ) fun p => pAttr Φ p f) := by
  refine ⟨fun pins s σ H Q I h => attr_of hb (thn (ha.run pins s σ H (fun x H1 => r1 X.mg (fun p => pAttr Φ p f) x H1 Q) I (tE_un h)) fun u s1 q => ?_)⟩
  obtain ⟨x, H1, I1, rx, W', σ', A, B, st, p, S, r, O⟩ := q
  replace O : Out X.mg W' σ' A B H1 (pAttr Φ p f st) (kP X.mg Q) := O
  unfold pAttr at O
  split at O
  · rename_i c fs
    have r0 := r
    simp only [Rep] at r0
    obtain ⟨ad, C, dx, gs, ev, ea, nb, hm, R⟩ := r0
    subst ev
    obtain rfl : u = Value.ref ad := rx
    exact fld_go hcl hfl hpr hr I1 S ea hm R r O
  · rename_i c fs
    split at O
    · rename_i hc
      have ce := hex c hc
      simp only [Rep] at r
      obtain ⟨ad, C, ev, nb, hm, r⟩ := r
      subst ev
      obtain rfl : u = Value.ref ad := rx
      split at O
      · rename_i q hq
        rcases r with ⟨e0, _⟩ | ⟨d, gs, φ, h1, h2, hd, nd, R⟩
        · subst e0; cases hq
        · obtain ⟨v, hv, rv⟩ := repF_look R hq
          have T := ce.xf C hm
          have hφ : ObjOk X.prog X.w H1 s1.heap ad (.ext φ) := I1.hok ad _ h1
          obtain ⟨oe, vs, g1, hz, hdat⟩ := h2 _ hφ.1
          have hx : ObjOk X.prog X.w H1 s1.heap d (.xd gs) := I1.hok d _ hd
          obtain ⟨mA, hns, hr'⟩ := hx
          obtain ⟨od, ho, hl⟩ := lookIn_ns hns
          obtain ⟨u', hu, ru⟩ := RelO.some_of (v := v) (o := mA (f : Str)) (by rw [← hv]; exact hr' f)
          have J : PySem.W.InstAt s1.heap ad oe C (some od) := ⟨g1, hz.1, by unfold PySem.W.notCls; rw [hdat] <;> rfl, by rw [hz.2]; exact ho⟩
          exact HandSPX.exc_get I1.kIn J T.ga T.gg T.exC (PySem.W.findObj_own T.hdC (ce.fld C f hm hfl) rfl (by rw [hl, hu])) (handed_of ru) ⟨v, H1, I1.tok _, ru, O.ok S v rv⟩
      · exact O.elim
    · exact O.elim
  · rename_i n
    split at O
    · rename_i c fs he
      have r0 := r
      simp only [Rep] at r0
      obtain ⟨ad, ev, ha⟩ := r0
      subst ev
      obtain rfl : u = Value.ref ad := rx
      obtain ⟨C, dx, gs, ea, hm, R⟩ := S.og n ad _ ha he
      exact fld_go hcl hfl hpr hr I1 S ea hm R r O
    · exact O.elim
  · exact O.elim
end
end FW

end

section
set_option Elab.async false
set_option linter.all false
set_option maxRecDepth 100000
/-! Fw18: instances made. -/
namespace FW
open PySem PySem.Spec PyProof.Rows L2
variable [Tb]
section
variable {mg : Mg} {A A' : As} {B B' : Fb} {H : Hp} {m : Nat}
def Low (n : Nat) (A : As) (B : Fb) (A' : As) (B' : Fb) : Prop := (∀ i, i < n → A'.g[i]? = A.g[i]?) ∧ (∀ a, B' a → B a) ∧ A'.l = A.l
mutual
theorem Rep.low (x : Low m A B A' B') : ∀ {p : P} {v : V}, lowG m p = true → Rep mg A B H p v → Rep mg A' B' H p v
  | .non, _, _, h => by simp only [Rep] at h ⊢; exact h
  | .bl _, _, _, h => by simp only [Rep] at h ⊢; exact h
  | .int _, _, _, h => by simp only [Rep] at h ⊢; exact h
  | .str _, _, _, h => by simp only [Rep] at h ⊢; exact h
  | .ty _, _, _, h => by simp only [Rep] at h ⊢; exact h
  | .tup xs, _, hn, h => by
    simp only [Rep] at h ⊢
    obtain ⟨a, vs, e, h1, n, r⟩ := h
    exact ⟨a, vs, e, h1, fun z => n (x.2.1 a z), Reps.low x hn r⟩
  | .lst xs, _, hn, h => by
    simp only [Rep] at h ⊢
    obtain ⟨a, vs, e, h1, n, r⟩ := h
    exact ⟨a, vs, e, h1, fun z => n (x.2.1 a z), Reps.low x hn r⟩
  | .scr xs, _, hn, h => by
    simp only [Rep] at h ⊢
    obtain ⟨a, vs, e, h1, n, r⟩ := h
    exact ⟨a, vs, e, h1, fun z => n (x.2.1 a z), Reps.low x hn r⟩
  | .dct false kvs, _, hn, h => by
    simp only [Rep] at h ⊢
    obtain ⟨a, ks, e, h1, n, r⟩ := h
    exact ⟨a, ks, e, h1, fun z => n (x.2.1 a z), RepK.low x hn r⟩
  | .dct true kvs, _, hn, h => by
    simp only [Rep] at h ⊢
    obtain ⟨a, ks, e, h1, n, r⟩ := h
    exact ⟨a, ks, e, h1, fun z => n (x.2.1 a z), RepT.low x hn r⟩
  | .ins c fs, _, hn, h => by
    simp only [Rep] at h ⊢
    obtain ⟨a, C, dx, gs, e, h1, n, hc, r⟩ := h
    exact ⟨a, C, dx, gs, e, h1, fun z => n (x.2.1 a z), hc, RepF.low x hn r⟩
  | .exc c fs, _, hn, h => by
    simp only [Rep] at h ⊢
    obtain ⟨a, C, e, n, hc, h1⟩ := h
    refine ⟨a, C, e, fun z => n (x.2.1 a z), hc, ?_⟩
    rcases h1 with ⟨e1, φ, h1, h2⟩ | ⟨d, gs, φ, h1, h2, hd, nd, r⟩
    · exact .inl ⟨e1, φ, h1, h2⟩
    · exact .inr ⟨d, gs, φ, h1, h2, hd, fun z => nd (x.2.1 d z), RepF.low x hn r⟩
  | .lob n, _, hn, h => by
    simp only [Rep] at h ⊢
    rw [x.2.2]; exact h
  | .gob n, _, hn, h => by
    simp only [Rep] at h ⊢
    rw [x.1 n (of_decide_eq_true hn)]; exact h
  | .fn _, _, _, h => by simp only [Rep] at h ⊢; exact h
  | .cls _, _, _, h => by simp only [Rep] at h ⊢; exact h
theorem Reps.low (x : Low m A B A' B') : ∀ {ps : List P} {vs : List V}, lowGs m ps = true → Reps mg A B H ps vs → Reps mg A' B' H ps vs
  | [], _, _, h => by simp only [Reps] at h ⊢; exact h
  | p :: ps, _, hn, h => by
    simp only [Reps] at h ⊢
    obtain ⟨v, r, e, h1, h2⟩ := h
    have hn' := Bool.and_eq_true_iff.mp hn
    exact ⟨v, r, e, Rep.low x hn'.1 h1, Reps.low x hn'.2 h2⟩
theorem RepK.low (x : Low m A B A' B') : ∀ {ps : List (KeyP × P)} {vs : List (Key × V)}, lowGk m ps = true → RepK mg A B H ps vs → RepK mg A' B' H ps vs
  | [], _, _, h => by simp only [RepK] at h ⊢; exact h
  | (k, p) :: ps, _, hn, h => by
    simp only [RepK] at h ⊢
    obtain ⟨j, v, r, e, ek, h1, h2⟩ := h
    have hn' := Bool.and_eq_true_iff.mp hn
    exact ⟨j, v, r, e, ek, Rep.low x hn'.1 h1, RepK.low x hn'.2 h2⟩
theorem RepT.low (x : Low m A B A' B') : ∀ {ps : List (KeyP × P)} {vs : List (List Key × V)}, lowGk m ps = true → RepT mg A B H ps vs → RepT mg A' B' H ps vs
  | [], _, _, h => by simp only [RepT] at h ⊢; exact h
  | (k, p) :: ps, _, hn, h => by
    simp only [RepT] at h ⊢
    obtain ⟨j, v, r, e, ek, h1, h2⟩ := h
    have hn' := Bool.and_eq_true_iff.mp hn
    exact ⟨j, v, r, e, ek, Rep.low x hn'.1 h1, RepT.low x hn'.2 h2⟩
theorem RepF.low (x : Low m A B A' B') : ∀ {ps : List (String × P)} {vs : List (Str × V)}, lowGf m ps = true → RepF mg A B H ps vs → RepF mg A' B' H ps vs
  | [], _, _, h => by simp only [RepF] at h ⊢; exact h
  | (k, p) :: ps, _, hn, h => by
    simp only [RepF] at h ⊢
    obtain ⟨v, r, e, h1, h2⟩ := h
    have hn' := Bool.and_eq_true_iff.mp hn
    exact ⟨v, r, e, Rep.low x hn'.1 h1, RepF.low x hn'.2 h2⟩
end
theorem ObR.low (x : Low m A B A' B') {o : Ob} {a : Addr} (hn : o.low m = true) (h : ObR mg A B H o a) : ObR mg A' B' H o a := by
  cases o with
  | lst xs => obtain ⟨vs, h1, R⟩ := h; exact ⟨vs, h1, Reps.low x hn R⟩
  | dct t kvs =>
    cases t with
    | false => obtain ⟨ks, h1, R⟩ := h; exact ⟨ks, h1, RepK.low x hn R⟩
    | true => obtain ⟨ks, h1, R⟩ := h; exact ⟨ks, h1, RepT.low x hn R⟩
  | ins c fs => obtain ⟨C, dx, gs, h1, hc, R⟩ := h; exact ⟨C, dx, gs, h1, hc, RepF.low x hn R⟩
/-- the object on top is a value from now on -/
theorem freeze {H1 : Hp} {A2 : As} {B2 : Fb} {H2 : Hp} {x dx : Addr} {g g' : List Ob} {C : Addr} (S : StoR mg A B H1 ⟨[], g⟩) (hl : A.l = []) (hx : H1 x = none) (hdx : H1 dx = none) (hne : dx ≠ x)
    (x2 : Ext ⟨A.l, A.g ++ [x]⟩ (fun b => B b ∨ b = x) (upd (upd H1 dx (.own x)) x (.ins C dx [])) A2 B2 H2) (hl2 : A2.l = []) (S2 : StoR mg A2 B2 H2 ⟨[], g'⟩) (hlen : g'.length = g.length + 1) (hlow : (g'.take g.length).all (Ob.low g.length) = true) :
    Low g.length A2 B2 ⟨[], A2.g.take g.length⟩ (fun b => B2 b ∧ b ≠ x) ∧ Ext A B H1 ⟨[], A2.g.take g.length⟩ (fun b => B2 b ∧ b ≠ x) H2 ∧ StoR mg ⟨[], A2.g.take g.length⟩ (fun b => B2 b ∧ b ≠ x) H2 ⟨[], g'.take g.length⟩ ∧ A2.g[g.length]? = some x := by
  have lg : A.g.length = g.length := S.lg
  obtain ⟨mm, em⟩ := x2.pg
  have em' : A2.g = A.g ++ [x] ++ mm := em
  have lg2 : A2.g.length = g'.length := S2.lg
  have hmm : mm = [] := by
    have z := congrArg List.length em'
    simp only [List.length_append, List.length_singleton] at z
    exact List.length_eq_zero_iff.mp (by omega)
  rw [hmm, List.append_nil] at em'
  have etake : A2.g.take g.length = A.g := by rw [em', ← lg]; exact List.take_left
  have hlow1 : Low g.length A2 B2 ⟨[], A2.g.take g.length⟩ (fun b => B2 b ∧ b ≠ x) := ⟨fun i hi => List.getElem?_take_of_lt hi, fun a z => z.1, hl2.symm⟩
  have hxa : ∀ a u, H1 a = some u → a ≠ x ∧ a ≠ dx := fun a u e => ⟨ne_of_none e hx, ne_of_none e hdx⟩
  have hup : ∀ a u, H1 a = some u → upd (upd H1 dx (.own x)) x (.ins C dx []) a = some u := fun a u e => by
    rw [upd_ne (hxa a u e).1, upd_ne (hxa a u e).2]; exact e
  have hno : ∀ a, H1 a ≠ none → ∃ u, H1 a = some u := fun a e => by
    cases q : H1 a with
    | none => exact absurd q e
    | some u => exact ⟨u, rfl⟩
  have nd2 : x ∉ A.g := fun z => by
    have q := S.bt x (S.own x (.inr z))
    exact q hx
  refine ⟨hlow1, ⟨⟨[], by rw [hl]; rfl⟩, ⟨[], by rw [List.append_nil]; exact etake⟩, fun a u e n t => ?_, fun a e n z => ?_, fun a z => ?_, fun a e => ?_, fun a z => ?_, fun t => x2.tb (t.ext hup)⟩, ⟨rfl, ?_, ?_, fun i a o h1 _ => by simp at h1, fun i a o h1 h2 => ?_, fun a z => ?_, fun o ho => ?_, fun o ho => ?_, fun a z => S2.bt a z.1, S2.tab⟩, ?_⟩
  · refine x2.keep a u (hup a u e) (fun z => ?_) t
    rcases z with z | z
    · exact n (.inl z)
    · rcases List.mem_append.mp z with z | z
      · exact n (.inr z)
      · exact (hxa a u e).1 (List.mem_singleton.mp z)
  · obtain ⟨u, e⟩ := hno a e
    refine x2.nb a (by rw [hup a u e]; exact fun z => nomatch z) (fun q => ?_) z.1
    exact q.elim n (hxa a u e).1
  · obtain ⟨u, e⟩ := hno a (S.bt a z)
    exact ⟨x2.bb a (.inl z), (hxa a u e).1⟩
  · obtain ⟨u, e⟩ := hno a e
    exact x2.there a (by rw [hup a u e]; exact fun z => nomatch z)
  · rcases z with z | z
    · cases z
    · rw [show (⟨[], A2.g.take g.length⟩ : As).g = A2.g.take g.length from rfl, etake] at z
      exact .inl (.inr z)
  · show (A2.g.take g.length).length = (g'.take g.length).length
    rw [List.length_take, List.length_take, lg2]
  · show ([] ++ A2.g.take g.length).Nodup
    rw [List.nil_append, etake]
    exact (List.nodup_append.mp S.nd).2.1
  · have hi : i < g.length := by
      have q := (List.getElem?_eq_some_iff.mp h1).1
      rw [show (⟨[], A2.g.take g.length⟩ : As).g = A2.g.take g.length from rfl, List.length_take] at q
      omega
    have h1' : A2.g[i]? = some a := by rw [← hlow1.1 i hi]; exact h1
    have h2' : g'[i]? = some o := by
      have q : (g'.take g.length)[i]? = some o := h2
      rw [List.getElem?_take_of_lt hi] at q; exact q
    exact (S2.og i a o h1' h2').low hlow1 (List.all_eq_true.mp hlow o (List.mem_of_getElem? h2))
  · rcases z with z | z
    · cases z
    · rw [show (⟨[], A2.g.take g.length⟩ : As).g = A2.g.take g.length from rfl, etake] at z
      exact ⟨x2.bb a (.inl (S.own a (.inr z))), fun q => nd2 (q ▸ z)⟩
  · exact S2.gl o (List.mem_of_mem_take ho)
  · cases ho
  · rw [em', ← lg]; simp
theorem make_sp {c : String} {Fi : Fn} {n : Nat} {vs : List V} {H1 : Hp} {Q : VK} {E : XK} {x dx C : Addr} (h : spOf mg n (mkF c Fi) vs H1 Q E) (hm : mg (c : Str) = some (.ref C)) (hx : H1 x = none) (hdx : H1 dx = none) (hne : dx ≠ x) :
    spOf mg (n + 1) Fi (.ref x :: vs) (upd (upd H1 dx (.own x)) x (.ins C dx [])) (fun v H2 => v = .non ∧ Q (.ref x) H2) E := by
  obtain ⟨A, B, g, ps, hl, S, R, hn, O⟩ := h
  have x0 : Ext A B H1 A B (upd H1 dx (.own x)) := ext_new S.bt hdx
  have S0 := sto_new (o := .own x) S hdx
  have hx' : upd H1 dx (.own x) x = none := by rw [upd_ne (Ne.symm hne)]; exact hx
  obtain ⟨A1, e1, x1, S1⟩ := sto_alloc (o := .ins c []) (u := .ins C dx []) false S0 hx' (fun z => nomatch z) (fun _ => rfl) fun A' B' _ => ⟨C, dx, [], upd_same, hm, by simp only [RepF]⟩
  have e1' : A1 = ⟨A.l, A.g ++ [x]⟩ := e1
  subst e1'
  have S1 : StoR mg ⟨A.l, A.g ++ [x]⟩ (fun b => B b ∨ b = x) (upd (upd H1 dx (.own x)) x (.ins C dx [])) ⟨[], g ++ [Ob.ins c []]⟩ := S1
  refine ⟨⟨A.l, A.g ++ [x]⟩, fun b => B b ∨ b = x, g ++ [Ob.ins c []], .gob g.length :: ps, hl, S1, ?_, by rw [List.length_cons, hn], ?_⟩
  · simp only [Reps]
    refine ⟨_, _, rfl, ?_, (R.mono x0 S.own).mono x1 S0.own⟩
    simp only [Rep]
    refine ⟨x, rfl, ?_⟩
    have lg : A.g.length = g.length := S.lg
    show (A.g ++ [x])[g.length]? = some x
    rw [← lg]; simp
  · show OutF mg _ _ _ (Fi (.gob g.length :: ps) (g ++ [.ins c []])) _ E
    have O : OutF mg A B H1 (mkF c Fi ps g) Q E := O
    unfold mkF at O
    cases hF : Fi (.gob g.length :: ps) (g ++ [.ins c []]) with
    | bad => rw [hF] at O; exact O
    | exn y g' =>
      rw [hF] at O
      dsimp only at O
      split at O
      · rename_i hc
        simp only [Bool.and_eq_true, decide_eq_true_eq] at hc
        intro A2 B2 H2 cls d hl2 x2 S2 er
        obtain ⟨lo, xx, SS, _⟩ := freeze S hl hx hdx hne x2 hl2 S2 hc.1.1 hc.2
        refine O _ _ H2 cls d rfl xx SS ?_
        obtain ⟨c', fs, C', e1, e2, e3, e4⟩ := er
        subst e1
        refine ⟨c', fs, C', rfl, e2, e3, e4.imp id ?_⟩
        rintro ⟨dd, gs, h1, h2, h3, h4⟩
        exact ⟨dd, gs, h1, h2, fun z => h3 z.1, RepF.low lo hc.1.2 h4⟩
      · exact O.elim
    | ok p g' =>
      rw [hF] at O
      cases p <;> first | exact O.elim | skip
      dsimp only at O
      split at O
      · rename_i c' fs hg
        split at O
        · rename_i hc
          simp only [Bool.and_eq_true, decide_eq_true_eq] at hc
          obtain ⟨⟨⟨hc1, hc2⟩, hc3⟩, hc4⟩ := hc
          subst hc1
          intro A2 B2 H2 v hl2 x2 S2 r
          obtain ⟨lo, xx, SS, ex⟩ := freeze S hl hx hdx hne x2 hl2 S2 hc2 hc4
          simp only [Rep] at r
          refine ⟨r, O _ _ H2 (.ref x) rfl xx SS ?_⟩
          obtain ⟨C', dx', gs, h1, h2, h3⟩ := S2.og g.length x _ ex hg
          simp only [Rep]
          exact ⟨x, C', dx', gs, rfl, h1, fun z => z.2 rfl, h2, RepF.low lo hc3 h3⟩
        · exact O.elim
      · exact O.elim
end
/-- a class of instances, as its making must know it -/
structure MkE (pg : Program) (w : World) (K : PySem.W.Frag) (mg : Mg) (base : Heap) (k : Nat) (c : String) (F : Fn) : Prop where
  ex : ∃ (C f : Addr) (fd : FuncData) (params : List Str) (Fi : Fn), mg (c : Str) = some (.ref C) ∧ F = mkF c Fi ∧ Mk K C f ∧ FnOk pg w K mg base (L2.CX pg w) k f fd params (spOf mg params.length Fi) ∧ (∀ args g, Fi args g ≠ .bad → args.length = params.length) ∧ Binds K fd params []
section
variable {X : Cx} {E : XK} {k : Nat} {c : String} {F : Fn} {p pos : Pos} {e : Expr} {es : List Expr} {fs : Rho → M (List P)}
theorem ve_make (G : MkE X.prog X.w X.K X.mg X.base k c F) (hr : Room (k + 1) X.A) (hg : Gl X (c : Str)) (tk : Takes X (wE E)) (ha : VA X (wE E) (e :: es) fs) (hdb : ((c : Str) == ("__debug__" : Str)) = false)
    (he : starEach (e :: es) X.env = (false, eval e X.env) :: starEach es X.env) (hpl : (backTo pos (starEach es X.env)).any (·.1) = false) :
    VE X (wE E) (.Call (.Name (c : Str) p) (e :: es) [] pos) (fun ρ => bnd (fs ρ) fun ps => callF F ps) := by
  obtain ⟨C, f, fd, params, Fi, hm, eF, M, G, hF, hb⟩ := G.ex
  refine (pe_make M G hr hg hm hb .nil (passes_of' tk) ha hdb he hpl).weak fun σ H Q h => ?_
  obtain ⟨A, B, ρ, s, S, L, O⟩ := h
  refine ⟨A, B, ρ, s, S, L, O.bnd.imp fun A1 B1 H1 s1 ps x1 S1 O1 vs r x dx hx hdx hne => ?_⟩
  rw [List.append_nil]
  subst eF
  have hlen : ∀ args g, mkF c Fi args g ≠ .bad → args.length = params.length - 1 := fun args g z => by
    have q : Fi (.gob g.length :: args) (g ++ [.ins c []]) ≠ .bad := fun w => z (by unfold mkF; rw [w])
    have := hF _ _ q
    rw [List.length_cons] at this
    omega
  have hpos : params.length = params.length - 1 + 1 := by
    have nb := O1.nbad
    have : ∃ args g, Fi args g ≠ .bad ∧ args ≠ [] := by
      unfold callF at nb
      split at nb
      · exact ⟨.gob s1.g.length :: ps, s1.g ++ [.ins c []], fun w => nb (by unfold mkF; rw [w]), List.cons_ne_nil _ _⟩
      · split at nb
        · exact absurd rfl nb
        · rename_i ws _
          exact ⟨.gob s1.g.length :: ws, s1.g ++ [.ins c []], fun w => nb (by unfold mkF; rw [w]), List.cons_ne_nil _ _⟩
    obtain ⟨args, g, h1, h2⟩ := this
    have := hF args g h1
    cases args with
    | nil => exact absurd rfl h2
    | cons a l => rw [List.length_cons] at this; omega
  have sp := call_read (n := params.length - 1) S1 r (callF_len hlen O1.nbad) O1
  have z := make_sp sp hm hx hdx hne
  rw [← hpos] at z
  exact z
end
end FW

end

section
set_option Elab.async false
set_option linter.all false
set_option maxRecDepth 100000
set_option maxHeartbeats 2000000
/-! Fw18a: except .. as n, the exception kept as a value behind the suite. -/
namespace FW
open PySem PySem.Spec PyProof.Rows L2
/-- an exception object that was caught, as it is known from then on -/
def ExA (a : Addr) (cls : Value) (d : Option Addr) : HO := .ext fun h => ∃ (oe : Obj) (vs : Array Value), h.get? a = some oe ∧ Zc cls d oe ∧ oe.data = .fields vs
theorem exA_ok {P : Program} {w : World} {H : Hp} {h : Heap} {a : Addr} {cls : Value} {d : Option Addr} {oe : Obj} {vs : Array Value} (e : h.get? a = some oe) (z : Zc cls d oe) (q : oe.data = .fields vs) : ObjOk P w H h a (ExA a cls d) :=
  ⟨⟨oe, vs, e, z, q⟩, ⟨oe, e⟩, fun _ _ ⟨o, v, q, r⟩ k => ⟨o, v, k o q, r⟩⟩
section
variable {X : Cx} {pins : List (Addr × Obj)} {σ : L2.St} {H : Hp} {s : Shared}
theorem adopt {a : Addr} {φ : Heap → Prop} (I : Inv X pins σ H s) (na : H a = none) (n0 : X.s_0.heap.get? a = none) (nL : a ≠ X.env.locals) (nC : ∀ x c, X.env.cells.lookup x = some c → c ≠ a) (nP : ∀ p ∈ X.pn ++ pins, p.1 ≠ a)
    (new : ObjOk X.prog X.w (upd H a (.ext φ)) s.heap a (.ext φ)) : Inv X pins σ (upd H a (.ext φ)) s where
  ok := I.ok
  os := I.os
  bare := I.bare
  base := {
    keep := I.base.keep
    slot := I.base.slot
    free := fun b o e n hx => by rw [upd_ne (fun z => by rw [z, n0] at e; cases e)]; exact I.base.free b o e n hx
    there := I.base.there
    tups := fun b xs e => by rw [upd_ne (ne_of_none (I.base.tups b xs e) na)]; exact I.base.tups b xs e
    frzs := fun b o xs e => by rw [upd_ne (ne_of_none (I.base.frzs b o xs e) na)]; exact I.base.frzs b o xs e
    tbls := fun b ps e => by
      obtain ⟨m, q⟩ := I.base.tbls b ps e
      exact ⟨m, by rw [upd_ne (ne_of_none q na)]; exact q⟩ }
  loc := I.loc
  cell := I.cell
  free := by rw [upd_ne (Ne.symm nL)]; exact I.free
  freeC := fun x c e => by rw [upd_ne (nC x c e)]; exact I.freeC x c e
  pin := fun p hp => by
    obtain ⟨h1, h2, h3, h4, h5⟩ := I.pin p hp
    exact ⟨h1, by rw [upd_ne (nP p hp)]; exact h2, h3, h4, h5⟩
  hok := I.hok.laidN (fun _ _ q => q) na new
  len := I.len
/-- the ends, the exception kept -/
def adE (D : Ends) (i : Nat) (a : Addr) (cls : Value) (d : Option Addr) : Ends where
  nx := fun σ H => D.nx (σ.set i none) (upd H a (ExA a cls d))
  rt := fun v H => D.rt v (upd H a (ExA a cls d))
  bk := fun σ H => D.bk (σ.set i none) (upd H a (ExA a cls d))
  ct := fun σ H => D.ct (σ.set i none) (upd H a (ExA a cls d))
def wAd (m : Nat) (K : PySem.W.Frag) (c : Value) (i : Nat) (ts : Addr → Value → Option Addr → TS) (Wout : WX) (D : Ends) : WX := fun cls d σ H =>
  σ.length = m → ∃ b, PySem.W.exmOne K cls c = some b ∧ (b = true → ∀ a, H a = none → ts a cls d (adE D i a cls d) (σ.set i (some (.ref a))) H) ∧ (b = false → Wout cls d σ H)
variable {x n : Str} {c : Value} {i : Nat} {body suite : List Stmt} {b0 : Stmt} {np pos pos' : Pos} {tb : WX → TS} {ts : Addr → Value → Option Addr → TS} {Wout : WX}
theorem ps_try_adopt (hs : X.stack = X.env :: X.outer) (hf : X.env.frame = some X.env.locals) (hex : X.ex = []) (hN : X.N.Nodup) (hi : X.N[i]? = some n) (hln : X.env.kindOf n = some .local) (hc : Names X x c) (tk : Takes X Wout)
    (hb : ∀ (W : WX) (pn : List (Addr × Obj)) (xe : Value → Shared → Prop), Takes (X.tr pn xe) W → PassesOwn (model X.prog X.w) X.A X.env xe → PSs (X.tr pn xe) body (tb W))
    (hsu : ∀ (a : Addr) (oe : Obj) (cls : Value) (d : Option Addr) (pn : List (Addr × Obj)), Zc cls d oe → (∃ vs, oe.data = .fields vs) → PSs (X.suite a ((a, oe) :: pn)) (b0 :: suite) (ts a cls d)) :
    PS X (.Try body [.ExceptHandler (some (.Name x np)) (some n) (b0 :: suite) pos'] [] [] pos) (fun D σ H => tb (wAd X.N.length X.K c i ts Wout D) D σ H) := by
  refine ⟨fun pins s σ H D I h => wpAny_Try_except ?_⟩
  have ok := I.ok
  have frm : X.A.frames = some (X.env :: X.outer) := by rw [ok.frames, hs]
  have vis : Loc X.env.scope n := .inl hln
  refine wpAny_mono ((hb (wAd X.N.length X.K c i ts Wout D) (X.pn ++ pins) (fun e t1 => wpAny (model X.prog X.w) X.A (noteFrame e X.env) (fun _ t2 => wpAny (model X.prog X.w) X.A (setFlight e none) (fun _ t3 =>
    wpAny (model X.prog X.w) X.A (handleBy e X.env [.ExceptHandler (some (.Name x np)) (some n) (b0 :: suite) pos']) (SP X pins D) X.xe t3) X.xe t2) X.xe t1) (fun u t xx => ?_) PassesOwn.looking).run [] s σ H D (I.toTry _) h) (fun fl t1 hsp => ?_) fun e t1 he => he
  · obtain ⟨a, B, sI, pins', σ', H', cls, d, rfl, J', nb, up, sky, na, os, ag, hw⟩ := xx
    obtain ⟨b, hb1, hyes, hno⟩ := hw J'.len
    have J : Inv X pins σ' H' sI := J'.ofTry ok
    have sky2 : Sky B (X.env :: X.outer) a (Zc cls d) X.env.locals t.heap := by rw [← hs]; exact sky
    show wpAny (model X.prog X.w) X.A (noteFrame (.ref a) X.env) _ _ _
    refine Sky.land Zc.steady frm hf sky2 fun h3 fl3 up3 => ?_
    have J3 : Inv X pins σ' H' { t with heap := h3 } := J.landed nb fl3.1 (up.trans up3) os ag
    have nBa : B.get? a = none := fl3.2.1
    obtain ⟨o3, v3, he3, hz3, hd3⟩ := fl3.there
    have offS : a ∉ frs (X.env :: X.outer) := fun hm => by
      obtain ⟨_, o', e', hnf⟩ := fl3.2.2.1.mem hm
      rw [he3] at e'; cases e'
      exact hnf _ hd3
    have offL : a ≠ X.env.locals := fun z => offS (List.mem_filterMap.mpr ⟨X.env, List.mem_cons_self, by rw [hf, z]⟩)
    have offF : a ∉ X.fs := fun hm => by
      obtain ⟨e, he, q⟩ := List.mem_filterMap.mp hm
      exact offS (List.mem_filterMap.mpr ⟨e, List.mem_cons_of_mem _ he, q⟩)
    have off0 : X.s_0.heap.get? a = none := by
      cases e : X.s_0.heap.get? a with
      | none => rfl
      | some o =>
        obtain ⟨o', q⟩ := J.base.there a o e (by rw [hex]; exact fun z => nomatch z)
        rw [nb a o' q (by rw [hs]; exact offS)] at nBa; cases nBa
    have offP : ∀ p ∈ X.pn ++ pins, p.1 ≠ a := fun p hp z => by
      obtain ⟨g1, _, g3, g4, _⟩ := J.pin p hp
      have : p.1 ∉ frs X.stack := fun hm => offS (by rw [hs, z] at hm; exact hm)
      rw [← z, nb _ _ g1 this] at nBa; cases nBa
    have S3 := J3.suite he3 hd3 na offL offF
    refine wpAny_handleBy_cons (codeAny_handlers_test ?_) (by intro q; cases q)
    have LT : PySem.W.Looks (model X.prog X.w) h3 (typeOf (.ref a)) cls := fun A Q E s k q => wpAny_typeOf_ref (k _ _ he3) (by rw [hz3.1]; exact q)
    have LM := PySem.W.exm_one (M := model X.prog X.w) J3.kIn LT hb1
    have test : ∀ {Q E : Value → Shared → Prop}, Q c { t with heap := h3 } → wpAny (model X.prog X.w) (X.A.mark (some (.ref a))) (eval (.Name x np) X.env) Q E { t with heap := h3 } := fun {Q E} q => by
      obtain ⟨hg, hdbg, hm | ⟨hm, hv, hnn⟩⟩ := hc
      · exact ld_glob (X := X.suite a ((a, o3) :: (X.pn ++ pins))) S3 hg hm q hdbg
      · exact ld_blt (X := X.suite a ((a, o3) :: (X.pn ++ pins))) S3 hg hm hv q hnn hdbg
    refine test (LM.here ?_)
    cases b with
    | true =>
      refine codeAny_handlers_suite_as (HandSPX.lands_againZ fl3 fun h4 fl4 up4 => ?_)
      have J4 : Inv X pins σ' H' { t with heap := h4 } := J.landed nb fl4.1 ((up.trans up3).trans up4) os ag
      obtain ⟨o4, v4, he4, hz4, hd4⟩ := fl4.there
      have S4 := J4.suite he4 hd4 na offL offF
      refine store_ok (X := X.suite a ((a, o4) :: (X.pn ++ pins))) (v := .ref a) S4 hN hi vis rfl (fun s5 S5 => ?_) (.inr hln)
      refine wpAny_mono ((hsu a o4 cls d (X.pn ++ pins) hz4 ⟨_, hd4⟩).run [] s5 _ H' _ S5 (hyes rfl a na)) (fun fl s6 hsp => ?_) fun _ _ z => False.elim z
      have fin : ∀ {σ6 : L2.St} {H6 : Hp} {Q : Shared → Prop}, Inv (X.suite a ((a, o4) :: (X.pn ++ pins))) [] σ6 H6 s6 → (∀ s7, Inv X pins (σ6.set i none) (upd H6 a (ExA a cls d)) s7 → Q s7) →
          wpAny (model X.prog X.w) X.A (do bindName X.env n .none; unbindBehindTheSuite X.env n pos') (fun _ s7 => Q s7) X.xe s6 := fun {σ6 H6 Q} S6 hq => by
        obtain ⟨p1, p2, _, _, p5⟩ := S6.pin (a, o4) (by simp)
        refine gone_ok (adopt (S6.unsuite ok) p2 off0 offL (fun y cc hy z => ?_) offP (exA_ok p1 hz4 hd4)) hN hi hln hq
        obtain ⟨v, oc, ho, hdd⟩ := S6.cell y cc hy
        rw [z, p1] at ho; cases ho
        exact p5 _ hdd
      cases fl with
      | next => obtain ⟨σ6, H6, S6, q6⟩ := hsp; exact fin S6 fun s7 J7 => ⟨_, _, J7, q6⟩
      | brk => obtain ⟨σ6, H6, S6, q6⟩ := hsp; exact fin S6 fun s7 J7 => ⟨_, _, J7, q6⟩
      | cont => obtain ⟨σ6, H6, S6, q6⟩ := hsp; exact fin S6 fun s7 J7 => ⟨_, _, J7, q6⟩
      | ret u => obtain ⟨v6, σ6, H6, S6, r6, q6⟩ := hsp; exact fin S6 fun s7 J7 => ⟨_, _, _, J7, r6, q6⟩
    | false =>
      show wpAny _ X.A (handleBy (.ref a) X.env []) _ _ _
      refine wpAny_handleBy_nil ?_
      obtain ⟨k1, k2, k3, oe, vs, T, oT, ts', he, hz, hd, h1, hr⟩ := id fl3
      unfold PySem.passOn
      refine wpAny_bind (wpAny_field he hd h1 ?_)
      rw [if_neg (show ¬ ((Value.ref T == Value.none) = true) from by simp)]
      have thru : wpAny (model X.prog X.w) X.A (setFlight (.ref a) X.env.frame) (fun _ s4 => wpAny (model X.prog X.w) X.A (throw (.ref a) : Sem PySem.Flow) (SP X pins D) X.xe s4) X.xe { t with heap := h3 } := by
        rw [hf]
        refine HandSPX.setFlight_upZ fl3 fun h4 hh4 up4 => wpAny_throw (tk _ _ ⟨a, B, sI, pins, σ', H', cls, d, rfl, J, nb, (up.trans up3).trans up4, .inr (.inr (by rw [hs]; exact hh4)), na, os, ag, hno rfl⟩)
      first
        | exact wpAny_bind (wpAny_pure (wpAny_bind thru))
        | exact wpAny_bind thru
  · cases fl with
    | next => obtain ⟨σ', H', J', q⟩ := hsp; exact wpAny_execs_nil ⟨σ', H', J'.ofTry ok, q⟩
    | brk => obtain ⟨σ', H', J', q⟩ := hsp; exact ⟨σ', H', J'.ofTry ok, q⟩
    | cont => obtain ⟨σ', H', J', q⟩ := hsp; exact ⟨σ', H', J'.ofTry ok, q⟩
    | ret u => obtain ⟨v, σ', H', J', r, q⟩ := hsp; exact ⟨v, σ', H', J'.ofTry ok, r, q⟩
end
end FW

end

section
set_option Elab.async false
set_option linter.all false
set_option maxRecDepth 100000
set_option maxHeartbeats 2000000
/-! Fw18b: a lambda made, the tables kept in mind; the def that calls it and keeps the error. -/
namespace FW
open PySem PySem.Spec PyProof.Rows L2 LamX
variable [Tb]
/-- what stands stands, but tables grow -/
structure Grow (H H' : Hp) : Prop where
  keep : ∀ b o, H b = some o → (∀ ps, o ≠ .tbl ps) → H' b = some o
  there : ∀ b, H b ≠ none → H' b ≠ none
  tab : Tabs Tb.T H'
theorem Grow.ext {A : As} {B : Fb} {H H' : Hp} (g : Grow H H') : Ext A B H A B H' := ⟨⟨[], by simp⟩, ⟨[], by simp⟩, fun b o e _ t => g.keep b o e t, fun _ _ n => n, fun _ z => z, g.there, fun _ z => .inl z, fun _ => g.tab⟩
section
variable {mg : Mg} {A : As} {B : Fb} {H H' : Hp} {s : Sto}
theorem obR_pl {o : Ob} {a : Addr} (h : ObR mg A B H o a) : ∃ u, H a = some u ∧ ∀ ps, u ≠ .tbl ps := by
  cases o with
  | lst xs => obtain ⟨vs, h1, _⟩ := h; exact ⟨_, h1, fun _ z => nomatch z⟩
  | dct t kvs => cases t <;> (obtain ⟨vs, h1, _⟩ := h; exact ⟨_, h1, fun _ z => nomatch z⟩)
  | ins c fs => obtain ⟨C, dx, gs, h1, _⟩ := h; exact ⟨_, h1, fun _ z => nomatch z⟩
theorem sto_grow (S : StoR mg A B H s) (g : Grow H H') : StoR mg A B H' s := by
  have x : Ext A B H A B H' := g.ext
  refine S.mono0 (x.to0 S.own) (fun a ha u e => g.keep a u e ?_) S.own (fun a z => g.there a (S.bt a z)) g.tab
  have : ∃ o, ObR mg A B H o a := by
    rcases ha with h | h
    · obtain ⟨i, hi⟩ := List.getElem?_of_mem h
      have hl : i < s.l.length := by rw [← S.ll]; exact (List.getElem?_eq_some_iff.mp hi).1
      exact ⟨_, S.ol i a _ hi (List.getElem?_eq_getElem hl)⟩
    · obtain ⟨i, hi⟩ := List.getElem?_of_mem h
      have hl : i < s.g.length := by rw [← S.lg]; exact (List.getElem?_eq_some_iff.mp hi).1
      exact ⟨_, S.og i a _ hi (List.getElem?_eq_getElem hl)⟩
  obtain ⟨o, ho⟩ := this
  obtain ⟨v, h1, h2⟩ := obR_pl ho
  rw [h1] at e; cases e
  exact h2
end
section
variable {X : Cx} {pins : List (Addr × Obj)} {σ : L2.St} {H : Hp} {s : Shared}
theorem lam_make3 {c P : Addr} {params : Arguments} {body : Expr} {scope : Scope} {pos : Pos} {E Q : Value → Shared → Prop} (I : Inv X pins σ H s) (TB : TabB X.base X.mg c P) (hcode : X.env.code = .ref c)
    (hm : (P, X.env.qual ++ "<lambda>") ∈ Tb.T) (hu : ∀ p ∈ Tb.T, p.1 = P → p.2 = X.env.qual ++ "<lambda>") (hT : Tabs Tb.T H) (hdef : defaultsOf params X.env = ([], [])) (hfree : ∀ y ∈ scope.names, y.2 = .free → ∃ c, X.env.cells.lookup y.1 = some c)
    (k : ∀ (f c2 : Addr) (pm ctv : Value) (G : Hp) (t : Shared), Inv X pins σ G t → Grow H G → G c2 = some (CodeO c2 (X.env.qual ++ "<lambda>")) → G f = none → f ∉ frs X.stack →
      t.heap.get? f = some (PySem.W.kla_obj "<lambda>" (X.env.qual ++ "<lambda>") params body scope (cloFrom X.env.cells scope.names []) pm c2 ctv) → Q (.ref f) t) :
    wpAny (model X.prog X.w) X.A (eval (.Lambda params body scope pos) X.env) Q E s := by
  obtain ⟨ps, tP, tOk, tAll⟩ := hT _ hm
  have bm : s.heap.BuiltinsAt X.mg P := TB.bm.keeps I.bk
  have atP : s.heap.get? P = some { cls := .none, data := .fields ps } := I.hok P _ tP
  have gl := I.mod.glob.keeps I.bk
  have off : ∀ f, s.heap.objs.size ≤ f → f ∉ frs X.stack := fun f hf z => (List.mem_cons.mp (I.stkSub _ z)).elim (fun e => Nat.lt_irrefl _ (Nat.lt_of_lt_of_le (e ▸ I.lt) hf)) (I.nofs hf)
  apply PySem.W.kla_eval hdef
  rcases hcv : codeAmong pos ps.toList with _ | cv
  · apply PySem.W.kla_makeFunction (mg := X.mg) (c := c) (P := P) (ps := ps) (closure_ok hfree) I.ok.glob gl hcode (TB.code.keeps I.bk) atP tOk hcv TB.gP bm
    rintro c2 ctv h2 tk grow hge hlt ⟨c3, oc, vs, t, e3, hoc, hdat, hname⟩ hnewP
    cases e3
    have hs : s.heap.objs.size ≤ h2.objs.size := Nat.le_of_lt (Nat.lt_of_le_of_lt hge hlt)
    have new2 : H c2 = none := I.hok.fresh hge
    have nP2 : P ≠ c2 := ne_of_none tP new2
    have I2 := inv_table (t' := tk) (more := #[rawInt pos.line, rawInt pos.col, .ref c2]) (h' := h2.push (PySem.W.kla_obj "<lambda>" (X.env.qual ++ "<lambda>") params body scope (cloFrom X.env.cells scope.names []) ((X.mg "__name__").getD .none) c2 ctv)) I tP (fun b o hb e => Heap.get?_push_of_some _ (grow b o hb e))
      (Heap.get?_push_of_some _ hnewP) hge ⟨oc, vs, t, Heap.get?_push_of_some _ hoc, hdat, hname⟩
    have kp : ∀ b o, H b = some o → (∀ ps, o ≠ .tbl ps) → upd (upd H P (.tbl (ps ++ #[rawInt pos.line, rawInt pos.col, .ref c2]))) c2 (CodeO c2 (X.env.qual ++ "<lambda>")) b = some o := fun b o e n => by
      have n1 : b ≠ P := fun z => n ps (Option.some.inj (e.symm.trans (z ▸ tP)))
      rw [upd_ne (ne_of_none e new2), upd_ne n1, e]
    refine k h2.objs.size c2 _ ctv _ _ I2 ⟨kp, fun b hb => ?_, fun p hp => ?_⟩ upd_same ?_ (off _ hs) (Heap.get?_push_size _ rfl)
    · by_cases z : b = c2
      · rw [z, upd_same]; exact fun w => nomatch w
      · rw [upd_ne z]
        by_cases z2 : b = P
        · rw [z2, upd_same]; exact fun w => nomatch w
        · rw [upd_ne z2]; exact hb
    · have el : (ps ++ #[rawInt pos.line, rawInt pos.col, .ref c2]).toList = ps.toList ++ [rawInt pos.line, rawInt pos.col, .ref c2] := by simp
      by_cases hb : p.1 = P
      · rw [hu p hp hb, hb]
        refine ⟨_, by rw [upd_ne nP2, upd_same], el ▸ PySem.TriplesOk_snoc _ _ _ _ tOk, fun p2 v2 hv2 => ?_⟩
        rw [el] at hv2
        rcases among_app _ tOk hv2 with z | z
        · obtain ⟨c4, e1, e2⟩ := tAll p2 v2 z
          exact ⟨c4, e1, kp _ _ e2 codeO_ne⟩
        · exact ⟨c2, z, upd_same⟩
      · obtain ⟨ps2, a1, a2, a3⟩ := hT p hp
        refine ⟨ps2, by rw [upd_ne (ne_of_none a1 new2), upd_ne hb]; exact a1, a2, fun p2 v2 hv2 => ?_⟩
        obtain ⟨c4, e1, e2⟩ := a3 p2 v2 hv2
        exact ⟨c4, e1, kp _ _ e2 codeO_ne⟩
    · rw [upd_ne (Nat.ne_of_gt hlt), upd_ne (Nat.ne_of_gt (Nat.lt_of_lt_of_le (Heap.lt_size atP) hs))]
      exact I.hok.fresh hs
  · obtain ⟨c2, rfl, hco⟩ := tAll pos cv hcv
    apply PySem.W.kla_makeFunctionHit (mg := X.mg) (c := c) (P := P) (ps := ps) (closure_ok hfree) I.ok.glob gl hcode (TB.code.keeps I.bk) atP tOk hcv bm
    intro ctv h2 tk same hs
    have I2 : Inv X pins σ H { s with heap := h2.push (PySem.W.kla_obj "<lambda>" (X.env.qual ++ "<lambda>") params body scope (cloFrom X.env.cells scope.names []) ((X.mg "__name__").getD .none) c2 ctv), toks := tk } := I.kept fun b o e => Heap.get?_push_of_some _ (same b o e)
    exact k h2.objs.size c2 _ ctv H _ I2 ⟨fun _ _ e _ => e, fun _ e => e, hT⟩ hco (I.hok.fresh hs) (off _ hs) (Heap.get?_push_size _ rfl)
end
/-! ### the def that calls what it got and keeps the error -/
/-- its body, the three names and the class -/
def cauBody (a r e cl : Str) (p0 p1 p2 p3 p4 p5 p6 p7 p8 p9 p10 p11 p12 p13 : Pos) (j : Nat) : List Stmt :=
  [.Assign [.Name r p0] (.Constant .none j p1) p2,
   .Try [.Expr (.Call (.Name a p3) [] [] p4) p5] [.ExceptHandler (some (.Name cl p6)) (some e) [.Assign [.Name r p7] (.Name e p8) p9] p10] [] [] p11,
   .Return (some (.Name r p12)) p13]
/-- what it makes of the lambda -/
def TTc (K : PySem.W.Frag) (CS : Addr) : (XK → Hp → VK → Prop) → Hp → VK → Prop := fun tl H Q =>
  tl (fun cls d H' => ∃ b, PySem.W.exmOne K cls (.ref CS) = some b ∧ (b = true → ∀ a, H' a = none → Q (.ref a) (upd H' a (ExA a cls d))) ∧ (b = false → False)) H (fun _ H' => Q .non H')

section
variable {X : Cx} {a r e cl x q : Str} {sg : Scope} {g CS : Addr} {cdg : Value} {j : Nat} {p0 p1 p2 p3 p4 p5 p6 p7 p8 p9 p10 p11 p12 p13 : Pos}
theorem cau_gives (nd : [a, r, e].Nodup) (ha : sg.names.lookup a = some .local) (hr : sg.names.lookup r = some .local) (he : sg.names.lookup e = some .local) (hc : sg.names.lookup cl = some .globalImplicit) (hm : X.mg cl = some (.ref CS))
    (dc : (cl == ("__debug__" : Str)) = false) (d1 : (r == ("__debug__" : Str)) = false ∧ (r == ("__classdict__" : Str)) = false) (d2 : (e == ("__debug__" : Str)) = false ∧ (e == ("__classdict__" : Str)) = false) :
    GivesTo X [a, r, e] x sg g cdg (cauBody a r e cl p0 p1 p2 p3 p4 p5 p6 p7 p8 p9 p10 p11 p12 p13 j) a q (TTc X.K CS) := by
  intro f c' s H Q tl act hco h
  let Z : Cx := (cxOf C8.CX0 X.prog X.w X.K X.mg X.base [a, r, e] x sg g cdg X.A X.stack s H C8.E0).nox
  have hgl : Gl Z cl := hc
  have T0 : PSs Z (cauBody a r e cl p0 p1 p2 p3 p4 p5 p6 p7 p8 p9 p10 p11 p12 p13 j) _ := pss_cons (ps_set (X := Z) (i := 1) nd rfl (.inl hr) pe_non)
    (pss_cons (ps_try_adopt (X := Z) (i := 2) (c := .ref CS) (Wout := fun _ _ _ _ => False)
      (tb := fun W D σ H => ∃ Ech : XK, (∀ cls d σ' H', Ech cls d H' → W cls d σ' H') ∧ σ[0]? = some (some (.ref f)) ∧ H c' = some (CodeO c' q) ∧ tl Ech H (fun _ H' => D.nx σ H'))
      (ts := fun _ _ _ => tAsg (tVar 2) (gName 1))
      rfl rfl rfl nd rfl he ⟨hgl, dc, .inl hm⟩ LamX.takes0 (fun W pn xe tk _ => ?_) fun a2 oe cls d pn _ _ => pss_one (ps_set (i := 1) nd rfl (.inl hr) (pe_var (i := 2) rfl (.inl he) d2.1 d2.2) (hf := .inl rfl)))
    (pss_one (ps_ret (pe_var (i := 1) rfl (.inl hr) d1.1 d1.2))))
  · refine ⟨_, T0, ?_⟩
    have ee : (fun (_ : V) (H' : Hp) => Q .non H') = fun (_ : V) (H' : Hp) => ∃ v, ((L2.start [a, r, e] [V.ref f]).set 1 (some V.non))[1]? = some (some v) ∧ Q v H' := by
      funext _ H'
      exact propext ⟨fun h => ⟨_, rfl, h⟩, fun ⟨v, h1, h2⟩ => by cases h1; exact h2⟩
    refine ⟨_, (fun cls d σ' H' => ?_), rfl, hco, Eq.mp (congrArg (tl _ H) ee) h⟩
    rintro ⟨b, h1, h2, h3⟩ hl
    have hl : σ'.length = 3 := hl
    match σ', hl with
    | [u0, u1, u2], _ => exact ⟨b, h1, fun hb a2 na => ⟨_, rfl, _, rfl, h2 hb a2 na⟩, h3⟩
  · refine ⟨fun pins s' σ H' D I h' => ?_⟩
    obtain ⟨Ech, hW, h1, h2, h3⟩ := h'
    exact (pss_one (ps_expr (pos := p5) (act W pn xe Ech p3 p4 tk hW))).run pins s' σ H' D I ⟨h1, h2, h3⟩
end
/-- the def, as it stands in the written part -/
structure CauK (K : PySem.W.Frag) (mg : Mg) (ec : String → Bool) (x : String) : Prop where
  ex : ∃ (g CS : Addr) (a r e cl : Str) (sg : Scope) (pg : Arguments) (p0 p1 p2 p3 p4 p5 p6 p7 p8 p9 p10 p11 p12 p13 : Pos) (j : Nat) (dV kV doc pm cdv ct oc : Value) (an od : Option Addr) (osl : Array (Option Value)),
    mg (x : Str) = some (.ref g) ∧ PySem.W.keepIn K (.ref g) = true ∧ K.lookup g = some ⟨oc, od, .func (PySem.W.fnOf (x : Str) (x : Str) pg (cauBody a r e cl p0 p1 p2 p3 p4 p5 p6 p7 p8 p9 p10 p11 p12 p13 j) sg dV kV doc pm an cdv ct), osl⟩ ∧
    PySem.W.codeIn K cdv (x : Str) = true ∧ L2.Binds K (PySem.W.fnOf (x : Str) (x : Str) pg (cauBody a r e cl p0 p1 p2 p3 p4 p5 p6 p7 p8 p9 p10 p11 p12 p13 j) sg dV kV doc pm an cdv ct) [a] [] ∧ FnScope [a, r, e] [a] sg ∧
    (sg.names.lookup a = some .local ∧ sg.names.lookup r = some .local ∧ sg.names.lookup e = some .local ∧ sg.names.lookup cl = some .globalImplicit) ∧ mg cl = some (.ref CS) ∧
    ((a == ("__debug__" : Str)) = false ∧ (a == ("__classdict__" : Str)) = false) ∧ ((r == ("__debug__" : Str)) = false ∧ (r == ("__classdict__" : Str)) = false) ∧ ((e == ("__debug__" : Str)) = false ∧ (e == ("__classdict__" : Str)) = false) ∧ (cl == ("__debug__" : Str)) = false ∧
    ∀ c C, ec c = true → mg (c : Str) = some (.ref C) → PySem.W.exmOne K (.ref C) (.ref CS) = some true
section
variable {X : Cx} {Ek : XK} {x : String} {c Pt : Addr} {k : Nat} {params : Arguments} {body : Expr} {scope : Scope} {p lpos pos : Pos} {ec : String → Bool} {fe : Rho → M P}
theorem ve_caught (C : CauK X.K X.mg ec x) (hg : Gl X (x : Str)) (TB : TabB X.base X.mg c Pt) (hcode : X.env.code = .ref c) (hmT : (Pt, X.env.qual ++ "<lambda>") ∈ Tb.T) (hu : ∀ p ∈ Tb.T, p.1 = Pt → p.2 = X.env.qual ++ "<lambda>") (hr : Room (k + 2) X.A)
    (L : LamS X.env.scope scope) (hdef : defaultsOf params X.env = ([], [])) (hbind : ∀ (q : Str) (cl : List (Str × Addr)) (pm cv ctv : Value), bindArgs (PySem.W.kla_fn "<lambda>" q params body scope cl pm cv ctv) ⟨[], []⟩ = pure [])
    (hbody : ∀ (A : Around) (outer : List Env) (s : Shared) (H : Hp) (E : XK) (f c' : Addr), Room k (A.deeper (lamEnv X scope s.heap.objs.size f c')) → VE (lamCx X A outer s H E scope f c') (wE E) body fe) (hdb : ((x : Str) == ("__debug__" : Str)) = false) :
    VE X (wE Ek) (.Call (.Name (x : Str) p) [.Lambda params body scope lpos] [] pos) (fun ρ => cauM ec (fe ρ)) := by
  obtain ⟨g, CS, a, r, e, cl, sg, pg, p0, p1, p2, p3, p4, p5, p6, p7, p8, p9, p10, p11, p12, p13, j, dV, kV, doc, pm, cdv, ct, oc, an, od, osl, hm, hk, lk, hcg, hb, Sg, ⟨sa, sr, se, sc⟩, hCS, da, dr, de, dcl, hec⟩ := C.ex
  refine ⟨fun pins s σ H Q I ⟨A, B, ρ, st, S, Ls, O⟩ => wpAny_Call_Name_kw (ld_glob I hg hm (PySem.W.callWith_K (h₀ := X.base) I.ok.mod.kin hk ?_ rfl rfl) hdb)⟩
  show wpAny _ _ (spliced ((false, eval (.Lambda params body scope lpos) X.env) :: backTo pos (starEach [] X.env))) _ _ s
  refine Calls.spliced_cons (lam_make3 I TB hcode hmT hu S.tab hdef (L.has I.ok) fun f c2 pm2 ctv H1 s1 I1 gr hco hfn hfr hf => Calls.spliced_nil ⟨I1.kIn, ?_⟩)
  have S1 := sto_grow S gr
  have O1 : Out X.mg (wE Ek) σ A B H1 (cauM ec (fe ρ) st) (kP X.mg Q) := Out.ext O gr.ext
  have L1 := Ls.mono gr.ext S.own
  have rc : codeAny (model X.prog X.w) X.A (.call (.ref g) ⟨[.ref f], []⟩) (CR C8.CX0 X.stack X.prog X.w H1 s1 Q C8.E0) s1 := by
    refine run_ofS (N := [a, r, e]) (ps := [a]) (us := [.ref f]) (vs := [.ref f]) lk hcg Sg hr I1.env0 (hb s1 [.ref f] I1.kIn rfl) (.cons rfl .nil) rfl fun hr2 => ?_
    have hTT : TTc X.K CS (fun E H' Q' => tE X.mg (wE E) fe σ H' Q') H1 Q := by
      refine ⟨A, B, ρ, st, S1, L1, ?_⟩
      unfold cauM at O1
      cases em : fe ρ st with
      | bad => rw [em] at O1; exact O1
      | ok v s2 =>
        rw [em] at O1
        exact fun A2 B2 H2 x2 S2 w _ => O1 A2 B2 H2 x2 S2 .non (by simp only [Rep])
      | exn y s2 =>
        rw [em] at O1
        dsimp only at O1
        intro A2 B2 H2 x2 S2 cls d er
        obtain ⟨c3, fs, C3, rfl, rfl, hc3, hd⟩ := er
        by_cases hb3 : ec c3 = true
        · have O2 : Out X.mg (wE Ek) σ A B H1 (if ec c3 = true then .ok (.exc c3 fs) s2 else .bad) (kP X.mg Q) := O1
          rw [if_pos hb3] at O2
          refine ⟨true, hec c3 C3 hb3 hc3, fun _ b hna => ?_, fun z => nomatch z⟩
          have x3 : Ext A2 B2 H2 A2 B2 (upd H2 b (ExA b (.ref C3) d)) := ext_new S2.bt hna
          refine O2 A2 B2 _ (x2.trans x3) (sto_new S2 hna) (.ref b) ?_
          simp only [Rep]
          refine ⟨b, C3, rfl, nb_new S2.bt hna, hc3, ?_⟩
          rcases hd with ⟨rfl, rfl⟩ | ⟨dd, gs, rfl, h4, h5, h6⟩
          · exact .inl ⟨rfl, _, upd_same, fun h z => z⟩
          · exact .inr ⟨dd, gs, _, upd_same, fun h z => z, x3.keep dd _ h4 (fun z => h5 (S2.own dd z)) (fun _ z => nomatch z), h5, h6.mono x3 S2.own⟩
        · have O2 : Out X.mg (wE Ek) σ A B H1 (if ec c3 = true then .ok (.exc c3 fs) s2 else .bad) (kP X.mg Q) := O1
          rw [if_neg hb3] at O2; exact O2.elim
    have hva : Vis sg a := .inl sa
    obtain ⟨t2, ht2, hq2⟩ := cau_gives (X := X) (x := (x : Str)) (q := X.env.qual ++ "<lambda>") (g := g) (cdg := cdv) (j := j) (p0 := p0) (p1 := p1) (p2 := p2) (p3 := p3) (p4 := p4) (p5 := p5) (p6 := p6) (p7 := p7) (p8 := p8) (p9 := p9) (p10 := p10) (p11 := p11) (p12 := p12) (p13 := p13) Sg.nd sa sr se sc hCS dcl dr de f c2 s1 H1 Q (fun E H' Q' => tE X.mg (wE E) fe σ H' Q')
      (fun W pn xe E q1 q2 tk hW => pe_act (i := 0) I1 L hf hfn hfr (hbind _ _ _ _ _) tk hW hr2 (fun A outer s H hr3 => hbody A outer s H E f c2 hr3) rfl hva da.1 da.2) hco hTT
    exact ⟨t2, ht2.nox, hq2⟩
  refine wpAny_call (codeAny_mono rc fun r s2 hq => ?_)
  cases r with
  | error e => exact (show False from hq).elim
  | ok fl =>
    cases fl with
    | ret u => exact I1.after hq
    | next => exact False.elim hq
    | brk => exact False.elim hq
    | cont => exact False.elim hq
end
end FW

end

section
set_option Elab.async false
set_option linter.all false
set_option maxRecDepth 100000
/-! Fw19a: facts of the text's form. -/
namespace FW
open PySem PySem.Spec PyProof.Rows L2
def nst : Expr → Bool | .Starred .. => false | _ => true
def nset : Expr → Bool | .Set .. => false | _ => true
def nslc : Expr → Bool | .Slice .. => false | _ => true
def nsup : Expr → Bool | .Call (.Name ..) [] [] _ => false | _ => true
def isComp : Expr → Bool | .ListComp .. => true | .SetComp .. => true | .DictComp .. => true | _ => false
def tstOk : Expr → Bool | .IfExp .. => false | _ => true
def plainT : Expr → Bool | .UnaryOp .Not .. => false | .BoolOp .. => false | .IfExp .. => false | .Compare .. => false | _ => true
theorem star_cons {e : Expr} {es : List Expr} {env : Env} (h : nst e = true) : starEach (e :: es) env = (false, eval e env) :: starEach es env := by
  cases e <;> first | rfl | cases h
theorem star_any {pos : Pos} {env : Env} : ∀ {es : List Expr}, es.all nst = true → (backTo pos (starEach es env)).any (·.1) = false
  | [], _ => rfl
  | e :: es, h => by
    rw [List.all_cons, Bool.and_eq_true] at h
    rw [star_cons h.1]
    show (false || (backTo pos (starEach es env)).any (·.1)) = false
    rw [star_any h.2]; rfl
theorem asg_map {e : Expr} {env : Env} (h : nst e = true) : (assignEach [e] env).map (·.2) = [assign e env] := by
  cases e <;> first | rfl | cases h
theorem asg_cons {e : Expr} {es : List Expr} {env : Env} (h : nst e = true) : assignEach (e :: es) env = (false, assign e env) :: assignEach es env := by
  cases e <;> first | rfl | cases h
theorem asg_len {env : Env} : ∀ {es : List Expr}, (assignEach es env).length = es.length
  | [] => rfl
  | e :: es => by
    have : ∃ b x, assignEach (e :: es) env = (b, x) :: assignEach es env := by cases e <;> exact ⟨_, _, rfl⟩
    obtain ⟨b, x, q⟩ := this
    rw [q, List.length_cons, List.length_cons, asg_len]
theorem asg_find {env : Env} : ∀ {es : List Expr}, es.all nst = true → (assignEach es env).findIdx? (·.1) = none
  | [], _ => rfl
  | e :: es, h => by
    rw [List.all_cons, Bool.and_eq_true] at h
    rw [asg_cons h.1, List.findIdx?_cons, asg_find h.2]; rfl
theorem fold_set {e : Expr} {env : Env} (h : nset e = true) (x : Value) : foldedSetIterable e env x = pure x := by
  cases e <;> first | rfl | cases h
theorem base_ok {e : Expr} {m : Str} {env : Env} (h : nsup e = true) : attributeBase e m env (eval e env) = eval e env := by
  unfold attributeBase
  split
  · rename_i id pos
    cases h
  · rfl
theorem behind_ok {op : CmpOp} {e : Expr} (h : nset e = true) : behindInMarks op e = false := by
  cases e <;> first | rfl | cases h
theorem last_ok {op op' : CmpOp} {a b : Expr} (h : nset b = true) : lastMarks [op, op'] [a, b] = false := behind_ok (op := op') h
theorem ix_ok {b : Expr} (h : nslc b = true) : PlainIx b := fun o i => by
  cases b <;> first | rfl | cases h
theorem true_ok {e : Expr} {env : Env} (h : plainT e = true) (whole : Sem Value) : isTrue e env whole = (do let v ← whole; standAt e.pos; holding [v] (truthy v)) := by
  cases e <;> first | rfl | cases h | skip
  · rename_i op x p
    cases op <;> first | rfl | cases h
theorem swaps_no {e : Expr} {t : Option Expr} {l : Nat} {env : Env} (h : isComp e = false) : swapsWith e t l env = pure false := by
  unfold swapsWith
  cases e <;> first | rfl | cases h
theorem sub_asg {o i : Expr} {pos : Pos} {env : Env} (h : nslc i = true) (v : Value) : assign (.Subscript o i pos) env v = (do
      let ov ← holding [v] (eval o env)
      let iv ← holding [v, ov] (eval i env)
      standAt pos
      holding [v, ov, iv] (setItem ov iv v)
      release [v, ov, iv] []) := by
  cases i <;> first | rfl | cases h
/-- does the target's old value go as a comprehension ends -/
def compNames : Expr → List (Str × NameKind)
  | .ListComp _ _ s _ => s.names
  | .SetComp _ _ s _ => s.names
  | .DictComp _ _ _ s _ => s.names
  | _ => []
def swB (sc : Scope) (e : Expr) : Expr → Bool
  | .Name t pos => decide (sc.names.lookup t = some .local) && pos.line == e.pos.line && !((compNames e).any fun (n, k) => n == t && (k == .local || k == .cell))
  | _ => false
theorem swaps_comp {e t : Expr} {l : Nat} {env : Env} (h : isComp e = true) (hk : env.scope.kind = .function) : swapsWith e (some t) l env = pure (swB env.scope e t) := by
  have hb : env.blockKind = .function := by unfold Env.blockKind; rw [hk]; rfl
  have hd : ∀ x, (env.kindOf x == some NameKind.local) = decide (env.scope.names.lookup x = some .local) := fun x => by
    show (env.scope.names.lookup x == some NameKind.local) = _
    cases hh : env.scope.names.lookup x with
    | none => rfl
    | some k => cases k <;> rfl
  unfold swapsWith
  cases e
  case ListComp a b c d =>
    cases t
    case Name x p => 
      show pure _ = pure _
      simp only [hb, hd, swB, compNames]
      rfl
    all_goals rfl
  case SetComp a b c d =>
    cases t
    case Name x p => 
      show pure _ = pure _
      simp only [hb, hd, swB, compNames]
      rfl
    all_goals rfl
  case DictComp a b c d f =>
    cases t
    case Name x p => 
      show pure _ = pure _
      simp only [hb, hd, swB, compNames]
      rfl
    all_goals rfl
  all_goals exact nomatch h
/-- a, b = x, y: swapped stores -/
def swS (sc : Scope) : Expr → Expr → Option (Option (List Str))
  | .Tuple ts _ _, .Tuple vs _ _ =>
    if !(ts.length == 2 || ts.length == 3) || vs.length != ts.length then some none else
    if vs.any fun | .Starred .. => true | _ => false then some none else
    let line := (ts.head?.map (·.pos.line)).getD 0
    let names := ts.filterMap fun
      | .Name id pos => if decide (sc.names.lookup id = some .local) && pos.line == line then some id else none
      | _ => none
    if names.length != ts.length || names.eraseDups.length != names.length then some none else
    if vs.all (foldedForSure 8) then some none else
    if vs.all (constantsAlone 8) then none else some (some names)
  | .List _ _, .Tuple _ _ _ => none
  | _, _ => some none
theorem ifs5 {b1 b2 b3 b4 b5 : Bool} {ns : List Str} {u : Sem (Option (List Str))} {r : Option (List Str)}
    (h : (if b1 = true then some none else if b2 = true then some none else if b3 = true then some none else if b4 = true then some none else if b5 = true then none else some (some ns)) = some r) :
    (if b1 = true then pure none else if b2 = true then pure none else if b3 = true then pure none else if b4 = true then pure none else if b5 = true then u else pure (some ns)) = (pure r : Sem (Option (List Str))) := by
  cases b1 <;> cases b2 <;> cases b3 <;> cases b4 <;> cases b5 <;> cases h <;> rfl
theorem sws_ok {t e : Expr} {env : Env} {r : Option (List Str)} (hk : env.scope.kind = .function) (h : swS env.scope t e = some r) : swappedStores [t] e env = pure r := by
  have hb : env.blockKind = .function := by unfold Env.blockKind; rw [hk]; rfl
  have hd : ∀ x, (env.kindOf x == some NameKind.local) = decide (env.scope.names.lookup x = some .local) := fun x => by
    show (env.scope.names.lookup x == some NameKind.local) = _
    cases hh : env.scope.names.lookup x with
    | none => rfl
    | some k => cases k <;> rfl
  cases t with
  | Tuple ts a b =>
    cases e with
    | Tuple vs c d =>
      unfold swS at h
      unfold swappedStores
      have hf : (ScopeKind.function != ScopeKind.function) = false := rfl
      simp only [hb, hd, hf, Bool.or_false]
      exact ifs5 h
    | _ => cases h; rfl
  | List ts a =>
    cases e with
    | Tuple vs c d => cases h
    | _ => cases h; rfl
  | _ => cases e <;> (cases h; rfl)
end FW

end

section
set_option Elab.async false
set_option linter.all false
set_option maxRecDepth 100000
/-! Fw19: the fragment against the text. -/
namespace FW
open PySem PySem.Spec PyProof.Rows L2
structure Ck where
  N : List Str
  sc : Scope
  fnb : Str → Bool
  con : Str → P → Bool
  dsOk : String → List P → Bool
  ksOk : String → List String → List Nat → Bool
  fl : String → Bool
  has : String → Bool
  hasC : String → Bool
  hasX : String → Bool
  cau : String → Bool
def Ck.vis (c : Ck) (x : Str) : Bool := match c.sc.names.lookup x with | some .local => true | some .cell => true | some .free => true | _ => false
def Ck.gl (c : Ck) (x : Str) : Bool := decide (c.sc.names.lookup x = some .globalImplicit)
def Ck.sto (c : Ck) (x : Str) : Bool := decide (c.sc.names.lookup x = some .local) || (decide (c.sc.names.lookup x = some .cell) && c.fnb x)
def Ck.blk (c : Ck) (scope : Scope) : Ck := { c with sc := relS scope c.sc, fnb := fun x => scope.names.lookup x == some .cell, cau := fun _ => false }
def Ck.lam (c : Ck) (scope : Scope) : Ck := { c with sc := scope, fnb := fun _ => false, cau := fun _ => false }
def noPar : Arguments → Bool
  | ⟨[], [], none, [], [], none, []⟩ => true
  | _ => false
def ndb (x : Str) : Bool := !(x == ("__debug__" : Str)) && !(x == ("__classdict__" : Str))
def btys : List String := ["int", "bool", "list", "tuple", "str", "dict"]
def bnames : List String := ["len", "abs", "min", "max", "sum", "all", "any", "int", "str", "list", "tuple", "sorted", "repr", "isinstance", "zip", "set", "dict", "bool", "range", "enumerate"]
def ownOf (c : Ck) (own : List Nat) : List (Str × Nat) := own.map fun i => (c.N.getD i Str.empty, i)
def keyE : E → Option L2.Key
  | .str z => some (.inr z)
  | .int i => some (.inl i)
  | _ => none
def keyX : Option Expr → Option L2.Key
  | some (.Constant (.str z) _ _) => some (.inr z)
  | some (.Constant (.int i) _ _) => some (.inl i)
  | _ => none
def chkKeys : List E → List (Option Expr) → Bool
  | [], [] => true
  | e :: es, x :: xs => (match keyE e, keyX x with | some k, some k' => decide (k = k') | _, _ => false) && chkKeys es xs
  | _, _ => false
mutual
def chkT (c : Ck) : T → Expr → Bool
  | .name i, x => (match x with | .Name n _ => decide (c.N[i]? = some n) && c.sto n | _ => false)
  | .tup ts, x => (match x with | .Tuple xs _ _ => chkTs c ts xs && xs.all nst | _ => false)
def chkTs (c : Ck) : List T → List Expr → Bool
  | [], xs => xs.isEmpty
  | t :: ts, xs => (match xs with | x :: xs => chkT c t x && chkTs c ts xs | _ => false)
end
def isTupX : Expr → Bool | .Tuple .. => true | _ => false
def mtOk (m : Mt) (n : Str) (k : Nat) : Bool := match m with
  | .append => decide (n = ("append" : Str)) && k == 1
  | .extend => decide (n = ("extend" : Str)) && k == 1
  | .pop => decide (n = ("pop" : Str)) && (k == 0 || k == 1)
  | _ => false
mutual
def chkE (c : Ck) : E → Expr → Bool
  | .var i, x => (match x with | .Name n _ => decide (c.N[i]? = some n) && c.vis n && ndb n | _ => false)
  | .non, x => (match x with | .Constant .none _ _ => true | _ => false)
  | .bl b, x => (match x with | .Constant (.bool k) _ _ => b == k | _ => false)
  | .int i, x => (match x with | .Constant (.int k) _ _ => decide (i = k) | _ => false)
  | .str z, x => (match x with | .Constant (.str y) _ _ => decide (z = y) | _ => false)
  | .con y p, x => (match x with | .Name n _ => decide (n = (y : Str)) && c.gl n && c.con n p && ndb n | _ => false)
  | .bty t, x => (match x with | .Name n _ => decide (n = (t : Str)) && c.gl n && btys.contains t | _ => false)
  | .tup es, x => (match x with | .Tuple xs _ _ => chkEs c es xs | _ => false)
  | .lst _ es, x => (match x with | .List xs _ => chkEs c es xs | _ => false)
  | .dct _ t ks vs, x => (match x with
    | .Dict keys values _ => (ks.isEmpty && vs.isEmpty && keys.isEmpty && values.isEmpty) || (!t && chkKeys ks keys && chkEs c vs values && !ks.isEmpty && decide (ks.length = vs.length) && decide (ks.length ≤ 15))
    | _ => false)
  | .bin _ o a b, x => (match x with | .BinOp xa op xb _ => decide (op = opOf o) && chkE c a xa && chkE c b xb | _ => false)
  | .neg a, x => (match x with | .UnaryOp .USub xa _ => chkE c a xa | _ => false)
  | .not a, x => (match x with | .UnaryOp .Not xa _ => chkE c a xa && tstOk xa | _ => false)
  | .and es, x => (match x with | .BoolOp .And xs _ => chkEs c es xs && !es.isEmpty && xs.all tstOk | _ => false)
  | .or es, x => (match x with | .BoolOp .Or xs _ => chkEs c es xs && !es.isEmpty && xs.all tstOk | _ => false)
  | .cmp o a b, x => (match x with | .Compare xa [op] [xb] _ => decide (op = cmpOf o) && chkE c a xa && chkE c b xb && nset xb | _ => false)
  | .chain o o' a b d, x => (match x with | .Compare xa [op, op'] [xb, xd] _ => decide (op = cmpOf o) && decide (op' = cmpOf o') && chkE c a xa && chkE c b xb && chkE c d xd && nset xd | _ => false)
  | .ite t a b, x => (match x with | .IfExp xt xa xb _ => chkE c t xt && chkE c a xa && chkE c b xb && tstOk xt | _ => false)
  | .sub a i, x => (match x with | .Subscript xa xi _ => chkE c a xa && chkE c i xi && nslc xi | _ => false)
  | .slice _ a lo hi, x => (match x with
    | .Subscript xa (.Slice xl xh none _) _ => chkE c a xa && (match xl with | none => isAbs lo | some e => !isAbs lo && chkE c lo e) && (match xh with | none => isAbs hi | some e => !isAbs hi && chkE c hi e)
    | _ => false)
  | .rev _ a, x => (match x with | .Subscript xa (.Slice none none (some (.UnaryOp .USub (.Constant (.int 1) _ _) _)) _) _ => chkE c a xa | _ => false)
  | .abs, _ => false
  | .attr a f, x => (match x with | .Attribute xa n _ => decide (n = (f : Str)) && chkE c a xa && nsup xa && c.fl f | _ => false)
  | .call f args ds, x => (match x with | .Call (.Name n _) xs kws _ => kws.isEmpty && decide (n = (f : Str)) && c.gl n && ndb n && c.has f && c.dsOk f ds && chkEs c args xs && !xs.isEmpty | _ => false)
  | .callk f args ks pm vs, x => (match x with | .Call (.Name n _) xs kws _ => args.isEmpty && xs.isEmpty && decide (n = (f : Str)) && c.gl n && ndb n && c.has f && c.ksOk f ks pm && chkKw c ks vs kws | _ => false)
  | .make cl args, x => (match x with | .Call (.Name n _) xs kws _ => kws.isEmpty && decide (n = (cl : Str)) && c.gl n && ndb n && c.hasC cl && chkEs c args xs && !xs.isEmpty | _ => false)
  | .bi _ b args, x => (match x with | .Call (.Name n _) xs kws _ => kws.isEmpty && decide (n = (biN b : Str)) && c.gl n && chkEs c args xs && !xs.isEmpty | _ => false)
  | .meth m o args, x => (match x with | .Call (.Attribute xo n apos) xs kws pos => kws.isEmpty && chkE c o xo && chkEs c args xs && nsup xo && apos.endLine == pos.line && mtOk m n xs.length | _ => false)
  | .omet _ _ _, _ => false
  | .comp _ elt tg it ifs own, x => (match x with
    | .ListComp xe [⟨xt, xi, xifs, ia⟩] scope _ => ia == 0 && blkC c.N c.sc scope (ownOf c own) && chkI c it xt xi && nset xi && chkT (c.blk scope) tg xt && chkIfs (c.blk scope) ifs xifs && chkE (c.blk scope) elt xe && (slotsT tg).all (own.contains ·)
    | _ => false)
  | .dcomp _ t key val tg it ifs own, x => (match x with
    | .DictComp xk xv [⟨xt, xi, xifs, ia⟩] scope _ => !t && ia == 0 && blkC c.N c.sc scope (ownOf c own) && chkI c it xt xi && nset xi && chkT (c.blk scope) tg xt && chkIfs (c.blk scope) ifs xifs && chkE (c.blk scope) key xk && chkE (c.blk scope) val xv && (slotsT tg).all (own.contains ·)
    | _ => false)
  | .caught f e, x => (match x with
    | .Call (.Name n _) [.Lambda params body scope _] kws _ => kws.isEmpty && decide (n = (f : Str)) && c.gl n && ndb n && c.cau f && noPar params && LamX.lamSB c.sc scope && chkE (c.lam scope) e body
    | _ => false)
def chkEs (c : Ck) : List E → List Expr → Bool
  | [], xs => xs.isEmpty
  | e :: es, xs => (match xs with | x :: xs => chkE c e x && nst x && chkEs c es xs | _ => false)
def chkIfs (c : Ck) : List E → List Expr → Bool
  | [], xs => xs.isEmpty
  | e :: es, xs => es.isEmpty && (match xs with | [x] => chkE c e x && tstOk x | _ => false)
def chkKw (c : Ck) (ks : List String) : List E → List Keyword → Bool
  | [], kws => ks.isEmpty && kws.isEmpty
  | e :: es, kws => (match ks, kws with | k :: ks, ⟨some n, x, _⟩ :: kws => decide (n = (k : Str)) && chkE c e x && chkKw c ks es kws | _, _ => false)
def chkI (c : Ck) : I → Expr → Expr → Bool
  | .seq e, _, x => chkE c e x
  | .keys i, _, x => (match x with | .Name n _ => decide (c.N[i]? = some n) && c.vis n && ndb n | _ => false)
  | .range1 a, _, x => (match x with | .Call (.Name n _) [xa] [] _ => decide (n = ("range" : Str)) && c.gl n && chkE c a xa && nst xa | _ => false)
  | .range2 a b, _, x => (match x with | .Call (.Name n _) [xa, xb] [] _ => decide (n = ("range" : Str)) && c.gl n && chkE c a xa && nst xa && chkE c b xb && nst xb | _ => false)
  | .enum e, t, x => (match x with | .Call (.Name n _) [xa] [] _ => isTupX t && decide (n = ("enumerate" : Str)) && c.gl n && chkE c e xa && nst xa | _ => false)
  | .zip _ _, _, _ => false
end
mutual
def chkS (c : Ck) : St → Stmt → Bool
  | .asg t e, x => (match x with
    | .Assign [xt] xe _ => chkT c t xt && chkE c e xe && nst xt && (match swS c.sc xt xe with
      | some none => if isComp xe then (if swB c.sc xe xt then (match t, xt with | .name i, .Name n _ => decide (c.N[i]? = some n) && decide (c.sc.names.lookup n = some .local) | _, _ => false) else true) else true
      | some (some ns) => (match t, e, xt, xe with
        | .tup [.name i, .name j], .tup es, .Tuple [.Name x _, .Name y _] _ _, .Tuple [a, b] _ _ => decide (ns = [x, y]) && decide (i ≠ j) && decide (c.sc.names.lookup x = some .local) && decide (c.sc.names.lookup y = some .local) && chkEs c es [a, b]
        | .tup [.name i, .name j, .name l], .tup es, .Tuple [.Name x _, .Name y _, .Name z _] _ _, .Tuple [a, b, d] _ _ => decide (ns = [x, y, z]) && decide (i ≠ j) && decide (i ≠ l) && decide (j ≠ l) && decide (c.sc.names.lookup x = some .local) && decide (c.sc.names.lookup y = some .local) && decide (c.sc.names.lookup z = some .local) && chkEs c es [a, b, d]
        | _, _, _, _ => false)
      | none => false)
    | _ => false)
  | .asub o i e, x => (match x with | .Assign [.Subscript xo xi _] xe _ => chkE c o xo && chkE c i xi && chkE c e xe && nslc xi && !isComp xe | _ => false)
  | .aattr o f e, x => (match x with | .Assign [.Attribute xo n _] xe _ => decide (n = (f : Str)) && chkE c o xo && chkE c e xe && !isComp xe && c.fl f | _ => false)
  | .aug _ _ _, _ => false
  | .expr e, x => (match x with | .Expr xe _ => chkE c e xe && !isComp xe | _ => false)
  | .ret e, x => (match x with | .Return (some xe) _ => chkE c e xe | _ => false)
  | .retN, x => (match x with | .Return none _ => true | _ => false)
  | .ifs t a b, x => (match x with | .If xt xa xb _ => chkE c t xt && tstOk xt && chkSs c a xa && chkSs c b xb | _ => false)
  | .for_ t it body, x => (match x with | .For xt xi xb [] _ => chkT c t xt && chkI c it xt xi && !(match it with | .keys _ => true | _ => false) && nset xi && chkSs c body xb | _ => false)
  | .whl t body, x => (match x with | .While xt xb [] _ => chkE c t xt && tstOk xt && chkSs c body xb | _ => false)
  | .raise cl args, x => (match x with | .Raise (some (.Call (.Name n _) [xa] kws _)) none _ => kws.isEmpty && decide (n = (cl : Str)) && c.gl n && ndb n && c.hasX cl && chkEs c args [xa] | _ => false)
  | .brk, x => (match x with | .Break _ => true | _ => false)
  | .cont, x => (match x with | .Continue _ => true | _ => false)
  | .pass, x => (match x with | .Pass _ => true | _ => false)
def chkSs (c : Ck) : List St → List Stmt → Bool
  | [], xs => xs.isEmpty
  | s :: ss, xs => (match xs with | x :: xs => chkS c s x && chkSs c ss xs | _ => false)
end
end FW

end

section
set_option Elab.async false
set_option linter.all false
set_option maxRecDepth 100000
/-! Fw20: what is checked holds: expressions. -/
namespace FW
open PySem PySem.Spec PyProof.Rows L2
variable [Tb]
/-- alike but for the place -/
structure Same (X Y : Cx) : Prop where
  prog : Y.prog = X.prog
  w : Y.w = X.w
  K : Y.K = X.K
  mg : Y.mg = X.mg
  base : Y.base = X.base
theorem FnE.mono {pg : Program} {w : World} {K : PySem.W.Frag} {mg : Mg} {base : Heap} {j k : Nat} {dsOk : List P → Bool} {ksOk : List String → List Nat → Bool} {f : String} {F : Fn} (G : FnE pg w K mg base j dsOk ksOk f F) (h : j ≤ k) : FnE pg w K mg base k dsOk ksOk f F := by
  obtain ⟨a, fd, params, h1, h2, h3, h4, h5, h6⟩ := G.ex
  exact ⟨a, fd, params, h1, h2, h3.mono h, h4, h5, h6⟩
/-- an exception made and raised -/
def RaiseR (X : Cx) (cl : String) (F : Fn) : Prop := ∀ (Ek : XK) (p pos pos' : Pos) (e : Expr) (fs : Rho → M (List P)), Takes X (wE Ek) → VA X (wE Ek) [e] fs → nst e = true → Gl X (cl : Str) → ((cl : Str) == ("__debug__" : Str)) = false →
  VS X (wE Ek) (.Raise (some (.Call (.Name (cl : Str) p) [e] [] pos)) none pos') (fun ρ => bnd (fs ρ) fun ps => bnd (rsF F ps) fun x => fun s => .exn x s)
structure At (pg : Program) (w : World) (K : PySem.W.Frag) (mg : Mg) (base : Heap) (Y : Cx) : Prop where
  prog : Y.prog = pg
  w : Y.w = w
  K : Y.K = K
  mg : Y.mg = mg
  base : Y.base = base
/-- what a def's body must know, whatever the place -/
structure GoodB (pg : Program) (w : World) (K : PySem.W.Frag) (mg : Mg) (base : Heap) (Φ : Fenv) (c : Ck) (k : Nat) : Prop where
  mg0 : ∀ n, bnames.contains n = true → mg (n : Str) = none
  con : ∀ Y, At pg w K mg base Y → ∀ x p, c.con x p = true → GloV Y x p
  has : ∀ f, c.has f = true → ∃ F, Φ.fn f = some F
  hasC : ∀ f, c.hasC f = true → ∃ F, Φ.mkc f = some F
  hasX : ∀ f, c.hasX f = true → ∃ F, Φ.mkx f = some F
  rs : ∀ Y, At pg w K mg base Y → Y.calm = true → Room (k + 1) Y.A → ∀ cl F, Φ.mkx cl = some F → RaiseR Y cl F
  fns : ∀ f F, Φ.fn f = some F → FnE pg w K mg base k (c.dsOk f) (c.ksOk f) f F
  mks : ∀ cl F, Φ.mkc cl = some F → MkE pg w K mg base k cl F
  prs : ∀ cl f F, Φ.prop cl f = some F → PropE pg w K mg base k cl f F
  cls : ∀ cl, Φ.cls.contains cl = true → ClsE K mg (fun f => c.fl f && (Φ.prop cl f).isNone) cl
  exc : ∀ cl, Φ.exc.contains cl = true → ExcE K mg c.fl cl
  isi : ∀ Y, At pg w K mg base Y → Y.calm = true → Room 0 Y.A → IsiOk Y Φ
  mino : ∀ Y, At pg w K mg base Y → Y.calm = true → Room 0 Y.A → MinOk Y
theorem GoodB.lam {pg : Program} {w : World} {K : PySem.W.Frag} {mg : Mg} {base : Heap} {Φ : Fenv} {c : Ck} {k : Nat} (G : GoodB pg w K mg base Φ c k) (scope : Scope) : GoodB pg w K mg base Φ (c.lam scope) k :=
  ⟨G.mg0, G.con, G.has, G.hasC, G.hasX, G.rs, G.fns, G.mks, G.prs, G.cls, G.exc, G.isi, G.mino⟩
/-- the table of the code objects of lambdas made in a def: its code object, its own qualified name -/
def TabQ (base : Heap) (mg : Mg) (code : Value) (q : Str) : Prop := ∃ cc Pt : Addr, code = .ref cc ∧ LamX.TabB base mg cc Pt ∧ (Pt, q ++ "<lambda>") ∈ Tb.T ∧ ∀ p ∈ Tb.T, p.1 = Pt → p.2 = q ++ "<lambda>"
structure Good (X : Cx) (Φ : Fenv) (c : Ck) (k : Nat) : Prop where
  N : X.N = c.N
  sc : X.env.scope = c.sc
  nd : X.N.Nodup
  calm : X.calm = true
  fn : ∀ x, c.fnb x = true → X.fn x = true
  room : Room (k + 1) X.A
  mg0 : ∀ n, bnames.contains n = true → X.mg (n : Str) = none
  con : ∀ Y x p, Same X Y → c.con x p = true → GloV Y x p
  has : ∀ f, c.has f = true → ∃ F, Φ.fn f = some F
  hasC : ∀ f, c.hasC f = true → ∃ F, Φ.mkc f = some F
  hasX : ∀ f, c.hasX f = true → ∃ F, Φ.mkx f = some F
  rs : ∀ Y, Same X Y → Y.calm = true → Room (k + 1) Y.A → ∀ cl F, Φ.mkx cl = some F → RaiseR Y cl F
  fns : ∀ f F, Φ.fn f = some F → FnE X.prog X.w X.K X.mg X.base k (c.dsOk f) (c.ksOk f) f F
  mks : ∀ cl F, Φ.mkc cl = some F → MkE X.prog X.w X.K X.mg X.base k cl F
  prs : ∀ cl f F, Φ.prop cl f = some F → PropE X.prog X.w X.K X.mg X.base k cl f F
  cls : ∀ cl, Φ.cls.contains cl = true → ClsE X.K X.mg (fun f => c.fl f && (Φ.prop cl f).isNone) cl
  exc : ∀ cl, Φ.exc.contains cl = true → ExcE X.K X.mg c.fl cl
  isi : ∀ Y, Same X Y → Y.calm = true → Room 0 Y.A → IsiOk Y Φ
  mino : ∀ Y, Same X Y → Y.calm = true → Room 0 Y.A → MinOk Y
  cau : ∀ f, c.cau f = true → CauK X.K X.mg (ecOf Φ) f ∧ TabQ X.base X.mg X.env.code X.env.qual ∧ ∃ j, j + 2 ≤ k ∧ GoodB X.prog X.w X.K X.mg X.base Φ c j
section
variable {X : Cx} {Φ : Fenv} {c : Ck} {k : Nat}
theorem Good.blk (G : Good X Φ c k) (scope : Scope) (s : Shared) (H : Hp) (C : Addr) (cl : List (Str × Addr)) (fp : List Addr) : Good (X.blk s H scope (compEnvC scope cl C X.env) fp) Φ (c.blk scope) k where
  N := G.N
  sc := by show relS scope X.env.scope = relS scope c.sc; rw [G.sc]
  nd := G.nd
  calm := G.calm
  fn := fun x h => h
  room := G.room
  mg0 := G.mg0
  con := fun Y x p h q => G.con Y x p ⟨h.prog, h.w, h.K, h.mg, h.base⟩ q
  has := G.has
  hasC := G.hasC
  hasX := G.hasX
  rs := fun Y h => G.rs Y ⟨h.prog, h.w, h.K, h.mg, h.base⟩
  fns := G.fns
  mks := G.mks
  prs := G.prs
  cls := G.cls
  exc := G.exc
  isi := fun Y h => G.isi Y ⟨h.prog, h.w, h.K, h.mg, h.base⟩
  mino := fun Y h => G.mino Y ⟨h.prog, h.w, h.K, h.mg, h.base⟩
  cau := fun f h => nomatch (show false = true from h)
theorem GoodB.good (G : GoodB X.prog X.w X.K X.mg X.base Φ c k) (hN : X.N = c.N) (hsc : X.env.scope = c.sc) (hnd : X.N.Nodup) (hc : X.calm = true) (hfn : ∀ x, c.fnb x = true → X.fn x = true) (hr : Room (k + 1) X.A)
    (hcau : ∀ f, c.cau f = true → CauK X.K X.mg (ecOf Φ) f ∧ TabQ X.base X.mg X.env.code X.env.qual ∧ ∃ j, j + 2 ≤ k ∧ GoodB X.prog X.w X.K X.mg X.base Φ c j) : Good X Φ c k where
  N := hN
  sc := hsc
  nd := hnd
  calm := hc
  fn := hfn
  room := hr
  mg0 := G.mg0
  con := fun Y x p h q => G.con Y ⟨h.prog, h.w, h.K, h.mg, h.base⟩ x p q
  has := G.has
  hasC := G.hasC
  hasX := G.hasX
  rs := fun Y h => G.rs Y ⟨h.prog, h.w, h.K, h.mg, h.base⟩
  fns := G.fns
  mks := G.mks
  prs := G.prs
  cls := G.cls
  exc := G.exc
  isi := fun Y h => G.isi Y ⟨h.prog, h.w, h.K, h.mg, h.base⟩
  mino := fun Y h => G.mino Y ⟨h.prog, h.w, h.K, h.mg, h.base⟩
  cau := hcau
theorem Good.gl (G : Good X Φ c k) {x : Str} (h : c.gl x = true) : Gl X x := by
  show X.env.scope.names.lookup x = some .globalImplicit
  rw [G.sc]; exact of_decide_eq_true h
theorem Good.vis (G : Good X Φ c k) {x : Str} (h : c.vis x = true) : Vis X.env.scope x := by
  unfold Ck.vis at h
  unfold Vis
  rw [G.sc]
  split at h
  · exact .inl (by assumption)
  · exact .inr (.inl (by assumption))
  · exact .inr (.inr (by assumption))
  · cases h
theorem ndb_of {x : Str} (h : ndb x = true) : (x == ("__debug__" : Str)) = false ∧ (x == ("__classdict__" : Str)) = false := by
  unfold ndb at h
  rw [Bool.and_eq_true, Bool.not_eq_true', Bool.not_eq_true'] at h
  exact h
theorem Good.units (G : Good X Φ c k) : X.A.units + 100 < cLine := by have := G.room.un; omega
theorem Good.room0 (G : Good X Φ c k) : Room 0 X.A := G.room.mono (Nat.zero_le _)
theorem Good.roomk (G : Good X Φ c k) : Room k X.A := G.room.mono (Nat.le_succ _)
theorem same_refl : Same X X := ⟨rfl, rfl, rfl, rfl, rfl⟩
/-- what an expression is known by -/
structure Snd (X : Cx) (Φ : Fenv) (Ek : XK) (e : E) (x : Expr) : Prop where
  ve : VE X (wE Ek) x (ev Φ e)
  vt : tstOk x = true → VT X (wE Ek) x (tst (ev Φ e))
  vc : isComp x = true → VC X (wE Ek) x (ev Φ e)
inductive All2 {α β : Type} (R : α → β → Prop) : List α → List β → Prop where
  | nil : All2 R [] []
  | cons {a : α} {b : β} {as : List α} {bs : List β} (h : R a b) (t : All2 R as bs) : All2 R (a :: as) (b :: bs)
abbrev Snds (X : Cx) (Φ : Fenv) (Ek : XK) : List E → List Expr → Prop := All2 fun e x => Snd X Φ Ek e x ∧ nst x = true
variable {Ek : XK}
theorem snd_plain {e : E} {x : Expr} (h : VE X (wE Ek) x (ev Φ e)) (hp : plainT x = true) (hc : isComp x = false) : Snd X Φ Ek e x :=
  ⟨h, fun _ => vt_truth h (true_ok hp), fun z => by rw [hc] at z; cases z⟩
theorem snds_va : ∀ {es : List E} {xs : List Expr}, Snds X Φ Ek es xs → VA X (wE Ek) xs (evs Φ es)
  | [], [], _ => va_nil
  | e :: es, x :: xs, h => by
    cases h with
    | cons h1 h2 => exact va_cons h1.1.ve (snds_va h2) (star_cons h1.2)
theorem snds_nst : ∀ {es : List E} {xs : List Expr}, Snds X Φ Ek es xs → xs.all nst = true
  | [], [], _ => rfl
  | e :: es, x :: xs, h => by
    cases h with
    | cons h1 h2 => rw [List.all_cons, h1.2, snds_nst h2]; rfl
theorem snds_and : ∀ {es : List E} {xs : List Expr} {pos : Pos}, Snds X Φ Ek es xs → es ≠ [] → VE X (wE Ek) (.BoolOp .And xs pos) (evAnd Φ es)
  | [], _, _, _, h => absurd rfl h
  | [e], _, _, h, _ => by
    cases h with
    | cons h1 h2 => cases h2; exact ve_one h1.1.ve
  | e :: e2 :: es, _, _, h, _ => by
    cases h with
    | cons h1 h2 =>
      have ih := snds_and (pos := ‹Pos›) h2 (List.cons_ne_nil _ _)
      cases h2 with
      | cons h3 h4 => exact ve_and h1.1.ve ih
theorem snds_or : ∀ {es : List E} {xs : List Expr} {pos : Pos}, Snds X Φ Ek es xs → es ≠ [] → VE X (wE Ek) (.BoolOp .Or xs pos) (evOr Φ es)
  | [], _, _, _, h => absurd rfl h
  | [e], _, _, h, _ => by
    cases h with
    | cons h1 h2 => cases h2; exact ve_one h1.1.ve
  | e :: e2 :: es, _, _, h, _ => by
    cases h with
    | cons h1 h2 =>
      have ih := snds_or (pos := ‹Pos›) h2 (List.cons_ne_nil _ _)
      cases h2 with
      | cons h3 h4 => exact ve_or h1.1.ve ih
theorem snds_wand : ∀ {es : List E} {xs : List Expr} {pos : Pos}, Snds X Φ Ek es xs → es ≠ [] → xs.all tstOk = true → VW X (wE Ek) (.BoolOp .And xs pos) (tst (evAnd Φ es))
  | [], _, _, _, h, _ => absurd rfl h
  | [e], _, _, h, _, ht => by
    cases h with
    | cons h1 h2 =>
      cases h2
      rw [List.all_cons, Bool.and_eq_true] at ht
      exact vw_and1 (h1.1.vt ht.1)
  | e :: e2 :: es, _, _, h, _, ht => by
    cases h with
    | cons h1 h2 =>
      rw [List.all_cons, Bool.and_eq_true] at ht
      have ih := snds_wand (pos := ‹Pos›) h2 (List.cons_ne_nil _ _) ht.2
      cases h2 with
      | cons h3 h4 => exact vw_and (h1.1.vt ht.1) ih
theorem snds_wor : ∀ {es : List E} {xs : List Expr} {pos : Pos}, Snds X Φ Ek es xs → es ≠ [] → xs.all tstOk = true → VW X (wE Ek) (.BoolOp .Or xs pos) (tst (evOr Φ es))
  | [], _, _, _, h, _ => absurd rfl h
  | [e], _, _, h, _, ht => by
    cases h with
    | cons h1 h2 =>
      cases h2
      rw [List.all_cons, Bool.and_eq_true] at ht
      exact vw_or1 (h1.1.vt ht.1)
  | e :: e2 :: es, _, _, h, _, ht => by
    cases h with
    | cons h1 h2 =>
      rw [List.all_cons, Bool.and_eq_true] at ht
      have ih := snds_wor (pos := ‹Pos›) h2 (List.cons_ne_nil _ _) ht.2
      cases h2 with
      | cons h3 h4 => exact vw_or (h1.1.vt ht.1) ih
end
section
variable {Φ : Fenv} {c : Ck} {k : Nat}
/-! ### targets -/
mutual
theorem snd_t {X : Cx} (G : Good X Φ c k) : ∀ {t : T} {x : Expr}, chkT c t x = true → PG X x (tG X.mg t)
  | .name i, x, h => by
    unfold chkT at h
    split at h
    · rename_i n p
      rw [Bool.and_eq_true] at h
      obtain ⟨h1, h2⟩ := h
      have hN : X.N[i]? = some n := by rw [G.N]; exact of_decide_eq_true h1
      unfold Ck.sto at h2
      rw [Bool.or_eq_true, Bool.and_eq_true, decide_eq_true_eq, decide_eq_true_eq, ← G.sc] at h2
      rcases h2 with h2 | ⟨h2, h3⟩
      · exact vg_name G.nd hN (.inl h2) (.inr h2)
      · exact vg_name G.nd hN (.inr h2) (.inl (G.fn n h3))
    · cases h
  | .tup ts, x, h => by
    unfold chkT at h
    split at h
    · rename_i xs q p
      rw [Bool.and_eq_true] at h
      have hl := chkTs_len h.1
      exact vg_tup G.calm (snd_ts G h.1 h.2) (by rw [asg_len, hl]) (asg_find h.2)
    · cases h
theorem snd_ts {X : Cx} (G : Good X Φ c k) : ∀ {ts : List T} {xs : List Expr}, chkTs c ts xs = true → xs.all nst = true → PGs X xs (tGs X.mg ts)
  | [], xs, h, _ => by
    unfold chkTs at h
    rw [List.isEmpty_iff] at h
    subst h; exact vgs_nil
  | t :: ts, xs, h, hn => by
    unfold chkTs at h
    split at h
    · rename_i x xs
      rw [Bool.and_eq_true] at h
      rw [List.all_cons, Bool.and_eq_true] at hn
      exact vgs_cons (snd_t G h.1) (snd_ts G h.2 hn.2) (by rw [asg_cons hn.1]; rfl)
    · cases h
theorem chkTs_len : ∀ {ts : List T} {xs : List Expr}, chkTs c ts xs = true → xs.length = ts.length
  | [], xs, h => by
    unfold chkTs at h
    rw [List.isEmpty_iff] at h
    subst h; rfl
  | t :: ts, xs, h => by
    unfold chkTs at h
    split at h
    · rename_i x xs
      rw [Bool.and_eq_true] at h
      rw [List.length_cons, List.length_cons, chkTs_len h.2]
    · cases h
end
end
end FW

end

section
set_option Elab.async false
set_option linter.all false
set_option maxRecDepth 100000
/-! Fw21: what is checked holds: expressions, by recursion. -/
namespace FW
open PySem PySem.Spec PyProof.Rows L2
variable [Tb]
abbrev X0 : XK := fun _ _ _ => False
theorem takes0 {X : Cx} : Takes X (wE X0) := LamX.takes0
def isKeys : I → Bool | .keys _ => true | _ => false
section
variable {Φ : Fenv} {c : Ck} {k : Nat}
theorem evs_evL : ∀ {es : List E} {ρ : Rho}, evs Φ es ρ = evL (es.map (ev Φ)) ρ
  | [], _ => rfl
  | e :: es, ρ => by
    show bnd (ev Φ e ρ) (fun p => bnd (evs Φ es ρ) fun ps => ret (p :: ps)) = bnd (ev Φ e ρ) (fun p => bnd (evL (es.map (ev Φ)) ρ) fun ps => ret (p :: ps))
    rw [evs_evL]
theorem keys_of {X : Cx} {pos : Pos} : ∀ {ks : List E} {keys : List (Option Expr)}, chkKeys ks keys = true → ∃ kl : List Key, kl.length = ks.length ∧ keys.length = ks.length ∧ keys.all (·.isSome) = true ∧ (∀ ρ, evs Φ ks ρ = ret (kl.map keyK')) ∧
    ∀ (es : List E) (xs : List Expr), es.length = kl.length → Snds X Φ X0 es xs → PPs X pos keys xs (trK X.mg kl (es.map (ev Φ))) ∧ xs.length = kl.length
  | [], [], _ => ⟨[], rfl, rfl, rfl, fun _ => rfl, fun es xs hl h => by
    have e : es = [] := List.length_eq_zero_iff.mp hl
    subst e
    cases h
    exact ⟨pps_nil, rfl⟩⟩
  | [], _ :: _, h => by cases h
  | _ :: _, [], h => by cases h
  | e :: ks, y :: keys, h => by
    unfold chkKeys at h
    rw [Bool.and_eq_true] at h
    obtain ⟨h1, h2⟩ := h
    obtain ⟨kl, l1, l2, l3, l4, l5⟩ := keys_of (X := X) (pos := pos) h2
    have h3 : ∃ kk yy, keyE e = some kk ∧ keyX y = some kk ∧ y = some yy ∧ PE X yy (tE X.mg W0 fun _ => ret (keyK' kk)) ∧ ∀ ρ, ev Φ e ρ = ret (keyK' kk) := by
      split at h1
      · rename_i a b ha hb
        have ab := of_decide_eq_true h1
        subst ab
        unfold keyE at ha
        split at ha
        · cases ha
          unfold keyX at hb
          split at hb
          · cases hb; exact ⟨_, _, rfl, rfl, rfl, ve_str, fun _ => rfl⟩
          · cases hb
          · cases hb
        · cases ha
          unfold keyX at hb
          split at hb
          · cases hb
          · cases hb; exact ⟨_, _, rfl, rfl, rfl, ve_int, fun _ => rfl⟩
          · cases hb
        · cases ha
      · cases h1
    obtain ⟨kk, yy, e1, e2, e3, e4, e5⟩ := h3
    subst e3
    refine ⟨kk :: kl, by rw [List.length_cons, List.length_cons, l1], by rw [List.length_cons, List.length_cons, l2], by rw [List.all_cons, l3]; rfl, fun ρ => ?_, fun es xs hl h => ?_⟩
    · show bnd (ev Φ e ρ) (fun p => bnd (evs Φ ks ρ) fun ps => ret (p :: ps)) = _
      rw [e5, l4]; rfl
    · cases h with
      | nil => cases hl
      | cons h1 h2 =>
        obtain ⟨p1, p2⟩ := l5 _ _ (by simpa using hl) h2
        exact ⟨pps_cons e4 h1.1.ve p1, by rw [List.length_cons, List.length_cons, p2]⟩
theorem kvOf_k : ∀ {kl : List Key} {qs : List P}, kl.length = qs.length → kvOf (kl.map keyK') qs = some ((kl.map KeyP.k).zip qs)
  | [], [], _ => rfl
  | k :: kl, q :: qs, h => by
    have ih := kvOf_k (kl := kl) (qs := qs) (by simpa using h)
    have ek : keyOf (keyK' k) = some (.k k) := by cases k <;> rfl
    show (match keyOf (keyK' k), kvOf (kl.map keyK') qs with | some k, some r => some ((k, q) :: r) | _, _ => none) = _
    rw [ek, ih]; rfl
theorem zip_all : ∀ {kl : List Key} {qs : List P}, (((kl.map KeyP.k).zip qs).all fun kv => isT kv.1 == false) = true
  | [], _ => by simp
  | _ :: _, [] => by simp
  | k :: kl, q :: qs => by
    rw [List.map_cons, List.zip_cons_cons, List.all_cons, zip_all]; rfl
theorem ev_disp {r : Al} {ks vs : List E} {kl : List Key} (h1 : ∀ ρ, evs Φ ks ρ = ret (kl.map keyK')) (hl : kl.length = vs.length) (h15 : kl.length ≤ 15) : ev Φ (.dct r false ks vs) = dispM r kl (vs.map (ev Φ)) := by
  funext ρ s
  show bnd (evs Φ ks ρ) (fun ps => bnd (quiet (evs Φ vs ρ)) fun qs => bnd (ofO (dispD false ps qs)) fun kvs => mkD r false kvs) s = bnd (quiet (evL (vs.map (ev Φ)) ρ)) _ s
  rw [h1, bnd_ret, evs_evL]
  cases e : quiet (evL (vs.map (ev Φ)) ρ) s with
  | bad => rw [bnd_bad e, bnd_bad e]
  | exn x s' => rw [bnd_exn e, bnd_exn e]
  | ok qs s' =>
    rw [bnd_ok e, bnd_ok e]
    have e2 : evL (vs.map (ev Φ)) ρ s = .ok qs s' := by
      unfold quiet at e
      cases e3 : evL (vs.map (ev Φ)) ρ s with
      | ok a b => rw [e3] at e; exact e
      | exn x b => rw [e3] at e; cases e
      | bad => rw [e3] at e; cases e
    have lq : qs.length = vs.length := by rw [evL_len e2, List.length_map]
    have ed : dispD false (kl.map keyK') qs = some (((kl.map KeyP.k).zip qs).foldl (fun acc kv => put acc kv.1 kv.2) []) := by
      unfold dispD
      rw [kvOf_k (by omega)]
      dsimp only
      rw [if_pos]
      rw [Bool.and_eq_true, decide_eq_true_eq]
      exact ⟨zip_all, by rw [List.length_zip, List.length_map]; omega⟩
    rw [ed]; rfl
theorem vo_of {X : Cx} {W : WX} {lo : E} {xl : Option Expr} (h : (match xl with | none => isAbs lo | some e => !isAbs lo && chkE c lo e) = true) (ih : ∀ e, chkE c lo e = true → VE X W e (ev Φ lo)) :
    VO X W xl (fun ρ => if isAbs lo then ret none else bnd (ev Φ lo ρ) toI) := by
  cases xl with
  | none =>
    have h : isAbs lo = true := h
    have e : (fun ρ => if isAbs lo = true then ret none else bnd (ev Φ lo ρ) toI) = fun _ : Rho => (ret none : M (Option Int)) := by funext ρ; rw [if_pos h]
    rw [e]; exact vo_none
  | some e =>
    have h : (!isAbs lo && chkE c lo e) = true := h
    rw [Bool.and_eq_true, Bool.not_eq_true'] at h
    have e : (fun ρ => if isAbs lo = true then ret none else bnd (ev Φ lo ρ) toI) = fun ρ : Rho => (bnd (ev Φ lo ρ) toI : M (Option Int)) := by funext ρ; rw [if_neg (by rw [h.1]; decide)]
    rw [e]; exact vo_some (ih _ h.2)
theorem keys_in {α : Type} {ρ : Rho} {i : Nat} {g : Iter → M α} {s : Sto} (h : bnd (bnd (getV ρ i) keysOf) g s ≠ .bad) : ∃ kvs, ρ[i]? = some (some (.dct false kvs)) := by
  rw [bnd_assoc] at h
  cases e : ρ[i]? with
  | none => exact absurd (by unfold getV; rw [e]; rfl) h
  | some op =>
    cases op with
    | none => exact absurd (by unfold getV; rw [e]; rfl) h
    | some p =>
      have e2 : getV ρ i = ret p := by unfold getV; rw [e]
      rw [e2, bnd_ret] at h
      cases hk : keysOf p s with
      | bad => exact absurd (bnd_bad hk) h
      | exn x s' =>
        unfold keysOf at hk
        split at hk <;> cases hk
      | ok it s' =>
        unfold keysOf at hk
        split at hk
        · exact ⟨_, rfl⟩
        · cases hk
theorem tst_ifs {e : E} : evIfs Φ [e] = tst (ev Φ e) := by
  funext ρ
  show bnd (ev Φ e ρ) (fun p => bnd (truthM p) fun c => if c then ret true else ret false) = bnd (ev Φ e ρ) truthM
  refine congrArg (bnd (ev Φ e ρ)) (funext fun p => ?_)
  refine (congrArg (bnd (truthM p)) (funext fun c => ?_)).trans bnd_truth_ret
  cases c <;> rfl
theorem pts_nil' {X : Cx} : PTs X [] (tT X.mg W0 (evIfs Φ [])) := ⟨fun pins s σ H Q I h => by
  obtain ⟨A, B, ρ, s', S, L, O⟩ := h
  exact wpAny_tests_nil ⟨H, I, Out.ret (a := true) (s := s') O S⟩⟩
theorem own_map {own : List Nat} : (ownOf c own).map (·.2) = own := by
  unfold ownOf
  rw [List.map_map]
  exact List.map_id'' (fun _ => rfl) own
theorem bty_mem {t : String} (h : btys.contains t = true) : bnames.contains t = true ∧ bootBuiltins (t : Str) = some (.type t) ∧ (t : Str) ≠ ("__name__" : Str) ∧ ((t : Str) == ("__debug__" : Str)) = false := by
  have : t ∈ btys := by simpa using h
  unfold btys at this
  simp only [List.mem_cons, List.not_mem_nil, or_false] at this
  rcases this with z | z | z | z | z | z <;> subst z <;> exact ⟨by decide, rfl, by decide, by decide⟩
theorem biN_mem (b : Bi) : bnames.contains (biN b) = true := by cases b <;> decide
theorem keys_pi {X : Cx} {i : Nat} {tg x : Expr} (G : Good X Φ c k) (h : chkI c (.keys i) tg x = true) : PI X tg x (fun σ H R => Locked i σ H ∧ tI X.mg W0 (fun ρ => bnd (getV ρ i) keysOf) σ H R) := by
  unfold chkI at h
  split at h
  · simp only [Bool.and_eq_true] at h
    obtain ⟨⟨h1, h2⟩, h3⟩ := h
    exact vi_keys (pe_var (by rw [G.N]; exact of_decide_eq_true h1) (G.vis h2) (ndb_of h3).1 (ndb_of h3).2)
  · cases h
mutual
theorem snd_e : ∀ (e : E) {k : Nat} {X : Cx} {c : Ck} {x : Expr} {Ek : XK}, Good X Φ c k → Takes X (wE Ek) → chkE c e x = true → Snd X Φ Ek e x
  | .var i, k, X, c, x, Ek, G, tk, h => by
    unfold chkE at h
    split at h
    · rename_i n p
      simp only [Bool.and_eq_true] at h
      obtain ⟨⟨h1, h2⟩, h3⟩ := h
      exact snd_plain (ve_var (by rw [G.N]; exact of_decide_eq_true h1) (G.vis h2) (ndb_of h3).1 (ndb_of h3).2) rfl rfl
    · cases h
  | .non, k, X, c, x, Ek, G, tk, h => by
    unfold chkE at h
    split at h
    · exact snd_plain ve_non rfl rfl
    · cases h
  | .bl b, k, X, c, x, Ek, G, tk, h => by
    unfold chkE at h
    split at h
    · obtain rfl := eq_of_beq h
      exact snd_plain ve_bl rfl rfl
    · cases h
  | .int i, k, X, c, x, Ek, G, tk, h => by
    unfold chkE at h
    split at h
    · obtain rfl := of_decide_eq_true h
      exact snd_plain ve_int rfl rfl
    · cases h
  | .str z, k, X, c, x, Ek, G, tk, h => by
    unfold chkE at h
    split at h
    · obtain rfl := of_decide_eq_true h
      exact snd_plain ve_str rfl rfl
    · cases h
  | .con y p, k, X, c, x, Ek, G, tk, h => by
    unfold chkE at h
    split at h
    · simp only [Bool.and_eq_true] at h
      obtain ⟨⟨⟨h1, h2⟩, h3⟩, h4⟩ := h
      exact snd_plain (ve_con (G.gl h2) (G.con X _ _ same_refl h3) (ndb_of h4).1) rfl rfl
    · cases h
  | .bty t, k, X, c, x, Ek, G, tk, h => by
    unfold chkE at h
    split at h
    · simp only [Bool.and_eq_true] at h
      obtain ⟨⟨h1, h2⟩, h3⟩ := h
      obtain rfl := of_decide_eq_true h1
      obtain ⟨q1, q2, q3, q4⟩ := bty_mem h3
      exact snd_plain (ve_bty (G.gl h2) (G.mg0 t q1) q2 q3 q4) rfl rfl
    · cases h
  | .tup es, k, X, c, x, Ek, G, tk, h => by
    unfold chkE at h
    split at h
    · exact snd_plain (ve_tup (snds_va (snd_es es G tk h))) rfl rfl
    · cases h
  | .lst r es, k, X, c, x, Ek, G, tk, h => by
    unfold chkE at h
    split at h
    · exact snd_plain (ve_lst (snds_va (snd_es es G tk h))) rfl rfl
    · cases h
  | .dct r t ks vs, k, X, c, x, Ek, G, tk, h => by
    unfold chkE at h
    split at h
    · rename_i keys values pos
      rw [Bool.or_eq_true] at h
      rcases h with h | h
      · simp only [Bool.and_eq_true, List.isEmpty_iff] at h
        obtain ⟨⟨⟨h1, h2⟩, h3⟩, h4⟩ := h
        subst h1; subst h2; subst h3; subst h4
        cases t with
        | false => exact snd_plain (e := .dct r false [] []) ve_dnewK rfl rfl
        | true => exact snd_plain (e := .dct r true [] []) ve_dnewT rfl rfl
      · simp only [Bool.and_eq_true, Bool.not_eq_true'] at h
        obtain ⟨⟨⟨⟨⟨h1, h2⟩, h3⟩, h4⟩, h5⟩, h6⟩ := h
        subst h1
        obtain ⟨kl, l1, l2, l3, l4, l5⟩ := keys_of (Φ := Φ) (X := X) (pos := pos) h2
        have h5 := of_decide_eq_true h5
        have h6 := of_decide_eq_true h6
        obtain ⟨p1, p2⟩ := l5 vs values (by omega) (snd_es vs G takes0 h3)
        have key : VE X (wE Ek) (.Dict keys values pos) (dispM r kl (vs.map (ev Φ))) := ve_disp p1 (by rw [List.length_map]; omega) (by omega) (by omega) (by omega) (fun z => by
          rw [z] at l1
          have : ks = [] := List.length_eq_zero_iff.mp l1.symm
          rw [this] at h4; cases h4) l3
        rw [← ev_disp l4 (by omega) (by omega)] at key
        exact snd_plain key rfl rfl
    · cases h
  | .bin r o a b, k, X, c, x, Ek, G, tk, h => by
    unfold chkE at h
    split at h
    · simp only [Bool.and_eq_true] at h
      obtain ⟨⟨h1, h2⟩, h3⟩ := h
      obtain rfl := of_decide_eq_true h1
      exact snd_plain (ve_bin (op_binP o) (snd_e a G tk h2).ve (snd_e b G tk h3).ve) rfl rfl
    · cases h
  | .neg a, k, X, c, x, Ek, G, tk, h => by
    unfold chkE at h
    split at h
    · exact snd_plain (ve_un un_negP (snd_e a G tk h).ve) rfl rfl
    · cases h
  | .not a, k, X, c, x, Ek, G, tk, h => by
    unfold chkE at h
    split at h
    · rw [Bool.and_eq_true] at h
      exact ⟨ve_not (snd_e a G tk h.1).ve, fun _ => vt_not ((snd_e a G tk h.1).vt h.2), fun z => by cases z⟩
    · cases h
  | .and es, k, X, c, x, Ek, G, tk, h => by
    unfold chkE at h
    split at h
    · simp only [Bool.and_eq_true, Bool.not_eq_true'] at h
      obtain ⟨⟨h1, h2⟩, h3⟩ := h
      have hs := snd_es es G tk h1
      have hne : es ≠ [] := fun z => by rw [z] at h2; cases h2
      exact ⟨snds_and hs hne, fun _ => (snds_wand hs hne h3).pt, fun z => by cases z⟩
    · cases h
  | .or es, k, X, c, x, Ek, G, tk, h => by
    unfold chkE at h
    split at h
    · simp only [Bool.and_eq_true, Bool.not_eq_true'] at h
      obtain ⟨⟨h1, h2⟩, h3⟩ := h
      have hs := snd_es es G tk h1
      have hne : es ≠ [] := fun z => by rw [z] at h2; cases h2
      exact ⟨snds_or hs hne, fun _ => (snds_wor hs hne h3).pt, fun z => by cases z⟩
    · cases h
  | .cmp o a b, k, X, c, x, Ek, G, tk, h => by
    unfold chkE at h
    split at h
    · simp only [Bool.and_eq_true] at h
      obtain ⟨⟨⟨h1, h2⟩, h3⟩, h4⟩ := h
      obtain rfl := of_decide_eq_true h1
      have hu := G.units
      exact ⟨ve_cmp (op_cmpP (by omega) o) (snd_e a G tk h2).ve (snd_e b G tk h3).ve (behind_ok h4), fun _ => vt_cmp (op_cmpP (by omega) o) (snd_e a G tk h2).ve (snd_e b G tk h3).ve (behind_ok h4), fun z => by cases z⟩
    · cases h
  | .chain o o' a b d, k, X, c, x, Ek, G, tk, h => by
    unfold chkE at h
    split at h
    · simp only [Bool.and_eq_true] at h
      obtain ⟨⟨⟨⟨⟨h1, h2⟩, h3⟩, h4⟩, h5⟩, h6⟩ := h
      obtain rfl := of_decide_eq_true h1
      obtain rfl := of_decide_eq_true h2
      have hu := G.units
      exact ⟨ve_chain (op_cmpP (by omega) o) (op_cmpP (by omega) o') (snd_e a G tk h3).ve (snd_e b G tk h4).ve (snd_e d G tk h5).ve (last_ok h6),
        fun _ => vt_chain (op_cmpP (by omega) o) (op_cmpP (by omega) o') (snd_e a G tk h3).ve (snd_e b G tk h4).ve (snd_e d G tk h5).ve (last_ok h6), fun z => by cases z⟩
    · cases h
  | .ite t a b, k, X, c, x, Ek, G, tk, h => by
    unfold chkE at h
    split at h
    · simp only [Bool.and_eq_true] at h
      obtain ⟨⟨⟨h1, h2⟩, h3⟩, h4⟩ := h
      exact ⟨ve_ite ((snd_e t G tk h1).vt h4) (snd_e a G tk h2).ve (snd_e b G tk h3).ve, (fun z => nomatch z), (fun z => nomatch z)⟩
    · cases h
  | .sub a i, k, X, c, x, Ek, G, tk, h => by
    unfold chkE at h
    split at h
    · simp only [Bool.and_eq_true] at h
      obtain ⟨⟨h1, h2⟩, h3⟩ := h
      have hu := G.units
      exact snd_plain (ve_ix (ix_P (by omega)) (snd_e a G tk h1).ve (snd_e i G tk h2).ve (ix_ok h3)) rfl rfl
    · cases h
  | .slice r a lo hi, k, X, c, x, Ek, G, tk, h => by
    unfold chkE at h
    split at h
    · simp only [Bool.and_eq_true] at h
      obtain ⟨⟨h1, h2⟩, h3⟩ := h
      exact snd_plain (ve_slice (snd_e a G tk h1).ve (vo_of h2 fun e q => (snd_e lo G tk q).ve) (vo_of h3 fun e q => (snd_e hi G tk q).ve)) rfl rfl
    · cases h
  | .rev r a, k, X, c, x, Ek, G, tk, h => by
    unfold chkE at h
    split at h
    · exact snd_plain (ve_rev (snd_e a G tk h).ve) rfl rfl
    · cases h
  | .abs, k, X, c, x, Ek, G, tk, h => by unfold chkE at h; cases h
  | .attr a f, k, X, c, x, Ek, G, tk, h => by
    unfold chkE at h
    split at h
    · simp only [Bool.and_eq_true] at h
      obtain ⟨⟨⟨h1, h2⟩, h3⟩, h4⟩ := h
      obtain rfl := of_decide_eq_true h1
      exact snd_plain (ve_attr G.cls G.exc h4 (fun cl F q => G.prs cl f F q) G.room (snd_e a G tk h2).ve (base_ok h3)) rfl rfl
    · cases h
  | .call f args ds, k, X, c, x, Ek, G, tk, h => by
    unfold chkE at h
    split at h
    · rename_i n p xs kws pos
      simp only [Bool.and_eq_true, List.isEmpty_iff, Bool.not_eq_true'] at h
      obtain ⟨⟨⟨⟨⟨⟨⟨h1, h2⟩, h3⟩, h4⟩, h5⟩, h6⟩, h7⟩, h8⟩ := h
      subst h1
      obtain rfl := of_decide_eq_true h2
      obtain ⟨F, hF⟩ := G.has f h5
      have hs := snd_es args G tk h7
      cases xs with
      | nil => cases h8
      | cons y ys =>
        have hn := snds_nst hs
        rw [List.all_cons, Bool.and_eq_true] at hn
        have key := ve_callE (G.fns f F hF) G.roomk (G.gl h3) h6 tk (snds_va hs) (ndb_of h4).1 (star_cons hn.1) (star_any (pos := pos) hn.2) (p := p)
        have e : ev Φ (.call f args ds) = fun ρ => bnd (evs Φ args ρ) fun ps => callF F (ps ++ ds) := by
          funext ρ
          show bnd (evs Φ args ρ) (fun ps => callO (Φ.fn f) (ps ++ ds)) = _
          rw [hF]; rfl
        rw [← e] at key
        exact snd_plain key rfl rfl
    · cases h
  | .callk f args ks pm vs, k, X, c, x, Ek, G, tk, h => by
    unfold chkE at h
    split at h
    · rename_i n p xs kws pos
      simp only [Bool.and_eq_true, List.isEmpty_iff] at h
      obtain ⟨⟨⟨⟨⟨⟨⟨h1, h2⟩, h3⟩, h4⟩, h5⟩, h6⟩, h7⟩, h8⟩ := h
      subst h1; subst h2
      obtain rfl := of_decide_eq_true h3
      obtain ⟨F, hF⟩ := G.has f h6
      obtain ⟨k1, k2, k3, k4, k5⟩ := snd_kw vs (pos := pos) G tk h8
      have key := ve_callK0 (G.fns f F hF) G.roomk (G.gl h4) h7 tk k1 (ndb_of h5).1 k2 k3 (by rw [k4]; rfl) k5 (p := p)
      have e : ev Φ (.callk f [] ks pm vs) = fun ρ => bnd (evs Φ vs ρ) fun qs => callF F (pm.filterMap (qs[·]?)) := by
        funext ρ
        show bnd (ret []) (fun ps => bnd (evs Φ vs ρ) fun qs => callO (Φ.fn f) (ps ++ pm.filterMap (qs[·]?))) = _
        rw [hF]; rfl
      rw [← e] at key
      exact snd_plain key rfl rfl
    · cases h
  | .make cl args, k, X, c, x, Ek, G, tk, h => by
    unfold chkE at h
    split at h
    · rename_i n p xs kws pos
      simp only [Bool.and_eq_true, List.isEmpty_iff, Bool.not_eq_true'] at h
      obtain ⟨⟨⟨⟨⟨⟨h1, h2⟩, h3⟩, h4⟩, h5⟩, h7⟩, h8⟩ := h
      subst h1
      obtain rfl := of_decide_eq_true h2
      obtain ⟨F, hF⟩ := G.hasC cl h5
      have hs := snd_es args G tk h7
      cases xs with
      | nil => cases h8
      | cons y ys =>
        have hn := snds_nst hs
        rw [List.all_cons, Bool.and_eq_true] at hn
        have key := ve_make (G.mks cl F hF) G.room (G.gl h3) tk (snds_va hs) (ndb_of h4).1 (star_cons hn.1) (star_any (pos := pos) hn.2) (p := p)
        have e : ev Φ (.make cl args) = fun ρ => bnd (evs Φ args ρ) fun ps => callF F ps := by
          funext ρ
          show bnd (evs Φ args ρ) (fun ps => callO (Φ.mkc cl) ps) = _
          rw [hF]; rfl
        rw [← e] at key
        exact snd_plain key rfl rfl
    · cases h
  | .bi r b args, k, X, c, x, Ek, G, tk, h => by
    unfold chkE at h
    split at h
    · rename_i n p xs kws pos
      simp only [Bool.and_eq_true, List.isEmpty_iff, Bool.not_eq_true'] at h
      obtain ⟨⟨⟨⟨h1, h2⟩, h3⟩, h7⟩, h8⟩ := h
      subst h1
      obtain rfl := of_decide_eq_true h2
      have hs := snd_es args G tk h7
      cases xs with
      | nil => cases h8
      | cons y ys =>
        have hn := snds_nst hs
        rw [List.all_cons, Bool.and_eq_true] at hn
        exact snd_plain (ve_bi (bi_P G.calm (G.isi X same_refl G.calm G.room0) (G.mino X same_refl G.calm G.room0) b) (G.gl h3) (G.mg0 _ (biN_mem b)) (snds_va hs) (star_cons hn.1) (star_any hn.2)) rfl rfl
    · cases h
  | .meth m o args, k, X, c, x, Ek, G, tk, h => by
    unfold chkE at h
    split at h
    · rename_i xo n apos xs kws pos
      simp only [Bool.and_eq_true, List.isEmpty_iff] at h
      obtain ⟨⟨⟨⟨⟨h1, h2⟩, h3⟩, h4⟩, h5⟩, h6⟩ := h
      subst h1
      have hs := snd_es args G tk h3
      have ho := (snd_e o G tk h2).ve
      have hb : ∀ m : Str, attributeBase xo m X.env (eval xo X.env) = eval xo X.env := fun m => base_ok h4
      unfold mtOk at h6
      cases m <;> first | exact Bool.noConfusion h6 | skip
      · simp only [Bool.and_eq_true] at h6
        obtain rfl := of_decide_eq_true h6.1
        cases hs with
        | nil => exact nomatch h6.2
        | cons q1 q2 =>
          cases q2 with
          | nil => exact snd_plain (ve_append ho (snds_va (.cons q1 .nil)) (hb _) h5 (star_cons q1.2)) rfl rfl
          | cons q3 q4 => exact nomatch h6.2
      · simp only [Bool.and_eq_true] at h6
        obtain rfl := of_decide_eq_true h6.1
        cases hs with
        | nil => exact snd_plain (ve_pop0 ho (hb _) h5) rfl rfl
        | cons q1 q2 =>
          cases q2 with
          | nil => exact snd_plain (ve_pop ho (snds_va (.cons q1 .nil)) (hb _) h5 (star_cons q1.2)) rfl rfl
          | cons q3 q4 => exact nomatch h6.2
      · simp only [Bool.and_eq_true] at h6
        obtain rfl := of_decide_eq_true h6.1
        cases hs with
        | nil => exact nomatch h6.2
        | cons q1 q2 =>
          cases q2 with
          | nil => exact snd_plain (ve_extend ho (snds_va (.cons q1 .nil)) (hb _) h5 (star_cons q1.2)) rfl rfl
          | cons q3 q4 => exact nomatch h6.2
    · cases h
  | .omet _ _ _, k, X, c, x, Ek, G, tk, h => by unfold chkE at h; cases h
  | .comp r elt tg it ifs own, k, X, c, x, Ek, G, tk, h => by
    unfold chkE at h
    split at h
    · rename_i xe xt xi xifs ia scope pos
      simp only [Bool.and_eq_true] at h
      obtain ⟨⟨⟨⟨⟨⟨⟨h1, h2⟩, h3⟩, h4⟩, h5⟩, h6⟩, h7⟩, h8⟩ := h
      obtain rfl := eq_of_beq h1
      have hsub : ∀ i ∈ slotsT tg, i ∈ own := fun i hi => by
        have z := List.all_eq_true.mp h8 i hi
        simpa using z
      have ok : BlkOk X.N X.env.scope scope (ownOf c own) := blkOk_by (by rw [G.N, G.sc]; exact h2)
      have hg : InBlk X scope fun Y => PG Y xt (tG X.mg tg) := fun s H C cl fp => snd_t (G.blk scope s H C cl fp) h5
      have ht : InBlk X scope fun Y => PTs Y xifs (tT X.mg W0 (evIfs Φ ifs)) := fun s H C cl fp => snd_ifs ifs (G.blk scope s H C cl fp) h6
      have he : InBlk X scope fun Y => PE Y xe (tE X.mg W0 (ev Φ elt)) := fun s H C cl fp => (snd_e elt (G.blk scope s H C cl fp) takes0 h7).ve
      have hvc : VC X (wE Ek) (.ListComp xe [⟨xt, xi, xifs, 0⟩] scope pos) (ev Φ (.comp r elt tg it ifs own)) := by
        by_cases hk : isKeys it = true
        · cases it <;> first | exact Bool.noConfusion hk | skip
          rename_i i
          have hi := keys_pi (X := X) (tg := xt) G h3
          have ce := ce_lc (pos := pos) G.calm G.nd hi ok hg ht he (fold_set h4)
          rw [own_map] at ce
          exact vc_keys (ce.weak fun σ H Q q => ⟨q.1, comp_read hsub q.2⟩) (fun ρ s q => keys_in q) fun ρ => noex_bnd noex_keys fun it => noex_bnd (noex_col fun x a => noex_stepC) fun ps => noex_mkL
        · have hi := snd_i it (tg := xt) G tk h3 (by simpa using hk)
          have ce := ce_lc (pos := pos) G.calm G.nd hi ok hg ht he (fold_set h4)
          rw [own_map] at ce
          exact vc_plain (ce.weak fun σ H Q q => comp_read hsub q)
      exact ⟨hvc.ve, fun _ => vt_truth hvc.ve (true_ok rfl), fun _ => hvc⟩
    · cases h
  | .dcomp r t key val tg it ifs own, k, X, c, x, Ek, G, tk, h => by
    unfold chkE at h
    split at h
    · rename_i xk xv xt xi xifs ia scope pos
      simp only [Bool.and_eq_true, Bool.not_eq_true'] at h
      obtain ⟨⟨⟨⟨⟨⟨⟨⟨⟨h0, h1⟩, h2⟩, h3⟩, h4⟩, h5⟩, h6⟩, h7⟩, h9⟩, h8⟩ := h
      subst h0
      obtain rfl := eq_of_beq h1
      have hsub : ∀ i ∈ slotsT tg, i ∈ own := fun i hi => by
        have z := List.all_eq_true.mp h8 i hi
        simpa using z
      have ok : BlkOk X.N X.env.scope scope (ownOf c own) := blkOk_by (by rw [G.N, G.sc]; exact h2)
      have hg : InBlk X scope fun Y => PG Y xt (tG X.mg tg) := fun s H C cl fp => snd_t (G.blk scope s H C cl fp) h5
      have ht : InBlk X scope fun Y => PTs Y xifs (tT X.mg W0 (evIfs Φ ifs)) := fun s H C cl fp => snd_ifs ifs (G.blk scope s H C cl fp) h6
      have hk' : InBlk X scope fun Y => PE Y xk (tE X.mg W0 (ev Φ key)) := fun s H C cl fp => (snd_e key (G.blk scope s H C cl fp) takes0 h7).ve
      have hv' : InBlk X scope fun Y => PE Y xv (tE X.mg W0 (ev Φ val)) := fun s H C cl fp => (snd_e val (G.blk scope s H C cl fp) takes0 h9).ve
      have hvc : VC X (wE Ek) (.DictComp xk xv [⟨xt, xi, xifs, 0⟩] scope pos) (ev Φ (.dcomp r false key val tg it ifs own)) := by
        by_cases hk : isKeys it = true
        · cases it <;> first | exact Bool.noConfusion hk | skip
          rename_i i
          have hi := keys_pi (X := X) (tg := xt) G h3
          have ce := ce_dc (pos := pos) G.calm G.nd hi ok hg ht hk' hv' (fold_set h4)
          rw [own_map] at ce
          exact vc_keys (ce.weak fun σ H Q q => ⟨q.1, dcomp_read hsub q.2⟩) (fun ρ s q => keys_in q) fun ρ => noex_bnd noex_keys fun it => noex_bnd (noex_col fun x a => noex_stepD) fun ps => noex_mkD
        · have hi := snd_i it (tg := xt) G tk h3 (by simpa using hk)
          have ce := ce_dc (pos := pos) G.calm G.nd hi ok hg ht hk' hv' (fold_set h4)
          rw [own_map] at ce
          exact vc_plain (ce.weak fun σ H Q q => dcomp_read hsub q)
      exact ⟨hvc.ve, fun _ => vt_truth hvc.ve (true_ok rfl), fun _ => hvc⟩
    · cases h
  | .caught f e, k, X, c, x, Ek, G, tk, h => by
    unfold chkE at h
    split at h
    · rename_i n p params body scope lpos kws pos
      simp only [Bool.and_eq_true, List.isEmpty_iff] at h
      obtain ⟨⟨⟨⟨⟨⟨⟨h1, h2⟩, h3⟩, h4⟩, h5⟩, h6⟩, h7⟩, h8⟩ := h
      subst h1
      obtain rfl := of_decide_eq_true h2
      obtain ⟨CK, ⟨cc, Pt, hcd, TB, hmT, hu⟩, j, hj, GB⟩ := G.cau f h5
      have hL : LamX.LamS X.env.scope scope := by rw [G.sc]; exact LamX.lamS_by h7
      have hpar : params = ⟨[], [], none, [], [], none, []⟩ := by
        unfold noPar at h6
        split at h6
        · rfl
        · cases h6
      subst hpar
      refine snd_plain (ve_caught (k := j + 1) CK (G.gl h3) TB hcd hmT hu (G.room.mono (by omega)) hL rfl (fun _ _ _ _ _ => rfl) (fun A outer s H E f2 c2 hr2 => ?_) (ndb_of h4).1) rfl rfl
      exact (snd_e e (GoodB.good (X := LamX.lamCx X A outer s H E scope f2 c2) (c := c.lam scope) (GB.lam scope) G.N rfl G.nd rfl (fun x z => nomatch (show false = true from z)) hr2 (fun g z => nomatch (show false = true from z))) (takes_of rfl rfl rfl rfl) h8).ve
    · cases h
theorem snd_es : ∀ (es : List E) {k : Nat} {X : Cx} {c : Ck} {xs : List Expr} {Ek : XK}, Good X Φ c k → Takes X (wE Ek) → chkEs c es xs = true → Snds X Φ Ek es xs
  | [], k, X, c, xs, Ek, G, tk, h => by
    unfold chkEs at h
    rw [List.isEmpty_iff] at h
    subst h; exact .nil
  | e :: es, k, X, c, xs, Ek, G, tk, h => by
    unfold chkEs at h
    split at h
    · simp only [Bool.and_eq_true] at h
      exact .cons ⟨snd_e e G tk h.1.1, h.1.2⟩ (snd_es es G tk h.2)
    · cases h
theorem snd_ifs : ∀ (es : List E) {k : Nat} {X : Cx} {c : Ck} {xs : List Expr}, Good X Φ c k → chkIfs c es xs = true → PTs X xs (tT X.mg W0 (evIfs Φ es))
  | [], k, X, c, xs, G, h => by
    unfold chkIfs at h
    rw [List.isEmpty_iff] at h
    subst h; exact pts_nil'
  | e :: es, k, X, c, xs, G, h => by
    unfold chkIfs at h
    rw [Bool.and_eq_true, List.isEmpty_iff] at h
    obtain ⟨h1, h⟩ := h
    subst h1
    split at h
    · rw [Bool.and_eq_true] at h
      rw [tst_ifs]
      exact pts_one ((snd_e e G takes0 h.1).vt h.2)
    · cases h
theorem snd_kw : ∀ (es : List E) {k : Nat} {X : Cx} {c : Ck} {ks : List String} {kws : List Keyword} {pos : Pos} {Ek : XK}, Good X Φ c k → Takes X (wE Ek) → chkKw c ks es kws = true →
    PK X kws (tAs X.mg (wE Ek) (evs Φ es)) ∧ (backToKw pos (keywordEach kws X.env)).all (·.1.isSome) = true ∧ (backToKw pos (keywordEach kws X.env)).filterMap (·.1) = ks.map Str.ofString ∧ (backToKw pos (keywordEach kws X.env)).any (·.1.isNone) = false ∧ ∀ ρ s qs s', evs Φ es ρ s = .ok qs s' → qs.length = ks.length
  | [], k, X, c, ks, kws, pos, Ek, G, tk, h => by
    unfold chkKw at h
    simp only [Bool.and_eq_true, List.isEmpty_iff] at h
    obtain ⟨h1, h2⟩ := h
    subst h1; subst h2
    refine ⟨⟨fun pos pins s σ H Q I h => ?_⟩, rfl, rfl, rfl, fun ρ s qs s' e => by cases e; rfl⟩
    obtain ⟨A, B, ρ, st, S, L, O⟩ := h
    exact pk_nil.run pos pins s σ H Q I (O.ret S [] (by simp only [Reps]))
  | e :: es, k, X, c, ks, kws, pos, Ek, G, tk, h => by
    unfold chkKw at h
    split at h
    · rename_i kk ks n x kp kws
      simp only [Bool.and_eq_true] at h
      obtain ⟨⟨h1, h2⟩, h3⟩ := h
      obtain rfl := of_decide_eq_true h1
      have he := (snd_e e G tk h2).ve
      obtain ⟨k1, k2, k3, k4, k5⟩ := snd_kw es (pos := pos) G tk h3
      refine ⟨⟨fun pos pins s σ H Q I h => (pk_cons he k1).run pos pins s σ H Q I ?_⟩, ?_, ?_, ?_, fun ρ s qs s' e => ?_⟩
      · obtain ⟨A, B, ρ, st, S, L, O⟩ := h
        refine ⟨A, B, ρ, st, S, L, O.bnd.imp fun A1 B1 H1 s1 p x1 S1 O1 v r => ⟨A1, B1, ρ, s1, S1, L.mono x1 S.own, O1.bnd.imp fun A2 B2 H2 s2 ps x2 S2 O2 vs R => ?_⟩⟩
        exact O2.ret S2 (v :: vs) (by simp only [Reps]; exact ⟨v, vs, rfl, r.mono x2 S1.own, R⟩)
      · exact k2
      · show (kk : Str) :: (backToKw pos (keywordEach kws X.env)).filterMap (·.1) = _
        rw [k3]; rfl
      · exact k4
      · obtain ⟨p, s1, h1, h2⟩ := bnd_inv e
        obtain ⟨ps, s2, h3, h4⟩ := bnd_inv h2
        cases h4
        rw [List.length_cons, List.length_cons, k5 _ _ _ _ h3]
    · cases h
theorem snd_i : ∀ (it : I) {k : Nat} {X : Cx} {c : Ck} {tg x : Expr} {Ek : XK}, Good X Φ c k → Takes X (wE Ek) → chkI c it tg x = true → isKeys it = false → VI X (wE Ek) tg x (evI Φ it)
  | .seq e, k, X, c, tg, x, Ek, G, tk, h, hk => by
    unfold chkI at h
    exact vi_seq (snd_e e G tk h).ve
  | .keys i, k, X, c, tg, x, Ek, G, tk, h, hk => by cases hk
  | .range1 a, k, X, c, tg, x, Ek, G, tk, h, hk => by
    unfold chkI at h
    split at h
    · simp only [Bool.and_eq_true] at h
      obtain ⟨⟨⟨h1, h2⟩, h3⟩, h4⟩ := h
      obtain rfl := of_decide_eq_true h1
      exact vi_range1 (G.gl h2) (G.mg0 "range" rfl) (snd_e a G tk h3).ve (by rw [star_cons h4]; rfl)
    · cases h
  | .range2 a b, k, X, c, tg, x, Ek, G, tk, h, hk => by
    unfold chkI at h
    split at h
    · simp only [Bool.and_eq_true] at h
      obtain ⟨⟨⟨⟨⟨h1, h2⟩, h3⟩, h4⟩, h5⟩, h6⟩ := h
      obtain rfl := of_decide_eq_true h1
      exact vi_range2 (G.gl h2) (G.mg0 "range" rfl) (snd_e a G tk h3).ve (snd_e b G tk h5).ve (by rw [star_cons h4, star_cons h6]; rfl) (by rw [star_cons h6]; rfl)
    · cases h
  | .enum e, k, X, c, tg, x, Ek, G, tk, h, hk => by
    unfold chkI at h
    split at h
    · simp only [Bool.and_eq_true] at h
      obtain ⟨⟨⟨⟨h0, h1⟩, h2⟩, h3⟩, h4⟩ := h
      obtain rfl := of_decide_eq_true h1
      cases tg <;> first | exact Bool.noConfusion h0 | skip
      exact vi_enum (G.gl h2) (G.mg0 "enumerate" rfl) (snd_e e G tk h3).ve (by rw [star_cons h4]; rfl)
    · cases h
  | .zip _ _, k, X, c, tg, x, Ek, G, tk, h, hk => by unfold chkI at h; cases h
end
end
end FW

end

section
set_option Elab.async false
set_option linter.all false
set_option maxRecDepth 100000
/-! Fw22: what is checked holds: statements. -/
namespace FW
open PySem PySem.Spec PyProof.Rows L2
variable [Tb]
theorem repF_put {mg : Mg} {A : As} {B : Fb} {H : Hp} {f : String} {p : P} {v : V} (r : Rep mg A B H p v) : ∀ {fs : List (String × P)} {gs : List (Str × V)}, RepF mg A B H fs gs → RepF mg A B H (putFP f p fs) (putF (f : Str) v gs)
  | [], _, h => by
    simp only [RepF] at h
    subst h
    simp only [putFP, putF, RepF]
    exact ⟨v, [], rfl, r, rfl⟩
  | (k, q) :: fs, _, h => by
    simp only [RepF] at h
    obtain ⟨w, gs, e, h1, h2⟩ := h
    subst e
    by_cases z : k = f
    · subst z
      simp only [putFP, putF, if_true, RepF]
      exact ⟨v, gs, rfl, r, h2⟩
    · have z2 : ¬ ((k : Str) = (f : Str)) := fun q => z (str_inj q)
      unfold putFP putF
      rw [if_neg z, if_neg z2]
      simp only [RepF]
      exact ⟨w, _, rfl, h1, repF_put r h2⟩
theorem repF_len {mg : Mg} {A : As} {B : Fb} {H : Hp} : ∀ {fs : List (String × P)} {gs : List (Str × V)}, RepF mg A B H fs gs → gs.length = fs.length
  | [], _, h => by simp only [RepF] at h; subst h; rfl
  | (k, q) :: fs, _, h => by
    simp only [RepF] at h
    obtain ⟨w, gs, e, h1, h2⟩ := h
    subst e
    rw [List.length_cons, List.length_cons, repF_len h2]
def aattrM (Φ : Fenv) (fo : Rho → M P) (f : String) (fe : Rho → M P) : Rho → M (Flow × Rho) := fun ρ => bnd (fe ρ) fun p => bnd (fo ρ) fun q => fun s => (match q with
    | .gob n => (match s.g[n]? with
      | some (.ins c fs) => if Φ.cls.contains c && (Φ.prop c f).isNone && decide (fs.length < 900) then (bnd (setOb q (.ins c (putFP f p fs))) fun _ => ret (.next, ρ)) s else .bad
      | _ => .bad)
    | _ => .bad)
section
variable {X : Cx} {W : WX} {Φ : Fenv} {pos pos' : Pos} {o e : Expr} {fo fe : Rho → M P} {f : String} {fl : String → Bool}
theorem vs_aattr (hcl : ∀ c, Φ.cls.contains c = true → ClsE X.K X.mg (fun f => fl f && (Φ.prop c f).isNone) c) (hfl : fl f = true) (ho : VE X W o fo) (he : VE X W e fe) (hs : swapsWith e (some (.Attribute o (f : Str) pos')) pos.line X.env = pure false) :
    VS X W (.Assign [.Attribute o (f : Str) pos'] e pos) (aattrM Φ fo f fe) :=
  (ps_fld ho he hs).weak fun D σ H h => by
    obtain ⟨A, B, ρ, s, S, L, O⟩ := h
    refine ⟨A, B, ρ, s, S, L, O.bnd.imp fun A1 B1 H1 s1 p x1 S1 O1 v r => ⟨A1, B1, ρ, s1, S1, L.mono x1 S.own, O1.bnd.imp fun A2 B2 H2 s2 q x2 S2 O2 w rq => ?_⟩⟩
    have L2' := (L.mono x1 S.own).mono x2 S1.own
    have r2 := r.mono x2 S1.own
    split at O2
    · rename_i n
      split at O2
      · rename_i c fs hg
        split at O2
        · rename_i hc
          rw [Bool.and_eq_true, Bool.and_eq_true, decide_eq_true_eq] at hc
          simp only [Rep] at rq
          obtain ⟨a, ev, ha⟩ := rq
          obtain ⟨C, dx, gs, ea, hm, R⟩ := S2.og n a _ ha hg
          have ce := hcl c hc.1.1
          refine ⟨a, C, dx, gs, ev, ea, ce.cls C hm, ce.fld C f hm (by rw [hfl, hc.1.2]; rfl), by rw [repF_len R]; omega, ?_⟩
          have hown : Own A2 a := .inr (List.mem_of_getElem? ha)
          have xw : Ext A2 B2 H2 A2 B2 (upd H2 a (.ins C dx (putF (f : Str) v gs))) := ext_write S2 hown
          unfold bnd setOb at O2
          dsimp only at O2
          split at O2
          · rename_i z hz
            split at hz
            · rename_i hcond
              rw [Bool.and_eq_true] at hcond
              have S3 : StoR X.mg A2 B2 (upd H2 a (.ins C dx (putF (f : Str) v gs))) { s2 with g := s2.g.set n (.ins c (putFP f p fs)) } :=
                sto_write (loc := false) S2 ha (fun z => nomatch z) (fun _ => hcond.2) ⟨C, dx, _, upd_same, hm, (repF_put r2 R).mono xw S2.own⟩
              cases hz
              exact (OutS.ext O2 xw).ret S3 σ (L2'.mono xw S2.own)
            · cases hz
          · rename_i hz
            split at hz <;> cases hz
          · exact O2.elim
        · exact O2.elim
      · exact O2.elim
    · exact O2.elim
end
section
variable {Φ : Fenv} {c : Ck} {k : Nat}
theorem swaps_sole {e t : Expr} {l : Nat} {env : Env} (h : isComp e = false) : swapsWithSole [t] e l env = pure false := by
  show swapsWith e (some t) l env = pure false
  exact swaps_no h
theorem seq_eq {st : St} {r : List St} : exs Φ (st :: r) = seqM (ex Φ st) (exs Φ r) := by
  funext ρ
  show bnd (ex Φ st ρ) _ = bnd (ex Φ st ρ) _
  refine congrArg (bnd (ex Φ st ρ)) (funext fun q => ?_)
  obtain ⟨f, ρ'⟩ := q
  cases f <;> rfl
mutual
theorem snd_s : ∀ (st : St) {X : Cx} {x : Stmt} {Ek : XK}, Good X Φ c k → c.sc.kind = .function → PassesOwn (model X.prog X.w) X.A X.env X.xe → Takes X (wE Ek) → chkS c st x = true → VS X (wE Ek) x (ex Φ st)
  | .asg t e, X, x, Ek, G, hk, hp, tk, h => by
    unfold chkS at h
    split at h
    · rename_i xt xe pos
      simp only [Bool.and_eq_true] at h
      obtain ⟨⟨⟨h1, h2⟩, h3⟩, h4⟩ := h
      have hg := snd_t G h1
      have he := snd_e e G tk h2
      have hks : X.env.scope.kind = .function := by rw [G.sc]; exact hk
      split at h4
      · rename_i hsw
        have hsw' : swappedStores [xt] xe X.env = pure none := sws_ok hks (by rw [G.sc]; exact hsw)
        by_cases hc : isComp xe = true
        · rw [if_pos hc] at h4
          by_cases hb : swB c.sc xe xt = true
          · rw [if_pos hb] at h4
            split at h4
            · rename_i i n p
              rw [Bool.and_eq_true, decide_eq_true_eq, decide_eq_true_eq] at h4
              exact (he.vc hc).vs i n p pos (by rw [G.N]; exact h4.1) (by rw [G.sc]; exact h4.2) (by rw [swaps_comp hc hks, G.sc, hb])
            · cases h4
          · exact vs_asg he.ve hg (by show swapsWith xe (some xt) pos.line X.env = _; rw [swaps_comp hc hks, G.sc, Bool.eq_false_iff.mpr hb]) hsw' (asg_map h3)
        · exact vs_asg he.ve hg (swaps_no (Bool.eq_false_iff.mpr hc)) hsw' (asg_map h3)
      · rename_i ns hsw
        have hsw' : swappedStores [xt] xe X.env = pure (some ns) := sws_ok hks (by rw [G.sc]; exact hsw)
        split at h4
        · rename_i i j es x px y py kt pt a b k2 pt2
          simp only [Bool.and_eq_true, decide_eq_true_eq] at h4
          obtain ⟨⟨⟨⟨q1, q2⟩, q3⟩, q4⟩, q5⟩ := h4
          subst q1
          have hs := snds_va (snd_es es G tk q5)
          unfold chkT chkTs chkTs chkTs chkT at h1
          simp only [Bool.and_eq_true, decide_eq_true_eq] at h1
          exact vs_par G.calm G.nd (by rw [G.N]; exact h1.1.1.1) (by rw [G.N]; exact h1.1.2.1.1) q2 (by rw [G.sc]; exact q3) (by rw [G.sc]; exact q4) hs hsw'
        · rename_i i j l es x px y py z pz kt pt a b d k2 pt2
          simp only [Bool.and_eq_true, decide_eq_true_eq] at h4
          obtain ⟨⟨⟨⟨⟨⟨⟨q1, q2⟩, q3⟩, q4⟩, q5⟩, q6⟩, q7⟩, q8⟩ := h4
          subst q1
          have hs := snds_va (snd_es es G tk q8)
          unfold chkT chkTs chkTs chkTs chkTs chkT at h1
          simp only [Bool.and_eq_true, decide_eq_true_eq] at h1
          exact vs_par3 G.calm G.nd (by rw [G.N]; exact h1.1.1.1) (by rw [G.N]; exact h1.1.2.1.1) (by rw [G.N]; exact h1.1.2.2.1.1) q2 q3 q4 (by rw [G.sc]; exact q5) (by rw [G.sc]; exact q6) (by rw [G.sc]; exact q7) hs hsw'
        · cases h4
      · cases h4
    · cases h
  | .asub o i e, X, x, Ek, G, hk, hp, tk, h => by
    unfold chkS at h
    split at h
    · simp only [Bool.and_eq_true, Bool.not_eq_true'] at h
      obtain ⟨⟨⟨⟨h1, h2⟩, h3⟩, h4⟩, h5⟩ := h
      have hu := G.units
      exact vs_asub (by omega) (snd_e e G tk h3).ve (snd_e o G tk h1).ve (snd_e i G tk h2).ve (swaps_sole h5) rfl rfl (sub_asg h4)
    · cases h
  | .aattr o f e, X, x, Ek, G, hk, hp, tk, h => by
    unfold chkS at h
    split at h
    · simp only [Bool.and_eq_true, Bool.not_eq_true'] at h
      obtain ⟨⟨⟨⟨h1, h2⟩, h3⟩, h4⟩, h5⟩ := h
      obtain rfl := of_decide_eq_true h1
      exact vs_aattr G.cls h5 (snd_e o G tk h2).ve (snd_e e G tk h3).ve (swaps_no h4)
    · cases h
  | .aug _ _ _, X, x, Ek, G, hk, hp, tk, h => by unfold chkS at h; cases h
  | .expr e, X, x, Ek, G, hk, hp, tk, h => by
    unfold chkS at h
    split at h
    · simp only [Bool.and_eq_true, Bool.not_eq_true'] at h
      exact vs_expr (snd_e e G tk h.1).ve (swaps_no h.2)
    · cases h
  | .ret e, X, x, Ek, G, hk, hp, tk, h => by
    unfold chkS at h
    split at h
    · exact vs_ret (snd_e e G tk h).ve
    · cases h
  | .retN, X, x, Ek, G, hk, hp, tk, h => by
    unfold chkS at h
    split at h
    · exact vs_retN
    · cases h
  | .ifs t a b, X, x, Ek, G, hk, hp, tk, h => by
    unfold chkS at h
    split at h
    · simp only [Bool.and_eq_true] at h
      obtain ⟨⟨⟨h1, h2⟩, h3⟩, h4⟩ := h
      exact vs_if ((snd_e t G tk h1).vt h2) (snd_ss a G hk hp tk h3) (snd_ss b G hk hp tk h4)
    · cases h
  | .for_ t it body, X, x, Ek, G, hk, hp, tk, h => by
    unfold chkS at h
    split at h
    · simp only [Bool.and_eq_true, Bool.not_eq_true'] at h
      obtain ⟨⟨⟨⟨h1, h2⟩, h3⟩, h4⟩, h5⟩ := h
      have hkk : isKeys it = false := by cases it <;> first | rfl | exact h3
      exact vs_for hp G.calm (snd_i it G tk h2 hkk) (snd_t G h1) (snd_ss body G hk hp tk h5) (fold_set h4)
    · cases h
  | .whl t body, X, x, Ek, G, hk, hp, tk, h => by
    unfold chkS at h
    split at h
    · simp only [Bool.and_eq_true] at h
      obtain ⟨⟨h1, h2⟩, h3⟩ := h
      exact vs_while hp ((snd_e t G tk h1).vt h2) (snd_ss body G hk hp tk h3)
    · cases h
  | .raise cl args, X, x, Ek, G, hk, hp, tk, h => by
    unfold chkS at h
    split at h
    · simp only [Bool.and_eq_true, List.isEmpty_iff] at h
      obtain ⟨⟨⟨⟨⟨h1, h2⟩, h3⟩, h4⟩, h5⟩, h6⟩ := h
      subst h1
      obtain rfl := of_decide_eq_true h2
      obtain ⟨F, hF⟩ := G.hasX cl h5
      have hs := snd_es args G tk h6
      have hn := snds_nst hs
      rw [List.all_cons, Bool.and_eq_true] at hn
      have key := G.rs X same_refl G.calm G.room cl F hF Ek
      have e : ex Φ (.raise cl args) = fun ρ => bnd (evs Φ args ρ) fun ps => bnd (rsF F ps) fun x => fun s => .exn x s := by
        funext ρ
        show bnd (evs Φ args ρ) (fun ps => bnd (rsO (Φ.mkx cl) ps) fun x => fun s => .exn x s) = _
        rw [hF]; rfl
      rw [e]
      exact key _ _ _ _ _ tk (snds_va hs) hn.1 (G.gl h3) (ndb_of h4).1
    · cases h
  | .brk, X, x, Ek, G, hk, hp, tk, h => by
    unfold chkS at h
    split at h
    · exact vs_brk
    · cases h
  | .cont, X, x, Ek, G, hk, hp, tk, h => by
    unfold chkS at h
    split at h
    · exact vs_cont
    · cases h
  | .pass, X, x, Ek, G, hk, hp, tk, h => by
    unfold chkS at h
    split at h
    · exact vs_pass
    · cases h
theorem snd_ss : ∀ (ss : List St) {X : Cx} {xs : List Stmt} {Ek : XK}, Good X Φ c k → c.sc.kind = .function → PassesOwn (model X.prog X.w) X.A X.env X.xe → Takes X (wE Ek) → chkSs c ss xs = true → VSs X (wE Ek) xs (exs Φ ss)
  | [], X, xs, Ek, G, hk, hp, tk, h => by
    unfold chkSs at h
    rw [List.isEmpty_iff] at h
    subst h
    exact vss_nil
  | st :: ss, X, xs, Ek, G, hk, hp, tk, h => by
    unfold chkSs at h
    split at h
    · rw [Bool.and_eq_true] at h
      rw [seq_eq]
      exact vss_cons (snd_s st G hk hp tk h.1) (snd_ss ss G hk hp tk h.2)
    · cases h
end
end
end FW

end

section
set_option Elab.async false
set_option linter.all false
set_option maxRecDepth 100000
/-! Fw23: defs. -/
namespace FW
open PySem PySem.Spec PyProof.Rows L2
variable [Tb]
section
variable {mg : Mg} {A A' : As} {B B' : Fb} {H H' : Hp}
/-- the local objects are left behind -/
theorem leave {s' : Sto} {g : List Ob} (hl : A.l = []) (S : StoR mg A B H ⟨[], g⟩) (x : Ext A B H A' B' H') (S' : StoR mg A' B' H' s') :
    Ext A B H ⟨[], A'.g⟩ (Less A' B') H' ∧ StoR mg ⟨[], A'.g⟩ (Less A' B') H' ⟨[], s'.g⟩ := by
  have sub : Sub A' B' ⟨[], A'.g⟩ (Less A' B') := ⟨rfl, fun a z => z.1⟩
  have nd := List.nodup_append.mp S'.nd
  obtain ⟨m, em⟩ := x.pg
  refine ⟨⟨⟨[], by rw [hl]; rfl⟩, x.pg, x.keep, fun a e n z => x.nb a e n z.1, fun a z => ⟨x.bb a z, fun q => ?_⟩, x.there, fun a z => ?_, x.tb⟩, ⟨rfl, S'.lg, ?_, fun i a o h1 _ => by simp at h1, fun i a o h1 h2 => ?_, fun a z => ?_, S'.gl, (fun o ho => by cases ho), fun a z => S'.bt a z.1, S'.tab⟩⟩
  · rcases x.fresh a (.inl q) with w | w
    · rcases w with w | w
      · rw [hl] at w; cases w
      · exact nd.2.2 a q a (by rw [em]; exact List.mem_append_left _ w) rfl
    · exact S.bt a z w
  · rcases z with z | z
    · cases z
    · exact x.fresh a (.inr z)
  · show ([] ++ A'.g).Nodup
    rw [List.nil_append]; exact nd.2.1
  · exact (S'.og i a o h1 h2).lower sub (S'.gl o (List.mem_of_getElem? h2))
  · rcases z with z | z
    · cases z
    · exact ⟨S'.own a (.inr z), fun q => nd.2.2 a q a z rfl⟩
theorem ExR.lower' {e : P} {cls : Value} {d : Option Addr} (x : Sub A B A' B') (hn : noLob e = true) (h : ExR mg A B H e cls d) : ExR mg A' B' H e cls d := by
  obtain ⟨c, fs, C, e1, e2, hc, h1⟩ := h
  subst e1
  refine ⟨c, fs, C, rfl, e2, hc, ?_⟩
  rcases h1 with h1 | ⟨dd, gs, h2, h3, h4, h5⟩
  · exact .inl h1
  · exact .inr ⟨dd, gs, h2, h3, fun z => h4 (x.2 dd z), RepF.lower x hn h5⟩
theorem out_read {g : List Ob} {r : R (Flow × Rho)} {Q : VK} {E : XK} (hl : A.l = []) (S : StoR mg A B H ⟨[], g⟩) (O : OutF mg A B H (outF r) Q E) : OutS mg (wE E) { nx := fun _ H' => Q .non H', rt := Q } A B H r := by
  cases r with
  | bad => exact O
  | exn x s' =>
    unfold outF at O
    dsimp only at O
    split at O
    · rename_i hn
      intro A' B' H' x1 S' cls d er σ'
      obtain ⟨x2, S2⟩ := leave hl S x1 S'
      exact O _ _ _ cls d rfl x2 S2 (ExR.lower' (A := A') (B := B') ⟨rfl, fun a z => z.1⟩ hn er)
    · exact O.elim
  | ok q s' =>
    obtain ⟨f, ρ'⟩ := q
    intro A' B' H' x1 S' σ' L'
    obtain ⟨x2, S2⟩ := leave hl S x1 S'
    unfold outF at O
    dsimp only at O
    cases f with
    | next =>
      have O : OutF mg A B H (match view 3 s' .non with | some p => Rf.ok p s'.g | none => .bad) Q E := O
      have e : view 3 s' .non = some .non := rfl
      rw [e] at O
      exact O _ _ _ _ rfl x2 S2 (by simp only [Rep])
    | ret p =>
      have O : OutF mg A B H (match view 3 s' p with | some p => Rf.ok p s'.g | none => .bad) Q E := O
      intro v r
      cases e : view 3 s' p with
      | none => rw [e] at O; exact O.elim
      | some q =>
        rw [e] at O
        exact O _ _ _ v rfl x2 S2 (view_rep S' 3 e r)
    | brk => exact O.elim
    | cont => exact O.elim
theorem slo_start {n : Nat} {ps : List P} {vs : List V} {N : List Str} (R : Reps mg A B H ps vs) : SloR mg A B H (ps.map some ++ List.replicate (N.length - ps.length) none) (L2.start N vs) := by
  have hl := reps_len R
  unfold L2.start
  refine ⟨by simp only [List.length_append, List.length_map, List.length_replicate]; omega, fun i p e => ?_⟩
  by_cases hi : i < ps.length
  · rw [List.getElem?_append_left (by rw [List.length_map]; exact hi), List.getElem?_map] at e
    obtain ⟨q, h1, h2⟩ := Option.map_eq_some_iff.mp e
    cases h2
    obtain ⟨v, hv, rv⟩ := reps_get R h1
    refine ⟨v, ?_, rv⟩
    rw [List.getElem?_append_left (by rw [List.length_map]; omega), List.getElem?_map, hv]; rfl
  · rw [List.getElem?_append_right (by rw [List.length_map]; omega)] at e
    have := List.mem_of_getElem? e
    rw [List.mem_replicate] at this
    cases this.2
end
section
variable {pg : Program} {w : World} {K : PySem.W.Frag} {mg : Mg} {base : Heap} {Φ : Fenv} {c : Ck} {k : Nat} {x qual : Str} {params : Arguments} {body : List Stmt} {dvs : List V} {kws : List (Str × V)} {f : Addr} {fd : FuncData} {ps : List Str} {b : List St}
/-- a def, its code object told -/
structure FunC (K : PySem.W.Frag) (x qual : Str) (params : Arguments) (body : List Stmt) (scope : Scope) (f : Addr) (fd : FuncData) (cdv : Value) : Prop where
  ex : ∃ (oc : Value) (od : Option Addr) (dV kV doc pm : Value) (an : Option Addr) (ct : Value) (osl : Array (Option Value)), fd = PySem.W.fnOf x qual params body scope dV kV doc pm an cdv ct ∧ K.lookup f = some ⟨oc, od, .func fd, osl⟩ ∧ PySem.W.codeIn K cdv qual = true
/-- a def keeps its promise; lambdas made in it -/
theorem fn_okC {cdv : Value} (F : FunC K x qual params body c.sc f fd cdv) (S : FnScope c.N ps c.sc) (G : GoodB pg w K mg base Φ c k) (hc : chkSs c b body = true)
    (hcau : ∀ f, c.cau f = true → CauK K mg (ecOf Φ) f ∧ TabQ base mg cdv (qual ++ ".<locals>.") ∧ ∃ j, j + 2 ≤ k ∧ GoodB pg w K mg base Φ c j) :
    FnOk pg w K mg base (L2.CX pg w) (k + 2) f fd ps (spOf mg ps.length (run Φ ps.length c.N.length b)) := by
  obtain ⟨oc, od, dV, kV, doc, pm, an, ct, osl, rfl, lk, hcd⟩ := F.ex
  refine fn_of lk hcd S (fun vs H Q E h => ?_) fun A outer s H vs Q E hr h => ?_
  · obtain ⟨_, _, _, qs, _, _, R, hn, _⟩ := h
    rw [reps_len R, hn]
  · obtain ⟨As, B, g, qs, hl, S', R, hn, O⟩ := h
    have GX : Good (cxOf (L2.CX pg w) pg w K mg base c.N qual c.sc f cdv A outer s H E) Φ c k := GoodB.good (X := cxOf (L2.CX pg w) pg w K mg base c.N qual c.sc f cdv A outer s H E) G rfl rfl S.nd rfl (fun _ _ => rfl) hr hcau
    refine ⟨_, snd_ss b GX S.kind (L2.passes_of rfl) (Ek := E) (L2.takes_of rfl rfl rfl rfl) hc, As, B, qs.map some ++ List.replicate (c.N.length - ps.length) none, ⟨[], g⟩, S', ?_, ?_⟩
    · rw [← hn]; exact slo_start (n := 0) R
    · unfold run at O
      rw [if_pos hn] at O
      exact out_read hl S' O
theorem fn_ok (F : FunD K x qual params body c.sc dvs kws f fd) (S : FnScope c.N ps c.sc) (G : GoodB pg w K mg base Φ c k) (hc : chkSs c b body = true) (hcau : ∀ f, c.cau f = false) :
    FnOk pg w K mg base (L2.CX pg w) (k + 2) f fd ps (spOf mg ps.length (run Φ ps.length c.N.length b)) := by
  obtain ⟨oc, od, dV, kV, doc, pm, an, cdv, ct, osl, e, lk, hcd, _, _⟩ := F.ex
  exact fn_okC ⟨⟨oc, od, dV, kV, doc, pm, an, ct, osl, e, lk, hcd⟩⟩ S G hc fun f z => by rw [hcau f] at z; cases z
theorem run_len {n : Nat} (args : List P) (g : List Ob) (h : run Φ n c.N.length b args g ≠ .bad) : args.length = n := by
  unfold run at h
  by_cases e : args.length = n
  · exact e
  · rw [if_neg e] at h; exact absurd rfl h
/-- as an entry: no defaults -/
theorem fnE_ok {nm : String} {dsOk : List P → Bool} {ksOk : List String → List Nat → Bool} (hm : mg (nm : Str) = some (.ref f)) (F : FunD K x qual params body c.sc dvs kws f fd) (S : FnScope c.N ps c.sc) (G : GoodB pg w K mg base Φ c k) (hc : chkSs c b body = true) (hcau : ∀ f, c.cau f = false)
    (hd : ∀ ds, dsOk ds = true → ∃ dvs dus, ds.mapM scalV = some dvs ∧ Vals dvs dus ∧ Binds K fd ps dus)
    (hk : ∀ ks pm, ksOk ks pm = true → KBn K fd ps 0 (ks.map Str.ofString) (fun us ws => us ++ pm.filterMap (ws[·]?)) (fun vs zs => vs ++ pm.filterMap (zs[·]?))) :
    FnE pg w K mg base (k + 2) dsOk ksOk nm (run Φ ps.length c.N.length b) :=
  ⟨f, fd, ps, hm, F.kp, fn_ok F S G hc hcau, fun args g h => run_len (c := c) args g h, hd, hk⟩
end
end FW

end

section
set_option Elab.async false
set_option linter.all false
set_option maxRecDepth 100000
/-! Fw24: isinstance. -/
namespace PySem.W
open PySem PySem.Spec PySem.Calls PyProof.Rows
section
variable {prog : Program} {w : World} {A : Around} {E : Value → Shared → Prop} {s : Shared} {K : Frag} {x D : Addr} {ox : Obj} {od : Option Obj}
/-- e.__class__, e an exception of an own class, with or without a dict -/
theorem fw_classE {Q : Option Value → Shared → Prop} (C : L2.ExcC K D) (X : K.In s.heap) (I : InstAt s.heap x ox D od) (h : Q (some (.ref D)) { s with toks := s.toks + 1 }) : wpAny (model prog w) A (getAttr? (.ref x) "__class__") Q E s := by
  have hc : (clsIn K D).isSome = true := by obtain ⟨cd, hc, _⟩ := any_some C.hd; rw [hc]; rfl
  have hf : findObj K D od "__class__" = some (.bind (.builtin "getset_descriptor.__get__") (.builtin "object.__class__")) := by
    cases od with
    | none => exact findObj_dataN hc C.ha C.hn C.ht
    | some o => exact findObj_data hc C.ha C.hn C.ht
  obtain ⟨hp, g, d, t, os⟩ := s
  have T0 := I.type (M := model prog w)
  have T1 := looks_findIn (M := model prog w) X C.hg
  have T2 := looks_findIn (M := model prog w) X C.hk
  have T3 := looks_find (M := model prog w) X I hf
  have sub : Looks (model prog w) hp (isInstance (.ref x) (.type "BaseException")) true := T0.andThen (looks_subIn X C.hs)
  have n0 : (false && onTheHeap (Value.builtin "BaseException.__getattribute__")) = false := rfl
  have n1 : (onTheHeap (Value.ref D) && Value.builtin "BaseException.__getattribute__" == Value.builtin "object.__getattribute__") = false := by
    rw [show (Value.builtin "BaseException.__getattribute__" == Value.builtin "object.__getattribute__") = false by decide +kernel]; rfl
  unfold getAttr? getAttrBy? getAttrBy
  refine wpAny_bind (wpAny_mkText (wpAny_bind (wpAny_attempt (wpAny_holding (wpAny_bind (T0.at (wpAny_bind (T1.at ?_))))))))
  show wpAny _ _ (if (onTheHeap (Value.ref D) && Value.builtin "BaseException.__getattribute__" == Value.builtin "object.__getattribute__") = true then _ else _) _ _ ⟨_, _, _, _, _⟩
  rw [n1, if_neg Bool.false_ne_true]
  unfold getAttrByItsOwn hookBefore; refine wpAny_bind ?_
  rw [if_pos (show onTheHeap (.ref D) = true from rfl)]; refine T2.at ?_
  refine wpAny_bind (wpAny_attempt (wpAny_holding ?_)); unfold callGetattribute
  rw [n0, if_neg Bool.false_ne_true]; unfold boundAndCalled
  rw [PySem.F.excAttr_ValueError.ga.bind (.ref x)]; refine wpAny_bind (wpAny_pure ?_)
  show wpAny (model prog w) _ (call (.builtin "BaseException.__getattribute__") [.ref x, .str "__class__" t]) _ _ _
  refine wpAny_call (codeAny_call_builtin PySem.F.excAttr_ValueError.ga.plain PySem.F.entry_bexc_ga (@check_slot (model prog w) _ _ ⟨hp, g, d, t + 1, os⟩ "BaseException.__getattribute__" "BaseException" "__getattribute__" (.ref x) [.str "__class__" t] [] _ (by decide +kernel) (by decide +kernel) sub (PySem.F.args_bexc_ga (.ref x) (.str "__class__" t)) ?_))
  unfold Builtin.«object.__getattribute__»; refine wpAny_bind (wpAny_of_eq (a := ((Value.ref x : Value), [Value.str "__class__" t])) (by first | rfl | (simp only [slotArgs]; rfl)) ?_)
  refine wpAny_bind (wpAny_pure (wpAny_bind (T0.at (wpAny_bind (T3.at ?_)))))
  show wpAny (model prog w) _ (holding [Value.builtin "object.__class__"] (call (.builtin "getset_descriptor.__get__") [.builtin "object.__class__", .ref x, .ref D]) >>= ret) _ _ _
  refine wpAny_bind (wpAny_holding (wpAny_call (class_get (s := ⟨hp, g, d, t + 1, os⟩) (ox := ox) (od := od) X I C.hm (wpAny_pure ?_))))
  show wpAny (model prog w) _ (handedOut (.ref D)) _ _ _
  rw [handedOut_of (v := .ref D) rfl]
  first
    | exact wpAny_pure h
    | exact wpAny_pure (wpAny_pure h)
    | exact wpAny_pure (wpAny_bind (wpAny_pure (wpAny_pure h)))
theorem fw_kitx (C : L2.ExcC K D) : KitX K (.ref x) (.ref D) (fun h => InstAt h x ox D od) where
  ty := fun _ _ _ J => J.type
  it := fun M h X _ => (by
    obtain ⟨cdD, hcD, _⟩ := any_some C.hd
    unfold clsIn at hcD
    split at hcD
    next c' d' cd' sl' ho =>
      intro A' Q' E' s' kk q
      unfold isType loadHead
      exact wpAny_bind (wpAny_loadPart (kk _ _ (X _ _ ho)) (wpAny_pure q))
    next => cases hcD)
  ne := fun h tp dd its n sl X htp => Bool.eq_false_iff.mpr fun q => by
    obtain ⟨cdD, hcD, _⟩ := any_some C.hd
    obtain rfl : D = tp := Value.ref.inj (beq_iff_eq.mp q)
    unfold clsIn at hcD
    split at hcD
    next c' d' cd' sl' ho => cases (X _ _ ho).symm.trans htp
    next => cases hcD
  ca := fun X I k => fw_classE C X I k
end
end PySem.W
namespace FW
open PySem PySem.Spec PyProof.Rows L2
variable [Tb]
/-- what isinstance asks of the written part -/
structure IsiK (K : PySem.W.Frag) (mg : Mg) (Φ : Fenv) : Prop where
  ins : ∀ d D, Φ.cls.contains d = true → mg (d : Str) = some (.ref D) → Cls K D ∧ PySem.W.findIn K (.ref D) "__class__" = some (some (.builtin "object.__class__")) ∧ PySem.W.mroIn K D (.type "object") = some true
  hn : PySem.W.specialIn K (.builtin "object.__class__") "__get__" = some (some (.builtin "getset_descriptor.__get__"))
  ht : PySem.W.takesIn K (.builtin "object.__class__") = some true
  exc : ∀ d D, Φ.exc.contains d = true → mg (d : Str) = some (.ref D) → ExcC K D
  sub : ∀ d D e F, isCl Φ d = true → isCl Φ e = true → mg (d : Str) = some (.ref D) → mg (e : Str) = some (.ref F) → PySem.W.kitOne K (.ref D) (.ref F) = some (Φ.sub d e)
  base : ∀ n e F, n ∈ ["NoneType", "bool", "int", "str", "tuple", "list"] → isCl Φ e = true → mg (e : Str) = some (.ref F) → PySem.W.kitOne K (.type n) (.ref F) = some false
theorem kitB_all : ∀ n ∈ ["NoneType", "bool", "int", "str", "tuple", "list"], ∀ t ∈ bts, kitB n t = some (tySub n t) := by decide +kernel
/-- the type of a value, what it answers of a class -/
def TyA (K : PySem.W.Frag) (u : Value) (s : Shared) (t : Value) : Prop := ∃ P : Heap → Prop, PySem.W.KitX K u t P ∧ P s.heap ∧ u ≠ .builtin "__main__.__loader__#opaque"
section
variable {X : Cx} {Φ : Fenv} {pins : List (Addr × Obj)} {s : Shared} {σ : L2.St} {H : Hp} {A : As} {B : Fb} {st : Sto}
abbrev bnm : List String := ["NoneType", "bool", "int", "str", "tuple", "list"]
theorem base_ans (IK : IsiK X.K X.mg Φ) {n : String} {p c : P} {b : Bool} {y : V} {v : Value} (hn : n ∈ bnm) (h1 : ∀ t, isOne Φ st p (.ty t) = if bts.contains t then some (tySub n t) else none) (h2 : ∀ e, isOne Φ st p (.cls e) = if isCl Φ e then some false else none)
    (h3 : ∀ c, (∀ t, c ≠ .ty t) → (∀ e, c ≠ .cls e) → isOne Φ st p c = none) (h : isOne Φ st p c = some b) (r : Rep X.mg A B H c y) (rv : RelV y v) : PySem.W.kitOne X.K (.type n) v = some b := by
  by_cases hc : ∃ t, c = .ty t
  · obtain ⟨t, rfl⟩ := hc
    rw [h1] at h
    simp only [Rep] at r
    subst r
    cases (show v = Value.type t from rv)
    split at h
    · rename_i ht
      rw [← h]
      exact kit_ty (kitB_all n hn t (by simpa using ht))
    · cases h
  · by_cases hc2 : ∃ e, c = .cls e
    · obtain ⟨e, rfl⟩ := hc2
      rw [h2] at h
      simp only [Rep] at r
      obtain ⟨F, ey, hm⟩ := r
      subst ey
      cases (show v = Value.ref F from rv)
      split at h
      · rename_i he
        rw [← h]
        exact IK.base n e F hn he hm
      · cases h
    · rw [h3 c (fun t z => hc ⟨t, z⟩) (fun e z => hc2 ⟨e, z⟩)] at h
      cases h
/-- what a value answers of the classes -/
def Ans (X : Cx) (Φ : Fenv) (A : As) (B : Fb) (H : Hp) (st : Sto) (p : P) (t : Value) : Prop := ∀ {c : P} {b : Bool} {y : V} {v : Value}, isOne Φ st p c = some b → Rep X.mg A B H c y → RelV y v → PySem.W.kitOne X.K t v = some b
theorem ty_of (IK : IsiK X.K X.mg Φ) (I : Inv X pins σ H s) (S : StoR X.mg A B H st) {p : P} {x : V} {u : Value} (rx : RelV x u) (r : Rep X.mg A B H p x) {c0 : P} {b0 : Bool} (h0 : isOne Φ st p c0 = some b0) : ∃ t, TyA X.K u s t ∧ Ans X Φ A B H st p t := by
  have nc : ∀ (p : P), (∀ c, (∀ t, c ≠ .ty t) → (∀ e, c ≠ .cls e) → isOne Φ st p c = none) → True := fun _ _ => trivial
  cases p with
  | non =>
    simp only [Rep] at r; subst r
    exact ⟨_, kit_of I rx (.base .non), fun h r rv => base_ans IK (n := "NoneType") (by decide) (fun _ => rfl) (fun _ => rfl) (fun c q1 q2 => by cases c <;> first | rfl | exact absurd rfl (q1 _) | exact absurd rfl (q2 _)) h r rv⟩
  | bl k =>
    simp only [Rep] at r; subst r
    exact ⟨_, kit_of I rx (.base (.bl k)), fun h r rv => base_ans IK (n := "bool") (by decide) (fun _ => rfl) (fun _ => rfl) (fun c q1 q2 => by cases c <;> first | rfl | exact absurd rfl (q1 _) | exact absurd rfl (q2 _)) h r rv⟩
  | int k =>
    simp only [Rep] at r; subst r
    exact ⟨_, kit_of I rx (.base (.int k)), fun h r rv => base_ans IK (n := "int") (by decide) (fun _ => rfl) (fun _ => rfl) (fun c q1 q2 => by cases c <;> first | rfl | exact absurd rfl (q1 _) | exact absurd rfl (q2 _)) h r rv⟩
  | str k =>
    simp only [Rep] at r; subst r
    exact ⟨_, kit_of I rx (.base (.str k)), fun h r rv => base_ans IK (n := "str") (by decide) (fun _ => rfl) (fun _ => rfl) (fun c q1 q2 => by cases c <;> first | rfl | exact absurd rfl (q1 _) | exact absurd rfl (q2 _)) h r rv⟩
  | tup k =>
    obtain ⟨a, vs, e, h1, _⟩ := rep_tup r
    subst e
    exact ⟨_, kit_of I rx (.base (.tup h1)), fun h r rv => base_ans IK (n := "tuple") (by decide) (fun _ => rfl) (fun _ => rfl) (fun c q1 q2 => by cases c <;> first | rfl | exact absurd rfl (q1 _) | exact absurd rfl (q2 _)) h r rv⟩
  | lst k =>
    simp only [Rep] at r
    obtain ⟨a, vs, e, h1, _⟩ := r
    subst e
    exact ⟨_, kit_of I rx (.base (.lst h1)), fun h r rv => base_ans IK (n := "list") (by decide) (fun _ => rfl) (fun _ => rfl) (fun c q1 q2 => by cases c <;> first | rfl | exact absurd rfl (q1 _) | exact absurd rfl (q2 _)) h r rv⟩
  | lob n =>
    cases hs : st.l[n]? with
    | none => unfold isOne at h0; dsimp only at h0; rw [hs] at h0; cases c0 <;> cases h0
    | some o =>
      cases o with
      | lst xs =>
        simp only [Rep] at r
        obtain ⟨a, e, ha⟩ := r
        subst e
        obtain ⟨vs, h1, _⟩ := S.ol n a _ ha hs
        have q : ∀ c, isOne Φ st (.lob n) c = (match c with | .ty t => if bts.contains t then some (tySub "list" t) else none | .cls e => if isCl Φ e then some false else none | _ => none) := fun c => by
          unfold isOne; dsimp only; rw [hs]; cases c <;> rfl
        exact ⟨_, kit_of I rx (.base (.lst h1)), fun h r rv => base_ans IK (n := "list") (by decide) (fun _ => q _) (fun _ => q _) (fun c q1 q2 => by rw [q]; cases c <;> first | rfl | exact absurd rfl (q1 _) | exact absurd rfl (q2 _)) h r rv⟩
      | dct t kvs => unfold isOne at h0; dsimp only at h0; rw [hs] at h0; cases h0
      | ins c fs => unfold isOne at h0; dsimp only at h0; rw [hs] at h0; cases h0
  | ins d fs =>
    simp only [Rep] at r
    obtain ⟨a, C, dx, gs, e, h1, _, hm, _⟩ := r
    subst e
    have hd : Φ.cls.contains d = true := by
      cases hd : Φ.cls.contains d with
      | true => rfl
      | false => unfold isOne at h0; dsimp only at h0; rw [hd] at h0; cases c0 <;> cases h0
    obtain ⟨k1, k2, k3⟩ := IK.ins d C hd hm
    refine ⟨_, kit_of I rx (.base (.ins h1 k1 k2 IK.hn IK.ht k3)), fun {c b y v} h r rv => ?_⟩
    unfold isOne at h
    dsimp only at h
    rw [hd] at h
    cases c <;> first | (simp at h; done) | skip
    rename_i e
    simp only [Rep] at r
    obtain ⟨F, ey', hf⟩ := r
    rw [ey'] at rv
    obtain rfl := (show v = Value.ref F from rv)
    replace h : (if (true && isCl Φ e) = true then some (Φ.sub d e) else none) = some b := h
    cases he : isCl Φ e with
    | false => rw [he] at h; cases h
    | true =>
      rw [he] at h
      have h : some (Φ.sub d e) = some b := h
      rw [← h]
      exact IK.sub d C e F (by unfold isCl; rw [hd]; rfl) he hm hf
  | exc d fs =>
    simp only [Rep] at r
    obtain ⟨a, C, e, _, hm, r⟩ := r
    subst e
    have hd : Φ.exc.contains d = true := by
      cases hd : Φ.exc.contains d with
      | true => rfl
      | false => unfold isOne at h0; dsimp only at h0; rw [hd] at h0; cases c0 <;> cases h0
    obtain rfl : u = Value.ref a := rx
    have EC := IK.exc d C hd hm
    have ty : TyA X.K (.ref a) s (.ref C) := by
      rcases r with ⟨_, φ, h1, h2⟩ | ⟨dd, gs, φ, h1, h2, hx, _⟩
      · have hφ : ObjOk X.prog X.w H s.heap a (.ext φ) := I.hok a _ h1
        obtain ⟨oe, vs, g1, hz, hdat⟩ := h2 _ hφ.1
        exact ⟨_, PySem.W.fw_kitx (ox := oe) (od := none) EC, ⟨g1, hz.1, by unfold PySem.W.notCls; rw [hdat] <;> rfl, by rw [hz.2]; trivial⟩, fun z => nomatch z⟩
      · have hφ : ObjOk X.prog X.w H s.heap a (.ext φ) := I.hok a _ h1
        obtain ⟨oe, vs, g1, hz, hdat⟩ := h2 _ hφ.1
        have hxx : ObjOk X.prog X.w H s.heap dd (.xd gs) := I.hok dd _ hx
        obtain ⟨mA, hns, hr'⟩ := hxx
        obtain ⟨od, ho, hl⟩ := lookIn_ns hns
        exact ⟨_, PySem.W.fw_kitx (ox := oe) (od := some od) EC, ⟨g1, hz.1, by unfold PySem.W.notCls; rw [hdat] <;> rfl, by rw [hz.2]; exact ho⟩, fun z => nomatch z⟩
    refine ⟨_, ty, fun {c b y v} h r rv => ?_⟩
    unfold isOne at h
    dsimp only at h
    rw [hd] at h
    cases c <;> first | (simp at h; done) | skip
    rename_i e
    simp only [Rep] at r
    obtain ⟨F, ey', hf⟩ := r
    rw [ey'] at rv
    obtain rfl := (show v = Value.ref F from rv)
    replace h : (if (true && isCl Φ e) = true then some (Φ.sub d e) else none) = some b := h
    cases he : isCl Φ e with
    | false => rw [he] at h; cases h
    | true =>
      rw [he] at h
      have h : some (Φ.sub d e) = some b := h
      rw [← h]
      exact IK.sub d C e F (by unfold isCl; rw [hd]; exact Bool.or_true _) he hm hf
  | ty n => exact absurd h0 (by cases c0 <;> exact fun z => nomatch z)
  | scr n => exact absurd h0 (by cases c0 <;> exact fun z => nomatch z)
  | dct t n => exact absurd h0 (by cases c0 <;> exact fun z => nomatch z)
  | gob n => exact absurd h0 (by cases c0 <;> exact fun z => nomatch z)
  | fn n => exact absurd h0 (by cases c0 <;> exact fun z => nomatch z)
  | cls n => exact absurd h0 (by cases c0 <;> exact fun z => nomatch z)
theorem any_of {p : P} {t : Value} (an : Ans X Φ A B H st p t) : ∀ {cs : List P} {ys : List V} {vs : List Value} {b : Bool}, isAny Φ st p cs = some b → Reps X.mg A B H cs ys → Vals ys vs → PySem.W.kitAny X.K t vs = some b
  | [], _, _, b, h, r, rv => by cases h
  | [c], _, _, b, h, r, rv => by
    simp only [Reps] at r
    obtain ⟨y, ys, e, r1, r2⟩ := r
    subst e; subst r2
    cases rv with
    | cons v1 v2 =>
      cases v2
      have h : isOne Φ st p c = some b := h
      exact kitAny_cons (an h r1 v1) (fun z => by rw [z]; exact kitAny_nil) (fun z => z)
  | c :: c2 :: cs, _, _, b, h, r, rv => by
    simp only [Reps] at r
    obtain ⟨y, ys, e, r1, r2⟩ := r
    subst e
    cases rv with
    | cons v1 v2 =>
      unfold isAny at h
      cases h1 : isOne Φ st p c with
      | none => rw [h1] at h; cases h
      | some b1 =>
        rw [h1] at h
        cases b1 with
        | true => cases h; exact kitAny_cons (an h1 r1 v1) (fun z => nomatch z) (fun _ => rfl)
        | false => exact kitAny_cons (an h1 r1 v1) (fun _ => any_of an h r2 v2) (fun z => nomatch z)
theorem isi_ok (IK : IsiK X.K X.mg Φ) : IsiOk X Φ := by
  intro pins s σ H x y us Q A B st p c b I rv S rp rc h q
  cases rv with
  | cons v1 rr =>
    cases rr with
    | cons v2 rr =>
      cases rr
      rcases h with h | ⟨cs, ec, h⟩
      · obtain ⟨t, ⟨P, Z, hp, hx⟩, an⟩ := ty_of IK I S v1 rp h
        exact PySem.W.kia_one Z I.kIn hp (an h rc v2) hx fun tk => ⟨.bl b, H, I.tok tk, rfl, q⟩
      · subst ec
        obtain ⟨a, vs, e, h1, R1⟩ := rep_tup rc
        subst e
        have hone : ∃ c0 b0, isOne Φ st p c0 = some b0 := by
          cases cs with
          | nil => cases h
          | cons c0 cs =>
            cases h1 : isOne Φ st p c0 with
            | none => cases cs <;> (unfold isAny at h; rw [h1] at h; cases h)
            | some b1 => exact ⟨c0, b1, h1⟩
        obtain ⟨c0, b0, h0⟩ := hone
        obtain ⟨t, ⟨P, Z, hp, hx⟩, an⟩ := ty_of IK I S v1 rp h0
        obtain rfl := (show _ = Value.ref a from v2)
        have ho : ObjOk X.prog X.w H s.heap a (.tup vs) := I.hok a _ h1
        obtain ⟨_, its, rv, o, g1, g2, n, g3⟩ := ho
        obtain ⟨oc, od, dt, sl⟩ := o
        simp only at g2 g3
        subst g2 g3
        exact PySem.W.kia_tup Z I.kIn hp g1 (any_of an h R1 rv) hx fun tk => ⟨.bl b, H, I.tok tk, rfl, q⟩
end
end FW

end

section
set_option Elab.async false
set_option linter.all false
set_option maxRecDepth 100000
/-! Fw25a: min and max of tuples, at the library's level (printed by gen_minmax.py). -/
namespace PySem
namespace FWm
open PySem

section
variable {prog : Program} {w : World} {A : Around} {R : Result → Shared → Prop} {I : Addr} {fp wr : List Addr} {n : Nat} {P : Nat → Value → Prop} {St : Nat → Heap → Prop}
/-- min's loop, the comparison told where Fr holds -/
theorem min_loopF (W : Walks prog w A.in1 I fp wr n P St) (bt : Nat → Nat → Bool) (S : Addr) (hSf : S ∉ fp) (Fr : Shared → Prop) (hfr : ∀ s h' tk, Fr s → (∀ b o, b ∉ wr → b ≠ S → s.heap.get? b = some o → h'.get? b = some o) → Fr { s with heap := h', toks := tk })
    (hcmp : ∀ i j vi vj (s : Shared) (Q : Value → Shared → Prop) (E : Value → Shared → Prop), Fr s → P i vi → P j vj → Q (.bool (bt i j)) s → wpAny (model prog w) A.in1 (richCompare .Lt vi vj) Q E s) :
    ∀ (k j : Nat) (s : Shared) (vb : Value) (c : Nat), n - (j + 1) = k → j + 1 ≤ n → St (j + 1) s.heap → Fr s → P (argBest bt j) vb → s.heap.get? S = some { cls := .type "list", dict := none, data := .seq #[vb, vb] c, slots := #[] } →
    (∀ v h' tk, P (argBest bt (n - 1)) v → (∀ b o, b ∉ wr → b ≠ S → s.heap.get? b = some o → h'.get? b = some o) → R (.ok (.ret v)) { s with heap := h', toks := tk }) → codeAny (model prog w) A (.builtin "min.loop" ⟨[.ref I, .none, .ref S], []⟩) R s := by
  have nS : S ∉ wr := fun h => hSf (W.sub _ h)
  have nm : (toString "min" ++ toString ".loop" : String) = "min.loop" := by decide
  intro k
  induction k with
  | zero =>
    intro j s vb c hk hj hst fr hPb hS hR
    have hin : j + 1 = n := by omega
    refine codeAny_builtin F.entry_min_loop ?_; rw [Around.under_plainId F.plain_min_loop _]
    show wpAny (model prog w) A.in1 (seqItems? (.ref S) >>= _) _ _ s
    refine wpAny_bind (wpAny_seqItems hS rfl ?_); show wpAny (model prog w) A.in1 (tryCatch (pyNext (.ref I)) _ >>= _) _ _ s
    refine wpAny_bind (wpAny_tryCatch (W.done s _ _ (hin ▸ hst) fun h2 tk k2 => ?_))
    show wpAny (model prog w) A.in1 (updateSeq S (fun _ => #[]) >>= _) _ _ _
    refine wpAny_bind (wpAny_updateSeq (k2 S _ nS hS) rfl (wpAny_bind (wpAny_letGo (wpAny_pure (hR vb _ tk (by rw [← hin]; exact hPb) fun b o q1 q2 e => ?_)))))
    exact (Heap.get?_update_other _ _ (Ne.symm q2)).trans (k2 b o q1 e)
  | succ k ih =>
    intro j s vb c hk hj hst fr hPb hS hR
    have hlt : j + 1 < n := by omega
    refine codeAny_builtin F.entry_min_loop ?_; rw [Around.under_plainId F.plain_min_loop _]
    show wpAny (model prog w) A.in1 (seqItems? (.ref S) >>= _) _ _ s
    refine wpAny_bind (wpAny_seqItems hS rfl ?_); show wpAny (model prog w) A.in1 (tryCatch (pyNext (.ref I)) _ >>= _) _ _ s
    refine wpAny_bind (wpAny_tryCatch (W.item (j + 1) s _ _ hlt hst fun v h2 tk hP st2 k2 => ?_))
    have S2 := k2 S _ nS hS
    have fr2 : Fr { s with heap := h2, toks := tk } := hfr s h2 tk fr fun b o q1 _ e => k2 b o q1 e
    show wpAny (model prog w) A.in1 (tryCatch (holding [v, v] (richCompare .Lt v vb >>= _)) _ >>= _) _ _ _
    refine wpAny_bind (wpAny_tryCatch (wpAny_holding (wpAny_bind (hcmp (j + 1) (argBest bt j) v vb _ _ _ fr2 hP hPb ?_))))
    refine wpAny_bind (wpAny_holding (wpAny_truthy_bool ?_)); refine wpAny_bind (wpAny_letGo (wpAny_pure ?_))
    cases hb : bt (j + 1) (argBest bt j) with
    | true =>
      simp only [if_true]; refine wpAny_bind (wpAny_updateSeq S2 rfl (wpAny_bind (wpAny_letGo ?_)))
      rw [nm]
      have up : ∀ b o, b ≠ S → h2.get? b = some o → (h2.update S (Obj.mapSeq fun _ => #[v, v])).get? b = some o := fun b o q e => (Heap.get?_update_other _ _ (Ne.symm q)).trans e
      refine wpAny_pure ⟨plainId_quiet F.plain_min_loop _, ih (j + 1) _ v _ (by omega) hlt (W.frame _ _ _ st2 fun b hbf o e => up b o (fun h => hSf (h ▸ hbf)) e) (hfr _ _ _ fr2 fun b o _ q e => up b o q e) (by simp only [argBest, hb, if_true]; exact hP) (Heap.get?_update_self _ S2 rfl) fun v' h3 tk3 hP' k3 => ?_⟩
      exact hR v' h3 tk3 hP' fun b o q1 q2 e => k3 b o q1 q2 (up b o q2 (k2 b o q1 e))
    | false =>
      simp only [Bool.false_eq_true, if_false]; refine wpAny_bind (wpAny_letGo ?_)
      rw [nm]
      refine wpAny_pure ⟨plainId_quiet F.plain_min_loop _, ih (j + 1) _ vb c (by omega) hlt st2 fr2 (by simp only [argBest, hb, Bool.false_eq_true, if_false]; exact hPb) S2 fun v' h3 tk3 hP' k3 => ?_⟩
      exact hR v' h3 tk3 hP' fun b o q1 q2 e => k3 b o q1 q2 (k2 b o q1 e)
theorem min_firstF (W : Walks prog w A.in1 I fp wr n P St) (bt : Nat → Nat → Bool) (S : Addr) (hSf : S ∉ fp) (Fr : Shared → Prop) (hfr : ∀ s h' tk, Fr s → (∀ b o, b ∉ wr → b ≠ S → s.heap.get? b = some o → h'.get? b = some o) → Fr { s with heap := h', toks := tk })
    (hcmp : ∀ i j vi vj (s : Shared) (Q : Value → Shared → Prop) (E : Value → Shared → Prop), Fr s → P i vi → P j vj → Q (.bool (bt i j)) s → wpAny (model prog w) A.in1 (richCompare .Lt vi vj) Q E s) (hn : 0 < n) {s : Shared} {c : Nat} (hst : St 0 s.heap) (fr : Fr s)
    (hS : s.heap.get? S = some { cls := .type "list", dict := none, data := .seq #[] c, slots := #[] })
    (hR : ∀ v h' tk, P (argBest bt (n - 1)) v → (∀ b o, b ∉ wr → b ≠ S → s.heap.get? b = some o → h'.get? b = some o) → R (.ok (.ret v)) { s with heap := h', toks := tk }) : codeAny (model prog w) A (.builtin "min.loop" ⟨[.ref I, .none, .ref S], []⟩) R s := by
  have nS : S ∉ wr := fun h => hSf (W.sub _ h)
  have nm : (toString "min" ++ toString ".loop" : String) = "min.loop" := by decide
  refine codeAny_builtin F.entry_min_loop ?_; rw [Around.under_plainId F.plain_min_loop _]
  show wpAny (model prog w) A.in1 (seqItems? (.ref S) >>= _) _ _ s
  refine wpAny_bind (wpAny_seqItems hS rfl ?_); show wpAny (model prog w) A.in1 (tryCatch (pyNext (.ref I)) _ >>= _) _ _ s
  refine wpAny_bind (wpAny_tryCatch (W.item 0 s _ _ hn hst fun v h2 tk hP st2 k2 => ?_))
  have S2 := k2 S _ nS hS
  have fr2 : Fr { s with heap := h2, toks := tk } := hfr s h2 tk fr fun b o q1 _ e => k2 b o q1 e
  have up : ∀ b o, b ≠ S → h2.get? b = some o → (h2.update S (Obj.mapSeq fun _ => #[v, v])).get? b = some o := fun b o q e => (Heap.get?_update_other _ _ (Ne.symm q)).trans e
  show wpAny (model prog w) A.in1 (updateSeq S (fun _ => #[v, v]) >>= _) _ _ _
  refine wpAny_bind (wpAny_updateSeq S2 rfl ?_)
  rw [nm]
  refine wpAny_pure ⟨plainId_quiet F.plain_min_loop _, min_loopF W bt S hSf Fr hfr hcmp _ 0 _ v _ rfl hn (W.frame _ _ _ st2 fun b hbf o e => up b o (fun h => hSf (h ▸ hbf)) e) (hfr _ _ _ fr2 fun b o _ q e => up b o q e) hP (Heap.get?_update_self _ S2 rfl) fun v' h3 tk3 hP' k3 => ?_⟩
  exact hR v' h3 tk3 hP' fun b o q1 q2 e => k3 b o q1 q2 (up b o q2 (k2 b o q1 e))
end
section
variable {prog : Program} {w : World} {A : Around} {E : Value → Shared → Prop} {s : Shared}
theorem min_walkF {x : Value} {Q : Value → Shared → Prop}
    (h : wpAny (model prog w) A.in1 (pyIter x) (fun it s2 => ∃ (I : Addr) (fp wr : List Addr) (n : Nat) (P : Nat → Value → Prop) (St : Nat → Heap → Prop) (bt : Nat → Nat → Bool) (Fr : Shared → Prop), it = .ref I ∧ Walks prog w A.in1 I fp wr n P St ∧ St 0 s2.heap ∧ (∀ b ∈ fp, b < s2.heap.objs.size) ∧ 0 < n ∧
      (∀ (s : Shared) h' tk (S : Addr), Fr s → s2.heap.objs.size ≤ S → (∀ b o, b ∉ wr → b ≠ S → s.heap.get? b = some o → h'.get? b = some o) → Fr { s with heap := h', toks := tk }) ∧ Fr s2 ∧
      (∀ i j vi vj (s : Shared) (Q : Value → Shared → Prop) (E : Value → Shared → Prop), Fr s → P i vi → P j vj → Q (.bool (bt i j)) s → wpAny (model prog w) A.in1 (richCompare .Lt vi vj) Q E s) ∧
      ∀ v h' tk, P (argBest bt (n - 1)) v → (∀ b o, b ∉ wr → s2.heap.get? b = some o → h'.get? b = some o) → Q v { s2 with heap := h', toks := tk }) E s) :
    wpAny (model prog w) A (call (.builtin "min") [x]) Q E s := by
  have nm : (toString "min" ++ toString ".loop" : String) = "min.loop" := by decide
  refine call_function_tree F.kind_min F.plain_min F.entry_min (F.args_min1 _) ?_
  show wpAny (model prog w) A.in1 (Builtin.Builtins.bindParams "min" ["key", "default"] 0 ⟨[], []⟩ >>= _) _ _ s
  have e0 : Builtin.Builtins.bindParams "min" ["key", "default"] 0 ⟨[], []⟩ = pure [none, none] := rfl
  refine wpAny_bind (wpAny_of_eq e0 (wpAny_bind (wpAny_pure (wpAny_bind (wpAny_mono h (fun it s2 h2 => ?_) fun _ _ e => e)))))
  obtain ⟨I, fp, wr, n, P, St, bt, Fr, rfl, W, hst, hfp, hn, hfr, fr, hcmp, hQ⟩ := h2
  refine wpAny_bind (wpAny_newObj_type ?_)
  have hSf : s2.heap.objs.size ∉ fp := fun hm => Nat.lt_irrefl _ (hfp _ hm)
  rw [nm]
  refine wpAny_pure ⟨plainId_quiet F.plain_min_loop _, min_firstF W bt s2.heap.objs.size hSf Fr (fun s h' tk f k => hfr s h' tk _ f (Nat.le_refl _) k) hcmp hn (W.frame _ _ _ hst fun b _ o e => Heap.get?_push_of_some _ e) ?_ (Heap.get?_push_size _ rfl) fun v h3 tk hP k3 => ?_⟩
  · exact hfr s2 _ s2.toks _ fr (Nat.le_refl _) fun b o _ _ e => Heap.get?_push_of_some _ e
  · exact hQ v h3 tk hP fun b o q e => k3 b o q (Nat.ne_of_lt (Heap.lt_size e)) (Heap.get?_push_of_some _ e)
end


section
variable {prog : Program} {w : World} {A : Around} {R : Result → Shared → Prop} {I : Addr} {fp wr : List Addr} {n : Nat} {P : Nat → Value → Prop} {St : Nat → Heap → Prop}
/-- max's loop, the comparison told where Fr holds -/
theorem max_loopF (W : Walks prog w A.in1 I fp wr n P St) (bt : Nat → Nat → Bool) (S : Addr) (hSf : S ∉ fp) (Fr : Shared → Prop) (hfr : ∀ s h' tk, Fr s → (∀ b o, b ∉ wr → b ≠ S → s.heap.get? b = some o → h'.get? b = some o) → Fr { s with heap := h', toks := tk })
    (hcmp : ∀ i j vi vj (s : Shared) (Q : Value → Shared → Prop) (E : Value → Shared → Prop), Fr s → P i vi → P j vj → Q (.bool (bt i j)) s → wpAny (model prog w) A.in1 (richCompare .Gt vi vj) Q E s) :
    ∀ (k j : Nat) (s : Shared) (vb : Value) (c : Nat), n - (j + 1) = k → j + 1 ≤ n → St (j + 1) s.heap → Fr s → P (argBest bt j) vb → s.heap.get? S = some { cls := .type "list", dict := none, data := .seq #[vb, vb] c, slots := #[] } →
    (∀ v h' tk, P (argBest bt (n - 1)) v → (∀ b o, b ∉ wr → b ≠ S → s.heap.get? b = some o → h'.get? b = some o) → R (.ok (.ret v)) { s with heap := h', toks := tk }) → codeAny (model prog w) A (.builtin "max.loop" ⟨[.ref I, .none, .ref S], []⟩) R s := by
  have nS : S ∉ wr := fun h => hSf (W.sub _ h)
  have nm : (toString "max" ++ toString ".loop" : String) = "max.loop" := by decide
  intro k
  induction k with
  | zero =>
    intro j s vb c hk hj hst fr hPb hS hR
    have hin : j + 1 = n := by omega
    refine codeAny_builtin F.entry_max_loop ?_; rw [Around.under_plainId F.plain_max_loop _]
    show wpAny (model prog w) A.in1 (seqItems? (.ref S) >>= _) _ _ s
    refine wpAny_bind (wpAny_seqItems hS rfl ?_); show wpAny (model prog w) A.in1 (tryCatch (pyNext (.ref I)) _ >>= _) _ _ s
    refine wpAny_bind (wpAny_tryCatch (W.done s _ _ (hin ▸ hst) fun h2 tk k2 => ?_))
    show wpAny (model prog w) A.in1 (updateSeq S (fun _ => #[]) >>= _) _ _ _
    refine wpAny_bind (wpAny_updateSeq (k2 S _ nS hS) rfl (wpAny_bind (wpAny_letGo (wpAny_pure (hR vb _ tk (by rw [← hin]; exact hPb) fun b o q1 q2 e => ?_)))))
    exact (Heap.get?_update_other _ _ (Ne.symm q2)).trans (k2 b o q1 e)
  | succ k ih =>
    intro j s vb c hk hj hst fr hPb hS hR
    have hlt : j + 1 < n := by omega
    refine codeAny_builtin F.entry_max_loop ?_; rw [Around.under_plainId F.plain_max_loop _]
    show wpAny (model prog w) A.in1 (seqItems? (.ref S) >>= _) _ _ s
    refine wpAny_bind (wpAny_seqItems hS rfl ?_); show wpAny (model prog w) A.in1 (tryCatch (pyNext (.ref I)) _ >>= _) _ _ s
    refine wpAny_bind (wpAny_tryCatch (W.item (j + 1) s _ _ hlt hst fun v h2 tk hP st2 k2 => ?_))
    have S2 := k2 S _ nS hS
    have fr2 : Fr { s with heap := h2, toks := tk } := hfr s h2 tk fr fun b o q1 _ e => k2 b o q1 e
    show wpAny (model prog w) A.in1 (tryCatch (holding [v, v] (richCompare .Gt v vb >>= _)) _ >>= _) _ _ _
    refine wpAny_bind (wpAny_tryCatch (wpAny_holding (wpAny_bind (hcmp (j + 1) (argBest bt j) v vb _ _ _ fr2 hP hPb ?_))))
    refine wpAny_bind (wpAny_holding (wpAny_truthy_bool ?_)); refine wpAny_bind (wpAny_letGo (wpAny_pure ?_))
    cases hb : bt (j + 1) (argBest bt j) with
    | true =>
      simp only [if_true]; refine wpAny_bind (wpAny_updateSeq S2 rfl (wpAny_bind (wpAny_letGo ?_)))
      rw [nm]
      have up : ∀ b o, b ≠ S → h2.get? b = some o → (h2.update S (Obj.mapSeq fun _ => #[v, v])).get? b = some o := fun b o q e => (Heap.get?_update_other _ _ (Ne.symm q)).trans e
      refine wpAny_pure ⟨plainId_quiet F.plain_max_loop _, ih (j + 1) _ v _ (by omega) hlt (W.frame _ _ _ st2 fun b hbf o e => up b o (fun h => hSf (h ▸ hbf)) e) (hfr _ _ _ fr2 fun b o _ q e => up b o q e) (by simp only [argBest, hb, if_true]; exact hP) (Heap.get?_update_self _ S2 rfl) fun v' h3 tk3 hP' k3 => ?_⟩
      exact hR v' h3 tk3 hP' fun b o q1 q2 e => k3 b o q1 q2 (up b o q2 (k2 b o q1 e))
    | false =>
      simp only [Bool.false_eq_true, if_false]; refine wpAny_bind (wpAny_letGo ?_)
      rw [nm]
      refine wpAny_pure ⟨plainId_quiet F.plain_max_loop _, ih (j + 1) _ vb c (by omega) hlt st2 fr2 (by simp only [argBest, hb, Bool.false_eq_true, if_false]; exact hPb) S2 fun v' h3 tk3 hP' k3 => ?_⟩
      exact hR v' h3 tk3 hP' fun b o q1 q2 e => k3 b o q1 q2 (k2 b o q1 e)
theorem max_firstF (W : Walks prog w A.in1 I fp wr n P St) (bt : Nat → Nat → Bool) (S : Addr) (hSf : S ∉ fp) (Fr : Shared → Prop) (hfr : ∀ s h' tk, Fr s → (∀ b o, b ∉ wr → b ≠ S → s.heap.get? b = some o → h'.get? b = some o) → Fr { s with heap := h', toks := tk })
    (hcmp : ∀ i j vi vj (s : Shared) (Q : Value → Shared → Prop) (E : Value → Shared → Prop), Fr s → P i vi → P j vj → Q (.bool (bt i j)) s → wpAny (model prog w) A.in1 (richCompare .Gt vi vj) Q E s) (hn : 0 < n) {s : Shared} {c : Nat} (hst : St 0 s.heap) (fr : Fr s)
    (hS : s.heap.get? S = some { cls := .type "list", dict := none, data := .seq #[] c, slots := #[] })
    (hR : ∀ v h' tk, P (argBest bt (n - 1)) v → (∀ b o, b ∉ wr → b ≠ S → s.heap.get? b = some o → h'.get? b = some o) → R (.ok (.ret v)) { s with heap := h', toks := tk }) : codeAny (model prog w) A (.builtin "max.loop" ⟨[.ref I, .none, .ref S], []⟩) R s := by
  have nS : S ∉ wr := fun h => hSf (W.sub _ h)
  have nm : (toString "max" ++ toString ".loop" : String) = "max.loop" := by decide
  refine codeAny_builtin F.entry_max_loop ?_; rw [Around.under_plainId F.plain_max_loop _]
  show wpAny (model prog w) A.in1 (seqItems? (.ref S) >>= _) _ _ s
  refine wpAny_bind (wpAny_seqItems hS rfl ?_); show wpAny (model prog w) A.in1 (tryCatch (pyNext (.ref I)) _ >>= _) _ _ s
  refine wpAny_bind (wpAny_tryCatch (W.item 0 s _ _ hn hst fun v h2 tk hP st2 k2 => ?_))
  have S2 := k2 S _ nS hS
  have fr2 : Fr { s with heap := h2, toks := tk } := hfr s h2 tk fr fun b o q1 _ e => k2 b o q1 e
  have up : ∀ b o, b ≠ S → h2.get? b = some o → (h2.update S (Obj.mapSeq fun _ => #[v, v])).get? b = some o := fun b o q e => (Heap.get?_update_other _ _ (Ne.symm q)).trans e
  show wpAny (model prog w) A.in1 (updateSeq S (fun _ => #[v, v]) >>= _) _ _ _
  refine wpAny_bind (wpAny_updateSeq S2 rfl ?_)
  rw [nm]
  refine wpAny_pure ⟨plainId_quiet F.plain_max_loop _, max_loopF W bt S hSf Fr hfr hcmp _ 0 _ v _ rfl hn (W.frame _ _ _ st2 fun b hbf o e => up b o (fun h => hSf (h ▸ hbf)) e) (hfr _ _ _ fr2 fun b o _ q e => up b o q e) hP (Heap.get?_update_self _ S2 rfl) fun v' h3 tk3 hP' k3 => ?_⟩
  exact hR v' h3 tk3 hP' fun b o q1 q2 e => k3 b o q1 q2 (up b o q2 (k2 b o q1 e))
end
section
variable {prog : Program} {w : World} {A : Around} {E : Value → Shared → Prop} {s : Shared}
theorem max_walkF {x : Value} {Q : Value → Shared → Prop}
    (h : wpAny (model prog w) A.in1 (pyIter x) (fun it s2 => ∃ (I : Addr) (fp wr : List Addr) (n : Nat) (P : Nat → Value → Prop) (St : Nat → Heap → Prop) (bt : Nat → Nat → Bool) (Fr : Shared → Prop), it = .ref I ∧ Walks prog w A.in1 I fp wr n P St ∧ St 0 s2.heap ∧ (∀ b ∈ fp, b < s2.heap.objs.size) ∧ 0 < n ∧
      (∀ (s : Shared) h' tk (S : Addr), Fr s → s2.heap.objs.size ≤ S → (∀ b o, b ∉ wr → b ≠ S → s.heap.get? b = some o → h'.get? b = some o) → Fr { s with heap := h', toks := tk }) ∧ Fr s2 ∧
      (∀ i j vi vj (s : Shared) (Q : Value → Shared → Prop) (E : Value → Shared → Prop), Fr s → P i vi → P j vj → Q (.bool (bt i j)) s → wpAny (model prog w) A.in1 (richCompare .Gt vi vj) Q E s) ∧
      ∀ v h' tk, P (argBest bt (n - 1)) v → (∀ b o, b ∉ wr → s2.heap.get? b = some o → h'.get? b = some o) → Q v { s2 with heap := h', toks := tk }) E s) :
    wpAny (model prog w) A (call (.builtin "max") [x]) Q E s := by
  have nm : (toString "max" ++ toString ".loop" : String) = "max.loop" := by decide
  refine call_function_tree F.kind_max F.plain_max F.entry_max (F.args_max1 _) ?_
  show wpAny (model prog w) A.in1 (Builtin.Builtins.bindParams "max" ["key", "default"] 0 ⟨[], []⟩ >>= _) _ _ s
  have e0 : Builtin.Builtins.bindParams "max" ["key", "default"] 0 ⟨[], []⟩ = pure [none, none] := rfl
  refine wpAny_bind (wpAny_of_eq e0 (wpAny_bind (wpAny_pure (wpAny_bind (wpAny_mono h (fun it s2 h2 => ?_) fun _ _ e => e)))))
  obtain ⟨I, fp, wr, n, P, St, bt, Fr, rfl, W, hst, hfp, hn, hfr, fr, hcmp, hQ⟩ := h2
  refine wpAny_bind (wpAny_newObj_type ?_)
  have hSf : s2.heap.objs.size ∉ fp := fun hm => Nat.lt_irrefl _ (hfp _ hm)
  rw [nm]
  refine wpAny_pure ⟨plainId_quiet F.plain_max_loop _, max_firstF W bt s2.heap.objs.size hSf Fr (fun s h' tk f k => hfr s h' tk _ f (Nat.le_refl _) k) hcmp hn (W.frame _ _ _ hst fun b _ o e => Heap.get?_push_of_some _ e) ?_ (Heap.get?_push_size _ rfl) fun v h3 tk hP k3 => ?_⟩
  · exact hfr s2 _ s2.toks _ fr (Nat.le_refl _) fun b o _ _ e => Heap.get?_push_of_some _ e
  · exact hQ v h3 tk hP fun b o q e => k3 b o q (Nat.ne_of_lt (Heap.lt_size e)) (Heap.get?_push_of_some _ e)
end

end FWm
end PySem

end

section
set_option Elab.async false
set_option linter.all false
set_option maxRecDepth 100000
/-! Fw25: min of a list of tuples of ints. -/
namespace FW
open PySem PySem.Spec PyProof.Rows L2
variable [Tb]
def tupP (t : List Int) : P := .tup (t.map .int)
theorem ints_map : ∀ (t : List Int), intsOf (t.map P.int) = some t
  | [] => rfl
  | i :: t => by
    show (intsOf (t.map P.int)).map (i :: ·) = _
    rw [ints_map t]; rfl
theorem tups_inv : ∀ {xs : List P} {ts : List (List Int)}, tupsOf xs = some ts → xs = ts.map tupP
  | [], ts, h => by cases h; rfl
  | x :: r, ts, h => by
    cases x <;> first | cases h | skip
    rename_i ys
    unfold tupsOf at h
    cases h1 : intsOf ys with
    | none => rw [h1] at h; cases h
    | some t =>
      cases h2 : tupsOf r with
      | none => rw [h1, h2] at h; cases h
      | some ts' =>
        rw [h1, h2] at h
        cases h
        rw [List.map_cons, ← tups_inv h2]
        unfold tupP
        rw [intsOf_inv h1]
theorem pLt_tup (a b : List Int) : pLt (tupP a) (tupP b) = some (HT.lexLt a b) := by
  unfold tupP pLt
  dsimp only
  rw [ints_map, ints_map]
  rfl
def btT (ts : List (List Int)) (i j : Nat) : Bool := HT.lexLt (ts.getD i []) (ts.getD j [])
theorem min_arg {ts : List (List Int)} {m : P} : ∀ (d k : Nat), ts.length = k + 1 + d → argBest (btT ts) k < ts.length → minBy pLt ((ts.drop (k + 1)).map tupP) (tupP (ts.getD (argBest (btT ts) k) [])) = some m → m = tupP (ts.getD (argBest (btT ts) (ts.length - 1)) []) ∧ argBest (btT ts) (ts.length - 1) < ts.length
  | 0, k, hl, hb, h => by
    rw [List.drop_eq_nil_of_le (by omega)] at h
    have e : ts.length - 1 = k := by omega
    rw [e]
    exact ⟨(Option.some.inj h).symm, hb⟩
  | d + 1, k, hl, hb, h => by
    have hk : k + 1 < ts.length := by omega
    rw [List.drop_eq_getElem_cons hk, List.map_cons] at h
    unfold minBy at h
    rw [pLt_tup] at h
    have eg : ts.getD (k + 1) [] = ts[k + 1] := by rw [List.getD_eq_getElem?_getD, List.getElem?_eq_getElem hk]; rfl
    have eb : btT ts (k + 1) (argBest (btT ts) k) = HT.lexLt ts[k + 1] (ts.getD (argBest (btT ts) k) []) := by unfold btT; rw [eg]
    cases hc : HT.lexLt ts[k + 1] (ts.getD (argBest (btT ts) k) []) with
    | true =>
      rw [hc] at h eb
      have ea : argBest (btT ts) (k + 1) = k + 1 := by show (if btT ts (k + 1) (argBest (btT ts) k) = true then k + 1 else argBest (btT ts) k) = _; rw [eb]; rfl
      refine min_arg d (k + 1) (by omega) (by rw [ea]; exact hk) ?_
      rw [ea, eg]; exact h
    | false =>
      rw [hc] at h eb
      have ea : argBest (btT ts) (k + 1) = argBest (btT ts) k := by show (if btT ts (k + 1) (argBest (btT ts) k) = true then k + 1 else argBest (btT ts) k) = _; rw [eb]; rfl
      refine min_arg d (k + 1) (by omega) (by rw [ea]; exact hb) ?_
      rw [ea]; exact h
theorem min_ok {X : Cx} (hc : X.calm = true) (hu : X.A.units + 1 < cLine) : MinOk X := by
  intro pins s σ H us Q A B st a vs xs m I rv S ha R hio hok hmin hQ
  unfold okMn at hok
  rw [hio] at hok
  obtain ⟨ts, hts⟩ := Option.isSome_iff_exists.mp (show (tupsOf xs).isSome = true from hok)
  obtain rfl := tups_inv hts
  obtain ⟨u, rfl, ru⟩ := rv.one
  cases ru
  obtain ⟨its, r1, hl, hz⟩ := I.list (SqL.of ha)
  have hlt : a < s.heap.objs.size := hl.lt
  have len : its.length = ts.length := by rw [← r1.length, reps_len R, List.length_map]
  have hne : 0 < ts.length := by
    cases ts with
    | nil => cases hio
    | cons t ts => exact Nat.succ_pos _
  have elt : ∀ {i : Nat} {v : Value}, its.toArray[i]? = some v → ∃ (t : List Int) (b : Addr) (w : V), ts[i]? = some t ∧ vs[i]? = some w ∧ RelV w v ∧ w = .ref b ∧ H b = some (.tup (t.map V.int)) := fun {i v} hv => by
    have hv : its[i]? = some v := by simpa using hv
    have hi : i < ts.length := by rw [← len]; exact (List.getElem?_eq_some_iff.mp hv).1
    obtain ⟨w, hw, rw'⟩ := reps_get R (i := i) (p := tupP ts[i]) (by rw [List.getElem?_map, List.getElem?_eq_getElem hi]; rfl)
    obtain ⟨v', hv', r'⟩ := r1.get hw
    have : v' = v := Option.some.inj (hv'.symm.trans hv)
    subst this
    obtain ⟨b, ws, e, hb, R'⟩ := rep_tup rw'
    rw [reps_ints R' (ints_map _)] at hb
    exact ⟨ts[i], b, w, List.getElem?_eq_getElem hi, hw, r', e, hb⟩
  refine PySem.FWm.min_walkF (iter_anyList hl.isList fun s2 e st2 hfp hlI => ?_)
  subst e
  refine ⟨_, _, _, _, _, _, btT ts, fun s' => ∀ b o, s.heap.get? b = some o → s'.heap.get? b = some o, rfl, Walks.list (A := X.A.in1) (I.ok.hd hc) _ a hlI its.toArray, st2, hfp, by rw [List.size_toArray, len]; exact hne, fun s1 h' tk S' f hS k b o e => ?_, fun b o e => Heap.get?_push_of_some _ e, fun i j vi vj s' Q' E' fr hi hj q => ?_, fun v h' tk hP hk => ?_⟩
  · have hb : b < s.heap.objs.size := Heap.lt_size e
    refine k b o (fun z => ?_) (fun z => ?_) (f b o e)
    · have z' := List.mem_singleton.mp z
      rw [z'] at hb
      exact Nat.lt_irrefl _ hb
    · have q : s.heap.objs.size < S' := by
        have hS' : (s.heap.push { cls := .type "list_iterator", data := .fields #[.ref a, .int 0 0] }).objs.size ≤ S' := hS
        rw [Heap.size_push] at hS'
        exact hS'
      rw [z] at hb
      exact Nat.lt_asymm q hb
  · obtain ⟨t, b, w, g1, g2, g3, g4, g5⟩ := elt hi
    obtain ⟨t', b', w', k1, k2, k3, k4, k5⟩ := elt hj
    subst g4; subst k4
    cases (show vi = Value.ref b from g3)
    cases (show vj = Value.ref b' from k3)
    obtain ⟨i1, q1, p1, _⟩ := I.tuple (SqT.of g5)
    obtain ⟨i2, q2, p2, _⟩ := I.tuple (SqT.of k5)
    have ebt : btT ts i j = HT.lexLt t t' := by unfold btT; rw [List.getD_eq_getElem?_getD, List.getD_eq_getElem?_getD, g1, k1]; rfl
    rw [ebt] at q
    refine HT.lt_tupInts (A := X.A.in1) (E := E') ?_ ?_ (intsAre_of q1) (intsAre_of q2) (show X.A.units + 1 < cLine from hu) q
    · obtain ⟨o, e1, e2⟩ := p1; exact ⟨o, fr _ _ e1, e2⟩
    · obtain ⟨o, e1, e2⟩ := p2; exact ⟨o, fr _ _ e1, e2⟩
  · obtain ⟨t, b, w, g1, g2, g3, g4, g5⟩ := elt hP
    have ex : minBy pLt ((ts.drop 1).map tupP) (tupP (ts.getD 0 [])) = some m := by
      cases ts with
      | nil => cases hne
      | cons t0 ts => exact hmin
    obtain ⟨em, hb⟩ := min_arg (ts.length - 1) 0 (by omega) hne ex
    rw [List.size_toArray, len] at g1 g2
    have et : ts.getD (argBest (btT ts) (ts.length - 1)) [] = t := by rw [List.getD_eq_getElem?_getD, g1]; rfl
    rw [et] at em
    obtain ⟨w2, hw2, rw2⟩ := reps_get R (i := argBest (btT ts) (ts.length - 1)) (p := tupP t) (by rw [List.getElem?_map, g1]; rfl)
    have : w2 = w := Option.some.inj (hw2.symm.trans g2)
    subst this
    refine ⟨w2, H, I.kept (t' := tk) fun b o e => ?_, g3, hQ w2 (em ▸ rw2)⟩
    refine hk b o (fun z => ?_) (Heap.get?_push_of_some _ e)
    have h1 := List.mem_singleton.mp z
    have h2 : b < s.heap.objs.size := Heap.lt_size e
    rw [h1] at h2
    exact Nat.lt_irrefl _ h2
end FW

end

section
set_option Elab.async false
set_option linter.all false
set_option maxRecDepth 100000
/-! Fw26: a method that has the free name __class__. -/
namespace FW
open PySem PySem.Spec PyProof.Rows L2 NdefX
section
variable {CX : CXT} {pg : Program} {w : World} {K : PySem.W.Frag} {mg : Mg} {base : Heap} {N ps : List Str} {F : NF} {f cc D : Addr} {k : Nat} {sp : Sp} {dV kV doc pm ct oc : Value} {an od : Option Addr} {osl : Array (Option Value)}
/-- its object, its class cell, as they stand in the written part -/
structure CloK (K : PySem.W.Frag) (F : NF) (f cc D : Addr) (dV kV doc pm ct oc : Value) (an od : Option Addr) (osl : Array (Option Value)) : Prop where
  fn : K.lookup f = some ⟨oc, od, .func (PySem.W.fnX F.name F.qual F.params F.body F.scope F.cl dV kV doc pm an (.ref F.c) ct), osl⟩
  code : PySem.W.codeIn K (.ref F.c) F.qual = true
  cl : F.cl = [(("__class__" : Str), cc)]
  cell : ∃ o, K.lookup cc = some o ∧ o.data = .cell (some (.ref D))
theorem cells_at (Z : CloK K F f cc D dV kV doc pm ct oc an od osl) {A : Around} {outer : List Env} {s : Shared} {H : Hp} (e0 : Env0 pg w K mg base A outer s H) : CellsAt F.cl ["__class__"] [some (.ref D)] s.heap H := by
  obtain ⟨o, ho, hd⟩ := Z.cell
  have hb : base.get? cc = some o := e0.mod.kin _ _ ho
  obtain ⟨h1, h2⟩ := e0.bs _ _ hb
  refine ⟨rfl, fun y c h => ?_, fun x y c h1 h2 => ?_, fun i y h => ?_⟩
  · rw [Z.cl] at h
    rw [List.lookup_cons] at h
    split at h
    · cases h; exact ⟨h2, _, o, h1, hd⟩
    · cases h
  · rw [Z.cl, List.lookup_cons] at h1 h2
    split at h1
    · split at h2
      · rename_i q1 _ q2
        exact (eq_of_beq q1).trans (eq_of_beq q2).symm
      · cases h2
    · cases h1
  · cases i with
    | zero =>
      cases h
      refine ⟨cc, by rw [Z.cl]; rfl, fun v hv => ?_⟩
      cases hv
      exact ⟨.ref D, rfl, o, h1, hd⟩
    | succ i => cases h
/-- THE RULE for such a method -/
theorem fn_clo (Z : CloK K F f cc D dV kV doc pm ct oc an od osl) (S : NScope N ps ["__class__"] F.scope) (len : ∀ vs H Q E, sp vs H Q E → vs.length = ps.length)
    (hbody : ∀ (A : Around) (outer : List Env) (s : Shared) (H : Hp) (vs : List V) (Q : VK) (E : XK), Room k (A.deeper (envF F f s.heap.objs.size)) → sp vs H Q E →
      ∃ t, PSs (ncx CX pg w K mg base N F f A outer s H E) F.body t ∧ t { nx := fun _ H' => Q .non H', rt := Q } (startF N vs [some (.ref D)]) H) :
    FnOk pg w K mg base CX (k + 1) f (PySem.W.fnX F.name F.qual F.params F.body F.scope F.cl dV kV doc pm an (.ref F.c) ct) ps sp := by
  refine ⟨len, fun A outer s H args us vs Q E hr e0 hb r hsp => ?_⟩
  have hl := len _ _ _ _ hsp
  have KX : K.In s.heap := e0.mod.kin.keeps fun b o e => (e0.bs b o e).1
  have lim : s.heap.NoLimit := e0.mod.nolimit.keeps fun b o e => (e0.bs b o e).1
  refine codeAny_call_function hr.depth (KX _ _ Z.fn) rfl S.co S.gen rfl (PySem.W.codeRec_of KX Z.code) (hb _ _ _ _ (wpAny_newFunctionEnv S.nocell (fun ⟨n, _⟩ hy => S.par n (List.of_mem_zip hy).1) (fun h1 hns hsb => ⟨lim.fresh _ hsb, ?_⟩) S.kind))
  show codeAny (model pg w) _ (.func F.body (envF F f s.heap.objs.size)) _ _
  have kp : ∀ b o, s.heap.get? b = some o → h1.get? b = some o := fun b o e => hsb.extBut b o (Nat.ne_of_lt (Heap.lt_size e)) (Heap.get?_push_of_some _ e)
  obtain ⟨t, ht, hq⟩ := hbody A outer s H vs Q E (hr.deeper _) hsp
  have I : Inv (ncx CX pg w K mg base N F f A outer s H E) [] (startF N vs [some (.ref D)]) H { s with heap := h1, toks := s.toks + (ps.zip us).length } := inv_startN S hr.hd e0 hl r (cells_at Z e0) hns kp
  refine codeAny_func (wpAny_mono (ht.run [] _ _ H _ I hq) (fun fl s' hs => ?_) fun e s' hs => hs)
  cases fl with
  | ret u => obtain ⟨v, σ', H', J, rv, q⟩ := hs; exact ⟨v, H', J.os, J.bare, J.base, J.hok, rv, q⟩
  | next => obtain ⟨σ', H', J, q⟩ := hs; exact ⟨.non, H', J.os, J.bare, J.base, J.hok, rfl, q⟩
  | brk => obtain ⟨_, _, _, q⟩ := hs; exact False.elim q
  | cont => obtain ⟨_, _, _, q⟩ := hs; exact False.elim q
end
end FW

end

section
set_option Elab.async false
set_option linter.all false
set_option maxRecDepth 100000
/-! Fw27: super().__init__(e) in an own exception over ValueError. -/
namespace FW
open PySem PySem.Spec PyProof.Rows L2 NdefX PySem.W
section
variable {X : Cx} {pins : List (Addr × Obj)} {σ : L2.St} {H : Hp} {s : Shared} {a C u : Addr} {E : Value → Shared → Prop} {A : Around}
/-- the method-wrapper is called -/
theorem call_mw {us : List Value} {Q : Value → Shared → Prop} (T : OexC X.K C) (I : Inv X pins σ H s) (e : H a = some (exo a C none)) (hu : s.heap.get? u = some (kxs_mw "ValueError.__init__" a)) (hl : us.length ≤ sizeLine) (h : ∀ s', Inv X pins σ H s' → Q .none s') :
    wpAny (model X.prog X.w) A (call (.ref u) us) Q E s := by
  obtain ⟨nm, q, N, bs, bm, sn, sub, ab, col, dd, k0, k1, k2, k3, k5, hC, hbm⟩ := T.cls
  obtain ⟨t1, ho⟩ := exo_at I.hok e
  have hCs := I.kIn _ _ hC
  obtain ⟨hp, g, d, t, os⟩ := s
  have fin : ∀ h', (∀ b o, b ≠ a → hp.get? b = some o → h'.get? b = some o) → (∃ t2 : Addr, h'.get? a = some ({ cls := .ref C, dict := none, data := .fields #[.ref t2, .none, .none, .none, .bool false, .none] } : Obj)) → Q .none ⟨h', g, d, t, os⟩ := fun h' k ⟨t2, hx⟩ => by
    have J := I.write (t' := t) (x := a) (e := a) (o := exo a C none) (by rw [e]; exact True.intro) (.inl rfl) k ⟨_, hx⟩ (exo_ok hx)
    have eu : upd H a (exo a C none) = H := by
      funext b
      by_cases hb : b = a
      · rw [hb, upd_same, e]
      · rw [upd_ne hb]
    rw [eu] at J
    exact h _ J
  refine wpAny_call (codeAny_of_tree ?_)
  show wpAny _ A.in1 (callAny (.ref u) ⟨us, []⟩) _ _ _
  simp only [callAny]
  refine wpAny_bind (wpAny_load hu ?_)
  simp only [kxs_mw, show (Value.type "method-wrapper" == Value.type "method" || Value.type "method-wrapper" == Value.type "builtin_function_or_method" || Value.type "method-wrapper" == Value.type "method-wrapper") = true by decide, if_true]
  refine KFB.if_so (by decide) ?_
  refine wpAny_bind (check_bound_init F.excBase_ValueError.toExcCallFacts hCs ho rfl (wpAny_bind (wpAny_pure (wpAny_pure ?_))))
  refine ⟨plainId_quiet F.excBase_ValueError.init.plain _, codeAny_builtin F.excBase_ValueError.initEntry ?_⟩
  exact exc_init_tree (cls := .ref C) (t0 := t1) (dv := none) (c2 := .none) (c3 := .none) (b4 := .bool false) ho hl fun h' k e' t' => fin h' k ⟨_, e'⟩
end
end FW

end

section
set_option Elab.async false
set_option linter.all false
set_option maxRecDepth 100000
/-! Fw28: super().__init__('..') within the method. -/
namespace FW
open PySem PySem.Spec PyProof.Rows L2 NdefX PySem.W
/-- what the written part says of super() for an instance of C in a method of D -/
structure SupK (K : PySem.W.Frag) (C D : Addr) : Prop where
  any : nsIn K cStatics "thirdparty.any" = some none
  sup : ks_superIn K C D "__init__" = some (some (.builtin "ValueError.__init__"))
  ve : subIn K (.ref C) (.type "ValueError") = some true
  sub : subIn K (.ref C) (.ref D) = some true
  cls : (clsIn K D).isSome = true
/-- the frame's own words: the function, its code, the file -/
structure SupE (X : Cx) (sf : Str) : Prop where
  sup : X.env.kindOf "super" = some .globalImplicit
  cls : X.env.kindOf "__class__" = some .free
  kd : X.env.scope.kind = .function
  ks : X.env.kindOf sf = some .local
  mg : X.mg "super" = none
  fn : ∃ (f : Addr) (of : Obj) (fd : FuncData) (ar : Arg), X.env.func = some f ∧ X.K.lookup f = some of ∧ of.data = .func fd ∧ (fd.params.posonlyargs ++ fd.params.args).head? = some ar ∧ ar.arg = sf
  code : ∃ (cc : Addr) (oc : Obj) (vs : Array Value) (file : Str) (tf : Tok), X.env.code = .ref cc ∧ X.K.lookup cc = some oc ∧ oc.data = .fields vs ∧ vs[2]? = some (.str file tf) ∧ ((X.prog.main.file : Str) == file) = true
  top : (X.prog.main.scope.names.lookup ("super" : Str)).isSome = false
section
variable {X : Cx} {pins : List (Addr × Obj)} {σ : L2.St} {H : Hp} {s : Shared} {a C D : Addr}
theorem load_slot {E : Value → Shared → Prop} {Q : Value → Shared → Prop} {i : Nat} {x : Str} {v : V} (I : Inv X pins σ H s) (hk : X.env.scope.kind = .function) (hN : X.N[i]? = some x) (hσ : σ[i]? = some (some v)) (hx : X.env.kindOf x = some .local ∨ X.env.kindOf x = some .free) (hcd : (x == ("__classdict__" : Str)) = false)
    (h : ∀ u, RelV v u → Q u s) : wpAny (model X.prog X.w) X.A (loadName X.env x) Q E s := by
  obtain ⟨m, hn, hl⟩ := I.loc
  have vis : Vis X.env.scope x := hx.elim (fun z => .inl z) fun z => .inr (.inr z)
  obtain ⟨u, r, l⟩ := hl i x v hN hσ vis
  rcases l with ⟨h1, h2⟩ | ⟨h1, c, h2, h3⟩
  · exact wpAny_loadName_local hk h1 hn h2 (h u r)
  · rcases h1 with h1 | h1
    · exact wpAny_loadName_cell hk h1 h2 h3 (h u r)
    · exact wpAny_loadName_free hk h1 h2 h3 (h u r) hcd
theorem sup_at {body : List Stmt} {p0 p1 p2 p3 p4 : Pos} {m sf : Str} {j ic is : Nat} {pl : Sem Bool} {Q : Value → Shared → Prop} (T : OexC X.K C) (SK : SupK X.K C D) (SE : SupE X sf) (I : Inv X pins σ H s) (e : H a = some (exo a C none))
    (hNs : X.N[is]? = some sf) (hs : σ[is]? = some (some (.ref a))) (hNc : X.N[ic]? = some ("__class__" : Str)) (hc : σ[ic]? = some (some (.ref D))) (hself : (sf == ("__classdict__" : Str)) = false) (h : ∀ s', Inv X pins σ H s' → Q .none s')
    (he : eval (.Call (.Attribute (.Call (.Name "super" p0) [] [] p1) "__init__" p2) [.Constant (.str m) j p4] [] p3) X.env = (do
      let ov ← attributeBase (.Call (.Name "super" p0) [] [] p1) "__init__" X.env (eval (.Call (.Name "super" p0) [] [] p1) X.env)
      standAt p2.atName
      let (f, first) ← holding [ov] (getMethod ov "__init__" pl)
      callWith p3 f first (backTo p3 (starEach [.Constant (.str m) j p4] X.env)) [])) :
    PySem.wpAt (model X.prog X.w) X.A (.func body X.env) (eval (.Call (.Attribute (.Call (.Name "super" p0) [] [] p1) "__init__" p2) [.Constant (.str m) j p4] [] p3) X.env) Q X.xe s := by
  obtain ⟨f, of, fd, ar, f1, f2, f3, f4, f5⟩ := SE.fn
  obtain ⟨cc, oc, vs, file, tf, c1, c2, c3, c4, c5⟩ := SE.code
  have KX := I.kIn
  have kS : ∀ {t : Nat} {Q : Value → Shared → Prop}, Q (.type "super") s → wpAny (model X.prog X.w) X.A (loadName X.env "super") Q X.xe s := fun {t Q} q => by
    obtain ⟨mb, h1, h2⟩ := I.mod.blt
    unfold loadName
    simp only [Env.blockKind, SE.kd, SE.sup, ScopeKind.isAnnotationScope, Bool.false_and, Bool.false_eq_true, if_false]
    exact Calls.loadGlobal_builtin (by rw [I.ok.glob]; exact I.mod.glob.keeps I.bk) SE.mg (by rw [I.ok.blt]; exact h1.keeps I.bk) ((h2 "super" (by decide)).trans rfl) q
  obtain ⟨t1, ho⟩ := exo_at I.hok e
  obtain ⟨cdD, hcD⟩ := Option.isSome_iff_exists.mp SK.cls
  have hD : ∃ oD, s.heap.get? D = some oD ∧ oD.data = .cls cdD := by
    unfold clsIn at hcD
    split at hcD
    · rename_i hk
      cases hcD
      exact ⟨_, KX _ _ hk, rfl⟩
    · cases hcD
  obtain ⟨oD, hD, hDd⟩ := hD
  have aC : a ≠ C := fun z => by
    obtain ⟨nm, q, N, bs, bm, sn, sub, ab, col, dd, k0, k1, k2, k3, k5, hC, hbm⟩ := T.cls
    have z1 := KX _ _ hC
    rw [← z, ho] at z1
    cases z1
  refine ks_wpAt_MethodCall (ks_wpAt_super_base SE.sup SE.cls (by decide) f1 (KX _ _ f2) f3 f4 c1 (KX _ _ c2) c3 c4 c5 SE.top (kS (t := 0) ⟨rfl, ?_⟩)) he
  refine load_slot I SE.kd hNc hc (.inr SE.cls) (by decide) fun u ru => ?_
  obtain rfl : u = Value.ref D := ru
  rw [f5]
  refine load_slot I SE.kd hNs hs (.inl SE.ks) hself fun u ru => ?_
  obtain rfl : u = Value.ref a := ru
  obtain ⟨hp, g, d, t, os⟩ := s
  refine ks_wpAny_isType_cls hD hDd ⟨rfl, ?_⟩
  refine ks_wpAny_call_super hD hDd ho rfl (fun c z => nomatch z) (looks_subIn KX SK.sub) fun h2 hso k2 => ?_
  have I2 : Inv X pins σ H ⟨h2, g, d, t, os⟩ := I.kept (t' := t) k2
  have KX2 : X.K.In h2 := I2.kIn
  have ho2 := k2 _ _ ho
  have hm := SK.sup
  obtain ⟨cd, hcC⟩ : ∃ cd, clsIn X.K C = some cd := by
    cases q : clsIn X.K C with
    | none => unfold ks_superIn at hm; rw [q] at hm; cases hm
    | some cd => exact ⟨cd, rfl⟩
  unfold ks_superIn at hm
  rw [hcC] at hm
  have hI : Looks (model X.prog X.w) h2 (isInstance (.ref a) (.type "ValueError")) true := by
    have J : InstAt h2 a _ C none := ⟨ho2, rfl, rfl, trivial⟩
    exact J.type.andThen (looks_subIn KX2 SK.ve)
  refine kxs_getMethod kxs_ValueError hso (looks_opaque KX2 SK.any) (l₀ := cd.mro) (fun A Q E s k q => wpAny_bind ((looks_clsIn KX2 hcC) A _ E s k (wpAny_pure q))) rfl KX2 hm hI aC (by decide) ?_
  have kp : ∀ b o, h2.get? b = some o → (h2.push (kxs_mw "ValueError.__init__" a)).get? b = some o := fun b o e => Heap.get?_push_of_some _ e
  have I3 : Inv X pins σ H ⟨h2.push (kxs_mw "ValueError.__init__" a), g, d, t + 1, os⟩ := I2.kept (t' := t + 1) kp
  refine kxs_callWith (i := "ValueError.__init__") (x := a) rfl (Calls.evalArgs_plain ?_)
  refine Calls.spliced_cons (Calls.Constant_str (k := j) (pos := p4) (Calls.spliced_nil ⟨?_, ?_⟩))
  · exact Heap.get?_push_at rfl rfl
  · exact call_mw (us := [.str m (t + 1)]) T (I3.tok (t + 2)) e (Heap.get?_push_at rfl rfl) (show 1 ≤ sizeLine by decide) h
end
end FW

end

section
set_option Elab.async false
set_option linter.all false
set_option maxRecDepth 100000
/-! Fw29: an own __init__: super().__init__('..'); self.f = x. -/
namespace FW
open PySem PySem.Spec PyProof.Rows L2 NdefX PySem.W
section
variable {CX : CXT} {pg : Program} {w : World} {K : PySem.W.Frag} {mg : Mg} {base : Heap} {sf pf : Str} {F : NF} {f cc D : Addr} {k : Nat} {dV kV doc pm ct oc : Value} {an od : Option Addr} {osl : Array (Option Value)}
/-- its promise: the field is set -/
def iniSp (K : PySem.W.Frag) (D : Addr) (fld : Str) : Sp := fun vs H Q _ => ∃ (a C : Addr) (y : V), vs = [.ref a, y] ∧ H a = some (exo a C none) ∧ OexC K C ∧ SupK K C D ∧ PySem.W.findIn K (.ref C) fld = some none ∧
  ∀ dx, H dx = none → dx ≠ a → Q .non (upd (upd H dx (exd dx [(fld, y)])) a (exo a C (some dx)))
theorem fn_ini {p0 p1 p2 p3 p4 p5 q1 q2 q3 q4 : Pos} {m fld : Str} {j : Nat} {pl : Sem Bool} (Z : CloK K F f cc D dV kV doc pm ct oc an od osl) (S : NScope [sf, pf, "__class__"] [sf, pf] ["__class__"] F.scope)
    (hbd : F.body = [.Expr (.Call (.Attribute (.Call (.Name "super" p0) [] [] p1) "__init__" p2) [.Constant (.str m) j p4] [] p3) p5, .Assign [.Attribute (.Name sf q1) fld q2] (.Name pf q3) q4])
    (SE : ∀ (A : Around) (outer : List Env) (s : Shared) (H : Hp) (E : XK), SupE (ncx CX pg w K mg base [sf, pf, "__class__"] F f A outer s H E) sf)
    (hsf : (sf == ("__debug__" : Str)) = false ∧ (sf == ("__classdict__" : Str)) = false) (hpf : (pf == ("__debug__" : Str)) = false ∧ (pf == ("__classdict__" : Str)) = false)
    (he : ∀ L : Addr, eval (.Call (.Attribute (.Call (.Name "super" p0) [] [] p1) "__init__" p2) [.Constant (.str m) j p4] [] p3) (envF F f L) = (do
      let ov ← attributeBase (.Call (.Name "super" p0) [] [] p1) "__init__" (envF F f L) (eval (.Call (.Name "super" p0) [] [] p1) (envF F f L))
      standAt p2.atName
      let (g, first) ← holding [ov] (getMethod ov "__init__" pl)
      callWith p3 g first (backTo p3 (starEach [.Constant (.str m) j p4] (envF F f L))) [])) :
    FnOk pg w K mg base CX (k + 1) f (PySem.W.fnX F.name F.qual F.params F.body F.scope F.cl dV kV doc pm an (.ref F.c) ct) [sf, pf] (iniSp K D fld) := by
  refine ⟨fun vs H Q E h => ?_, fun A outer s H args us vs Q E hr e0 hb r hsp => ?_⟩
  · obtain ⟨a, C, y, e, _⟩ := h
    rw [e]; rfl
  obtain ⟨a, C, y, ev, ea, T, SK, hno, hq⟩ := hsp
  subst ev
  have KX : K.In s.heap := e0.mod.kin.keeps fun b o e => (e0.bs b o e).1
  have lim : s.heap.NoLimit := e0.mod.nolimit.keeps fun b o e => (e0.bs b o e).1
  refine codeAny_call_function hr.depth (KX _ _ Z.fn) rfl S.co S.gen rfl (PySem.W.codeRec_of KX Z.code) (hb _ _ _ _ (wpAny_newFunctionEnv S.nocell (fun ⟨n, _⟩ hy => S.par n (List.of_mem_zip hy).1) (fun h1 hns hsb => ⟨lim.fresh _ hsb, ?_⟩) S.kind))
  show codeAny (model pg w) _ (.func F.body (envF F f s.heap.objs.size)) _ _
  have kp : ∀ b o, s.heap.get? b = some o → h1.get? b = some o := fun b o e => hsb.extBut b o (Nat.ne_of_lt (Heap.lt_size e)) (Heap.get?_push_of_some _ e)
  have I : Inv (ncx CX pg w K mg base [sf, pf, "__class__"] F f A outer s H E) [] (startF [sf, pf, "__class__"] [.ref a, y] [some (.ref D)]) H { s with heap := h1, toks := s.toks + ([sf, pf].zip us).length } := inv_startN S hr.hd e0 rfl r (cells_at Z e0) hns kp
  have hself : PE (ncx CX pg w K mg base [sf, pf, "__class__"] F f A outer s H E) (.Name sf q1) (tVar 0) := pe_var rfl (.inl (S.par sf (by simp))) hsf.1 hsf.2
  have hpart : PE (ncx CX pg w K mg base [sf, pf, "__class__"] F f A outer s H E) (.Name pf q3) (tVar 1) := pe_var rfl (.inl (S.par pf (by simp))) hpf.1 hpf.2
  have rest := pss_one (ps_ost (f := fld) (p' := q2) (pos := q4) hself hpart)
  have hint : interactive (envF F f s.heap.objs.size) = false := by
    unfold interactive
    simp [S.kind]
  refine ks_codeAny_funcAt ?_
  rw [hbd]
  refine ks_wpAt_execs_cons (ks_wpAt_Expr_any (sup_at (X := ncx CX pg w K mg base [sf, pf, "__class__"] F f A outer s H E) (is := 0) (ic := 2) T SK (SE A outer s H E) I ea rfl rfl rfl rfl hsf.2 (fun s2 I2 => ?_) (he _)) hint rfl)
  refine wpAt_of_wpAny (wpAny_mono (rest.run [] s2 _ H { nx := fun _ H' => Q .non H', rt := Q } I2 ⟨y, rfl, .ref a, rfl, a, C, rfl, T, hno, .inl ⟨ea, hq⟩⟩) (fun fl s' hs => ?_) fun e s' hs => hs)
  cases fl with
  | ret u => obtain ⟨v, σ', H', J, rv, q⟩ := hs; exact ⟨v, H', J.os, J.bare, J.base, J.hok, rv, q⟩
  | next => obtain ⟨σ', H', J, q⟩ := hs; exact ⟨.non, H', J.os, J.bare, J.base, J.hok, rfl, q⟩
  | brk => obtain ⟨_, _, _, q⟩ := hs; exact False.elim q
  | cont => obtain ⟨_, _, _, q⟩ := hs; exact False.elim q
end
end FW

end

section
set_option Elab.async false
set_option linter.all false
set_option maxRecDepth 100000
/-! Fw30: such an exception raised. -/
namespace FW
open PySem PySem.Spec PyProof.Rows L2 NdefX
variable [Tb]
/-- a class of exceptions, as a raise must know it -/
structure RsE (pg : Program) (w : World) (K : PySem.W.Frag) (mg : Mg) (base : Heap) (k : Nat) (cl fld : String) : Prop where
  ex : ∃ (C D fI : Addr) (fd : FuncData) (sf pf : Str), mg (cl : Str) = some (.ref C) ∧ OexC K C ∧ SupK K C D ∧ PySem.W.findIn K (.ref C) (fld : Str) = some none ∧ PySem.W.findIn K (.ref C) "__init__" = some (some (.ref fI)) ∧ PySem.W.typeIn K (.ref fI) = some (.type "function") ∧
    FnOk pg w K mg base (L2.CX pg w) k fI fd [sf, pf] (iniSp K D (fld : Str)) ∧ Binds K fd [sf, pf] []
theorem raise_ok {X : Cx} {k : Nat} {cl fld : String} (R : RsE X.prog X.w X.K X.mg X.base k cl fld) (hc : X.calm = true) (hr : Room (k + 1) X.A) : RaiseR X cl (mkX cl fld) := by
  intro Ek p pos pos' e fs tk ha hn hg hdb
  obtain ⟨C, D, fI, fd, sf, pf, hm, T, SK, hno, iC, tI, G, hb⟩ := R.ex
  refine (ps_raise hc tk (pmk_oex T iC tI G hr hb .nil passes_no hg hm ha hdb (star_cons hn) rfl)).weak fun Dd σ H h => ?_
  obtain ⟨A, B, ρ, s, S, L, O⟩ := h
  refine ⟨A, B, ρ, s, S, L, O.bnd.imp fun A1 B1 H1 s1 ps x1 S1 O1 vs rv => ?_⟩
  have O1 : OutS X.mg (wE Ek) Dd A1 B1 H1 (bnd (rsF (mkX cl fld) ps) (fun x => fun s => .exn x s) s1) := O1
  by_cases hn1 : noLobs ps = true
  · have hps : ∃ q, ps = [q] ∧ noLob q = true := by
      cases ps with
      | nil => unfold rsF callF at O1; simp [noLobs, mkX, bnd] at O1; exact O1.elim
      | cons q r =>
        cases r with
        | nil => exact ⟨q, rfl, (Bool.and_eq_true_iff.mp hn1).1⟩
        | cons q2 r =>
          have : rsF (mkX cl fld) (q :: q2 :: r) s1 = .bad := by
            unfold rsF; rw [if_pos hn1]; unfold callF; rw [if_pos hn1]; rfl
          rw [bnd_bad this] at O1; exact O1.elim
    obtain ⟨q, rfl, hq⟩ := hps
    have er : rsF (mkX cl fld) [q] s1 = .ok (.exc cl [(fld, q)]) s1 := by
      unfold rsF; rw [if_pos hn1]; unfold callF; rw [if_pos hn1]
      have : mkX cl fld [q] s1.g = .ok (.exc cl [(fld, q)]) s1.g := by unfold mkX; dsimp only; rw [if_pos hq]
      rw [this]
    rw [bnd_ok er] at O1
    obtain ⟨y, ev, ry⟩ := reps_one rv
    subst ev
    refine ⟨show 1 ≤ 1000 by decide, fun a hna => ⟨a, C, y, rfl, upd_same, T, SK, hno, fun dx hdx hne => ⟨rfl, dx, [((fld : Str), y)], upd_same, ?_, ?_, ?_⟩⟩⟩
    · rw [upd_ne hne, upd_same]
    · rw [upd_ne hne] at hdx; exact hdx
    · have hd1 : H1 dx = none := by rw [upd_ne hne] at hdx; exact hdx
      have eh : upd (del (upd (upd (upd H1 a (exo a C none)) dx (exd dx [((fld : Str), y)])) a (exo a C (some dx))) a) dx (.xd [((fld : Str), y)]) = upd H1 dx (.xd [((fld : Str), y)]) := by
        funext b
        by_cases h1 : b = dx
        · subst h1; rw [upd_same, upd_same]
        · rw [upd_ne h1, upd_ne h1]
          by_cases h2 : b = a
          · subst h2; rw [del_same, hna]
          · rw [del_ne h2, upd_ne h2, upd_ne h1, upd_ne h2]
      rw [eh]
      have xx : Ext A1 B1 H1 A1 B1 (upd H1 dx (.xd [((fld : Str), y)])) := ext_new S1.bt hd1
      refine O1 A1 B1 _ xx (sto_new S1 hd1) (.ref C) (some dx) ⟨cl, [(fld, q)], C, rfl, rfl, hm, .inr ⟨dx, [((fld : Str), y)], rfl, upd_same, nb_new S1.bt hd1, ?_⟩⟩ σ
      simp only [RepF]
      exact ⟨y, [], rfl, ry.mono xx S1.own, rfl⟩
  · have : rsF (mkX cl fld) ps s1 = .bad := by unfold rsF; rw [if_neg hn1]; rfl
    rw [bnd_bad this] at O1; exact O1.elim
end FW

end

section
set_option Elab.async false
set_option linter.all false
set_option maxRecDepth 100000
/-! Fw31: what the head tells of a program: a Boolean over the written part, the defs. -/
namespace FW
open PySem PySem.Spec PyProof.Rows L2 NdefX
abbrev gaS (K : PySem.W.Frag) (x : String) : Addr := He.ga K (x : Str)
/-- a program's classes, names -/
structure Pd where
  ins : List String
  exs : List (String × Option (String × String))
  att : List String
  prp : List (String × String)
  glo : List String
  con : List (String × P)
  ds : List (String × List P)
  ks : List (String × List (List String × List Nat))
def Pd.all (p : Pd) : List String := p.ins ++ p.exs.map (·.1)
def Pd.exn (p : Pd) : List String := p.exs.map (·.1)
/-! ### single facts -/
def gloB (K : PySem.W.Frag) (x : String) : Bool := (He.Fa.glo (x : Str)).ok K
def freeB (K : PySem.W.Frag) (x : String) : Bool := (He.Fa.free (x : Str)).ok K
def conB1 (K : PySem.W.Frag) (q : String × P) : Bool := match q.2 with
  | .int i => (He.Fa.int (q.1 : Str) i).ok K
  | .str z => (He.Fa.str (q.1 : Str) z).ok K
  | .cls c => decide (c = q.1) && gloB K q.1
  | .fn c => decide (c = q.1) && gloB K q.1
  | _ => false
def insB (K : PySem.W.Frag) (c : String) : Bool := (He.Fa.cls (c : Str)).ok K && He.eqO (PySem.W.findIn K (.ref (gaS K c)) "__class__") (some (some (.builtin "object.__class__"))) && decide (PySem.W.mroIn K (gaS K c) (.type "object") = some true)
def excB (K : PySem.W.Frag) (C : Addr) : Bool :=
  He.eqO (PySem.W.findIn K (.ref C) "__getattribute__") (some (some (.builtin "BaseException.__getattribute__"))) && He.eqO (PySem.W.findIn K (.ref C) "__getattr__") (some none) && decide (PySem.W.subIn K (.ref C) (.type "BaseException") = some true) && PySem.W.hasDictIn K C &&
  He.eqO (PySem.W.findIn K (.ref C) "__class__") (some (some (.builtin "object.__class__"))) && decide (PySem.W.mroIn K C (.type "object") = some true)
def objB (K : PySem.W.Frag) : Bool := He.eqO (PySem.W.specialIn K (.builtin "object.__class__") "__get__") (some (some (.builtin "getset_descriptor.__get__"))) && decide (PySem.W.takesIn K (.builtin "object.__class__") = some true)
def oexB (K : PySem.W.Frag) (C : Addr) : Bool := (match K.lookup C with
  | some ⟨.type "type", _, .cls cd, sl⟩ => (match cd.mro, sl.toList with
    | .ref C' :: bm, [_, _, _, _, some (.builtin n), _] => decide (C' = C) && decide (n = "ValueError.__new__") && cd.hasDict && !cd.hasDel && PySem.HandSPX.refsVE bm
    | _, _ => false)
  | _ => false) && He.eqO (PySem.W.findIn K (.ref C) "__setattr__") (some (some (.builtin "object.__setattr__"))) && decide (PySem.W.subIn K (.ref C) (.type "BaseException") = some true) && decide (PySem.W.typeIn K (.ref C) = some (.type "type")) && PySem.W.keepIn K (.ref C)
theorem oex_ok {K : PySem.W.Frag} {C : Addr} (h : oexB K C = true) : OexC K C := by
  unfold oexB at h
  rw [Bool.and_eq_true, Bool.and_eq_true, Bool.and_eq_true, Bool.and_eq_true] at h
  obtain ⟨⟨⟨⟨h1, h2⟩, h3⟩, h4⟩, h5⟩ := h
  refine ⟨?_, He.eqO_ok h2, of_decide_eq_true h3, of_decide_eq_true h4, h5⟩
  split at h1
  · rename_i dd cd sl ho
    split at h1
    · rename_i C' bm k0 k1 k2 k3 n k5 hm hs
      simp only [Bool.and_eq_true, decide_eq_true_eq, Bool.not_eq_true'] at h1
      obtain ⟨⟨⟨⟨rfl, rfl⟩, hdi⟩, hdel⟩, ht⟩ := h1
      obtain ⟨nm, bs, mro, ns, qn, hd, sn, sub, ab, col, del⟩ := cd
      dsimp only at hm hdel hdi
      subst hm hdel hdi
      have hsl : sl = #[k0, k1, k2, k3, some (.builtin "ValueError.__new__"), k5] := by
        obtain ⟨l⟩ := sl
        simp only at hs
        rw [hs]
      subst hsl
      exact ⟨nm, qn, ns, bs, bm, sn, sub, ab, col, dd, k0, k1, k2, k3, k5, ho, ht⟩
    · cases h1
  · cases h1
def supB (K : PySem.W.Frag) (C D : Addr) : Bool := He.eqO (PySem.W.nsIn K cStatics "thirdparty.any") (some none) && decide (PySem.W.ks_superIn K C D "__init__" = some (some (.builtin "ValueError.__init__"))) && decide (PySem.W.subIn K (.ref C) (.type "ValueError") = some true) &&
  decide (PySem.W.subIn K (.ref C) (.ref D) = some true) && (PySem.W.clsIn K D).isSome
theorem sup_ok {K : PySem.W.Frag} {C D : Addr} (h : supB K C D = true) : SupK K C D := by
  unfold supB at h
  rw [Bool.and_eq_true, Bool.and_eq_true, Bool.and_eq_true, Bool.and_eq_true] at h
  obtain ⟨⟨⟨⟨h1, h2⟩, h3⟩, h4⟩, h5⟩ := h
  exact ⟨He.eqO_ok h1, of_decide_eq_true h2, of_decide_eq_true h3, of_decide_eq_true h4, h5⟩
/-- where a function stands: a global, a method, a property's getter -/
inductive Plc where | glo (x : String) | meth (c m : String) | get (c m : String)
def getterOf (K : PySem.W.Frag) (p : Addr) : Addr := match PySem.W.recIn K p "property" with
  | some (.ref g :: _) => g
  | _ => 0
def maS (K : PySem.W.Frag) (c m : String) : Addr := He.ma K (gaS K c) (m : Str)
def Plc.ad (K : PySem.W.Frag) : Plc → Addr
  | .glo x => gaS K x
  | .meth c m => maS K c m
  | .get c m => getterOf K (maS K c m)
def rsB (K : PySem.W.Frag) (e : String × Option (String × String)) : Bool := match e.2 with
  | none => true
  | some (D, fld) => oexB K (gaS K e.1) && supB K (gaS K e.1) (gaS K D) && He.eqO (PySem.W.findIn K (.ref (gaS K e.1)) (fld : Str)) (some none) && He.eqO (PySem.W.findIn K (.ref (gaS K e.1)) "__init__") (some (some (.ref (maS K D "__init__")))) && decide (PySem.W.typeIn K (.ref (maS K D "__init__")) = some (.type "function"))
def prpB (K : PySem.W.Frag) (q : String × String) : Bool := He.eqO (PySem.W.findIn K (.ref (gaS K q.1)) (q.2 : Str)) (some (some (.ref (maS K q.1 q.2)))) && He.eqO (PySem.W.specialIn K (.ref (maS K q.1 q.2)) "__get__") (some (some (.builtin "property.__get__"))) && decide (PySem.W.takesIn K (.ref (maS K q.1 q.2)) = some true) &&
  (match PySem.W.recIn K (maS K q.1 q.2) "property" with
    | some (.ref _ :: _) => true
    | _ => false)
theorem prp_ok {K : PySem.W.Frag} {q : String × String} (h : prpB K q = true) : PropOf K (gaS K q.1) (q.2 : Str) (maS K q.1 q.2) (Plc.ad K (.get q.1 q.2)) := by
  unfold prpB at h
  rw [Bool.and_eq_true, Bool.and_eq_true, Bool.and_eq_true] at h
  obtain ⟨⟨⟨h1, h2⟩, h3⟩, h4⟩ := h
  refine ⟨He.eqO_ok h1, He.eqO_ok h2, of_decide_eq_true h3, ?_⟩
  split at h4
  · rename_i g rest e
    refine ⟨rest, ?_⟩
    show _ = some (.ref (getterOf K (maS K q.1 q.2)) :: rest)
    unfold getterOf
    rw [e]
  · cases h4
def nattB (K : PySem.W.Frag) (c f : String) : Bool := He.eqO (PySem.W.findIn K (.ref (gaS K c)) (f : Str)) (some none)
/-- all of it -/
def Pd.ok (p : Pd) (caus : Bool) (K : PySem.W.Frag) : Bool :=
  p.glo.all (gloB K) && bnames.all (freeB K) && freeB K "super" && p.con.all (conB1 K) && p.all.all (gloB K) &&
  p.ins.all (insB K) && objB K && p.exs.all (fun e => excB K (gaS K e.1)) &&
  p.all.all (fun d => p.all.all fun e => decide (PySem.W.kitOne K (.ref (gaS K d)) (.ref (gaS K e)) = some (uSub d e))) &&
  bnm.all (fun n => p.all.all fun e => decide (PySem.W.kitOne K (.type n) (.ref (gaS K e)) = some false)) &&
  p.exs.all (rsB K) && p.prp.all (prpB K) && p.ins.all (fun c => p.att.all fun f => p.prp.contains (c, f) || nattB K c f) && p.exs.all (fun e => p.att.all fun f => nattB K e.1 f) && p.ins.all (fun c => (He.Fa.mkr (c : Str)).ok K) &&
  uIns.all (fun c => p.ins.contains c || freeB K c) && uExn.all (fun c => p.exn.contains c || freeB K c) &&
  (!caus || p.exs.all fun e => !uSub e.1 "StackError" || decide (PySem.W.exmOne K (.ref (gaS K e.1)) (.ref (gaS K "StackError")) = some true))
structure PdK (p : Pd) (caus : Bool) (K : PySem.W.Frag) (mg : Mg) : Prop where
  glo : ∀ x ∈ p.glo, mg (x : Str) = some (.ref (gaS K x))
  fre : ∀ n, bnames.contains n = true → mg (n : Str) = none
  sup : mg "super" = none
  con : ∀ Y : Cx, Y.mg = mg → ∀ q ∈ p.con, GloV Y (q.1 : Str) q.2
  cls : ∀ x ∈ p.all, mg (x : Str) = some (.ref (gaS K x))
  isi : ∀ Φ : Fenv, Φ.cls = uIns → Φ.exc = uExn → Φ.sub = uSub → IsiK K mg Φ
  uni : ∀ c, uIns.contains c = true → c ∈ p.ins ∨ mg (c : Str) = none
  unx : ∀ c, uExn.contains c = true → c ∈ p.exn ∨ mg (c : Str) = none
  rs : ∀ c D fld, (c, some (D, fld)) ∈ p.exs → OexC K (gaS K c) ∧ SupK K (gaS K c) (gaS K D) ∧ PySem.W.findIn K (.ref (gaS K c)) (fld : Str) = some none ∧ PySem.W.findIn K (.ref (gaS K c)) "__init__" = some (some (.ref (maS K D "__init__"))) ∧ PySem.W.typeIn K (.ref (maS K D "__init__")) = some (.type "function")
  prp : ∀ q ∈ p.prp, PropOf K (gaS K q.1) (q.2 : Str) (maS K q.1 q.2) (Plc.ad K (.get q.1 q.2))
  ins : ∀ c ∈ p.ins, Cls K (gaS K c)
  nat : ∀ c ∈ p.ins, ∀ f ∈ p.att, p.prp.contains (c, f) = false → NoAttr K (gaS K c) (f : Str)
  nax : ∀ c ∈ p.exn, ∀ f ∈ p.att, NoAttr K (gaS K c) (f : Str)
  xf : ∀ c ∈ p.exn, XfC K (gaS K c)
  mak : ∀ c ∈ p.ins, Mk K (gaS K c) (maS K c "__init__")
  exm : caus = true → ∀ c ∈ p.exn, uSub c "StackError" = true → PySem.W.exmOne K (.ref (gaS K c)) (.ref (gaS K "StackError")) = some true
theorem exc_okB {K : PySem.W.Frag} {C : Addr} (ho : objB K = true) (h : excB K C = true) : ExcC K C ∧ XfC K C := by
  unfold excB at h
  unfold objB at ho
  simp only [Bool.and_eq_true] at h ho
  obtain ⟨⟨⟨⟨⟨h1, h2⟩, h3⟩, h4⟩, h5⟩, h6⟩ := h
  exact ⟨⟨He.eqO_ok h1, He.eqO_ok h2, of_decide_eq_true h3, h4, He.eqO_ok h5, He.eqO_ok ho.1, of_decide_eq_true ho.2, of_decide_eq_true h6⟩, ⟨He.eqO_ok h1, He.eqO_ok h2, of_decide_eq_true h3, h4⟩⟩
theorem pd_ok {p : Pd} {caus : Bool} {K : PySem.W.Frag} {h : Heap} {mg : Mg} (X : K.In h) (G : h.Ns mainGlobals mg) (hp : p.ok caus K = true) : PdK p caus K mg := by
  unfold Pd.ok at hp
  simp only [Bool.and_eq_true, List.all_eq_true] at hp
  obtain ⟨⟨⟨⟨⟨⟨⟨⟨⟨⟨⟨⟨⟨⟨⟨⟨⟨a1, a2⟩, a3⟩, a4⟩, a5⟩, a6⟩, a7⟩, a8⟩, a9⟩, a10⟩, a11⟩, a12⟩, a13⟩, a14⟩, a15⟩, u1⟩, u2⟩, a16⟩ := hp
  have uni : ∀ c, uIns.contains c = true → c ∈ p.ins ∨ mg (c : Str) = none := fun c hc => by
    have z := u1 c (by simpa using hc)
    rw [Bool.or_eq_true] at z
    exact z.imp (fun h => by simpa using h) fun h => He.free_ok X G h
  have unx : ∀ c, uExn.contains c = true → c ∈ p.exn ∨ mg (c : Str) = none := fun c hc => by
    have z := u2 c (by simpa using hc)
    rw [Bool.or_eq_true] at z
    exact z.imp (fun h => by simpa using h) fun h => He.free_ok X G h
  have hcls : ∀ x ∈ p.all, mg (x : Str) = some (.ref (gaS K x)) := fun x hx => He.glo_ok X G (a5 x hx)
  have memI : ∀ {c C}, uIns.contains c = true → mg (c : Str) = some (.ref C) → c ∈ p.ins := fun {c C} h hm => (uni c h).resolve_right fun z => by rw [z] at hm; cases hm
  have memE : ∀ {c C}, uExn.contains c = true → mg (c : Str) = some (.ref C) → c ∈ p.exn := fun {c C} h hm => (unx c h).resolve_right fun z => by rw [z] at hm; cases hm
  have excs : ∀ c ∈ p.exn, ExcC K (gaS K c) ∧ XfC K (gaS K c) := fun c hc => by
    obtain ⟨e, he, rfl⟩ := List.mem_map.mp hc
    exact exc_okB a7 (a8 e he)
  have allOf : ∀ {Φ : Fenv} {c C}, Φ.cls = uIns → Φ.exc = uExn → isCl Φ c = true → mg (c : Str) = some (.ref C) → c ∈ p.all := fun {Φ c C} h1 h2 h hm => by
    unfold isCl at h
    rw [Bool.or_eq_true, h1, h2] at h
    exact List.mem_append.mpr (h.imp (fun z => memI z hm) fun z => memE z hm)
  refine ⟨fun x hx => He.glo_ok X G (a1 x hx), fun n hn => He.free_ok X G (a2 n (by simpa using hn)), He.free_ok X G a3, fun Y hY q hq => ?_, hcls, fun Φ h1 h2 h3 => ?_, uni, unx, fun c D fld hc => ?_, fun q hq => prp_ok (a12 q hq), fun c hc => ?_, fun c hc f hf hn => ?_, fun c hc f hf => ?_, fun c hc => (excs c hc).2, fun c hc => ?_, fun hz c hc hs => ?_⟩
  · obtain ⟨x, v⟩ := q
    have z := a4 _ hq
    unfold conB1 at z
    unfold GloV
    rw [hY]
    split at z
    · rename_i i e; subst e; exact He.int_ok X G z
    · rename_i i e; subst e; exact He.str_ok X G z
    · rename_i i e; subst e
      obtain ⟨z1, z2⟩ := Bool.and_eq_true_iff.mp z
      exact ⟨by rw [of_decide_eq_true z1], _, He.glo_ok X G z2⟩
    · rename_i i e; subst e
      obtain ⟨z1, z2⟩ := Bool.and_eq_true_iff.mp z
      exact ⟨by rw [of_decide_eq_true z1], _, He.glo_ok X G z2⟩
    · cases z
  · have ad : ∀ {c C}, c ∈ p.all → mg (c : Str) = some (.ref C) → C = gaS K c := fun {c C} h1 h2 => by
      rw [hcls c h1] at h2; cases h2; rfl
    refine ⟨fun d D hd hm => ?_, ?_, ?_, fun d D hd hm => ?_, fun d D e F hd he hm hm' => ?_, fun n e F hn he hm => ?_⟩
    · rw [h1] at hd
      have hd := memI hd hm
      obtain rfl := ad (List.mem_append_left _ hd) hm
      have z := a6 d hd
      unfold insB at z
      simp only [Bool.and_eq_true] at z
      exact ⟨He.cls_ok z.1.1, He.eqO_ok z.1.2, of_decide_eq_true z.2⟩
    · unfold objB at a7
      exact He.eqO_ok (Bool.and_eq_true_iff.mp a7).1
    · unfold objB at a7
      exact of_decide_eq_true (Bool.and_eq_true_iff.mp a7).2
    · rw [h2] at hd
      have hd := memE hd hm
      obtain rfl := ad (List.mem_append_right _ hd) hm
      exact (excs d hd).1
    · have m1 := allOf h1 h2 hd hm
      have m2 := allOf h1 h2 he hm'
      obtain rfl := ad m1 hm
      obtain rfl := ad m2 hm'
      rw [h3]
      exact of_decide_eq_true (a9 d m1 e m2)
    · have m2 := allOf h1 h2 he hm
      obtain rfl := ad m2 hm
      exact of_decide_eq_true (a10 n hn e m2)
  · have z := a11 _ hc
    unfold rsB at z
    simp only [Bool.and_eq_true] at z
    obtain ⟨⟨⟨⟨z1, z2⟩, z3⟩, z4⟩, z5⟩ := z
    exact ⟨oex_ok z1, sup_ok z2, He.eqO_ok z3, He.eqO_ok z4, of_decide_eq_true z5⟩
  · have z := a6 c hc
    unfold insB at z
    simp only [Bool.and_eq_true] at z
    exact He.cls_ok z.1.1
  · have z := a13 c hc f hf
    rw [Bool.or_eq_true, hn] at z
    exact He.eqO_ok (z.resolve_left Bool.false_ne_true)
  · obtain ⟨e, he, rfl⟩ := List.mem_map.mp hc
    exact He.eqO_ok (a14 e he f hf)
  · exact He.mkr_ok (a15 c hc)
  · obtain ⟨e, he, rfl⟩ := List.mem_map.mp hc
    subst hz
    rw [Bool.not_true, Bool.false_or, List.all_eq_true] at a16
    have z := a16 e he
    rw [hs] at z
    exact of_decide_eq_true (by simpa using z)
end FW

end

section
set_option Elab.async false
set_option linter.all false
set_option maxRecDepth 100000
/-! Fw32: the defs as they stand, the Hook. -/
namespace FW
open PySem PySem.Spec PyProof.Rows L2 NdefX
structure DefZ where
  pl : Plc
  name : Str
  qual : Str
  params : Arguments
  body : List Stmt
  scope : Scope
  dfl : List P := []
  clo : Option String := none
abbrev FnZ : Type := Option (Str × Str × Arguments × FuncBody × Scope × Addr × List Str × Addr)
def fnZ (K : PySem.W.Frag) (d : DefZ) : FnZ := match K.lookup (d.pl.ad K) with
  | some ⟨_, _, .func fd, _⟩ => some (fd.name, fd.qualname, fd.params, fd.body, fd.scope, fd.globals, fd.closure.map (·.1), fd.builtins)
  | _ => none
def DefZ.val (d : DefZ) : FnZ := some (d.name, d.qual, d.params, .stmts d.body, d.scope, mainGlobals, (match d.clo with
  | none => []
  | some _ => ["__class__"]), builtinsNs)
def dvP (p : P) : V := (scalV p).getD .non
def cloB (K : PySem.W.Frag) (cl : List (Str × Addr)) (D : Addr) : Bool := match cl with
  | [(_, cc)] => (match K.lookup cc with
    | some ⟨_, _, .cell (some (.ref a)), _⟩ => decide (a = D)
    | _ => false)
  | _ => false
def fileB (K : PySem.W.Frag) (cd : Value) (file : Str) : Bool := match cd with
  | .ref c => (match K.lookup c with
    | some ⟨_, _, .fields vs, _⟩ => (match (vs[2]? : Option Value) with
      | some (Value.str f _) => decide (file = f)
      | _ => false)
    | _ => false)
  | _ => false
def DefZ.ok (file : Str) (K : PySem.W.Frag) (d : DefZ) : Bool := PySem.W.keepIn K (.ref (d.pl.ad K)) && (match K.lookup (d.pl.ad K) with
  | some ⟨_, _, .func fd, _⟩ => PySem.W.codeIn K fd.code d.qual && He.dflB K fd.defaults (d.dfl.map dvP) && (match d.clo with
    | none => true
    | some D => cloB K fd.closure (gaS K D) && fileB K fd.code file)
  | _ => false)
/-- the function object -/
structure AtZ (K : PySem.W.Frag) (d : DefZ) (fd : FuncData) : Prop where
  kp : PySem.W.keepIn K (.ref (d.pl.ad K)) = true
  ex : ∃ (oc : Value) (od : Option Addr) (osl : Array (Option Value)) (cl : List (Str × Addr)) (dV kV doc pm : Value) (an : Option Addr) (cdv ct : Value), fd = PySem.W.fnX d.name d.qual d.params d.body d.scope cl dV kV doc pm an cdv ct ∧ K.lookup (d.pl.ad K) = some ⟨oc, od, .func fd, osl⟩ ∧ PySem.W.codeIn K cdv d.qual = true ∧ DflV K dV (d.dfl.map dvP) ∧
    (d.clo = none → cl = []) ∧ (∀ D, d.clo = some D → ∃ cc, cl = [(("__class__" : Str), cc)] ∧ ∃ o, K.lookup cc = some o ∧ o.data = .cell (some (.ref (gaS K D))))
theorem atZ_of {K : PySem.W.Frag} {d : DefZ} {file : Str} (e : fnZ K d = d.val) (c : d.ok file K = true) : ∃ fd, AtZ K d fd ∧ (d.clo ≠ none → fileB K fd.code file = true) := by
  unfold DefZ.ok at c
  rw [Bool.and_eq_true] at c
  obtain ⟨kp, c2⟩ := c
  unfold fnZ at e
  split at c2
  · rename_i oc od fd osl q
    rw [q] at e
    obtain ⟨n1, n2, n3, n4, n5, n6, n7, n8, n9, n10, n11, n12, n13, n14, n15⟩ := fd
    have e2 : (some (n1, n2, n3, n4, n5, n6, n7.map (·.1), n15) : FnZ) = some (d.name, d.qual, d.params, .stmts d.body, d.scope, mainGlobals, (match d.clo with
      | none => []
      | some _ => ["__class__"]), builtinsNs) := e
    simp only [Option.some.injEq, Prod.mk.injEq] at e2
    obtain ⟨h1, h2, h3, h4, h5, h6, h7, h8⟩ := e2
    subst h1 h2 h3 h4 h5 h6 h8
    rw [Bool.and_eq_true, Bool.and_eq_true] at c2
    obtain ⟨⟨k1, k2⟩, k3⟩ := c2
    dsimp only at k1 k2 k3
    refine ⟨_, ⟨kp, oc, od, osl, n7, n8, n9, n10, n11, n12, n13, n14, rfl, q, k1, He.dflB_ok k2, fun hn => ?_, fun D hD => ?_⟩, fun hn => ?_⟩
    · rw [hn] at h7
      exact List.map_eq_nil_iff.mp h7
    · rw [hD] at h7 k3
      rw [Bool.and_eq_true] at k3
      have k4 := k3.1
      match n7, h7, k4 with
      | [(y, cc)], h7, k4 =>
        have ey : y = "__class__" := by simpa using h7
        subst ey
        refine ⟨cc, rfl, ?_⟩
        unfold cloB at k4
        dsimp only at k4
        split at k4
        · rename_i o1 o2 a o3 hq
          refine ⟨_, hq, ?_⟩
          rw [of_decide_eq_true k4]
        · cases k4
    · cases hd : d.clo with
      | none => exact absurd hd hn
      | some D => rw [hd, Bool.and_eq_true] at k3; exact k3.2
  · cases c2
/-- the same as HandS says it -/
theorem AtZ.funD {K : PySem.W.Frag} {d : DefZ} {fd : FuncData} (a : AtZ K d fd) (hc : d.clo = none) : FunD K d.name d.qual d.params d.body d.scope (d.dfl.map dvP) [] (d.pl.ad K) fd := by
  obtain ⟨oc, od, osl, cl, dV, kV, doc, pm, an, cdv, ct, e, lk, hcd, hD, h1, _⟩ := a.ex
  have := h1 hc
  subst this
  exact ⟨⟨oc, od, dV, kV, doc, pm, an, cdv, ct, osl, e, lk, hcd, hD, .inl rfl⟩, a.kp⟩
theorem AtZ.funC {K : PySem.W.Frag} {d : DefZ} {fd : FuncData} (a : AtZ K d fd) (hc : d.clo = none) : FunC K d.name d.qual d.params d.body d.scope (d.pl.ad K) fd fd.code := by
  obtain ⟨oc, od, osl, cl, dV, kV, doc, pm, an, cdv, ct, e, lk, hcd, hD, h1, _⟩ := a.ex
  have := h1 hc
  subst this e
  exact ⟨⟨oc, od, dV, kV, doc, pm, an, ct, osl, rfl, lk, hcd⟩⟩
/-! ### the Hook -/
def asZ (g : Addr → Option Obj) (n : Nat) : List Addr := He.asD g n ++ [cStatics]
structure Pg where
  pd : Pd
  fn : List DefZ
  caus : Bool
  tf : List He.Defn
  file : Str
abbrev AlZ : Type := List FnZ × Bool
def isLst1 (o : Obj) : Bool := match o with
  | ⟨.type c, _, _, _⟩ => decide (c = "list")
  | _ => false
def noLst (K : PySem.W.Frag) : Bool := K.all fun q => !isLst1 q.2
def obsZ (n : Nat) (p : Pg) (g : Addr → Option Obj) : AlZ :=
  (p.fn.map (fnZ (He.frT g (asZ g n))), p.pd.ok p.caus (He.frT g (asZ g n)) && p.fn.all (DefZ.ok p.file (He.frT g (asZ g n))) && He.tabsB g p.tf (He.frT g (asZ g n)) && noLst (He.frT g (asZ g n)) && decide (p.tf.map fun q => (He.cT (He.frT g (asZ g n)) q).2).Nodup)
def valZ (p : Pg) : AlZ := (p.fn.map DefZ.val, true)
structure SaysZ (p : Pg) (h : Heap) (K : PySem.W.Frag) : Prop where
  pd : p.pd.ok p.caus K = true
  fn : ∀ d ∈ p.fn, fnZ K d = d.val ∧ d.ok p.file K = true
  hd : ∀ q ∈ p.tf, PySem.W.codeHdIn K (He.cT K q).1 (He.cT K q).2 = true
  out : ∀ q ∈ p.tf, K.lookup (He.cT K q).2 = none
  empty : ∀ q ∈ p.tf, h.get? (He.cT K q).2 = some { cls := .none, data := .fields #[] }
  nolst : noLst K = true
  nd : (p.tf.map fun q => (He.cT K q).2).Nodup
theorem saysZ_of {n : Nat} {p : Pg} {h : Heap} (e : obsZ n p h.get? = valZ p) : SaysZ p h (He.frT h.get? (asZ h.get? n)) := by
  have e1 : p.fn.map (fnZ (He.frT h.get? (asZ h.get? n))) = p.fn.map DefZ.val := congrArg (fun z : AlZ => z.1) e
  have e2 : (p.pd.ok p.caus (He.frT h.get? (asZ h.get? n)) && p.fn.all (DefZ.ok p.file (He.frT h.get? (asZ h.get? n))) && He.tabsB h.get? p.tf (He.frT h.get? (asZ h.get? n)) && noLst (He.frT h.get? (asZ h.get? n)) && decide (p.tf.map fun q => (He.cT (He.frT h.get? (asZ h.get? n)) q).2).Nodup) = true := congrArg (fun z : AlZ => z.2) e
  rw [Bool.and_eq_true, Bool.and_eq_true, Bool.and_eq_true, Bool.and_eq_true] at e2
  obtain ⟨⟨⟨⟨h1, h2⟩, h3⟩, h9⟩, h10⟩ := e2
  have key : ∀ q ∈ p.tf, PySem.W.codeHdIn (He.frT h.get? (asZ h.get? n)) (He.cT (He.frT h.get? (asZ h.get? n)) q).1 (He.cT (He.frT h.get? (asZ h.get? n)) q).2 = true ∧ ∃ o, h.get? (He.cT (He.frT h.get? (asZ h.get? n)) q).2 = some o ∧ He.emptyTab o = true := fun q hq => by
    obtain ⟨h4, h5⟩ := Bool.and_eq_true_iff.mp (List.all_eq_true.mp h3 q hq)
    refine ⟨h4, ?_⟩
    split at h5
    · rename_i o e; exact ⟨o, e, h5⟩
    · cases h5
  refine ⟨h1, fun d hd => ⟨?_, List.all_eq_true.mp h2 d hd⟩, fun q hq => (key q hq).1, fun q hq => ?_, fun q hq => ?_, h9, of_decide_eq_true h10⟩
  · obtain ⟨i, hi, ed⟩ := List.mem_iff_getElem.mp hd
    have z : (p.fn.map (fnZ (He.frT h.get? (asZ h.get? n))))[i]? = (p.fn.map DefZ.val)[i]? := by rw [e1]
    rw [List.getElem?_map, List.getElem?_map, List.getElem?_eq_getElem hi, ed] at z
    exact Option.some.inj z
  · obtain ⟨_, o, q1, z⟩ := key q hq
    exact He.frT_none q1 z
  · obtain ⟨_, o, q1, z⟩ := key q hq
    rw [q1, He.emptyTab_eq z]
def hookZ (n : Nat) (p : Pg) : PySem.W.Hook where
  α := AlZ
  obs := fun s => obsZ n p s.heap.get?
  val := fun _ => valZ p
  says := fun _ h => ∃ K : PySem.W.Frag, K.In h ∧ SaysZ p h K
  of := fun _ _ e => ⟨_, He.frT_in, saysZ_of e⟩
  keeps := fun _ _ _ ⟨K, hK, c⟩ k => ⟨K, PySem.W.Frag.In.keeps hK k, ⟨c.pd, c.fn, c.hd, c.out, fun p hp => k _ _ (c.empty p hp), c.nolst, c.nd⟩⟩
theorem obsZ_eq {n : Nat} {p : Pg} {g : Addr → Option Obj} {s : Shared} (h : ∀ a, g a = s.heap.get? a) : obsZ n p g = (hookZ n p).obs s := by
  have e : g = s.heap.get? := funext h
  rw [e] <;> rfl
theorem sql_rd {K : PySem.W.Frag} {H : Hp} {a : Addr} {vs : List V} (n : noLst K = true) (h : SqL K H a vs) : Rd H a (.lst vs) := by
  rcases h with h | ⟨o, its, m, h1, h2, _⟩
  · exact h
  · have z := List.all_eq_true.mp n _ (He.lookup_mem h1)
    obtain ⟨oc, od, dt, sl⟩ := o
    dsimp only at h2
    subst h2
    simp [isLst1] at z
end FW

end

section
set_option Elab.async false
set_option linter.all false
set_option maxRecDepth 100000
/-! Fw33: one def after the other. -/
namespace FW
open PySem PySem.Spec PyProof.Rows L2 NdefX
variable [Tb]
def eqS : P → P → Bool
  | .non, .non => true
  | .bl a, .bl b => a == b
  | .int a, .int b => decide (a = b)
  | .str a, .str b => decide (a = b)
  | .cls a, .cls b => decide (a = b)
  | .fn a, .fn b => decide (a = b)
  | _, _ => false
theorem eqS_ok {a b : P} (h : eqS a b = true) : a = b := by
  unfold eqS at h
  split at h
  · rfl
  · rw [eq_of_beq h]
  · rw [of_decide_eq_true h]
  · rw [of_decide_eq_true h]
  · rw [of_decide_eq_true h]
  · rw [of_decide_eq_true h]
  · cases h
def eqSs : List P → List P → Bool
  | [], [] => true
  | a :: as, b :: bs => eqS a b && eqSs as bs
  | _, _ => false
theorem eqSs_ok : ∀ {a b : List P}, eqSs a b = true → a = b
  | [], [], _ => rfl
  | [], _ :: _, h => by cases h
  | _ :: _, [], h => by cases h
  | a :: as, b :: bs, h => by
    obtain ⟨h1, h2⟩ := Bool.and_eq_true_iff.mp (show (eqS a b && eqSs as bs) = true from h)
    rw [eqS_ok h1, eqSs_ok h2]
def Pd.dsOk (p : Pd) (nm : String) (ds : List P) : Bool := ds.isEmpty || eqSs ((p.ds.lookup nm).getD []) ds
def Pd.ksOk (p : Pd) (nm : String) (ks : List String) (pm : List Nat) : Bool := ((p.ks.lookup nm).getD []).contains (ks, pm)
def ckZ (p : Pd) (N : List Str) (sc : Scope) (d : Dep) (cau : List String) : Ck where
  N := N
  sc := sc
  fnb := fun _ => true
  con := fun x v => p.con.any fun q => decide ((q.1 : Str) = x) && eqS q.2 v
  dsOk := p.dsOk
  ksOk := p.ksOk
  fl := fun f => p.att.contains f && p.prp.all fun q => !(q.2 == f) || (d.ps.lookup q).isSome
  has := fun f => (d.fs.lookup f).isSome
  hasC := fun f => (d.ms.lookup f).isSome
  hasX := fun f => (d.xs.lookup f).isSome
  cau := fun f => cau.contains f
section
variable {pg : Program} {w : World} {K : PySem.W.Frag} {mg : Mg} {base : Heap} {p : Pd} {caus : Bool} {k : Nat}
theorem MkE.mono {j : Nat} {c : String} {F : Fn} (G : MkE pg w K mg base j c F) (h : j ≤ k) : MkE pg w K mg base k c F := by
  obtain ⟨C, f, fd, params, Fi, h1, h2, h3, h4, h5, h6⟩ := G.ex
  exact ⟨C, f, fd, params, Fi, h1, h2, h3, h4.mono h, h5, h6⟩
theorem PropE.mono {j : Nat} {c f : String} {F : Fn} (G : PropE pg w K mg base j c f F) (h : j ≤ k) : PropE pg w K mg base k c f F := ⟨fun C hC => by
  obtain ⟨q, g, fd, params, h1, h2, h3, h4⟩ := G.ex C hC
  exact ⟨q, g, fd, params, h1, h2.mono h, h3, h4⟩⟩
theorem RsE.mono {j : Nat} {c f : String} (G : RsE pg w K mg base j c f) (h : j ≤ k) : RsE pg w K mg base k c f := by
  obtain ⟨C, D, fI, fd, sf, pf, h1, h2, h3, h4, h5, h6, h7, h8⟩ := G.ex
  exact ⟨C, D, fI, fd, sf, pf, h1, h2, h3, h4, h5, h6, h7.mono h, h8⟩
/-- all of a list -/
inductive AllP {α : Type} (R : α → Prop) : List α → Prop where
  | nil : AllP R []
  | cons {a : α} {l : List α} (h : R a) (t : AllP R l) : AllP R (a :: l)
theorem AllP.mem {α : Type} {R : α → Prop} : ∀ {l : List α}, AllP R l → ∀ a ∈ l, R a
  | _, .cons h t, a, ha => by
    rcases List.mem_cons.mp ha with e | e
    · rw [e]; exact h
    · exact t.mem a e
theorem mem_look {α β : Type} [BEq α] [LawfulBEq α] : ∀ {l : List (α × β)} {a : α} {b : β}, l.lookup a = some b → (a, b) ∈ l
  | [], _, _, h => by cases h
  | (x, y) :: l, a, b, h => by
    rw [List.lookup_cons] at h
    split at h
    · rename_i q
      cases h
      rw [eq_of_beq q]; exact List.mem_cons_self
    · exact List.mem_cons_of_mem _ (mem_look h)
theorem goodB_of (pk : PdK p caus K mg) {d : Dep} {N : List Str} {sc : Scope} {cau : List String} (hf : AllP (fun q : String × Fn => FnE pg w K mg base k (p.dsOk q.1) (p.ksOk q.1) q.1 q.2) d.fs) (hm : AllP (fun q : String × Fn => MkE pg w K mg base k q.1 q.2) d.ms)
    (hx : AllP (fun q : String × String => RsE pg w K mg base k q.1 q.2) d.xs) (hp : AllP (fun q : (String × String) × Fn => PropE pg w K mg base k q.1.1 q.1.2 q.2) d.ps) : GoodB pg w K mg base (d.phi) (ckZ p N sc d cau) k where
  mg0 := pk.fre
  con := fun Y hY x v h => by
    obtain ⟨q, hq, h2⟩ := List.any_eq_true.mp h
    rw [Bool.and_eq_true, decide_eq_true_eq] at h2
    rw [← h2.1, ← eqS_ok h2.2]
    exact pk.con Y hY.mg q hq
  has := fun f h => Option.isSome_iff_exists.mp h
  hasC := fun f h => Option.isSome_iff_exists.mp h
  hasX := fun f h => by
    obtain ⟨b, hb⟩ := Option.isSome_iff_exists.mp h
    exact ⟨mkX f b, by show (d.xs.lookup f).map (mkX f) = _; rw [hb]; rfl⟩
  rs := fun Y hY hc hr cl F h => by
    have h : (d.xs.lookup cl).map (mkX cl) = some F := h
    obtain ⟨b, hb, rfl⟩ := Option.map_eq_some_iff.mp h
    have R := hx.mem _ (mem_look hb)
    obtain ⟨rfl, rfl, rfl, rfl, rfl⟩ := hY
    exact raise_ok R hc hr
  fns := fun f F h => hf.mem _ (mem_look h)
  mks := fun f F h => hm.mem _ (mem_look h)
  prs := fun cl f F h => hp.mem _ (mem_look h)
  cls := fun cl h => by
    have hj := pk.uni cl h
    have hi' : ∀ {C}, mg (cl : Str) = some (.ref C) → cl ∈ p.ins := fun {C} hC => hj.resolve_right fun z => by rw [z] at hC; cases hC
    refine ⟨fun C hC => ?_, fun C f hC hf => ?_⟩
    · have hi := hi' hC
      rw [pk.cls cl (List.mem_append_left _ hi)] at hC; cases hC
      exact pk.ins cl hi
    · have hi := hi' hC
      rw [pk.cls cl (List.mem_append_left _ hi)] at hC; cases hC
      have hf : ((p.att.contains f && p.prp.all fun q => !(q.2 == f) || (d.ps.lookup q).isSome) && (d.ps.lookup (cl, f)).isNone) = true := hf
      rw [Bool.and_eq_true, Bool.and_eq_true] at hf
      refine pk.nat cl hi f (by simpa using hf.1.1) (Bool.eq_false_iff.mpr fun z => ?_)
      have z2 := List.all_eq_true.mp hf.1.2 (cl, f) (by simpa using z)
      have z3 := hf.2
      simp only [BEq.rfl, Bool.not_true, Bool.false_or] at z2
      rw [Option.isNone_iff_eq_none] at z3
      rw [z3] at z2; cases z2
  exc := fun cl h => by
    have hj := pk.unx cl h
    have hi' : ∀ {C}, mg (cl : Str) = some (.ref C) → cl ∈ p.exn := fun {C} hC => hj.resolve_right fun z => by rw [z] at hC; cases hC
    refine ⟨fun C hC => ?_, fun C f hC hf => ?_⟩
    · have hi := hi' hC
      rw [pk.cls cl (List.mem_append_right _ hi)] at hC; cases hC
      exact pk.xf cl hi
    · have hi := hi' hC
      rw [pk.cls cl (List.mem_append_right _ hi)] at hC; cases hC
      have hf : (p.att.contains f && p.prp.all fun q => !(q.2 == f) || (d.ps.lookup q).isSome) = true := hf
      rw [Bool.and_eq_true] at hf
      exact pk.nax cl hi f (by simpa using hf.1)
  isi := fun Y hY hc hr => by
    obtain ⟨rfl, rfl, rfl, rfl, rfl⟩ := hY
    exact isi_ok (pk.isi _ rfl rfl rfl)
  mino := fun Y hY hc hr => min_ok hc (by have := hr.un; omega)
/-! ### defs -/
def fscB (N ps : List Str) (sc : Scope) : Bool := decide (sc.kind = .function) && !sc.isCoroutine && !sc.isGenerator && decide N.Nodup && decide (N.take ps.length = ps) && ps.all (fun x => decide (sc.names.lookup x = some .local) || decide (sc.names.lookup x = some .cell)) && sc.names.all fun y => !decide (y.2 = .free)
theorem fsc_ok {N ps : List Str} {sc : Scope} (h : fscB N ps sc = true) : FnScope N ps sc := by
  unfold fscB at h
  simp only [Bool.and_eq_true, Bool.not_eq_true', decide_eq_true_eq, List.all_eq_true, Bool.or_eq_true, decide_eq_false_iff_not] at h
  obtain ⟨⟨⟨⟨⟨⟨h1, h2⟩, h3⟩, h4⟩, h5⟩, h6⟩, h7⟩ := h
  exact ⟨h1, h2, h3, h4, h5, h6, h7⟩
/-- how the defaults fill up -/
def DsOk (K : PySem.W.Frag) (p : Pd) (nm : String) (fd : FuncData) (ps : List Str) : Prop := ∀ ds, p.dsOk nm ds = true → ∃ dvs dus, ds.mapM scalV = some dvs ∧ Vals dvs dus ∧ Binds K fd ps dus
def KsOk (K : PySem.W.Frag) (p : Pd) (nm : String) (fd : FuncData) (ps : List Str) : Prop := ∀ ks pm, p.ksOk nm ks pm = true → KBn K fd ps 0 (ks.map Str.ofString) (fun us ws => us ++ pm.filterMap (ws[·]?)) (fun vs zs => vs ++ pm.filterMap (zs[·]?))
theorem ds_no {nm : String} {fd : FuncData} {ps : List Str} (hn : (p.ds.lookup nm).getD [] = []) (hb : Binds K fd ps []) : DsOk K p nm fd ps := fun ds h => by
  unfold Pd.dsOk at h
  rw [hn, Bool.or_eq_true] at h
  have e : ds = [] := by
    rcases h with h | h
    · exact List.isEmpty_iff.mp h
    · exact (eqSs_ok h).symm
  subst e
  exact ⟨[], [], rfl, .nil, hb⟩
theorem ds_one {nm : String} {fd : FuncData} {ps : List Str} {l : List P} {dvs : List V} (hn : (p.ds.lookup nm).getD [] = l) (hl : l.mapM scalV = some dvs) (hb : Binds K fd ps []) (hb2 : ∃ dus, Vals dvs dus ∧ Binds K fd ps dus) : DsOk K p nm fd ps := fun ds h => by
  unfold Pd.dsOk at h
  rw [hn, Bool.or_eq_true] at h
  rcases h with h | h
  · have e := List.isEmpty_iff.mp h
    subst e
    exact ⟨[], [], rfl, .nil, hb⟩
  · have e := eqSs_ok h
    subst e
    obtain ⟨dus, h1, h2⟩ := hb2
    exact ⟨dvs, dus, hl, h1, h2⟩
theorem ks_of {nm : String} {fd : FuncData} {ps : List Str} {l : List (List String × List Nat)} (hn : (p.ks.lookup nm).getD [] = l) (h : AllP (fun q : List String × List Nat => KBn K fd ps 0 (q.1.map Str.ofString) (fun us ws => us ++ q.2.filterMap (ws[·]?)) (fun vs zs => vs ++ q.2.filterMap (zs[·]?))) l) : KsOk K p nm fd ps := fun ks pm hk => by
  unfold Pd.ksOk at hk
  rw [hn] at hk
  exact h.mem (ks, pm) (by simpa using hk)
theorem vals_pick {vs : List V} {us : List Value} (r : Vals vs us) : ∀ pm : List Nat, Vals (pm.filterMap (vs[·]?)) (pm.filterMap (us[·]?))
  | [] => .nil
  | i :: pm => by
    rw [List.filterMap_cons, List.filterMap_cons]
    cases h : vs[i]? with
    | none =>
      have h2 : us[i]? = none := by
        rw [List.getElem?_eq_none_iff] at h ⊢
        rw [← r.length]; exact h
      rw [h2]; exact vals_pick r pm
    | some v =>
      obtain ⟨u, hu, ru⟩ := r.get h
      rw [hu]
      exact .cons ru (vals_pick r pm)
theorem kbn_of {x qual : Str} {params : Arguments} {body : List Stmt} {scope : Scope} {kws : List (Str × V)} {f : Addr} {fd : FuncData} {ps : List Str} {ks : List String} {pm : List Nat} (F : FunD K x qual params body scope [] kws f fd)
    (h : ∀ (kV doc pv : Value) (an : Option Addr) (cdv ct : Value) (ws : List Value), ws.length = ks.length → bindArgs (PySem.W.fnOf x qual params body scope .none kV doc pv an cdv ct) ⟨[], (ks.map Str.ofString).zip ws⟩ = pure (ps.zip (pm.filterMap (ws[·]?)))) :
    KBn K fd ps 0 (ks.map Str.ofString) (fun us ws => us ++ pm.filterMap (ws[·]?)) (fun vs zs => vs ++ pm.filterMap (zs[·]?)) := by
  obtain ⟨oc, od, dV, kV, doc, pv, an, cdv, ct, osl, rfl, lk, hcd, hD, hK⟩ := F.ex
  rcases hD with ⟨_, rfl⟩ | ⟨e, _⟩
  · refine ⟨fun s us ws X h1 h2 => ?_, fun r1 r2 => r1.append (vals_pick r2 pm)⟩
    obtain rfl := List.length_eq_zero_iff.mp h1
    rw [List.length_map] at h2
    exact .of_eq (h kV doc pv an cdv ct ws h2)
  · exact absurd rfl e
variable {d : DefZ} {fd : FuncData} {dp : Dep} {N ps : List Str} {b : List St} {cau : List String} {nm : String}
theorem fnE_z (a : AtZ K d fd) (hclo : d.clo = none) (hm : mg (nm : Str) = some (.ref (d.pl.ad K))) (G : GoodB pg w K mg base (dp.phi) (ckZ p N d.scope dp []) k) (S : fscB N ps d.scope = true) (hc : chkSs (ckZ p N d.scope dp []) b d.body = true) (hd : DsOk K p nm fd ps) (hk : KsOk K p nm fd ps) :
    FnE pg w K mg base (k + 2) (p.dsOk nm) (p.ksOk nm) nm (run (dp.phi) ps.length N.length b) :=
  fnE_ok (c := ckZ p N d.scope dp []) hm (a.funD hclo) (fsc_ok S) G hc (fun _ => rfl) hd hk
theorem mkE_z {c : String} (pk : PdK p caus K mg) (hi : p.ins.contains c = true) (a : AtZ K d fd) (hclo : d.clo = none) (hpl : d.pl = .meth c "__init__") (G : GoodB pg w K mg base (dp.phi) (ckZ p N d.scope dp []) k) (S : fscB N ps d.scope = true) (hc : chkSs (ckZ p N d.scope dp []) b d.body = true) (hb : Binds K fd ps []) :
    MkE pg w K mg base (k + 2) c (mkF c (run (dp.phi) ps.length N.length b)) := by
  have hi : c ∈ p.ins := by simpa using hi
  have F := a.funD hclo
  refine ⟨gaS K c, maS K c "__init__", fd, ps, _, pk.cls c (List.mem_append_left _ hi), rfl, pk.mak c hi, ?_, fun args g h => run_len (c := ckZ p N d.scope dp []) args g h, hb⟩
  have := fn_ok (c := ckZ p N d.scope dp []) F (fsc_ok S) G hc (fun _ => rfl)
  rw [hpl] at this
  exact this
theorem propE_z {c f : String} (pk : PdK p caus K mg) (hi : p.prp.contains (c, f) = true) (hci : p.ins.contains c = true) (a : AtZ K d fd) (hclo : d.clo = none) (hpl : d.pl = .get c f) (G : GoodB pg w K mg base (dp.phi) (ckZ p N d.scope dp []) k) (S : fscB N ps d.scope = true) (hc : chkSs (ckZ p N d.scope dp []) b d.body = true) (hb : Binds K fd ps []) :
    PropE pg w K mg base (k + 2) c f (run (dp.phi) ps.length N.length b) := ⟨fun C hC => by
  have hci : c ∈ p.ins := by simpa using hci
  have hi : (c, f) ∈ p.prp := by simpa using hi
  rw [pk.cls c (List.mem_append_left _ hci)] at hC; cases hC
  refine ⟨_, _, fd, ps, pk.prp _ hi, ?_, fun args g h => run_len (c := ckZ p N d.scope dp []) args g h, hb⟩
  have := fn_ok (c := ckZ p N d.scope dp []) (a.funD hclo) (fsc_ok S) G hc (fun _ => rfl)
  rw [hpl] at this
  exact this⟩
/-- a def that makes lambdas, or the law -/
theorem fnC_z (a : AtZ K d fd) (hclo : d.clo = none) (G : GoodB pg w K mg base (dp.phi) (ckZ p N d.scope dp cau) k) (S : fscB N ps d.scope = true) (hc : chkSs (ckZ p N d.scope dp cau) b d.body = true)
    (hcau : ∀ f, cau.contains f = true → CauK K mg (ecOf (dp.phi)) f ∧ TabQ base mg fd.code (d.qual ++ ".<locals>.") ∧ ∃ j, j + 2 ≤ k ∧ GoodB pg w K mg base (dp.phi) (ckZ p N d.scope dp cau) j) :
    FnOk pg w K mg base (L2.CX pg w) (k + 2) (d.pl.ad K) fd ps (spOf mg ps.length (run (dp.phi) ps.length N.length b)) :=
  fn_okC (c := ckZ p N d.scope dp cau) (a.funC hclo) (fsc_ok S) G hc hcau
end
end FW

end

section
set_option Elab.async false
set_option linter.all false
set_option maxRecDepth 100000
/-! Fw34: exceptions with an __init__ of their own, as they stand; the def that keeps errors. -/
namespace FW
open PySem PySem.Spec PyProof.Rows L2 NdefX
variable [Tb]
section
variable {pg : Program} {w : World} {K : PySem.W.Frag} {mg : Mg} {base : Heap} {p : Pd} {caus : Bool} {d : DefZ} {fd : FuncData} {sf pf : Str} {c D fld : String} {m : Str} {j : Nat} {p0 p1 p2 p3 p4 p5 q1 q2 q3 q4 : Pos}
theorem rsE_z (pk : PdK p caus K mg) (hc : (c, some (D, fld)) ∈ p.exs) (a : AtZ K d fd) (hfile : fileB K fd.code pg.main.file = true) (htop : (pg.main.scope.names.lookup ("super" : Str)).isSome = false) (hclo : d.clo = some D) (hdfl : d.dfl = []) (hpl : d.pl = .meth D "__init__")
    (S : nscB [sf, pf, "__class__"] [sf, pf] ["__class__"] d.scope = true) (hsup : d.scope.names.lookup ("super" : Str) = some .globalImplicit) (hpar : ((d.params.posonlyargs ++ d.params.args).head?.map (·.arg)) = some sf)
    (hbd : d.body = [.Expr (.Call (.Attribute (.Call (.Name "super" p0) [] [] p1) "__init__" p2) [.Constant (.str m) j p4] [] p3) p5, .Assign [.Attribute (.Name sf q1) (fld : Str) q2] (.Name pf q3) q4]) (hline : (p2.endLine == p3.line) = true)
    (hsf : (sf == ("__debug__" : Str)) = false ∧ (sf == ("__classdict__" : Str)) = false) (hpf : (pf == ("__debug__" : Str)) = false ∧ (pf == ("__classdict__" : Str)) = false)
    (hb : ∀ (cl : List (Str × Addr)) (kV doc pm : Value) (an : Option Addr) (cdv ct : Value) (us : List Value), us.length = 2 → bindArgs (PySem.W.fnX d.name d.qual d.params d.body d.scope cl .none kV doc pm an cdv ct) ⟨us, []⟩ = pure ([sf, pf].zip us)) :
    RsE pg w K mg base 1 c fld := by
  obtain ⟨g1, g2, g3, g4, g5⟩ := pk.rs c D fld hc
  obtain ⟨oc, od, osl, cl, dV, kV, doc, pm, an, cdv, ct, e, lk, hcd, hD, _, h2⟩ := a.ex
  obtain ⟨cc, rfl, hcell⟩ := h2 D hclo
  obtain ⟨ca, rfl⟩ := He.codeIn_ref hcd
  subst e
  rw [hdfl] at hD
  have edV : dV = .none := hD.elim (fun z => z.2) fun z => absurd rfl z.1
  subst edV
  have NS := nscope_by S
  have hm := pk.cls c (List.mem_append_right _ (List.mem_map.mpr ⟨_, hc, rfl⟩))
  let F : NF := ⟨d.name, d.qual, d.params, d.body, d.scope, [("__class__", cc)], ca⟩
  have ef : d.pl.ad K = maS K D "__init__" := by rw [hpl]; rfl
  have Z : CloK K F (d.pl.ad K) cc (gaS K D) .none kV doc pm ct oc an od osl := ⟨lk, hcd, rfl, hcell⟩
  have SE : ∀ (A : Around) (outer : List Env) (s : Shared) (H : Hp) (E : XK), SupE (ncx (L2.CX pg w) pg w K mg base [sf, pf, "__class__"] F (d.pl.ad K) A outer s H E) sf := fun A outer s H E => by
    obtain ⟨ar, har, ear⟩ := Option.map_eq_some_iff.mp hpar
    refine ⟨hsup, NS.frk "__class__" (by simp), NS.kind, NS.par sf (by simp), pk.sup, ⟨_, _, _, ar, rfl, lk, rfl, har, ear⟩, ?_, htop⟩
    unfold fileB at hfile
    dsimp only at hfile
    split at hfile
    · rename_i o1 o2 vs o3 hq
      split at hfile
      · rename_i f t hv
        exact ⟨ca, _, vs, f, t, rfl, hq, rfl, hv, by rw [← of_decide_eq_true hfile]; exact beq_self_eq_true pg.main.file⟩
      · cases hfile
    · cases hfile
  have G := fn_ini (pg := pg) (w := w) (mg := mg) (base := base) (CX := L2.CX pg w) (k := 0) (pl := plainOf (.Call (.Name "super" p0) [] [] p1) (envF F (d.pl.ad K) 0)) Z NS hbd SE hsf hpf fun L => ?_
  · rw [ef] at G
    exact ⟨gaS K c, gaS K D, maS K D "__init__", _, sf, pf, hm, g1, g2, g3, g4, g5, G, Binds.all (hb _ _ _ _ _ _ _)⟩
  · have e0 : ∀ ov : Value, methodCall (.Call (.Name "super" p0) [] [] p1) "__init__" p2 p3 (envF F (d.pl.ad K) L) ov 1 (backTo p3 (starEach [.Constant (.str m) j p4] (envF F (d.pl.ad K) L))) (backToKw p3 (keywordEach [] (envF F (d.pl.ad K) L))) = _ := fun ov => mcall_line rfl hline
    show (do
      let ov ← attributeBase (.Call (.Name "super" p0) [] [] p1) "__init__" (envF F (d.pl.ad K) L) (eval (.Call (.Name "super" p0) [] [] p1) (envF F (d.pl.ad K) L))
      standAt p2.atName
      methodCall (.Call (.Name "super" p0) [] [] p1) "__init__" p2 p3 (envF F (d.pl.ad K) L) ov 1 (backTo p3 (starEach [.Constant (.str m) j p4] (envF F (d.pl.ad K) L))) (backToKw p3 (keywordEach [] (envF F (d.pl.ad K) L)))) = _
    simp only [e0]
    rfl
end
end FW

end

section
set_option Elab.async false
set_option linter.all false
set_option maxRecDepth 100000
/-! Fw35: the law's end. -/
namespace FW
open PySem PySem.Spec PyProof.Rows L2 NdefX
/-- what the head tells, by names -/
structure HdK (P : Pg) (K : PySem.W.Frag) (mg : Mg) : Prop where
  pk : PdK P.pd P.caus K mg
  fn : ∀ d ∈ P.fn, ∃ fd, AtZ K d fd ∧ (d.clo ≠ none → fileB K fd.code P.file = true)
theorem hdK_of {P : Pg} {K : PySem.W.Frag} {mg : Mg} {h : Heap} (X : K.In h) (G : h.Ns mainGlobals mg) (S : SaysZ P h K) : HdK P K mg := ⟨pd_ok X G S.pd, fun d hd => atZ_of (S.fn d hd).1 (S.fn d hd).2⟩
def tbOf (P : Pg) (K : PySem.W.Frag) : Tb := ⟨P.tf.map fun q => ((He.cT K q).2, q.1 ++ (".<locals>." : Str) ++ ("<lambda>" : Str))⟩
theorem nodup_map_inj {α β : Type} {f : α → β} : ∀ {l : List α}, (l.map f).Nodup → ∀ a ∈ l, ∀ b ∈ l, f a = f b → a = b
  | [], _, a, ha, _, _, _ => by cases ha
  | x :: l, h, a, ha, b, hb, e => by
    rw [List.map_cons, List.nodup_cons] at h
    rcases List.mem_cons.mp ha with e1 | h1
    · rcases List.mem_cons.mp hb with e2 | h2
      · rw [e1, e2]
      · subst e1; exact absurd (List.mem_map.mpr ⟨b, h2, e.symm⟩) h.1
    · rcases List.mem_cons.mp hb with e2 | h2
      · subst e2; exact absurd (List.mem_map.mpr ⟨a, h1, e⟩) h.1
      · exact nodup_map_inj h.2 a h1 b h2 e
theorem tabQ_z {P : Pg} {K : PySem.W.Frag} {mg : Mg} {base : Heap} {d : DefZ} {fd : FuncData} {nm : String} (a : AtZ K d fd) (hclo : d.clo = none) (hpl : d.pl = .glo nm) (hq : d.qual = (nm : Str)) (hm : ((nm : Str), none) ∈ P.tf) (nd : (P.tf.map fun q => (He.cT K q).2).Nodup)
    (TB : ∀ q ∈ P.tf, LamX.TabB base mg (He.cT K q).1 (He.cT K q).2) : @TabQ (tbOf P K) base mg fd.code (d.qual ++ (".<locals>." : Str)) := by
  obtain ⟨oc, od, osl, cl, dV, kV, doc, pm, an, cdv, ct, e, lk, hcd, hD, h1, _⟩ := a.ex
  obtain ⟨ca, rfl⟩ := He.codeIn_ref hcd
  rw [hpl] at lk
  have ec : He.codeOf K ((nm : Str), none) = ca := He.codeOf_eq (p := ((nm : Str), none)) lk (by rw [e])
  have tb := TB _ hm
  have e1 : (He.cT K ((nm : Str), none)).1 = ca := ec
  refine ⟨ca, (He.cT K ((nm : Str), none)).2, by rw [e], by rw [← e1]; exact tb, ?_, fun q hq2 he => ?_⟩
  · rw [hq]
    exact List.mem_map.mpr ⟨_, hm, rfl⟩
  · obtain ⟨q', hq', rfl⟩ := List.mem_map.mp hq2
    have := nodup_map_inj nd q' hq' _ hm he
    subst this
    rw [hq]
section
variable [Tb] {pg : Program} {w : World} {K : PySem.W.Frag} {mg : Mg} {base : Heap} {p : Pd}
theorem cauK_z {d : DefZ} {fd : FuncData} {dp : Dep} {x : String} {a r e : Str} {p0 p1 p2 p3 p4 p5 p6 p7 p8 p9 p10 p11 p12 p13 : Pos} {j : Nat} (pk : PdK p true K mg) (A : AtZ K d fd) (hclo : d.clo = none) (hdfl : d.dfl = []) (hpl : d.pl = .glo x) (hn : d.name = (x : Str)) (hq : d.qual = (x : Str)) (hg : x ∈ p.glo)
    (hbd : d.body = cauBody a r e "StackError" p0 p1 p2 p3 p4 p5 p6 p7 p8 p9 p10 p11 p12 p13 j) (S : fscB [a, r, e] [a] d.scope = true) (hl : d.scope.names.lookup a = some .local ∧ d.scope.names.lookup r = some .local ∧ d.scope.names.lookup e = some .local ∧ d.scope.names.lookup ("StackError" : Str) = some .globalImplicit)
    (hs : "StackError" ∈ p.exn) (da : (a == ("__debug__" : Str)) = false ∧ (a == ("__classdict__" : Str)) = false) (dr : (r == ("__debug__" : Str)) = false ∧ (r == ("__classdict__" : Str)) = false) (de : (e == ("__debug__" : Str)) = false ∧ (e == ("__classdict__" : Str)) = false)
    (hb : ∀ (kV doc pm : Value) (an : Option Addr) (cdv ct : Value) (us : List Value), us.length = 1 → bindArgs (PySem.W.fnOf d.name d.qual d.params d.body d.scope .none kV doc pm an cdv ct) ⟨us, []⟩ = pure ([a].zip us)) : CauK K mg (ecOf (dp.phi)) x := by
  have F := A.funD hclo
  rw [hdfl] at F
  have B : Binds K fd [a] [] := F.bindsN hb
  have kp := A.kp
  obtain ⟨oc, od, osl, cl, dV, kV, doc, pm, an, cdv, ct, ee, lk, hcd, hD, h1, _⟩ := A.ex
  have := h1 hclo
  subst this ee
  rw [hpl] at lk kp
  rw [hn, hq, hbd] at lk B
  rw [hq] at hcd
  exact ⟨gaS K x, gaS K "StackError", a, r, e, "StackError", d.scope, d.params, p0, p1, p2, p3, p4, p5, p6, p7, p8, p9, p10, p11, p12, p13, j, dV, kV, doc, pm, cdv, ct, oc, an, od, osl, pk.glo x hg, kp, lk, hcd, B, fsc_ok S, hl, pk.cls _ (List.mem_append_right _ hs), da, dr, de, by decide, fun c C hc hm => by
    unfold ecOf at hc
    rw [Bool.and_eq_true] at hc
    have hi : c ∈ p.exn := (pk.unx c hc.1).resolve_right fun z => by rw [z] at hm; cases hm
    rw [pk.cls c (List.mem_append_right _ hi)] at hm; cases hm
    exact pk.exm rfl c hi hc.2⟩
end
theorem reps_ints' {mg : Mg} {A : As} {B : Fb} {H : Hp} : ∀ ns : List Int, Reps mg A B H (ns.map P.int) (ns.map V.int)
  | [] => by simp [Reps]
  | n :: ns => by simp only [List.map_cons, Reps]; exact ⟨_, _, rfl, by simp [Rep], reps_ints' ns⟩
/-- the law, at the head's heap -/
theorem lawAtS_of {l : PySem.W.OpenLaw} {w : World} {K : PySem.W.Frag} {mg : Mg} {fa : Addr} {h : Heap} {Pr : Pg} {d : DefZ} {F : Fn} {k : Nat} (X : K.In h) (S : SaysZ Pr h K) (H : HdK Pr K mg) (hd : d ∈ Pr.fn) (hclo : d.clo = none) (hdfl : d.dfl = []) (hpl : d.pl = .glo "law") (hg : "law" ∈ Pr.pd.glo) (hfa : mg ("law" : Str) = some (.ref fa))
    (hb : ∀ (kV doc pm : Value) (an : Option Addr) (cdv ct : Value) (us : List Value), us.length = 1 → bindArgs (PySem.W.fnOf d.name d.qual d.params d.body d.scope .none kV doc pm an cdv ct) ⟨us, []⟩ = pure ([("script" : Str)].zip us))
    (main : ∀ (base : Heap) (fd : FuncData), K.In base → base.Ns mainGlobals mg → AtZ K d fd → (∀ q ∈ Pr.tf, LamX.TabB base mg (He.cT K q).1 (He.cT K q).2) → FnOk l.prog w K mg base (L2.CX l.prog w) k (d.pl.ad K) fd ["script"] (@spOf (tbOf Pr K) mg 1 F))
    (hF : ∀ ns : List Int, ns.length ≤ 63 → (∀ z ∈ ns, Builtin.Int.intBits z ≤ 1048576) → ∃ g, F [.scr (ns.map .int)] [] = .ok (.bl true) g) : LamX.LawAtS l w K (L2.CX l.prog w) k 63 "script" mg fa h := by
  obtain ⟨fd, a, _⟩ := H.fn d hd
  have F0 := a.funD hclo
  rw [hdfl] at F0
  have efa : d.pl.ad K = fa := by
    have z := H.pk.glo _ hg
    rw [hfa] at z
    rw [hpl]
    cases z; rfl
  refine ⟨fd, Pr.tf.map (He.cT K), @spOf (tbOf Pr K) mg 1 F, fun p hp => ?_, fun p hp => ?_, fun p hp => ?_, fun s u => ?_, fun H a ns hl hbits hT hS => ?_, fun base hK hns hT => ?_⟩
  · obtain ⟨q, hq, rfl⟩ := List.mem_map.mp hp
    exact S.empty q hq
  · obtain ⟨q, hq, rfl⟩ := List.mem_map.mp hp
    exact S.out q hq
  · obtain ⟨q, hq, rfl⟩ := List.mem_map.mp hp
    exact PySem.W.codeHd_of_K X (S.hd q hq)
  · have b := FunD.bindsA (ps := ["script"]) F0 hb
    exact b s [u] rfl
  · obtain ⟨g, hg⟩ := hF ns hl hbits
    letI : Tb := tbOf Pr K
    refine ⟨⟨[], []⟩, fun _ => False, [], [.scr (ns.map .int)], rfl, ⟨rfl, rfl, List.nodup_nil, fun i a o h1 h2 => by simp at h1, fun i a o h1 h2 => by simp at h1, (fun a ha => ha.elim (fun z => nomatch z) fun z => nomatch z), (fun o ho => nomatch ho), (fun o ho => nomatch ho), (fun a z => False.elim z), fun p hp => ?_⟩, ?_, rfl, ?_⟩
    · obtain ⟨q, hq, rfl⟩ := List.mem_map.mp (show p ∈ Pr.tf.map _ from hp)
      exact LamX.TabS.nil (hT _ (List.mem_map.mpr ⟨q, hq, rfl⟩))
    · simp only [Reps, Rep]
      exact ⟨_, _, rfl, ⟨a, _, rfl, sql_rd S.nolst hS, fun z => z, reps_ints' ns⟩, rfl⟩
    · rw [hg]
      intro A' B' H' v _ _ _ r
      simp only [Rep] at r
      exact r
  · have := main base fd hK hns a fun q hq => hT _ (List.mem_map.mpr ⟨q, hq, rfl⟩)
    rw [efa] at this
    exact this
end FW

end

section
set_option Elab.async false
set_option linter.all false
set_option maxRecDepth 100000
/-! the terms of the defs -/
namespace FW
open PySem
def n_is_number : List Str := [("thing" : Str)]
def b_is_number : List St := [.ret (.and [(.bi .val .isinstance [(.var 0), (.bty "int")]), (.not (.bi .val .isinstance [(.var 0), (.bty "bool")]))])]
def dp_is_number : Dep := {}
def F_is_number : Fn := run dp_is_number.phi 1 1 b_is_number
def n_is_between : List Str := [("thing" : Str), ("low" : Str), ("high" : Str)]
def b_is_between : List St := [.ret (.and [(.call "is_number" [(.var 0)] []), (.chain .le .le (.var 1) (.var 0) (.var 2))])]
def dp_is_between : Dep := { fs := [("is_number", F_is_number)] }
@[simp] theorem fs_is_between : dp_is_between.fs = [("is_number", F_is_number)] := rfl
def F_is_between : Fn := run dp_is_between.phi 3 3 b_is_between
def n_is_list : List Str := [("thing" : Str)]
def b_is_list : List St := [.ret (.bi .val .isinstance [(.var 0), (.tup [(.bty "list"), (.bty "tuple")])])]
def dp_is_list : Dep := {}
def F_is_list : Fn := run dp_is_list.phi 1 1 b_is_list
def n_rule_right : List Str := [("many" : Str), ("thing" : Str), ("item" : Str)]
def b_rule_right : List St := [.ifs (.cmp .is_ (.var 1) .non) [.ret (.bl true)] [],
  .ifs (.or [(.not (.bi .val .isinstance [(.var 1), (.bty "tuple")])), (.cmp .gt (.bi .val .len [(.var 1)]) (.con "MOST_CALLS" (.int 6)))]) [.ret (.bl false)] [],
  .ret (.bi .val .all [(.comp .val (.call "is_between" [(.var 2), (.int 0), (.bin .val .sub (.var 0) (.int 1))] []) (.name 2) (.seq (.var 1)) [] [2])])]
def dp_rule_right : Dep := { fs := [("is_between", F_is_between)] }
@[simp] theorem fs_rule_right : dp_rule_right.fs = [("is_between", F_is_between)] := rfl
def F_rule_right : Fn := run dp_rule_right.phi 2 3 b_rule_right
def n_rules_right : List Str := [("letters" : Str), ("thing" : Str), ("line" : Str), ("item" : Str)]
def b_rules_right : List St := [.ifs (.or [(.not (.call "is_list" [(.var 1)] [])), (.not (.chain .le .le (.int 1) (.bi .val .len [(.var 1)]) (.con "MOST_PROCEDURES" (.int 12))))]) [.ret (.bl false)] [],
  .ifs (.not (.bi .val .all [(.comp .val (.and [(.call "is_list" [(.var 2)] []), (.cmp .eq (.bi .val .len [(.var 2)]) (.var 0))]) (.name 2) (.seq (.var 1)) [] [2])])) [.ret (.bl false)] [],
  .ret (.bi .val .all [(.comp .val (.bi .val .all [(.comp .val (.call "rule_right" [(.bi .val .len [(.var 1)]), (.var 3)] []) (.name 3) (.seq (.var 2)) [] [3])]) (.name 2) (.seq (.var 1)) [] [2])])]
def dp_rules_right : Dep := { fs := [("is_list", F_is_list), ("rule_right", F_rule_right)] }
@[simp] theorem fs_rules_right : dp_rules_right.fs = [("is_list", F_is_list), ("rule_right", F_rule_right)] := rfl
def F_rules_right : Fn := run dp_rules_right.phi 2 4 b_rules_right
def n_need_parts : List Str := [("letters" : Str), ("rules" : Str)]
def b_need_parts : List St := [.ifs (.not (.call "is_between" [(.var 0), (.int 1), (.con "MOST_LETTERS" (.int 6))] [])) [.raise "BadProgram" [(.str "letters")]] [],
  .ifs (.not (.call "rules_right" [(.var 0), (.var 1)] [])) [.raise "BadProgram" [(.str "rules")]] []]
def dp_need_parts : Dep := { fs := [("is_between", F_is_between), ("rules_right", F_rules_right)], xs := [("BadProgram", "part")] }
@[simp] theorem fs_need_parts : dp_need_parts.fs = [("is_between", F_is_between), ("rules_right", F_rules_right)] := rfl
@[simp] theorem xs_need_parts : dp_need_parts.xs = [("BadProgram", "part")] := rfl
def F_need_parts : Fn := run dp_need_parts.phi 2 2 b_need_parts
def n_is_live_by : List Str := [("line" : Str), ("live" : Str), ("item" : Str), ("other" : Str)]
def b_is_live_by : List St := [.ret (.bi .val .any [(.comp .val (.and [(.cmp .isNot (.var 2) .non), (.bi .val .all [(.comp .val (.cmp .in_ (.var 3) (.var 1)) (.name 3) (.seq (.var 2)) [] [3])])]) (.name 2) (.seq (.var 0)) [] [2])])]
def dp_is_live_by : Dep := {}
def F_is_live_by : Fn := run dp_is_live_by.phi 2 4 b_is_live_by
def n_live_in : List Str := [("rules" : Str), ("found" : Str), ("many" : Str), ("index" : Str), ("line" : Str)]
def b_live_in : List St := [.asg (.tup [(.name 1), (.name 2)]) (.tup [(.dct .val false [] []), (.neg (.int 1))]),
  .whl (.cmp .ne (.bi .val .len [(.var 1)]) (.var 2)) [.asg (.name 2) (.bi .val .len [(.var 1)]),
  .asg (.name 1) (.dcomp .val false (.var 3) .non (.tup [(.name 3), (.name 4)]) (.enum (.var 0)) [(.or [(.cmp .in_ (.var 3) (.var 1)), (.call "is_live_by" [(.var 4), (.var 1)] [])])] [3, 4])],
  .ret (.var 1)]
def dp_live_in : Dep := { fs := [("is_live_by", F_is_live_by)] }
@[simp] theorem fs_live_in : dp_live_in.fs = [("is_live_by", F_is_live_by)] := rfl
def F_live_in : Fn := run dp_live_in.phi 1 5 b_live_in
def n_Program_init : List Str := [("self" : Str), ("letters" : Str), ("rules" : Str), ("line" : Str)]
def b_Program_init : List St := [.expr (.call "need_parts" [(.var 1), (.var 2)] []),
  .ifs (.cmp .lt (.bi .val .len [(.call "live_in" [(.var 2)] [])]) (.bi .val .len [(.var 2)])) [.raise "BadProgram" [(.str "live")]] [],
  .aattr (.var 0) "own_letters" (.var 1),
  .aattr (.var 0) "own_rules" (.bi .val .tuple [(.comp .val (.bi .val .tuple [(.var 3)]) (.name 3) (.seq (.var 2)) [] [3])])]
def dp_Program_init : Dep := { fs := [("need_parts", F_need_parts), ("live_in", F_live_in)], xs := [("BadProgram", "part")] }
@[simp] theorem fs_Program_init : dp_Program_init.fs = [("need_parts", F_need_parts), ("live_in", F_live_in)] := rfl
@[simp] theorem xs_Program_init : dp_Program_init.xs = [("BadProgram", "part")] := rfl
def Fi_Program : Fn := run dp_Program_init.phi 3 4 b_Program_init
def F_Program : Fn := mkF "Program" Fi_Program
def n_Program_letters : List Str := [("self" : Str)]
def b_Program_letters : List St := [.ret (.attr (.var 0) "own_letters")]
def dp_Program_letters : Dep := {}
def F_Program_letters : Fn := run dp_Program_letters.phi 1 1 b_Program_letters
def n_Program_rules : List Str := [("self" : Str)]
def b_Program_rules : List St := [.ret (.attr (.var 0) "own_rules")]
def dp_Program_rules : Dep := {}
def F_Program_rules : Fn := run dp_Program_rules.phi 1 1 b_Program_rules
def n_need_program : List Str := [("program" : Str), ("part" : Str)]
def b_need_program : List St := [.ifs (.not (.bi .val .isinstance [(.var 0), (.con "Program" (.cls "Program"))])) [.raise "NoProgram" [(.var 1)]] []]
def dp_need_program : Dep := { xs := [("NoProgram", "part")] }
@[simp] theorem xs_need_program : dp_need_program.xs = [("NoProgram", "part")] := rfl
def F_need_program : Fn := run dp_need_program.phi 2 2 b_need_program
def n_calls_right : List Str := [("program" : Str), ("thing" : Str), ("item" : Str)]
def b_calls_right : List St := [.ret (.and [(.bi .val .isinstance [(.var 1), (.bty "tuple")]), (.bi .val .all [(.comp .val (.call "is_between" [(.var 2), (.int 0), (.bin .val .sub (.bi .val .len [(.attr (.var 0) "rules")]) (.int 1))] []) (.name 2) (.seq (.var 1)) [] [2])])])]
def dp_calls_right : Dep := { fs := [("is_between", F_is_between)], ps := [(("Program", "rules"), F_Program_rules)] }
@[simp] theorem fs_calls_right : dp_calls_right.fs = [("is_between", F_is_between)] := rfl
@[simp] theorem ps_calls_right : dp_calls_right.ps = [(("Program", "rules"), F_Program_rules)] := rfl
def F_calls_right : Fn := run dp_calls_right.phi 2 3 b_calls_right
def n_row_right : List Str := [("program" : Str), ("thing" : Str)]
def b_row_right : List St := [.ret (.and [(.call "calls_right" [(.var 0), (.var 1)] []), (.cmp .le (.bi .val .len [(.var 1)]) (.con "MOST_ROW" (.int 12)))])]
def dp_row_right : Dep := { fs := [("calls_right", F_calls_right)] }
@[simp] theorem fs_row_right : dp_row_right.fs = [("calls_right", F_calls_right)] := rfl
def F_row_right : Fn := run dp_row_right.phi 2 2 b_row_right
def n_need_row : List Str := [("program" : Str), ("row" : Str), ("part" : Str)]
def b_need_row : List St := [.ifs (.not (.call "row_right" [(.var 0), (.var 1)] [])) [.raise "BadRow" [(.var 2)]] []]
def dp_need_row : Dep := { fs := [("row_right", F_row_right)], xs := [("BadRow", "part")] }
@[simp] theorem fs_need_row : dp_need_row.fs = [("row_right", F_row_right)] := rfl
@[simp] theorem xs_need_row : dp_need_row.xs = [("BadRow", "part")] := rfl
def F_need_row : Fn := run dp_need_row.phi 3 3 b_need_row
def n_rule_norm : List Str := [("rule" : Str), ("known" : Str), ("item" : Str)]
def b_rule_norm : List St := [.ifs (.or [(.cmp .is_ (.var 0) .non), (.not (.bi .val .all [(.comp .val (.cmp .in_ (.var 2) (.var 1)) (.name 2) (.seq (.var 0)) [] [2])]))]) [.ret .non] [],
  .ret (.bin .val .add (.int 1) (.bi .val .sum [(.comp .val (.sub (.var 1) (.var 2)) (.name 2) (.seq (.var 0)) [] [2])]))]
def dp_rule_norm : Dep := {}
def F_rule_norm : Fn := run dp_rule_norm.phi 2 3 b_rule_norm
def n_line_norm : List Str := [("line" : Str), ("known" : Str), ("found" : Str), ("rule" : Str), ("number" : Str)]
def b_line_norm : List St := [.asg (.name 2) (.comp .val (.call "rule_norm" [(.var 3), (.var 1)] []) (.name 3) (.seq (.var 0)) [] [3]),
  .asg (.name 2) (.comp .val (.var 4) (.name 4) (.seq (.var 2)) [(.cmp .isNot (.var 4) .non)] [4]),
  .ret (.ite (.cmp .ne (.var 2) (.lst .val [])) (.bi .val .min [(.var 2)]) .non)]
def dp_line_norm : Dep := { fs := [("rule_norm", F_rule_norm)] }
@[simp] theorem fs_line_norm : dp_line_norm.fs = [("rule_norm", F_rule_norm)] := rfl
def F_line_norm : Fn := run dp_line_norm.phi 2 5 b_line_norm
def n_norms_by : List Str := [("rules" : Str), ("known" : Str), ("lap" : Str), ("told" : Str), ("index" : Str), ("line" : Str)]
def b_norms_by : List St := [.asg (.name 1) (.dct .val false [] []),
  .for_ (.name 2) (.seq (.var 0)) [.asg (.name 3) (.dcomp .val false (.var 4) (.call "line_norm" [(.var 5), (.var 1)] []) (.tup [(.name 4), (.name 5)]) (.enum (.var 0)) [] [4, 5]),
  .asg (.name 1) (.dcomp .val false (.var 4) (.sub (.var 3) (.var 4)) (.name 4) (.keys 3) [(.cmp .isNot (.sub (.var 3) (.var 4)) .non)] [4])],
  .ret (.comp .val (.sub (.var 1) (.var 4)) (.name 4) (.range1 (.bi .val .len [(.var 0)])) [] [4])]
def dp_norms_by : Dep := { fs := [("line_norm", F_line_norm)] }
@[simp] theorem fs_norms_by : dp_norms_by.fs = [("line_norm", F_line_norm)] := rfl
def F_norms_by : Fn := run dp_norms_by.phi 1 6 b_norms_by
def n_norm_by : List Str := [("numbers" : Str), ("row" : Str), ("item" : Str)]
def b_norm_by : List St := [.ret (.bi .val .sum [(.comp .val (.sub (.var 0) (.var 2)) (.name 2) (.seq (.var 1)) [] [2])])]
def dp_norm_by : Dep := {}
def F_norm_by : Fn := run dp_norm_by.phi 2 3 b_norm_by
def n_norm_of : List Str := [("program" : Str), ("row" : Str)]
def b_norm_of : List St := [.expr (.call "need_program" [(.var 0)] [.non]),
  .expr (.call "need_row" [(.var 0), (.var 1)] [.non]),
  .ret (.call "norm_by" [(.call "norms_by" [(.attr (.var 0) "rules")] []), (.var 1)] [])]
def dp_norm_of : Dep := { fs := [("need_program", F_need_program), ("need_row", F_need_row), ("norm_by", F_norm_by), ("norms_by", F_norms_by)], ps := [(("Program", "rules"), F_Program_rules)] }
@[simp] theorem fs_norm_of : dp_norm_of.fs = [("need_program", F_need_program), ("need_row", F_need_row), ("norm_by", F_norm_by), ("norms_by", F_norms_by)] := rfl
@[simp] theorem ps_norm_of : dp_norm_of.ps = [(("Program", "rules"), F_Program_rules)] := rfl
def F_norm_of : Fn := run dp_norm_of.phi 2 2 b_norm_of
def n_need_costs : List Str := [("program" : Str), ("row" : Str), ("costs" : Str), ("index" : Str), ("item" : Str)]
def b_need_costs : List St := [.expr (.call "need_program" [(.var 0)] [.non]),
  .expr (.call "need_row" [(.var 0), (.var 1)] [.non]),
  .ifs (.or [(.not (.call "is_list" [(.var 2)] [])), (.cmp .ne (.bi .val .len [(.var 2)]) (.attr (.var 0) "letters"))]) [.raise "BadCosts" [.non]] [],
  .for_ (.tup [(.name 3), (.name 4)]) (.enum (.var 2)) [.ifs (.not (.call "is_between" [(.var 4), (.int 0), (.con "MOST_COST" (.int 1000))] [])) [.raise "BadCosts" [(.var 3)]] []]]
def dp_need_costs : Dep := { fs := [("need_program", F_need_program), ("need_row", F_need_row), ("is_list", F_is_list), ("is_between", F_is_between)], xs := [("BadCosts", "index")], ps := [(("Program", "letters"), F_Program_letters)] }
@[simp] theorem fs_need_costs : dp_need_costs.fs = [("need_program", F_need_program), ("need_row", F_need_row), ("is_list", F_is_list), ("is_between", F_is_between)] := rfl
@[simp] theorem xs_need_costs : dp_need_costs.xs = [("BadCosts", "index")] := rfl
@[simp] theorem ps_need_costs : dp_need_costs.ps = [(("Program", "letters"), F_Program_letters)] := rfl
def F_need_costs : Fn := run dp_need_costs.phi 3 5 b_need_costs
def n_sum_over : List Str := [("table" : Str), ("rule" : Str), ("item" : Str)]
def b_sum_over : List St := [.ifs (.or [(.cmp .is_ (.var 1) .non), (.not (.bi .val .all [(.comp .val (.cmp .in_ (.var 2) (.var 0)) (.name 2) (.seq (.var 1)) [] [2])]))]) [.ret .non] [],
  .ret (.tup [(.bi .val .sum [(.comp .val (.sub (.sub (.var 0) (.var 2)) (.int 0)) (.name 2) (.seq (.var 1)) [] [2])]), (.bin .val .add (.int 1) (.bi .val .sum [(.comp .val (.sub (.sub (.var 0) (.var 2)) (.int 1)) (.name 2) (.seq (.var 1)) [] [2])]))])]
def dp_sum_over : Dep := {}
def F_sum_over : Fn := run dp_sum_over.phi 2 3 b_sum_over
def n_best_pair : List Str := [("line" : Str), ("costs" : Str), ("table" : Str), ("found" : Str), ("letter" : Str), ("rule" : Str), ("told" : Str)]
def b_best_pair : List St := [.asg (.name 3) (.lst .loc []),
  .for_ (.tup [(.name 4), (.name 5)]) (.enum (.var 0)) [.asg (.name 6) (.call "sum_over" [(.var 2), (.var 5)] []),
  .ifs (.cmp .isNot (.var 6) .non) [.expr (.meth .append (.var 3) [(.tup [(.bin .val .add (.sub (.var 6) (.int 0)) (.sub (.var 1) (.var 4))), (.sub (.var 6) (.int 1))])])] []],
  .ret (.ite (.cmp .ne (.var 3) (.lst .val [])) (.bi .val .min [(.var 3)]) .non)]
def dp_best_pair : Dep := { fs := [("sum_over", F_sum_over)] }
@[simp] theorem fs_best_pair : dp_best_pair.fs = [("sum_over", F_sum_over)] := rfl
def F_best_pair : Fn := run dp_best_pair.phi 3 7 b_best_pair
def n_least_pairs : List Str := [("rules" : Str), ("costs" : Str), ("table" : Str), ("lap" : Str), ("told" : Str), ("index" : Str), ("line" : Str)]
def b_least_pairs : List St := [.asg (.name 2) (.dct .val false [] []),
  .for_ (.name 3) (.range1 (.bin .val .mul (.int 2) (.bi .val .len [(.var 0)]))) [.asg (.name 4) (.dcomp .val false (.var 5) (.call "best_pair" [(.var 6), (.var 1), (.var 2)] []) (.tup [(.name 5), (.name 6)]) (.enum (.var 0)) [] [5, 6]),
  .asg (.name 2) (.dcomp .val false (.var 5) (.sub (.var 4) (.var 5)) (.name 5) (.keys 4) [(.cmp .isNot (.sub (.var 4) (.var 5)) .non)] [5])],
  .ret (.var 2)]
def dp_least_pairs : Dep := { fs := [("best_pair", F_best_pair)] }
@[simp] theorem fs_least_pairs : dp_least_pairs.fs = [("best_pair", F_best_pair)] := rfl
def F_least_pairs : Fn := run dp_least_pairs.phi 2 7 b_least_pairs
def n_cheapest_rule : List Str := [("line" : Str), ("costs" : Str), ("table" : Str), ("pair" : Str), ("letter" : Str), ("rule" : Str), ("told" : Str)]
def b_cheapest_rule : List St := [.for_ (.tup [(.name 4), (.name 5)]) (.enum (.var 0)) [.asg (.name 6) (.call "sum_over" [(.var 2), (.var 5)] []),
  .ifs (.and [(.cmp .isNot (.var 6) .non), (.cmp .eq (.tup [(.bin .val .add (.sub (.var 6) (.int 0)) (.sub (.var 1) (.var 4))), (.sub (.var 6) (.int 1))]) (.var 3))]) [.ret (.var 4)] []],
  .ret .non]
def dp_cheapest_rule : Dep := { fs := [("sum_over", F_sum_over)] }
@[simp] theorem fs_cheapest_rule : dp_cheapest_rule.fs = [("sum_over", F_sum_over)] := rfl
def F_cheapest_rule : Fn := run dp_cheapest_rule.phi 4 7 b_cheapest_rule
def n_cheapest_text : List Str := [("rules" : Str), ("costs" : Str), ("table" : Str), ("row" : Str), ("stack" : Str), ("found" : Str), ("item" : Str), ("letter" : Str)]
def b_cheapest_text : List St := [.asg (.tup [(.name 4), (.name 5)]) (.tup [(.bi .loc .list [(.rev .val (.var 3))]), (.lst .loc [])]),
  .whl (.cmp .ne (.var 4) (.lst .val [])) [.asg (.name 6) (.meth .pop (.var 4) []),
  .asg (.name 7) (.call "cheapest_rule" [(.sub (.var 0) (.var 6)), (.var 1), (.var 2), (.sub (.var 2) (.var 6))] []),
  .expr (.meth .append (.var 5) [(.var 7)]),
  .expr (.meth .extend (.var 4) [(.rev .val (.sub (.sub (.var 0) (.var 6)) (.var 7)))])],
  .ret (.bi .val .tuple [(.var 5)])]
def dp_cheapest_text : Dep := { fs := [("cheapest_rule", F_cheapest_rule)] }
@[simp] theorem fs_cheapest_text : dp_cheapest_text.fs = [("cheapest_rule", F_cheapest_rule)] := rfl
def F_cheapest_text : Fn := run dp_cheapest_text.phi 4 8 b_cheapest_text
def n_need_short : List Str := [("table" : Str), ("row" : Str), ("item" : Str)]
def b_need_short : List St := [.ifs (.cmp .gt (.call "norm_by" [(.dcomp .val false (.var 2) (.sub (.sub (.var 0) (.var 2)) (.int 1)) (.name 2) (.keys 0) [] [2]), (.var 1)] []) (.con "MOST_LEAST" (.int 20000))) [.raise "TooMany" [(.con "MOST_LEAST" (.int 20000))]] []]
def dp_need_short : Dep := { fs := [("norm_by", F_norm_by)], xs := [("TooMany", "most")] }
@[simp] theorem fs_need_short : dp_need_short.fs = [("norm_by", F_norm_by)] := rfl
@[simp] theorem xs_need_short : dp_need_short.xs = [("TooMany", "most")] := rfl
def F_need_short : Fn := run dp_need_short.phi 2 3 b_need_short
def n_least_cost : List Str := [("program" : Str), ("row" : Str), ("costs" : Str), ("table" : Str), ("item" : Str)]
def b_least_cost : List St := [.expr (.call "need_costs" [(.var 0), (.var 1), (.var 2)] []),
  .asg (.name 3) (.call "least_pairs" [(.attr (.var 0) "rules"), (.var 2)] []),
  .ret (.bi .val .sum [(.comp .val (.sub (.sub (.var 3) (.var 4)) (.int 0)) (.name 4) (.seq (.var 1)) [] [4])])]
def dp_least_cost : Dep := { fs := [("need_costs", F_need_costs), ("least_pairs", F_least_pairs)], ps := [(("Program", "rules"), F_Program_rules)] }
@[simp] theorem fs_least_cost : dp_least_cost.fs = [("need_costs", F_need_costs), ("least_pairs", F_least_pairs)] := rfl
@[simp] theorem ps_least_cost : dp_least_cost.ps = [(("Program", "rules"), F_Program_rules)] := rfl
def F_least_cost : Fn := run dp_least_cost.phi 3 5 b_least_cost
def n_cost_paper : List Str := [("program" : Str), ("row" : Str), ("costs" : Str), ("table" : Str), ("numbers" : Str), ("index" : Str), ("item" : Str)]
def b_cost_paper : List St := [.expr (.call "need_costs" [(.var 0), (.var 1), (.var 2)] []),
  .asg (.name 3) (.call "least_pairs" [(.attr (.var 0) "rules"), (.var 2)] []),
  .expr (.call "need_short" [(.var 3), (.var 1)] []),
  .asg (.name 4) (.bi .val .tuple [(.comp .val (.sub (.sub (.var 3) (.var 5)) (.int 0)) (.name 5) (.range1 (.bi .val .len [(.attr (.var 0) "rules")])) [] [5])]),
  .ret (.tup [(.bi .val .sum [(.comp .val (.sub (.var 4) (.var 6)) (.name 6) (.seq (.var 1)) [] [6])]), (.call "cheapest_text" [(.attr (.var 0) "rules"), (.var 2), (.var 3), (.var 1)] []), (.var 4)])]
def dp_cost_paper : Dep := { fs := [("need_costs", F_need_costs), ("least_pairs", F_least_pairs), ("need_short", F_need_short), ("cheapest_text", F_cheapest_text)], ps := [(("Program", "rules"), F_Program_rules)] }
@[simp] theorem fs_cost_paper : dp_cost_paper.fs = [("need_costs", F_need_costs), ("least_pairs", F_least_pairs), ("need_short", F_need_short), ("cheapest_text", F_cheapest_text)] := rfl
@[simp] theorem ps_cost_paper : dp_cost_paper.ps = [(("Program", "rules"), F_Program_rules)] := rfl
def F_cost_paper : Fn := run dp_cost_paper.phi 3 7 b_cost_paper
def n_law_begun : List Str := [("script" : Str), ("large" : Str), ("grain" : Str)]
def b_law_begun : List St := [.asg (.name 1) (.comp .glob (.bin .val .sub (.bi .val .abs [(.var 2)]) (.bin .val .pow (.int 10) (.int 18))) (.name 2) (.seq (.var 0)) [(.cmp .ge (.bi .val .abs [(.var 2)]) (.bin .val .pow (.int 10) (.int 18)))] [2]),
  .ret (.dct .glob false [(.str "large"), (.str "rest"), (.str "cells"), (.str "turn")] [(.var 1), (.int 0), (.comp .val (.bi .val .abs [(.var 2)]) (.name 2) (.seq (.var 0)) [] [2]), (.int 0)])]
def dp_law_begun : Dep := {}
def F_law_begun : Fn := run dp_law_begun.phi 1 3 b_law_begun
def n_law_blend : List Str := [("tape" : Str), ("great" : Str), ("turn" : Str), ("found" : Str), ("blended" : Str), ("grain" : Str)]
def b_law_blend : List St := [.asub (.var 0) (.str "turn") (.bin .val .add (.sub (.var 0) (.str "turn")) (.int 1)),
  .asg (.tup [(.name 2), (.name 3)]) (.tup [(.bi .val .int [(.sub (.var 0) (.str "turn"))]), (.int 0)]),
  .for_ (.name 1) (.seq (.lst .val [(.int 2147483629), (.int 2147483587), (.int 2147483579)])) [.asg (.name 4) (.bin .val .mod (.bin .val .add (.bin .val .mul (.var 2) (.int 69621)) (.bin .val .fdiv (.var 1) (.int 7))) (.var 1)),
  .for_ (.name 5) (.seq (.sub (.var 0) (.str "cells"))) [.asg (.name 4) (.bin .val .mod (.bin .val .add (.bin .val .mul (.var 4) (.int 48271)) (.bi .val .int [(.var 5)])) (.var 1))],
  .asg (.name 3) (.bin .val .add (.bin .val .mul (.var 3) (.int 2147483647)) (.bin .val .mod (.bin .val .pow (.var 4) (.int 5)) (.var 1)))],
  .ret (.var 3)]
def dp_law_blend : Dep := {}
def F_law_blend : Fn := run dp_law_blend.phi 1 6 b_law_blend
def n_law_draw : List Str := [("tape" : Str), ("size" : Str), ("found" : Str)]
def b_law_draw : List St := [.ifs (.cmp .eq (.sub (.var 0) (.str "rest")) (.int 0)) [.asub (.var 0) (.str "rest") (.ite (.cmp .ne (.sub (.var 0) (.str "large")) (.lst .val [])) (.meth .pop (.sub (.var 0) (.str "large")) [(.int 0)]) (.call "_law_blend" [(.var 0)] []))] [],
  .asg (.name 2) (.bin .val .mod (.bi .val .int [(.sub (.var 0) (.str "rest"))]) (.var 1)),
  .asub (.var 0) (.str "rest") (.bin .val .fdiv (.bi .val .int [(.sub (.var 0) (.str "rest"))]) (.var 1)),
  .ret (.var 2)]
def dp_law_draw : Dep := { fs := [("_law_blend", F_law_blend)] }
@[simp] theorem fs_law_draw : dp_law_draw.fs = [("_law_blend", F_law_blend)] := rfl
def F_law_draw : Fn := run dp_law_draw.phi 2 3 b_law_draw
def n_law_pick : List Str := [("tape" : Str), ("several" : Str)]
def b_law_pick : List St := [.ret (.sub (.var 1) (.call "_law_draw" [(.var 0), (.bi .val .len [(.var 1)])] []))]
def dp_law_pick : Dep := { fs := [("_law_draw", F_law_draw)] }
@[simp] theorem fs_law_pick : dp_law_pick.fs = [("_law_draw", F_law_draw)] := rfl
def F_law_pick : Fn := run dp_law_pick.phi 2 2 b_law_pick
def n_law_live : List Str := [("rules" : Str), ("found" : Str), ("many" : Str), ("index" : Str), ("line" : Str), ("good" : Str), ("rule" : Str), ("item" : Str)]
def b_law_live : List St := [.asg (.tup [(.name 1), (.name 2)]) (.tup [(.lst .val []), (.neg (.int 1))]),
  .whl (.cmp .ne (.bi .val .len [(.var 1)]) (.var 2)) [.asg (.name 2) (.bi .val .len [(.var 1)]),
  .for_ (.tup [(.name 3), (.name 4)]) (.enum (.var 0)) [.asg (.name 5) (.comp .val (.var 6) (.name 6) (.seq (.var 4)) [(.and [(.cmp .isNot (.var 6) .non), (.cmp .eq (.comp .val (.int 1) (.name 7) (.seq (.var 6)) [(.cmp .notIn (.var 7) (.var 1))] [7]) (.lst .val []))])] [6]),
  .asg (.name 1) (.bin .val .add (.var 1) (.ite (.and [(.cmp .notIn (.var 3) (.var 1)), (.cmp .ne (.var 5) (.lst .val []))]) (.lst .val [(.var 3)]) (.lst .val [])))]],
  .ret (.var 1)]
def dp_law_live : Dep := {}
def F_law_live : Fn := run dp_law_live.phi 1 8 b_law_live
def n_law_program : List Str := [("tape" : Str), ("letters" : Str), ("procedures" : Str), ("calls" : Str), ("index" : Str), ("live" : Str), ("many" : Str), ("count_here" : Str), ("rules" : Str), ("line" : Str), ("letter" : Str), ("size" : Str), ("item" : Str)]
def b_law_program : List St := [.asg (.tup [(.name 6), (.name 7), (.name 8)]) (.tup [(.bin .val .add (.int 1) (.call "_law_draw" [(.var 0), (.var 1)] [])), (.bin .val .add (.int 1) (.call "_law_draw" [(.var 0), (.var 2)] [])), (.lst .glob [])]),
  .for_ (.name 4) (.range1 (.var 7)) [.asg (.name 9) (.lst .glob []),
  .for_ (.name 10) (.range1 (.var 6)) [.asg (.name 11) (.call "_law_pick" [(.var 0), (.lst .val [(.int 0), (.int 0), (.int 1), (.int 1), (.int 2), (.int 2), (.var 3)])] []),
  .expr (.meth .append (.var 9) [(.ite (.cmp .eq (.call "_law_draw" [(.var 0), (.int 4)] []) (.int 0)) .non (.bi .val .tuple [(.comp .val (.call "_law_draw" [(.var 0), (.var 7)] []) (.name 12) (.range1 (.var 11)) [] [12])]))])],
  .expr (.meth .append (.var 8) [(.var 9)])],
  .asg (.name 5) (.call "_law_live" [(.var 8)] []),
  .for_ (.name 4) (.range1 (.var 7)) [.ifs (.cmp .notIn (.var 4) (.var 5)) [.asub (.sub (.var 8) (.var 4)) (.call "_law_draw" [(.var 0), (.var 6)] []) (.tup [])] []],
  .ret (.tup [(.var 6), (.bi .val .tuple [(.comp .val (.bi .val .tuple [(.var 9)]) (.name 9) (.seq (.var 8)) [] [9])])])]
def dp_law_program : Dep := { fs := [("_law_draw", F_law_draw), ("_law_pick", F_law_pick), ("_law_live", F_law_live)] }
@[simp] theorem fs_law_program : dp_law_program.fs = [("_law_draw", F_law_draw), ("_law_pick", F_law_pick), ("_law_live", F_law_live)] := rfl
def F_law_program : Fn := run dp_law_program.phi 4 13 b_law_program
def n_law_made : List Str := [("program" : Str), ("line" : Str)]
def b_law_made : List St := [.ret (.make "Program" [(.sub (.var 0) (.int 0)), (.comp .val (.bi .val .list [(.var 1)]) (.name 1) (.seq (.sub (.var 0) (.int 1))) [] [1])])]
def dp_law_made : Dep := { ms := [("Program", F_Program)] }
@[simp] theorem ms_law_made : dp_law_made.ms = [("Program", F_Program)] := rfl
def F_law_made : Fn := run dp_law_made.phi 1 2 b_law_made
def n_law_row : List Str := [("tape" : Str), ("program" : Str), ("most" : Str), ("item" : Str)]
def b_law_row : List St := [.ret (.bi .val .tuple [(.comp .val (.call "_law_draw" [(.var 0), (.bi .val .len [(.sub (.var 1) (.int 1))])] []) (.name 3) (.range1 (.call "_law_draw" [(.var 0), (.bin .val .add (.var 2) (.int 1))] [])) [] [3])])]
def dp_law_row : Dep := { fs := [("_law_draw", F_law_draw)] }
@[simp] theorem fs_law_row : dp_law_row.fs = [("_law_draw", F_law_draw)] := rfl
def F_law_row : Fn := run dp_law_row.phi 3 4 b_law_row
def n_law_step : List Str := [("program" : Str), ("row" : Str), ("letter" : Str)]
def b_law_step : List St := [.ifs (.or [(.cmp .eq (.var 1) (.tup [])), (.cmp .is_ (.sub (.sub (.sub (.var 0) (.int 1)) (.sub (.var 1) (.int 0))) (.var 2)) .non)]) [.ret .non] [],
  .ret (.bin .val .add (.sub (.sub (.sub (.var 0) (.int 1)) (.sub (.var 1) (.int 0))) (.var 2)) (.slice .val (.var 1) (.int 1) .abs))]
def dp_law_step : Dep := {}
def F_law_step : Fn := run dp_law_step.phi 3 3 b_law_step
def n_law_after : List Str := [("program" : Str), ("row" : Str), ("text" : Str), ("letter" : Str)]
def b_law_after : List St := [.for_ (.name 3) (.seq (.var 2)) [.asg (.name 1) (.ite (.cmp .is_ (.var 1) .non) .non (.call "_law_step" [(.var 0), (.var 1), (.var 3)] []))],
  .ret (.var 1)]
def dp_law_after : Dep := { fs := [("_law_step", F_law_step)] }
@[simp] theorem fs_law_after : dp_law_after.fs = [("_law_step", F_law_step)] := rfl
def F_law_after : Fn := run dp_law_after.phi 3 4 b_law_after
def n_law_norms : List Str := [("program" : Str), ("known" : Str), ("lap" : Str), ("told" : Str), ("index" : Str), ("line" : Str), ("some" : Str), ("rule" : Str), ("item" : Str)]
def b_law_norms : List St := [.asg (.name 1) (.dct .val false [] []),
  .for_ (.name 2) (.seq (.sub (.var 0) (.int 1))) [.asg (.name 3) (.dct .loc false [] []),
  .for_ (.tup [(.name 4), (.name 5)]) (.enum (.sub (.var 0) (.int 1))) [.asg (.name 6) (.comp .val (.bin .val .add (.int 1) (.bi .val .sum [(.comp .val (.sub (.var 1) (.var 8)) (.name 8) (.seq (.var 7)) [] [8])])) (.name 7) (.seq (.var 5)) [(.and [(.cmp .isNot (.var 7) .non), (.cmp .eq (.comp .val (.int 1) (.name 8) (.seq (.var 7)) [(.cmp .notIn (.var 8) (.var 1))] [8]) (.lst .val []))])] [7]),
  .ifs (.cmp .ne (.var 6) (.lst .val [])) [.asub (.var 3) (.var 4) (.bi .val .min [(.var 6)])] []],
  .asg (.name 1) (.var 3)],
  .ret (.comp .val (.sub (.var 1) (.var 4)) (.name 4) (.range1 (.bi .val .len [(.sub (.var 0) (.int 1))])) [] [4])]
def dp_law_norms : Dep := {}
def F_law_norms : Fn := run dp_law_norms.phi 1 9 b_law_norms
def n_law_norm : List Str := [("numbers" : Str), ("row" : Str), ("item" : Str)]
def b_law_norm : List St := [.ret (.bi .val .sum [(.comp .val (.sub (.var 0) (.var 2)) (.name 2) (.seq (.var 1)) [] [2])])]
def dp_law_norm : Dep := {}
def F_law_norm : Fn := run dp_law_norm.phi 2 3 b_law_norm
def n_law_least : List Str := [("program" : Str), ("numbers" : Str), ("row" : Str), ("found" : Str), ("some" : Str), ("letter" : Str), ("rule" : Str)]
def b_law_least : List St := [.asg (.name 3) (.lst .loc []),
  .whl (.cmp .ne (.var 2) (.tup [])) [.asg (.name 4) (.comp .val (.var 5) (.tup [(.name 5), (.name 6)]) (.enum (.sub (.sub (.var 0) (.int 1)) (.sub (.var 2) (.int 0)))) [(.and [(.cmp .isNot (.var 6) .non), (.cmp .eq (.bin .val .add (.int 1) (.call "_law_norm" [(.var 1), (.var 6)] [])) (.sub (.var 1) (.sub (.var 2) (.int 0))))])] [5, 6]),
  .expr (.meth .append (.var 3) [(.sub (.var 4) (.int 0))]),
  .asg (.name 2) (.call "_law_step" [(.var 0), (.var 2), (.sub (.var 4) (.int 0))] [])],
  .ret (.bi .val .tuple [(.var 3)])]
def dp_law_least : Dep := { fs := [("_law_norm", F_law_norm), ("_law_step", F_law_step)] }
@[simp] theorem fs_law_least : dp_law_least.fs = [("_law_norm", F_law_norm), ("_law_step", F_law_step)] := rfl
def F_law_least : Fn := run dp_law_least.phi 3 7 b_law_least
def n_law_whole_text : List Str := [("tape" : Str), ("program" : Str), ("row" : Str), ("most" : Str), ("lap" : Str), ("numbers" : Str), ("found" : Str), ("here" : Str), ("some" : Str), ("letter" : Str)]
def b_law_whole_text : List St := [.asg (.tup [(.name 5), (.name 6), (.name 7)]) (.tup [(.call "_law_norms" [(.var 1)] []), (.lst .loc []), (.var 2)]),
  .for_ (.name 4) (.range1 (.call "_law_draw" [(.var 0), (.var 3)] [])) [.asg (.name 8) (.comp .val (.var 9) (.name 9) (.range1 (.sub (.var 1) (.int 0))) [(.cmp .isNot (.call "_law_step" [(.var 1), (.var 7), (.var 9)] []) .non)] [9]),
  .asg (.name 8) (.comp .val (.var 9) (.name 9) (.seq (.var 8)) [(.cmp .le (.bin .val .add (.bin .val .add (.bi .val .len [(.var 6)]) (.int 1)) (.call "_law_norm" [(.var 5), (.call "_law_step" [(.var 1), (.var 7), (.var 9)] [])] [])) (.var 3))] [9]),
  .ifs (.cmp .eq (.var 8) (.lst .val [])) [.brk] [],
  .expr (.meth .append (.var 6) [(.call "_law_pick" [(.var 0), (.var 8)] [])]),
  .asg (.name 7) (.call "_law_step" [(.var 1), (.var 7), (.sub (.var 6) (.neg (.int 1)))] [])],
  .ret (.bin .val .add (.bi .val .tuple [(.var 6)]) (.call "_law_least" [(.var 1), (.var 5), (.var 7)] []))]
def dp_law_whole_text : Dep := { fs := [("_law_norms", F_law_norms), ("_law_draw", F_law_draw), ("_law_step", F_law_step), ("_law_norm", F_law_norm), ("_law_pick", F_law_pick), ("_law_least", F_law_least)] }
@[simp] theorem fs_law_whole_text : dp_law_whole_text.fs = [("_law_norms", F_law_norms), ("_law_draw", F_law_draw), ("_law_step", F_law_step), ("_law_norm", F_law_norm), ("_law_pick", F_law_pick), ("_law_least", F_law_least)] := rfl
def F_law_whole_text : Fn := run dp_law_whole_text.phi 4 10 b_law_whole_text
def n_law_costs : List Str := [("tape" : Str), ("letters" : Str), ("letter" : Str)]
def b_law_costs : List St := [.ret (.comp .val (.call "_law_pick" [(.var 0), (.lst .val [(.int 0), (.int 0), (.int 1), (.int 2), (.int 5), (.int 1000)])] []) (.name 2) (.range1 (.var 1)) [] [2])]
def dp_law_costs : Dep := { fs := [("_law_pick", F_law_pick)] }
@[simp] theorem fs_law_costs : dp_law_costs.fs = [("_law_pick", F_law_pick)] := rfl
def F_law_costs : Fn := run dp_law_costs.phi 2 3 b_law_costs
def n_law_low : List Str := [("program" : Str), ("costs" : Str), ("known" : Str), ("lap" : Str), ("told" : Str), ("index" : Str), ("line" : Str), ("some" : Str), ("letter" : Str), ("rule" : Str), ("item" : Str)]
def b_law_low : List St := [.asg (.name 2) (.dct .val false [] []),
  .for_ (.name 3) (.seq (.sub (.var 0) (.int 1))) [.asg (.name 4) (.dct .loc false [] []),
  .for_ (.tup [(.name 5), (.name 6)]) (.enum (.sub (.var 0) (.int 1))) [.asg (.name 7) (.comp .val (.bin .val .add (.sub (.var 1) (.var 8)) (.bi .val .sum [(.comp .val (.sub (.var 2) (.var 10)) (.name 10) (.seq (.var 9)) [] [10])])) (.tup [(.name 8), (.name 9)]) (.enum (.var 6)) [(.and [(.cmp .isNot (.var 9) .non), (.cmp .eq (.comp .val (.int 1) (.name 10) (.seq (.var 9)) [(.cmp .notIn (.var 10) (.var 2))] [10]) (.lst .val []))])] [8, 9]),
  .ifs (.cmp .ne (.var 7) (.lst .val [])) [.asub (.var 4) (.var 5) (.bi .val .min [(.var 7)])] []],
  .asg (.name 2) (.var 4)],
  .ret (.var 2)]
def dp_law_low : Dep := {}
def F_law_low : Fn := run dp_law_low.phi 2 11 b_law_low
def n_law_whole : List Str := [("thing" : Str)]
def b_law_whole : List St := [.ret (.and [(.bi .val .isinstance [(.var 0), (.bty "int")]), (.not (.bi .val .isinstance [(.var 0), (.bty "bool")]))])]
def dp_law_whole : Dep := {}
def F_law_whole : Fn := run dp_law_whole.phi 1 1 b_law_whole
def n_law_letters : List Str := [("program" : Str), ("thing" : Str), ("item" : Str)]
def b_law_letters : List St := [.ret (.and [(.bi .val .isinstance [(.var 1), (.bty "tuple")]), (.cmp .eq (.comp .val (.int 1) (.name 2) (.seq (.var 1)) [(.or [(.not (.call "_law_whole" [(.var 2)] [])), (.not (.chain .le .lt (.int 0) (.var 2) (.sub (.var 0) (.int 0))))])] [2]) (.lst .val []))])]
def dp_law_letters : Dep := { fs := [("_law_whole", F_law_whole)] }
@[simp] theorem fs_law_letters : dp_law_letters.fs = [("_law_whole", F_law_whole)] := rfl
def F_law_letters : Fn := run dp_law_letters.phi 2 3 b_law_letters
def n_law_is_cheap : List Str := [("program" : Str), ("row" : Str), ("costs" : Str), ("thing" : Str), ("index" : Str), ("line" : Str), ("letter" : Str), ("rule" : Str), ("item" : Str)]
def b_law_is_cheap : List St := [.ifs (.or [(.not (.bi .val .isinstance [(.var 3), (.bty "tuple")])), (.cmp .ne (.bi .val .len [(.var 3)]) (.int 3)), (.not (.call "_law_whole" [(.sub (.var 3) (.int 0))] [])), (.not (.call "_law_letters" [(.var 0), (.sub (.var 3) (.int 1))] []))]) [.ret (.bl false)] [],
  .ifs (.or [(.not (.bi .val .isinstance [(.sub (.var 3) (.int 2)), (.bty "tuple")])), (.cmp .ne (.bi .val .len [(.sub (.var 3) (.int 2))]) (.bi .val .len [(.sub (.var 0) (.int 1))])), (.cmp .ne (.comp .val (.int 1) (.name 8) (.seq (.sub (.var 3) (.int 2))) [(.or [(.not (.call "_law_whole" [(.var 8)] [])), (.cmp .lt (.var 8) (.int 0))])] [8]) (.lst .val []))]) [.ret (.bl false)] [],
  .ifs (.or [(.cmp .ne (.call "_law_after" [(.var 0), (.var 1), (.sub (.var 3) (.int 1))] []) (.tup [])), (.cmp .ne (.bi .val .sum [(.comp .val (.sub (.var 2) (.var 6)) (.name 6) (.seq (.sub (.var 3) (.int 1))) [] [6])]) (.sub (.var 3) (.int 0)))]) [.ret (.bl false)] [],
  .for_ (.tup [(.name 4), (.name 5)]) (.enum (.sub (.var 0) (.int 1))) [.for_ (.tup [(.name 6), (.name 7)]) (.enum (.var 5)) [.ifs (.and [(.cmp .isNot (.var 7) .non), (.cmp .gt (.sub (.sub (.var 3) (.int 2)) (.var 4)) (.bin .val .add (.sub (.var 2) (.var 6)) (.bi .val .sum [(.comp .val (.sub (.sub (.var 3) (.int 2)) (.var 8)) (.name 8) (.seq (.var 7)) [] [8])])))]) [.ret (.bl false)] []]],
  .ret (.cmp .le (.sub (.var 3) (.int 0)) (.bi .val .sum [(.comp .val (.sub (.sub (.var 3) (.int 2)) (.var 8)) (.name 8) (.seq (.var 1)) [] [8])]))]
def dp_law_is_cheap : Dep := { fs := [("_law_whole", F_law_whole), ("_law_letters", F_law_letters), ("_law_after", F_law_after)] }
@[simp] theorem fs_law_is_cheap : dp_law_is_cheap.fs = [("_law_whole", F_law_whole), ("_law_letters", F_law_letters), ("_law_after", F_law_after)] := rfl
def F_law_is_cheap : Fn := run dp_law_is_cheap.phi 4 9 b_law_is_cheap
def n_law : List Str := [("script" : Str), ("tape" : Str), ("lap" : Str), ("chain" : Str), ("caught" : Str), ("one" : Str), ("program" : Str), ("low" : Str), ("due" : Str), ("told" : Str), ("text" : Str), ("spot" : Str), ("bad" : Str), ("here" : Str), ("row" : Str), ("costs" : Str), ("odd" : Str), ("index" : Str), ("item" : Str), ("letter" : Str)]
def b_law : List St := [.asg (.name 1) (.call "_law_begun" [(.var 0)] []),
  .for_ (.name 2) (.range1 (.bin .val .add (.int 6) (.bi .val .min [(.bi .val .len [(.var 0)]), (.int 12)]))) [.asg (.name 6) (.call "_law_program" [(.var 1), (.int 3), (.int 5), (.int 3)] []),
  .asg (.tup [(.name 13), (.name 14), (.name 15)]) (.tup [(.call "_law_made" [(.var 6)] []), (.call "_law_row" [(.var 1), (.var 6), (.int 4)] []), (.call "_law_costs" [(.var 1), (.sub (.var 6) (.int 0))] [])]),
  .asg (.name 7) (.call "_law_low" [(.var 6), (.var 15)] []),
  .asg (.name 8) (.bi .val .sum [(.comp .val (.sub (.var 7) (.var 18)) (.name 18) (.seq (.var 14)) [] [18])]),
  .ifs (.cmp .ne (.lst .val [(.call "least_cost" [(.var 13), (.var 14), (.var 15)] []), (.callk "least_cost" [] ["costs", "row", "program"] [2, 1, 0] [(.bi .val .tuple [(.var 15)]), (.var 14), (.var 13)])]) (.lst .val [(.var 8), (.var 8)])) [.ret (.bl false)] [],
  .asg (.name 9) (.call "cost_paper" [(.var 13), (.var 14), (.var 15)] []),
  .ifs (.or [(.cmp .ne (.sub (.var 9) (.int 0)) (.var 8)), (.not (.call "_law_is_cheap" [(.var 6), (.var 14), (.var 15), (.var 9)] [])), (.not (.call "_law_is_cheap" [(.var 6), (.var 14), (.var 15), (.callk "cost_paper" [] ["costs", "row", "program"] [2, 1, 0] [(.var 15), (.var 14), (.var 13)])] []))]) [.ret (.bl false)] [],
  .asg (.name 10) (.call "_law_whole_text" [(.var 1), (.var 6), (.var 14), (.int 30)] []),
  .ifs (.or [(.cmp .lt (.bi .val .sum [(.comp .val (.sub (.var 15) (.var 19)) (.name 19) (.seq (.var 10)) [] [19])]) (.var 8)), (.cmp .ne (.call "least_cost" [(.var 13), (.var 14), (.bin .val .mul (.lst .val [(.int 1)]) (.sub (.var 6) (.int 0)))] []) (.call "norm_of" [(.var 13), (.var 14)] []))]) [.ret (.bl false)] [],
  .asg (.name 11) (.call "_law_draw" [(.var 1), (.bi .val .len [(.var 15)])] []),
  .asg (.name 12) (.bin .val .add (.lst .val [(.tup [.non, .non]), (.tup [(.bin .val .add (.var 15) (.lst .val [(.int 1)])), .non]), (.tup [(.str "11"), .non])]) (.comp .val (.tup [(.bin .val .add (.bin .val .add (.slice .val (.var 15) .abs (.var 11)) (.lst .val [(.var 18)])) (.slice .val (.var 15) (.bin .val .add (.var 11) (.int 1)) .abs)), (.var 11)]) (.name 18) (.seq (.lst .val [(.neg (.int 1)), (.int 1001), .non, (.bl true)])) [] [18])),
  .asg (.tup [(.name 16), (.name 17)]) (.call "_law_pick" [(.var 1), (.var 12)] []),
  .asg (.name 4) (.caught "_law_caught" (.call "least_cost" [(.var 13), (.var 14), (.var 16)] [])),
  .ifs (.or [(.not (.bi .val .isinstance [(.var 4), (.con "BadCosts" (.cls "BadCosts"))])), (.cmp .ne (.attr (.var 4) "index") (.var 17)), (.not (.bi .val .isinstance [(.caught "_law_caught" (.call "cost_paper" [(.var 13), (.tup [(.int 99)]), .non] [])), (.con "BadRow" (.cls "BadRow"))]))]) [.ret (.bl false)] []],
  .asg (.name 3) (.make "Program" [(.int 2), (.lst .val [(.lst .val [(.bin .val .mul (.tup [(.int 1)]) (.int 6)), .non]), (.lst .val [(.bin .val .mul (.tup [(.int 2)]) (.int 6)), .non]), (.lst .val [(.bin .val .mul (.tup [(.int 3)]) (.int 6)), .non]), (.lst .val [(.bin .val .mul (.tup [(.int 4)]) (.int 6)), .non]), (.lst .val [(.bin .val .mul (.tup [(.int 5)]) (.int 6)), .non]), (.lst .val [(.tup []), .non])])]),
  .ifs (.or [(.cmp .ne (.bi .val .len [(.sub (.call "cost_paper" [(.var 3), (.bin .val .mul (.tup [(.int 1)]) (.int 12)), (.lst .val [(.int 0), (.int 0)])] []) (.int 1))]) (.int 18660)), (.cmp .ne (.call "least_cost" [(.var 3), (.tup [(.int 0), (.int 0), (.int 0)]), (.lst .val [(.int 1000), (.int 0)])] []) (.int 27993000))]) [.ret (.bl false)] [],
  .asg (.name 4) (.caught "_law_caught" (.call "cost_paper" [(.var 3), (.tup [(.int 0), (.int 0), (.int 0)]), (.lst .val [(.int 0), (.int 0)])] [])),
  .ifs (.or [(.not (.bi .val .isinstance [(.var 4), (.con "TooMany" (.cls "TooMany"))])), (.cmp .ne (.attr (.var 4) "most") (.int 20000))]) [.ret (.bl false)] [],
  .asg (.name 5) (.make "Program" [(.int 2), (.lst .val [(.lst .val [(.tup [(.int 0), (.int 1)]), (.tup [])]), (.lst .val [.non, (.tup [])])])]),
  .ifs (.or [(.cmp .ne (.call "least_cost" [(.var 5), (.tup [(.int 0)]), (.lst .val [(.int 5), (.int 2)])] []) (.int 2)), (.cmp .ne (.sub (.call "cost_paper" [(.var 5), (.tup [(.int 0), (.int 1)]), (.lst .val [(.int 0), (.int 3)])] []) (.int 0)) (.int 6))]) [.ret (.bl false)] [],
  .ret (.bi .val .isinstance [(.caught "_law_caught" (.call "least_cost" [(.call "_law_pick" [(.var 1), (.lst .val [.non, (.int 5)])] []), .non, .non] [])), (.con "NoProgram" (.cls "NoProgram"))])]
def dp_law : Dep := { fs := [("_law_begun", F_law_begun), ("_law_program", F_law_program), ("_law_made", F_law_made), ("_law_row", F_law_row), ("_law_costs", F_law_costs), ("_law_low", F_law_low), ("least_cost", F_least_cost), ("cost_paper", F_cost_paper), ("_law_is_cheap", F_law_is_cheap), ("_law_whole_text", F_law_whole_text), ("norm_of", F_norm_of), ("_law_draw", F_law_draw), ("_law_pick", F_law_pick)], ms := [("Program", F_Program)] }
@[simp] theorem fs_law : dp_law.fs = [("_law_begun", F_law_begun), ("_law_program", F_law_program), ("_law_made", F_law_made), ("_law_row", F_law_row), ("_law_costs", F_law_costs), ("_law_low", F_law_low), ("least_cost", F_least_cost), ("cost_paper", F_cost_paper), ("_law_is_cheap", F_law_is_cheap), ("_law_whole_text", F_law_whole_text), ("norm_of", F_norm_of), ("_law_draw", F_law_draw), ("_law_pick", F_law_pick)] := rfl
@[simp] theorem ms_law : dp_law.ms = [("Program", F_Program)] := rfl
def F_law : Fn := run dp_law.phi 1 20 b_law
end FW

end

section
set_option Elab.async false
set_option linter.all false
set_option maxRecDepth 100000
namespace FW.K87
open PySem PySem.Spec PyProof.Rows L2
abbrev pw : Program := PySem.Challenge.pw_stacksure_k87_whole_least_costs_of_texts
abbrev rw : PySem.W.OpenLaw := PySem.Challenge.rw_stacksure_k87_whole_least_costs_of_texts
def topS (i : Nat) : Stmt := pw.main.body.getD i (.Pass ⟨0, 0, 0, 0⟩)
def clsS (i j : Nat) : Stmt := match topS i with
  | .ClassDef (body := b) .. => b.getD j (.Pass ⟨0, 0, 0, 0⟩)
  | _ => .Pass ⟨0, 0, 0, 0⟩
def pd : Pd where
  ins := ["Program"]
  exs := [("StackError", none), ("PartError", some ("PartError", "part")), ("ItemError", some ("ItemError", "index")), ("TooMany", some ("TooMany", "most")), ("BadProgram", some ("PartError", "part")), ("BadRow", some ("PartError", "part")), ("NoProgram", some ("PartError", "part")), ("BadCosts", some ("ItemError", "index"))]
  att := ["index", "letters", "most", "own_letters", "own_rules", "part", "rules"]
  prp := [("Program", "letters"), ("Program", "rules")]
  glo := ["is_number", "is_between", "is_list", "rule_right", "rules_right", "need_parts", "is_live_by", "live_in", "need_program", "calls_right", "row_right", "need_row", "rule_norm", "line_norm", "norms_by", "norm_by", "norm_of", "need_costs", "sum_over", "best_pair", "least_pairs", "cheapest_rule", "cheapest_text", "need_short", "least_cost", "cost_paper", "_law_begun", "_law_blend", "_law_draw", "_law_pick", "_law_live", "_law_program", "_law_made", "_law_row", "_law_step", "_law_after", "_law_norms", "_law_norm", "_law_least", "_law_whole_text", "_law_costs", "_law_low", "_law_whole", "_law_letters", "_law_is_cheap", "law", "_law_caught"]
  con := [("MOST_CALLS", (.int 6)), ("MOST_LETTERS", (.int 6)), ("MOST_PROCEDURES", (.int 12)), ("MOST_ROW", (.int 12)), ("MOST_COST", (.int 1000)), ("MOST_LEAST", (.int 20000)), ("Program", (.cls "Program")), ("StackError", (.cls "StackError")), ("PartError", (.cls "PartError")), ("ItemError", (.cls "ItemError")), ("TooMany", (.cls "TooMany")), ("BadProgram", (.cls "BadProgram")), ("BadRow", (.cls "BadRow")), ("NoProgram", (.cls "NoProgram")), ("BadCosts", (.cls "BadCosts"))]
  ds := [("need_program", [.non]), ("need_row", [.non])]
  ks := [("least_cost", [(["costs", "row", "program"], [2, 1, 0])]), ("cost_paper", [(["costs", "row", "program"], [2, 1, 0])])]
def d_ini_ItemError : DefZ := { pl := (.meth "ItemError" "__init__"), name := "__init__", qual := "ItemError.__init__", params := defArgs (clsS 3 0), body := defBody (clsS 3 0), scope := defScope (clsS 3 0), clo := some "ItemError" }
def d_ini_PartError : DefZ := { pl := (.meth "PartError" "__init__"), name := "__init__", qual := "PartError.__init__", params := defArgs (clsS 2 0), body := defBody (clsS 2 0), scope := defScope (clsS 2 0), clo := some "PartError" }
def d_ini_TooMany : DefZ := { pl := (.meth "TooMany" "__init__"), name := "__init__", qual := "TooMany.__init__", params := defArgs (clsS 4 0), body := defBody (clsS 4 0), scope := defScope (clsS 4 0), clo := some "TooMany" }
def d_is_number : DefZ := { pl := (.glo "is_number"), name := "is_number", qual := "is_number", params := defArgs (topS 10), body := defBody (topS 10), scope := defScope (topS 10) }
def d_is_between : DefZ := { pl := (.glo "is_between"), name := "is_between", qual := "is_between", params := defArgs (topS 11), body := defBody (topS 11), scope := defScope (topS 11) }
def d_is_list : DefZ := { pl := (.glo "is_list"), name := "is_list", qual := "is_list", params := defArgs (topS 12), body := defBody (topS 12), scope := defScope (topS 12) }
def d_rule_right : DefZ := { pl := (.glo "rule_right"), name := "rule_right", qual := "rule_right", params := defArgs (topS 18), body := defBody (topS 18), scope := defScope (topS 18) }
def d_rules_right : DefZ := { pl := (.glo "rules_right"), name := "rules_right", qual := "rules_right", params := defArgs (topS 19), body := defBody (topS 19), scope := defScope (topS 19) }
def d_need_parts : DefZ := { pl := (.glo "need_parts"), name := "need_parts", qual := "need_parts", params := defArgs (topS 20), body := defBody (topS 20), scope := defScope (topS 20) }
def d_is_live_by : DefZ := { pl := (.glo "is_live_by"), name := "is_live_by", qual := "is_live_by", params := defArgs (topS 21), body := defBody (topS 21), scope := defScope (topS 21) }
def d_live_in : DefZ := { pl := (.glo "live_in"), name := "live_in", qual := "live_in", params := defArgs (topS 22), body := defBody (topS 22), scope := defScope (topS 22) }
def d_Program_init : DefZ := { pl := (.meth "Program" "__init__"), name := "__init__", qual := "Program.__init__", params := defArgs (clsS 23 0), body := defBody (clsS 23 0), scope := defScope (clsS 23 0) }
def d_Program_letters : DefZ := { pl := (.get "Program" "letters"), name := "letters", qual := "Program.letters", params := defArgs (clsS 23 1), body := defBody (clsS 23 1), scope := defScope (clsS 23 1) }
def d_Program_rules : DefZ := { pl := (.get "Program" "rules"), name := "rules", qual := "Program.rules", params := defArgs (clsS 23 2), body := defBody (clsS 23 2), scope := defScope (clsS 23 2) }
def d_need_program : DefZ := { pl := (.glo "need_program"), name := "need_program", qual := "need_program", params := defArgs (topS 24), body := defBody (topS 24), scope := defScope (topS 24), dfl := [.non] }
def d_calls_right : DefZ := { pl := (.glo "calls_right"), name := "calls_right", qual := "calls_right", params := defArgs (topS 25), body := defBody (topS 25), scope := defScope (topS 25) }
def d_row_right : DefZ := { pl := (.glo "row_right"), name := "row_right", qual := "row_right", params := defArgs (topS 26), body := defBody (topS 26), scope := defScope (topS 26) }
def d_need_row : DefZ := { pl := (.glo "need_row"), name := "need_row", qual := "need_row", params := defArgs (topS 27), body := defBody (topS 27), scope := defScope (topS 27), dfl := [.non] }
def d_rule_norm : DefZ := { pl := (.glo "rule_norm"), name := "rule_norm", qual := "rule_norm", params := defArgs (topS 29), body := defBody (topS 29), scope := defScope (topS 29) }
def d_line_norm : DefZ := { pl := (.glo "line_norm"), name := "line_norm", qual := "line_norm", params := defArgs (topS 30), body := defBody (topS 30), scope := defScope (topS 30) }
def d_norms_by : DefZ := { pl := (.glo "norms_by"), name := "norms_by", qual := "norms_by", params := defArgs (topS 31), body := defBody (topS 31), scope := defScope (topS 31) }
def d_norm_by : DefZ := { pl := (.glo "norm_by"), name := "norm_by", qual := "norm_by", params := defArgs (topS 32), body := defBody (topS 32), scope := defScope (topS 32) }
def d_norm_of : DefZ := { pl := (.glo "norm_of"), name := "norm_of", qual := "norm_of", params := defArgs (topS 33), body := defBody (topS 33), scope := defScope (topS 33) }
def d_need_costs : DefZ := { pl := (.glo "need_costs"), name := "need_costs", qual := "need_costs", params := defArgs (topS 37), body := defBody (topS 37), scope := defScope (topS 37) }
def d_sum_over : DefZ := { pl := (.glo "sum_over"), name := "sum_over", qual := "sum_over", params := defArgs (topS 38), body := defBody (topS 38), scope := defScope (topS 38) }
def d_best_pair : DefZ := { pl := (.glo "best_pair"), name := "best_pair", qual := "best_pair", params := defArgs (topS 39), body := defBody (topS 39), scope := defScope (topS 39) }
def d_least_pairs : DefZ := { pl := (.glo "least_pairs"), name := "least_pairs", qual := "least_pairs", params := defArgs (topS 40), body := defBody (topS 40), scope := defScope (topS 40) }
def d_cheapest_rule : DefZ := { pl := (.glo "cheapest_rule"), name := "cheapest_rule", qual := "cheapest_rule", params := defArgs (topS 41), body := defBody (topS 41), scope := defScope (topS 41) }
def d_cheapest_text : DefZ := { pl := (.glo "cheapest_text"), name := "cheapest_text", qual := "cheapest_text", params := defArgs (topS 42), body := defBody (topS 42), scope := defScope (topS 42) }
def d_need_short : DefZ := { pl := (.glo "need_short"), name := "need_short", qual := "need_short", params := defArgs (topS 43), body := defBody (topS 43), scope := defScope (topS 43) }
def d_least_cost : DefZ := { pl := (.glo "least_cost"), name := "least_cost", qual := "least_cost", params := defArgs (topS 44), body := defBody (topS 44), scope := defScope (topS 44) }
def d_cost_paper : DefZ := { pl := (.glo "cost_paper"), name := "cost_paper", qual := "cost_paper", params := defArgs (topS 45), body := defBody (topS 45), scope := defScope (topS 45) }
def d_law_begun : DefZ := { pl := (.glo "_law_begun"), name := "_law_begun", qual := "_law_begun", params := defArgs (topS 47), body := defBody (topS 47), scope := defScope (topS 47) }
def d_law_blend : DefZ := { pl := (.glo "_law_blend"), name := "_law_blend", qual := "_law_blend", params := defArgs (topS 48), body := defBody (topS 48), scope := defScope (topS 48) }
def d_law_draw : DefZ := { pl := (.glo "_law_draw"), name := "_law_draw", qual := "_law_draw", params := defArgs (topS 49), body := defBody (topS 49), scope := defScope (topS 49) }
def d_law_pick : DefZ := { pl := (.glo "_law_pick"), name := "_law_pick", qual := "_law_pick", params := defArgs (topS 50), body := defBody (topS 50), scope := defScope (topS 50) }
def d_law_live : DefZ := { pl := (.glo "_law_live"), name := "_law_live", qual := "_law_live", params := defArgs (topS 52), body := defBody (topS 52), scope := defScope (topS 52) }
def d_law_program : DefZ := { pl := (.glo "_law_program"), name := "_law_program", qual := "_law_program", params := defArgs (topS 53), body := defBody (topS 53), scope := defScope (topS 53) }
def d_law_made : DefZ := { pl := (.glo "_law_made"), name := "_law_made", qual := "_law_made", params := defArgs (topS 54), body := defBody (topS 54), scope := defScope (topS 54) }
def d_law_row : DefZ := { pl := (.glo "_law_row"), name := "_law_row", qual := "_law_row", params := defArgs (topS 55), body := defBody (topS 55), scope := defScope (topS 55) }
def d_law_step : DefZ := { pl := (.glo "_law_step"), name := "_law_step", qual := "_law_step", params := defArgs (topS 56), body := defBody (topS 56), scope := defScope (topS 56) }
def d_law_after : DefZ := { pl := (.glo "_law_after"), name := "_law_after", qual := "_law_after", params := defArgs (topS 57), body := defBody (topS 57), scope := defScope (topS 57) }
def d_law_norms : DefZ := { pl := (.glo "_law_norms"), name := "_law_norms", qual := "_law_norms", params := defArgs (topS 58), body := defBody (topS 58), scope := defScope (topS 58) }
def d_law_norm : DefZ := { pl := (.glo "_law_norm"), name := "_law_norm", qual := "_law_norm", params := defArgs (topS 59), body := defBody (topS 59), scope := defScope (topS 59) }
def d_law_least : DefZ := { pl := (.glo "_law_least"), name := "_law_least", qual := "_law_least", params := defArgs (topS 60), body := defBody (topS 60), scope := defScope (topS 60) }
def d_law_whole_text : DefZ := { pl := (.glo "_law_whole_text"), name := "_law_whole_text", qual := "_law_whole_text", params := defArgs (topS 61), body := defBody (topS 61), scope := defScope (topS 61) }
def d_law_costs : DefZ := { pl := (.glo "_law_costs"), name := "_law_costs", qual := "_law_costs", params := defArgs (topS 62), body := defBody (topS 62), scope := defScope (topS 62) }
def d_law_low : DefZ := { pl := (.glo "_law_low"), name := "_law_low", qual := "_law_low", params := defArgs (topS 63), body := defBody (topS 63), scope := defScope (topS 63) }
def d_law_whole : DefZ := { pl := (.glo "_law_whole"), name := "_law_whole", qual := "_law_whole", params := defArgs (topS 64), body := defBody (topS 64), scope := defScope (topS 64) }
def d_law_letters : DefZ := { pl := (.glo "_law_letters"), name := "_law_letters", qual := "_law_letters", params := defArgs (topS 65), body := defBody (topS 65), scope := defScope (topS 65) }
def d_law_is_cheap : DefZ := { pl := (.glo "_law_is_cheap"), name := "_law_is_cheap", qual := "_law_is_cheap", params := defArgs (topS 66), body := defBody (topS 66), scope := defScope (topS 66) }
def d_law : DefZ := { pl := (.glo "law"), name := "law", qual := "law", params := defArgs (topS 67), body := defBody (topS 67), scope := defScope (topS 67) }
def d_law_caught : DefZ := { pl := (.glo "_law_caught"), name := "_law_caught", qual := "_law_caught", params := defArgs (topS 51), body := defBody (topS 51), scope := defScope (topS 51) }
def P : Pg where
  pd := pd
  fn := [d_ini_ItemError, d_ini_PartError, d_ini_TooMany, d_is_number, d_is_between, d_is_list, d_rule_right, d_rules_right, d_need_parts, d_is_live_by, d_live_in, d_Program_init, d_Program_letters, d_Program_rules, d_need_program, d_calls_right, d_row_right, d_need_row, d_rule_norm, d_line_norm, d_norms_by, d_norm_by, d_norm_of, d_need_costs, d_sum_over, d_best_pair, d_least_pairs, d_cheapest_rule, d_cheapest_text, d_need_short, d_least_cost, d_cost_paper, d_law_begun, d_law_blend, d_law_draw, d_law_pick, d_law_live, d_law_program, d_law_made, d_law_row, d_law_step, d_law_after, d_law_norms, d_law_norm, d_law_least, d_law_whole_text, d_law_costs, d_law_low, d_law_whole, d_law_letters, d_law_is_cheap, d_law, d_law_caught]
  caus := true
  tf := [(("law" : Str), none)]
  file := pw.main.file
section
variable [Tb] {w : World} {K : PySem.W.Frag} {mg : Mg} {base : Heap} (H : HdK P K mg)
include H
theorem x_PartError : RsE pw w K mg base 1 "PartError" "part" := by
  obtain ⟨fd, a, hf⟩ := H.fn d_ini_PartError (List.mem_of_getElem? (i := 1) rfl)
  exact rsE_z (sf := "self") (pf := "part") H.pk (List.mem_of_getElem? (i := 1) rfl) a (hf (by decide)) (by decide +kernel) rfl rfl rfl (by decide +kernel) (by decide +kernel) (by decide +kernel) rfl (by decide +kernel) ⟨by decide, by decide⟩ ⟨by decide, by decide⟩ (fun _ _ _ _ _ _ _ us hl => match us, hl with | [_, _], _ => rfl)
theorem x_ItemError : RsE pw w K mg base 1 "ItemError" "index" := by
  obtain ⟨fd, a, hf⟩ := H.fn d_ini_ItemError (List.mem_of_getElem? (i := 0) rfl)
  exact rsE_z (sf := "self") (pf := "index") H.pk (List.mem_of_getElem? (i := 2) rfl) a (hf (by decide)) (by decide +kernel) rfl rfl rfl (by decide +kernel) (by decide +kernel) (by decide +kernel) rfl (by decide +kernel) ⟨by decide, by decide⟩ ⟨by decide, by decide⟩ (fun _ _ _ _ _ _ _ us hl => match us, hl with | [_, _], _ => rfl)
theorem x_TooMany : RsE pw w K mg base 1 "TooMany" "most" := by
  obtain ⟨fd, a, hf⟩ := H.fn d_ini_TooMany (List.mem_of_getElem? (i := 2) rfl)
  exact rsE_z (sf := "self") (pf := "most") H.pk (List.mem_of_getElem? (i := 3) rfl) a (hf (by decide)) (by decide +kernel) rfl rfl rfl (by decide +kernel) (by decide +kernel) (by decide +kernel) rfl (by decide +kernel) ⟨by decide, by decide⟩ ⟨by decide, by decide⟩ (fun _ _ _ _ _ _ _ us hl => match us, hl with | [_, _], _ => rfl)
theorem x_BadProgram : RsE pw w K mg base 1 "BadProgram" "part" := by
  obtain ⟨fd, a, hf⟩ := H.fn d_ini_PartError (List.mem_of_getElem? (i := 1) rfl)
  exact rsE_z (sf := "self") (pf := "part") H.pk (List.mem_of_getElem? (i := 4) rfl) a (hf (by decide)) (by decide +kernel) rfl rfl rfl (by decide +kernel) (by decide +kernel) (by decide +kernel) rfl (by decide +kernel) ⟨by decide, by decide⟩ ⟨by decide, by decide⟩ (fun _ _ _ _ _ _ _ us hl => match us, hl with | [_, _], _ => rfl)
theorem x_BadRow : RsE pw w K mg base 1 "BadRow" "part" := by
  obtain ⟨fd, a, hf⟩ := H.fn d_ini_PartError (List.mem_of_getElem? (i := 1) rfl)
  exact rsE_z (sf := "self") (pf := "part") H.pk (List.mem_of_getElem? (i := 5) rfl) a (hf (by decide)) (by decide +kernel) rfl rfl rfl (by decide +kernel) (by decide +kernel) (by decide +kernel) rfl (by decide +kernel) ⟨by decide, by decide⟩ ⟨by decide, by decide⟩ (fun _ _ _ _ _ _ _ us hl => match us, hl with | [_, _], _ => rfl)
theorem x_NoProgram : RsE pw w K mg base 1 "NoProgram" "part" := by
  obtain ⟨fd, a, hf⟩ := H.fn d_ini_PartError (List.mem_of_getElem? (i := 1) rfl)
  exact rsE_z (sf := "self") (pf := "part") H.pk (List.mem_of_getElem? (i := 6) rfl) a (hf (by decide)) (by decide +kernel) rfl rfl rfl (by decide +kernel) (by decide +kernel) (by decide +kernel) rfl (by decide +kernel) ⟨by decide, by decide⟩ ⟨by decide, by decide⟩ (fun _ _ _ _ _ _ _ us hl => match us, hl with | [_, _], _ => rfl)
theorem x_BadCosts : RsE pw w K mg base 1 "BadCosts" "index" := by
  obtain ⟨fd, a, hf⟩ := H.fn d_ini_ItemError (List.mem_of_getElem? (i := 0) rfl)
  exact rsE_z (sf := "self") (pf := "index") H.pk (List.mem_of_getElem? (i := 7) rfl) a (hf (by decide)) (by decide +kernel) rfl rfl rfl (by decide +kernel) (by decide +kernel) (by decide +kernel) rfl (by decide +kernel) ⟨by decide, by decide⟩ ⟨by decide, by decide⟩ (fun _ _ _ _ _ _ _ us hl => match us, hl with | [_, _], _ => rfl)
theorem e_is_number : FnE pw w K mg base 2 (pd.dsOk "is_number") (pd.ksOk "is_number") "is_number" F_is_number := by
  obtain ⟨fd, a, _⟩ := H.fn d_is_number (List.mem_of_getElem? (i := 3) rfl)
  exact fnE_z (N := n_is_number) (ps := [("thing" : Str)]) a rfl (H.pk.glo "is_number" (by decide +kernel)) (goodB_of (k := 0) (d := dp_is_number) H.pk (.nil) (.nil) (.nil) (.nil)) (by decide +kernel) (by decide +kernel) (ds_no rfl ((a.funD rfl).bindsN (fun _ _ _ _ _ _ us hl => match us, hl with | [_], _ => rfl))) (ks_of rfl (.nil))
theorem e_is_between : FnE pw w K mg base 4 (pd.dsOk "is_between") (pd.ksOk "is_between") "is_between" F_is_between := by
  obtain ⟨fd, a, _⟩ := H.fn d_is_between (List.mem_of_getElem? (i := 4) rfl)
  exact fnE_z (N := n_is_between) (ps := [("thing" : Str), ("low" : Str), ("high" : Str)]) a rfl (H.pk.glo "is_between" (by decide +kernel)) (goodB_of (k := 2) (d := dp_is_between) H.pk (.cons (FnE.mono (e_is_number H) (by decide)) (.nil)) (.nil) (.nil) (.nil)) (by decide +kernel) (by decide +kernel) (ds_no rfl ((a.funD rfl).bindsN (fun _ _ _ _ _ _ us hl => match us, hl with | [_, _, _], _ => rfl))) (ks_of rfl (.nil))
theorem e_is_list : FnE pw w K mg base 2 (pd.dsOk "is_list") (pd.ksOk "is_list") "is_list" F_is_list := by
  obtain ⟨fd, a, _⟩ := H.fn d_is_list (List.mem_of_getElem? (i := 5) rfl)
  exact fnE_z (N := n_is_list) (ps := [("thing" : Str)]) a rfl (H.pk.glo "is_list" (by decide +kernel)) (goodB_of (k := 0) (d := dp_is_list) H.pk (.nil) (.nil) (.nil) (.nil)) (by decide +kernel) (by decide +kernel) (ds_no rfl ((a.funD rfl).bindsN (fun _ _ _ _ _ _ us hl => match us, hl with | [_], _ => rfl))) (ks_of rfl (.nil))
theorem e_rule_right : FnE pw w K mg base 6 (pd.dsOk "rule_right") (pd.ksOk "rule_right") "rule_right" F_rule_right := by
  obtain ⟨fd, a, _⟩ := H.fn d_rule_right (List.mem_of_getElem? (i := 6) rfl)
  exact fnE_z (N := n_rule_right) (ps := [("many" : Str), ("thing" : Str)]) a rfl (H.pk.glo "rule_right" (by decide +kernel)) (goodB_of (k := 4) (d := dp_rule_right) H.pk (.cons (FnE.mono (e_is_between H) (by decide)) (.nil)) (.nil) (.nil) (.nil)) (by decide +kernel) (by decide +kernel) (ds_no rfl ((a.funD rfl).bindsN (fun _ _ _ _ _ _ us hl => match us, hl with | [_, _], _ => rfl))) (ks_of rfl (.nil))
theorem e_rules_right : FnE pw w K mg base 8 (pd.dsOk "rules_right") (pd.ksOk "rules_right") "rules_right" F_rules_right := by
  obtain ⟨fd, a, _⟩ := H.fn d_rules_right (List.mem_of_getElem? (i := 7) rfl)
  exact fnE_z (N := n_rules_right) (ps := [("letters" : Str), ("thing" : Str)]) a rfl (H.pk.glo "rules_right" (by decide +kernel)) (goodB_of (k := 6) (d := dp_rules_right) H.pk (.cons (FnE.mono (e_is_list H) (by decide)) (.cons (FnE.mono (e_rule_right H) (by decide)) (.nil))) (.nil) (.nil) (.nil)) (by decide +kernel) (by decide +kernel) (ds_no rfl ((a.funD rfl).bindsN (fun _ _ _ _ _ _ us hl => match us, hl with | [_, _], _ => rfl))) (ks_of rfl (.nil))
theorem e_need_parts : FnE pw w K mg base 10 (pd.dsOk "need_parts") (pd.ksOk "need_parts") "need_parts" F_need_parts := by
  obtain ⟨fd, a, _⟩ := H.fn d_need_parts (List.mem_of_getElem? (i := 8) rfl)
  exact fnE_z (N := n_need_parts) (ps := [("letters" : Str), ("rules" : Str)]) a rfl (H.pk.glo "need_parts" (by decide +kernel)) (goodB_of (k := 8) (d := dp_need_parts) H.pk (.cons (FnE.mono (e_is_between H) (by decide)) (.cons (FnE.mono (e_rules_right H) (by decide)) (.nil))) (.nil) (.cons (RsE.mono (x_BadProgram H) (by decide)) (.nil)) (.nil)) (by decide +kernel) (by decide +kernel) (ds_no rfl ((a.funD rfl).bindsN (fun _ _ _ _ _ _ us hl => match us, hl with | [_, _], _ => rfl))) (ks_of rfl (.nil))
theorem e_is_live_by : FnE pw w K mg base 2 (pd.dsOk "is_live_by") (pd.ksOk "is_live_by") "is_live_by" F_is_live_by := by
  obtain ⟨fd, a, _⟩ := H.fn d_is_live_by (List.mem_of_getElem? (i := 9) rfl)
  exact fnE_z (N := n_is_live_by) (ps := [("line" : Str), ("live" : Str)]) a rfl (H.pk.glo "is_live_by" (by decide +kernel)) (goodB_of (k := 0) (d := dp_is_live_by) H.pk (.nil) (.nil) (.nil) (.nil)) (by decide +kernel) (by decide +kernel) (ds_no rfl ((a.funD rfl).bindsN (fun _ _ _ _ _ _ us hl => match us, hl with | [_, _], _ => rfl))) (ks_of rfl (.nil))
theorem e_live_in : FnE pw w K mg base 4 (pd.dsOk "live_in") (pd.ksOk "live_in") "live_in" F_live_in := by
  obtain ⟨fd, a, _⟩ := H.fn d_live_in (List.mem_of_getElem? (i := 10) rfl)
  exact fnE_z (N := n_live_in) (ps := [("rules" : Str)]) a rfl (H.pk.glo "live_in" (by decide +kernel)) (goodB_of (k := 2) (d := dp_live_in) H.pk (.cons (FnE.mono (e_is_live_by H) (by decide)) (.nil)) (.nil) (.nil) (.nil)) (by decide +kernel) (by decide +kernel) (ds_no rfl ((a.funD rfl).bindsN (fun _ _ _ _ _ _ us hl => match us, hl with | [_], _ => rfl))) (ks_of rfl (.nil))
theorem m_Program : MkE pw w K mg base 12 "Program" F_Program := by
  obtain ⟨fd, a, _⟩ := H.fn d_Program_init (List.mem_of_getElem? (i := 11) rfl)
  exact mkE_z (N := n_Program_init) (ps := [("self" : Str), ("letters" : Str), ("rules" : Str)]) H.pk (by decide +kernel) a rfl rfl (goodB_of (k := 10) (d := dp_Program_init) H.pk (.cons (FnE.mono (e_need_parts H) (by decide)) (.cons (FnE.mono (e_live_in H) (by decide)) (.nil))) (.nil) (.cons (RsE.mono (x_BadProgram H) (by decide)) (.nil)) (.nil)) (by decide +kernel) (by decide +kernel) ((a.funD rfl).bindsN (fun _ _ _ _ _ _ us hl => match us, hl with | [_, _, _], _ => rfl))
theorem q_Program_letters : PropE pw w K mg base 2 "Program" "letters" F_Program_letters := by
  obtain ⟨fd, a, _⟩ := H.fn d_Program_letters (List.mem_of_getElem? (i := 12) rfl)
  exact propE_z (N := n_Program_letters) (ps := [("self" : Str)]) H.pk (by decide +kernel) (by decide +kernel) a rfl rfl (goodB_of (k := 0) (d := dp_Program_letters) H.pk (.nil) (.nil) (.nil) (.nil)) (by decide +kernel) (by decide +kernel) ((a.funD rfl).bindsN (fun _ _ _ _ _ _ us hl => match us, hl with | [_], _ => rfl))
theorem q_Program_rules : PropE pw w K mg base 2 "Program" "rules" F_Program_rules := by
  obtain ⟨fd, a, _⟩ := H.fn d_Program_rules (List.mem_of_getElem? (i := 13) rfl)
  exact propE_z (N := n_Program_rules) (ps := [("self" : Str)]) H.pk (by decide +kernel) (by decide +kernel) a rfl rfl (goodB_of (k := 0) (d := dp_Program_rules) H.pk (.nil) (.nil) (.nil) (.nil)) (by decide +kernel) (by decide +kernel) ((a.funD rfl).bindsN (fun _ _ _ _ _ _ us hl => match us, hl with | [_], _ => rfl))
theorem e_need_program : FnE pw w K mg base 3 (pd.dsOk "need_program") (pd.ksOk "need_program") "need_program" F_need_program := by
  obtain ⟨fd, a, _⟩ := H.fn d_need_program (List.mem_of_getElem? (i := 14) rfl)
  have F := a.funD rfl
  obtain ⟨du0, v0, B0⟩ := F.binds1 (ps := [("program" : Str), ("part" : Str)]) 2 1 (by decide) rfl (fun _ _ _ _ _ _ _ us its h1 h2 => match us, its, h1, h2 with | [_, _], [_], _, _ => ⟨_, rfl, rfl⟩)
  have e0 : du0 = [] := List.length_eq_zero_iff.mp v0.length.symm
  subst e0
  have B1 := F.binds1 (ps := [("program" : Str), ("part" : Str)]) 1 0 (by decide) rfl (fun _ _ _ _ _ _ _ us its h1 h2 => match us, its, h1, h2 with | [_], [_], _, _ => ⟨_, rfl, rfl⟩)
  exact fnE_z (N := n_need_program) (ps := [("program" : Str), ("part" : Str)]) a rfl (H.pk.glo "need_program" (by decide +kernel)) (goodB_of (k := 1) (d := dp_need_program) H.pk (.nil) (.nil) (.cons (RsE.mono (x_NoProgram H) (by decide)) (.nil)) (.nil)) (by decide +kernel) (by decide +kernel) (ds_one rfl rfl B0 B1) (ks_of rfl (.nil))
theorem e_calls_right : FnE pw w K mg base 6 (pd.dsOk "calls_right") (pd.ksOk "calls_right") "calls_right" F_calls_right := by
  obtain ⟨fd, a, _⟩ := H.fn d_calls_right (List.mem_of_getElem? (i := 15) rfl)
  exact fnE_z (N := n_calls_right) (ps := [("program" : Str), ("thing" : Str)]) a rfl (H.pk.glo "calls_right" (by decide +kernel)) (goodB_of (k := 4) (d := dp_calls_right) H.pk (.cons (FnE.mono (e_is_between H) (by decide)) (.nil)) (.nil) (.nil) (.cons (PropE.mono (q_Program_rules H) (by decide)) (.nil))) (by decide +kernel) (by decide +kernel) (ds_no rfl ((a.funD rfl).bindsN (fun _ _ _ _ _ _ us hl => match us, hl with | [_, _], _ => rfl))) (ks_of rfl (.nil))
theorem e_row_right : FnE pw w K mg base 8 (pd.dsOk "row_right") (pd.ksOk "row_right") "row_right" F_row_right := by
  obtain ⟨fd, a, _⟩ := H.fn d_row_right (List.mem_of_getElem? (i := 16) rfl)
  exact fnE_z (N := n_row_right) (ps := [("program" : Str), ("thing" : Str)]) a rfl (H.pk.glo "row_right" (by decide +kernel)) (goodB_of (k := 6) (d := dp_row_right) H.pk (.cons (FnE.mono (e_calls_right H) (by decide)) (.nil)) (.nil) (.nil) (.nil)) (by decide +kernel) (by decide +kernel) (ds_no rfl ((a.funD rfl).bindsN (fun _ _ _ _ _ _ us hl => match us, hl with | [_, _], _ => rfl))) (ks_of rfl (.nil))
theorem e_need_row : FnE pw w K mg base 10 (pd.dsOk "need_row") (pd.ksOk "need_row") "need_row" F_need_row := by
  obtain ⟨fd, a, _⟩ := H.fn d_need_row (List.mem_of_getElem? (i := 17) rfl)
  have F := a.funD rfl
  obtain ⟨du0, v0, B0⟩ := F.binds1 (ps := [("program" : Str), ("row" : Str), ("part" : Str)]) 3 1 (by decide) rfl (fun _ _ _ _ _ _ _ us its h1 h2 => match us, its, h1, h2 with | [_, _, _], [_], _, _ => ⟨_, rfl, rfl⟩)
  have e0 : du0 = [] := List.length_eq_zero_iff.mp v0.length.symm
  subst e0
  have B1 := F.binds1 (ps := [("program" : Str), ("row" : Str), ("part" : Str)]) 2 0 (by decide) rfl (fun _ _ _ _ _ _ _ us its h1 h2 => match us, its, h1, h2 with | [_, _], [_], _, _ => ⟨_, rfl, rfl⟩)
  exact fnE_z (N := n_need_row) (ps := [("program" : Str), ("row" : Str), ("part" : Str)]) a rfl (H.pk.glo "need_row" (by decide +kernel)) (goodB_of (k := 8) (d := dp_need_row) H.pk (.cons (FnE.mono (e_row_right H) (by decide)) (.nil)) (.nil) (.cons (RsE.mono (x_BadRow H) (by decide)) (.nil)) (.nil)) (by decide +kernel) (by decide +kernel) (ds_one rfl rfl B0 B1) (ks_of rfl (.nil))
theorem e_rule_norm : FnE pw w K mg base 2 (pd.dsOk "rule_norm") (pd.ksOk "rule_norm") "rule_norm" F_rule_norm := by
  obtain ⟨fd, a, _⟩ := H.fn d_rule_norm (List.mem_of_getElem? (i := 18) rfl)
  exact fnE_z (N := n_rule_norm) (ps := [("rule" : Str), ("known" : Str)]) a rfl (H.pk.glo "rule_norm" (by decide +kernel)) (goodB_of (k := 0) (d := dp_rule_norm) H.pk (.nil) (.nil) (.nil) (.nil)) (by decide +kernel) (by decide +kernel) (ds_no rfl ((a.funD rfl).bindsN (fun _ _ _ _ _ _ us hl => match us, hl with | [_, _], _ => rfl))) (ks_of rfl (.nil))
theorem e_line_norm : FnE pw w K mg base 4 (pd.dsOk "line_norm") (pd.ksOk "line_norm") "line_norm" F_line_norm := by
  obtain ⟨fd, a, _⟩ := H.fn d_line_norm (List.mem_of_getElem? (i := 19) rfl)
  exact fnE_z (N := n_line_norm) (ps := [("line" : Str), ("known" : Str)]) a rfl (H.pk.glo "line_norm" (by decide +kernel)) (goodB_of (k := 2) (d := dp_line_norm) H.pk (.cons (FnE.mono (e_rule_norm H) (by decide)) (.nil)) (.nil) (.nil) (.nil)) (by decide +kernel) (by decide +kernel) (ds_no rfl ((a.funD rfl).bindsN (fun _ _ _ _ _ _ us hl => match us, hl with | [_, _], _ => rfl))) (ks_of rfl (.nil))
theorem e_norms_by : FnE pw w K mg base 6 (pd.dsOk "norms_by") (pd.ksOk "norms_by") "norms_by" F_norms_by := by
  obtain ⟨fd, a, _⟩ := H.fn d_norms_by (List.mem_of_getElem? (i := 20) rfl)
  exact fnE_z (N := n_norms_by) (ps := [("rules" : Str)]) a rfl (H.pk.glo "norms_by" (by decide +kernel)) (goodB_of (k := 4) (d := dp_norms_by) H.pk (.cons (FnE.mono (e_line_norm H) (by decide)) (.nil)) (.nil) (.nil) (.nil)) (by decide +kernel) (by decide +kernel) (ds_no rfl ((a.funD rfl).bindsN (fun _ _ _ _ _ _ us hl => match us, hl with | [_], _ => rfl))) (ks_of rfl (.nil))
theorem e_norm_by : FnE pw w K mg base 2 (pd.dsOk "norm_by") (pd.ksOk "norm_by") "norm_by" F_norm_by := by
  obtain ⟨fd, a, _⟩ := H.fn d_norm_by (List.mem_of_getElem? (i := 21) rfl)
  exact fnE_z (N := n_norm_by) (ps := [("numbers" : Str), ("row" : Str)]) a rfl (H.pk.glo "norm_by" (by decide +kernel)) (goodB_of (k := 0) (d := dp_norm_by) H.pk (.nil) (.nil) (.nil) (.nil)) (by decide +kernel) (by decide +kernel) (ds_no rfl ((a.funD rfl).bindsN (fun _ _ _ _ _ _ us hl => match us, hl with | [_, _], _ => rfl))) (ks_of rfl (.nil))
theorem e_norm_of : FnE pw w K mg base 12 (pd.dsOk "norm_of") (pd.ksOk "norm_of") "norm_of" F_norm_of := by
  obtain ⟨fd, a, _⟩ := H.fn d_norm_of (List.mem_of_getElem? (i := 22) rfl)
  exact fnE_z (N := n_norm_of) (ps := [("program" : Str), ("row" : Str)]) a rfl (H.pk.glo "norm_of" (by decide +kernel)) (goodB_of (k := 10) (d := dp_norm_of) H.pk (.cons (FnE.mono (e_need_program H) (by decide)) (.cons (FnE.mono (e_need_row H) (by decide)) (.cons (FnE.mono (e_norm_by H) (by decide)) (.cons (FnE.mono (e_norms_by H) (by decide)) (.nil))))) (.nil) (.nil) (.cons (PropE.mono (q_Program_rules H) (by decide)) (.nil))) (by decide +kernel) (by decide +kernel) (ds_no rfl ((a.funD rfl).bindsN (fun _ _ _ _ _ _ us hl => match us, hl with | [_, _], _ => rfl))) (ks_of rfl (.nil))
theorem e_need_costs : FnE pw w K mg base 12 (pd.dsOk "need_costs") (pd.ksOk "need_costs") "need_costs" F_need_costs := by
  obtain ⟨fd, a, _⟩ := H.fn d_need_costs (List.mem_of_getElem? (i := 23) rfl)
  exact fnE_z (N := n_need_costs) (ps := [("program" : Str), ("row" : Str), ("costs" : Str)]) a rfl (H.pk.glo "need_costs" (by decide +kernel)) (goodB_of (k := 10) (d := dp_need_costs) H.pk (.cons (FnE.mono (e_need_program H) (by decide)) (.cons (FnE.mono (e_need_row H) (by decide)) (.cons (FnE.mono (e_is_list H) (by decide)) (.cons (FnE.mono (e_is_between H) (by decide)) (.nil))))) (.nil) (.cons (RsE.mono (x_BadCosts H) (by decide)) (.nil)) (.cons (PropE.mono (q_Program_letters H) (by decide)) (.nil))) (by decide +kernel) (by decide +kernel) (ds_no rfl ((a.funD rfl).bindsN (fun _ _ _ _ _ _ us hl => match us, hl with | [_, _, _], _ => rfl))) (ks_of rfl (.nil))
theorem e_sum_over : FnE pw w K mg base 2 (pd.dsOk "sum_over") (pd.ksOk "sum_over") "sum_over" F_sum_over := by
  obtain ⟨fd, a, _⟩ := H.fn d_sum_over (List.mem_of_getElem? (i := 24) rfl)
  exact fnE_z (N := n_sum_over) (ps := [("table" : Str), ("rule" : Str)]) a rfl (H.pk.glo "sum_over" (by decide +kernel)) (goodB_of (k := 0) (d := dp_sum_over) H.pk (.nil) (.nil) (.nil) (.nil)) (by decide +kernel) (by decide +kernel) (ds_no rfl ((a.funD rfl).bindsN (fun _ _ _ _ _ _ us hl => match us, hl with | [_, _], _ => rfl))) (ks_of rfl (.nil))
theorem e_best_pair : FnE pw w K mg base 4 (pd.dsOk "best_pair") (pd.ksOk "best_pair") "best_pair" F_best_pair := by
  obtain ⟨fd, a, _⟩ := H.fn d_best_pair (List.mem_of_getElem? (i := 25) rfl)
  exact fnE_z (N := n_best_pair) (ps := [("line" : Str), ("costs" : Str), ("table" : Str)]) a rfl (H.pk.glo "best_pair" (by decide +kernel)) (goodB_of (k := 2) (d := dp_best_pair) H.pk (.cons (FnE.mono (e_sum_over H) (by decide)) (.nil)) (.nil) (.nil) (.nil)) (by decide +kernel) (by decide +kernel) (ds_no rfl ((a.funD rfl).bindsN (fun _ _ _ _ _ _ us hl => match us, hl with | [_, _, _], _ => rfl))) (ks_of rfl (.nil))
theorem e_least_pairs : FnE pw w K mg base 6 (pd.dsOk "least_pairs") (pd.ksOk "least_pairs") "least_pairs" F_least_pairs := by
  obtain ⟨fd, a, _⟩ := H.fn d_least_pairs (List.mem_of_getElem? (i := 26) rfl)
  exact fnE_z (N := n_least_pairs) (ps := [("rules" : Str), ("costs" : Str)]) a rfl (H.pk.glo "least_pairs" (by decide +kernel)) (goodB_of (k := 4) (d := dp_least_pairs) H.pk (.cons (FnE.mono (e_best_pair H) (by decide)) (.nil)) (.nil) (.nil) (.nil)) (by decide +kernel) (by decide +kernel) (ds_no rfl ((a.funD rfl).bindsN (fun _ _ _ _ _ _ us hl => match us, hl with | [_, _], _ => rfl))) (ks_of rfl (.nil))
theorem e_cheapest_rule : FnE pw w K mg base 4 (pd.dsOk "cheapest_rule") (pd.ksOk "cheapest_rule") "cheapest_rule" F_cheapest_rule := by
  obtain ⟨fd, a, _⟩ := H.fn d_cheapest_rule (List.mem_of_getElem? (i := 27) rfl)
  exact fnE_z (N := n_cheapest_rule) (ps := [("line" : Str), ("costs" : Str), ("table" : Str), ("pair" : Str)]) a rfl (H.pk.glo "cheapest_rule" (by decide +kernel)) (goodB_of (k := 2) (d := dp_cheapest_rule) H.pk (.cons (FnE.mono (e_sum_over H) (by decide)) (.nil)) (.nil) (.nil) (.nil)) (by decide +kernel) (by decide +kernel) (ds_no rfl ((a.funD rfl).bindsN (fun _ _ _ _ _ _ us hl => match us, hl with | [_, _, _, _], _ => rfl))) (ks_of rfl (.nil))
theorem e_cheapest_text : FnE pw w K mg base 6 (pd.dsOk "cheapest_text") (pd.ksOk "cheapest_text") "cheapest_text" F_cheapest_text := by
  obtain ⟨fd, a, _⟩ := H.fn d_cheapest_text (List.mem_of_getElem? (i := 28) rfl)
  exact fnE_z (N := n_cheapest_text) (ps := [("rules" : Str), ("costs" : Str), ("table" : Str), ("row" : Str)]) a rfl (H.pk.glo "cheapest_text" (by decide +kernel)) (goodB_of (k := 4) (d := dp_cheapest_text) H.pk (.cons (FnE.mono (e_cheapest_rule H) (by decide)) (.nil)) (.nil) (.nil) (.nil)) (by decide +kernel) (by decide +kernel) (ds_no rfl ((a.funD rfl).bindsN (fun _ _ _ _ _ _ us hl => match us, hl with | [_, _, _, _], _ => rfl))) (ks_of rfl (.nil))
theorem e_need_short : FnE pw w K mg base 4 (pd.dsOk "need_short") (pd.ksOk "need_short") "need_short" F_need_short := by
  obtain ⟨fd, a, _⟩ := H.fn d_need_short (List.mem_of_getElem? (i := 29) rfl)
  exact fnE_z (N := n_need_short) (ps := [("table" : Str), ("row" : Str)]) a rfl (H.pk.glo "need_short" (by decide +kernel)) (goodB_of (k := 2) (d := dp_need_short) H.pk (.cons (FnE.mono (e_norm_by H) (by decide)) (.nil)) (.nil) (.cons (RsE.mono (x_TooMany H) (by decide)) (.nil)) (.nil)) (by decide +kernel) (by decide +kernel) (ds_no rfl ((a.funD rfl).bindsN (fun _ _ _ _ _ _ us hl => match us, hl with | [_, _], _ => rfl))) (ks_of rfl (.nil))
theorem e_least_cost : FnE pw w K mg base 14 (pd.dsOk "least_cost") (pd.ksOk "least_cost") "least_cost" F_least_cost := by
  obtain ⟨fd, a, _⟩ := H.fn d_least_cost (List.mem_of_getElem? (i := 30) rfl)
  exact fnE_z (N := n_least_cost) (ps := [("program" : Str), ("row" : Str), ("costs" : Str)]) a rfl (H.pk.glo "least_cost" (by decide +kernel)) (goodB_of (k := 12) (d := dp_least_cost) H.pk (.cons (FnE.mono (e_need_costs H) (by decide)) (.cons (FnE.mono (e_least_pairs H) (by decide)) (.nil))) (.nil) (.nil) (.cons (PropE.mono (q_Program_rules H) (by decide)) (.nil))) (by decide +kernel) (by decide +kernel) (ds_no rfl ((a.funD rfl).bindsN (fun _ _ _ _ _ _ us hl => match us, hl with | [_, _, _], _ => rfl))) (ks_of rfl (.cons (kbn_of (a.funD rfl) (fun _ _ _ _ _ _ ws hl => match ws, hl with | [_, _, _], _ => rfl)) (.nil)))
theorem e_cost_paper : FnE pw w K mg base 14 (pd.dsOk "cost_paper") (pd.ksOk "cost_paper") "cost_paper" F_cost_paper := by
  obtain ⟨fd, a, _⟩ := H.fn d_cost_paper (List.mem_of_getElem? (i := 31) rfl)
  exact fnE_z (N := n_cost_paper) (ps := [("program" : Str), ("row" : Str), ("costs" : Str)]) a rfl (H.pk.glo "cost_paper" (by decide +kernel)) (goodB_of (k := 12) (d := dp_cost_paper) H.pk (.cons (FnE.mono (e_need_costs H) (by decide)) (.cons (FnE.mono (e_least_pairs H) (by decide)) (.cons (FnE.mono (e_need_short H) (by decide)) (.cons (FnE.mono (e_cheapest_text H) (by decide)) (.nil))))) (.nil) (.nil) (.cons (PropE.mono (q_Program_rules H) (by decide)) (.nil))) (by decide +kernel) (by decide +kernel) (ds_no rfl ((a.funD rfl).bindsN (fun _ _ _ _ _ _ us hl => match us, hl with | [_, _, _], _ => rfl))) (ks_of rfl (.cons (kbn_of (a.funD rfl) (fun _ _ _ _ _ _ ws hl => match ws, hl with | [_, _, _], _ => rfl)) (.nil)))
theorem e_law_begun : FnE pw w K mg base 2 (pd.dsOk "_law_begun") (pd.ksOk "_law_begun") "_law_begun" F_law_begun := by
  obtain ⟨fd, a, _⟩ := H.fn d_law_begun (List.mem_of_getElem? (i := 32) rfl)
  exact fnE_z (N := n_law_begun) (ps := [("script" : Str)]) a rfl (H.pk.glo "_law_begun" (by decide +kernel)) (goodB_of (k := 0) (d := dp_law_begun) H.pk (.nil) (.nil) (.nil) (.nil)) (by decide +kernel) (by decide +kernel) (ds_no rfl ((a.funD rfl).bindsN (fun _ _ _ _ _ _ us hl => match us, hl with | [_], _ => rfl))) (ks_of rfl (.nil))
theorem e_law_blend : FnE pw w K mg base 2 (pd.dsOk "_law_blend") (pd.ksOk "_law_blend") "_law_blend" F_law_blend := by
  obtain ⟨fd, a, _⟩ := H.fn d_law_blend (List.mem_of_getElem? (i := 33) rfl)
  exact fnE_z (N := n_law_blend) (ps := [("tape" : Str)]) a rfl (H.pk.glo "_law_blend" (by decide +kernel)) (goodB_of (k := 0) (d := dp_law_blend) H.pk (.nil) (.nil) (.nil) (.nil)) (by decide +kernel) (by decide +kernel) (ds_no rfl ((a.funD rfl).bindsN (fun _ _ _ _ _ _ us hl => match us, hl with | [_], _ => rfl))) (ks_of rfl (.nil))
theorem e_law_draw : FnE pw w K mg base 4 (pd.dsOk "_law_draw") (pd.ksOk "_law_draw") "_law_draw" F_law_draw := by
  obtain ⟨fd, a, _⟩ := H.fn d_law_draw (List.mem_of_getElem? (i := 34) rfl)
  exact fnE_z (N := n_law_draw) (ps := [("tape" : Str), ("size" : Str)]) a rfl (H.pk.glo "_law_draw" (by decide +kernel)) (goodB_of (k := 2) (d := dp_law_draw) H.pk (.cons (FnE.mono (e_law_blend H) (by decide)) (.nil)) (.nil) (.nil) (.nil)) (by decide +kernel) (by decide +kernel) (ds_no rfl ((a.funD rfl).bindsN (fun _ _ _ _ _ _ us hl => match us, hl with | [_, _], _ => rfl))) (ks_of rfl (.nil))
theorem e_law_pick : FnE pw w K mg base 6 (pd.dsOk "_law_pick") (pd.ksOk "_law_pick") "_law_pick" F_law_pick := by
  obtain ⟨fd, a, _⟩ := H.fn d_law_pick (List.mem_of_getElem? (i := 35) rfl)
  exact fnE_z (N := n_law_pick) (ps := [("tape" : Str), ("several" : Str)]) a rfl (H.pk.glo "_law_pick" (by decide +kernel)) (goodB_of (k := 4) (d := dp_law_pick) H.pk (.cons (FnE.mono (e_law_draw H) (by decide)) (.nil)) (.nil) (.nil) (.nil)) (by decide +kernel) (by decide +kernel) (ds_no rfl ((a.funD rfl).bindsN (fun _ _ _ _ _ _ us hl => match us, hl with | [_, _], _ => rfl))) (ks_of rfl (.nil))
theorem e_law_live : FnE pw w K mg base 2 (pd.dsOk "_law_live") (pd.ksOk "_law_live") "_law_live" F_law_live := by
  obtain ⟨fd, a, _⟩ := H.fn d_law_live (List.mem_of_getElem? (i := 36) rfl)
  exact fnE_z (N := n_law_live) (ps := [("rules" : Str)]) a rfl (H.pk.glo "_law_live" (by decide +kernel)) (goodB_of (k := 0) (d := dp_law_live) H.pk (.nil) (.nil) (.nil) (.nil)) (by decide +kernel) (by decide +kernel) (ds_no rfl ((a.funD rfl).bindsN (fun _ _ _ _ _ _ us hl => match us, hl with | [_], _ => rfl))) (ks_of rfl (.nil))
theorem e_law_program : FnE pw w K mg base 8 (pd.dsOk "_law_program") (pd.ksOk "_law_program") "_law_program" F_law_program := by
  obtain ⟨fd, a, _⟩ := H.fn d_law_program (List.mem_of_getElem? (i := 37) rfl)
  exact fnE_z (N := n_law_program) (ps := [("tape" : Str), ("letters" : Str), ("procedures" : Str), ("calls" : Str)]) a rfl (H.pk.glo "_law_program" (by decide +kernel)) (goodB_of (k := 6) (d := dp_law_program) H.pk (.cons (FnE.mono (e_law_draw H) (by decide)) (.cons (FnE.mono (e_law_pick H) (by decide)) (.cons (FnE.mono (e_law_live H) (by decide)) (.nil)))) (.nil) (.nil) (.nil)) (by decide +kernel) (by decide +kernel) (ds_no rfl ((a.funD rfl).bindsN (fun _ _ _ _ _ _ us hl => match us, hl with | [_, _, _, _], _ => rfl))) (ks_of rfl (.nil))
theorem e_law_made : FnE pw w K mg base 14 (pd.dsOk "_law_made") (pd.ksOk "_law_made") "_law_made" F_law_made := by
  obtain ⟨fd, a, _⟩ := H.fn d_law_made (List.mem_of_getElem? (i := 38) rfl)
  exact fnE_z (N := n_law_made) (ps := [("program" : Str)]) a rfl (H.pk.glo "_law_made" (by decide +kernel)) (goodB_of (k := 12) (d := dp_law_made) H.pk (.nil) (.cons (MkE.mono (m_Program H) (by decide)) (.nil)) (.nil) (.nil)) (by decide +kernel) (by decide +kernel) (ds_no rfl ((a.funD rfl).bindsN (fun _ _ _ _ _ _ us hl => match us, hl with | [_], _ => rfl))) (ks_of rfl (.nil))
theorem e_law_row : FnE pw w K mg base 6 (pd.dsOk "_law_row") (pd.ksOk "_law_row") "_law_row" F_law_row := by
  obtain ⟨fd, a, _⟩ := H.fn d_law_row (List.mem_of_getElem? (i := 39) rfl)
  exact fnE_z (N := n_law_row) (ps := [("tape" : Str), ("program" : Str), ("most" : Str)]) a rfl (H.pk.glo "_law_row" (by decide +kernel)) (goodB_of (k := 4) (d := dp_law_row) H.pk (.cons (FnE.mono (e_law_draw H) (by decide)) (.nil)) (.nil) (.nil) (.nil)) (by decide +kernel) (by decide +kernel) (ds_no rfl ((a.funD rfl).bindsN (fun _ _ _ _ _ _ us hl => match us, hl with | [_, _, _], _ => rfl))) (ks_of rfl (.nil))
theorem e_law_step : FnE pw w K mg base 2 (pd.dsOk "_law_step") (pd.ksOk "_law_step") "_law_step" F_law_step := by
  obtain ⟨fd, a, _⟩ := H.fn d_law_step (List.mem_of_getElem? (i := 40) rfl)
  exact fnE_z (N := n_law_step) (ps := [("program" : Str), ("row" : Str), ("letter" : Str)]) a rfl (H.pk.glo "_law_step" (by decide +kernel)) (goodB_of (k := 0) (d := dp_law_step) H.pk (.nil) (.nil) (.nil) (.nil)) (by decide +kernel) (by decide +kernel) (ds_no rfl ((a.funD rfl).bindsN (fun _ _ _ _ _ _ us hl => match us, hl with | [_, _, _], _ => rfl))) (ks_of rfl (.nil))
theorem e_law_after : FnE pw w K mg base 4 (pd.dsOk "_law_after") (pd.ksOk "_law_after") "_law_after" F_law_after := by
  obtain ⟨fd, a, _⟩ := H.fn d_law_after (List.mem_of_getElem? (i := 41) rfl)
  exact fnE_z (N := n_law_after) (ps := [("program" : Str), ("row" : Str), ("text" : Str)]) a rfl (H.pk.glo "_law_after" (by decide +kernel)) (goodB_of (k := 2) (d := dp_law_after) H.pk (.cons (FnE.mono (e_law_step H) (by decide)) (.nil)) (.nil) (.nil) (.nil)) (by decide +kernel) (by decide +kernel) (ds_no rfl ((a.funD rfl).bindsN (fun _ _ _ _ _ _ us hl => match us, hl with | [_, _, _], _ => rfl))) (ks_of rfl (.nil))
theorem e_law_norms : FnE pw w K mg base 2 (pd.dsOk "_law_norms") (pd.ksOk "_law_norms") "_law_norms" F_law_norms := by
  obtain ⟨fd, a, _⟩ := H.fn d_law_norms (List.mem_of_getElem? (i := 42) rfl)
  exact fnE_z (N := n_law_norms) (ps := [("program" : Str)]) a rfl (H.pk.glo "_law_norms" (by decide +kernel)) (goodB_of (k := 0) (d := dp_law_norms) H.pk (.nil) (.nil) (.nil) (.nil)) (by decide +kernel) (by decide +kernel) (ds_no rfl ((a.funD rfl).bindsN (fun _ _ _ _ _ _ us hl => match us, hl with | [_], _ => rfl))) (ks_of rfl (.nil))
theorem e_law_norm : FnE pw w K mg base 2 (pd.dsOk "_law_norm") (pd.ksOk "_law_norm") "_law_norm" F_law_norm := by
  obtain ⟨fd, a, _⟩ := H.fn d_law_norm (List.mem_of_getElem? (i := 43) rfl)
  exact fnE_z (N := n_law_norm) (ps := [("numbers" : Str), ("row" : Str)]) a rfl (H.pk.glo "_law_norm" (by decide +kernel)) (goodB_of (k := 0) (d := dp_law_norm) H.pk (.nil) (.nil) (.nil) (.nil)) (by decide +kernel) (by decide +kernel) (ds_no rfl ((a.funD rfl).bindsN (fun _ _ _ _ _ _ us hl => match us, hl with | [_, _], _ => rfl))) (ks_of rfl (.nil))
theorem e_law_least : FnE pw w K mg base 4 (pd.dsOk "_law_least") (pd.ksOk "_law_least") "_law_least" F_law_least := by
  obtain ⟨fd, a, _⟩ := H.fn d_law_least (List.mem_of_getElem? (i := 44) rfl)
  exact fnE_z (N := n_law_least) (ps := [("program" : Str), ("numbers" : Str), ("row" : Str)]) a rfl (H.pk.glo "_law_least" (by decide +kernel)) (goodB_of (k := 2) (d := dp_law_least) H.pk (.cons (FnE.mono (e_law_norm H) (by decide)) (.cons (FnE.mono (e_law_step H) (by decide)) (.nil))) (.nil) (.nil) (.nil)) (by decide +kernel) (by decide +kernel) (ds_no rfl ((a.funD rfl).bindsN (fun _ _ _ _ _ _ us hl => match us, hl with | [_, _, _], _ => rfl))) (ks_of rfl (.nil))
theorem e_law_whole_text : FnE pw w K mg base 8 (pd.dsOk "_law_whole_text") (pd.ksOk "_law_whole_text") "_law_whole_text" F_law_whole_text := by
  obtain ⟨fd, a, _⟩ := H.fn d_law_whole_text (List.mem_of_getElem? (i := 45) rfl)
  exact fnE_z (N := n_law_whole_text) (ps := [("tape" : Str), ("program" : Str), ("row" : Str), ("most" : Str)]) a rfl (H.pk.glo "_law_whole_text" (by decide +kernel)) (goodB_of (k := 6) (d := dp_law_whole_text) H.pk (.cons (FnE.mono (e_law_norms H) (by decide)) (.cons (FnE.mono (e_law_draw H) (by decide)) (.cons (FnE.mono (e_law_step H) (by decide)) (.cons (FnE.mono (e_law_norm H) (by decide)) (.cons (FnE.mono (e_law_pick H) (by decide)) (.cons (FnE.mono (e_law_least H) (by decide)) (.nil))))))) (.nil) (.nil) (.nil)) (by decide +kernel) (by decide +kernel) (ds_no rfl ((a.funD rfl).bindsN (fun _ _ _ _ _ _ us hl => match us, hl with | [_, _, _, _], _ => rfl))) (ks_of rfl (.nil))
theorem e_law_costs : FnE pw w K mg base 8 (pd.dsOk "_law_costs") (pd.ksOk "_law_costs") "_law_costs" F_law_costs := by
  obtain ⟨fd, a, _⟩ := H.fn d_law_costs (List.mem_of_getElem? (i := 46) rfl)
  exact fnE_z (N := n_law_costs) (ps := [("tape" : Str), ("letters" : Str)]) a rfl (H.pk.glo "_law_costs" (by decide +kernel)) (goodB_of (k := 6) (d := dp_law_costs) H.pk (.cons (FnE.mono (e_law_pick H) (by decide)) (.nil)) (.nil) (.nil) (.nil)) (by decide +kernel) (by decide +kernel) (ds_no rfl ((a.funD rfl).bindsN (fun _ _ _ _ _ _ us hl => match us, hl with | [_, _], _ => rfl))) (ks_of rfl (.nil))
theorem e_law_low : FnE pw w K mg base 2 (pd.dsOk "_law_low") (pd.ksOk "_law_low") "_law_low" F_law_low := by
  obtain ⟨fd, a, _⟩ := H.fn d_law_low (List.mem_of_getElem? (i := 47) rfl)
  exact fnE_z (N := n_law_low) (ps := [("program" : Str), ("costs" : Str)]) a rfl (H.pk.glo "_law_low" (by decide +kernel)) (goodB_of (k := 0) (d := dp_law_low) H.pk (.nil) (.nil) (.nil) (.nil)) (by decide +kernel) (by decide +kernel) (ds_no rfl ((a.funD rfl).bindsN (fun _ _ _ _ _ _ us hl => match us, hl with | [_, _], _ => rfl))) (ks_of rfl (.nil))
theorem e_law_whole : FnE pw w K mg base 2 (pd.dsOk "_law_whole") (pd.ksOk "_law_whole") "_law_whole" F_law_whole := by
  obtain ⟨fd, a, _⟩ := H.fn d_law_whole (List.mem_of_getElem? (i := 48) rfl)
  exact fnE_z (N := n_law_whole) (ps := [("thing" : Str)]) a rfl (H.pk.glo "_law_whole" (by decide +kernel)) (goodB_of (k := 0) (d := dp_law_whole) H.pk (.nil) (.nil) (.nil) (.nil)) (by decide +kernel) (by decide +kernel) (ds_no rfl ((a.funD rfl).bindsN (fun _ _ _ _ _ _ us hl => match us, hl with | [_], _ => rfl))) (ks_of rfl (.nil))
theorem e_law_letters : FnE pw w K mg base 4 (pd.dsOk "_law_letters") (pd.ksOk "_law_letters") "_law_letters" F_law_letters := by
  obtain ⟨fd, a, _⟩ := H.fn d_law_letters (List.mem_of_getElem? (i := 49) rfl)
  exact fnE_z (N := n_law_letters) (ps := [("program" : Str), ("thing" : Str)]) a rfl (H.pk.glo "_law_letters" (by decide +kernel)) (goodB_of (k := 2) (d := dp_law_letters) H.pk (.cons (FnE.mono (e_law_whole H) (by decide)) (.nil)) (.nil) (.nil) (.nil)) (by decide +kernel) (by decide +kernel) (ds_no rfl ((a.funD rfl).bindsN (fun _ _ _ _ _ _ us hl => match us, hl with | [_, _], _ => rfl))) (ks_of rfl (.nil))
theorem e_law_is_cheap : FnE pw w K mg base 6 (pd.dsOk "_law_is_cheap") (pd.ksOk "_law_is_cheap") "_law_is_cheap" F_law_is_cheap := by
  obtain ⟨fd, a, _⟩ := H.fn d_law_is_cheap (List.mem_of_getElem? (i := 50) rfl)
  exact fnE_z (N := n_law_is_cheap) (ps := [("program" : Str), ("row" : Str), ("costs" : Str), ("thing" : Str)]) a rfl (H.pk.glo "_law_is_cheap" (by decide +kernel)) (goodB_of (k := 4) (d := dp_law_is_cheap) H.pk (.cons (FnE.mono (e_law_whole H) (by decide)) (.cons (FnE.mono (e_law_letters H) (by decide)) (.cons (FnE.mono (e_law_after H) (by decide)) (.nil)))) (.nil) (.nil) (.nil)) (by decide +kernel) (by decide +kernel) (ds_no rfl ((a.funD rfl).bindsN (fun _ _ _ _ _ _ us hl => match us, hl with | [_, _, _, _], _ => rfl))) (ks_of rfl (.nil))
end
theorem main_law {w : World} {K : PySem.W.Frag} {mg : Mg} {base : Heap} (H : HdK P K mg) (nd : (P.tf.map fun q => (He.cT K q).2).Nodup) {fd : FuncData} (a : AtZ K d_law fd) (TB : ∀ q ∈ P.tf, LamX.TabB base mg (He.cT K q).1 (He.cT K q).2) :
    FnOk pw w K mg base (L2.CX pw w) 18 (d_law.pl.ad K) fd [("script" : Str)] (@spOf (tbOf P K) mg 1 F_law) := by
  letI : Tb := tbOf P K
  exact fnC_z (N := n_law) (ps := [("script" : Str)]) (b := b_law) (cau := ["_law_caught"]) a rfl (goodB_of (k := 16) (d := dp_law) H.pk (.cons (FnE.mono (e_law_begun H) (by decide)) (.cons (FnE.mono (e_law_program H) (by decide)) (.cons (FnE.mono (e_law_made H) (by decide)) (.cons (FnE.mono (e_law_row H) (by decide)) (.cons (FnE.mono (e_law_costs H) (by decide)) (.cons (FnE.mono (e_law_low H) (by decide)) (.cons (FnE.mono (e_least_cost H) (by decide)) (.cons (FnE.mono (e_cost_paper H) (by decide)) (.cons (FnE.mono (e_law_is_cheap H) (by decide)) (.cons (FnE.mono (e_law_whole_text H) (by decide)) (.cons (FnE.mono (e_norm_of H) (by decide)) (.cons (FnE.mono (e_law_draw H) (by decide)) (.cons (FnE.mono (e_law_pick H) (by decide)) (.nil)))))))))))))) (.cons (MkE.mono (m_Program H) (by decide)) (.nil)) (.nil) (.nil)) (by decide +kernel) (by decide +kernel) (fun f hf => by
    have hf : f = "_law_caught" := by simpa using hf
    subst hf
    obtain ⟨fd2, a2, _⟩ := H.fn d_law_caught (List.mem_of_getElem? (i := 52) rfl)
    exact ⟨cauK_z (a := "work") (r := "found") (e := "error") H.pk a2 rfl rfl rfl rfl rfl (by decide +kernel) rfl (by decide +kernel) (by decide +kernel) (by decide +kernel) ⟨by decide, by decide⟩ ⟨by decide, by decide⟩ ⟨by decide, by decide⟩ (fun _ _ _ _ _ _ us hl => match us, hl with | [_], _ => rfl), tabQ_z (P := P) (nm := "law") a rfl rfl rfl (List.mem_of_getElem? (i := 0) rfl) nd TB, 14, by decide, goodB_of (k := 14) (d := dp_law) H.pk (.cons (FnE.mono (e_law_begun H) (by decide)) (.cons (FnE.mono (e_law_program H) (by decide)) (.cons (FnE.mono (e_law_made H) (by decide)) (.cons (FnE.mono (e_law_row H) (by decide)) (.cons (FnE.mono (e_law_costs H) (by decide)) (.cons (FnE.mono (e_law_low H) (by decide)) (.cons (FnE.mono (e_least_cost H) (by decide)) (.cons (FnE.mono (e_cost_paper H) (by decide)) (.cons (FnE.mono (e_law_is_cheap H) (by decide)) (.cons (FnE.mono (e_law_whole_text H) (by decide)) (.cons (FnE.mono (e_norm_of H) (by decide)) (.cons (FnE.mono (e_law_draw H) (by decide)) (.cons (FnE.mono (e_law_pick H) (by decide)) (.nil)))))))))))))) (.cons (MkE.mono (m_Program H) (by decide)) (.nil)) (.nil) (.nil)⟩)
end FW.K87

end

section
set_option Elab.async false
set_option linter.all false
set_option maxRecDepth 100000
set_option maxHeartbeats 0
namespace FW.K87
open PySem PySem.Spec PyProof.Rows L2
abbrev R : PySem.W.OpenRow := PySem.W.OpenLaw.row rw
abbrev hk : PySem.W.Hook := hookZ 6 P
def loose : List Str := [("StackError" : Str), ("PartError" : Str), ("ItemError" : Str), ("TooMany" : Str), ("BadProgram" : Str), ("BadRow" : Str), ("NoProgram" : Str), ("BadCosts" : Str), ("is_number" : Str), ("is_between" : Str), ("is_list" : Str), ("MOST_CALLS" : Str), ("MOST_LETTERS" : Str), ("MOST_PROCEDURES" : Str), ("MOST_ROW" : Str), ("rule_right" : Str), ("rules_right" : Str), ("need_parts" : Str), ("is_live_by" : Str), ("live_in" : Str), ("Program" : Str), ("need_program" : Str), ("calls_right" : Str), ("row_right" : Str), ("need_row" : Str), ("rule_norm" : Str), ("line_norm" : Str), ("norms_by" : Str), ("norm_by" : Str), ("norm_of" : Str), ("MOST_COST" : Str), ("MOST_LEAST" : Str), ("need_costs" : Str), ("sum_over" : Str), ("best_pair" : Str), ("least_pairs" : Str), ("cheapest_rule" : Str), ("cheapest_text" : Str), ("need_short" : Str), ("least_cost" : Str)] ++ [("cost_paper" : Str), ("_law_begun" : Str), ("_law_blend" : Str), ("_law_draw" : Str), ("_law_pick" : Str), ("_law_caught" : Str), ("_law_live" : Str), ("_law_program" : Str), ("_law_made" : Str), ("_law_row" : Str), ("_law_step" : Str), ("_law_after" : Str), ("_law_norms" : Str), ("_law_norm" : Str), ("_law_least" : Str), ("_law_whole_text" : Str), ("_law_costs" : Str), ("_law_low" : Str), ("_law_whole" : Str), ("_law_letters" : Str), ("_law_is_cheap" : Str)]
def ob (s : PySem.W.SharedT) : AlZ := obsZ 6 P (HandSHeadRun.getT s)
theorem ob_eq (s : PySem.W.SharedT) : ob s = hk.obs s.abs := obsZ_eq (HandSHeadRun.getT_eq s)
theorem run_eq (w : World) : HandSHeadRun.RunEq R (PySem.W.view R.prog [67]) hk ob 4000 loose w := by
  intro os
  kernel_rfl
end FW.K87

end

section
set_option Elab.async false
set_option linter.all false
set_option maxRecDepth 100000
/-! Mb1: the evaluator by simp. -/
namespace FW
open PySem
/-- a mark by which simp leaves what follows alone -/
inductive Dum {α β : Type} (f : α → M β) : Type where | mk
def R.bind {α β : Type} (x : R α) (f : α → M β) (_u : Dum f := .mk) : R β := match x with
  | .ok a s => f a s
  | .exn e s => .exn e s
  | .bad => .bad
@[simp] theorem R.bind_ok {α β : Type} (a : α) (s : Sto) (f : α → M β) : R.bind (.ok a s) f = f a s := (rfl)
@[simp] theorem R.bind_exn {α β : Type} (e : P) (s : Sto) (f : α → M β) : R.bind (.exn e s : R α) f = .exn e s := (rfl)
@[simp] theorem bnd_ap {α β : Type} (x : M α) (f : α → M β) (s : Sto) : bnd x f s = R.bind (x s) f := (rfl)
@[simp] theorem ret_ap' {α : Type} (a : α) (s : Sto) : ret a s = .ok a s := (rfl)
@[simp] theorem ofO_ap {α : Type} (a : α) (s : Sto) : ofO (some a) s = .ok a s := (rfl)
section
variable {Φ : Fenv} {ρ : Rho} {s : Sto}
@[simp] theorem getV_0 {p : P} {r : Rho} : getV (some p :: r) 0 s = .ok p s := (rfl)
@[simp] theorem getV_s {o : Option P} {r : Rho} {i : Nat} : getV (o :: r) (i + 1) s = getV r i s := (rfl)
@[simp] theorem getV_1 {o : Option P} {r : Rho} : getV (o :: r) 1 s = getV r 0 s := (rfl)
@[simp] theorem getV_2 {o : Option P} {r : Rho} : getV (o :: r) 2 s = getV r 1 s := (rfl)
@[simp] theorem getV_3 {o : Option P} {r : Rho} : getV (o :: r) 3 s = getV r 2 s := (rfl)
@[simp] theorem getV_4 {o : Option P} {r : Rho} : getV (o :: r) 4 s = getV r 3 s := (rfl)
@[simp] theorem getV_5 {o : Option P} {r : Rho} : getV (o :: r) 5 s = getV r 4 s := (rfl)
@[simp] theorem getV_6 {o : Option P} {r : Rho} : getV (o :: r) 6 s = getV r 5 s := (rfl)
@[simp] theorem getV_7 {o : Option P} {r : Rho} : getV (o :: r) 7 s = getV r 6 s := (rfl)
@[simp] theorem getV_8 {o : Option P} {r : Rho} : getV (o :: r) 8 s = getV r 7 s := (rfl)
@[simp] theorem getV_9 {o : Option P} {r : Rho} : getV (o :: r) 9 s = getV r 8 s := (rfl)
@[simp] theorem getV_10 {o : Option P} {r : Rho} : getV (o :: r) 10 s = getV r 9 s := (rfl)
@[simp] theorem getV_11 {o : Option P} {r : Rho} : getV (o :: r) 11 s = getV r 10 s := (rfl)
@[simp] theorem getV_12 {o : Option P} {r : Rho} : getV (o :: r) 12 s = getV r 11 s := (rfl)
@[simp] theorem getV_13 {o : Option P} {r : Rho} : getV (o :: r) 13 s = getV r 12 s := (rfl)
@[simp] theorem getV_14 {o : Option P} {r : Rho} : getV (o :: r) 14 s = getV r 13 s := (rfl)
@[simp] theorem getV_15 {o : Option P} {r : Rho} : getV (o :: r) 15 s = getV r 14 s := (rfl)
@[simp] theorem getV_16 {o : Option P} {r : Rho} : getV (o :: r) 16 s = getV r 15 s := (rfl)
@[simp] theorem getV_17 {o : Option P} {r : Rho} : getV (o :: r) 17 s = getV r 16 s := (rfl)
@[simp] theorem getV_18 {o : Option P} {r : Rho} : getV (o :: r) 18 s = getV r 17 s := (rfl)
@[simp] theorem getV_19 {o : Option P} {r : Rho} : getV (o :: r) 19 s = getV r 18 s := (rfl)
@[simp] theorem getV_20 {o : Option P} {r : Rho} : getV (o :: r) 20 s = getV r 19 s := (rfl)
@[simp] theorem getV_21 {o : Option P} {r : Rho} : getV (o :: r) 21 s = getV r 20 s := (rfl)
@[simp] theorem getV_22 {o : Option P} {r : Rho} : getV (o :: r) 22 s = getV r 21 s := (rfl)
@[simp] theorem getV_23 {o : Option P} {r : Rho} : getV (o :: r) 23 s = getV r 22 s := (rfl)
@[simp] theorem getV_24 {o : Option P} {r : Rho} : getV (o :: r) 24 s = getV r 23 s := (rfl)
/-! ### equations -/
@[simp] theorem ev_var {i : Nat} : ev Φ (.var i) ρ = getV ρ i := by rw [ev]
@[simp] theorem ev_non : ev Φ .non ρ = ret .non := by rw [ev]
@[simp] theorem ev_bl {b : Bool} : ev Φ (.bl b) ρ = ret (.bl b) := by rw [ev]
@[simp] theorem ev_int {i : Int} : ev Φ (.int i) ρ = ret (.int i) := by rw [ev]
@[simp] theorem ev_str {x : Str} : ev Φ (.str x) ρ = ret (.str x) := by rw [ev]
@[simp] theorem ev_con {x : String} {p : P} : ev Φ (.con x p) ρ = ret p := by rw [ev]
@[simp] theorem ev_bty {x : String} : ev Φ (.bty x) ρ = ret (.ty x) := by rw [ev]
@[simp] theorem ev_tup {es : List E} : ev Φ (.tup es) ρ = bnd (evs Φ es ρ) fun ps => if ps.length ≤ line then ret (.tup ps) else bad := by rw [ev]
@[simp] theorem ev_lst {r : Al} {es : List E} : ev Φ (.lst r es) ρ = bnd (evs Φ es ρ) fun ps => if ps.length ≤ line then mkL r ps else bad := by rw [ev]
@[simp] theorem ev_dct {r : Al} {t : Bool} {ks vs : List E} : ev Φ (.dct r t ks vs) ρ = bnd (evs Φ ks ρ) fun ps => bnd (quiet (evs Φ vs ρ)) fun qs => bnd (ofO (dispD t ps qs)) fun kvs => mkD r t kvs := by rw [ev]
@[simp] theorem ev_bin {r : Al} {o : Op2} {a b : E} : ev Φ (.bin r o a b) ρ = bnd (ev Φ a ρ) fun p => bnd (ev Φ b ρ) fun q => pBin r o p q := by rw [ev]
@[simp] theorem ev_neg {a : E} : ev Φ (.neg a) ρ = bnd (ev Φ a ρ) pNeg := by rw [ev]
@[simp] theorem ev_not {a : E} : ev Φ (.not a) ρ = bnd (ev Φ a ρ) fun p => bnd (truthM p) fun c => ret (.bl !c) := by rw [ev]
@[simp] theorem ev_and {es : List E} : ev Φ (.and es) ρ = evAnd Φ es ρ := by rw [ev]
@[simp] theorem ev_or {es : List E} : ev Φ (.or es) ρ = evOr Φ es ρ := by rw [ev]
@[simp] theorem ev_cmp {o : Cm} {a b : E} : ev Φ (.cmp o a b) ρ = bnd (ev Φ a ρ) fun p => bnd (ev Φ b ρ) fun q => bnd (pCmp o p q) fun c => ret (.bl c) := by rw [ev]
@[simp] theorem ev_chain {o o' : Cm} {a b c : E} : ev Φ (.chain o o' a b c) ρ = bnd (ev Φ a ρ) fun p => bnd (ev Φ b ρ) fun q => bnd (pCmp o p q) fun k =>
      if k then bnd (ev Φ c ρ) fun r => bnd (pCmp o' q r) fun k' => ret (.bl k') else ret (.bl false) := by rw [ev]
@[simp] theorem ev_ite {t a b : E} : ev Φ (.ite t a b) ρ = bnd (ev Φ t ρ) fun p => bnd (truthM p) fun c => if c then ev Φ a ρ else ev Φ b ρ := by rw [ev]
@[simp] theorem ev_sub {a i : E} : ev Φ (.sub a i) ρ = bnd (ev Φ a ρ) fun p => bnd (ev Φ i ρ) fun q => pIdx p q := by rw [ev]
@[simp] theorem ev_slice {r : Al} {a lo hi : E} : ev Φ (.slice r a lo hi) ρ = bnd (ev Φ a ρ) fun p => bnd (if isAbs lo then ret none else bnd (ev Φ lo ρ) toI) fun l => bnd (if isAbs hi then ret none else bnd (ev Φ hi ρ) toI) fun h => pCut r p l h := by rw [ev]
@[simp] theorem ev_rev {r : Al} {a : E} : ev Φ (.rev r a) ρ = bnd (ev Φ a ρ) (pRev r) := by rw [ev]
@[simp] theorem ev_attr {a : E} {f : String} : ev Φ (.attr a f) ρ = bnd (ev Φ a ρ) fun p => pAttr Φ p f := by rw [ev]
@[simp] theorem ev_call {f : String} {args : List E} {ds : List P} : ev Φ (.call f args ds) ρ = bnd (evs Φ args ρ) fun ps => callO (Φ.fn f) (ps ++ ds) := by rw [ev]
@[simp] theorem ev_callk {f : String} {args : List E} {ks : List String} {pm : List Nat} {vs : List E} : ev Φ (.callk f args ks pm vs) ρ = bnd (evs Φ args ρ) fun ps => bnd (evs Φ vs ρ) fun qs => callO (Φ.fn f) (ps ++ pm.filterMap (qs[·]?)) := by rw [ev]
@[simp] theorem ev_make {c : String} {args : List E} : ev Φ (.make c args) ρ = bnd (evs Φ args ρ) fun ps => callO (Φ.mkc c) ps := by rw [ev]
@[simp] theorem ev_bi {r : Al} {b : Bi} {args : List E} : ev Φ (.bi r b args) ρ = bnd (evs Φ args ρ) fun ps => pBi Φ r b ps := by rw [ev]
@[simp] theorem ev_meth {m : Mt} {o : E} {args : List E} : ev Φ (.meth m o args) ρ = bnd (ev Φ o ρ) fun p => bnd (isLst p) fun _ => bnd (evs Φ args ρ) fun ps => pMt m p ps := by rw [ev]
@[simp] theorem ev_omet {m : String} {o : E} {args : List E} : ev Φ (.omet m o args) ρ = bnd (ev Φ o ρ) fun p => bnd (evs Φ args ρ) fun ps => pOmet Φ m p ps := by rw [ev]
@[simp] theorem ev_caught {f : String} {e : E} : ev Φ (.caught f e) ρ = cauM (ecOf Φ) (ev Φ e ρ) := by rw [ev]
@[simp] theorem evs_nil : evs Φ [] ρ = ret [] := by rw [evs]
@[simp] theorem evs_cons {e : E} {r : List E} : evs Φ (e :: r) ρ = bnd (ev Φ e ρ) fun p => bnd (evs Φ r ρ) fun ps => ret (p :: ps) := by rw [evs]
@[simp] theorem evAnd_1 {e : E} : evAnd Φ [e] ρ = ev Φ e ρ := by rw [evAnd]
@[simp] theorem evAnd_2 {e e' : E} {r : List E} : evAnd Φ (e :: e' :: r) ρ = bnd (ev Φ e ρ) fun p => bnd (truthM p) fun c => if c then evAnd Φ (e' :: r) ρ else ret p := by
  rw [evAnd]; exact fun h => nomatch h
@[simp] theorem evOr_1 {e : E} : evOr Φ [e] ρ = ev Φ e ρ := by rw [evOr]
@[simp] theorem evOr_2 {e e' : E} {r : List E} : evOr Φ (e :: e' :: r) ρ = bnd (ev Φ e ρ) fun p => bnd (truthM p) fun c => if c then ret p else evOr Φ (e' :: r) ρ := by
  rw [evOr]; exact fun h => nomatch h
@[simp] theorem evIfs_nil : evIfs Φ [] ρ = ret true := by rw [evIfs]
@[simp] theorem evIfs_cons {e : E} {r : List E} : evIfs Φ (e :: r) ρ = bnd (ev Φ e ρ) fun p => bnd (truthM p) fun c => if c then evIfs Φ r ρ else ret false := by rw [evIfs]
@[simp] theorem evI_seq {e : E} : evI Φ (.seq e) ρ = bnd (ev Φ e ρ) iterOf := by rw [evI]
@[simp] theorem evI_keys {i : Nat} : evI Φ (.keys i) ρ = bnd (getV ρ i) keysOf := by rw [evI]
@[simp] theorem evI_enum {e : E} : evI Φ (.enum e) ρ = bnd (ev Φ e ρ) enumOf := by rw [evI]
def r1P (p : P) : M Iter := match p with
  | .int j => if okR j then ret (.vals (rangeP 0 j.toNat)) else bad
  | _ => bad
def r2P (p q : P) : M Iter := match p, q with
  | .int i, .int j => if okR i && okR j then ret (.vals (rangeP i (j - i).toNat)) else bad
  | _, _ => bad
@[simp] theorem evI_range1 {e : E} : evI Φ (.range1 e) ρ = bnd (ev Φ e ρ) r1P := by rw [evI]; rfl
@[simp] theorem evI_range2 {a b : E} : evI Φ (.range2 a b) ρ = bnd (ev Φ a ρ) fun p => bnd (ev Φ b ρ) fun q => r2P p q := by rw [evI]; rfl
@[simp] theorem ex_asg {t : T} {e : E} : ex Φ (.asg t e) ρ = bnd (ev Φ e ρ) fun p => bnd (ofO (asgT t p ρ)) fun ρ' => ret (.next, ρ') := by rw [ex]
@[simp] theorem ex_asub {o i e : E} : ex Φ (.asub o i e) ρ = bnd (ev Φ e ρ) fun p => bnd (ev Φ o ρ) fun q => bnd (ev Φ i ρ) fun k => bnd (pSet q k p) fun _ => ret (.next, ρ) := by rw [ex]
theorem ex_aattr {o : E} {f : String} {e : E} : ex Φ (.aattr o f e) ρ = bnd (ev Φ e ρ) fun p => bnd (ev Φ o ρ) fun q => fun s => (match q with
    | .gob n => (match s.g[n]? with
      | some (.ins c fs) => if Φ.cls.contains c && (Φ.prop c f).isNone && decide (fs.length < 900) then (bnd (setOb q (.ins c (putFP f p fs))) fun _ => ret (.next, ρ)) s else .bad
      | _ => .bad)
    | _ => .bad) := by rw [ex] <;> rfl
@[simp] theorem ex_expr {e : E} : ex Φ (.expr e) ρ = bnd (ev Φ e ρ) fun _ => ret (.next, ρ) := by rw [ex]
@[simp] theorem ex_ret {e : E} : ex Φ (.ret e) ρ = bnd (ev Φ e ρ) fun p => ret (.ret p, ρ) := by rw [ex]
@[simp] theorem ex_retN : ex Φ .retN ρ = ret (.ret .non, ρ) := by rw [ex]
@[simp] theorem ex_ifs {t : E} {a b : List St} : ex Φ (.ifs t a b) ρ = bnd (ev Φ t ρ) fun p => bnd (truthM p) fun c => if c then exs Φ a ρ else exs Φ b ρ := by rw [ex]
@[simp] theorem ex_raise {c : String} {args : List E} : ex Φ (.raise c args) ρ = bnd (evs Φ args ρ) fun ps => bnd (rsO (Φ.mkx c) ps) fun x => fun s => .exn x s := by rw [ex]
@[simp] theorem ex_brk : ex Φ .brk ρ = ret (.brk, ρ) := by rw [ex]
@[simp] theorem ex_cont : ex Φ .cont ρ = ret (.cont, ρ) := by rw [ex]
@[simp] theorem ex_pass : ex Φ .pass ρ = ret (.next, ρ) := by rw [ex]
/-- what follows a statement -/
def thenS (Φ : Fenv) (r : List St) (q : Flow × Rho) : M (Flow × Rho) := match q.1 with
  | .next => exs Φ r q.2
  | _ => ret q
@[simp] theorem exs_nil : exs Φ [] ρ = ret (.next, ρ) := by rw [exs]
@[simp] theorem exs_cons {st : St} {r : List St} : exs Φ (st :: r) ρ = bnd (ex Φ st ρ) (thenS Φ r) := by
  rw [exs]; refine congrArg _ (funext fun q => ?_); obtain ⟨f, ρ'⟩ := q; cases f <;> rfl
@[simp] theorem thenS_next {r : List St} {ρ : Rho} : thenS Φ r (.next, ρ) = exs Φ r ρ := (rfl)
@[simp] theorem thenS_ret {r : List St} {p : P} {ρ : Rho} : thenS Φ r (.ret p, ρ) = ret (.ret p, ρ) := (rfl)
@[simp] theorem thenS_brk {r : List St} {ρ : Rho} : thenS Φ r (.brk, ρ) = ret (.brk, ρ) := (rfl)
@[simp] theorem thenS_cont {r : List St} {ρ : Rho} : thenS Φ r (.cont, ρ) = ret (.cont, ρ) := (rfl)
/-! ### targets -/
@[simp] theorem asgT_name {i : Nat} {p : P} : asgT (.name i) p ρ = some (ρ.set i (some p)) := by rw [asgT]
@[simp] theorem asgT_tup {ts : List T} {ps : List P} : asgT (.tup ts) (.tup ps) ρ = asgTs ts ps ρ := by rw [asgT]
@[simp] theorem asgTs_nil : asgTs [] [] ρ = some ρ := by rw [asgTs]
@[simp] theorem asgTs_cons {t : T} {ts : List T} {p : P} {ps : List P} : asgTs (t :: ts) (p :: ps) ρ = (asgT t p ρ).bind (asgTs ts ps) := by rw [asgTs]; cases asgT t p ρ <;> rfl
@[simp] theorem wipeR_nil : wipeR ρ [] = ρ := (rfl)
@[simp] theorem wipeR_cons {v : Nat} {vs : List Nat} : wipeR ρ (v :: vs) = (wipeR ρ vs).set v none := (rfl)
@[simp] theorem le_line {n : Nat} (h : n ≤ 1000) : n ≤ line := by unfold line; omega
@[simp] theorem lt_line {n : Nat} (h : n ≤ 1000) : n < line := by unfold line; omega
/-! ### truth -/
@[simp] theorem truthM_bl {b : Bool} : truthM (.bl b) s = .ok b s := (rfl)
@[simp] theorem truthM_non : truthM .non s = .ok false s := (rfl)
@[simp] theorem ite_M_ap {α : Type} {c : Prop} [Decidable c] {x y : M α} : (if c then x else y) s = if c then x s else y s := by split <;> rfl
@[simp] theorem sto_eta {s : Sto} : (⟨s.l, s.g⟩ : Sto) = s := (rfl)
/-! ### a call's end -/
theorem view_of_noLob_aux : True := trivial
end
mutual
theorem vw_noLob {f : Nat → Option P} : ∀ {p : P}, noLob p = true → vw f p = some p
  | .non, _ => by rw [vw] <;> simp
  | .bl _, _ => by rw [vw] <;> simp
  | .int _, _ => by rw [vw] <;> simp
  | .str _, _ => by rw [vw] <;> simp
  | .ty _, _ => by rw [vw] <;> simp
  | .fn _, _ => by rw [vw] <;> simp
  | .cls _, _ => by rw [vw] <;> simp
  | .gob _, _ => by rw [vw] <;> simp
  | .lob _, h => by simp [noLob] at h
  | .tup xs, h => by rw [vw, vws_noLob (by simpa [noLob] using h)]; rfl
  | .lst xs, h => by rw [vw, vws_noLob (by simpa [noLob] using h)]; rfl
  | .scr xs, h => by rw [vw, vws_noLob (by simpa [noLob] using h)]; rfl
  | .dct t kvs, h => by rw [vw, vwk_noLob (by simpa [noLob] using h)]; rfl
  | .ins c fs, h => by rw [vw, vwf_noLob (by simpa [noLob] using h)]; rfl
  | .exc c fs, h => by rw [vw, vwf_noLob (by simpa [noLob] using h)]; rfl
theorem vws_noLob {f : Nat → Option P} : ∀ {ps : List P}, noLobs ps = true → vws f ps = some ps
  | [], _ => by rw [vws]
  | p :: r, h => by
    rw [noLobs, Bool.and_eq_true] at h
    rw [vws, vw_noLob h.1, vws_noLob h.2]
theorem vwk_noLob {f : Nat → Option P} : ∀ {ps : List (KeyP × P)}, noLobk ps = true → vwk f ps = some ps
  | [], _ => by rw [vwk]
  | (k, p) :: r, h => by
    rw [noLobk, Bool.and_eq_true] at h
    rw [vwk, vw_noLob h.1, vwk_noLob h.2]
theorem vwf_noLob {f : Nat → Option P} : ∀ {ps : List (String × P)}, noLobf ps = true → vwf f ps = some ps
  | [], _ => by rw [vwf]
  | (k, p) :: r, h => by
    rw [noLobf, Bool.and_eq_true] at h
    rw [vwf, vw_noLob h.1, vwf_noLob h.2]
end
theorem view_noLob {k : Nat} {s : Sto} {p : P} (h : noLob p = true) : view k s p = some p := by
  cases k with
  | zero => exact vw_noLob h
  | succ k => exact vw_noLob h
@[simp] theorem outF_ret {p : P} {ρ : Rho} {s : Sto} (h : noLob p = true) : outF (.ok (.ret p, ρ) s) = .ok p s.g := by
  unfold outF flowP; dsimp only; rw [view_noLob h]
@[simp] theorem outF_next {ρ : Rho} {s : Sto} : outF (.ok (.next, ρ) s) = .ok .non s.g := by
  unfold outF flowP; dsimp only; rw [view_noLob (by simp [noLob])]
@[simp] theorem outF_exn {x : P} {s : Sto} (h : noLob x = true) : outF (.exn x s) = .exn x s.g := by
  unfold outF; dsimp only; rw [if_pos h]
theorem noLobs_map {α : Type} {f : α → P} (h : ∀ a, noLob (f a) = true) : ∀ l : List α, noLobs (l.map f) = true
  | [] => by simp [noLobs]
  | a :: l => by rw [List.map_cons, noLobs, h, noLobs_map h l]; rfl
/-- a call of a known def -/
theorem callF_ok {F : Fn} {ps : List P} {s : Sto} {p : P} {g' : List Ob} (hn : noLobs ps = true) (h : F ps s.g = .ok p g') : callF F ps s = .ok p ⟨s.l, g'⟩ := by
  unfold callF; rw [if_pos hn, h]
theorem callF_exn {F : Fn} {ps : List P} {s : Sto} {p : P} {g' : List Ob} (hn : noLobs ps = true) (h : F ps s.g = .exn p g') : callF F ps s = .exn p ⟨s.l, g'⟩ := by
  unfold callF; rw [if_pos hn, h]
/-- back from a call -/
def toR (l : List Ob) : Rf → R P
  | .ok p g => .ok p ⟨l, g⟩
  | .exn x g => .exn x ⟨l, g⟩
  | .bad => .bad
@[simp] theorem toR_ok {l : List Ob} {p : P} {g : List Ob} : toR l (.ok p g) = .ok p ⟨l, g⟩ := (rfl)
@[simp] theorem toR_exn {l : List Ob} {p : P} {g : List Ob} : toR l (.exn p g) = .exn p ⟨l, g⟩ := (rfl)
@[simp] theorem callF_eq {F : Fn} {ps : List P} {s : Sto} (hn : noLobs ps = true) : callF F ps s = toR s.l (F ps s.g) := by
  unfold callF; rw [if_pos hn]; cases F ps s.g <;> rfl
@[simp] theorem lookup_str {β : Type} {a k : String} {v : β} {l : List (String × β)} : List.lookup a ((k, v) :: l) = if a = k then some v else List.lookup a l := by
  rw [List.lookup_cons]
  by_cases h : a = k
  · subst h; simp
  · have : (a == k) = false := beq_eq_false_iff_ne.mpr h
    rw [this, if_neg h]
@[simp] theorem lookup_str2 {β : Type} {a b k m : String} {v : β} {l : List ((String × String) × β)} : List.lookup (a, b) (((k, m), v) :: l) = if a = k ∧ b = m then some v else List.lookup (a, b) l := by
  rw [List.lookup_cons]
  by_cases h : a = k ∧ b = m
  · obtain ⟨rfl, rfl⟩ := h; simp
  · have : ((a, b) == (k, m)) = false := beq_eq_false_iff_ne.mpr fun z => h (by injection z with z1 z2; exact ⟨z1, z2⟩)
    rw [this, if_neg h]
@[simp] theorem phi_fn {d : Dep} {f : String} : d.phi.fn f = d.fs.lookup f := (rfl)
@[simp] theorem phi_mkc {d : Dep} {f : String} : d.phi.mkc f = d.ms.lookup f := (rfl)
@[simp] theorem phi_mkx {d : Dep} {f : String} : d.phi.mkx f = (d.xs.lookup f).map (mkX f) := (rfl)
@[simp] theorem phi_prop {d : Dep} {c f : String} : d.phi.prop c f = d.ps.lookup (c, f) := (rfl)
@[simp] theorem phi_cls {d : Dep} : d.phi.cls = uIns := (rfl)
@[simp] theorem phi_exc {d : Dep} : d.phi.exc = uExn := (rfl)
@[simp] theorem phi_sub {d : Dep} : d.phi.sub = uSub := (rfl)
theorem rsO_eq {c fld : String} {p : P} {s : Sto} (hp : noLob p = true) : rsO (some (mkX c fld)) [p] s = .ok (.exc c [(fld, p)]) s := by
  unfold rsO rsF callF mkX
  simp [noLobs, hp]
@[simp] theorem callO_some {F : Fn} {ps : List P} : callO (some F) ps = callF F ps := (rfl)
/-! ### comprehensions -/
section
variable {Φ : Fenv} {ρ : Rho} {s : Sto} {α : Type}
theorem colVals_comp {step : P → List P → M (List P)} {e : α → P} {c : α → Bool} {f : α → P} : ∀ {as : List α} {acc : List P}, (∀ a ∈ as, ∀ acc : List P, acc.length < line → step (e a) acc s = .ok (if c a = true then acc ++ [f a] else acc) s) → acc.length + as.length ≤ line →
    colVals step (as.map e) acc s = .ok (acc ++ (as.filter c).map f) s
  | [], acc, _, _ => by simp [colVals]
  | a :: as, acc, h, hl => by
    rw [List.length_cons] at hl
    rw [List.map_cons, colVals, bnd_ap, h a List.mem_cons_self acc (by omega), R.bind_ok]
    by_cases hc : c a = true
    · rw [if_pos hc, colVals_comp (fun b hb => h b (List.mem_cons_of_mem _ hb)) (by rw [List.length_append, List.length_singleton]; omega), List.filter_cons, if_pos hc]; simp
    · rw [if_neg hc, colVals_comp (fun b hb => h b (List.mem_cons_of_mem _ hb)) (by omega), List.filter_cons, if_neg hc]
theorem ev_comp {elt : E} {tg : T} {it : I} {ifs : List E} {own : List Nat} (as : List α) (e : α → P) (c : α → Bool) (f : α → P) (hit : evI Φ it ρ s = .ok (.vals (as.map e)) s)
    (hst : ∀ a ∈ as, ∃ ρ', asgT tg (e a) (wipeR ρ own) = some ρ' ∧ evIfs Φ ifs ρ' s = .ok (c a) s ∧ (c a = true → ev Φ elt ρ' s = .ok (f a) s)) (hl : as.length ≤ line) :
    ev Φ (.comp .val elt tg it ifs own) ρ s = .ok (.lst ((as.filter c).map f)) s := by
  rw [ev, bnd_ap, hit, R.bind_ok]
  show bnd (colVals _ (as.map e) []) _ s = _
  rw [bnd_ap, colVals_comp (c := c) (f := f) (fun a ha acc hacc => ?_) (by simpa using hl)]
  · rfl
  · obtain ⟨ρ', h1, h2, h3⟩ := hst a ha
    rw [bnd_ap, h1, ofO_ap, R.bind_ok, bnd_ap]
    unfold quiet
    rw [h2]
    simp only [R.bind_ok]
    by_cases hc : c a = true
    · rw [if_pos hc, if_pos hc, bnd_ap, h3 hc]
      simp only [R.bind_ok]
      rw [if_pos hacc]; rfl
    · rw [if_neg hc, if_neg hc]; rfl
/-- without a condition -/
theorem ev_comp' {elt : E} {tg : T} {it : I} {own : List Nat} (as : List α) (e : α → P) (f : α → P) (hit : evI Φ it ρ s = .ok (.vals (as.map e)) s)
    (hst : ∀ a ∈ as, ∃ ρ', asgT tg (e a) (wipeR ρ own) = some ρ' ∧ ev Φ elt ρ' s = .ok (f a) s) (hl : as.length ≤ line) :
    ev Φ (.comp .val elt tg it [] own) ρ s = .ok (.lst (as.map f)) s := by
  have := ev_comp (ρ := ρ) (s := s) (elt := elt) (tg := tg) (own := own) (ifs := []) as e (fun _ => true) f hit (fun a ha => by
    obtain ⟨ρ', h1, h2⟩ := hst a ha
    exact ⟨ρ', h1, by simp, fun _ => h2⟩) hl
  rw [this, List.filter_eq_self.mpr (fun _ _ => rfl)]
theorem put_new {kvs : List (KeyP × P)} {k : KeyP} {v : P} (h : ∀ kv ∈ kvs, kv.1 ≠ k) : put kvs k v = kvs ++ [(k, v)] := by
  unfold put
  rw [if_neg]
  intro z
  obtain ⟨kv, h1, h2⟩ := List.any_eq_true.mp z
  exact h kv h1 (of_decide_eq_true h2)
theorem colVals_dcomp {step : P → List (KeyP × P) → M (List (KeyP × P))} {e : α → P} {c : α → Bool} {k : α → KeyP} {f : α → P} : ∀ {as : List α} {acc : List (KeyP × P)}, (∀ a ∈ as, ∀ acc : List (KeyP × P), acc.length < line → step (e a) acc s = .ok (if c a = true then put acc (k a) (f a) else acc) s) →
    acc.length + as.length ≤ line → (as.map k).Nodup → (∀ a ∈ as, ∀ kv ∈ acc, kv.1 ≠ k a) → colVals step (as.map e) acc s = .ok (acc ++ (as.filter c).map fun a => (k a, f a)) s
  | [], acc, _, _, _, _ => by simp [colVals]
  | a :: as, acc, h, hl, nd, hn => by
    rw [List.length_cons] at hl
    rw [List.map_cons, List.nodup_cons] at nd
    rw [List.map_cons, colVals, bnd_ap, h a List.mem_cons_self acc (by omega), R.bind_ok]
    by_cases hc : c a = true
    · rw [if_pos hc, put_new (hn a List.mem_cons_self), colVals_dcomp (fun b hb => h b (List.mem_cons_of_mem _ hb)) (by rw [List.length_append, List.length_singleton]; omega) nd.2 (fun b hb kv hkv => ?_), List.filter_cons, if_pos hc]
      · simp
      · rcases List.mem_append.mp hkv with z | z
        · exact hn b (List.mem_cons_of_mem _ hb) kv z
        · rw [List.mem_singleton.mp z]
          exact fun z2 => nd.1 (List.mem_map.mpr ⟨b, hb, z2.symm⟩)
    · rw [if_neg hc, colVals_dcomp (fun b hb => h b (List.mem_cons_of_mem _ hb)) (by omega) nd.2 (fun b hb => hn b (List.mem_cons_of_mem _ hb)), List.filter_cons, if_neg hc]
theorem ev_dcomp {key val : E} {tg : T} {it : I} {ifs : List E} {own : List Nat} (as : List α) (e : α → P) (c : α → Bool) (k : α → KeyP) (f : α → P) (hit : evI Φ it ρ s = .ok (.vals (as.map e)) s)
    (hst : ∀ a ∈ as, ∃ ρ', asgT tg (e a) (wipeR ρ own) = some ρ' ∧ evIfs Φ ifs ρ' s = .ok (c a) s ∧ (c a = true → ∃ kp, ev Φ key ρ' s = .ok kp s ∧ keyOf kp = some (k a) ∧ isT (k a) = false ∧ ev Φ val ρ' s = .ok (f a) s))
    (nd : (as.map k).Nodup) (hl : as.length ≤ line) :
    ev Φ (.dcomp .val false key val tg it ifs own) ρ s = .ok (.dct false ((as.filter c).map fun a => (k a, f a))) s := by
  rw [ev, bnd_ap, hit, R.bind_ok]
  show bnd (colVals _ (as.map e) []) _ s = _
  rw [bnd_ap, colVals_dcomp (c := c) (k := k) (f := f) (fun a ha acc hacc => ?_) (by simpa using hl) nd (fun _ _ kv z => by cases z)]
  · rfl
  · obtain ⟨ρ', h1, h2, h3⟩ := hst a ha
    rw [bnd_ap, h1, ofO_ap, R.bind_ok, bnd_ap]
    unfold quiet
    rw [h2]
    simp only [R.bind_ok]
    by_cases hc : c a = true
    · obtain ⟨kp, h4, h5, h6, h7⟩ := h3 hc
      rw [if_pos hc, if_pos hc, bnd_ap, h4]
      simp only [R.bind_ok]
      rw [bnd_ap, h7]
      simp only [R.bind_ok]
      rw [bnd_ap, h5, ofO_ap, R.bind_ok, if_pos (by rw [h6]; simpa using hacc)]; rfl
    · rw [if_neg hc, if_neg hc]; rfl
end
/-! ### loops -/
section
variable {α : Type}
/-- a for over values: goes through, or returns early -/
theorem forVals_run {step : P → Rho → M (Flow × Rho)} {e : α → P} (J : List α → Rho → Sto → Prop) (K : P → Sto → Prop) : ∀ {as pre : List α} {ρ : Rho} {s : Sto}, J pre ρ s →
    (∀ p1 a p2 ρ s, pre ++ as = p1 ++ a :: p2 → J p1 ρ s → (∃ ρ' s', (step (e a) ρ s = .ok (.next, ρ') s' ∨ step (e a) ρ s = .ok (.cont, ρ') s') ∧ J (p1 ++ [a]) ρ' s') ∨ ∃ p ρ' s', step (e a) ρ s = .ok (.ret p, ρ') s' ∧ K p s') →
    (∃ ρ' s', forVals step (as.map e) ρ s = .ok (.next, ρ') s' ∧ J (pre ++ as) ρ' s') ∨ ∃ p ρ' s', forVals step (as.map e) ρ s = .ok (.ret p, ρ') s' ∧ K p s'
  | [], pre, ρ, s, h, _ => .inl ⟨ρ, s, rfl, by rw [List.append_nil]; exact h⟩
  | a :: as, pre, ρ, s, h, hs => by
    rcases hs pre a as ρ s rfl h with ⟨ρ', s', h1, h2⟩ | ⟨p, ρ', s', h1, h2⟩
    · have ih := forVals_run (step := step) (e := e) J K (as := as) (pre := pre ++ [a]) h2 fun p1 b p2 ρ s e => hs p1 b p2 ρ s (by rw [← e]; simp)
      have eq : forVals step ((a :: as).map e) ρ s = forVals step (as.map e) ρ' s' := by
        rw [List.map_cons, forVals, bnd_ap]
        rcases h1 with h1 | h1 <;> rw [h1, R.bind_ok]
      rw [eq]
      rcases ih with ⟨r, t, g1, g2⟩ | z
      · exact .inl ⟨r, t, g1, by rw [List.append_assoc] at g2; exact g2⟩
      · exact .inr z
    · refine .inr ⟨p, ρ', s', ?_, h2⟩
      rw [List.map_cons, forVals, bnd_ap, h1, R.bind_ok]; rfl
/-- never returns early -/
theorem forVals_all {step : P → Rho → M (Flow × Rho)} {e : α → P} (J : List α → Rho → Sto → Prop) {as : List α} {ρ : Rho} {s : Sto} (h0 : J [] ρ s)
    (hs : ∀ p1 a p2 ρ s, as = p1 ++ a :: p2 → J p1 ρ s → ∃ ρ' s', (step (e a) ρ s = .ok (.next, ρ') s' ∨ step (e a) ρ s = .ok (.cont, ρ') s') ∧ J (p1 ++ [a]) ρ' s') :
    ∃ ρ' s', forVals step (as.map e) ρ s = .ok (.next, ρ') s' ∧ J as ρ' s' := by
  rcases forVals_run (step := step) (e := e) J (fun _ _ => False) (pre := []) (as := as) h0 (fun p1 a p2 ρ s e h => .inl (hs p1 a p2 ρ s e h)) with h | ⟨_, _, _, _, z⟩
  · exact h
  · exact z.elim
theorem ex_for {Φ : Fenv} {t : T} {it : I} {body : List St} {ρ : Rho} {s s1 : Sto} {xs : List P} (h : evI Φ it ρ s = .ok (.vals xs) s1) :
    ex Φ (.for_ t it body) ρ s = forVals (fun x ρ' => bnd (ofO (asgT t x ρ')) fun ρ2 => exs Φ body ρ2) xs ρ s1 := by
  rw [ex, bnd_ap, h, R.bind_ok]; rfl
/-- while, by a measure -/
theorem whileL_run {c : Rho → M Bool} {b : Rho → M (Flow × Rho)} (I : Rho → Sto → Prop) (μ : Rho → Sto → Nat)
    (hs : ∀ ρ s, I ρ s → ∃ k, c ρ s = .ok k s ∧ (k = true → ∃ ρ' s', (b ρ s = .ok (.next, ρ') s' ∨ b ρ s = .ok (.cont, ρ') s') ∧ I ρ' s' ∧ μ ρ' s' < μ ρ s)) :
    ∀ (n : Nat) (ρ : Rho) (s : Sto), I ρ s → μ ρ s < n → ∃ ρ' s', whileL c b n ρ s = .ok (.next, ρ') s' ∧ I ρ' s' ∧ c ρ' s' = .ok false s'
  | 0, _, _, _, h => absurd h (Nat.not_lt_zero _)
  | n + 1, ρ, s, h, hm => by
    obtain ⟨k, h1, h2⟩ := hs ρ s h
    rw [whileL, bnd_ap, h1, R.bind_ok]
    cases k with
    | false => exact ⟨ρ, s, rfl, h, h1⟩
    | true =>
      obtain ⟨ρ', s', h3, h4, h5⟩ := h2 rfl
      obtain ⟨r, t, g1, g2⟩ := whileL_run I μ hs n ρ' s' h4 (by omega)
      refine ⟨r, t, ?_, g2⟩
      rw [if_pos rfl, bnd_ap]
      rcases h3 with h3 | h3 <;> (rw [h3, R.bind_ok]; exact g1)
theorem ex_whl {Φ : Fenv} {t : E} {body : List St} {ρ : Rho} : ex Φ (.whl t body) ρ = whileL (fun ρ' => bnd (ev Φ t ρ') truthM) (fun ρ' => exs Φ body ρ') FUEL ρ := by rw [ex]
end
end FW

end

section
set_option Elab.async false
set_option linter.all false
set_option maxRecDepth 100000
/-! Mb2: primitives at values. -/
namespace FW
open PySem L2
abbrev eI (n : Nat) : P := .int (n : Int)
section
variable {Φ : Fenv} {s : Sto} {α : Type}
@[simp] theorem noLob_non : noLob .non = true := by simp [noLob]
@[simp] theorem noLob_bl {b : Bool} : noLob (.bl b) = true := by simp [noLob]
@[simp] theorem noLob_int {b : Int} : noLob (.int b) = true := by simp [noLob]
@[simp] theorem noLob_str {b : Str} : noLob (.str b) = true := by simp [noLob]
@[simp] theorem noLob_ty {b : String} : noLob (.ty b) = true := by simp [noLob]
@[simp] theorem noLob_gob {n : Nat} : noLob (.gob n) = true := by simp [noLob]
@[simp] theorem noLob_tup {xs : List P} : noLob (.tup xs) = noLobs xs := by rw [noLob]
@[simp] theorem noLob_lst {xs : List P} : noLob (.lst xs) = noLobs xs := by rw [noLob]
@[simp] theorem noLob_scr {xs : List P} : noLob (.scr xs) = noLobs xs := by rw [noLob]
@[simp] theorem noLob_dct {t : Bool} {xs : List (KeyP × P)} : noLob (.dct t xs) = noLobk xs := by rw [noLob]
@[simp] theorem noLob_ins {c : String} {xs : List (String × P)} : noLob (.ins c xs) = noLobf xs := by rw [noLob]
@[simp] theorem noLob_exc {c : String} {xs : List (String × P)} : noLob (.exc c xs) = noLobf xs := by rw [noLob]
@[simp] theorem noLobs_nil : noLobs [] = true := by rw [noLobs]
@[simp] theorem noLobs_cons {p : P} {r : List P} : noLobs (p :: r) = (noLob p && noLobs r) := by rw [noLobs]
@[simp] theorem noLobk_nil : noLobk [] = true := by rw [noLobk]
@[simp] theorem noLobk_cons {k : KeyP} {p : P} {r : List (KeyP × P)} : noLobk ((k, p) :: r) = (noLob p && noLobk r) := by rw [noLobk]
@[simp] theorem noLobf_nil : noLobf [] = true := by rw [noLobf]
@[simp] theorem noLobf_cons {k : String} {p : P} {r : List (String × P)} : noLobf ((k, p) :: r) = (noLob p && noLobf r) := by rw [noLobf]
theorem noLobs_all : ∀ {l : List P}, (∀ a ∈ l, noLob a = true) → noLobs l = true
  | [], _ => noLobs_nil
  | a :: l, h => by rw [noLobs_cons, h a List.mem_cons_self, noLobs_all fun b hb => h b (List.mem_cons_of_mem _ hb)]; rfl
theorem noLobk_all : ∀ {l : List (KeyP × P)}, (∀ a ∈ l, noLob a.2 = true) → noLobk l = true
  | [], _ => noLobk_nil
  | (k, a) :: l, h => by rw [noLobk_cons, h (k, a) List.mem_cons_self, noLobk_all fun b hb => h b (List.mem_cons_of_mem _ hb)]; rfl
@[simp] theorem noLobs_int {f : α → Int} {l : List α} : noLobs (l.map fun a => P.int (f a)) = true := noLobs_map (fun _ => noLob_int) l
@[simp] theorem noLobs_int' {l : List Int} : noLobs (l.map P.int) = true := noLobs_map (fun _ => noLob_int) l
@[simp] theorem noLobs_app {l m : List P} : noLobs (l ++ m) = (noLobs l && noLobs m) := by
  induction l with
  | nil => simp
  | cons a l ih => rw [List.cons_append, noLobs_cons, noLobs_cons, ih, Bool.and_assoc]
/-! ### indices -/
theorem atI_nat {xs : List α} {n : Nat} : L2.atI xs (n : Int) = xs[n]? := by
  unfold L2.atI L2.ixN
  rw [if_pos (by omega)]
  by_cases h : n < xs.length
  · rw [if_pos (by omega)]; simp
  · rw [if_neg (by omega)]; rw [List.getElem?_eq_none (by omega)]; rfl
theorem pIdx_tup {xs : List P} {n : Nat} {p : P} (h : xs[n]? = some p) : pIdx (.tup xs) (.int (n : Int)) s = .ok p s := by
  unfold pIdx itemsOf; dsimp only; rw [atI_nat, h]
theorem pIdx_lst {xs : List P} {n : Nat} {p : P} (h : xs[n]? = some p) : pIdx (.lst xs) (.int (n : Int)) s = .ok p s := by
  unfold pIdx itemsOf; dsimp only; rw [atI_nat, h]
theorem pIdx_list {o : P} {xs : List P} {n : Nat} {p : P} (hs : ∀ z, o ≠ .str z) (ho : itemsOf s o = some xs) (h : xs[n]? = some p) : pIdx o (.int (n : Int)) s = .ok p s := by
  cases o <;> first | (unfold pIdx; dsimp only; rw [ho]; dsimp only; rw [atI_nat, h]) | exact absurd rfl (hs _)
@[simp] theorem pIdx_tup0 {a : P} {xs : List P} : pIdx (.tup (a :: xs)) (.int 0) s = .ok a s := pIdx_tup (n := 0) rfl
@[simp] theorem pIdx_tup1 {a b : P} {xs : List P} : pIdx (.tup (a :: b :: xs)) (.int 1) s = .ok b s := pIdx_tup (n := 1) rfl
@[simp] theorem pIdx_tup2 {a b c : P} {xs : List P} : pIdx (.tup (a :: b :: c :: xs)) (.int 2) s = .ok c s := pIdx_tup (n := 2) rfl
@[simp] theorem pIdx_lst0 {a : P} {xs : List P} : pIdx (.lst (a :: xs)) (.int 0) s = .ok a s := pIdx_lst (n := 0) rfl
@[simp] theorem pIdx_lst1 {a b : P} {xs : List P} : pIdx (.lst (a :: b :: xs)) (.int 1) s = .ok b s := pIdx_lst (n := 1) rfl
theorem pIdx_dct {kvs : List (KeyP × P)} {k : P} {kk : KeyP} {p : P} (hk : keyOf k = some kk) (ht : isT kk = false) (h : look kvs kk = some p) : pIdx (.dct false kvs) k s = .ok p s := by
  unfold pIdx itemsOf dctOf
  cases k <;> first | (dsimp only; rw [hk]; dsimp only; rw [h]; dsimp only; rw [ht]; rfl)
@[simp] theorem keyOf_int {i : Int} : keyOf (.int i) = some (.k (.inl i)) := (rfl)
@[simp] theorem keyOf_str {x : Str} : keyOf (.str x) = some (.k (.inr x)) := (rfl)
@[simp] theorem isT_k {k : L2.Key} : isT (.k k) = false := (rfl)
@[simp] theorem mkL_val {xs : List P} : mkL .val xs s = .ok (.lst xs) s := (rfl)
@[simp] theorem mkD_val {t : Bool} {xs : List (KeyP × P)} : mkD .val t xs s = .ok (.dct t xs) s := (rfl)
/-! ### what is walked -/
@[simp] theorem iterOf_tup {xs : List P} : iterOf (.tup xs) s = .ok (.vals xs) s := (rfl)
@[simp] theorem iterOf_lst {xs : List P} : iterOf (.lst xs) s = .ok (.vals xs) s := (rfl)
@[simp] theorem iterOf_scr {xs : List P} : iterOf (.scr xs) s = .ok (.vals xs) s := (rfl)
@[simp] theorem enumOf_tup {xs : List P} : enumOf (.tup xs) s = .ok (.vals (enumP xs)) s := (rfl)
@[simp] theorem enumOf_lst {xs : List P} : enumOf (.lst xs) s = .ok (.vals (enumP xs)) s := (rfl)
@[simp] theorem keysOf_dct {kvs : List (KeyP × P)} : keysOf (.dct false kvs) s = .ok (.vals (kvs.map fun kv => keyP kv.1)) s := (rfl)
theorem enumP_map {e : α → P} {xs : List α} : enumP (xs.map e) = xs.zipIdx.map fun p => .tup [eI p.2, e p.1] := by
  unfold enumP
  rw [List.zipIdx_map, List.map_map]
  rfl
theorem okR_nat {n : Nat} (h : n < 2 ^ 62) : okR (n : Int) = true := by
  unfold okR; simp; omega
theorem rangeP_nat {n : Nat} : rangeP 0 n = (List.range n).map eI := by
  unfold rangeP; simp
theorem r1P_nat {n : Nat} (h : n < 2 ^ 62) : r1P (eI n) s = .ok (.vals ((List.range n).map eI)) s := by
  unfold r1P; dsimp only; rw [if_pos (okR_nat h)]; show R.ok (Iter.vals (rangeP 0 (n : Int).toNat)) s = _; rw [Int.toNat_natCast, rangeP_nat]
/-! ### built-ins -/
@[simp] theorem pBi_len_tup {r : Al} {xs : List P} : pBi Φ r .len [.tup xs] s = .ok (eI xs.length) s := (rfl)
@[simp] theorem pBi_len_lst {r : Al} {xs : List P} : pBi Φ r .len [.lst xs] s = .ok (eI xs.length) s := (rfl)
@[simp] theorem pBi_len_scr {r : Al} {xs : List P} : pBi Φ r .len [.scr xs] s = .ok (eI xs.length) s := (rfl)
@[simp] theorem pBi_len_dct {r : Al} {kvs : List (KeyP × P)} : pBi Φ r .len [.dct false kvs] s = .ok (eI kvs.length) s := (rfl)
theorem intsOf_mp {f : α → Int} : ∀ xs : List α, intsOf (xs.map fun a => .int (f a)) = some (xs.map f)
  | [] => rfl
  | a :: xs => by rw [List.map_cons, intsOf, intsOf_mp xs]; rfl
theorem blsOf_map {f : α → Bool} : ∀ xs : List α, blsOf (xs.map fun a => .bl (f a)) = some (xs.map f)
  | [] => rfl
  | a :: xs => by rw [List.map_cons, blsOf, blsOf_map xs]; rfl
theorem pBi_sum {r : Al} {f : α → Int} {xs : List α} : pBi Φ r .sum [.lst (xs.map fun a => .int (f a))] s = .ok (.int (xs.map f).sum) s := by
  unfold pBi; dsimp only [listOf]; rw [intsOf_mp]
theorem pBi_all {r : Al} {f : α → Bool} {xs : List α} : pBi Φ r .all [.lst (xs.map fun a => .bl (f a))] s = .ok (.bl (xs.all f)) s := by
  unfold pBi; dsimp only [listOf]; rw [blsOf_map]; simp [List.all_map]
theorem pBi_any {r : Al} {f : α → Bool} {xs : List α} : pBi Φ r .any [.lst (xs.map fun a => .bl (f a))] s = .ok (.bl (xs.any f)) s := by
  unfold pBi; dsimp only [listOf]; rw [blsOf_map]; simp [List.any_map]
@[simp] theorem pBi_tuple_lst {r : Al} {xs : List P} : pBi Φ r .tuple [.lst xs] s = .ok (.tup xs) s := (rfl)
@[simp] theorem pBi_tuple_tup {r : Al} {xs : List P} : pBi Φ r .tuple [.tup xs] s = .ok (.tup xs) s := (rfl)
@[simp] theorem pBi_list_tup {xs : List P} : pBi Φ .val .list [.tup xs] s = .ok (.lst xs) s := (rfl)
@[simp] theorem pBi_list_lst {xs : List P} : pBi Φ .val .list [.lst xs] s = .ok (.lst xs) s := (rfl)
@[simp] theorem pBi_int {r : Al} {i : Int} : pBi Φ r .int [.int i] s = .ok (.int i) s := (rfl)
@[simp] theorem pBi_abs {r : Al} {i : Int} : pBi Φ r .abs [.int i] s = .ok (.int (if i < 0 then -i else i)) s := (rfl)
@[simp] theorem pBi_min2 {r : Al} {i j : Int} : pBi Φ r .min [.int i, .int j] s = .ok (.int (if j < i then j else i)) s := (rfl)
@[simp] theorem pBi_max2 {r : Al} {i j : Int} : pBi Φ r .max [.int i, .int j] s = .ok (.int (if j > i then j else i)) s := (rfl)
/-! ### isinstance -/
@[simp] theorem isi_int_int {r : Al} {i : Int} : pBi Φ r .isinstance [.int i, .ty "int"] s = .ok (.bl true) s := (rfl)
@[simp] theorem isi_int_bool {r : Al} {i : Int} : pBi Φ r .isinstance [.int i, .ty "bool"] s = .ok (.bl false) s := (rfl)
@[simp] theorem isi_bl_int {r : Al} {i : Bool} : pBi Φ r .isinstance [.bl i, .ty "int"] s = .ok (.bl true) s := (rfl)
@[simp] theorem isi_bl_bool {r : Al} {i : Bool} : pBi Φ r .isinstance [.bl i, .ty "bool"] s = .ok (.bl true) s := (rfl)
@[simp] theorem isi_non_int {r : Al} : pBi Φ r .isinstance [.non, .ty "int"] s = .ok (.bl false) s := (rfl)
@[simp] theorem isi_str_int {r : Al} {x : Str} : pBi Φ r .isinstance [.str x, .ty "int"] s = .ok (.bl false) s := (rfl)
@[simp] theorem isi_tup_int {r : Al} {x : List P} : pBi Φ r .isinstance [.tup x, .ty "int"] s = .ok (.bl false) s := (rfl)
@[simp] theorem isi_lst_int {r : Al} {x : List P} : pBi Φ r .isinstance [.lst x, .ty "int"] s = .ok (.bl false) s := (rfl)
@[simp] theorem isi_tup_tup {r : Al} {x : List P} : pBi Φ r .isinstance [.tup x, .ty "tuple"] s = .ok (.bl true) s := (rfl)
@[simp] theorem isi_lst_tup {r : Al} {x : List P} : pBi Φ r .isinstance [.lst x, .ty "tuple"] s = .ok (.bl false) s := (rfl)
@[simp] theorem isi_non_tup {r : Al} : pBi Φ r .isinstance [.non, .ty "tuple"] s = .ok (.bl false) s := (rfl)
@[simp] theorem isi_int_tup {r : Al} {x : Int} : pBi Φ r .isinstance [.int x, .ty "tuple"] s = .ok (.bl false) s := (rfl)
@[simp] theorem isi_str_tup {r : Al} {x : Str} : pBi Φ r .isinstance [.str x, .ty "tuple"] s = .ok (.bl false) s := (rfl)
@[simp] theorem isi_lst_seq {r : Al} {x : List P} : pBi Φ r .isinstance [.lst x, .tup [.ty "list", .ty "tuple"]] s = .ok (.bl true) s := (rfl)
@[simp] theorem isi_tup_seq {r : Al} {x : List P} : pBi Φ r .isinstance [.tup x, .tup [.ty "list", .ty "tuple"]] s = .ok (.bl true) s := (rfl)
@[simp] theorem isi_non_seq {r : Al} : pBi Φ r .isinstance [.non, .tup [.ty "list", .ty "tuple"]] s = .ok (.bl false) s := (rfl)
@[simp] theorem isi_str_seq {r : Al} {x : Str} : pBi Φ r .isinstance [.str x, .tup [.ty "list", .ty "tuple"]] s = .ok (.bl false) s := (rfl)
@[simp] theorem isi_int_seq {r : Al} {x : Int} : pBi Φ r .isinstance [.int x, .tup [.ty "list", .ty "tuple"]] s = .ok (.bl false) s := (rfl)
/-! ### operators -/
@[simp] theorem pBin_add_int {r : Al} {i j : Int} : pBin r .add (.int i) (.int j) s = .ok (.int (i + j)) s := (rfl)
@[simp] theorem pBin_sub_int {r : Al} {i j : Int} : pBin r .sub (.int i) (.int j) s = .ok (.int (i - j)) s := (rfl)
theorem pBin_mul_int {r : Al} {i j : Int} (h : (small64 i || small64 j) = true) : pBin r .mul (.int i) (.int j) s = .ok (.int (i * j)) s := by
  unfold pBin pMul; dsimp only; rw [if_pos h]
theorem pBin_add_tup {r : Al} {xs ys : List P} (h : xs.length + ys.length ≤ line) : pBin r .add (.tup xs) (.tup ys) s = .ok (.tup (xs ++ ys)) s := by
  unfold pBin pAdd; dsimp only; rw [if_pos h]
theorem pBin_add_lst {xs ys : List P} (h : xs.length + ys.length ≤ line) : pBin .val .add (.lst xs) (.lst ys) s = .ok (.lst (xs ++ ys)) s := by
  unfold pBin pAdd; dsimp only [listOf]; rw [if_pos h]; rfl
@[simp] theorem pNeg_int {i : Int} : pNeg (.int i) s = .ok (.int (-i)) s := (rfl)
/-! ### comparisons -/
@[simp] theorem pCmp_lt {i j : Int} : pCmp .lt (.int i) (.int j) s = .ok (decide (i < j)) s := (rfl)
@[simp] theorem pCmp_le {i j : Int} : pCmp .le (.int i) (.int j) s = .ok (decide (i ≤ j)) s := (rfl)
@[simp] theorem pCmp_gt {i j : Int} : pCmp .gt (.int i) (.int j) s = .ok (decide (j < i)) s := (rfl)
@[simp] theorem pCmp_ge {i j : Int} : pCmp .ge (.int i) (.int j) s = .ok (decide (j ≤ i)) s := (rfl)
@[simp] theorem pCmp_is {a : P} : pCmp .is_ a .non s = .ok (isNonP a) s := (rfl)
@[simp] theorem pCmp_isNot {a : P} : pCmp .isNot a .non s = .ok (!isNonP a) s := (rfl)
@[simp] theorem pCmp_isT {b : Bool} : pCmp .is_ (.bl b) (.bl true) s = .ok (decide (b = true)) s := (rfl)
@[simp] theorem pCmp_isNotT {b : Bool} : pCmp .isNot (.bl b) (.bl true) s = .ok (!decide (b = true)) s := (rfl)
@[simp] theorem pCmp_isF {b : Bool} : pCmp .is_ (.bl b) (.bl false) s = .ok (decide (b = false)) s := (rfl)
@[simp] theorem pCmp_isNotF {b : Bool} : pCmp .isNot (.bl b) (.bl false) s = .ok (!decide (b = false)) s := (rfl)
@[simp] theorem isNonP_non : isNonP .non = true := (rfl)
@[simp] theorem isNonP_tup {xs : List P} : isNonP (.tup xs) = false := (rfl)
@[simp] theorem isNonP_lst {xs : List P} : isNonP (.lst xs) = false := (rfl)
@[simp] theorem isNonP_int {i : Int} : isNonP (.int i) = false := (rfl)
end
/-! ### equality of data -/
mutual
/-- pure data, at most so deep -/
def isD : Nat → P → Bool
  | _, .non => true
  | _, .bl _ => true
  | _, .int _ => true
  | _, .str x => PyData.canLay0 (.str x)
  | k + 1, .tup xs => isDs k xs
  | k + 1, .lst xs => isDs k xs
  | _, _ => false
def isDs : Nat → List P → Bool
  | _, [] => true
  | k, p :: ps => isD k p && isDs k ps
end
mutual
def peq : P → P → Bool
  | .non, .non => true
  | .bl a, .bl b => a == b
  | .bl a, .int j => (if a then 1 else 0) == j
  | .int i, .bl b => i == (if b then 1 else 0)
  | .int i, .int j => i == j
  | .str x, .str y => x == y
  | .lst xs, .lst ys => peqs xs ys
  | .tup xs, .tup ys => peqs xs ys
  | _, _ => false
def peqs : List P → List P → Bool
  | [], [] => true
  | x :: xs, y :: ys => peq x y && peqs xs ys
  | _, _ => false
end
mutual
theorem toD_isD {f : P → Option PyData} : ∀ {k : Nat} {p : P}, isD k p = true → ∃ d, toD f p = some d ∧ d.canLay0 = true ∧ d.depth ≤ k
  | k, .non, _ => ⟨.none, by rw [toD], by simp [PyData.canLay0], by simp [PyData.depth]⟩
  | k, .bl b, _ => ⟨.bool b, by rw [toD], by simp [PyData.canLay0], by simp [PyData.depth]⟩
  | k, .int i, _ => ⟨.int i, by rw [toD], by simp [PyData.canLay0], by simp [PyData.depth]⟩
  | k, .str x, h => ⟨.str x, by rw [toD], by rw [isD] at h; exact h, by simp [PyData.depth]⟩
  | 0, .tup xs, h => by simp [isD] at h
  | k + 1, .tup xs, h => by
    rw [isD] at h
    obtain ⟨ds, h1, h2, h3⟩ := toDs_isD (f := f) h
    exact ⟨.tuple ds, by rw [toD, h1]; rfl, by rw [PyData.canLay0]; exact h2, by rw [PyData.depth]; omega⟩
  | 0, .lst xs, h => by simp [isD] at h
  | k + 1, .lst xs, h => by
    rw [isD] at h
    obtain ⟨ds, h1, h2, h3⟩ := toDs_isD (f := f) h
    exact ⟨.list ds, by rw [toD, h1]; rfl, by rw [PyData.canLay0]; exact h2, by rw [PyData.depth]; omega⟩
  | k, .ty _, h | k, .dct _ _, h | k, .ins _ _, h | k, .exc _ _, h | k, .lob _, h | k, .gob _, h | k, .fn _, h | k, .cls _, h | k, .scr _, h => by simp [isD] at h
theorem toDs_isD {f : P → Option PyData} : ∀ {k : Nat} {ps : List P}, isDs k ps = true → ∃ ds, toDs f ps = some ds ∧ PyData.canLayAll0 ds = true ∧ PyData.depthAll ds ≤ k
  | k, [], _ => ⟨[], by rw [toDs], by simp [PyData.canLayAll0], by simp [PyData.depthAll]⟩
  | k, p :: ps, h => by
    rw [isDs, Bool.and_eq_true] at h
    obtain ⟨d, h1, h2, h3⟩ := toD_isD (f := f) h.1
    obtain ⟨ds, g1, g2, g3⟩ := toDs_isD (f := f) h.2
    exact ⟨d :: ds, by rw [toDs, h1, g1], by rw [PyData.canLayAll0, h2, g2]; rfl, by rw [PyData.depthAll]; omega⟩
end
mutual
theorem peq_eqv {f g : P → Option PyData} : ∀ {k j : Nat} {p q : P} {d e : PyData}, isD k p = true → isD j q = true → toD f p = some d → toD g q = some e → PyData.eqv d e = peq p q := by
  intro k j p q d e hp hq h1 h2
  cases p with
  | non => rw [toD] at h1; cases h1; cases q <;> first | (simp [isD] at hq; done) | (rw [toD] at h2; cases h2; simp [PyData.eqv, peq]) | (rw [toD] at h2; obtain ⟨ds, _, rfl⟩ := Option.map_eq_some_iff.mp h2; simp [PyData.eqv, peq])
  | bl b => rw [toD] at h1; cases h1; cases q <;> first | (simp [isD] at hq; done) | (rw [toD] at h2; cases h2; simp [PyData.eqv, peq]) | (rw [toD] at h2; obtain ⟨ds, _, rfl⟩ := Option.map_eq_some_iff.mp h2; simp [PyData.eqv, peq])
  | int i => rw [toD] at h1; cases h1; cases q <;> first | (simp [isD] at hq; done) | (rw [toD] at h2; cases h2; simp [PyData.eqv, peq]) | (rw [toD] at h2; obtain ⟨ds, _, rfl⟩ := Option.map_eq_some_iff.mp h2; simp [PyData.eqv, peq])
  | str x => rw [toD] at h1; cases h1; cases q <;> first | (simp [isD] at hq; done) | (rw [toD] at h2; cases h2; simp [PyData.eqv, peq]) | (rw [toD] at h2; obtain ⟨ds, _, rfl⟩ := Option.map_eq_some_iff.mp h2; simp [PyData.eqv, peq])
  | tup xs =>
    cases k with
    | zero => simp [isD] at hp
    | succ k =>
      rw [isD] at hp
      rw [toD] at h1
      obtain ⟨ds, h3, rfl⟩ := Option.map_eq_some_iff.mp h1
      cases q with
      | tup ys =>
        cases j with
        | zero => simp [isD] at hq
        | succ j =>
          rw [isD] at hq
          rw [toD] at h2
          obtain ⟨es, h4, rfl⟩ := Option.map_eq_some_iff.mp h2
          rw [PyData.eqv, peq]
          exact peqs_eqv hp hq h3 h4
      | _ => first | (simp [isD] at hq; done) | (rw [toD] at h2; cases h2; simp [PyData.eqv, peq]) | (rw [toD] at h2; obtain ⟨es, _, rfl⟩ := Option.map_eq_some_iff.mp h2; simp [PyData.eqv, peq])
  | lst xs =>
    cases k with
    | zero => simp [isD] at hp
    | succ k =>
      rw [isD] at hp
      rw [toD] at h1
      obtain ⟨ds, h3, rfl⟩ := Option.map_eq_some_iff.mp h1
      cases q with
      | lst ys =>
        cases j with
        | zero => simp [isD] at hq
        | succ j =>
          rw [isD] at hq
          rw [toD] at h2
          obtain ⟨es, h4, rfl⟩ := Option.map_eq_some_iff.mp h2
          rw [PyData.eqv, peq]
          exact peqs_eqv hp hq h3 h4
      | _ => first | (simp [isD] at hq; done) | (rw [toD] at h2; cases h2; simp [PyData.eqv, peq]) | (rw [toD] at h2; obtain ⟨es, _, rfl⟩ := Option.map_eq_some_iff.mp h2; simp [PyData.eqv, peq])
  | _ => simp [isD] at hp
theorem peqs_eqv {f g : P → Option PyData} : ∀ {k j : Nat} {ps qs : List P} {ds es : List PyData}, isDs k ps = true → isDs j qs = true → toDs f ps = some ds → toDs g qs = some es → PyData.eqvAll ds es = peqs ps qs
  | k, j, [], [], ds, es, _, _, h1, h2 => by rw [toDs] at h1 h2; cases h1; cases h2; simp [PyData.eqvAll, peqs]
  | k, j, [], q :: qs, ds, es, _, hq, h1, h2 => by
    rw [toDs] at h1; cases h1
    rw [toDs] at h2
    split at h2
    · cases h2; simp [PyData.eqvAll, peqs]
    · cases h2
  | k, j, p :: ps, [], ds, es, hp, _, h1, h2 => by
    rw [toDs] at h2; cases h2
    rw [toDs] at h1
    split at h1
    · cases h1; simp [PyData.eqvAll, peqs]
    · cases h1
  | k, j, p :: ps, q :: qs, ds, es, hp, hq, h1, h2 => by
    rw [isDs, Bool.and_eq_true] at hp hq
    rw [toDs] at h1 h2
    split at h1
    · rename_i d1 ds1 a1 a2
      split at h2
      · rename_i e1 es1 b1 b2
        cases h1; cases h2
        rw [PyData.eqvAll, peqs, peq_eqv hp.1 hq.1 a1 b1, peqs_eqv hp.2 hq.2 a2 b2]
      · cases h2
    · cases h1
end
theorem datOf_toD {n : Nat} {s : Sto} {p : P} : ∃ f, datOf n s p = toD f p := by
  cases n <;> exact ⟨_, rfl⟩
theorem deepEq_peq {s : Sto} {a b : P} (ha : isD 60 a = true) (hb : isD 60 b = true) : deepEq a b s = .ok (peq a b) s := by
  obtain ⟨f, ef⟩ := datOf_toD (n := 3) (s := s) (p := a)
  obtain ⟨g, eg⟩ := datOf_toD (n := 3) (s := s) (p := b)
  obtain ⟨d, h1, h2, h3⟩ := toD_isD (f := f) ha
  obtain ⟨e, g1, g2, g3⟩ := toD_isD (f := g) hb
  unfold deepEq
  rw [ef, eg, h1, g1]
  dsimp only
  have s1 : SeqAt.shaped d = true := by unfold SeqAt.shaped; rw [h2, Bool.true_and]; exact decide_eq_true (by omega)
  have s2 : SeqAt.shaped e = true := by unfold SeqAt.shaped; rw [g2, Bool.true_and]; exact decide_eq_true (by omega)
  rw [s1, s2, peq_eqv ha hb h1 g1]; rfl
theorem pCmp_eq {s : Sto} {a b : P} (ha : isD 60 a = true) (hb : isD 60 b = true) : pCmp .eq a b s = .ok (peq a b) s := deepEq_peq ha hb
theorem pCmp_ne {s : Sto} {a b : P} (ha : isD 60 a = true) (hb : isD 60 b = true) : pCmp .ne a b s = .ok (!peq a b) s := by
  show bnd (deepEq a b) (fun c => ret !c) s = _
  rw [bnd_ap, deepEq_peq ha hb]; rfl
section
variable {s : Sto} {α : Type}
@[simp] theorem pCmp_eq_int {i j : Int} : pCmp .eq (.int i) (.int j) s = .ok (decide (i = j)) s := by
  rw [pCmp_eq (by simp [isD]) (by simp [isD])]; simp [peq]; rfl
@[simp] theorem pCmp_ne_int {i j : Int} : pCmp .ne (.int i) (.int j) s = .ok (!decide (i = j)) s := by
  rw [pCmp_ne (by simp [isD]) (by simp [isD])]; simp [peq]; rfl
theorem isDs_map {k : Nat} {f : α → P} (h : ∀ a, isD k (f a) = true) : ∀ l : List α, isDs k (l.map f) = true
  | [] => by rw [List.map_nil, isDs]
  | a :: l => by rw [List.map_cons, isDs, h, isDs_map h l]; rfl
theorem isDs_all {k : Nat} : ∀ {l : List P}, (∀ a ∈ l, isD k a = true) → isDs k l = true
  | [], _ => by rw [isDs]
  | a :: l, h => by rw [isDs, h a List.mem_cons_self, isDs_all fun b hb => h b (List.mem_cons_of_mem _ hb)]; rfl
theorem peqs_map {f : α → P} [DecidableEq α] (h : ∀ a b, peq (f a) (f b) = decide (a = b)) : ∀ l m : List α, peqs (l.map f) (m.map f) = decide (l = m)
  | [], [] => by simp [peqs]
  | [], b :: m => by simp [peqs]
  | a :: l, [] => by simp [peqs]
  | a :: l, b :: m => by
    rw [List.map_cons, List.map_cons, peqs, h, peqs_map h l m]
    simp only [List.cons.injEq, Bool.decide_and]
theorem peqs_nil {l : List P} : peqs l [] = l.isEmpty := by cases l <;> simp [peqs]
/-! ### x in o -/
theorem flatP_eI {l : List Int} : (l.map P.int).all flatP = true := by
  rw [List.all_map, List.all_eq_true]; intro x _; rfl
theorem inSeq_int {i : Int} {l : List Int} : inSeq (.int i) (l.map P.int) = decide (i ∈ l) := by
  unfold inSeq
  induction l with
  | nil => simp
  | cons a l ih => rw [List.map_cons, List.any_cons, ih]; simp [eqP, eq_comm]
theorem pIn_ints {i : Int} {l : List Int} : pIn (.int i) (.lst (l.map P.int)) s = .ok (decide (i ∈ l)) s := by
  unfold pIn itemsOf; dsimp only; rw [flatP_eI, if_pos (by rfl), inSeq_int]
theorem pIn_dct {i : Int} {kvs : List (KeyP × P)} : pIn (.int i) (.dct false kvs) s = .ok (look kvs (.k (.inl i))).isSome s := by
  unfold pIn itemsOf dctOf; rfl
@[simp] theorem pCmp_in {a b : P} : pCmp .in_ a b = pIn a b := (rfl)
@[simp] theorem pCmp_notIn {a b : P} : pCmp .notIn a b s = (pIn a b s).bind fun c => ret !c := (rfl)
end
end FW

end

section
set_option Elab.async false
set_option linter.all false
set_option maxRecDepth 100000
/-! Mp0: least sums over rules, round by round. No program in sight. -/
namespace FW
abbrev Rule := List Nat
abbrev Line := List (Option Rule)
abbrev Rules := List Line
abbrev Tab := Nat → Option Nat
def known (T : Tab) (r : Rule) : Bool := r.all fun j => (T j).isSome
def sumT (T : Tab) (r : Rule) : Nat := (r.map fun j => (T j).getD 0).sum
/-- what the rules of a line cost, where all is known -/
def cands (w : Nat → Nat) (T : Tab) (line : Line) : List Nat := line.zipIdx.filterMap fun p => match p.1 with
  | some r => if known T r then some (w p.2 + sumT T r) else none
  | none => none
/-- the least of a list -/
def lmin : List Nat → Option Nat
  | [] => none
  | x :: xs => some (xs.foldl (fun m y => if y < m then y else m) x)
def stepT (rs : Rules) (w : Nat → Nat) (T : Tab) : Tab := fun i => match rs[i]? with
  | some line => lmin (cands w T line)
  | none => none
def itT (rs : Rules) (w : Nat → Nat) : Nat → Tab
  | 0 => fun _ => none
  | k + 1 => stepT rs w (itT rs w k)
/-- all procedures read some text -/
def AllLive (rs : Rules) : Prop := ∀ S : Nat → Prop, (∀ (i : Nat) (line : Line) (r : Rule), rs[i]? = some line → some r ∈ line → (∀ j ∈ r, S j) → S i) → ∀ i, i < rs.length → S i
theorem foldl_min (xs : List Nat) : ∀ x : Nat, (xs.foldl (fun m y => if y < m then y else m) x = x ∨ xs.foldl (fun m y => if y < m then y else m) x ∈ xs) ∧ xs.foldl (fun m y => if y < m then y else m) x ≤ x ∧ ∀ y ∈ xs, xs.foldl (fun m y => if y < m then y else m) x ≤ y := by
  induction xs with
  | nil => intro x; exact ⟨.inl rfl, Nat.le_refl _, fun _ h => nomatch h⟩
  | cons a xs ih =>
    intro x
    obtain ⟨h1, h2, h3⟩ := ih (if a < x then a else x)
    rw [List.foldl_cons]
    refine ⟨?_, ?_, fun y hy => ?_⟩
    · rcases h1 with h1 | h1
      · rw [h1]
        by_cases c : a < x
        · rw [if_pos c]; exact .inr List.mem_cons_self
        · rw [if_neg c]; exact .inl rfl
      · exact .inr (List.mem_cons_of_mem _ h1)
    · refine Nat.le_trans h2 ?_
      by_cases c : a < x
      · rw [if_pos c]; omega
      · rw [if_neg c]; omega
    · rcases List.mem_cons.mp hy with e | e
      · refine Nat.le_trans h2 ?_
        subst e
        by_cases c : y < x
        · rw [if_pos c]; omega
        · rw [if_neg c]; omega
      · exact h3 y e
theorem lmin_some {l : List Nat} {v : Nat} : lmin l = some v ↔ v ∈ l ∧ ∀ y ∈ l, v ≤ y := by
  cases l with
  | nil => simp [lmin]
  | cons x xs =>
    obtain ⟨h1, h2, h3⟩ := foldl_min xs x
    unfold lmin
    constructor
    · intro h
      have e : xs.foldl (fun m y => if y < m then y else m) x = v := Option.some.inj h
      rw [e] at h1 h2 h3
      exact ⟨h1.elim (fun z => z ▸ List.mem_cons_self) fun z => List.mem_cons_of_mem _ z, fun y hy => (List.mem_cons.mp hy).elim (fun z => z ▸ h2) (h3 y)⟩
    · intro ⟨g1, g2⟩
      refine congrArg some (Nat.le_antisymm ?_ ?_)
      · rcases List.mem_cons.mp g1 with e | e
        · rw [e]; exact h2
        · exact h3 v e
      · rcases h1 with e | e
        · rw [e]; exact g2 x List.mem_cons_self
        · exact g2 _ (List.mem_cons_of_mem _ e)
theorem lmin_none {l : List Nat} : lmin l = none ↔ l = [] := by cases l <;> simp [lmin]
theorem lmin_isSome {l : List Nat} (h : l ≠ []) : ∃ v, lmin l = some v := by
  cases l with
  | nil => exact absurd rfl h
  | cons x xs => exact ⟨_, rfl⟩
theorem mem_cands {w : Nat → Nat} {T : Tab} {line : Line} {v : Nat} : v ∈ cands w T line ↔ ∃ l r, line[l]? = some (some r) ∧ known T r = true ∧ v = w l + sumT T r := by
  unfold cands
  rw [List.mem_filterMap]
  constructor
  · rintro ⟨⟨o, l⟩, h1, h2⟩
    have h1' := List.mem_zipIdx h1
    cases o with
    | none => cases h2
    | some r =>
      dsimp only at h2
      split at h2
      · rename_i hk
        refine ⟨l, r, ?_, hk, (Option.some.inj h2).symm⟩
        have := List.mk_mem_zipIdx_iff_getElem?.mp h1
        simpa using this
      · cases h2
  · rintro ⟨l, r, h1, h2, h3⟩
    refine ⟨(some r, l), List.mk_mem_zipIdx_iff_getElem?.mpr (by simpa using h1), ?_⟩
    dsimp only
    rw [if_pos h2, h3]
theorem sumT_cons {T : Tab} {j : Nat} {r : Rule} : sumT T (j :: r) = (T j).getD 0 + sumT T r := by unfold sumT; rw [List.map_cons, List.sum_cons]
theorem sumT_app {T : Tab} {r r' : Rule} : sumT T (r ++ r') = sumT T r + sumT T r' := by unfold sumT; rw [List.map_append, List.sum_append]
theorem known_iff {T : Tab} {r : Rule} : known T r = true ↔ ∀ j ∈ r, ∃ v, T j = some v := by
  unfold known
  rw [List.all_eq_true]
  exact ⟨fun h j hj => Option.isSome_iff_exists.mp (h j hj), fun h j hj => Option.isSome_iff_exists.mpr (h j hj)⟩
/-- lower and more known -/
def Le (T T' : Tab) : Prop := ∀ i v, T i = some v → ∃ v', T' i = some v' ∧ v' ≤ v
theorem Le.sum {T T' : Tab} (h : Le T T') : ∀ {r : Rule}, known T r = true → known T' r = true ∧ sumT T' r ≤ sumT T r
  | [], _ => ⟨rfl, Nat.le_refl _⟩
  | j :: r, hk => by
    have hk' := known_iff.mp hk
    obtain ⟨v, hv⟩ := hk' j List.mem_cons_self
    obtain ⟨v', hv', hle⟩ := h j v hv
    obtain ⟨h1, h2⟩ := h.sum (r := r) (known_iff.mpr fun k hk2 => hk' k (List.mem_cons_of_mem _ hk2))
    refine ⟨known_iff.mpr fun k hk2 => ?_, ?_⟩
    · rcases List.mem_cons.mp hk2 with e | e
      · rw [e]; exact ⟨v', hv'⟩
      · exact known_iff.mp h1 k e
    · rw [sumT_cons, sumT_cons, hv, hv']
      simp only [Option.getD_some]; omega
section
variable {rs : Rules} {w : Nat → Nat}
theorem step_mono {T T' : Tab} (h : Le T T') : Le (stepT rs w T) (stepT rs w T') := fun i v hv => by
  unfold stepT at hv ⊢
  cases hr : rs[i]? with
  | none => rw [hr] at hv; cases hv
  | some line =>
    rw [hr] at hv
    dsimp only at hv ⊢
    obtain ⟨h1, h2⟩ := lmin_some.mp hv
    obtain ⟨l, r, g1, g2, g3⟩ := mem_cands.mp h1
    obtain ⟨k1, k2⟩ := h.sum g2
    have hm : w l + sumT T' r ∈ cands w T' line := mem_cands.mpr ⟨l, r, g1, k1, rfl⟩
    obtain ⟨v', hv'⟩ := lmin_isSome (List.ne_nil_of_mem hm)
    exact ⟨v', hv', by have := (lmin_some.mp hv').2 _ hm; omega⟩
theorem it_le : ∀ k, Le (itT rs w k) (itT rs w (k + 1))
  | 0 => fun i v h => by cases h
  | k + 1 => step_mono (it_le k)
theorem Le.refl (T : Tab) : Le T T := fun i v h => ⟨v, h, Nat.le_refl _⟩
theorem Le.trans {T T1 T2 : Tab} (a : Le T T1) (b : Le T1 T2) : Le T T2 := fun i v h => by
  obtain ⟨v1, h1, l1⟩ := a i v h
  obtain ⟨v2, h2, l2⟩ := b i v1 h1
  exact ⟨v2, h2, by omega⟩
theorem it_le_add (k m : Nat) : Le (itT rs w k) (itT rs w (k + m)) := by
  induction m with
  | zero => exact Le.refl _
  | succ m ih => exact ih.trans (it_le (k + m))
theorem it_out {k i : Nat} (h : rs.length ≤ i) : itT rs w k i = none := by
  cases k with
  | zero => rfl
  | succ k => show stepT rs w _ i = none; unfold stepT; rw [List.getElem?_eq_none h]
/-- a set that grows until it is all -/
theorem grows (n : Nat) (G : Nat → Nat → Bool) (hm : ∀ k i, G k i = true → G (k + 1) i = true) (hs : ∀ k, (∃ i, i < n ∧ G k i = false) → ∃ i, i < n ∧ G k i = false ∧ G (k + 1) i = true) : ∀ i, i < n → G n i = true := by
  have cnt : ∀ k, k ≤ n → k ≤ (List.range n).countP (G k) ∨ ∀ i, i < n → G k i = true := by
    intro k
    induction k with
    | zero => intro _; exact .inl (Nat.zero_le _)
    | succ k ih =>
      intro hk
      by_cases hall : ∃ i, i < n ∧ G k i = false
      · obtain ⟨i, hi, h1, h2⟩ := hs k hall
        rcases ih (by omega) with h | h
        · left
          have lt : (List.range n).countP (G k) < (List.range n).countP (G (k + 1)) := by
            have key : ∀ l : List Nat, i ∈ l → l.countP (G k) < l.countP (G (k + 1)) := by
              have le : ∀ l : List Nat, l.countP (G k) ≤ l.countP (G (k + 1)) := fun l => List.countP_mono_left fun x _ hx => hm k x hx
              intro l
              induction l with
              | nil => intro z; cases z
              | cons a l il =>
                intro hmem
                rw [List.countP_cons, List.countP_cons]
                rcases List.mem_cons.mp hmem with e | e
                · subst e
                  rw [h1, h2]
                  have := le l
                  simp; omega
                · have := il e
                  have hb : (if G k a = true then 1 else 0) ≤ (if G (k + 1) a = true then 1 else 0) := by
                    by_cases c : G k a = true
                    · rw [if_pos c, if_pos (hm k a c)]; exact Nat.le_refl 1
                    · rw [if_neg c]; exact Nat.zero_le _
                  omega
            exact key _ (List.mem_range.mpr hi)
          omega
        · rw [h i hi] at h1; cases h1
      · right
        intro i hi
        refine hm k i ?_
        cases c : G k i with
        | true => rfl
        | false => exact absurd ⟨i, hi, c⟩ hall
  rcases cnt n (Nat.le_refl n) with h | h
  · intro i hi
    have h2 : (List.range n).countP (G n) = (List.range n).length := by
      have := List.countP_le_length (p := G n) (l := List.range n)
      rw [List.length_range] at this ⊢
      omega
    exact List.countP_eq_length.mp h2 i (List.mem_range.mpr hi)
  · exact h
theorem countP_lt {n i : Nat} {p q : Nat → Bool} (hm : ∀ i, p i = true → q i = true) (hi : i < n) (h1 : p i = false) (h2 : q i = true) : (List.range n).countP p < (List.range n).countP q := by
  have le : ∀ l : List Nat, l.countP p ≤ l.countP q := fun l => List.countP_mono_left fun x _ hx => hm x hx
  have key : ∀ l : List Nat, i ∈ l → l.countP p < l.countP q := by
    intro l
    induction l with
    | nil => intro z; cases z
    | cons a l il =>
      intro hmem
      rw [List.countP_cons, List.countP_cons]
      rcases List.mem_cons.mp hmem with e | e
      · subst e
        rw [h1, h2]
        have := le l
        simp; omega
      · have := il e
        have hb : (if p a = true then 1 else 0) ≤ (if q a = true then 1 else 0) := by
          by_cases c : p a = true
          · rw [if_pos c, if_pos (hm a c)]; exact Nat.le_refl 1
          · rw [if_neg c]; exact Nat.zero_le _
        omega
  exact key _ (List.mem_range.mpr hi)
theorem it_grow (L : AllLive rs) (k : Nat) (hk : ∃ i, i < rs.length ∧ (itT rs w k i).isSome = false) : ∃ i, i < rs.length ∧ (itT rs w k i).isSome = false ∧ (itT rs w (k + 1) i).isSome = true := by
  refine Classical.byContradiction fun hno => ?_
  obtain ⟨i, hi, hf⟩ := hk
  have key : ∀ i, i < rs.length → (itT rs w k i).isSome = true := L (fun i => (itT rs w k i).isSome = true) fun i line r h1 h2 h3 => ?_
  · rw [key i hi] at hf; cases hf
  · have hin : i < rs.length := (List.getElem?_eq_some_iff.mp h1).1
    cases c : (itT rs w k i).isSome with
    | true => rfl
    | false =>
      refine absurd ⟨i, hin, c, ?_⟩ hno
      obtain ⟨l, hl⟩ := List.getElem?_of_mem h2
      have hm : w l + sumT (itT rs w k) r ∈ cands w (itT rs w k) line := mem_cands.mpr ⟨l, r, hl, List.all_eq_true.mpr h3, rfl⟩
      obtain ⟨v, hv⟩ := lmin_isSome (List.ne_nil_of_mem hm)
      show (stepT rs w (itT rs w k) i).isSome = true
      unfold stepT
      rw [h1]
      dsimp only
      rw [hv]; rfl
theorem it_isSome {k i : Nat} (h : (itT rs w k i).isSome = true) : (itT rs w (k + 1) i).isSome = true := by
  obtain ⟨v, hv⟩ := Option.isSome_iff_exists.mp h
  obtain ⟨v', hv', _⟩ := it_le k i v hv
  exact Option.isSome_iff_exists.mpr ⟨v', hv'⟩
/-- behind as many rounds as procedures all is known -/
theorem it_all (L : AllLive rs) : ∀ i, i < rs.length → ∃ v, itT rs w rs.length i = some v := fun i hi => by
  exact Option.isSome_iff_exists.mp (grows rs.length (fun k i => (itT rs w k i).isSome) (fun k i h => it_isSome h) (fun k hk => it_grow L k hk) i hi)
theorem it_all' (L : AllLive rs) (m : Nat) {i : Nat} (hi : i < rs.length) : ∃ v, itT rs w (rs.length + m) i = some v := by
  obtain ⟨v, hv⟩ := it_all (w := w) L i hi
  obtain ⟨v', h, _⟩ := it_le_add (rs := rs) (w := w) rs.length m i v hv
  exact ⟨v', h⟩
theorem le_sum : ∀ {l : List Nat} {v : Nat}, v ∈ l → v ≤ l.sum
  | a :: l, v, h => by
    rw [List.sum_cons]
    rcases List.mem_cons.mp h with e | e
    · omega
    · have := le_sum e; omega
/-- it comes to rest -/
theorem it_rest (L : AllLive rs) : ∃ K, rs.length ≤ K ∧ ∀ i, itT rs w (K + 1) i = itT rs w K i := by
  have key : ∀ (s k : Nat), rs.length ≤ k → ((List.range rs.length).map fun i => (itT rs w k i).getD 0).sum ≤ s → ∃ K, rs.length ≤ K ∧ ∀ i, itT rs w (K + 1) i = itT rs w K i := by
    intro s
    induction s with
    | zero =>
      intro k hk hs
      refine ⟨k, hk, fun i => ?_⟩
      by_cases hi : i < rs.length
      · obtain ⟨m, rfl⟩ := Nat.exists_eq_add_of_le hk
        obtain ⟨v, hv⟩ := it_all' (w := w) L m hi
        obtain ⟨v', hv', hle⟩ := it_le (rs.length + m) i v hv
        have h0 : v = 0 := by
          have : v ∈ (List.range rs.length).map fun i => (itT rs w (rs.length + m) i).getD 0 := List.mem_map.mpr ⟨i, List.mem_range.mpr hi, by rw [hv]; rfl⟩
          have := le_sum this
          omega
        rw [hv, hv', show v' = v by omega]
      · rw [it_out (by omega), it_out (by omega)]
    | succ s ih =>
      intro k hk hs
      by_cases h : ∀ i, itT rs w (k + 1) i = itT rs w k i
      · exact ⟨k, hk, h⟩
      · refine ih (k + 1) (by omega) ?_
        obtain ⟨i, hi⟩ := Classical.not_forall.mp h
        have hil : i < rs.length := by
          refine Classical.byContradiction fun z => hi ?_
          rw [it_out (by omega), it_out (by omega)]
        obtain ⟨m, rfl⟩ := Nat.exists_eq_add_of_le hk
        have lt : ((List.range rs.length).map fun i => (itT rs w (rs.length + m + 1) i).getD 0).sum < ((List.range rs.length).map fun i => (itT rs w (rs.length + m) i).getD 0).sum := by
          have each : ∀ j, j < rs.length → (itT rs w (rs.length + m + 1) j).getD 0 ≤ (itT rs w (rs.length + m) j).getD 0 := fun j hj => by
            obtain ⟨v, hv⟩ := it_all' (w := w) L m hj
            obtain ⟨v', hv', hle⟩ := it_le (rs.length + m) j v hv
            rw [hv, hv']; exact hle
          have strict : (itT rs w (rs.length + m + 1) i).getD 0 < (itT rs w (rs.length + m) i).getD 0 := by
            obtain ⟨v, hv⟩ := it_all' (w := w) L m hil
            obtain ⟨v', hv', hle⟩ := it_le (rs.length + m) i v hv
            rw [hv, hv'] at hi ⊢
            have : v' ≠ v := fun z => hi (by rw [z])
            simp only [Option.getD_some]; omega
          have gen : ∀ l : List Nat, (∀ j ∈ l, j < rs.length) → (l.map fun i => (itT rs w (rs.length + m + 1) i).getD 0).sum ≤ (l.map fun i => (itT rs w (rs.length + m) i).getD 0).sum ∧ (i ∈ l → (l.map fun i => (itT rs w (rs.length + m + 1) i).getD 0).sum < (l.map fun i => (itT rs w (rs.length + m) i).getD 0).sum) := by
            intro l
            induction l with
            | nil => intro _; exact ⟨Nat.le_refl _, fun z => nomatch z⟩
            | cons a l il =>
              intro hl
              obtain ⟨g1, g2⟩ := il fun j hj => hl j (List.mem_cons_of_mem _ hj)
              have ga := each a (hl a List.mem_cons_self)
              simp only [List.map_cons, List.sum_cons]
              refine ⟨by omega, fun hmem => ?_⟩
              rcases List.mem_cons.mp hmem with e | e
              · subst e; omega
              · have := g2 e; omega
          exact (gen _ fun j hj => List.mem_range.mp hj).2 (List.mem_range.mpr hil)
        omega
  exact key _ rs.length (Nat.le_refl _) (Nat.le_refl _)
theorem rest_add {K : Nat} (h : ∀ i, itT rs w (K + 1) i = itT rs w K i) (m : Nat) : itT rs w (K + m) = itT rs w K := by
  have h0 : itT rs w (K + 1) = itT rs w K := funext h
  induction m with
  | zero => rfl
  | succ m ih =>
    show stepT rs w (itT rs w (K + m)) = _
    rw [ih]; exact h0
theorem le_eq_sum {T D : Tab} : ∀ {r : Rule}, known T r = true → (∀ j ∈ r, ∀ v, T j = some v → ∃ v', D j = some v' ∧ v' ≤ v) → sumT T r ≤ sumT D r → ∀ j ∈ r, T j = D j
  | [], _, _, _, _, h => by cases h
  | a :: r, hk, hle, hs, j, hj => by
    have hk' := known_iff.mp hk
    obtain ⟨v, hv⟩ := hk' a List.mem_cons_self
    obtain ⟨v', hv', l1⟩ := hle a List.mem_cons_self v hv
    have hkr : known T r = true := known_iff.mpr fun k hk2 => hk' k (List.mem_cons_of_mem _ hk2)
    have hler : ∀ j ∈ r, ∀ v, T j = some v → ∃ v', D j = some v' ∧ v' ≤ v := fun k hk2 => hle k (List.mem_cons_of_mem _ hk2)
    have sr : sumT D r ≤ sumT T r := by
      have gen : ∀ r : Rule, known T r = true → (∀ j ∈ r, ∀ v, T j = some v → ∃ v', D j = some v' ∧ v' ≤ v) → sumT D r ≤ sumT T r := by
        intro r
        induction r with
        | nil => intro _ _; exact Nat.le_refl _
        | cons b r ib =>
          intro h1 h2
          have h1' := known_iff.mp h1
          obtain ⟨u, hu⟩ := h1' b List.mem_cons_self
          obtain ⟨u', hu', l2⟩ := h2 b List.mem_cons_self u hu
          have := ib (known_iff.mpr fun k hk2 => h1' k (List.mem_cons_of_mem _ hk2)) fun k hk2 => h2 k (List.mem_cons_of_mem _ hk2)
          rw [sumT_cons, sumT_cons, hu, hu']
          simp only [Option.getD_some]; omega
      exact gen r hkr hler
    rw [sumT_cons, sumT_cons, hv, hv'] at hs
    simp only [Option.getD_some] at hs
    rcases List.mem_cons.mp hj with e | e
    · rw [e, hv, hv', show v = v' by omega]
    · exact le_eq_sum hkr hler (by omega) j e
/-- BEHIND AS MANY ROUNDS AS PROCEDURES NOTHING CHANGES -/
theorem it_stable (L : AllLive rs) (m : Nat) : itT rs w (rs.length + m) = itT rs w rs.length := by
  obtain ⟨K, hK, hrest⟩ := it_rest (w := w) L
  have hadd := rest_add hrest
  have toK : ∀ k, Le (itT rs w k) (itT rs w K) := fun k => by
    have h := it_le_add (rs := rs) (w := w) k K
    rw [Nat.add_comm, hadd] at h
    exact h
  have dK : ∀ i, i < rs.length → ∃ v, itT rs w K i = some v := fun i hi => by
    obtain ⟨d, rfl⟩ := Nat.exists_eq_add_of_le hK
    exact it_all' L d hi
  -- final at k stays final
  have fin : ∀ k i, itT rs w k i = itT rs w K i → itT rs w (k + 1) i = itT rs w K i := fun k i h => by
    by_cases hi : i < rs.length
    · obtain ⟨v, hv⟩ := dK i hi
      rw [hv] at h
      obtain ⟨v1, h1, l1⟩ := it_le k i v h
      obtain ⟨v2, h2, l2⟩ := toK (k + 1) i v1 h1
      rw [hv] at h2
      have : v2 = v := (Option.some.inj h2).symm
      rw [h1, hv, show v1 = v by omega]
    · rw [it_out (by omega), it_out (by omega)]
  have all : ∀ i, i < rs.length → decide (itT rs w rs.length i = itT rs w K i) = true := by
    refine grows rs.length (fun k i => decide (itT rs w k i = itT rs w K i)) (fun k i h => decide_eq_true (fin k i (of_decide_eq_true h))) fun k hk => Classical.byContradiction fun hno => ?_
    -- the first stage, from k on, at which something not final at k becomes final
    obtain ⟨i0, hi0, hf0⟩ := hk
    have hf0 : ¬ itT rs w k i0 = itT rs w K i0 := of_decide_eq_false hf0
    have stuck : ∀ i, i < rs.length → ¬ itT rs w k i = itT rs w K i → ¬ itT rs w (k + 1) i = itT rs w K i := fun i hi h h2 => hno ⟨i, hi, decide_eq_false h, decide_eq_true h2⟩
    have key : ∀ m i, i < rs.length → ¬ itT rs w k i = itT rs w K i → ¬ itT rs w (k + m) i = itT rs w K i := by
      intro m
      induction m with
      | zero => intro i _ h; exact h
      | succ m ih =>
        intro i hi h hcon
        -- i is final at k + m + 1, by a rule all of whose items are final at k + m, so at k
        obtain ⟨v, hv⟩ := dK i hi
        have hcon' : stepT rs w (itT rs w (k + m)) i = some v := by rw [← hv]; exact hcon
        unfold stepT at hcon'
        obtain ⟨line, hline⟩ : ∃ line, rs[i]? = some line := ⟨rs[i], List.getElem?_eq_getElem hi⟩
        rw [hline] at hcon'
        dsimp only at hcon'
        obtain ⟨h1, h2⟩ := lmin_some.mp hcon'
        obtain ⟨l, r, g1, g2, g3⟩ := mem_cands.mp h1
        -- the limit is a fixpoint
        have hKfix : stepT rs w (itT rs w K) i = some v := by rw [← hv]; exact hrest i
        unfold stepT at hKfix
        rw [hline] at hKfix
        dsimp only at hKfix
        obtain ⟨k1, k2⟩ := (toK (k + m)).sum g2
        have hm : w l + sumT (itT rs w K) r ∈ cands w (itT rs w K) line := mem_cands.mpr ⟨l, r, g1, k1, rfl⟩
        have h3 := (lmin_some.mp hKfix).2 _ hm
        have heq := le_eq_sum (T := itT rs w (k + m)) (D := itT rs w K) g2 (fun j _ v hv => toK (k + m) j v hv) (by omega)
        -- so at k as well
        have hk0 : ∀ j ∈ r, itT rs w k j = itT rs w K j := fun j hj => by
          have hjl : j < rs.length := by
            refine Classical.byContradiction fun z => ?_
            obtain ⟨u, hu⟩ := known_iff.mp g2 j hj
            rw [it_out (by omega)] at hu; cases hu
          exact Classical.byContradiction fun z => ih j hjl z (heq j hj)
        have hkn : known (itT rs w k) r = true := known_iff.mpr fun j hj => by rw [hk0 j hj]; exact known_iff.mp k1 j hj
        have hsum : sumT (itT rs w k) r = sumT (itT rs w K) r := by
          unfold sumT
          exact congrArg List.sum (List.map_congr_left fun j hj => by rw [hk0 j hj])
        refine stuck i hi h ?_
        have hm2 : w l + sumT (itT rs w k) r ∈ cands w (itT rs w k) line := mem_cands.mpr ⟨l, r, g1, hkn, rfl⟩
        obtain ⟨u, hu⟩ := lmin_isSome (List.ne_nil_of_mem hm2)
        have h5 := (lmin_some.mp hu).2 _ hm2
        have hk1 : itT rs w (k + 1) i = some u := by
          show stepT rs w (itT rs w k) i = some u
          unfold stepT; rw [hline]; exact hu
        obtain ⟨u', h6, h7⟩ := toK (k + 1) i u hk1
        rw [hv] at h6
        have e6 : u' = v := (Option.some.inj h6).symm
        have : v = w l + sumT (itT rs w (k + m)) r := g3
        have e8 : sumT (itT rs w (k + m)) r = sumT (itT rs w K) r := by
          unfold sumT
          exact congrArg List.sum (List.map_congr_left fun j hj => by rw [heq j hj])
        rw [hk1, hv]
        refine congrArg some ?_
        omega
    exact key K i0 hi0 hf0 (by rw [Nat.add_comm, hadd])
  have eN : itT rs w rs.length = itT rs w K := funext fun i => by
    by_cases hi : i < rs.length
    · exact of_decide_eq_true (all i hi)
    · rw [it_out (by omega), it_out (by omega)]
  have eN1 : ∀ i, itT rs w (rs.length + 1) i = itT rs w rs.length i := fun i => by
    show stepT rs w (itT rs w rs.length) i = _
    rw [eN]; exact hrest i
  exact rest_add eN1 m
/-- the least sums -/
def lim (rs : Rules) (w : Nat → Nat) : Tab := itT rs w rs.length
theorem lim_fix (L : AllLive rs) : stepT rs w (lim rs w) = lim rs w := it_stable L 1
theorem lim_some (L : AllLive rs) {i : Nat} (hi : i < rs.length) : ∃ v, lim rs w i = some v := it_all L i hi
theorem lim_known (L : AllLive rs) {r : Rule} (h : ∀ j ∈ r, j < rs.length) : known (lim rs w) r = true := known_iff.mpr fun j hj => lim_some L (h j hj)
/-- no rule is cheaper -/
theorem lim_le (L : AllLive rs) {i l : Nat} {line : Line} {r : Rule} (hi : rs[i]? = some line) (hl : line[l]? = some (some r)) (hr : ∀ j ∈ r, j < rs.length) : (lim rs w i).getD 0 ≤ w l + sumT (lim rs w) r := by
  obtain ⟨v, hv⟩ := lim_some (w := w) L (List.getElem?_eq_some_iff.mp hi).1
  have h := congrFun (lim_fix (w := w) L) i
  rw [hv] at h ⊢
  unfold stepT at h
  rw [hi] at h
  exact (lmin_some.mp h).2 _ (mem_cands.mpr ⟨l, r, hl, lim_known L hr, rfl⟩)
/-- some rule is as cheap -/
theorem lim_eq (L : AllLive rs) {i : Nat} {line : Line} (hi : rs[i]? = some line) : ∃ l r, line[l]? = some (some r) ∧ known (lim rs w) r = true ∧ (lim rs w i).getD 0 = w l + sumT (lim rs w) r := by
  obtain ⟨v, hv⟩ := lim_some (w := w) L (List.getElem?_eq_some_iff.mp hi).1
  have h := congrFun (lim_fix (w := w) L) i
  rw [hv] at h
  unfold stepT at h
  rw [hi] at h
  obtain ⟨l, r, h1, h2, h3⟩ := mem_cands.mp (lmin_some.mp h).1
  exact ⟨l, r, h1, h2, by rw [hv]; exact h3⟩
end
end FW

end

section
set_option Elab.async false
set_option linter.all false
set_option maxRecDepth 100000
/-! Mp1: programs, rows, tables as values. -/
namespace FW
open PySem L2
def eR (r : Rule) : P := .tup (r.map eI)
def eO : Option Rule → P
  | none => .non
  | some r => eR r
def eL (l : Line) : P := .tup (l.map eO)
def eRs (rs : Rules) : P := .tup (rs.map eL)
/-- the same as lists -/
def lL (l : Line) : P := .lst (l.map eO)
def ePg (m : Nat) (rs : Rules) : P := .ins "Program" [("own_letters", eI m), ("own_rules", eRs rs)]
/-- the law's pair -/
def eLp (m : Nat) (rs : Rules) : P := .tup [eI m, eRs rs]
def eIs (l : List Nat) : P := .lst (l.map eI)
abbrev kI (n : Nat) : KeyP := .k (.inl (n : Int))
@[simp] theorem noLob_eR {r : Rule} : noLob (eR r) = true := by unfold eR; rw [noLob_tup]; exact noLobs_map (fun _ => noLob_int) r
@[simp] theorem noLob_eO {o : Option Rule} : noLob (eO o) = true := by cases o <;> simp [eO]
@[simp] theorem noLob_eL {l : Line} : noLob (eL l) = true := by unfold eL; rw [noLob_tup]; exact noLobs_map (fun _ => noLob_eO) l
@[simp] theorem noLob_lL {l : Line} : noLob (lL l) = true := by unfold lL; rw [noLob_lst]; exact noLobs_map (fun _ => noLob_eO) l
@[simp] theorem noLob_eRs {l : Rules} : noLob (eRs l) = true := by unfold eRs; rw [noLob_tup]; exact noLobs_map (fun _ => noLob_eL) l
@[simp] theorem noLob_ePg {m : Nat} {l : Rules} : noLob (ePg m l) = true := by unfold ePg; simp
@[simp] theorem noLob_eLp {m : Nat} {l : Rules} : noLob (eLp m l) = true := by unfold eLp; simp
@[simp] theorem noLob_eIs {l : List Nat} : noLob (eIs l) = true := by unfold eIs; rw [noLob_lst]; exact noLobs_map (fun _ => noLob_int) l
@[simp] theorem noLobs_eI {r : List Nat} : noLobs (r.map eI) = true := noLobs_map (fun _ => noLob_int) r
@[simp] theorem noLobs_eO {r : Line} : noLobs (r.map eO) = true := noLobs_map (fun _ => noLob_eO) r
@[simp] theorem noLobs_eL {r : Rules} : noLobs (r.map eL) = true := noLobs_map (fun _ => noLob_eL) r
@[simp] theorem noLobs_lL {r : Rules} : noLobs (r.map lL) = true := noLobs_map (fun _ => noLob_lL) r
theorem isD_eR {k : Nat} {r : Rule} : isD (k + 1) (eR r) = true := by unfold eR; rw [isD]; exact isDs_map (fun _ => by simp [isD]) r
theorem peq_eI {a b : Nat} : peq (eI a) (eI b) = decide (a = b) := by
  simp only [eI, peq]
  by_cases h : a = b
  · subst h; simp
  · have : ((a : Int) == (b : Int)) = false := by rw [beq_eq_false_iff_ne]; omega
    rw [this]; exact (decide_eq_false h).symm
theorem peq_eR {r r' : Rule} : peq (eR r) (eR r') = decide (r = r') := by unfold eR; rw [peq]; exact peqs_map (fun _ _ => peq_eI) r r'
section
variable {s : Sto}
@[simp] theorem isNonP_eR {r : Rule} : isNonP (eR r) = false := (rfl)
theorem isNonP_eO {o : Option Rule} : isNonP (eO o) = o.isNone := by cases o <;> rfl
theorem ne_nil {r : Rule} : pCmp .ne (eR r) (.tup []) s = .ok (!r.isEmpty) s := by
  have := pCmp_ne (s := s) (a := eR r) (b := eR []) (isD_eR (k := 59)) (isD_eR (k := 59))
  rw [peq_eR] at this
  show pCmp .ne (eR r) (eR []) s = _
  rw [this]; cases r <;> simp
theorem eq_nil {r : Rule} : pCmp .eq (eR r) (.tup []) s = .ok r.isEmpty s := by
  have := pCmp_eq (s := s) (a := eR r) (b := eR []) (isD_eR (k := 59)) (isD_eR (k := 59))
  rw [peq_eR] at this
  show pCmp .eq (eR r) (eR []) s = _
  rw [this]; cases r <;> simp
theorem ne_nilL {l : List Nat} : pCmp .ne (eIs l) (.lst []) s = .ok (!l.isEmpty) s := by
  unfold eIs
  rw [pCmp_ne (by rw [isD]; exact isDs_map (fun _ => by simp [isD]) l) (by simp [isD, isDs]), peq]
  rw [peqs_nil]; cases l <;> simp
theorem eq_nilL {l : List Nat} : pCmp .eq (eIs l) (.lst []) s = .ok l.isEmpty s := by
  unfold eIs
  rw [pCmp_eq (by rw [isD]; exact isDs_map (fun _ => by simp [isD]) l) (by simp [isD, isDs]), peq]
  rw [peqs_nil]; cases l <;> simp
end
/-! ### tables -/
def kvR (rs : Rules) (f : Nat → P) (T : Tab) : List (KeyP × P) := rs.zipIdx.filterMap fun p => (T p.2).map fun v => (kI p.2, f v)
def eT (rs : Rules) (f : Nat → P) (T : Tab) : P := .dct false (kvR rs f T)
theorem kI_inj {a b : Nat} (h : kI a = kI b) : a = b := by
  have : (a : Int) = (b : Int) := by injection h with h; injection h
  omega
theorem look_filterMap {f : Nat → P} {T : Tab} {j : Nat} : ∀ {l : List (Line × Nat)}, look (l.filterMap fun p => (T p.2).map fun v => (kI p.2, f v)) (kI j) = if j ∈ l.map (·.2) then (T j).map f else none
  | [] => by simp [look]
  | (a, i) :: l => by
    rw [List.filterMap_cons]
    have ih := look_filterMap (f := f) (T := T) (j := j) (l := l)
    cases hT : T i with
    | none =>
      simp only [hT, Option.map_none]
      rw [ih, List.map_cons]
      by_cases e : j = i
      · subst e
        rw [hT]
        simp
      · simp only [List.mem_cons, e, false_or]
    | some v =>
      simp only [hT, Option.map_some]
      by_cases e : j = i
      · subst e
        rw [List.map_cons, if_pos List.mem_cons_self, hT]
        simp [look]
      · have : look ((kI i, f v) :: l.filterMap fun p => (T p.2).map fun v => (kI p.2, f v)) (kI j) = look (l.filterMap fun p => (T p.2).map fun v => (kI p.2, f v)) (kI j) := by
          unfold look
          rw [List.find?_cons_of_neg]
          simp only [decide_eq_true_eq]
          exact fun z => e (kI_inj z).symm
        rw [this, ih, List.map_cons]
        simp only [List.mem_cons, e, false_or]
theorem look_kvR {rs : Rules} {f : Nat → P} {T : Tab} {j : Nat} : look (kvR rs f T) (kI j) = if j < rs.length then (T j).map f else none := by
  unfold kvR
  rw [look_filterMap]
  have : (rs.zipIdx.map (·.2)) = List.range rs.length := by
    rw [show (fun p : Line × Nat => p.2) = Prod.snd from rfl, List.zipIdx_map_snd, List.range_eq_range']
  rw [this]
  simp [List.mem_range]
theorem look_itT {rs : Rules} {f : Nat → P} {w : Nat → Nat} {k j : Nat} : look (kvR rs f (itT rs w k)) (kI j) = (itT rs w k j).map f := by
  rw [look_kvR]
  by_cases h : j < rs.length
  · rw [if_pos h]
  · rw [if_neg h, it_out (by omega)]; rfl
theorem noLobk_kvR {rs : Rules} {f : Nat → P} {T : Tab} (h : ∀ v, noLob (f v) = true) : noLobk (kvR rs f T) = true := noLobk_all fun a ha => by
  obtain ⟨p, _, h2⟩ := List.mem_filterMap.mp ha
  obtain ⟨v, _, rfl⟩ := Option.map_eq_some_iff.mp h2
  exact h v
@[simp] theorem noLob_eT {rs : Rules} {f : Nat → P} {T : Tab} (h : ∀ v, noLob (f v) = true) : noLob (eT rs f T) = true := by unfold eT; rw [noLob_dct]; exact noLobk_kvR h
theorem filterMap_congr' {α β : Type} {f g : α → Option β} : ∀ {l : List α}, (∀ a ∈ l, f a = g a) → l.filterMap f = l.filterMap g
  | [], _ => rfl
  | a :: l, h => by
    rw [List.filterMap_cons, List.filterMap_cons, h a List.mem_cons_self, filterMap_congr' fun b hb => h b (List.mem_cons_of_mem _ hb)]
/-- told, then what is not None: the next table -/
theorem kvR_step {rs : Rules} {f : Nat → P} {T : Tab} {g : Line → Option Nat} (hT : ∀ i line, rs[i]? = some line → T i = g line) :
    kvR rs f T = (rs.zipIdx.filter fun p => (g p.1).isSome).map fun p => (kI p.2, f ((g p.1).getD 0)) := by
  unfold kvR
  rw [← List.filterMap_eq_map, List.filterMap_filter]
  refine filterMap_congr' fun p hp => ?_
  obtain ⟨line, i⟩ := p
  have h := List.mk_mem_zipIdx_iff_getElem?.mp hp
  rw [hT i line (by simpa using h)]
  cases hg : g line <;> simp [hg]
theorem stepT_at {rs : Rules} {w : Nat → Nat} {T : Tab} {i : Nat} {line : Line} (h : rs[i]? = some line) : stepT rs w T i = lmin (cands w T line) := by unfold stepT; rw [h]
theorem kvR_it {rs : Rules} {w : Nat → Nat} {f : Nat → P} {k : Nat} : kvR rs f (itT rs w (k + 1)) = (rs.zipIdx.filter fun p => (lmin (cands w (itT rs w k) p.1)).isSome).map fun p => (kI p.2, f ((lmin (cands w (itT rs w k) p.1)).getD 0)) :=
  kvR_step (g := fun line => lmin (cands w (itT rs w k) line)) fun i line h => stepT_at h
end FW

end

section
set_option Elab.async false
set_option linter.all false
set_option maxRecDepth 100000
/-! Mp2: kinds, programs, norms: what the defs compute. -/
namespace FW
open PySem L2
/-! ### kinds -/
theorem is_number_int (i : Int) (g : List Ob) : F_is_number [.int i] g = .ok (.bl true) g := by simp [F_is_number, b_is_number, run]
theorem is_number_non (g : List Ob) : F_is_number [.non] g = .ok (.bl false) g := by simp [F_is_number, b_is_number, run]
theorem is_number_bl (b : Bool) (g : List Ob) : F_is_number [.bl b] g = .ok (.bl false) g := by simp [F_is_number, b_is_number, run]
theorem is_number_str (b : Str) (g : List Ob) : F_is_number [.str b] g = .ok (.bl false) g := by simp [F_is_number, b_is_number, run]
theorem is_between_int (i lo hi : Int) (g : List Ob) : F_is_between [.int i, .int lo, .int hi] g = .ok (.bl (decide (lo ≤ i) && decide (i ≤ hi))) g := by
  simp [F_is_between, b_is_between, run, is_number_int]
  by_cases h : lo ≤ i <;> simp [h]
theorem is_between_non (lo hi : Int) (g : List Ob) : F_is_between [.non, .int lo, .int hi] g = .ok (.bl false) g := by
  simp [F_is_between, b_is_between, run, is_number_non]
theorem is_between_bl (b : Bool) (lo hi : Int) (g : List Ob) : F_is_between [.bl b, .int lo, .int hi] g = .ok (.bl false) g := by
  simp [F_is_between, b_is_between, run, is_number_bl]
theorem is_between_str (b : Str) (lo hi : Int) (g : List Ob) : F_is_between [.str b, .int lo, .int hi] g = .ok (.bl false) g := by
  simp [F_is_between, b_is_between, run, is_number_str]
theorem is_list_lst (xs : List P) (h : noLobs xs = true) (g : List Ob) : F_is_list [.lst xs] g = .ok (.bl true) g := by simp [F_is_list, b_is_list, run]
theorem is_list_tup (xs : List P) (g : List Ob) : F_is_list [.tup xs] g = .ok (.bl true) g := by simp [F_is_list, b_is_list, run]
theorem is_list_non (g : List Ob) : F_is_list [.non] g = .ok (.bl false) g := by simp [F_is_list, b_is_list, run]
theorem is_list_str (x : Str) (g : List Ob) : F_is_list [.str x] g = .ok (.bl false) g := by simp [F_is_list, b_is_list, run]
/-! ### programs -/
theorem rule_right_eq (n : Nat) (o : Option Rule) (h : ∀ r, o = some r → r.length ≤ 6 ∧ ∀ j ∈ r, j < n) (g : List Ob) : F_rule_right [eI n, eO o] g = .ok (.bl true) g := by
  cases o with
  | none => simp [F_rule_right, b_rule_right, run, eO]
  | some r =>
    obtain ⟨h1, h2⟩ := h r rfl
    simp [F_rule_right, b_rule_right, run, eO, eR, evOr]
    rw [if_neg (by omega)]
    simp
    rw [ev_comp' r eI (fun j => .bl (decide (j < n)))]
    · simp [pBi_all]
      exact h2
    · simp
    · intro j hj
      refine ⟨_, rfl, ?_⟩
      simp [is_between_int]
      omega
    · show _ ≤ 16777216; omega
/-- what a program must be -/
structure OkP (m : Nat) (rs : Rules) : Prop where
  m1 : 1 ≤ m
  m6 : m ≤ 6
  n1 : 1 ≤ rs.length
  n12 : rs.length ≤ 12
  len : ∀ line ∈ rs, line.length = m
  rule : ∀ line ∈ rs, ∀ r, some r ∈ line → r.length ≤ 6 ∧ ∀ j ∈ r, j < rs.length
  live : AllLive rs
theorem rules_right_eq {m : Nat} {rs : Rules} (K : OkP m rs) (g : List Ob) : F_rules_right [eI m, .lst (rs.map lL)] g = .ok (.bl true) g := by
  have h1 := K.n1
  have h2 := K.n12
  have h3 := K.m6
  simp [F_rules_right, b_rules_right, run, is_list_lst]
  rw [if_pos (by omega)]
  simp
  rw [if_neg (by omega)]
  simp
  rw [ev_comp' rs lL (fun _ => .bl true) (by simp) (fun line hl => ⟨_, rfl, ?_⟩) (le_line (by omega))]
  · simp [pBi_all]
    rw [ev_comp' rs lL (fun _ => .bl true) (by simp) (fun line hl => ⟨_, rfl, ?_⟩) (le_line (by omega))]
    · simp [pBi_all]
    · have hlen := K.len line hl
      simp
      rw [ev_comp' line eO (fun _ => .bl true) (by simp [lL]) (fun o ho => ⟨_, rfl, ?_⟩) (le_line (by omega))]
      · simp [pBi_all]
      · simp
        rw [rule_right_eq rs.length o (fun r hr => K.rule line hl r (hr ▸ ho))]
        rfl
  · have hlen := K.len line hl
    simp [lL, is_list_lst, hlen]
theorem need_parts_eq {m : Nat} {rs : Rules} (K : OkP m rs) (g : List Ob) : F_need_parts [eI m, .lst (rs.map lL)] g = .ok .non g := by
  have h1 := K.m1
  have h2 := K.m6
  simp [F_need_parts, b_need_parts, run, is_between_int, rules_right_eq K]
  rw [if_neg (by omega)]
  simp [rules_right_eq K]
/-- known, as a dict without values -/
theorem any_line {T : Tab} {line : Line} : (line.any fun o => o.any (known T)) = !(cands (fun _ => 0) T line).isEmpty := by
  rw [Bool.eq_iff_iff]
  rw [List.any_eq_true, Bool.not_eq_true', List.isEmpty_eq_false_iff]
  constructor
  · rintro ⟨o, ho, hk⟩
    cases o with
    | none => cases hk
    | some r =>
      obtain ⟨l, hl⟩ := List.getElem?_of_mem ho
      exact List.ne_nil_of_mem (mem_cands.mpr ⟨l, r, hl, hk, rfl⟩)
  · intro h
    obtain ⟨v, hv⟩ := List.exists_mem_of_ne_nil _ h
    obtain ⟨l, r, h1, h2, _⟩ := mem_cands.mp hv
    exact ⟨some r, List.mem_of_getElem? h1, h2⟩
theorem in_table {rs : Rules} {f : Nat → P} {w : Nat → Nat} {k j : Nat} {s : Sto} : pIn (eI j) (eT rs f (itT rs w k)) s = .ok (itT rs w k j).isSome s := by
  unfold eT
  rw [pIn_dct]
  show R.ok (look (kvR rs f (itT rs w k)) (kI j)).isSome s = _
  rw [look_itT]
  cases itT rs w k j <;> rfl
theorem is_live_by_eq {rs : Rules} {f : Nat → P} {w : Nat → Nat} {k : Nat} {line : Line} (hf : ∀ v, noLob (f v) = true) (h1 : line.length ≤ 6) (h2 : ∀ r, some r ∈ line → r.length ≤ 6) (g : List Ob) :
    F_is_live_by [lL line, eT rs f (itT rs w k)] g = .ok (.bl (line.any fun o => o.any (known (itT rs w k)))) g := by
  simp [F_is_live_by, b_is_live_by, run]
  rw [ev_comp' line eO (fun o => .bl (o.any (known (itT rs w k)))) (by simp [lL]) (fun o ho => ⟨_, rfl, ?_⟩) (le_line (by omega))]
  · simp [pBi_any]
  · cases o with
    | none => simp [eO]
    | some r =>
      have := h2 r ho
      simp [isNonP_eO]
      rw [ev_comp' r eI (fun j => .bl (itT rs w k j).isSome) (by simp [eO, eR]) (fun j hj => ⟨_, rfl, ?_⟩) (le_line (by omega))]
      · simp [pBi_all, known]
      · simp [in_table]
theorem nodup_kI {rs : Rules} : (rs.zipIdx.map fun p => kI p.2).Nodup := by
  have : (rs.zipIdx.map fun p => kI p.2) = (List.range rs.length).map kI := by
    rw [List.range_eq_range', ← List.zipIdx_map_snd 0 rs, List.map_map]; rfl
  rw [this]
  exact List.Pairwise.map _ (fun a b h z => h (kI_inj z)) List.nodup_range
theorem len_kvR {rs : Rules} {f : Nat → P} {T : Tab} : (kvR rs f T).length = (List.range rs.length).countP fun i => (T i).isSome := by
  unfold kvR
  rw [List.length_filterMap_eq_countP]
  have : (List.range rs.length) = rs.zipIdx.map (·.2) := by
    rw [show (fun p : Line × Nat => p.2) = Prod.snd from rfl, List.zipIdx_map_snd, List.range_eq_range']
  rw [this, List.countP_map]
  refine List.countP_congr fun p _ => ?_
  simp
theorem mem_rules {rs : Rules} {p : Line × Nat} (h : p ∈ rs.zipIdx) : rs[p.2]? = some p.1 := by
  have := List.mk_mem_zipIdx_iff_getElem?.mp (show (p.1, p.2) ∈ rs.zipIdx from h)
  simpa using this
theorem live_step {m : Nat} {rs : Rules} (K : OkP m rs) {k : Nat} {s : Sto} {many : P} :
    ev dp_live_in.phi (.dcomp .val false (.var 3) .non (.tup [.name 3, .name 4]) (.enum (.var 0)) [.or [.cmp .in_ (.var 3) (.var 1), .call "is_live_by" [.var 4, .var 1] []]] [3, 4]) [some (.lst (rs.map lL)), some (eT rs (fun _ => .non) (itT rs (fun _ => 0) k)), some many, none, none] s =
      .ok (eT rs (fun _ => .non) (itT rs (fun _ => 0) (k + 1))) s := by
  have h2 := K.n12
  rw [ev_dcomp rs.zipIdx (fun p => .tup [eI p.2, lL p.1]) (fun p => (lmin (cands (fun _ => 0) (itT rs (fun _ => 0) k) p.1)).isSome) (fun p => kI p.2) (fun _ => .non) (by simp [enumP_map]) (fun p hp => ⟨_, rfl, ?_, fun _ => ⟨eI p.2, rfl, rfl, rfl, by simp⟩⟩) nodup_kI (le_line (by simp; omega))]
  · unfold eT
    rw [kvR_it]
  · have hr := mem_rules hp
    have hmem := List.mem_of_getElem? hr
    have hlen := K.len _ hmem
    have hm6 := K.m6
    simp [in_table, is_live_by_eq (w := fun _ => 0) (fun _ => noLob_non) (show p.1.length ≤ 6 by omega) (fun r hr => (K.rule _ hmem r hr).1)]
    have e1 : (lmin (cands (fun _ => 0) (itT rs (fun _ => 0) k) p.1)).isSome = !(cands (fun _ => 0) (itT rs (fun _ => 0) k) p.1).isEmpty := by
      cases cands (fun _ => 0) (itT rs (fun _ => 0) k) p.1 <;> rfl
    cases c : (itT rs (fun _ => 0) k p.2).isSome with
    | true =>
      have := it_isSome c
      rw [show itT rs (fun _ => 0) (k + 1) p.2 = _ from stepT_at hr] at this
      simp [this]
    | false =>
      rw [e1, ← any_line]
      generalize (p.1.any fun o => o.any (known (itT rs (fun _ => 0) k))) = b
      cases b <;> simp
def cntT (rs : Rules) (w : Nat → Nat) (k : Nat) : Nat := (List.range rs.length).countP fun i => (itT rs w k i).isSome
theorem cntT_le {rs : Rules} {w : Nat → Nat} {k : Nat} : cntT rs w k ≤ rs.length := by
  have := List.countP_le_length (p := fun i => (itT rs w k i).isSome) (l := List.range rs.length)
  rw [List.length_range] at this; exact this
theorem cntT_mono {rs : Rules} {w : Nat → Nat} {k : Nat} : cntT rs w k ≤ cntT rs w (k + 1) := List.countP_mono_left fun x _ hx => it_isSome hx
theorem cntT_all {rs : Rules} {w : Nat → Nat} {k : Nat} (L : AllLive rs) (h : cntT rs w (k + 1) = cntT rs w k) : ∀ i, i < rs.length → (itT rs w k i).isSome = true := fun i hi => by
  cases c : (itT rs w k i).isSome with
  | true => rfl
  | false =>
    obtain ⟨j, hj, h1, h2⟩ := it_grow L k ⟨i, hi, c⟩
    have := countP_lt (p := fun i => (itT rs w k i).isSome) (q := fun i => (itT rs w (k + 1) i).isSome) (fun i h => it_isSome h) hj h1 h2
    unfold cntT at h
    omega
def liveSt (rs : Rules) (k : Nat) : Rho := [some (.lst (rs.map lL)), some (eT rs (fun _ => .non) (itT rs (fun _ => 0) k)), some (.int (if k = 0 then -1 else (cntT rs (fun _ => 0) (k - 1) : Int))), none, none]
theorem len_eT {Φ : Fenv} {r : Al} {rs : Rules} {f : Nat → P} {w : Nat → Nat} {k : Nat} {s : Sto} : pBi Φ r .len [eT rs f (itT rs w k)] s = .ok (eI (cntT rs w k)) s := by
  unfold eT
  rw [pBi_len_dct, len_kvR]; rfl
def intAt (ρ : Rho) (i : Nat) : Int := match ρ[i]? with
  | some (some (P.int j)) => j
  | _ => 0
theorem live_in_eq {m : Nat} {rs : Rules} (K : OkP m rs) (g : List Ob) : ∃ k, F_live_in [.lst (rs.map lL)] g = .ok (eT rs (fun _ => .non) (itT rs (fun _ => 0) k)) g ∧ ∀ i, i < rs.length → (itT rs (fun _ => 0) k i).isSome = true := by
  have hn := K.n12
  have hc : ∀ k (s : Sto), bnd (ev dp_live_in.phi (.cmp .ne (.bi .val .len [.var 1]) (.var 2)) (liveSt rs k)) truthM s = .ok (!decide ((cntT rs (fun _ => 0) k : Int) = if k = 0 then -1 else (cntT rs (fun _ => 0) (k - 1) : Int))) s := fun k s => by
    simp [liveSt, len_eT]
  have hb : ∀ k (s : Sto), exs dp_live_in.phi [.asg (.name 2) (.bi .val .len [.var 1]), .asg (.name 1) (.dcomp .val false (.var 3) .non (.tup [.name 3, .name 4]) (.enum (.var 0)) [.or [.cmp .in_ (.var 3) (.var 1), .call "is_live_by" [.var 4, .var 1] []]] [3, 4])] (liveSt rs k) s = .ok (.next, liveSt rs (k + 1)) s := fun k s => by
    simp [liveSt, len_eT, live_step K]
  obtain ⟨ρ', s', h1, ⟨k, rfl, rfl⟩, h3⟩ := whileL_run (c := fun ρ' => bnd (ev dp_live_in.phi (.cmp .ne (.bi .val .len [.var 1]) (.var 2)) ρ') truthM) (b := fun ρ' => exs dp_live_in.phi [.asg (.name 2) (.bi .val .len [.var 1]), .asg (.name 1) (.dcomp .val false (.var 3) .non (.tup [.name 3, .name 4]) (.enum (.var 0)) [.or [.cmp .in_ (.var 3) (.var 1), .call "is_live_by" [.var 4, .var 1] []]] [3, 4])] ρ')
    (fun ρ s => ∃ k, ρ = liveSt rs k ∧ s = (⟨[], g⟩ : Sto)) (fun ρ s => (rs.length + 1 - intAt ρ 2).toNat) (fun ρ s ⟨k, h, h'⟩ => by
      subst h h'
      refine ⟨_, hc k _, fun hk => ⟨_, _, .inl (hb k _), ⟨k + 1, rfl, rfl⟩, ?_⟩⟩
      have h1 : cntT rs (fun _ => 0) k ≤ rs.length := cntT_le
      have h2 : k ≠ 0 → cntT rs (fun _ => 0) (k - 1) ≤ cntT rs (fun _ => 0) k := fun z => by
        have := cntT_mono (rs := rs) (w := fun _ => 0) (k := k - 1)
        rw [Nat.sub_add_cancel (by omega)] at this; exact this
      simp only [Bool.not_eq_true', decide_eq_false_iff_not] at hk
      simp only [liveSt, intAt, List.getElem?_cons_succ, List.getElem?_cons_zero, Nat.add_sub_cancel, Nat.succ_ne_zero, if_false]
      by_cases z : k = 0
      · rw [if_pos z]; omega
      · rw [if_neg z] at hk ⊢
        have := h2 z
        omega) FUEL (liveSt rs 0) ⟨[], g⟩ ⟨0, rfl, rfl⟩ (by simp [liveSt, FUEL, intAt]; omega)
  refine ⟨k, ?_, ?_⟩
  · have e0 : (eT rs (fun _ => .non) (itT rs (fun _ => 0) 0)) = .dct false [] := by
      unfold eT kvR; simp [itT]
    have h1' := h1
    simp only [liveSt, e0] at h1'
    simp [F_live_in, b_live_in, run, ex_whl, dispD, kvOf, mkD, quiet]
    simp at h1'
    rw [h1']
    simp
  · rw [hc] at h3
    have h3 : (!decide ((cntT rs (fun _ => 0) k : Int) = if k = 0 then -1 else (cntT rs (fun _ => 0) (k - 1) : Int))) = false := by
      injection h3
    simp only [Bool.not_eq_false', decide_eq_true_eq] at h3
    by_cases z : k = 0
    · rw [if_pos z] at h3; omega
    · rw [if_neg z] at h3
      have e := cntT_all (w := fun _ => 0) (k := k - 1) K.live (by rw [Nat.sub_add_cancel (by omega)]; omega)
      intro i hi
      have := it_isSome (e i hi)
      rw [Nat.sub_add_cancel (by omega)] at this; exact this
theorem ex_aattr_ok {Φ : Fenv} {o : E} {f : String} {e : E} {ρ : Rho} {s : Sto} {p : P} {n : Nat} {c : String} {fs : List (String × P)} (he : ev Φ e ρ s = .ok p s) (ho : ev Φ o ρ s = .ok (.gob n) s) (hg : s.g[n]? = some (.ins c fs)) (hc : Φ.cls.contains c = true) (hp : (Φ.prop c f).isNone = true) (hl : fs.length < 900)
    (hn : (Ob.ins c (putFP f p fs)).noLob = true) : ex Φ (.aattr o f e) ρ s = .ok (.next, ρ) ⟨s.l, s.g.set n (.ins c (putFP f p fs))⟩ := by
  rw [ex_aattr, bnd_ap, he, R.bind_ok, bnd_ap, ho, R.bind_ok]
  dsimp only
  rw [hg]
  dsimp only
  rw [hc, hp, decide_eq_true hl, Bool.and_self, Bool.and_self, if_pos rfl, bnd_ap]
  unfold setOb
  dsimp only
  rw [hn, decide_eq_true (show n < s.g.length from (List.getElem?_eq_some_iff.mp hg).1), Bool.and_self, if_pos rfl]
  rfl
/-- references of the store lead into it -/
def LowG (g : List Ob) : Prop := g.all (Ob.low g.length) = true
theorem lowGs_of {n : Nat} : ∀ {l : List P}, (∀ p ∈ l, lowG n p = true) → lowGs n l = true
  | [], _ => by rw [lowGs]
  | p :: l, h => by rw [lowGs, h p List.mem_cons_self, lowGs_of fun q hq => h q (List.mem_cons_of_mem _ hq)]; rfl
theorem lowG_int {n : Nat} {i : Int} : lowG n (.int i) = true := by simp [lowG]
theorem lowG_eR {n : Nat} {r : Rule} : lowG n (eR r) = true := by
  unfold eR; rw [lowG]
  exact lowGs_of fun p hp => by obtain ⟨j, _, rfl⟩ := List.mem_map.mp hp; exact lowG_int
theorem lowG_eO {n : Nat} {o : Option Rule} : lowG n (eO o) = true := by
  cases o with
  | none => simp [eO, lowG]
  | some r => exact lowG_eR
theorem lowG_eL {n : Nat} {l : Line} : lowG n (eL l) = true := by
  unfold eL; rw [lowG]
  exact lowGs_of fun p hp => by obtain ⟨j, _, rfl⟩ := List.mem_map.mp hp; exact lowG_eO
theorem lowG_eRs {n : Nat} {l : Rules} : lowG n (eRs l) = true := by
  unfold eRs; rw [lowG]
  exact lowGs_of fun p hp => by obtain ⟨j, _, rfl⟩ := List.mem_map.mp hp; exact lowG_eL
theorem Fi_Program_eq {m : Nat} {rs : Rules} (K : OkP m rs) (g : List Ob) : Fi_Program [.gob g.length, eI m, .lst (rs.map lL)] (g ++ [Ob.ins "Program" []]) = .ok .non (g ++ [Ob.ins "Program" [("own_letters", eI m), ("own_rules", eRs rs)]]) := by
  have hn := K.n12
  have hm := K.m6
  obtain ⟨k, h1, h2⟩ := live_in_eq K (g ++ [Ob.ins "Program" []])
  have hc : cntT rs (fun _ => 0) k = rs.length := by
    have : (List.range rs.length).countP (fun i => (itT rs (fun _ => 0) k i).isSome) = (List.range rs.length).length := List.countP_eq_length.mpr fun i hi => h2 i (List.mem_range.mp hi)
    rw [List.length_range] at this; exact this
  have e1 : ex dp_Program_init.phi (.aattr (.var 0) "own_letters" (.var 1)) [some (.gob g.length), some (eI m), some (.lst (rs.map lL)), none] ⟨[], g ++ [Ob.ins "Program" []]⟩ = .ok (.next, [some (.gob g.length), some (eI m), some (.lst (rs.map lL)), none]) ⟨[], (g ++ [Ob.ins "Program" []]).set g.length (Ob.ins "Program" (putFP "own_letters" (eI m) []))⟩ := by
    refine ex_aattr_ok (p := eI m) (n := g.length) (c := "Program") (fs := []) ?_ ?_ ?_ rfl rfl ?_ ?_
    · simp
    · simp
    · simp
    · simp
    · simp [Ob.noLob, Ob.ps, putFP]
  have e2 : ex dp_Program_init.phi (.aattr (.var 0) "own_rules" (.bi .val .tuple [.comp .val (.bi .val .tuple [.var 3]) (.name 3) (.seq (.var 2)) [] [3]])) [some (.gob g.length), some (eI m), some (.lst (rs.map lL)), none] ⟨[], g ++ [Ob.ins "Program" [("own_letters", eI m)]]⟩ = .ok (.next, [some (.gob g.length), some (eI m), some (.lst (rs.map lL)), none]) ⟨[], (g ++ [Ob.ins "Program" [("own_letters", eI m)]]).set g.length (Ob.ins "Program" (putFP "own_rules" (eRs rs) [("own_letters", eI m)]))⟩ := by
    refine ex_aattr_ok (p := eRs rs) (n := g.length) (c := "Program") (fs := [("own_letters", eI m)]) ?_ ?_ ?_ rfl rfl ?_ ?_
    · simp
      rw [ev_comp' rs lL eL (by simp) (fun l hl => ⟨_, rfl, by simp [lL, eL]⟩) (le_line (by omega))]
      simp [eRs]
    · simp
    · simp
    · simp
    · simp [Ob.noLob, Ob.ps, putFP]
  simp [putFP] at e1 e2
  simp [Fi_Program, b_Program_init, run, need_parts_eq K]
  simp [h1, len_eT, hc, e1, e2]
theorem F_Program_eq {m : Nat} {rs : Rules} (K : OkP m rs) {g : List Ob} (hg : LowG g) : F_Program [eI m, .lst (rs.map lL)] g = .ok (ePg m rs) g := by
  unfold F_Program mkF
  rw [Fi_Program_eq K g]
  dsimp only
  have e1 : (g ++ [Ob.ins "Program" [("own_letters", eI m), ("own_rules", eRs rs)]])[g.length]? = some (Ob.ins "Program" [("own_letters", eI m), ("own_rules", eRs rs)]) := by simp
  rw [e1]
  dsimp only
  have e2 : (g ++ [Ob.ins "Program" [("own_letters", eI m), ("own_rules", eRs rs)]]).take g.length = g := by simp
  rw [e2]
  have e3 : lowGf g.length [("own_letters", eI m), ("own_rules", eRs rs)] = true := by
    rw [lowGf, lowGf, lowGf, lowG_int, lowG_eRs]; rfl
  rw [e3, show g.all (Ob.low g.length) = true from hg]
  simp [ePg]
@[simp] theorem uIns_Program : "Program" ∈ uIns := by decide
theorem pAttr_fld {Φ : Fenv} {c f : String} {fs : List (String × P)} {s : Sto} {p : P} (hc : Φ.cls.contains c = true) (hp : Φ.prop c f = none) (h : fs.lookup f = some p) : pAttr Φ (.ins c fs) f s = .ok p s := by
  unfold pAttr pFld; dsimp only; rw [if_pos hc, hp]; dsimp only; rw [h]; rfl
theorem pAttr_prp {Φ : Fenv} {c f : String} {fs : List (String × P)} {s : Sto} {F : Fn} {p : P} (hc : Φ.cls.contains c = true) (hp : Φ.prop c f = some F) (hn : noLobf fs = true) (h : F [.ins c fs] s.g = .ok p s.g) : pAttr Φ (.ins c fs) f s = .ok p s := by
  unfold pAttr pFld; dsimp only; rw [if_pos hc, hp]; dsimp only
  unfold quiet
  rw [callF_eq (by simp [hn]), h]; rfl
theorem letters_eq {m : Nat} {rs : Rules} (g : List Ob) : F_Program_letters [ePg m rs] g = .ok (eI m) g := by
  simp [F_Program_letters, b_Program_letters, run]
  unfold ePg
  rw [pAttr_fld (p := eI m) (by rfl) (by rfl) (by simp)]
  simp
theorem rules_eq {m : Nat} {rs : Rules} (g : List Ob) : F_Program_rules [ePg m rs] g = .ok (eRs rs) g := by
  simp [F_Program_rules, b_Program_rules, run]
  unfold ePg
  rw [pAttr_fld (p := eRs rs) (by rfl) (by rfl) (by simp)]
  simp
theorem attr_letters {d : Dep} {m : Nat} {rs : Rules} {s : Sto} (h : d.ps.lookup ("Program", "letters") = some F_Program_letters) : pAttr d.phi (ePg m rs) "letters" s = .ok (eI m) s := by
  have := letters_eq (m := m) (rs := rs) s.g
  unfold ePg at this ⊢
  exact pAttr_prp (by rfl) h (by simp) this
theorem attr_rules {d : Dep} {m : Nat} {rs : Rules} {s : Sto} (h : d.ps.lookup ("Program", "rules") = some F_Program_rules) : pAttr d.phi (ePg m rs) "rules" s = .ok (eRs rs) s := by
  have := rules_eq (m := m) (rs := rs) s.g
  unfold ePg at this ⊢
  exact pAttr_prp (by rfl) h (by simp) this
theorem isi_Program {d : Dep} {r : Al} {m : Nat} {rs : Rules} {s : Sto} : pBi d.phi r .isinstance [ePg m rs, .cls "Program"] s = .ok (.bl true) s := by
  unfold pBi ePg isOne isCl; rfl
theorem isi_non_cls {d : Dep} {r : Al} {c : String} {s : Sto} (h : isCl d.phi c = true) : pBi d.phi r .isinstance [.non, .cls c] s = .ok (.bl false) s := by
  unfold pBi isOne; dsimp only [tyName]; rw [h]; rfl
theorem isi_int_cls {d : Dep} {r : Al} {c : String} {i : Int} {s : Sto} (h : isCl d.phi c = true) : pBi d.phi r .isinstance [.int i, .cls c] s = .ok (.bl false) s := by
  unfold pBi isOne; dsimp only [tyName]; rw [h]; rfl
theorem isi_exc {d : Dep} {r : Al} {c e : String} {fs : List (String × P)} {s : Sto} (h : uExn.contains e = true) (h2 : isCl d.phi c = true) : pBi d.phi r .isinstance [.exc e fs, .cls c] s = .ok (.bl (uSub e c)) s := by
  unfold pBi isOne; dsimp only; rw [show d.phi.exc = uExn from rfl, h, h2]; rfl
theorem need_program_eq {m : Nat} {rs : Rules} (g : List Ob) : F_need_program [ePg m rs, .non] g = .ok .non g := by
  simp [F_need_program, b_need_program, run, isi_Program]
theorem need_program_non (g : List Ob) : F_need_program [.non, .non] g = .exn (.exc "NoProgram" [("part", .non)]) g := by
  simp [F_need_program, b_need_program, run, isi_non_cls (show isCl dp_need_program.phi "Program" = true from rfl), rsO_eq]
theorem need_program_int (i : Int) (g : List Ob) : F_need_program [.int i, .non] g = .exn (.exc "NoProgram" [("part", .non)]) g := by
  simp [F_need_program, b_need_program, run, isi_int_cls (show isCl dp_need_program.phi "Program" = true from rfl), rsO_eq]
theorem calls_right_eq {m : Nat} {rs : Rules} {row : Rule} (h : row.length ≤ 1000) (g : List Ob) : F_calls_right [ePg m rs, eR row] g = .ok (.bl (row.all fun j => decide (j < rs.length))) g := by
  simp [F_calls_right, b_calls_right, run]
  unfold eR
  simp
  rw [ev_comp' row eI (fun j => .bl (decide (j < rs.length))) (by simp) (fun j hj => ⟨_, rfl, ?_⟩) (le_line h)]
  · simp [pBi_all]
  · simp [attr_rules]
    unfold eRs
    simp [is_between_int]
    omega
theorem row_right_eq {m : Nat} {rs : Rules} {row : Rule} (h : row.length ≤ 1000) (g : List Ob) : F_row_right [ePg m rs, eR row] g = .ok (.bl ((row.all fun j => decide (j < rs.length)) && decide (row.length ≤ 12))) g := by
  have e := fun g => calls_right_eq (m := m) (rs := rs) (row := row) h g
  generalize (row.all fun j => decide (j < rs.length)) = b at e ⊢
  simp [F_row_right, b_row_right, run, e]
  cases b
  · simp
  · simp [eR]; omega
theorem need_row_eq {m : Nat} {rs : Rules} {row : Rule} (h : row.length ≤ 12) (hr : ∀ j ∈ row, j < rs.length) (g : List Ob) : F_need_row [ePg m rs, eR row, .non] g = .ok .non g := by
  have e : (row.all fun j => decide (j < rs.length)) = true := List.all_eq_true.mpr fun j hj => decide_eq_true (hr j hj)
  simp [F_need_row, b_need_row, run, row_right_eq (show row.length ≤ 1000 by omega), e, h]
theorem need_row_bad {m : Nat} {rs : Rules} {row : Rule} (h : row.length ≤ 1000) (hr : ((row.all fun j => decide (j < rs.length)) && decide (row.length ≤ 12)) = false) (g : List Ob) : F_need_row [ePg m rs, eR row, .non] g = .exn (.exc "BadRow" [("part", .non)]) g := by
  simp [F_need_row, b_need_row, run, row_right_eq h, hr, rsO_eq]
end FW

end

section
set_option Elab.async false
set_option linter.all false
set_option maxRecDepth 100000
/-! Mp3: norms. -/
namespace FW
open PySem L2
def encO : Option Nat → P
  | none => .non
  | some v => eI v
@[simp] theorem noLob_encO {o : Option Nat} : noLob (encO o) = true := by cases o <;> simp [encO]
@[simp] theorem isNonP_encO {o : Option Nat} : isNonP (encO o) = o.isNone := by cases o <;> rfl
theorem minBy_ints : ∀ (l : List Nat) (m : Nat), minBy pLt (l.map eI) (eI m) = some (eI (l.foldl (fun m y => if y < m then y else m) m))
  | [], m => rfl
  | x :: l, m => by
    rw [List.map_cons, minBy, List.foldl_cons]
    have : pLt (eI x) (eI m) = some (decide ((x : Int) < (m : Int))) := rfl
    rw [this]
    by_cases h : x < m
    · have h' : (x : Int) < (m : Int) := by omega
      rw [decide_eq_true h', if_pos h]; exact minBy_ints l x
    · have h' : ¬ (x : Int) < (m : Int) := by omega
      rw [decide_eq_false h', if_neg h]; exact minBy_ints l m
theorem pBi_min_ints {Φ : Fenv} {r : Al} {s : Sto} {l : List Nat} {v : Nat} (h : lmin l = some v) : pBi Φ r .min [.lst (l.map eI)] s = .ok (eI v) s := by
  cases l with
  | nil => cases h
  | cons x l =>
    have e : l.foldl (fun m y => if y < m then y else m) x = v := Option.some.inj h
    have h1 : okMn ((x :: l).map eI) = true := by
      unfold okMn
      rw [show ((x :: l).map eI) = (x :: l).map fun n : Nat => P.int (n : Int) from rfl, intsOf_mp]; rfl
    have h2 : pMin ((x :: l).map eI) = some (eI v) := by
      rw [List.map_cons]
      show minBy pLt (l.map eI) (eI x) = _
      rw [minBy_ints, e]
    unfold pBi
    dsimp only [listOf]
    rw [h1, if_pos rfl, h2]
def rnorm (w : Nat → Nat) (T : Tab) (l : Nat) (o : Option Rule) : Option Nat := match o with
  | some r => if known T r then some (w l + sumT T r) else none
  | none => none
theorem cands_const {c : Nat} {T : Tab} {line : Line} : cands (fun _ => c) T line = line.filterMap (rnorm (fun _ => c) T 0) := by
  unfold cands
  have : ∀ (line : Line) (k : Nat), (line.zipIdx k).filterMap (fun p => match p.1 with | some r => if known T r then some (c + sumT T r) else none | none => none) = line.filterMap (rnorm (fun _ => c) T 0) := by
    intro line
    induction line with
    | nil => intro k; rfl
    | cons o line ih =>
      intro k
      rw [List.zipIdx_cons, List.filterMap_cons, List.filterMap_cons, ih]
      rfl
  exact this line 0
theorem sub_table {rs : Rules} {f : Nat → P} {w : Nat → Nat} {k j v : Nat} {s : Sto} (h : itT rs w k j = some v) : pIdx (eT rs f (itT rs w k)) (eI j) s = .ok (f v) s := by
  unfold eT
  refine pIdx_dct (kk := kI j) rfl rfl ?_
  rw [look_itT, h]; rfl
theorem sumT_ints {T : Tab} {r : Rule} : (r.map fun j => (((T j).getD 0 : Nat) : Int)).sum = (sumT T r : Int) := by
  induction r with
  | nil => rfl
  | cons j r ih => rw [List.map_cons, List.sum_cons, ih, sumT_cons]; omega
theorem pBi_known {Φ : Fenv} {a : Al} {T : Tab} {r : Rule} {s : Sto} : pBi Φ a .all [.lst (r.map fun j => .bl (T j).isSome)] s = .ok (.bl (known T r)) s := pBi_all
theorem rule_norm_eq {rs : Rules} {w : Nat → Nat} {k : Nat} {o : Option Rule} (h : ∀ r, o = some r → r.length ≤ 6) (g : List Ob) : F_rule_norm [eO o, eT rs eI (itT rs w k)] g = .ok (encO (rnorm (fun _ => 1) (itT rs w k) 0 o)) g := by
  cases o with
  | none => simp [F_rule_norm, b_rule_norm, run, eO, rnorm, encO]
  | some r =>
    have hl := h r rfl
    have e1 : ∀ (s : Sto), ev dp_rule_norm.phi (.comp .val (.cmp .in_ (.var 2) (.var 1)) (.name 2) (.seq (.var 0)) [] [2]) [some (eR r), some (eT rs eI (itT rs w k)), none] s = .ok (.lst (r.map fun j => .bl (itT rs w k j).isSome)) s := fun s =>
      ev_comp' r eI (fun j => .bl (itT rs w k j).isSome) (by simp [eR]) (fun j hj => ⟨_, rfl, by simp [in_table]⟩) (le_line (by omega))
    simp [F_rule_norm, b_rule_norm, run, eO, isNonP_eO, e1, pBi_known, rnorm]
    by_cases hk : known (itT rs w k) r = true
    · have hk' := known_iff.mp hk
      simp [hk]
      rw [ev_comp' r eI (fun j => .int (((itT rs w k j).getD 0 : Nat) : Int)) (by simp [eR]) (fun j hj => ⟨_, rfl, ?_⟩) (le_line (by omega))]
      · simp [pBi_sum, sumT_ints, encO]
      · obtain ⟨v, hv⟩ := hk' j hj
        simp [sub_table hv, hv]
    · simp [hk, encO]
theorem encO_list {α : Type} {q : α → Option Nat} : ∀ {l : List α}, ((l.map q).filter (·.isSome)).map encO = (l.filterMap q).map eI
  | [] => rfl
  | a :: l => by
    rw [List.map_cons, List.filter_cons, List.filterMap_cons]
    cases h : q a with
    | none => simp; exact encO_list
    | some v => simp [encO]; exact encO_list
theorem line_norm_eq {rs : Rules} {w : Nat → Nat} {k : Nat} {line : Line} (h0 : line.length ≤ 6) (h : ∀ r, some r ∈ line → r.length ≤ 6) (g : List Ob) :
    F_line_norm [eL line, eT rs eI (itT rs w k)] g = .ok (encO (lmin (cands (fun _ => 1) (itT rs w k) line))) g := by
  simp [F_line_norm, b_line_norm, run]
  rw [ev_comp' line eO (fun o => encO (rnorm (fun _ => 1) (itT rs w k) 0 o)) (by simp [eL]) (fun o ho => ⟨_, rfl, by simp [rule_norm_eq (fun r hr => h r (hr ▸ ho))]⟩) (le_line (by omega))]
  simp
  rw [ev_comp (line.map (rnorm (fun _ => 1) (itT rs w k) 0)) encO (·.isSome) encO (by simp [Function.comp_def]) (fun o ho => ⟨_, rfl, by simp; cases o <;> simp, fun _ => by simp⟩) (le_line (by simp; omega))]
  rw [encO_list, ← cands_const]
  simp
  have := fun s => ne_nilL (s := s) (l := cands (fun _ => 1) (itT rs w k) line)
  unfold eIs at this
  rw [this]
  cases hm : lmin (cands (fun _ => 1) (itT rs w k) line) with
  | none =>
    have := lmin_none.mp hm
    simp [this, encO]
  | some v =>
    have : cands (fun _ => 1) (itT rs w k) line ≠ [] := fun z => by rw [z] at hm; cases hm
    have : (cands (fun _ => 1) (itT rs w k) line).isEmpty = false := by
      cases hh : cands (fun _ => 1) (itT rs w k) line with
      | nil => exact absurd hh this
      | cons => rfl
    simp [this, pBi_min_ints hm, encO]
theorem look_zip {h : Line → P} : ∀ {rs : Rules} {k j : Nat}, look ((rs.zipIdx k).map fun p => (kI p.2, h p.1)) (kI (k + j)) = (rs[j]?).map h
  | [], k, j => by simp [look]
  | l :: rs, k, 0 => by simp [look]
  | l :: rs, k, j + 1 => by
    rw [List.zipIdx_cons, List.map_cons]
    have : look ((kI k, h l) :: (rs.zipIdx (k + 1)).map fun p => (kI p.2, h p.1)) (kI (k + (j + 1))) = look ((rs.zipIdx (k + 1)).map fun p => (kI p.2, h p.1)) (kI (k + 1 + j)) := by
      unfold look
      rw [List.find?_cons_of_neg]
      · rw [show k + (j + 1) = k + 1 + j by omega]
      · simp only [decide_eq_true_eq]
        exact fun z => by have := kI_inj z; omega
    rw [this, look_zip]; simp
theorem look_zip0 {h : Line → P} {rs : Rules} {j : Nat} {line : Line} (hj : rs[j]? = some line) : look (rs.zipIdx.map fun p => (kI p.2, h p.1)) (kI j) = some (h line) := by
  have := look_zip (h := h) (rs := rs) (k := 0) (j := j)
  rw [Nat.zero_add, hj] at this; exact this
/-- what is told of each procedure -/
def eTold (rs : Rules) (h : Line → P) : P := .dct false (rs.zipIdx.map fun p => (kI p.2, h p.1))
theorem keysOf_told {rs : Rules} {h : Line → P} {s : Sto} : keysOf (eTold rs h) s = .ok (.vals (rs.zipIdx.map fun p => eI p.2)) s := by
  unfold eTold; simp [keyP, keyK']
theorem sub_told {rs : Rules} {h : Line → P} {s : Sto} {j : Nat} {line : Line} (hj : rs[j]? = some line) : pIdx (eTold rs h) (eI j) s = .ok (h line) s := by
  unfold eTold
  exact pIdx_dct (kk := kI j) rfl rfl (look_zip0 hj)
theorem noLob_eTold {rs : Rules} {h : Line → P} (hn : ∀ l, noLob (h l) = true) : noLob (eTold rs h) = true := by
  unfold eTold; rw [noLob_dct]
  exact noLobk_all fun a ha => by obtain ⟨p, _, rfl⟩ := List.mem_map.mp ha; exact hn _
theorem rnorm_le {rs : Rules} {m : Nat} (K : OkP m rs) {p : Line × Nat} (hp : p ∈ rs.zipIdx) : rs[p.2]? = some p.1 ∧ p.1.length = m ∧ m ≤ 6 ∧ ∀ r, some r ∈ p.1 → r.length ≤ 6 ∧ ∀ j ∈ r, j < rs.length := by
  have hr := mem_rules hp
  have hmem := List.mem_of_getElem? hr
  exact ⟨hr, K.len _ hmem, K.m6, K.rule _ hmem⟩
theorem norms_step1 {m : Nat} {rs : Rules} (K : OkP m rs) : ∀ k (a b : Option P) (s : Sto), ev dp_norms_by.phi (.dcomp .val false (.var 4) (.call "line_norm" [.var 5, .var 1] []) (.tup [.name 4, .name 5]) (.enum (.var 0)) [] [4, 5]) [some (eRs rs), some (eT rs eI (itT rs (fun _ => 1) k)), a, b, none, none] s = .ok (eTold rs fun l => encO (lmin (cands (fun _ => 1) (itT rs (fun _ => 1) k) l))) s := fun k a b s => by
  have hn := K.n12
  rw [ev_dcomp rs.zipIdx (fun p => .tup [eI p.2, eL p.1]) (fun _ => true) (fun p => kI p.2) (fun p => encO (lmin (cands (fun _ => 1) (itT rs (fun _ => 1) k) p.1))) (by simp [eRs, enumP_map]) (fun p hp => ⟨_, rfl, by simp, fun _ => ⟨eI p.2, ?_⟩⟩) nodup_kI (le_line (by simp; omega))]
  · rw [List.filter_eq_self.mpr (fun _ _ => rfl)]; rfl
  · obtain ⟨h1, h2, h3, h4⟩ := rnorm_le K hp
    refine ⟨by simp, rfl, rfl, ?_⟩
    simp [line_norm_eq (w := fun _ => 1) (k := k) (rs := rs) (show p.1.length ≤ 6 by omega) (fun r hr => (h4 r hr).1)]
theorem norms_step2 {m : Nat} {rs : Rules} (K : OkP m rs) : ∀ k (a : Option P) (q : P) (s : Sto), ev dp_norms_by.phi (.dcomp .val false (.var 4) (.sub (.var 3) (.var 4)) (.name 4) (.keys 3) [.cmp .isNot (.sub (.var 3) (.var 4)) .non] [4]) [some (eRs rs), some q, a, some (eTold rs fun l => encO (lmin (cands (fun _ => 1) (itT rs (fun _ => 1) k) l))), none, none] s = .ok (eT rs eI (itT rs (fun _ => 1) (k + 1))) s := fun k a q s => by
  have hn := K.n12
  rw [ev_dcomp rs.zipIdx (fun p => eI p.2) (fun p => (lmin (cands (fun _ => 1) (itT rs (fun _ => 1) k) p.1)).isSome) (fun p => kI p.2) (fun p => eI ((lmin (cands (fun _ => 1) (itT rs (fun _ => 1) k) p.1)).getD 0)) (by simp [keysOf_told]) (fun p hp => ⟨_, rfl, ?_, fun hc => ⟨eI p.2, by simp, rfl, rfl, ?_⟩⟩) nodup_kI (le_line (by simp; omega))]
  · unfold eT; rw [kvR_it]
  · simp [sub_told (mem_rules hp)]
    cases lmin (cands (fun _ => 1) (itT rs (fun _ => 1) k) p.1) <;> simp
  · simp [sub_told (mem_rules hp)]
    obtain ⟨v, hv⟩ := Option.isSome_iff_exists.mp hc
    rw [hv]; rfl
theorem norms_by_eq {m : Nat} {rs : Rules} (K : OkP m rs) (g : List Ob) : F_norms_by [eRs rs] g = .ok (eIs ((List.range rs.length).map fun i => (lim rs (fun _ => 1) i).getD 0)) g := by
  have hn := K.n12
  have e0 : (eT rs eI (itT rs (fun _ => 1) 0)) = .dct false [] := by unfold eT kvR; simp [itT]
  have step1 := norms_step1 K
  have step2 := norms_step2 K
  obtain ⟨ρ', s', h1, a, b, h2, h3⟩ := forVals_all (e := eL) (as := rs) (step := fun x ρ' => bnd (ofO (asgT (.name 2) x ρ')) fun ρ2 => exs dp_norms_by.phi [.asg (.name 3) (.dcomp .val false (.var 4) (.call "line_norm" [.var 5, .var 1] []) (.tup [.name 4, .name 5]) (.enum (.var 0)) [] [4, 5]), .asg (.name 1) (.dcomp .val false (.var 4) (.sub (.var 3) (.var 4)) (.name 4) (.keys 3) [.cmp .isNot (.sub (.var 3) (.var 4)) .non] [4])] ρ2)
    (fun pre ρ s => ∃ a b, ρ = [some (eRs rs), some (eT rs eI (itT rs (fun _ => 1) pre.length)), a, b, none, none] ∧ s = (⟨[], g⟩ : Sto)) (ρ := [some (eRs rs), some (.dct false []), none, none, none, none]) (s := ⟨[], g⟩) ⟨none, none, by rw [← e0]; rfl, rfl⟩ (fun p1 l p2 ρ s he ⟨a, b, h1, h2⟩ => by
      subst h1 h2
      refine ⟨_, _, .inl ?_, some (eL l), some (eTold rs fun l => encO (lmin (cands (fun _ => 1) (itT rs (fun _ => 1) p1.length) l))), by rw [List.length_append, List.length_singleton], rfl⟩
      simp [step1, step2])
  subst h2 h3
  simp [F_norms_by, b_norms_by, run, dispD, kvOf, quiet]
  rw [ex_for (xs := rs.map eL) (s1 := ⟨[], g⟩) (by simp [eRs])]
  rw [h1]
  simp
  rw [ev_comp' (List.range rs.length) eI (fun i => eI ((lim rs (fun _ => 1) i).getD 0)) ?_ (fun i hi => ⟨_, rfl, ?_⟩) (le_line (by simp; omega))]
  · simp [eIs]
  · simp [eRs, r1P_nat (show rs.length < 2 ^ 62 by omega)]
  · obtain ⟨v, hv⟩ := lim_some (w := fun _ => 1) K.live (List.mem_range.mp hi)
    simp [sub_table (k := rs.length) hv, hv]
theorem norm_by_eq {ns : List Nat} {row : Rule} (h : ∀ j ∈ row, j < ns.length) (hl : row.length ≤ 1000) (g : List Ob) : F_norm_by [eIs ns, eR row] g = .ok (eI ((row.map fun j => ns.getD j 0).sum)) g := by
  simp [F_norm_by, b_norm_by, run]
  rw [ev_comp' row eI (fun j => .int ((ns.getD j 0 : Nat) : Int)) (by simp [eR]) (fun j hj => ⟨_, rfl, ?_⟩) (le_line hl)]
  · simp [pBi_sum]
    have : ∀ r : Rule, (r.map fun j => ((ns[j]?.getD 0 : Nat) : Int)).sum = ((r.map fun j => ns[j]?.getD 0).sum : Nat) := by
      intro r
      induction r with
      | nil => rfl
      | cons a r ih => simp [ih]
    rw [this]
  · simp
    unfold eIs
    rw [pIdx_lst (p := eI (ns.getD j 0)) (by simp [h j hj])]
    simp
theorem sum_lim {rs : Rules} {w : Nat → Nat} {row : Rule} (h : ∀ j ∈ row, j < rs.length) : (row.map fun j => ((List.range rs.length).map fun i => (lim rs w i).getD 0).getD j 0).sum = sumT (lim rs w) row := by
  unfold sumT
  refine congrArg List.sum (List.map_congr_left fun j hj => ?_)
  simp [h j hj]
theorem norm_of_eq {m : Nat} {rs : Rules} (K : OkP m rs) {row : Rule} (h : row.length ≤ 12) (hr : ∀ j ∈ row, j < rs.length) (g : List Ob) : F_norm_of [ePg m rs, eR row] g = .ok (eI (sumT (lim rs fun _ => 1) row)) g := by
  have e := fun g => norm_by_eq (ns := (List.range rs.length).map fun i => (lim rs (fun _ => 1) i).getD 0) (row := row) (by simpa using hr) (by omega) g
  rw [sum_lim hr] at e
  simp [F_norm_of, b_norm_of, run, need_program_eq, need_row_eq h hr, attr_rules, norms_by_eq K, e]
end FW

end

section
set_option Elab.async false
set_option linter.all false
set_option maxRecDepth 100000
/-! Mp4: least costs and their shortest texts; a pair (cost, length) as one number. -/
namespace FW
open PySem L2
def BB : Nat := 7 ^ 25
theorem BB_pos : 0 < BB := by unfold BB; decide
def wB (c : Nat → Nat) (l : Nat) : Nat := c l * BB + 1
def eP2 (a b : Nat) : P := .tup [eI a, eI b]
def qB (v : Nat) : Nat := v / BB
def rB (v : Nat) : Nat := v % BB
def fP (v : Nat) : P := eP2 (qB v) (rB v)
@[simp] theorem noLob_fP {v : Nat} : noLob (fP v) = true := by simp [fP, eP2]
@[simp] theorem isNonP_fP {v : Nat} : isNonP (fP v) = false := (rfl)
theorem code_div {q r : Nat} (h : r < BB) : qB (q * BB + r) = q := by
  unfold qB
  rw [Nat.mul_comm, Nat.mul_add_div BB_pos, Nat.div_eq_of_lt h]; rfl
theorem code_mod {q r : Nat} (h : r < BB) : rB (q * BB + r) = r := by
  unfold rB
  rw [Nat.mul_comm, Nat.mul_add_mod, Nat.mod_eq_of_lt h]
theorem code_eq (v : Nat) : v = qB v * BB + rB v := by
  unfold qB rB
  rw [Nat.mul_comm]; exact (Nat.div_add_mod v BB).symm
theorem rB_lt (v : Nat) : rB v < BB := Nat.mod_lt _ BB_pos
/-- the lengths of a sum -/
def lenT (T : Tab) (r : Rule) : Nat := (r.map fun j => rB ((T j).getD 0)).sum
def cstT (T : Tab) (r : Rule) : Nat := (r.map fun j => qB ((T j).getD 0)).sum
theorem sum_code {T : Tab} : ∀ r : Rule, sumT T r = cstT T r * BB + lenT T r
  | [] => by simp [sumT, cstT, lenT]
  | j :: r => by
    rw [sumT_cons, sum_code r]
    unfold cstT lenT
    rw [List.map_cons, List.map_cons, List.sum_cons, List.sum_cons, Nat.add_mul]
    have := code_eq ((T j).getD 0)
    omega
theorem lenT_le {T : Tab} {L : Nat} : ∀ {r : Rule}, (∀ j ∈ r, rB ((T j).getD 0) ≤ L) → lenT T r ≤ r.length * L
  | [], _ => by simp [lenT]
  | j :: r, h => by
    have ih := lenT_le (T := T) (L := L) (r := r) fun k hk => h k (List.mem_cons_of_mem _ hk)
    have h0 := h j List.mem_cons_self
    unfold lenT at ih ⊢
    rw [List.map_cons, List.sum_cons, List.length_cons, Nat.add_mul]
    omega
/-- lengths grow at most so -/
theorem it_len {m : Nat} {rs : Rules} (K : OkP m rs) {c : Nat → Nat} {d : Nat} (hd : d ≤ 6) (hr : ∀ line ∈ rs, ∀ r, some r ∈ line → r.length ≤ d) : ∀ k, k ≤ 24 → ∀ i v, itT rs (wB c) k i = some v → rB v ≤ (d + 1) ^ k
  | 0, _, i, v, h => by cases h
  | k + 1, hk, i, v, h => by
    have ih := it_len (c := c) K hd hr k (by omega)
    have hs : stepT rs (wB c) (itT rs (wB c) k) i = some v := h
    unfold stepT at hs
    cases hi : rs[i]? with
    | none => rw [hi] at hs; cases hs
    | some line =>
      rw [hi] at hs
      obtain ⟨l, r, g1, g2, g3⟩ := mem_cands.mp (lmin_some.mp hs).1
      have hrl := hr line (List.mem_of_getElem? hi) r (List.mem_of_getElem? g1)
      have hl : lenT (itT rs (wB c) k) r ≤ d * (d + 1) ^ k := by
        refine Nat.le_trans (lenT_le (L := (d + 1) ^ k) fun j hj => ?_) (Nat.mul_le_mul_right _ hrl)
        obtain ⟨u, hu⟩ := known_iff.mp g2 j hj
        rw [hu]; exact ih j u hu
      have h1 : 1 ≤ (d + 1) ^ k := Nat.pow_pos (by omega)
      have h2 : (d + 1) ^ (k + 1) = d * (d + 1) ^ k + (d + 1) ^ k := by rw [Nat.pow_succ, Nat.mul_comm, Nat.add_mul, Nat.one_mul]
      have h3 : (d + 1) ^ (k + 1) ≤ 7 ^ 24 := Nat.le_trans (Nat.pow_le_pow_left (show d + 1 ≤ 7 by omega) _) (Nat.pow_le_pow_right (by decide) hk)
      have h4 : 7 ^ 24 < BB := by unfold BB; decide
      have e : v = (c l + cstT (itT rs (wB c) k) r) * BB + (1 + lenT (itT rs (wB c) k) r) := by
        rw [g3, sum_code, Nat.add_mul]; unfold wB; omega
      rw [e, code_mod (by omega)]
      omega
theorem it_sum {m : Nat} {rs : Rules} (K : OkP m rs) {c : Nat → Nat} {k : Nat} (hk : k ≤ 24) {r : Rule} (h6 : r.length ≤ 6) (hkn : known (itT rs (wB c) k) r = true) : lenT (itT rs (wB c) k) r + 1 < BB := by
  have h1 : lenT (itT rs (wB c) k) r ≤ 6 * 7 ^ 24 := by
    refine Nat.le_trans (lenT_le (L := 7 ^ 24) fun j hj => ?_) (Nat.mul_le_mul_right _ h6)
    obtain ⟨u, hu⟩ := known_iff.mp hkn j hj
    rw [hu]
    exact Nat.le_trans (it_len K (Nat.le_refl 6) (fun line hl r hr => (K.rule line hl r hr).1) k hk j u hu) (Nat.pow_le_pow_right (by decide) hk)
  have h2 : 6 * 7 ^ 24 + 1 < BB := by unfold BB; decide
  omega
/-! ### sum_over -/
theorem ints_nat {α : Type} {f : α → Nat} {r : List α} : (r.map fun j => ((f j : Nat) : Int)).sum = ((r.map f).sum : Nat) := by
  induction r with
  | nil => rfl
  | cons a r ih => rw [List.map_cons, List.map_cons, List.sum_cons, List.sum_cons, ih]; omega
def soP (T : Tab) (o : Option Rule) : P := match o with
  | some r => if known T r then eP2 (cstT T r) (1 + lenT T r) else .non
  | none => .non
@[simp] theorem noLob_soP {T : Tab} {o : Option Rule} : noLob (soP T o) = true := by
  cases o with
  | none => simp [soP]
  | some r => unfold soP; dsimp only; split <;> simp [eP2]
theorem sum_over_eq {rs : Rules} {w : Nat → Nat} {k : Nat} {o : Option Rule} (h : ∀ r, o = some r → r.length ≤ 6) (g : List Ob) : F_sum_over [eT rs fP (itT rs w k), eO o] g = .ok (soP (itT rs w k) o) g := by
  cases o with
  | none => simp [F_sum_over, b_sum_over, run, eO, soP]
  | some r =>
    have hl := h r rfl
    have e1 : ∀ (s : Sto), ev dp_sum_over.phi (.comp .val (.cmp .in_ (.var 2) (.var 0)) (.name 2) (.seq (.var 1)) [] [2]) [some (eT rs fP (itT rs w k)), some (eR r), none] s = .ok (.lst (r.map fun j => .bl (itT rs w k j).isSome)) s := fun s =>
      ev_comp' r eI (fun j => .bl (itT rs w k j).isSome) (by simp [eR]) (fun j hj => ⟨_, rfl, by simp [in_table]⟩) (le_line (by omega))
    simp [F_sum_over, b_sum_over, run, eO, isNonP_eO, e1, pBi_known, soP]
    by_cases hk : known (itT rs w k) r = true
    · have hk' := known_iff.mp hk
      simp [hk]
      rw [ev_comp' r eI (fun j => .int ((qB ((itT rs w k j).getD 0) : Nat) : Int)) (by simp [eR]) (fun j hj => ⟨_, rfl, ?_⟩) (le_line (by omega))]
      · simp [pBi_sum]
        rw [ev_comp' r eI (fun j => .int ((rB ((itT rs w k j).getD 0) : Nat) : Int)) (by simp [eR]) (fun j hj => ⟨_, rfl, ?_⟩) (le_line (by omega))]
        · simp [pBi_sum, ints_nat]
          simp [eP2, cstT, lenT]
        · obtain ⟨v, hv⟩ := hk' j hj
          simp [sub_table (f := fP) hv, hv, fP, eP2]
      · obtain ⟨v, hv⟩ := hk' j hj
        simp [sub_table (f := fP) hv, hv, fP, eP2]
    · simp [hk]
/-! ### best_pair -/
def eCs (cs : List Nat) : P := .lst (cs.map eI)
theorem cost_add {m : Nat} {rs : Rules} (K : OkP m rs) {c : Nat → Nat} {k : Nat} (hk : k ≤ 24) {r : Rule} (h6 : r.length ≤ 6) (hkn : known (itT rs (wB c) k) r = true) (l : Nat) :
    qB (wB c l + sumT (itT rs (wB c) k) r) = cstT (itT rs (wB c) k) r + c l ∧ rB (wB c l + sumT (itT rs (wB c) k) r) = 1 + lenT (itT rs (wB c) k) r := by
  have h := it_sum K hk h6 hkn
  have e : wB c l + sumT (itT rs (wB c) k) r = (cstT (itT rs (wB c) k) r + c l) * BB + (1 + lenT (itT rs (wB c) k) r) := by
    rw [sum_code, Nat.add_mul]; unfold wB; omega
  rw [e]
  exact ⟨code_div (by omega), code_mod (by omega)⟩
theorem lex_code (v u : Nat) : lexI [(qB v : Int), (rB v : Int)] [(qB u : Int), (rB u : Int)] = decide (v < u) := by
  have h1 := code_eq v
  have h2 := code_eq u
  have h3 := rB_lt v
  have h4 := rB_lt u
  have key : (v < u) ↔ (qB v < qB u ∨ (qB v = qB u ∧ rB v < rB u)) := by
    constructor
    · intro h
      by_cases c : qB v < qB u
      · exact .inl c
      · by_cases c2 : qB v = qB u
        · rw [c2] at h1; exact .inr ⟨c2, by omega⟩
        · have : qB u + 1 ≤ qB v := by omega
          have := Nat.mul_le_mul_right BB this
          rw [Nat.add_mul] at this
          omega
    · rintro (h | ⟨h, h'⟩)
      · have := Nat.mul_le_mul_right BB (show qB v + 1 ≤ qB u from h)
        rw [Nat.add_mul] at this
        omega
      · rw [h] at h1; omega
  have e : lexI [(qB v : Int), (rB v : Int)] [(qB u : Int), (rB u : Int)] = if (qB v : Int) = (qB u : Int) then (if (rB v : Int) = (rB u : Int) then false else decide ((rB v : Int) < (rB u : Int))) else decide ((qB v : Int) < (qB u : Int)) := rfl
  rw [e]
  by_cases c : qB v = qB u
  · rw [if_pos (by omega)]
    by_cases c2 : rB v = rB u
    · rw [if_pos (by omega)]
      exact (decide_eq_false fun z => by rcases key.mp z with h | h <;> omega).symm
    · rw [if_neg (by omega)]
      exact decide_eq_decide.mpr ⟨fun z => key.mpr (.inr ⟨c, by omega⟩), fun z => by rcases key.mp z with h | h <;> omega⟩
  · rw [if_neg (by omega)]
    exact decide_eq_decide.mpr ⟨fun z => key.mpr (.inl (by omega)), fun z => by rcases key.mp z with h | h <;> omega⟩
theorem pLt_fP (v u : Nat) : pLt (fP v) (fP u) = some (decide (v < u)) := by
  have : pLt (fP v) (fP u) = some (lexI [(qB v : Int), (rB v : Int)] [(qB u : Int), (rB u : Int)]) := rfl
  rw [this, lex_code]
theorem minBy_fP : ∀ (l : List Nat) (m : Nat), minBy pLt (l.map fP) (fP m) = some (fP (l.foldl (fun m y => if y < m then y else m) m))
  | [], m => rfl
  | x :: l, m => by
    rw [List.map_cons, minBy, List.foldl_cons, pLt_fP]
    by_cases h : x < m
    · rw [decide_eq_true h, if_pos h]; exact minBy_fP l x
    · rw [decide_eq_false h, if_neg h]; exact minBy_fP l m
theorem tupsOf_fP : ∀ l : List Nat, ∃ ts, tupsOf (l.map fP) = some ts
  | [] => ⟨[], rfl⟩
  | x :: l => by
    obtain ⟨ts, h⟩ := tupsOf_fP l
    have : tupsOf (fP x :: l.map fP) = match intsOf [eI (qB x), eI (rB x)], tupsOf (l.map fP) with | some t, some ts => some (t :: ts) | _, _ => none := rfl
    exact ⟨_, by rw [List.map_cons, this, h]; rfl⟩
section
variable {Φ : Fenv} {r : Al} {s : Sto}
@[simp] theorem mkL_loc {xs : List P} : mkL .loc xs s = .ok (.lob s.l.length) ⟨s.l ++ [.lst xs], s.g⟩ := (rfl)
theorem listOf_lob {n : Nat} {xs : List P} (h : s.l[n]? = some (.lst xs)) : listOf s (.lob n) = some xs := by unfold listOf; dsimp only; rw [h]
theorem isLst_lob {n : Nat} {xs : List P} (h : s.l[n]? = some (.lst xs)) : isLst (.lob n) s = .ok () s := by unfold isLst; rw [listOf_lob h]
theorem setOb_lob {n : Nat} {o o' : Ob} (h : s.l[n]? = some o) : setOb (.lob n) o' s = .ok () ⟨s.l.set n o', s.g⟩ := by
  unfold setOb; dsimp only; rw [if_pos (List.getElem?_eq_some_iff.mp h).1]
theorem append_lob {n : Nat} {xs : List P} {x : P} (h : s.l[n]? = some (.lst xs)) (hl : xs.length < line) : pMt .append (.lob n) [x] s = .ok .non ⟨s.l.set n (.lst (xs ++ [x])), s.g⟩ := by
  unfold pMt pAppend; dsimp only; rw [listOf_lob h]; dsimp only; rw [if_pos hl, bnd_ap, setOb_lob h]; rfl
theorem extend_lob {n : Nat} {xs ys : List P} (h : s.l[n]? = some (.lst xs)) (hl : xs.length + ys.length ≤ line) : pMt .extend (.lob n) [.tup ys] s = .ok .non ⟨s.l.set n (.lst (xs ++ ys)), s.g⟩ := by
  unfold pMt pExtend; dsimp only [seqOf]; rw [listOf_lob h]; dsimp only; rw [if_pos hl, bnd_ap, setOb_lob h]; rfl
theorem pop_lob {n : Nat} {xs : List P} {y : P} (h : s.l[n]? = some (.lst (xs ++ [y]))) : pMt .pop (.lob n) [] s = .ok y ⟨s.l.set n (.lst xs), s.g⟩ := by
  unfold pMt pPop; dsimp only; rw [listOf_lob h]; dsimp only
  have : (xs ++ [y])[(xs ++ [y]).length - 1]? = some y := by simp
  rw [this]; dsimp only; rw [bnd_ap, setOb_lob h]; simp
theorem mapM_toDs {f : P → Option PyData} : ∀ xs : List P, xs.mapM (toD f) = toDs f xs
  | [] => by rw [toDs]; rfl
  | x :: xs => by
    rw [List.mapM_cons, mapM_toDs xs, toDs]
    cases toD f x with
    | none => rfl
    | some d => cases toDs f xs <;> rfl
theorem deep_lob {o : P} {xs : List P} {q : P} (ho : ∀ f : P → Option PyData, toD f o = f o) (h : listOf s o = some xs) (hd : isDs 58 xs = true) (hq : isD 59 q = true) : deepEq o q s = .ok (peq (.lst xs) q) s := by
  obtain ⟨f, ef⟩ := datOf_toD (n := 2) (s := s) (p := q)
  have e2 : ∃ f2, ∀ p, datOf 2 s p = toD f2 p := ⟨_, fun p => rfl⟩
  obtain ⟨f2, hf2⟩ := e2
  obtain ⟨ds, h1, h2, h3⟩ := toDs_isD (f := f2) hd
  obtain ⟨g, eg⟩ := datOf_toD (n := 3) (s := s) (p := q)
  obtain ⟨e, g1, g2, g3⟩ := toD_isD (f := g) hq
  have e3 : datOf 3 s o = some (.list ds) := by
    show toD (fun p => match listOf s p with | some xs => (xs.mapM (datOf 2 s)).map .list | none => none) o = _
    simp only [ho, h]
    rw [show datOf 2 s = toD f2 from funext hf2, mapM_toDs, h1]; rfl
  unfold deepEq
  rw [e3, eg, g1]
  dsimp only
  have c1 : PyData.canLay0 (.list ds) = true := by rw [PyData.canLay0]; exact h2
  have c2 : PyData.depth (.list ds) ≤ 64 := by rw [PyData.depth]; omega
  have s1 : SeqAt.shaped (.list ds) = true := by unfold SeqAt.shaped; rw [c1, Bool.true_and]; exact decide_eq_true c2
  have s2 : SeqAt.shaped e = true := by unfold SeqAt.shaped; rw [g2, Bool.true_and]; exact decide_eq_true (by omega)
  have e5 : toD f2 (.lst xs) = some (.list ds) := by rw [toD, h1]; rfl
  rw [s1, s2, peq_eqv (k := 59) (j := 59) (by rw [isD]; exact hd) hq e5 g1]; rfl
theorem ne_lob {n : Nat} {xs : List P} (h : s.l[n]? = some (.lst xs)) (hd : isDs 58 xs = true) : pCmp .ne (.lob n) (.lst []) s = .ok (!xs.isEmpty) s := by
  show bnd (deepEq (.lob n) (.lst [])) (fun c => ret !c) s = _
  rw [bnd_ap, deep_lob (fun f => by rw [toD]) (listOf_lob h) hd (by simp [isD, isDs]), peq, peqs_nil]; rfl
theorem tuple_lob {n : Nat} {xs : List P} (h : s.l[n]? = some (.lst xs)) : pBi Φ r .tuple [.lob n] s = .ok (.tup xs) s := by
  unfold pBi; dsimp only [itemsOf]; rw [h]
theorem min_lob {n : Nat} {l : List Nat} {v : Nat} (h : s.l[n]? = some (.lst (l.map fP))) (hv : lmin l = some v) : pBi Φ r .min [.lob n] s = .ok (fP v) s := by
  cases l with
  | nil => cases hv
  | cons x l =>
    have e : l.foldl (fun m y => if y < m then y else m) x = v := Option.some.inj hv
    have h1 : okMn ((x :: l).map fP) = true := by
      unfold okMn
      obtain ⟨ts, hts⟩ := tupsOf_fP (x :: l)
      rw [hts]; simp
    have h2 : pMin ((x :: l).map fP) = some (fP v) := by
      rw [List.map_cons]
      show minBy pLt (l.map fP) (fP x) = _
      rw [minBy_fP, e]
    unfold pBi
    dsimp only
    rw [listOf_lob h]
    dsimp only
    rw [h1, if_pos rfl, h2]
end
theorem isDs_fP {l : List Nat} : isDs 58 (l.map fP) = true := isDs_map (fun v => by simp [fP, eP2, isD, isDs]) l
theorem cands_zip {w : Nat → Nat} {T : Tab} {line : Line} : cands w T line = line.zipIdx.filterMap fun p => rnorm w T p.2 p.1 := by
  unfold cands rnorm; rfl
/-- a list or a tuple of these costs -/
structure CsP (pc : P) (cs : List Nat) : Prop where
  n : noLob pc = true
  at_ : ∀ (l : Nat) (s : Sto), l < cs.length → pIdx pc (eI l) s = .ok (eI (cs.getD l 0)) s
theorem csP_lst {cs : List Nat} : CsP (eCs cs) cs := ⟨by unfold eCs; simp, fun l s h => by unfold eCs; exact pIdx_lst (by simp [h])⟩
theorem csP_tup {cs : List Nat} : CsP (eR cs) cs := ⟨by simp, fun l s h => by unfold eR; exact pIdx_tup (by simp [h])⟩
theorem sub_costs {pc : P} {cs : List Nat} (C : CsP pc cs) {l : Nat} {s : Sto} (h : l < cs.length) : pIdx pc (eI l) s = .ok (eI (cs.getD l 0)) s := C.at_ l s h
def cOf (cs : List Nat) (l : Nat) : Nat := cs.getD l 0
theorem soP_some {m : Nat} {rs : Rules} (K : OkP m rs) {c : Nat → Nat} {k : Nat} (hk : k ≤ 24) {o : Option Rule} (h6 : ∀ r, o = some r → r.length ≤ 6) (l : Nat) :
    (rnorm (wB c) (itT rs (wB c) k) l o = none ∧ soP (itT rs (wB c) k) o = .non) ∨ ∃ v a b, rnorm (wB c) (itT rs (wB c) k) l o = some v ∧ soP (itT rs (wB c) k) o = eP2 a b ∧ qB v = a + c l ∧ rB v = b := by
  cases o with
  | none => exact .inl ⟨rfl, rfl⟩
  | some r =>
    unfold rnorm soP
    dsimp only
    by_cases hkn : known (itT rs (wB c) k) r = true
    · rw [if_pos hkn, if_pos hkn]
      obtain ⟨h1, h2⟩ := cost_add K (c := c) hk (h6 r rfl) hkn l
      exact .inr ⟨_, _, _, rfl, rfl, h1, h2⟩
    · rw [if_neg hkn, if_neg hkn]; exact .inl ⟨rfl, rfl⟩
theorem best_pair_eq {m : Nat} {rs : Rules} (K : OkP m rs) {cs : List Nat} {pc : P} (C : CsP pc cs) {k : Nat} (hk : k ≤ 24) {line : Line} (h0 : line.length ≤ cs.length) (h6 : line.length ≤ 6) (h : ∀ r, some r ∈ line → r.length ≤ 6) (g : List Ob) :
    F_best_pair [eL line, pc, eT rs fP (itT rs (wB (cOf cs)) k)] g = .ok ((lmin (cands (wB (cOf cs)) (itT rs (wB (cOf cs)) k) line)).elim .non fP) g := by
  let T := itT rs (wB (cOf cs)) k
  let w := wB (cOf cs)
  obtain ⟨ρ', s', h1, a, b, d, h2, h3⟩ := forVals_all (α := Option Rule × Nat) (e := fun p => .tup [eI p.2, eO p.1]) (as := line.zipIdx) (step := fun x ρ' => bnd (ofO (asgT (.tup [.name 4, .name 5]) x ρ')) fun ρ2 => exs dp_best_pair.phi [.asg (.name 6) (.call "sum_over" [.var 2, .var 5] []), .ifs (.cmp .isNot (.var 6) .non) [.expr (.meth .append (.var 3) [.tup [.bin .val .add (.sub (.var 6) (.int 0)) (.sub (.var 1) (.var 4)), .sub (.var 6) (.int 1)]])] []] ρ2)
    (fun pre ρ s => ∃ a b d, ρ = [some (eL line), some (pc), some (eT rs fP T), some (.lob 0), a, b, d] ∧ s = (⟨[.lst ((pre.filterMap fun p => rnorm w T p.2 p.1).map fP)], g⟩ : Sto)) (ρ := [some (eL line), some (pc), some (eT rs fP T), some (.lob 0), none, none, none]) (s := ⟨[.lst []], g⟩) ⟨none, none, none, rfl, rfl⟩ (fun p1 q p2 ρ s he ⟨a, b, d, h1, h2⟩ => by
      subst h1 h2
      have hq : q ∈ line.zipIdx := by rw [he]; simp
      have hl := List.mk_mem_zipIdx_iff_getElem?.mp (show (q.1, q.2) ∈ line.zipIdx from hq)
      have hl : line[q.2]? = some q.1 := by simpa using hl
      have hlt := (List.getElem?_eq_some_iff.mp hl).1
      have h6' : ∀ r, q.1 = some r → r.length ≤ 6 := fun r hr => h r (hr ▸ List.mem_of_getElem? hl)
      have hlen : (p1.filterMap fun p => rnorm w T p.2 p.1).length ≤ 6 := by
        have l1 := List.length_filterMap_le (fun p : Option Rule × Nat => rnorm w T p.2 p.1) p1
        have l2 : p1.length ≤ line.zipIdx.length := by rw [he]; simp
        rw [List.length_zipIdx] at l2
        omega
      have e1 := fun g => sum_over_eq (rs := rs) (w := w) (k := k) h6' g
      rcases soP_some K (c := cOf cs) hk h6' q.2 with ⟨z1, z2⟩ | ⟨v, a1, b1, z1, z2, z3, z4⟩
      · refine ⟨[some (eL line), some (pc), some (eT rs fP T), some (.lob 0), some (eI q.2), some (eO q.1), some .non], ⟨[.lst ((p1.filterMap fun p => rnorm w T p.2 p.1).map fP)], g⟩, .inl ?_, _, _, _, rfl, ?_⟩
        · simp [e1, z2, w, T]
        · rw [List.filterMap_append]
          simp [z1, w, T]
      · refine ⟨[some (eL line), some (pc), some (eT rs fP T), some (.lob 0), some (eI q.2), some (eO q.1), some (eP2 a1 b1)], ⟨[.lst (((p1.filterMap fun p => rnorm w T p.2 p.1) ++ [v]).map fP)], g⟩, .inl ?_, _, _, _, rfl, ?_⟩
        · generalize hX : (p1.filterMap fun p => rnorm w T p.2 p.1) = X at hlen ⊢
          have ap : ∀ x, pMt .append (.lob 0) [x] (⟨[.lst (X.map fP)], g⟩ : Sto) = .ok .non ⟨[.lst (X.map fP ++ [x])], g⟩ := fun x => append_lob (n := 0) (s := ⟨[.lst (X.map fP)], g⟩) rfl (lt_line (by simp; omega))
          have il : isLst (.lob 0) (⟨[.lst (X.map fP)], g⟩ : Sto) = .ok () ⟨[.lst (X.map fP)], g⟩ := isLst_lob (n := 0) rfl
          simp [e1, z2, w, T, il, ap, sub_costs C (show q.2 < cs.length by omega), eP2, fP]
          simp only [cOf, List.getD_eq_getElem?_getD] at z3
          omega
        · rw [List.filterMap_append]
          simp [z1, w, T])
  subst h2 h3
  have e0 : (line.zipIdx.filterMap fun p => rnorm w T p.2 p.1) = cands w T line := cands_zip.symm
  rw [e0] at h1
  simp [F_best_pair, b_best_pair, run]
  rw [ex_for (xs := line.zipIdx.map fun p => .tup [eI p.2, eO p.1]) (s1 := ⟨[.lst []], g⟩) (by simp [eL, enumP_map])]
  rw [h1]
  have nl : pCmp .ne (.lob 0) (.lst []) (⟨[.lst ((cands w T line).map fP)], g⟩ : Sto) = .ok (!((cands w T line).map fP).isEmpty) ⟨[.lst ((cands w T line).map fP)], g⟩ := ne_lob (n := 0) rfl isDs_fP
  simp [nl]
  cases hm : lmin (cands w T line) with
  | none =>
    have := lmin_none.mp hm
    simp [this, T, w]
  | some v =>
    have hne : cands w T line ≠ [] := fun z => by rw [z] at hm; cases hm
    have mn : pBi dp_best_pair.phi .val .min [.lob 0] (⟨[.lst ((cands w T line).map fP)], g⟩ : Sto) = .ok (fP v) ⟨[.lst ((cands w T line).map fP)], g⟩ := min_lob (n := 0) rfl hm
    simp [hne, mn, T, w]
def encF (o : Option Nat) : P := o.elim .non fP
@[simp] theorem noLob_encF {o : Option Nat} : noLob (encF o) = true := by cases o <;> simp [encF]
@[simp] theorem isNonP_encF {o : Option Nat} : isNonP (encF o) = o.isNone := by cases o <;> simp [encF]
section
variable {m : Nat} {rs : Rules} {cs : List Nat} {pc : P}
abbrev wC (cs : List Nat) : Nat → Nat := wB (cOf cs)
theorem pairs_step1 (K : OkP m rs) (C : CsP pc cs) (hc : cs.length = m) : ∀ k, k ≤ 24 → ∀ (a b : Option P) (s : Sto), ev dp_least_pairs.phi (.dcomp .val false (.var 5) (.call "best_pair" [.var 6, .var 1, .var 2] []) (.tup [.name 5, .name 6]) (.enum (.var 0)) [] [5, 6]) [some (eRs rs), some (pc), some (eT rs fP (itT rs (wC cs) k)), a, b, none, none] s = .ok (eTold rs fun l => encF (lmin (cands (wC cs) (itT rs (wC cs) k) l))) s := fun k hk a b s => by
  have hn := K.n12
  rw [ev_dcomp rs.zipIdx (fun p => .tup [eI p.2, eL p.1]) (fun _ => true) (fun p => kI p.2) (fun p => encF (lmin (cands (wC cs) (itT rs (wC cs) k) p.1))) (by simp [eRs, enumP_map]) (fun p hp => ⟨_, rfl, by simp, fun _ => ⟨eI p.2, ?_⟩⟩) nodup_kI (le_line (by simp; omega))]
  · rw [List.filter_eq_self.mpr (fun _ _ => rfl)]; rfl
  · obtain ⟨h1, h2, h3, h4⟩ := rnorm_le K hp
    have nc : noLob pc = true := C.n
    have e := fun g => best_pair_eq K C hk (line := p.1) (by omega) (by omega) (fun r hr => (h4 r hr).1) g
    refine ⟨by simp, rfl, rfl, ?_⟩
    simp [nc, e, encF]
theorem pairs_step2 (K : OkP m rs) : ∀ k (a : Option P) (q : P) (s : Sto), ev dp_least_pairs.phi (.dcomp .val false (.var 5) (.sub (.var 4) (.var 5)) (.name 5) (.keys 4) [.cmp .isNot (.sub (.var 4) (.var 5)) .non] [5]) [some (eRs rs), some (pc), some q, a, some (eTold rs fun l => encF (lmin (cands (wC cs) (itT rs (wC cs) k) l))), none, none] s = .ok (eT rs fP (itT rs (wC cs) (k + 1))) s := fun k a q s => by
  have hn := K.n12
  rw [ev_dcomp rs.zipIdx (fun p => eI p.2) (fun p => (lmin (cands (wC cs) (itT rs (wC cs) k) p.1)).isSome) (fun p => kI p.2) (fun p => fP ((lmin (cands (wC cs) (itT rs (wC cs) k) p.1)).getD 0)) (by simp [keysOf_told]) (fun p hp => ⟨_, rfl, ?_, fun hc => ⟨eI p.2, by simp, rfl, rfl, ?_⟩⟩) nodup_kI (le_line (by simp; omega))]
  · unfold eT; rw [kvR_it]
  · simp [sub_told (mem_rules hp)]
    cases lmin (cands (wC cs) (itT rs (wC cs) k) p.1) <;> simp
  · simp [sub_told (mem_rules hp)]
    obtain ⟨v, hv⟩ := Option.isSome_iff_exists.mp hc
    rw [hv]; rfl
theorem least_pairs_eq (K : OkP m rs) (C : CsP pc cs) (hc : cs.length = m) (g : List Ob) : F_least_pairs [eRs rs, pc] g = .ok (eT rs fP (lim rs (wC cs))) g := by
  have hn := K.n12
  have e0 : (eT rs fP (itT rs (wC cs) 0)) = .dct false [] := by unfold eT kvR; simp [itT]
  have step1 := pairs_step1 K C hc
  have step2 := pairs_step2 (cs := cs) (pc := pc) K
  obtain ⟨ρ', s', h1, a, b, h2, h3⟩ := forVals_all (e := eI) (as := List.range (2 * rs.length)) (step := fun x ρ' => bnd (ofO (asgT (.name 3) x ρ')) fun ρ2 => exs dp_least_pairs.phi [.asg (.name 4) (.dcomp .val false (.var 5) (.call "best_pair" [.var 6, .var 1, .var 2] []) (.tup [.name 5, .name 6]) (.enum (.var 0)) [] [5, 6]), .asg (.name 2) (.dcomp .val false (.var 5) (.sub (.var 4) (.var 5)) (.name 5) (.keys 4) [.cmp .isNot (.sub (.var 4) (.var 5)) .non] [5])] ρ2)
    (fun pre ρ s => ∃ a b, ρ = [some (eRs rs), some (pc), some (eT rs fP (itT rs (wC cs) pre.length)), a, b, none, none] ∧ s = (⟨[], g⟩ : Sto)) (ρ := [some (eRs rs), some (pc), some (.dct false []), none, none, none, none]) (s := ⟨[], g⟩) ⟨none, none, by rw [← e0]; rfl, rfl⟩ (fun p1 l p2 ρ s he ⟨a, b, h1, h2⟩ => by
      subst h1 h2
      have hk : p1.length ≤ 24 := by
        have := congrArg List.length he
        simp at this; omega
      refine ⟨[some (eRs rs), some (pc), some (eT rs fP (itT rs (wC cs) (p1.length + 1))), some (eI l), some (eTold rs fun l => encF (lmin (cands (wC cs) (itT rs (wC cs) p1.length) l))), none, none], ⟨[], g⟩, .inl ?_, some (eI l), some (eTold rs fun l => encF (lmin (cands (wC cs) (itT rs (wC cs) p1.length) l))), by rw [List.length_append, List.length_singleton], rfl⟩
      simp [step1 _ hk, step2])
  subst h2 h3
  have em : ∀ s : Sto, pBin .val .mul (.int 2) (eI rs.length) s = .ok (eI (2 * rs.length)) s := fun s => by
    rw [pBin_mul_int (by rw [show small64 2 = true from by decide]; rfl)]; simp
  simp [F_least_pairs, b_least_pairs, run, dispD, kvOf, quiet]
  rw [ex_for (xs := (List.range (2 * rs.length)).map eI) (s1 := ⟨[], g⟩) (by simp only [evI_range1, ev_bin, ev_int, ev_bi, evs_cons, evs_nil, ev_var, bnd_ap, ret_ap', R.bind_ok, getV_0, eRs, pBi_len_tup, List.length_map, em]; exact r1P_nat (by omega))]
  rw [h1]
  simp [List.length_range, show 2 * rs.length = rs.length + rs.length by omega, it_stable K.live]
  rfl
end
end FW

end

section
set_option Elab.async false
set_option linter.all false
set_option maxRecDepth 100000
/-! Mp5: the cheapest texts; papers on least costs. -/
namespace FW
open PySem L2
/-- what is left of a row behind a letter -/
def rstep (rs : Rules) (row : List Nat) (l : Nat) : Option (List Nat) := match row with
  | [] => none
  | i :: rest => match rs[i]? with
    | some line => (match line[l]? with
      | some (some r) => some (r ++ rest)
      | _ => none)
    | none => none
def rafter (rs : Rules) (row : List Nat) : List Nat → Option (List Nat)
  | [] => some row
  | l :: text => (rstep rs row l).bind fun row' => rafter rs row' text
theorem rafter_app {rs : Rules} {t2 : List Nat} : ∀ {t1 row : List Nat}, rafter rs row (t1 ++ t2) = (rafter rs row t1).bind fun r => rafter rs r t2
  | [], row => rfl
  | l :: t1, row => by
    rw [List.cons_append, rafter, rafter]
    cases rstep rs row l with
    | none => rfl
    | some r => exact rafter_app
theorem rafter_snoc {rs : Rules} {t row r r' : List Nat} {l : Nat} (h : rafter rs row t = some r) (h2 : rstep rs r l = some r') : rafter rs row (t ++ [l]) = some r' := by
  rw [rafter_app, h]
  show rafter rs r [l] = _
  rw [rafter, h2]; rfl
theorem rstep_cons {rs : Rules} {i l : Nat} {rest : List Nat} {line : Line} {r : Rule} (h1 : rs[i]? = some line) (h2 : line[l]? = some (some r)) : rstep rs (i :: rest) l = some (r ++ rest) := by
  unfold rstep; dsimp only; rw [h1]; dsimp only; rw [h2]
def wsum (c : Nat → Nat) (text : List Nat) : Nat := (text.map c).sum
theorem wsum_app {c : Nat → Nat} {a b : List Nat} : wsum c (a ++ b) = wsum c a + wsum c b := by unfold wsum; rw [List.map_append, List.sum_append]
theorem lenT_app {T : Tab} {a b : Rule} : lenT T (a ++ b) = lenT T a + lenT T b := by unfold lenT; rw [List.map_append, List.sum_append]
theorem cstT_app {T : Tab} {a b : Rule} : cstT T (a ++ b) = cstT T a + cstT T b := by unfold cstT; rw [List.map_append, List.sum_append]
theorem sum_rev : ∀ l : List Nat, l.reverse.sum = l.sum
  | [] => rfl
  | a :: l => by rw [List.reverse_cons, List.sum_append, sum_rev l, List.sum_cons, List.sum_cons, List.sum_nil]; omega
theorem lenT_rev {T : Tab} {a : Rule} : lenT T a.reverse = lenT T a := by unfold lenT; rw [List.map_reverse, sum_rev]
theorem cstT_rev {T : Tab} {a : Rule} : cstT T a.reverse = cstT T a := by unfold cstT; rw [List.map_reverse, sum_rev]
theorem lenT_one {T : Tab} {j : Nat} : lenT T [j] = rB ((T j).getD 0) := by unfold lenT; simp
theorem cstT_one {T : Tab} {j : Nat} : cstT T [j] = qB ((T j).getD 0) := by unfold cstT; simp
section
variable {m : Nat} {rs : Rules} {cs : List Nat} {pc : P}
theorem peq_fP {a b v : Nat} : peq (eP2 a b) (fP v) = decide (a = qB v ∧ b = rB v) := by
  unfold fP eP2
  rw [peq, peqs, peqs, peqs, peq_eI, peq_eI, Bool.decide_and, Bool.and_true]
theorem cheapest_rule_eq (K : OkP m rs) (C : CsP pc cs) (hc : cs.length = m) {i : Nat} {line : Line} {v : Nat} (hi : rs[i]? = some line) (hv : lim rs (wC cs) i = some v) (g : List Ob) :
    ∃ l r, F_cheapest_rule [eL line, pc, eT rs fP (lim rs (wC cs)), fP v] g = .ok (eI l) g ∧ line[l]? = some (some r) ∧ known (lim rs (wC cs)) r = true ∧ v = wC cs l + sumT (lim rs (wC cs)) r := by
  let D := lim rs (wC cs)
  have hmem := List.mem_of_getElem? hi
  have hlen := K.len _ hmem
  have hm6 := K.m6
  have hr6 := fun r hr => (K.rule line hmem r hr).1
  have hn := K.n12
  have key := forVals_run (α := Option Rule × Nat) (e := fun p => .tup [eI p.2, eO p.1]) (as := line.zipIdx) (pre := []) (step := fun x ρ' => bnd (ofO (asgT (.tup [.name 4, .name 5]) x ρ')) fun ρ2 => exs dp_cheapest_rule.phi [.asg (.name 6) (.call "sum_over" [.var 2, .var 5] []), .ifs (.and [.cmp .isNot (.var 6) .non, .cmp .eq (.tup [.bin .val .add (.sub (.var 6) (.int 0)) (.sub (.var 1) (.var 4)), .sub (.var 6) (.int 1)]) (.var 3)]) [.ret (.var 4)] []] ρ2)
    (fun pre ρ s => (∀ p ∈ pre, rnorm (wC cs) D p.2 p.1 ≠ some v) ∧ ∃ a b d, ρ = [some (eL line), some (pc), some (eT rs fP D), some (fP v), a, b, d] ∧ s = (⟨[], g⟩ : Sto))
    (fun p s => s = (⟨[], g⟩ : Sto) ∧ ∃ l r, p = eI l ∧ line[l]? = some (some r) ∧ known D r = true ∧ v = wC cs l + sumT D r)
    (ρ := [some (eL line), some (pc), some (eT rs fP D), some (fP v), none, none, none]) (s := ⟨[], g⟩) ⟨(fun p hp => nomatch hp), none, none, none, rfl, rfl⟩ (fun p1 q p2 ρ s he ⟨h0, a, b, d, h1, h2⟩ => by
      subst h1 h2
      have hq : q ∈ line.zipIdx := by rw [show line.zipIdx = p1 ++ q :: p2 from he]; simp
      have hl := List.mk_mem_zipIdx_iff_getElem?.mp (show (q.1, q.2) ∈ line.zipIdx from hq)
      have hl : line[q.2]? = some q.1 := by simpa using hl
      have hlt := (List.getElem?_eq_some_iff.mp hl).1
      have h6' : ∀ r, q.1 = some r → r.length ≤ 6 := fun r hr => hr6 r (hr ▸ List.mem_of_getElem? hl)
      have e1 : ∀ g, F_sum_over [eT rs fP D, eO q.1] g = .ok (soP D q.1) g := fun g => sum_over_eq (rs := rs) (w := wC cs) (k := rs.length) h6' g
      have nD : noLob (eT rs fP D) = true := noLob_eT fun _ => noLob_fP
      rcases soP_some K (c := cOf cs) (k := rs.length) (by omega) h6' q.2 with ⟨z1, z2⟩ | ⟨u, a1, b1, z1, z2, z3, z4⟩
      · refine .inl ⟨[some (eL line), some (pc), some (eT rs fP D), some (fP v), some (eI q.2), some (eO q.1), some .non], ⟨[], g⟩, .inl ?_, ?_, _, _, _, rfl, rfl⟩
        · have z2 : soP D q.1 = .non := z2
          simp [nD, e1, z2]
        · intro p hp
          rcases List.mem_append.mp hp with z | z
          · exact h0 p z
          · rw [List.mem_singleton.mp z]
            have z1 : rnorm (wC cs) D q.2 q.1 = none := z1
            rw [z1]; exact fun z => nomatch z
      · have z1 : rnorm (wC cs) D q.2 q.1 = some u := z1
        have z2 : soP D q.1 = eP2 a1 b1 := z2
        have ev1 : ∀ s : Sto, pCmp .eq (.tup [.int ((a1 : Int) + ((cOf cs q.2 : Nat) : Int)), eI b1]) (fP v) s = .ok (decide (u = v)) s := fun s => by
          have : (P.tup [.int ((a1 : Int) + ((cOf cs q.2 : Nat) : Int)), eI b1]) = eP2 (qB u) (rB u) := by
            unfold eP2; rw [z3, z4]; simp
          rw [this, pCmp_eq (by simp [eP2, isD, isDs]) (by simp [fP, eP2, isD, isDs]), peq_fP]
          congr 1
          refine decide_eq_decide.mpr ⟨fun ⟨x1, x2⟩ => ?_, fun x => by rw [x]; exact ⟨rfl, rfl⟩⟩
          rw [code_eq u, code_eq v, x1, x2]
        have sc : ∀ s : Sto, pIdx (pc) (eI q.2) s = .ok (eI (cOf cs q.2)) s := fun s => sub_costs C (by omega)
        by_cases huv : u = v
        · subst huv
          refine .inr ⟨eI q.2, [some (eL line), some (pc), some (eT rs fP D), some (fP u), some (eI q.2), some (eO q.1), some (eP2 a1 b1)], ⟨[], g⟩, ?_, rfl, ?_⟩
          · simp [nD, e1, z2, sc]
            unfold eP2
            simp [sc, ev1]
          · cases ho : q.1 with
            | none => rw [ho] at z1; cases z1
            | some r =>
              rw [ho] at z1 hl
              unfold rnorm at z1
              dsimp only at z1
              split at z1
              · rename_i hk
                exact ⟨q.2, r, rfl, hl, hk, (Option.some.inj z1).symm⟩
              · cases z1
        · refine .inl ⟨[some (eL line), some (pc), some (eT rs fP D), some (fP v), some (eI q.2), some (eO q.1), some (eP2 a1 b1)], ⟨[], g⟩, .inl ?_, ?_, _, _, _, rfl, rfl⟩
          · simp [nD, e1, z2, sc]
            unfold eP2
            simp [sc, ev1, huv]
          · intro p hp
            rcases List.mem_append.mp hp with z | z
            · exact h0 p z
            · rw [List.mem_singleton.mp z, z1]
              exact fun z => huv (Option.some.inj z))
  have hfor : evI dp_cheapest_rule.phi (.enum (.var 0)) [some (eL line), some (pc), some (eT rs fP D), some (fP v), none, none, none] ⟨[], g⟩ = .ok (.vals (line.zipIdx.map fun p => .tup [eI p.2, eO p.1])) ⟨[], g⟩ := by
    simp [eL, enumP_map]
  rcases key with ⟨ρ', s', k1, k2, k3⟩ | ⟨p, ρ', s', k1, rfl, l, r, rfl, k3, k4, k5⟩
  · obtain ⟨l, r, g1, g2, g3⟩ := lim_eq (w := wC cs) K.live hi
    rw [hv] at g3
    refine absurd ?_ (k2 (some r, l) (by
      rw [List.nil_append]
      exact List.mk_mem_zipIdx_iff_getElem?.mpr (by simpa using g1)))
    show rnorm (wC cs) D l (some r) = some v
    unfold rnorm
    dsimp only
    rw [if_pos g2]
    exact congrArg some g3.symm
  · refine ⟨l, r, ?_, k3, k4, k5⟩
    simp [F_cheapest_rule, b_cheapest_rule, run]
    rw [ex_for hfor, k1]
    simp
theorem lim_code (K : OkP m rs) (hc : cs.length = m) {l : Nat} {r : Rule} (h6 : r.length ≤ 6) (hk : known (lim rs (wC cs)) r = true) : qB (wC cs l + sumT (lim rs (wC cs)) r) = cstT (lim rs (wC cs)) r + cOf cs l ∧ rB (wC cs l + sumT (lim rs (wC cs)) r) = 1 + lenT (lim rs (wC cs)) r := by
  have hn := K.n12
  exact cost_add K (c := cOf cs) (k := rs.length) (by omega) h6 hk l
theorem rB_pos (K : OkP m rs) (hc : cs.length = m) {j : Nat} (hj : j < rs.length) : 1 ≤ rB ((lim rs (wC cs) j).getD 0) := by
  obtain ⟨line, hl⟩ : ∃ line, rs[j]? = some line := ⟨rs[j], List.getElem?_eq_getElem hj⟩
  obtain ⟨l, r, g1, g2, g3⟩ := lim_eq (w := wC cs) K.live hl
  have := (lim_code K hc (l := l) (K.rule line (List.mem_of_getElem? hl) r (List.mem_of_getElem? g1)).1 g2).2
  rw [g3, this]; omega
theorem len_le_lenT (K : OkP m rs) (hc : cs.length = m) : ∀ {row : List Nat}, (∀ j ∈ row, j < rs.length) → row.length ≤ lenT (lim rs (wC cs)) row
  | [], _ => Nat.zero_le _
  | j :: row, h => by
    have h1 := rB_pos K hc (h j List.mem_cons_self)
    have ih := len_le_lenT K hc (row := row) fun k hk => h k (List.mem_cons_of_mem _ hk)
    unfold lenT at ih ⊢
    rw [List.map_cons, List.sum_cons, List.length_cons]; omega
/-- one turn of the reading -/
theorem text_turn (K : OkP m rs) (C : CsP pc cs) (hc : cs.length = m) (row xs fd : List Nat) (j : Nat) (a b : Option P) (g : List Ob) (hj : j < rs.length) (hl1 : xs.length ≤ 1000000) (hl2 : fd.length ≤ 1000000) :
    ∃ l r line, rs[j]? = some line ∧ line[l]? = some (some r) ∧ (lim rs (wC cs) j).getD 0 = wC cs l + sumT (lim rs (wC cs)) r ∧ known (lim rs (wC cs)) r = true ∧
      exs dp_cheapest_text.phi [.asg (.name 6) (.meth .pop (.var 4) []), .asg (.name 7) (.call "cheapest_rule" [.sub (.var 0) (.var 6), .var 1, .var 2, .sub (.var 2) (.var 6)] []), .expr (.meth .append (.var 5) [.var 7]), .expr (.meth .extend (.var 4) [.rev .val (.sub (.sub (.var 0) (.var 6)) (.var 7))])]
        [some (eRs rs), some (pc), some (eT rs fP (lim rs (wC cs))), some (eR row), some (.lob 0), some (.lob 1), a, b] ⟨[.lst ((xs ++ [j]).map eI), .lst (fd.map eI)], g⟩ =
      .ok (.next, [some (eRs rs), some (pc), some (eT rs fP (lim rs (wC cs))), some (eR row), some (.lob 0), some (.lob 1), some (eI j), some (eI l)]) ⟨[.lst ((xs ++ r.reverse).map eI), .lst ((fd ++ [l]).map eI)], g⟩ := by
  obtain ⟨line, hl⟩ : ∃ line, rs[j]? = some line := ⟨rs[j], List.getElem?_eq_getElem hj⟩
  obtain ⟨v, hv⟩ := lim_some (w := wC cs) K.live hj
  obtain ⟨l, r, h1, h2, h3, h4⟩ := cheapest_rule_eq K C hc hl hv g
  have hr6 := (K.rule line (List.mem_of_getElem? hl) r (List.mem_of_getElem? h2)).1
  refine ⟨l, r, line, hl, h2, by rw [hv]; exact h4, h3, ?_⟩
  let D := lim rs (wC cs)
  have nD : noLob (eT rs fP (lim rs (wC cs))) = true := noLob_eT fun _ => noLob_fP
  have nc : noLob pc = true := C.n
  have i1 : ∀ (s : Sto), pIdx (eRs rs) (eI j) s = .ok (eL line) s := fun s => by
    unfold eRs; exact pIdx_tup (by simp [hl])
  have i2 : ∀ (s : Sto), pIdx (eT rs fP (lim rs (wC cs))) (eI j) s = .ok (fP v) s := fun s => sub_table (k := rs.length) hv
  have i3 : ∀ (s : Sto), pIdx (eL line) (eI l) s = .ok (eR r) s := fun s => by
    unfold eL; exact pIdx_tup (by simp [h2, eO])
  have s1 : isLst (.lob 0) (⟨[.lst (xs.map eI ++ [eI j]), .lst (fd.map eI)], g⟩ : Sto) = .ok () ⟨[.lst (xs.map eI ++ [eI j]), .lst (fd.map eI)], g⟩ := isLst_lob (n := 0) rfl
  have s2 : pMt .pop (.lob 0) [] (⟨[.lst (xs.map eI ++ [eI j]), .lst (fd.map eI)], g⟩ : Sto) = .ok (eI j) ⟨[.lst (xs.map eI), .lst (fd.map eI)], g⟩ := pop_lob (n := 0) (s := ⟨[.lst (xs.map eI ++ [eI j]), .lst (fd.map eI)], g⟩) rfl
  have s3 : isLst (.lob 1) (⟨[.lst (xs.map eI), .lst (fd.map eI)], g⟩ : Sto) = .ok () ⟨[.lst (xs.map eI), .lst (fd.map eI)], g⟩ := isLst_lob (n := 1) rfl
  have s4 : pMt .append (.lob 1) [eI l] (⟨[.lst (xs.map eI), .lst (fd.map eI)], g⟩ : Sto) = .ok .non ⟨[.lst (xs.map eI), .lst (fd.map eI ++ [eI l])], g⟩ := append_lob (n := 1) (s := ⟨[.lst (xs.map eI), .lst (fd.map eI)], g⟩) rfl (by simp; unfold FW.line; omega)
  have s5 : isLst (.lob 0) (⟨[.lst (xs.map eI), .lst (fd.map eI ++ [eI l])], g⟩ : Sto) = .ok () ⟨[.lst (xs.map eI), .lst (fd.map eI ++ [eI l])], g⟩ := isLst_lob (n := 0) rfl
  have s6 : pMt .extend (.lob 0) [.tup (r.reverse.map eI)] (⟨[.lst (xs.map eI), .lst (fd.map eI ++ [eI l])], g⟩ : Sto) = .ok .non ⟨[.lst (xs.map eI ++ r.reverse.map eI), .lst (fd.map eI ++ [eI l])], g⟩ := extend_lob (n := 0) (s := ⟨[.lst (xs.map eI), .lst (fd.map eI ++ [eI l])], g⟩) rfl (by simp; unfold FW.line; omega)
  have rv : ∀ s : Sto, pRev .val (eR r) s = .ok (.tup (r.reverse.map eI)) s := fun s => by
    unfold eR pRev; dsimp only; rw [List.map_reverse]
  simp [s1, s2, i1, i2, i3, nD, nc, h1, s3, s4, s5, rv]
  rw [← List.map_reverse, s6]
  simp
abbrev txtSt (pc : P) (rs : Rules) (cs row : List Nat) (a b : Option P) : Rho := [some (eRs rs), some (pc), some (eT rs fP (lim rs (wC cs))), some (eR row), some (.lob 0), some (.lob 1), a, b]
structure TxtI (pc : P) (rs : Rules) (cs row : List Nat) (g : List Ob) (ρ : Rho) (s : Sto) (stack found : List Nat) : Prop where
  st : ∃ a b, ρ = txtSt pc rs cs row a b
  s : s = ⟨[.lst (stack.map eI), .lst (found.map eI)], g⟩
  lo : ∀ j ∈ stack, j < rs.length
  rd : rafter rs row found = some stack.reverse
  cst : wsum (cOf cs) found + cstT (lim rs (wC cs)) stack = cstT (lim rs (wC cs)) row
  len : found.length + lenT (lim rs (wC cs)) stack = lenT (lim rs (wC cs)) row
def lobLen (rs : Rules) (cs : List Nat) (s : Sto) : Nat := match s.l[1]? with
  | some (Ob.lst xs) => xs.length
  | _ => 0
theorem cheapest_text_eq (K : OkP m rs) (C : CsP pc cs) (hc : cs.length = m) {row : List Nat} (hr : ∀ j ∈ row, j < rs.length) (hL : lenT (lim rs (wC cs)) row ≤ 100000) (g : List Ob) :
    ∃ text, F_cheapest_text [eRs rs, pc, eT rs fP (lim rs (wC cs)), eR row] g = .ok (eR text) g ∧ rafter rs row text = some [] ∧ wsum (cOf cs) text = cstT (lim rs (wC cs)) row ∧ text.length = lenT (lim rs (wC cs)) row := by
  have hrl := len_le_lenT K hc hr
  have cnd : ∀ (stack found : List Nat) (a b : Option P), bnd (ev dp_cheapest_text.phi (.cmp .ne (.var 4) (.lst .val [])) (txtSt pc rs cs row a b)) truthM (⟨[.lst (stack.map eI), .lst (found.map eI)], g⟩ : Sto) = .ok (!stack.isEmpty) ⟨[.lst (stack.map eI), .lst (found.map eI)], g⟩ := fun stack found a b => by
    have := ne_lob (n := 0) (s := (⟨[.lst (stack.map eI), .lst (found.map eI)], g⟩ : Sto)) (xs := stack.map eI) rfl (isDs_map (fun _ => by simp [isD]) stack)
    simp [txtSt, this]
  obtain ⟨ρ', s', w1, ⟨stack, found, I⟩, w3⟩ := whileL_run (c := fun ρ' => bnd (ev dp_cheapest_text.phi (.cmp .ne (.var 4) (.lst .val [])) ρ') truthM) (b := fun ρ' => exs dp_cheapest_text.phi [.asg (.name 6) (.meth .pop (.var 4) []), .asg (.name 7) (.call "cheapest_rule" [.sub (.var 0) (.var 6), .var 1, .var 2, .sub (.var 2) (.var 6)] []), .expr (.meth .append (.var 5) [.var 7]), .expr (.meth .extend (.var 4) [.rev .val (.sub (.sub (.var 0) (.var 6)) (.var 7))])] ρ')
    (fun ρ s => ∃ stack found, TxtI pc rs cs row g ρ s stack found) (fun ρ s => lenT (lim rs (wC cs)) row - lobLen rs cs s) (fun ρ s ⟨stack, found, I⟩ => by
      obtain ⟨⟨a, b, rfl⟩, rfl, hlo, hrd, hcst, hlen⟩ := I
      refine ⟨_, cnd stack found a b, fun hk => ?_⟩
      have hne : stack ≠ [] := fun z => by rw [z] at hk; cases hk
      obtain ⟨xs, j, rfl⟩ : ∃ xs j, stack = xs ++ [j] := ⟨stack.dropLast, stack.getLast hne, (List.dropLast_concat_getLast hne).symm⟩
      have hj : j < rs.length := hlo j (by simp)
      have hxs : ∀ k ∈ xs, k < rs.length := fun k hk => hlo k (by simp [hk])
      have hlx := len_le_lenT K hc hxs
      rw [lenT_app, lenT_one] at hlen
      rw [cstT_app, cstT_one] at hcst
      obtain ⟨l, r, line, h1, h2, h3, h4, h5⟩ := text_turn K C hc row xs found j a b g hj (by omega) (by omega)
      have hrr := K.rule line (List.mem_of_getElem? h1) r (List.mem_of_getElem? h2)
      obtain ⟨e1, e2⟩ := lim_code K hc (l := l) hrr.1 h4
      rw [h3, e2] at hlen
      rw [h3, e1] at hcst
      refine ⟨_, _, .inl h5, ⟨xs ++ r.reverse, found ++ [l], ⟨_, _, rfl⟩, rfl, fun k hk => ?_, ?_, ?_, ?_⟩, ?_⟩
      · rcases List.mem_append.mp hk with z | z
        · exact hxs k z
        · exact hrr.2 k (List.mem_reverse.mp z)
      · rw [List.reverse_append, List.reverse_reverse]
        rw [List.reverse_append] at hrd
        exact rafter_snoc hrd (rstep_cons h1 h2)
      · rw [wsum_app, cstT_app, cstT_rev]
        have : wsum (cOf cs) [l] = cOf cs l := by simp [wsum]
        omega
      · rw [lenT_app, lenT_rev, List.length_append, List.length_singleton]
        omega
      · simp only [lobLen, List.getElem?_cons_succ, List.getElem?_cons_zero, List.length_map, List.length_append, List.length_singleton]
        omega) FUEL (txtSt pc rs cs row none none) ⟨[.lst (row.reverse.map eI), .lst ([].map eI)], g⟩
    ⟨row.reverse, [], ⟨_, _, rfl⟩, rfl, fun j hj => hr j (List.mem_reverse.mp hj), by rw [List.reverse_reverse]; rfl, by rw [cstT_rev]; simp [wsum], by rw [lenT_rev]; simp⟩ (by unfold FUEL; omega)
  obtain ⟨⟨a, b, rfl⟩, rfl, hlo, hrd, hcst, hlen⟩ := I
  have w3' : bnd (ev dp_cheapest_text.phi (.cmp .ne (.var 4) (.lst .val [])) (txtSt pc rs cs row a b)) truthM (⟨[.lst (stack.map eI), .lst (found.map eI)], g⟩ : Sto) = .ok false ⟨[.lst (stack.map eI), .lst (found.map eI)], g⟩ := w3
  rw [cnd] at w3'
  have hs : stack = [] := by
    cases stack with
    | nil => rfl
    | cons a l => simp at w3'
  subst hs
  refine ⟨found, ?_, hrd, by simpa [cstT] using hcst, by simpa [lenT] using hlen⟩
  have tp : pBi dp_cheapest_text.phi .val .tuple [.lob 1] (⟨[.lst [], .lst (found.map eI)], g⟩ : Sto) = .ok (.tup (found.map eI)) ⟨[.lst [], .lst (found.map eI)], g⟩ := tuple_lob (n := 1) rfl
  have rv : ∀ s : Sto, pRev .val (eR row) s = .ok (.tup (row.reverse.map eI)) s := fun s => by
    unfold eR pRev; dsimp only; rw [List.map_reverse]
  have lt : ∀ xs s, pBi dp_cheapest_text.phi .loc .list [.tup xs] s = .ok (.lob s.l.length) ⟨s.l ++ [.lst xs], s.g⟩ := fun xs s => rfl
  simp only [List.map_nil] at w1
  simp [F_cheapest_text, b_cheapest_text, run, rv, lt]
  rw [← List.map_reverse]
  simp only [txtSt] at w1
  rw [ex_whl, w1]
  simp [tp, eR]
end
end FW

end

section
set_option Elab.async false
set_option linter.all false
set_option maxRecDepth 100000
/-! Mp6: need_costs, least_cost, cost_paper. -/
namespace FW
open PySem L2
/-- a for over values that raises at one of them -/
theorem forVals_exn {α : Type} {step : P → Rho → M (Flow × Rho)} {e : α → P} (J : Rho → Sto → Prop) {a : α} {post : List α} {x : P} : ∀ {pre : List α} {ρ : Rho} {s : Sto}, J ρ s →
    (∀ b ∈ pre, ∀ ρ s, J ρ s → ∃ ρ' s', step (e b) ρ s = .ok (.next, ρ') s' ∧ J ρ' s') → (∀ ρ s, J ρ s → ∃ s', step (e a) ρ s = .exn x s' ∧ s' = s) → ∃ ρ1 s1, J ρ1 s1 ∧ forVals step ((pre ++ a :: post).map e) ρ s = .exn x s1
  | [], ρ, s, h, _, ha => by
    obtain ⟨s', h1, rfl⟩ := ha ρ s h
    refine ⟨ρ, s', h, ?_⟩
    rw [List.nil_append, List.map_cons, forVals, bnd_ap, h1, R.bind_exn]
  | b :: pre, ρ, s, h, hp, ha => by
    obtain ⟨ρ', s', h1, h2⟩ := hp b List.mem_cons_self ρ s h
    obtain ⟨ρ1, s1, h3, h4⟩ := forVals_exn J (post := post) h2 (fun c hc => hp c (List.mem_cons_of_mem _ hc)) ha
    refine ⟨ρ1, s1, h3, ?_⟩
    rw [List.cons_append, List.map_cons, forVals, bnd_ap, h1, R.bind_ok]
    exact h4
/-- a cost that may stand -/
def OkC (x : P) : Prop := noLob x = true ∧ ∀ g, F_is_between [x, .int 0, .int 1000] g = .ok (.bl true) g
def NoC (x : P) : Prop := noLob x = true ∧ ∀ g, F_is_between [x, .int 0, .int 1000] g = .ok (.bl false) g
theorem okC_nat {n : Nat} (h : n ≤ 1000) : OkC (eI n) := ⟨by simp, fun g => by rw [is_between_int]; simp; omega⟩
theorem noC_int {i : Int} (h : i < 0 ∨ 1000 < i) : NoC (.int i) := ⟨by simp, fun g => by rw [is_between_int]; simp; omega⟩
theorem noC_non : NoC .non := ⟨by simp, fun g => is_between_non _ _ g⟩
theorem noC_bl {b : Bool} : NoC (.bl b) := ⟨by simp, fun g => is_between_bl b _ _ g⟩
section
variable {m : Nat} {rs : Rules} {row : List Nat}
abbrev ncBody : List St := [.ifs (.not (.call "is_between" [(.var 4), (.int 0), (.con "MOST_COST" (.int 1000))] [])) [.raise "BadCosts" [(.var 3)]] []]
abbrev ncStep : P → Rho → M (Flow × Rho) := fun x ρ' => bnd (ofO (asgT (.tup [.name 3, .name 4]) x ρ')) fun ρ2 => exs dp_need_costs.phi ncBody ρ2
/-- a row that may stand -/
structure OkR (rs : Rules) (row : List Nat) : Prop where
  len : row.length ≤ 12
  lt : ∀ j ∈ row, j < rs.length
theorem nc_ok {pc q r : P} {x : P} {i : Nat} {a b : Option P} {s : Sto} (h : OkC x) : ncStep (.tup [eI i, x]) [some q, some r, some pc, a, b] s = .ok (.next, [some q, some r, some pc, some (eI i), some x]) s := by
  simp [h.1, h.2]
theorem nc_no {pc q r : P} {x : P} {i : Nat} {a b : Option P} {s : Sto} (h : NoC x) : ncStep (.tup [eI i, x]) [some q, some r, some pc, a, b] s = .exn (.exc "BadCosts" [("index", eI i)]) s := by
  simp [h.1, h.2, rsO_eq]
/-- its shape -/
theorem nc_len {pc : P} {xs : List P} (h : pc = .lst xs ∨ pc = .tup xs) {s : Sto} {Φ : Fenv} {a : Al} : pBi Φ a .len [pc] s = .ok (eI xs.length) s := by
  rcases h with rfl | rfl <;> simp
theorem nc_enum {pc : P} {xs : List P} (h : pc = .lst xs ∨ pc = .tup xs) {s : Sto} : enumOf pc s = .ok (.vals (enumP xs)) s := by
  rcases h with rfl | rfl <;> simp
theorem enumP_id {xs : List P} : enumP xs = xs.zipIdx.map fun p => .tup [eI p.2, p.1] := by
  have := enumP_map (e := id) (xs := xs)
  simpa using this
theorem need_costs_ok {pc : P} {xs : List P} (h : pc = .lst xs ∨ pc = .tup xs) (hn : noLobs xs = true) (hl : xs.length = m) (hx : ∀ x ∈ xs, OkC x) (R : OkR rs row) (g : List Ob) : F_need_costs [ePg m rs, eR row, pc] g = .ok .non g := by
  have npc : noLob pc = true := by rcases h with rfl | rfl <;> simpa using hn
  have il : ∀ g, F_is_list [pc] g = .ok (.bl true) g := fun g => by rcases h with rfl | rfl; exact is_list_lst xs hn g; exact is_list_tup xs g
  obtain ⟨ρ', s', h1, ⟨a, b, h2⟩, h3⟩ := forVals_all (α := P × Nat) (e := fun p => .tup [eI p.2, p.1]) (as := xs.zipIdx) (step := ncStep) (fun _ ρ s => (∃ a b, ρ = [some (ePg m rs), some (eR row), some pc, a, b]) ∧ s = (⟨[], g⟩ : Sto)) (ρ := [some (ePg m rs), some (eR row), some pc, none, none]) (s := ⟨[], g⟩) ⟨⟨_, _, rfl⟩, rfl⟩ (fun p1 q p2 ρ s he ⟨⟨a, b, e1⟩, e2⟩ => by
      subst e1 e2
      have hq : q ∈ xs.zipIdx := by rw [he]; simp
      have hm : q.1 ∈ xs := by
        have := List.mk_mem_zipIdx_iff_getElem?.mp (show (q.1, q.2) ∈ xs.zipIdx from hq)
        exact List.mem_of_getElem? (i := q.2) (by simpa using this)
      exact ⟨_, _, .inl (nc_ok (hx _ hm)), ⟨_, _, rfl⟩, rfl⟩)
  subst h2 h3
  simp [F_need_costs, b_need_costs, run, need_program_eq, need_row_eq R.len R.lt, npc, il, nc_len h, attr_letters, hl]
  rw [ex_for (xs := xs.zipIdx.map fun p => .tup [eI p.2, p.1]) (s1 := ⟨[], g⟩) (by simp [nc_enum h, enumP_id]), h1]
  simp
theorem need_costs_at {pc : P} {xs ys : List P} {x : P} (h : pc = .lst (xs ++ x :: ys) ∨ pc = .tup (xs ++ x :: ys)) (hn : noLobs (xs ++ x :: ys) = true) (hl : (xs ++ x :: ys).length = m) (hx : ∀ x ∈ xs, OkC x) (hno : NoC x) (R : OkR rs row) (g : List Ob) :
    F_need_costs [ePg m rs, eR row, pc] g = .exn (.exc "BadCosts" [("index", eI xs.length)]) g := by
  have npc : noLob pc = true := by rcases h with rfl | rfl <;> simpa using hn
  have il : ∀ g, F_is_list [pc] g = .ok (.bl true) g := fun g => by rcases h with rfl | rfl; exact is_list_lst _ hn g; exact is_list_tup _ g
  have ez : (xs ++ x :: ys).zipIdx = xs.zipIdx ++ (x, xs.length) :: ys.zipIdx (xs.length + 1) := by
    rw [List.zipIdx_append, List.zipIdx_cons]; simp
  obtain ⟨ρ1, s1, ⟨_, h2⟩, h3⟩ := forVals_exn (α := P × Nat) (e := fun p => .tup [eI p.2, p.1]) (pre := xs.zipIdx) (a := (x, xs.length)) (post := ys.zipIdx (xs.length + 1)) (step := ncStep) (x := .exc "BadCosts" [("index", eI xs.length)]) (fun ρ s => (∃ a b, ρ = [some (ePg m rs), some (eR row), some pc, a, b]) ∧ s = (⟨[], g⟩ : Sto)) (ρ := [some (ePg m rs), some (eR row), some pc, none, none]) (s := ⟨[], g⟩) ⟨⟨_, _, rfl⟩, rfl⟩ (fun q hq ρ s ⟨⟨a, b, e1⟩, e2⟩ => by
      subst e1 e2
      have hm : q.1 ∈ xs := by
        have := List.mk_mem_zipIdx_iff_getElem?.mp (show (q.1, q.2) ∈ xs.zipIdx from hq)
        exact List.mem_of_getElem? (i := q.2) (by simpa using this)
      exact ⟨_, _, nc_ok (hx _ hm), ⟨_, _, rfl⟩, rfl⟩) (fun ρ s ⟨⟨a, b, e1⟩, e2⟩ => by
      subst e1 e2
      exact ⟨_, nc_no hno, rfl⟩)
  subst h2
  rw [← ez] at h3
  simp [F_need_costs, b_need_costs, run, need_program_eq, need_row_eq R.len R.lt, npc, il, nc_len h, attr_letters]
  rw [if_pos (by have := hl; simp at this; omega)]
  simp
  rw [ex_for (xs := (xs ++ x :: ys).zipIdx.map fun p => .tup [eI p.2, p.1]) (s1 := ⟨[], g⟩) (by simp [nc_enum h, enumP_id]), h3]
  simp
theorem need_costs_len {pc : P} {xs : List P} (h : pc = .lst xs ∨ pc = .tup xs) (hn : noLobs xs = true) (hl : xs.length ≠ m) (R : OkR rs row) (g : List Ob) : F_need_costs [ePg m rs, eR row, pc] g = .exn (.exc "BadCosts" [("index", .non)]) g := by
  have npc : noLob pc = true := by rcases h with rfl | rfl <;> simpa using hn
  have il : ∀ g, F_is_list [pc] g = .ok (.bl true) g := fun g => by rcases h with rfl | rfl; exact is_list_lst xs hn g; exact is_list_tup xs g
  simp [F_need_costs, b_need_costs, run, need_program_eq, need_row_eq R.len R.lt, npc, il, nc_len h, attr_letters, rsO_eq]
  rw [if_neg (by omega)]
  simp
theorem need_costs_no {pc : P} (hn : noLob pc = true) (h : ∀ g, F_is_list [pc] g = .ok (.bl false) g) (R : OkR rs row) (g : List Ob) : F_need_costs [ePg m rs, eR row, pc] g = .exn (.exc "BadCosts" [("index", .non)]) g := by
  simp [F_need_costs, b_need_costs, run, need_program_eq, need_row_eq R.len R.lt, hn, h, rsO_eq]
theorem need_costs_row {row : List Nat} (h : row.length ≤ 1000) (hr : ((row.all fun j => decide (j < rs.length)) && decide (row.length ≤ 12)) = false) {pc : P} (hn : noLob pc = true) (g : List Ob) : F_need_costs [ePg m rs, eR row, pc] g = .exn (.exc "BadRow" [("part", .non)]) g := by
  simp [F_need_costs, b_need_costs, run, need_program_eq, need_row_bad h hr, hn]
theorem need_costs_prog {q r pc : P} (hq : q = .non ∨ ∃ i, q = .int i) (h1 : noLob r = true) (h2 : noLob pc = true) (g : List Ob) : F_need_costs [q, r, pc] g = .exn (.exc "NoProgram" [("part", .non)]) g := by
  rcases hq with rfl | ⟨i, rfl⟩
  · simp [F_need_costs, b_need_costs, run, need_program_non, h1, h2]
  · simp [F_need_costs, b_need_costs, run, need_program_int, h1, h2]
structure OkCs (m : Nat) (cs : List Nat) (pc : P) : Prop where
  len : cs.length = m
  le : ∀ c ∈ cs, c ≤ 1000
  sh : pc = eCs cs ∨ pc = eR cs
variable {cs : List Nat} {pc : P}
theorem OkCs.csP (h : OkCs m cs pc) : CsP pc cs := by
  rcases h.sh with e | e <;> rw [e]
  · exact csP_lst
  · exact csP_tup
theorem OkCs.need (h : OkCs m cs pc) (R : OkR rs row) (g : List Ob) : F_need_costs [ePg m rs, eR row, pc] g = .ok .non g :=
  need_costs_ok (xs := cs.map eI) h.sh (by simp) (by rw [List.length_map]; exact h.len) (fun x hx => by
    obtain ⟨c, hc, rfl⟩ := List.mem_map.mp hx
    exact okC_nat (h.le c hc)) R g
abbrev DD (rs : Rules) (cs : List Nat) : Tab := lim rs (wC cs)
theorem sub_lim (K : OkP m rs) {f : Nat → P} {j : Nat} (hj : j < rs.length) (s : Sto) : pIdx (eT rs f (DD rs cs)) (eI j) s = .ok (f ((DD rs cs j).getD 0)) s := by
  obtain ⟨v, hv⟩ := lim_some (w := wC cs) K.live hj
  rw [show DD rs cs j = some v from hv]
  exact sub_table (k := rs.length) hv
theorem least_cost_eq (K : OkP m rs) (C : OkCs m cs pc) (R : OkR rs row) (g : List Ob) : F_least_cost [ePg m rs, eR row, pc] g = .ok (eI (cstT (DD rs cs) row)) g := by
  have npc := C.csP.n
  have hr := R.len
  simp [F_least_cost, b_least_cost, run, npc, C.need R, attr_rules, least_pairs_eq K C.csP C.len]
  rw [ev_comp' row eI (fun j => .int ((qB ((DD rs cs j).getD 0) : Nat) : Int)) (by simp [eR]) (fun j hj => ⟨_, rfl, ?_⟩) (le_line (by omega))]
  · simp [pBi_sum, ints_nat, cstT]
  · have := sub_lim (cs := cs) K (f := fP) (R.lt j hj)
    simp [this]
    unfold fP eP2
    simp
theorem kvR_all {f : Nat → P} {T : Tab} (h : ∀ i, i < rs.length → (T i).isSome = true) : kvR rs f T = rs.zipIdx.map fun p => (kI p.2, f ((T p.2).getD 0)) := by
  unfold kvR
  rw [← List.filterMap_eq_map]
  refine filterMap_congr' fun p hp => ?_
  have hlt := (List.getElem?_eq_some_iff.mp (mem_rules hp)).1
  obtain ⟨v, hv⟩ := Option.isSome_iff_exists.mp (h p.2 hlt)
  simp [hv]
theorem norm_by_tab (K : OkP m rs) {f : Nat → Nat} (R : OkR rs row) (g : List Ob) : F_norm_by [eT rs (fun v => eI (f v)) (DD rs cs), eR row] g = .ok (eI (row.map fun j => f ((DD rs cs j).getD 0)).sum) g := by
  have hr := R.len
  simp [F_norm_by, b_norm_by, run]
  rw [ev_comp' row eI (fun j => .int ((f ((DD rs cs j).getD 0) : Nat) : Int)) (by simp [eR]) (fun j hj => ⟨_, rfl, ?_⟩) (le_line (by omega))]
  · simp [pBi_sum, ints_nat]
  · have := sub_lim (cs := cs) K (f := fun v => eI (f v)) (R.lt j hj)
    simp [this]
theorem need_short_eq (K : OkP m rs) (R : OkR rs row) (g : List Ob) : F_need_short [eT rs fP (DD rs cs), eR row] g = if lenT (DD rs cs) row ≤ 20000 then .ok .non g else .exn (.exc "TooMany" [("most", .int 20000)]) g := by
  have hn := K.n12
  have hall : ∀ i, i < rs.length → ((DD rs cs) i).isSome = true := fun i hi => by
    obtain ⟨v, hv⟩ := lim_some (w := wC cs) K.live hi
    rw [show DD rs cs i = some v from hv]; rfl
  have hk : ∀ s : Sto, keysOf (eT rs fP (DD rs cs)) s = .ok (.vals (rs.zipIdx.map fun p => eI p.2)) s := fun s => by
    unfold eT
    rw [kvR_all hall]
    simp [keyP, keyK']
  have e1 : ∀ s : Sto, ev dp_need_short.phi (.dcomp .val false (.var 2) (.sub (.sub (.var 0) (.var 2)) (.int 1)) (.name 2) (.keys 0) [] [2]) [some (eT rs fP (DD rs cs)), some (eR row), none] s = .ok (eT rs (fun v => eI (rB v)) (DD rs cs)) s := fun s => by
    rw [ev_dcomp rs.zipIdx (fun p => eI p.2) (fun _ => true) (fun p => kI p.2) (fun p => eI (rB ((DD rs cs p.2).getD 0))) (by simp [hk]) (fun p hp => ⟨_, rfl, by simp, fun _ => ⟨eI p.2, by simp, rfl, rfl, ?_⟩⟩) nodup_kI (le_line (by simp; omega))]
    · unfold eT
      rw [kvR_all hall, List.filter_eq_self.mpr (fun _ _ => rfl)]
    · have := sub_lim (cs := cs) K (f := fP) (List.getElem?_eq_some_iff.mp (mem_rules hp)).1
      simp [this]
      unfold fP eP2
      simp
  have e2 := fun g => norm_by_tab (cs := cs) K (f := rB) R g
  have e3 : (row.map fun j => rB ((DD rs cs j).getD 0)).sum = lenT (DD rs cs) row := rfl
  rw [e3] at e2
  have nn : noLob (eT rs (fun v => eI (rB v)) (DD rs cs)) = true := noLob_eT fun _ => noLob_int
  simp [F_need_short, b_need_short, run, e1, e2, nn]
  by_cases h : lenT (DD rs cs) row ≤ 20000
  · rw [if_neg (by omega), if_pos h]; simp
  · rw [if_pos (by omega), if_neg h]; simp [rsO_eq]
theorem cost_paper_eq (K : OkP m rs) (C : OkCs m cs pc) (R : OkR rs row) (hL : lenT (DD rs cs) row ≤ 20000) (g : List Ob) :
    ∃ text, F_cost_paper [ePg m rs, eR row, pc] g = .ok (.tup [eI (cstT (DD rs cs) row), eR text, eR ((List.range rs.length).map fun i => qB ((DD rs cs i).getD 0))]) g ∧ rafter rs row text = some [] ∧ wsum (cOf cs) text = cstT (DD rs cs) row ∧ text.length = lenT (DD rs cs) row := by
  obtain ⟨text, h1, h2, h3, h4⟩ := cheapest_text_eq K C.csP C.len R.lt (show lenT (lim rs (wC cs)) row ≤ 100000 from Nat.le_trans hL (by decide)) g
  refine ⟨text, ?_, h2, h3, h4⟩
  have npc := C.csP.n
  have hr := R.len
  have hn := K.n12
  have nD : noLob (eT rs fP (lim rs (wC cs))) = true := noLob_eT fun _ => noLob_fP
  have ns := need_short_eq (cs := cs) K R
  simp only [if_pos hL] at ns
  simp [F_cost_paper, b_cost_paper, run, npc, C.need R, attr_rules, least_pairs_eq K C.csP C.len, nD, ns]
  rw [ev_comp' (List.range rs.length) eI (fun i => eI (qB ((DD rs cs i).getD 0))) ?_ (fun i hi => ⟨_, rfl, ?_⟩) (le_line (by simp; omega))]
  · simp [nD]
    rw [ev_comp' row eI (fun j => .int ((qB ((DD rs cs j).getD 0) : Nat) : Int)) (by simp [eR]) (fun j hj => ⟨_, rfl, ?_⟩) (le_line (by omega))]
    · simp [pBi_sum, ints_nat, attr_rules, nD, npc, h1, cstT]
      simp [eR]
    · simp
      rw [pIdx_tup (p := eI (qB ((DD rs cs j).getD 0)))]
      simp [R.lt j hj]
  · simp [attr_rules, eRs, r1P_nat (show rs.length < 2 ^ 62 by omega)]
  · have := sub_lim (cs := cs) K (f := fP) (List.mem_range.mp hi)
    simp [this]
    unfold fP eP2
    simp
theorem cost_paper_long (K : OkP m rs) (C : OkCs m cs pc) (R : OkR rs row) (hL : ¬ lenT (DD rs cs) row ≤ 20000) (g : List Ob) : F_cost_paper [ePg m rs, eR row, pc] g = .exn (.exc "TooMany" [("most", .int 20000)]) g := by
  have npc := C.csP.n
  have nD : noLob (eT rs fP (lim rs (wC cs))) = true := noLob_eT fun _ => noLob_fP
  have ns := need_short_eq (cs := cs) K R
  simp only [if_neg hL] at ns
  simp [F_cost_paper, b_cost_paper, run, npc, C.need R, attr_rules, least_pairs_eq K C.csP C.len, nD, ns]
end
end FW

end

section
set_option Elab.async false
set_option linter.all false
set_option maxRecDepth 100000
/-! Mp7: the tape. -/
namespace FW
open PySem L2
def GT (large cells : List Int) (rest turn : Int) (junk : List Ob) : List Ob := .lst (large.map P.int) :: .dct false [(.k (.inr "large"), .gob 0), (.k (.inr "rest"), .int rest), (.k (.inr "cells"), .lst (cells.map P.int)), (.k (.inr "turn"), .int turn)] :: junk
section
variable {l : List Ob} {large cells : List Int} {rest turn i : Int} {junk : List Ob} {s : Sto}
theorem s_lr : ¬ Str.ofString "large" = Str.ofString "rest" := by decide
theorem s_cr : ¬ Str.ofString "cells" = Str.ofString "rest" := by decide
theorem s_tr : ¬ Str.ofString "turn" = Str.ofString "rest" := by decide
theorem s_lt : ¬ Str.ofString "large" = Str.ofString "turn" := by decide
theorem s_ct : ¬ Str.ofString "cells" = Str.ofString "turn" := by decide
theorem s_rt : ¬ Str.ofString "rest" = Str.ofString "turn" := by decide
theorem idx_rest : pIdx (.gob 1) (.str "rest") ⟨l, GT large cells rest turn junk⟩ = .ok (.int rest) ⟨l, GT large cells rest turn junk⟩ := (rfl)
theorem idx_turn : pIdx (.gob 1) (.str "turn") ⟨l, GT large cells rest turn junk⟩ = .ok (.int turn) ⟨l, GT large cells rest turn junk⟩ := (rfl)
theorem idx_large : pIdx (.gob 1) (.str "large") ⟨l, GT large cells rest turn junk⟩ = .ok (.gob 0) ⟨l, GT large cells rest turn junk⟩ := (rfl)
theorem idx_cells : pIdx (.gob 1) (.str "cells") ⟨l, GT large cells rest turn junk⟩ = .ok (.lst (cells.map P.int)) ⟨l, GT large cells rest turn junk⟩ := (rfl)
theorem set_rest : pSet (.gob 1) (.str "rest") (.int i) ⟨l, GT large cells rest turn junk⟩ = .ok () ⟨l, GT large cells i turn junk⟩ := by
  unfold pSet GT setOb
  simp [listOf, dctOf, Ob.noLob, Ob.ps, put, s_lr, s_cr, s_tr]
theorem set_turn : pSet (.gob 1) (.str "turn") (.int i) ⟨l, GT large cells rest turn junk⟩ = .ok () ⟨l, GT large cells rest i junk⟩ := by
  unfold pSet GT setOb
  simp [listOf, dctOf, Ob.noLob, Ob.ps, put, s_lt, s_ct, s_rt]
theorem ne_large : pCmp .ne (.gob 0) (.lst []) ⟨l, GT large cells rest turn junk⟩ = .ok (!large.isEmpty) ⟨l, GT large cells rest turn junk⟩ := by
  have h : listOf ⟨l, GT large cells rest turn junk⟩ (.gob 0) = some (large.map P.int) := rfl
  show bnd (deepEq (.gob 0) (.lst [])) (fun c => ret !c) _ = _
  rw [bnd_ap, deep_lob (xs := large.map P.int) (fun f => by rw [toD]) h (isDs_map (fun _ => by simp [isD]) large) (by simp [isD, isDs])]
  simp [peq, peqs_nil]
theorem pop_large : pMt .pop (.gob 0) [.int 0] ⟨l, GT (i :: large) cells rest turn junk⟩ = .ok (.int i) ⟨l, GT large cells rest turn junk⟩ := by
  unfold pMt pPop GT setOb
  simp [listOf, Ob.noLob, Ob.ps, seqIndex?]
theorem isLst_large : isLst (.gob 0) ⟨l, GT large cells rest turn junk⟩ = .ok () ⟨l, GT large cells rest turn junk⟩ := (rfl)
theorem pBin_mod {r : Al} {i j : Int} (h : j ≠ 0) : pBin r .mod (.int i) (.int j) s = .ok (.int (i.fmod j)) s := by
  unfold pBin pMod; dsimp only; rw [if_pos (decide_eq_true h)]
theorem pBin_fdiv {r : Al} {i j : Int} (h : j ≠ 0) (h2 : j.natAbs < 1073741824) : pBin r .fdiv (.int i) (.int j) s = .ok (.int (i.fdiv j)) s := by
  unfold pBin pFdiv; dsimp only; rw [decide_eq_true h, decide_eq_true h2]; rfl
theorem pBin_pow {r : Al} {i j : Int} (h0 : 0 ≤ j) (h : j ≤ 1000000) (h2 : i.natAbs < 2 ^ 64) : pBin r .pow (.int i) (.int j) s = .ok (.int (i ^ j.toNat)) s := by
  unfold pBin pPow; dsimp only; rw [decide_eq_true h0, decide_eq_true h, decide_eq_true h2]; rfl
theorem blend_eq : ∃ b turn', F_law_blend [.gob 1] (GT large cells rest turn junk) = .ok (.int b) (GT large cells rest turn' junk) := by
  have inner : ∀ (gr t f b : Int) (x : Option P), 0 < gr → 0 ≤ b → b < gr → ∃ b' x', 0 ≤ b' ∧ b' < gr ∧ ex dp_law_blend.phi (.for_ (.name 5) (.seq (.sub (.var 0) (.str "cells"))) [.asg (.name 4) (.bin .val .mod (.bin .val .add (.bin .val .mul (.var 4) (.int 48271)) (.bi .val .int [(.var 5)])) (.var 1))]) [some (.gob 1), some (.int gr), some (.int t), some (.int f), some (.int b), x] ⟨[], GT large cells rest (turn + 1) junk⟩ = .ok (.next, [some (.gob 1), some (.int gr), some (.int t), some (.int f), some (.int b'), x']) ⟨[], GT large cells rest (turn + 1) junk⟩ := by
    intro gr t f b x hg h0 hb
    obtain ⟨ρ', s', h1, ⟨b', x', e, g0, g1⟩, h3⟩ := forVals_all (α := Int) (e := P.int) (as := cells) (step := fun x ρ' => bnd (ofO (asgT (.name 5) x ρ')) fun ρ2 => exs dp_law_blend.phi [.asg (.name 4) (.bin .val .mod (.bin .val .add (.bin .val .mul (.var 4) (.int 48271)) (.bi .val .int [(.var 5)])) (.var 1))] ρ2)
      (fun _ ρ s => (∃ b x, ρ = [some (.gob 1), some (.int gr), some (.int t), some (.int f), some (.int b), x] ∧ 0 ≤ b ∧ b < gr) ∧ s = (⟨[], GT large cells rest (turn + 1) junk⟩ : Sto)) (ρ := [some (.gob 1), some (.int gr), some (.int t), some (.int f), some (.int b), x]) (s := ⟨[], GT large cells rest (turn + 1) junk⟩) ⟨⟨b, x, rfl, h0, hb⟩, rfl⟩ (fun p1 c p2 ρ s _ ⟨⟨b, x, e, g0, g1⟩, e2⟩ => by
        subst e e2
        refine ⟨_, _, .inl ?_, ⟨_, some (.int c), rfl, Int.fmod_nonneg_of_pos (b * 48271 + c) hg, Int.fmod_lt_of_pos (b * 48271 + c) hg⟩, rfl⟩
        simp
        rw [pBin_mul_int (by simp [small64])]
        simp
        rw [pBin_mod (by omega)]
        simp)
    subst e h3
    refine ⟨b', x', g0, g1, ?_⟩
    rw [ex_for (xs := cells.map P.int) (s1 := ⟨[], GT large cells rest (turn + 1) junk⟩) (by simp [idx_cells]), h1]
  obtain ⟨ρ', s', h1, ⟨y, f, b, x, e⟩, h3⟩ := forVals_all (α := Int) (e := P.int) (as := [2147483629, 2147483587, 2147483579]) (step := fun x ρ' => bnd (ofO (asgT (.name 1) x ρ')) fun ρ2 => exs dp_law_blend.phi [.asg (.name 4) (.bin .val .mod (.bin .val .add (.bin .val .mul (.var 2) (.int 69621)) (.bin .val .fdiv (.var 1) (.int 7))) (.var 1)),
  .for_ (.name 5) (.seq (.sub (.var 0) (.str "cells"))) [.asg (.name 4) (.bin .val .mod (.bin .val .add (.bin .val .mul (.var 4) (.int 48271)) (.bi .val .int [(.var 5)])) (.var 1))],
  .asg (.name 3) (.bin .val .add (.bin .val .mul (.var 3) (.int 2147483647)) (.bin .val .mod (.bin .val .pow (.var 4) (.int 5)) (.var 1)))] ρ2)
      (fun _ ρ s => (∃ y f b x, ρ = [some (.gob 1), y, some (.int (turn + 1)), some (.int f), b, x]) ∧ s = (⟨[], GT large cells rest (turn + 1) junk⟩ : Sto)) (ρ := [some (.gob 1), none, some (.int (turn + 1)), some (.int 0), none, none]) (s := ⟨[], GT large cells rest (turn + 1) junk⟩) ⟨⟨_, _, _, _, rfl⟩, rfl⟩ (fun p1 gr p2 ρ s hm ⟨⟨y, f, b, x, e⟩, e2⟩ => by
        subst e e2
        have hgr : gr = 2147483629 ∨ gr = 2147483587 ∨ gr = 2147483579 := by
          have : gr ∈ [2147483629, 2147483587, 2147483579] := by rw [hm]; simp
          simpa using this
        have hg : 0 < gr := by omega
        obtain ⟨b', x', g0, g1, g2⟩ := inner gr (turn + 1) f (((turn + 1) * 69621 + gr.fdiv 7).fmod gr) x hg (Int.fmod_nonneg_of_pos _ hg) (Int.fmod_lt_of_pos _ hg)
        refine ⟨_, _, .inl ?_, ⟨some (.int gr), f * 2147483647 + (b' ^ 5).fmod gr, some (.int b'), x', rfl⟩, rfl⟩
        simp
        rw [pBin_mul_int (by simp [small64])]
        simp
        rw [pBin_fdiv (by decide) (by decide)]
        simp
        rw [pBin_mod (by omega)]
        simp [g2]
        rw [pBin_mul_int (by simp [small64])]
        simp
        rw [pBin_pow (by decide) (by decide) (by omega)]
        simp
        rw [pBin_mod (by omega)]
        simp)
  subst e h3
  refine ⟨f, turn + 1, ?_⟩
  simp [F_law_blend, b_law_blend, run, idx_turn, set_turn]
  rw [ex_for (xs := [2147483629, 2147483587, 2147483579].map P.int) (s1 := ⟨[], GT large cells rest (turn + 1) junk⟩) (by simp), h1]
  simp
/-- a store that holds the tape first -/
def Tp (junk : List Ob) (g : List Ob) : Prop := ∃ large cells rest turn, g = GT large cells rest turn junk
theorem draw_eq {g : List Ob} (T : Tp junk g) {n : Nat} (h0 : 0 < n) (h1 : n ≤ 1000) : ∃ d g', d < n ∧ Tp junk g' ∧ F_law_draw [.gob 1, eI n] g = .ok (eI d) g' := by
  obtain ⟨large, cells, rest, turn, rfl⟩ := T
  have fin : ∀ (large : List Int) (rest turn : Int), ∃ d g', d < n ∧ Tp junk g' ∧ exs dp_law_draw.phi [.asg (.name 2) (.bin .val .mod (.bi .val .int [(.sub (.var 0) (.str "rest"))]) (.var 1)),
  .asub (.var 0) (.str "rest") (.bin .val .fdiv (.bi .val .int [(.sub (.var 0) (.str "rest"))]) (.var 1)),
  .ret (.var 2)] [some (.gob 1), some (eI n), none] ⟨[], GT large cells rest turn junk⟩ = .ok (.ret (eI d), [some (.gob 1), some (eI n), some (eI d)]) ⟨[], g'⟩ := by
    intro large rest turn
    have a0 := Int.fmod_nonneg_of_pos rest (show (0 : Int) < n by omega)
    have a1 := Int.fmod_lt_of_pos rest (show (0 : Int) < n by omega)
    refine ⟨(rest.fmod n).toNat, GT large cells (rest.fdiv n) turn junk, by omega, ⟨_, _, _, _, rfl⟩, ?_⟩
    simp [idx_rest]
    rw [pBin_mod (by omega)]
    simp [idx_rest]
    rw [pBin_fdiv (by omega) (by omega)]
    simp [set_rest]
    omega
  by_cases hr : rest = 0
  · subst hr
    cases large with
    | nil =>
      obtain ⟨b, turn', hb⟩ := blend_eq (large := []) (cells := cells) (rest := 0) (turn := turn) (junk := junk)
      obtain ⟨d, g', q1, q2, q3⟩ := fin [] b turn'
      refine ⟨d, g', q1, q2, ?_⟩
      simp [idx_rest] at q3
      simp [F_law_draw, b_law_draw, run, idx_rest, idx_large, ne_large, hb, set_rest]
      rw [q3]; simp
    | cons i large =>
      obtain ⟨d, g', q1, q2, q3⟩ := fin large i turn
      refine ⟨d, g', q1, q2, ?_⟩
      simp [idx_rest] at q3
      simp [F_law_draw, b_law_draw, run, idx_rest, idx_large, ne_large, isLst_large, pop_large, set_rest]
      rw [q3]; simp
  · obtain ⟨d, g', q1, q2, q3⟩ := fin large rest turn
    refine ⟨d, g', q1, q2, ?_⟩
    simp [idx_rest] at q3
    simp [F_law_draw, b_law_draw, run, idx_rest, hr]
    rw [q3]; simp
end
end FW

end

section
set_option Elab.async false
set_option linter.all false
set_option maxRecDepth 100000
/-! Mp8: draws in comprehensions, loops over what stands in the store. -/
namespace FW
open PySem L2
section
variable {Φ : Fenv} {ρ : Rho} {α β σ : Type}
@[simp] theorem quiet_ap {γ : Type} {m : M γ} {s s' : Sto} {a : γ} (h : m s = .ok a s') : quiet m s = .ok a s' := by unfold quiet; rw [h]
theorem colVals_S {step : P → List P → M (List P)} {e : α → P} {f : β → P} {Q : β → Prop} {J : Sto → Prop} {top : Nat} : ∀ {as : List α} {bs : List β} {s : Sto}, J s → (∀ a ∈ as, ∀ (bs : List β) s, J s → bs.length < top → ∃ b s', step (e a) (bs.map f) s = .ok ((bs ++ [b]).map f) s' ∧ Q b ∧ J s') → bs.length + as.length ≤ top → (∀ b ∈ bs, Q b) →
    ∃ (cs : List β) (s' : Sto), colVals step (as.map e) (bs.map f) s = .ok (cs.map f) s' ∧ cs.length = bs.length + as.length ∧ (∀ b ∈ cs, Q b) ∧ J s'
  | [], bs, s, h, _, _, hq => ⟨bs, s, by rw [List.map_nil, colVals]; rfl, by simp, hq, h⟩
  | a :: as, bs, s, h, hs, hl, hq => by
    rw [List.length_cons] at hl
    obtain ⟨b, s', h1, h2, h3⟩ := hs a List.mem_cons_self bs s h (by omega)
    obtain ⟨cs, s2, g1, g2, g3, g4⟩ := colVals_S (step := step) (e := e) (f := f) (Q := Q) (J := J) (top := top) (as := as) (bs := bs ++ [b]) h3 (fun a ha => hs a (List.mem_cons_of_mem _ ha)) (by rw [List.length_append, List.length_singleton]; omega) (fun c hc => by
      rcases List.mem_append.mp hc with z | z
      · exact hq c z
      · rw [List.mem_singleton.mp z]; exact h2)
    refine ⟨cs, s2, ?_, by rw [g2, List.length_append, List.length_singleton, List.length_cons]; omega, g3, g4⟩
    rw [List.map_cons, colVals, bnd_ap, h1, R.bind_ok, g1]
/-- a comprehension that draws -/
theorem ev_compS {elt : E} {tg : T} {it : I} {own : List Nat} (as : List α) (e : α → P) (f : β → P) (Q : β → Prop) (J : Sto → Prop) {s0 s : Sto} (hit : evI Φ it ρ s0 = .ok (.vals (as.map e)) s) (hJ : J s)
    (hst : ∀ a ∈ as, ∀ s, J s → ∃ ρ' b s', asgT tg (e a) (wipeR ρ own) = some ρ' ∧ ev Φ elt ρ' s = .ok (f b) s' ∧ Q b ∧ J s') (hl : as.length ≤ line) :
    ∃ (bs : List β) (s' : Sto), ev Φ (.comp .val elt tg it [] own) ρ s0 = .ok (.lst (bs.map f)) s' ∧ bs.length = as.length ∧ (∀ b ∈ bs, Q b) ∧ J s' := by
  obtain ⟨cs, s', h1, h2, h3, h4⟩ := colVals_S (step := fun x acc => bnd (ofO (asgT tg x (wipeR ρ own))) fun ρ' => bnd (quiet (evIfs Φ [] ρ')) fun c => if c then bnd (quiet (ev Φ elt ρ')) fun p => if acc.length < FW.line then ret (acc ++ [p]) else bad else ret acc) (e := e) (f := f) (Q := Q) (J := J) (top := FW.line) (as := as) (bs := []) hJ (fun a ha bs s hs hb => by
    obtain ⟨ρ', b, s', g1, g2, g3, g4⟩ := hst a ha s hs
    refine ⟨b, s', ?_, g3, g4⟩
    rw [bnd_ap, g1, ofO_ap, R.bind_ok, bnd_ap, quiet_ap (a := true) (s' := s) (by simp), R.bind_ok, if_pos rfl, bnd_ap, quiet_ap g2, R.bind_ok, if_pos (by rw [List.length_map]; exact hb)]
    simp) (by simpa using hl) (fun _ z => by cases z)
  refine ⟨cs, s', ?_, by simpa using h2, h3, h4⟩
  rw [ev, bnd_ap, hit, R.bind_ok]
  show bnd (colVals _ (as.map e) []) _ s = _
  rw [List.map_nil] at h1
  rw [bnd_ap, h1]; rfl
/-! ### over a list that stands -/
theorem colRef_comp {p : P} {step : P → List P → M (List P)} {e : α → P} {c : α → Bool} {f : α → P} {as : List α} {s : Sto} (hlist : listOf s p = some (as.map e)) (h : ∀ a ∈ as, ∀ acc : List P, acc.length < FW.line → step (e a) acc s = .ok (if c a = true then acc ++ [f a] else acc) s) :
    ∀ (n k : Nat) (acc : List P), acc.length + (as.length - k) ≤ FW.line → as.length - k < n → colRef p (fun _ x => x) step n k acc s = .ok (acc ++ ((as.drop k).filter c).map f) s
  | 0, _, _, _, h => absurd h (Nat.not_lt_zero _)
  | n + 1, k, acc, h1, h2 => by
    rw [colRef]
    dsimp only
    rw [hlist]
    dsimp only
    rw [List.getElem?_map]
    cases hx : as[k]? with
    | none =>
      rw [List.drop_of_length_le (by rw [List.getElem?_eq_none_iff] at hx; exact hx)]; simp
    | some x =>
      obtain ⟨hlt, he⟩ := List.getElem?_eq_some_iff.mp hx
      have hst := h x (List.mem_of_getElem? hx) acc (by omega)
      rw [List.drop_eq_getElem_cons hlt, he]
      show bnd (step (e x) acc) _ s = _
      rw [bnd_ap, hst, R.bind_ok, colRef_comp hlist h n (k + 1)]
      · rw [List.filter_cons]
        by_cases hc : c x = true
        · simp [hc]
        · simp [hc]
      · by_cases hc : c x = true
        · rw [if_pos hc, List.length_append, List.length_singleton]; omega
        · rw [if_neg hc]; omega
      · omega
theorem ev_compR {elt : E} {tg : T} {it : I} {ifs : List E} {own : List Nat} {s : Sto} {p : P} (as : List α) (e : α → P) (c : α → Bool) (f : α → P) (hit : evI Φ it ρ s = .ok (.ref p fun _ x => x) s) (hlist : listOf s p = some (as.map e))
    (hst : ∀ a ∈ as, ∃ ρ', asgT tg (e a) (wipeR ρ own) = some ρ' ∧ evIfs Φ ifs ρ' s = .ok (c a) s ∧ (c a = true → ev Φ elt ρ' s = .ok (f a) s)) (hl : as.length ≤ 1000) :
    ev Φ (.comp .val elt tg it ifs own) ρ s = .ok (.lst ((as.filter c).map f)) s := by
  rw [ev, bnd_ap, hit, R.bind_ok]
  rw [bnd_ap]
  unfold colIter
  dsimp only
  rw [colRef_comp (c := c) (f := f) hlist (fun a ha acc hacc => ?_) FUEL 0 [] (by simp [FW.line]; omega) (by unfold FUEL; omega)]
  · simp
  · obtain ⟨ρ', h1, h2, h3⟩ := hst a ha
    rw [bnd_ap, h1, ofO_ap, R.bind_ok, bnd_ap, quiet_ap h2, R.bind_ok]
    by_cases hc : c a = true
    · rw [if_pos hc, if_pos hc, bnd_ap, quiet_ap (h3 hc), R.bind_ok, if_pos hacc]; rfl
    · rw [if_neg hc, if_neg hc]; rfl
theorem forRef_run {p : P} {mk : Nat → P → P} {step : P → Rho → M (Flow × Rho)} {xs : List P} (J : Nat → Rho → Sto → Prop) (hl : ∀ k ρ s, J k ρ s → listOf s p = some xs)
    (hs : ∀ k x ρ s, xs[k]? = some x → J k ρ s → ∃ ρ' s', (step (mk k x) ρ s = .ok (.next, ρ') s' ∨ step (mk k x) ρ s = .ok (.cont, ρ') s') ∧ J (k + 1) ρ' s') :
    ∀ (n k : Nat) (ρ : Rho) (s : Sto), J k ρ s → xs.length - k < n → k ≤ xs.length → ∃ ρ' s', forRef p mk step n k ρ s = .ok (.next, ρ') s' ∧ J xs.length ρ' s'
  | 0, _, _, _, _, h, _ => absurd h (Nat.not_lt_zero _)
  | n + 1, k, ρ, s, hJ, h, hk => by
    rw [forRef]
    dsimp only
    rw [hl k ρ s hJ]
    dsimp only
    cases hx : xs[k]? with
    | none =>
      have : k = xs.length := by rw [List.getElem?_eq_none_iff] at hx; omega
      exact ⟨ρ, s, rfl, this ▸ hJ⟩
    | some x =>
      obtain ⟨hlt, _⟩ := List.getElem?_eq_some_iff.mp hx
      obtain ⟨ρ', s', h1, h2⟩ := hs k x ρ s hx hJ
      obtain ⟨r, t, g1, g2⟩ := forRef_run J hl hs n (k + 1) ρ' s' h2 (by omega) (by omega)
      refine ⟨r, t, ?_, g2⟩
      dsimp only
      rw [bnd_ap]
      rcases h1 with h1 | h1 <;> (rw [h1, R.bind_ok]; exact g1)
theorem ex_forR {t : T} {it : I} {body : List St} {s s1 : Sto} {p : P} {mk : Nat → P → P} (h : evI Φ it ρ s = .ok (.ref p mk) s1) :
    ex Φ (.for_ t it body) ρ s = forRef p mk (fun x ρ' => bnd (ofO (asgT t x ρ')) fun ρ2 => exs Φ body ρ2) FUEL 0 ρ s1 := by
  rw [ex, bnd_ap, h, R.bind_ok]; rfl
theorem whileL_gh {c : Rho → M Bool} {b : Rho → M (Flow × Rho)} (I : σ → Rho → Sto → Prop) (μ : σ → Nat)
    (hs : ∀ a ρ s, I a ρ s → ∃ k, c ρ s = .ok k s ∧ (k = true → ∃ a' ρ' s', (b ρ s = .ok (.next, ρ') s' ∨ b ρ s = .ok (.cont, ρ') s') ∧ I a' ρ' s' ∧ μ a' < μ a)) :
    ∀ (n : Nat) (a : σ) (ρ : Rho) (s : Sto), I a ρ s → μ a < n → ∃ a' ρ' s', whileL c b n ρ s = .ok (.next, ρ') s' ∧ I a' ρ' s' ∧ c ρ' s' = .ok false s'
  | 0, _, _, _, _, h => absurd h (Nat.not_lt_zero _)
  | n + 1, a, ρ, s, h, hm => by
    obtain ⟨k, h1, h2⟩ := hs a ρ s h
    rw [whileL, bnd_ap, h1, R.bind_ok]
    cases k with
    | false => exact ⟨a, ρ, s, rfl, h, h1⟩
    | true =>
      obtain ⟨a', ρ', s', h3, h4, h5⟩ := h2 rfl
      obtain ⟨x, r, t, g1, g2⟩ := whileL_gh I μ hs n a' ρ' s' h4 (by omega)
      refine ⟨x, r, t, ?_, g2⟩
      rw [if_pos rfl, bnd_ap]
      rcases h3 with h3 | h3 <;> (rw [h3, R.bind_ok]; exact g1)
end
/-! ### picks, rows, costs -/
section
variable {junk : List Ob} {g : List Ob}
theorem pick_eq (T : Tp junk g) {xs : List P} (h0 : xs ≠ []) (h1 : xs.length ≤ 1000) (hn : noLobs xs = true) : ∃ p g', p ∈ xs ∧ Tp junk g' ∧ F_law_pick [.gob 1, .lst xs] g = .ok p g' := by
  obtain ⟨d, g', q1, q2, q3⟩ := draw_eq T (n := xs.length) (List.length_pos_iff.mpr h0) h1
  obtain ⟨p, hp⟩ : ∃ p, xs[d]? = some p := ⟨xs[d], List.getElem?_eq_getElem q1⟩
  refine ⟨p, g', List.mem_of_getElem? hp, q2, ?_⟩
  have : ∀ s, pIdx (.lst xs) (eI d) s = .ok p s := fun s => pIdx_lst hp
  have hpn : noLob p = true := by
    have : ∀ {l : List P}, noLobs l = true → ∀ a ∈ l, noLob a = true := by
      intro l
      induction l with
      | nil => intro _ a z; cases z
      | cons b l ih => intro h a ha; rw [noLobs_cons, Bool.and_eq_true] at h; rcases List.mem_cons.mp ha with rfl | z; exact h.1; exact ih h.2 a z
    exact this hn p (List.mem_of_getElem? hp)
  simp [F_law_pick, b_law_pick, run, q3, this, hpn]
theorem row_eq (T : Tp junk g) {m : Nat} {rs : Rules} (h0 : 0 < rs.length) (h1 : rs.length ≤ 1000) : ∃ row g', row.length ≤ 4 ∧ (∀ j ∈ row, j < rs.length) ∧ Tp junk g' ∧ F_law_row [.gob 1, eLp m rs, .int 4] g = .ok (eR row) g' := by
  obtain ⟨d, g1, q1, q2, q3⟩ := draw_eq T (n := 5) (by decide) (by decide)
  have q3 : F_law_draw [.gob 1, .int 5] g = .ok (eI d) g1 := q3
  obtain ⟨row, s', h3, h4, h5, h6, h7⟩ := ev_compS (Φ := dp_law_row.phi) (elt := .call "_law_draw" [.var 0, .bi .val .len [.sub (.var 1) (.int 1)]] []) (tg := .name 3) (it := .range1 (.call "_law_draw" [.var 0, .bin .val .add (.var 2) (.int 1)] [])) (own := [3]) (ρ := [some (.gob 1), some (eLp m rs), some (.int 4), none]) (List.range d) eI eI (fun j => j < rs.length) (fun s => Tp junk s.g ∧ s.l = []) (s0 := ⟨[], g⟩) (s := ⟨[], g1⟩) (by
      simp [q3, r1P_nat (show d < 2 ^ 62 by omega)]) ⟨q2, rfl⟩ (fun a ha s hs => by
      obtain ⟨b, g2, k1, k2, k3⟩ := draw_eq hs.1 h0 h1
      refine ⟨_, b, ⟨[], g2⟩, rfl, ?_, k1, k2, rfl⟩
      obtain ⟨l, g⟩ := s
      have := hs.2
      dsimp only at this
      subst this
      simp [eLp, eRs]
      simp at k3
      rw [k3]; rfl) (le_line (by simp; omega))
  refine ⟨row, s'.g, by rw [h4, List.length_range]; omega, h5, h6, ?_⟩
  obtain ⟨l, g⟩ := s'
  simp [F_law_row, b_law_row, run, h3]
  rw [show P.tup (row.map eI) = eR row from rfl]
theorem costs_eq (T : Tp junk g) {m : Nat} (h1 : m ≤ 1000) : ∃ cs g', cs.length = m ∧ (∀ c ∈ cs, c ≤ 1000) ∧ Tp junk g' ∧ F_law_costs [.gob 1, eI m] g = .ok (eCs cs) g' := by
  obtain ⟨row, s', h3, h4, h5, h6, h7⟩ := ev_compS (Φ := dp_law_costs.phi) (elt := .call "_law_pick" [(.var 0), (.lst .val [(.int 0), (.int 0), (.int 1), (.int 2), (.int 5), (.int 1000)])] []) (tg := .name 2) (it := .range1 (.var 1)) (own := [2]) (ρ := [some (.gob 1), some (eI m), none]) (List.range m) eI eI (fun j => j ≤ 1000) (fun s => Tp junk s.g ∧ s.l = []) (s0 := ⟨[], g⟩) (s := ⟨[], g⟩) (by
      simp [r1P_nat (show m < 2 ^ 62 by omega)]) ⟨T, rfl⟩ (fun a ha s hs => by
      obtain ⟨p, g2, k1, k2, k3⟩ := pick_eq hs.1 (xs := [(.int 0), (.int 0), (.int 1), (.int 2), (.int 5), (.int 1000)]) (by simp) (by simp) (by simp)
      have : ∃ b : Nat, p = eI b ∧ b ≤ 1000 := by
        simp at k1
        rcases k1 with rfl | rfl | rfl | rfl | rfl
        · exact ⟨0, rfl, by decide⟩
        · exact ⟨1, rfl, by decide⟩
        · exact ⟨2, rfl, by decide⟩
        · exact ⟨5, rfl, by decide⟩
        · exact ⟨1000, rfl, by decide⟩
      obtain ⟨b, rfl, hb⟩ := this
      refine ⟨_, b, ⟨[], g2⟩, rfl, ?_, hb, k2, rfl⟩
      obtain ⟨l, g⟩ := s
      have := hs.2
      dsimp only at this
      subst this
      simp [k3]) (le_line (by simp; omega))
  refine ⟨row, s'.g, by rw [h4, List.length_range], h5, h6, ?_⟩
  obtain ⟨l, g⟩ := s'
  simp [F_law_costs, b_law_costs, run, h3]
  rfl
end
end FW

end

section
set_option Elab.async false
set_option linter.all false
set_option maxRecDepth 100000
/-! Mp9: the drawn programs. -/
namespace FW
open PySem L2
section
variable {Φ : Fenv} {ρ : Rho} {s : Sto}
theorem eq_lst_nil {xs : List P} (h : isDs 59 xs = true) : pCmp .eq (.lst xs) (.lst []) s = .ok xs.isEmpty s := by
  rw [pCmp_eq (by rw [isD]; exact h) (by simp [isD, isDs]), peq, peqs_nil]
theorem ne_lst_nil {xs : List P} (h : isDs 59 xs = true) : pCmp .ne (.lst xs) (.lst []) s = .ok (!xs.isEmpty) s := by
  rw [pCmp_ne (by rw [isD]; exact h) (by simp [isD, isDs]), peq, peqs_nil]
theorem pIn_nats {i : Nat} {l : List Nat} : pIn (eI i) (eIs l) s = .ok (decide (i ∈ l)) s := by
  have := pIn_ints (s := s) (i := (i : Int)) (l := l.map fun n : Nat => (n : Int))
  rw [List.map_map] at this
  unfold eIs
  rw [show l.map eI = l.map (P.int ∘ fun n : Nat => (n : Int)) from rfl, this]
  congr 1
  rw [decide_eq_decide, List.mem_map]
  exact ⟨fun ⟨a, h, e⟩ => by rw [← Int.ofNat.inj e]; exact h, fun h => ⟨i, h, rfl⟩⟩
theorem filter_isEmpty_all {α : Type} {c : α → Bool} : ∀ {r : List α}, (r.filter fun j => !c j).isEmpty = r.all c
  | [] => rfl
  | a :: r => by
    rw [List.filter_cons, List.all_cons]
    cases h : c a with
    | false => simp
    | true => simp; exact filter_isEmpty_all
/-- [1 for item in rule if item not in found] == [] -/
theorem all_in_eq {r : Rule} {vr vf t : Nat} {c : Nat → Bool} (h1 : r.length ≤ 1000) (hr : ev Φ (.var vr) ρ s = .ok (eR r) s) (hf : ∀ j ∈ r, ev Φ (.cmp .notIn (.var t) (.var vf)) ((wipeR ρ [t]).set t (some (eI j))) s = .ok (.bl (!c j)) s) :
    ev Φ (.cmp .eq (.comp .val (.int 1) (.name t) (.seq (.var vr)) [(.cmp .notIn (.var t) (.var vf))] [t]) (.lst .val [])) ρ s = .ok (.bl (r.all c)) s := by
  rw [ev_cmp, bnd_ap, ev_comp r eI (fun j => !c j) (fun _ => .int 1) (by rw [evI_seq, bnd_ap, hr, R.bind_ok]; rfl) (fun j hj => ⟨_, asgT_name, by rw [evIfs_cons, bnd_ap, hf j hj]; cases c j <;> simp, fun _ => by simp⟩) (le_line h1)]
  simp
  rw [eq_lst_nil (isDs_map (fun _ => by simp [isD]) _)]
  simp
  rw [filter_isEmpty_all]
end
def Lv (rs : Rules) (i : Nat) : Prop := ∀ S : Nat → Prop, (∀ (i : Nat) (line : Line) (r : Rule), rs[i]? = some line → some r ∈ line → (∀ j ∈ r, S j) → S i) → S i
def oL (l : Line) : Ob := .lst (l.map eO)
def refs (N k : Nat) : List P := (List.range k).map fun i => .gob (N + 1 + i)
/-- where the lines stand -/
structure Std (g : List Ob) (N : Nat) (rs : Rules) : Prop where
  top : g[N]? = some (.lst (refs N rs.length))
  at_ : ∀ i line, rs[i]? = some line → g[N + 1 + i]? = some (oL line)
  n : rs.length ≤ 12
  len : ∀ line ∈ rs, line.length ≤ 6
  rule : ∀ line ∈ rs, ∀ r, some r ∈ line → r.length ≤ 6
section
variable {g : List Ob} {N : Nat} {rs : Rules}
def goodc (fd : List Nat) (o : Option Rule) : Bool := match o with
  | some r => r.all fun j => decide (j ∈ fd)
  | none => false
theorem good_eq (D : Std g N rs) {i : Nat} {line : Line} (hi : rs[i]? = some line) (fd : List Nat) (m q c d e : Option P) :
    ev dp_law_live.phi (.comp .val (.var 6) (.name 6) (.seq (.var 4)) [(.and [(.cmp .isNot (.var 6) .non), (.cmp .eq (.comp .val (.int 1) (.name 7) (.seq (.var 6)) [(.cmp .notIn (.var 7) (.var 1))] [7]) (.lst .val []))])] [6]) [some (.gob N), some (eIs fd), m, q, some (.gob (N + 1 + i)), c, d, e] ⟨[], g⟩ = .ok (.lst ((line.filter (goodc fd)).map eO)) ⟨[], g⟩ := by
  have hm := List.mem_of_getElem? hi
  have h6 := D.len line hm
  have hg : listOf ⟨[], g⟩ (.gob (N + 1 + i)) = some (line.map eO) := by
    unfold listOf; dsimp only; rw [D.at_ i line hi]; rfl
  refine ev_compR line eO (goodc fd) eO (p := .gob (N + 1 + i)) ?_ hg (fun o ho => ⟨_, rfl, ?_, fun _ => by simp⟩) (by omega)
  · simp
    unfold iterOf
    dsimp only
    rw [D.at_ i line hi]; rfl
  · cases o with
    | none => simp [eO, goodc]
    | some r =>
      have h7 := D.rule line hm r ho
      simp [isNonP_eO, goodc]
      have := all_in_eq (Φ := dp_law_live.phi) (s := ⟨[], g⟩) (ρ := [some (.gob N), some (eIs fd), m, q, some (.gob (N + 1 + i)), c, some (eO (some r)), e]) (r := r) (vr := 6) (vf := 1) (t := 7) (c := fun j => decide (j ∈ fd)) (by omega) (by simp [eO]) (fun j hj => by simp [pIn_nats])
      generalize (r.all fun j => decide (j ∈ fd)) = b at this ⊢
      simp at this
      rw [this]
      cases b <;> simp
def cntF (n : Nat) (fd : List Nat) : Nat := (List.range n).countP fun i => decide (i ∈ fd)
def liveInner : List St := [.asg (.name 5) (.comp .val (.var 6) (.name 6) (.seq (.var 4)) [(.and [(.cmp .isNot (.var 6) .non), (.cmp .eq (.comp .val (.int 1) (.name 7) (.seq (.var 6)) [(.cmp .notIn (.var 7) (.var 1))] [7]) (.lst .val []))])] [6]),
  .asg (.name 1) (.bin .val .add (.var 1) (.ite (.and [(.cmp .notIn (.var 3) (.var 1)), (.cmp .ne (.var 5) (.lst .val []))]) (.lst .val [(.var 3)]) (.lst .val [])))]
theorem live_in1 (D : Std g N rs) {i : Nat} {line : Line} (hi : rs[i]? = some line) (fd : List Nat) (hfl : fd.length ≤ 1000) (m a b c d e : Option P) :
    bnd (ofO (asgT (.tup [.name 3, .name 4]) (.tup [eI i, .gob (N + 1 + i)]) [some (.gob N), some (eIs fd), m, a, b, c, d, e])) (fun ρ2 => exs dp_law_live.phi liveInner ρ2) ⟨[], g⟩ =
      .ok (.next, [some (.gob N), some (eIs (fd ++ if !decide (i ∈ fd) && line.any (goodc fd) then [i] else [])), m, some (eI i), some (.gob (N + 1 + i)), some (.lst ((line.filter (goodc fd)).map eO)), d, e]) ⟨[], g⟩ := by
  have hne : pCmp .ne (.lst ((line.filter (goodc fd)).map eO)) (.lst []) ⟨[], g⟩ = .ok (line.any (goodc fd)) ⟨[], g⟩ := by
    rw [ne_lst_nil (isDs_map (fun o => by cases o with | none => simp [eO, isD] | some r => exact isD_eR (k := 58)) _)]
    congr 1
    rw [Bool.eq_iff_iff]
    simp
  generalize line.any (goodc fd) = b at hne ⊢
  simp [liveInner, good_eq D hi, pIn_nats, hne]
  by_cases h : i ∈ fd
  · simp [h]
    rw [show eIs fd = .lst (fd.map eI) from rfl, pBin_add_lst (by simp; unfold FW.line; omega)]
    simp
  · simp [h]
    cases b
    · simp
      rw [show eIs fd = .lst (fd.map eI) from rfl, pBin_add_lst (by simp; unfold FW.line; omega)]
      simp
    · simp
      rw [show eIs fd = .lst (fd.map eI) from rfl, pBin_add_lst (by simp; unfold FW.line; omega)]
      simp [eIs]
/-- found may be taken -/
structure FdOk (rs : Rules) (fd : List Nat) : Prop where
  lt : ∀ i ∈ fd, i < rs.length
  lv : ∀ i ∈ fd, Lv rs i
  nd : fd.Nodup
theorem FdOk.len {fd : List Nat} (F : FdOk rs fd) : fd.length ≤ rs.length := by
  have gen : ∀ (n : Nat) (l : List Nat), l.Nodup → (∀ i ∈ l, i < n) → l.length ≤ n := by
    intro n
    induction n with
    | zero => intro l _ h; cases l with | nil => exact Nat.le_refl _ | cons a l => exact absurd (h a List.mem_cons_self) (Nat.not_lt_zero _)
    | succ n ih =>
      intro l nd h
      by_cases hm : n ∈ l
      · have := ih (l.erase n) (nd.erase n) fun i hi => by
          have h1 := (List.Nodup.mem_erase_iff nd).mp hi
          have := h i h1.2
          have := h1.1
          omega
        rw [List.length_erase_of_mem hm] at this; omega
      · have := ih l nd fun i hi => by
          have := h i hi
          have : i ≠ n := fun z => hm (z ▸ hi)
          omega
        omega
  exact gen _ fd F.nd F.lt
theorem live_eq (D : Std g N rs) : ∃ fd, F_law_live [.gob N] g = .ok (eIs fd) g ∧ FdOk rs fd := by
  have lap : ∀ (fd : List Nat) (m a b c d e : Option P), FdOk rs fd → ∃ fd' a' b' c' d' e', FdOk rs fd' ∧ fd.length ≤ fd'.length ∧ ex dp_law_live.phi (.for_ (.tup [.name 3, .name 4]) (.enum (.var 0)) liveInner) [some (.gob N), some (eIs fd), m, a, b, c, d, e] ⟨[], g⟩ = .ok (.next, [some (.gob N), some (eIs fd'), m, a', b', c', d', e']) ⟨[], g⟩ := by
    intro fd m a b c d e F
    have hl : listOf ⟨[], g⟩ (.gob N) = some (refs N rs.length) := by unfold listOf; dsimp only; rw [D.top]
    obtain ⟨ρ', s', h1, ⟨fd', a', b', c', d', e', F', hle, e1⟩, e2⟩ := forRef_run (p := .gob N) (mk := fun i x => .tup [.int (i : Nat), x]) (step := fun x ρ' => bnd (ofO (asgT (.tup [.name 3, .name 4]) x ρ')) fun ρ2 => exs dp_law_live.phi liveInner ρ2) (xs := refs N rs.length)
      (fun _ ρ s => (∃ fd' a b c d e, FdOk rs fd' ∧ fd.length ≤ fd'.length ∧ ρ = [some (.gob N), some (eIs fd'), m, a, b, c, d, e]) ∧ s = (⟨[], g⟩ : Sto)) (fun k ρ s h => by rw [h.2]; exact hl) (fun k x ρ s hx ⟨⟨fd', a, b, c, d, e, F', hle, e1⟩, e2⟩ => by
        subst e1 e2
        unfold refs at hx
        rw [List.getElem?_map, Option.map_eq_some_iff] at hx
        obtain ⟨i, hi, rfl⟩ := hx
        obtain ⟨hk, rfl⟩ := List.getElem?_eq_some_iff.mp hi
        rw [List.getElem_range] at *
        rw [List.length_range] at hk
        obtain ⟨ln, hln⟩ : ∃ ln, rs[k]? = some ln := ⟨rs[k], List.getElem?_eq_getElem hk⟩
        have hF := F'.len
        have hn := D.n
        refine ⟨_, _, .inl (live_in1 D hln fd' (by omega) m a b c d e), ⟨_, _, _, _, _, _, ?_, ?_, rfl⟩, rfl⟩
        · cases hc : (!decide (k ∈ fd') && ln.any (goodc fd')) with
          | false => simpa using F'
          | true =>
            rw [Bool.and_eq_true] at hc
            have hnot : k ∉ fd' := by simpa using hc.1
            obtain ⟨o, ho, hgo⟩ := List.any_eq_true.mp hc.2
            simp only [if_true]
            refine ⟨fun i hi => ?_, fun i hi => ?_, ?_⟩
            · rcases List.mem_append.mp hi with z | z
              · exact F'.lt i z
              · rw [List.mem_singleton.mp z]; exact hk
            · rcases List.mem_append.mp hi with z | z
              · exact F'.lv i z
              · rw [List.mem_singleton.mp z]
                cases o with
                | none => cases hgo
                | some r => exact fun S hS => hS k ln r hln ho fun j hj => F'.lv j (of_decide_eq_true (List.all_eq_true.mp hgo j hj)) S hS
            · rw [List.nodup_append]
              refine ⟨F'.nd, by simp, fun x hx y hy => ?_⟩
              rw [List.mem_singleton.mp hy]
              exact fun z => hnot (z ▸ hx)
        · rw [List.length_append]; omega) FUEL 0 [some (.gob N), some (eIs fd), m, a, b, c, d, e] ⟨[], g⟩ ⟨⟨fd, a, b, c, d, e, F, Nat.le_refl _, rfl⟩, rfl⟩ (by
          have := D.n
          unfold refs FUEL
          simp; omega) (Nat.zero_le _)
    subst e1 e2
    refine ⟨fd', a', b', c', d', e', F', hle, ?_⟩
    rw [ex_forR (p := .gob N) (mk := fun i x => .tup [.int (i : Nat), x]) (s1 := ⟨[], g⟩) (by
      simp
      unfold enumOf
      dsimp only
      rw [D.top]), h1]
  obtain ⟨⟨pv, fd⟩, ρ', s', h1, ⟨F, hp, e1, ⟨a, b, c, d, e, h⟩⟩, h2⟩ := whileL_gh (σ := Int × List Nat) (c := fun ρ' => bnd (ev dp_law_live.phi (.cmp .ne (.bi .val .len [.var 1]) (.var 2)) ρ') truthM) (b := fun ρ' => exs dp_law_live.phi [.asg (.name 2) (.bi .val .len [(.var 1)]), .for_ (.tup [.name 3, .name 4]) (.enum (.var 0)) liveInner] ρ')
    (fun a ρ s => FdOk rs a.2 ∧ a.1 ≤ a.2.length ∧ s = (⟨[], g⟩ : Sto) ∧ ∃ p q r t u, ρ = [some (.gob N), some (eIs a.2), some (.int a.1), p, q, r, t, u]) (fun a => (rs.length + 1 - a.1).toNat) (fun ⟨pv, fd⟩ ρ s ⟨F, hp, e1, p, q, r, t, u, h⟩ => by
      dsimp only at F hp h
      subst e1 h
      refine ⟨!decide ((fd.length : Int) = pv), by simp [eIs], fun hk => ?_⟩
      obtain ⟨fd', a, b, c, d, e, F', hle, hx⟩ := lap fd (some (eI fd.length)) p q r t u F
      refine ⟨(fd.length, fd'), _, _, .inl ?_, ⟨F', by dsimp only; omega, rfl, a, b, c, d, e, rfl⟩, ?_⟩
      · simp [eIs]
        have hx' := hx
        simp only [eIs] at hx'
        unfold liveInner at hx' ⊢
        rw [hx']
        simp
      · have := F.len
        simp at hk
        dsimp only
        omega) FUEL (-1, []) [some (.gob N), some (eIs []), some (.int (-1)), none, none, none, none, none] ⟨[], g⟩ ⟨⟨fun _ z => (by cases z), fun _ z => (by cases z), List.nodup_nil⟩, by decide, rfl, _, _, _, _, _, rfl⟩ (by have := D.n; unfold FUEL; dsimp only; omega)
  dsimp only at h
  subst e1 h
  refine ⟨fd, ?_, F⟩
  simp [F_law_live, b_law_live, run, ex_whl]
  simp [eIs, liveInner] at h1
  rw [h1]
  simp
  rfl
end
end FW

end

section
set_option Elab.async false
set_option linter.all false
set_option maxRecDepth 100000
/-! Mp10: the drawn programs: the draw. -/
namespace FW
open PySem L2
section
variable {junk : List Ob} {g : List Ob}
theorem tp_len (T : Tp junk g) : g.length = 2 + junk.length := by
  obtain ⟨a, b, c, d, rfl⟩ := T
  unfold GT; simp; omega
theorem tp_alloc (T : Tp junk g) (o : Ob) : Tp (junk ++ [o]) (g ++ [o]) := by
  obtain ⟨a, b, c, d, rfl⟩ := T
  exact ⟨a, b, c, d, by unfold GT; simp⟩
theorem tp_get (T : Tp junk g) (i : Nat) : g[2 + i]? = junk[i]? := by
  obtain ⟨a, b, c, d, rfl⟩ := T
  unfold GT
  rw [show 2 + i = i + 1 + 1 by omega]; rfl
theorem tp_set (T : Tp junk g) (i : Nat) (o : Ob) : Tp (junk.set i o) (g.set (2 + i) o) := by
  obtain ⟨a, b, c, d, rfl⟩ := T
  refine ⟨a, b, c, d, ?_⟩
  unfold GT
  rw [show 2 + i = i + 1 + 1 by omega]; rfl
/-- what stands at a place -/
theorem tp_at {A B : List Ob} {o : Ob} (T : Tp (A ++ o :: B) g) : g[2 + A.length]? = some o := by
  rw [tp_get T]; simp
theorem tp_put {A B : List Ob} {o : Ob} (T : Tp (A ++ o :: B) g) (o' : Ob) : Tp (A ++ o' :: B) (g.set (2 + A.length) o') := by
  have := tp_set T A.length o'
  simpa using this
theorem noLobs_mem : ∀ {l : List P}, noLobs l = true → ∀ a ∈ l, noLob a = true
  | [], _, a, z => by cases z
  | b :: l, h, a, ha => by
    rw [noLobs_cons, Bool.and_eq_true] at h
    rcases List.mem_cons.mp ha with rfl | z
    · exact h.1
    · exact noLobs_mem h.2 a z
theorem append_gob {s : Sto} {n : Nat} {xs : List P} {x : P} (h : s.g[n]? = some (.lst xs)) (hl : xs.length ≤ 1000) (hn : noLobs (xs ++ [x]) = true) : pMt .append (.gob n) [x] s = .ok .non ⟨s.l, s.g.set n (.lst (xs ++ [x]))⟩ := by
  have h1 : listOf s (.gob n) = some xs := by unfold listOf; dsimp only; rw [h]
  have h2 : setOb (.gob n) (.lst (xs ++ [x])) s = .ok () ⟨s.l, s.g.set n (.lst (xs ++ [x]))⟩ := by
    unfold setOb; dsimp only
    rw [if_pos]
    rw [decide_eq_true (List.getElem?_eq_some_iff.mp h).1]
    simp [Ob.noLob, Ob.ps]
    simp at hn
    exact ⟨noLobs_mem hn.1, hn.2⟩
  unfold pMt
  dsimp only
  unfold pAppend
  dsimp only
  rw [h1]
  dsimp only
  rw [if_pos (by unfold FW.line; omega), bnd_ap, h2]; rfl
theorem isLst_gob {s : Sto} {n : Nat} {xs : List P} (h : s.g[n]? = some (.lst xs)) : isLst (.gob n) s = .ok () s := by
  unfold isLst listOf; dsimp only; rw [h]
theorem allocG_ok {s : Sto} {xs : List P} (h : noLobs xs = true) : mkL .glob xs s = .ok (.gob s.g.length) ⟨s.l, s.g ++ [.lst xs]⟩ := by
  show allocG _ s = _
  unfold allocG
  rw [if_pos (by simp [Ob.noLob, Ob.ps]; exact noLobs_mem h)]
def cellB : List St := [.asg (.name 11) (.call "_law_pick" [(.var 0), (.lst .val [(.int 0), (.int 0), (.int 1), (.int 1), (.int 2), (.int 2), (.var 3)])] []),
  .expr (.meth .append (.var 9) [(.ite (.cmp .eq (.call "_law_draw" [(.var 0), (.int 4)] []) (.int 0)) .non (.bi .val .tuple [(.comp .val (.call "_law_draw" [(.var 0), (.var 7)] []) (.name 12) (.range1 (.var 11)) [] [12])]))])]
def OkO (n : Nat) (o : Option Rule) : Prop := ∀ r, o = some r → r.length ≤ 3 ∧ ∀ j ∈ r, j < n
theorem draw_l {g : List Ob} (T : Tp junk g) {n : Nat} (h0 : 0 < n) (h1 : n ≤ 1000) : ∃ d g', d < n ∧ Tp junk g' ∧ F_law_draw [.gob 1, .int (n : Int)] g = .ok (eI d) g' := draw_eq T h0 h1
/-- a rule is drawn -/
theorem cell_eq {A : List Ob} {ln : Line} (T : Tp (A ++ [oL ln]) g) {n : Nat} (h0 : 0 < n) (h1 : n ≤ 1000) (hln : ln.length ≤ 900) (a b c d m q x10 x11 x12 : Option P) :
    ∃ (o : Option Rule) (g' : List Ob) (sz : Option P), OkO n o ∧ Tp (A ++ [oL (ln ++ [o])]) g' ∧
      exs dp_law_program.phi cellB [some (.gob 1), a, b, some (.int 3), c, d, m, some (eI n), q, some (.gob (2 + A.length)), x10, x11, x12] ⟨[], g⟩ = .ok (.next, [some (.gob 1), a, b, some (.int 3), c, d, m, some (eI n), q, some (.gob (2 + A.length)), x10, sz, x12]) ⟨[], g'⟩ := by
  obtain ⟨p, g1, k1, k2, k3⟩ := pick_eq T (xs := [(.int 0), (.int 0), (.int 1), (.int 1), (.int 2), (.int 2), (.int 3)]) (by simp) (by simp) (by simp)
  have : ∃ b : Nat, p = eI b ∧ b ≤ 3 := by
    simp at k1
    rcases k1 with rfl | rfl | rfl | rfl
    · exact ⟨0, rfl, by decide⟩
    · exact ⟨1, rfl, by decide⟩
    · exact ⟨2, rfl, by decide⟩
    · exact ⟨3, rfl, by decide⟩
  obtain ⟨sz, rfl, hsz⟩ := this
  have gA : ∀ {B : List Ob} {g : List Ob}, Tp (A ++ oL ln :: B) g → ∀ x, noLob x = true → pMt .append (.gob (2 + A.length)) [x] ⟨[], g⟩ = .ok .non ⟨[], g.set (2 + A.length) (.lst (ln.map eO ++ [x]))⟩ := fun T x hx =>
    append_gob (s := ⟨[], _⟩) (tp_at T) (by rw [List.length_map]; omega) (by simp [hx])
  obtain ⟨d4, g2, r1, r2, r3⟩ := draw_eq k2 (n := 4) (by decide) (by decide)
  have r3 : F_law_draw [.gob 1, .int 4] g1 = .ok (eI d4) g2 := r3
  have il : isLst (.gob (2 + A.length)) ⟨[], g1⟩ = .ok () ⟨[], g1⟩ := isLst_gob (s := ⟨[], g1⟩) (tp_at k2)
  by_cases hd : d4 = 0
  · subst hd
    refine ⟨none, g2.set (2 + A.length) (oL (ln ++ [none])), some (eI sz), (fun r h => by cases h), tp_put r2 _, ?_⟩
    simp [cellB, k3, il, r3, gA r2]
    simp [oL, eO]
  · obtain ⟨row, s', h3, h4, h5, h6, h7⟩ := ev_compS (Φ := dp_law_program.phi) (elt := .call "_law_draw" [(.var 0), (.var 7)] []) (tg := .name 12) (it := .range1 (.var 11)) (own := [12]) (ρ := [some (.gob 1), a, b, some (.int 3), c, d, m, some (eI n), q, some (.gob (2 + A.length)), x10, some (eI sz), x12]) (List.range sz) eI eI (fun j => j < n) (fun s => Tp (A ++ [oL ln]) s.g ∧ s.l = []) (s0 := ⟨[], g2⟩) (s := ⟨[], g2⟩) (by
      simp [r1P_nat (show sz < 2 ^ 62 by omega)]) ⟨r2, rfl⟩ (fun a ha s hs => by
      obtain ⟨b, g3, q1, q2, q3⟩ := draw_l hs.1 h0 h1
      refine ⟨_, b, ⟨[], g3⟩, rfl, ?_, q1, q2, rfl⟩
      obtain ⟨l, g⟩ := s
      have := hs.2
      dsimp only at this
      subst this
      simp
      rw [q3]; rfl) (le_line (by simp; omega))
    obtain ⟨l, g3⟩ := s'
    dsimp only at h7 h6
    subst h7
    refine ⟨some row, g3.set (2 + A.length) (oL (ln ++ [some row])), some (eI sz), (fun r h => ?_), tp_put h6 _, ?_⟩
    · cases h
      exact ⟨by rw [h4, List.length_range]; exact hsz, h5⟩
    · simp [cellB, k3, il, r3, hd, h3, gA h6]
      simp [oL, eO, eR]
/-- a line is drawn -/
theorem line_eq {A : List Ob} (T : Tp (A ++ [oL []]) g) {n m : Nat} (h0 : 0 < n) (h1 : n ≤ 1000) (hm : m ≤ 900) (a b c d q x10 x11 x12 : Option P) :
    ∃ (ln : Line) (g' : List Ob) (y10 y11 : Option P), ln.length = m ∧ (∀ o ∈ ln, OkO n o) ∧ Tp (A ++ [oL ln]) g' ∧
      ex dp_law_program.phi (.for_ (.name 10) (.range1 (.var 6)) cellB) [some (.gob 1), a, b, some (.int 3), c, d, some (eI m), some (eI n), q, some (.gob (2 + A.length)), x10, x11, x12] ⟨[], g⟩ = .ok (.next, [some (.gob 1), a, b, some (.int 3), c, d, some (eI m), some (eI n), q, some (.gob (2 + A.length)), y10, y11, x12]) ⟨[], g'⟩ := by
  obtain ⟨ρ', s', h1', ⟨ln, y10, y11, e1, e2, e3, e4⟩, e5⟩ := forVals_all (α := Nat) (e := eI) (as := List.range m) (step := fun x ρ' => bnd (ofO (asgT (.name 10) x ρ')) fun ρ2 => exs dp_law_program.phi cellB ρ2)
    (fun pre ρ s => (∃ ln y10 y11, ρ = [some (.gob 1), a, b, some (.int 3), c, d, some (eI m), some (eI n), q, some (.gob (2 + A.length)), y10, y11, x12] ∧ ln.length = pre.length ∧ (∀ o ∈ ln, OkO n o) ∧ Tp (A ++ [oL ln]) s.g) ∧ s.l = []) (ρ := [some (.gob 1), a, b, some (.int 3), c, d, some (eI m), some (eI n), q, some (.gob (2 + A.length)), x10, x11, x12]) (s := ⟨[], g⟩) ⟨⟨[], _, _, rfl, rfl, (fun _ z => by cases z), T⟩, rfl⟩ (fun p1 i p2 ρ s he ⟨⟨ln, y10, y11, e1, e2, e3, e4⟩, e5⟩ => by
      obtain ⟨l, g⟩ := s
      dsimp only at e4 e5
      subst e1 e5
      have hlen : p1.length ≤ m := by
        have := congrArg List.length he
        simp at this; omega
      obtain ⟨o, g', sz, w1, w2, w3⟩ := cell_eq e4 h0 h1 (by omega) a b c d (some (eI m)) q (some (eI i)) y11 x12
      refine ⟨_, ⟨[], g'⟩, .inl ?_, ⟨ln ++ [o], some (eI i), sz, rfl, by simp [e2], fun o' ho' => ?_, w2⟩, rfl⟩
      · rw [bnd_ap, asgT_name, ofO_ap, R.bind_ok]
        simp only [List.set_cons_succ, List.set_cons_zero]
        exact w3
      · rcases List.mem_append.mp ho' with z | z
        · exact e3 o' z
        · rw [List.mem_singleton.mp z]; exact w1)
  obtain ⟨l, g'⟩ := s'
  dsimp only at e4 e5
  subst e1 e5
  refine ⟨ln, g', y10, y11, by rw [e2, List.length_range], e3, e4, ?_⟩
  rw [ex_for (xs := (List.range m).map eI) (s1 := ⟨[], g⟩) (by simp [r1P_nat (show m < 2 ^ 62 by omega)]), h1']
def lineB : List St := [.asg (.name 9) (.lst .glob []),
  .for_ (.name 10) (.range1 (.var 6)) cellB,
  .expr (.meth .append (.var 8) [(.var 9)])]
def rulesAt (junk : List Ob) (lines : Rules) : List Ob := junk ++ .lst (refs (2 + junk.length) lines.length) :: lines.map oL
def OkLine (m n : Nat) (ln : Line) : Prop := ln.length = m ∧ ∀ o ∈ ln, OkO n o
theorem lines_eq (T : Tp (rulesAt junk []) g) {n m : Nat} (h0 : 0 < n) (h1 : n ≤ 900) (hm : m ≤ 900) (a b x4 x5 x9 x10 x11 x12 : Option P) :
    ∃ (lines : Rules) (g' : List Ob) (y4 y9 y10 y11 : Option P), lines.length = n ∧ (∀ ln ∈ lines, OkLine m n ln) ∧ Tp (rulesAt junk lines) g' ∧
      ex dp_law_program.phi (.for_ (.name 4) (.range1 (.var 7)) lineB) [some (.gob 1), a, b, some (.int 3), x4, x5, some (eI m), some (eI n), some (.gob (2 + junk.length)), x9, x10, x11, x12] ⟨[], g⟩ = .ok (.next, [some (.gob 1), a, b, some (.int 3), y4, x5, some (eI m), some (eI n), some (.gob (2 + junk.length)), y9, y10, y11, x12]) ⟨[], g'⟩ := by
  obtain ⟨ρ', s', h1', ⟨lines, y4, y9, y10, y11, e1, e2, e3, e4⟩, e5⟩ := forVals_all (α := Nat) (e := eI) (as := List.range n) (step := fun x ρ' => bnd (ofO (asgT (.name 4) x ρ')) fun ρ2 => exs dp_law_program.phi lineB ρ2)
    (fun pre ρ s => (∃ (lines : Rules) (y4 y9 y10 y11 : Option P), ρ = [some (.gob 1), a, b, some (.int 3), y4, x5, some (eI m), some (eI n), some (.gob (2 + junk.length)), y9, y10, y11, x12] ∧ lines.length = pre.length ∧ (∀ ln ∈ lines, OkLine m n ln) ∧ Tp (rulesAt junk lines) s.g) ∧ s.l = []) (ρ := [some (.gob 1), a, b, some (.int 3), x4, x5, some (eI m), some (eI n), some (.gob (2 + junk.length)), x9, x10, x11, x12]) (s := ⟨[], g⟩) ⟨⟨[], _, _, _, _, rfl, rfl, (fun _ z => by cases z), T⟩, rfl⟩ (fun p1 i p2 ρ s he ⟨⟨lines, y4, y9, y10, y11, e1, e2, e3, e4⟩, e5⟩ => by
      obtain ⟨l, g⟩ := s
      dsimp only at e4 e5
      subst e1 e5
      have hlen : p1.length + 1 ≤ n := by
        have := congrArg List.length he
        simp at this; omega
      have T1 := tp_alloc e4 (oL [])
      have gl := tp_len e4
      have gl2 : g.length = 2 + (rulesAt junk lines).length := gl
      obtain ⟨ln, g', z10, z11, w1, w2, w3, w4⟩ := line_eq T1 h0 (by omega) hm a b (some (eI i)) x5 (some (.gob (2 + junk.length))) y10 y11 x12
      have T2 : Tp (junk ++ .lst (refs (2 + junk.length) lines.length) :: (lines ++ [ln]).map oL) g' := by
        have : rulesAt junk lines ++ [oL ln] = junk ++ .lst (refs (2 + junk.length) lines.length) :: (lines ++ [ln]).map oL := by unfold rulesAt; simp
        rw [← this]; exact w3
      have er : refs (2 + junk.length) lines.length ++ [.gob (2 + (rulesAt junk lines).length)] = refs (2 + junk.length) (lines ++ [ln]).length := by
        unfold refs rulesAt
        rw [show (lines ++ [ln]).length = lines.length + 1 by simp, List.range_succ, List.map_append]
        simp; omega
      have ap : pMt .append (.gob (2 + junk.length)) [.gob (2 + (rulesAt junk lines).length)] ⟨[], g'⟩ = .ok .non ⟨[], g'.set (2 + junk.length) (.lst (refs (2 + junk.length) (lines ++ [ln]).length))⟩ := by
        rw [append_gob (s := ⟨[], g'⟩) (tp_at T2) (by unfold refs; simp; omega) (by
          rw [noLobs_app]
          unfold refs
          rw [noLobs_map (fun _ => noLob_gob)]; simp), er]
      refine ⟨_, ⟨[], g'.set (2 + junk.length) (.lst (refs (2 + junk.length) (lines ++ [ln]).length))⟩, .inl ?_, ⟨lines ++ [ln], some (eI i), some (.gob (2 + (rulesAt junk lines).length)), z10, z11, rfl, by simp [e2], fun o' ho' => ?_, tp_put T2 _⟩, rfl⟩
      · simp only [bnd_ap, asgT_name, ofO_ap, R.bind_ok, List.set_cons_succ, List.set_cons_zero, lineB, exs_cons, ex_asg, ev_lst, evs_nil, ret_ap']
        rw [ite_M_ap, if_pos (by simp), allocG_ok (by simp)]
        simp only [R.bind_ok, bnd_ap, ofO_ap, ret_ap', thenS_next, exs_cons, List.set_cons_succ, List.set_cons_zero]
        rw [gl2]
        rw [show Ob.lst [] = oL [] from rfl, w4]
        simp [isLst_gob (s := ⟨[], g'⟩) (tp_at T2), ap]
      · rcases List.mem_append.mp ho' with z | z
        · exact e3 o' z
        · rw [List.mem_singleton.mp z]; exact ⟨w1, w2⟩)
  obtain ⟨l, g'⟩ := s'
  dsimp only at e4 e5
  subst e1 e5
  refine ⟨lines, g', y4, y9, y10, y11, by rw [e2, List.length_range], e3, e4, ?_⟩
  rw [ex_for (xs := (List.range n).map eI) (s1 := ⟨[], g⟩) (by simp [r1P_nat (show n < 2 ^ 62 by omega)]), h1']
end
end FW

end

section
set_option Elab.async false
set_option linter.all false
set_option maxRecDepth 100000
/-! Mp11: the drawn programs are right. -/
namespace FW
open PySem L2
section
variable {junk : List Ob} {g : List Ob}
theorem rulesAt_line {lines : Rules} {i : Nat} {ln : Line} (h : lines[i]? = some ln) : (rulesAt junk lines)[junk.length + 1 + i]? = some (oL ln) := by
  unfold rulesAt
  rw [List.getElem?_append_right (by omega), show junk.length + 1 + i - junk.length = i + 1 by omega]
  simp [h]
theorem rulesAt_set {lines : Rules} {i : Nat} {ln : Line} : (rulesAt junk lines).set (junk.length + 1 + i) (oL ln) = rulesAt junk (lines.set i ln) := by
  unfold rulesAt
  rw [List.set_append_right _ _ (by omega), show junk.length + 1 + i - junk.length = i + 1 by omega]
  simp
theorem std_of {lines : Rules} (T : Tp (rulesAt junk lines) g) (h1 : lines.length ≤ 12) (h2 : ∀ ln ∈ lines, ln.length ≤ 6) (h3 : ∀ ln ∈ lines, ∀ r, some r ∈ ln → r.length ≤ 6) : Std g (2 + junk.length) lines where
  top := tp_at T
  at_ := fun i line h => by
    rw [show 2 + junk.length + 1 + i = 2 + (junk.length + 1 + i) by omega, tp_get T]
    exact rulesAt_line h
  n := h1
  len := h2
  rule := h3
theorem oL_noLob {l : Line} : (oL l).noLob = true := by unfold oL; simp [Ob.noLob, Ob.ps]
def mendB : List St := [.ifs (.cmp .notIn (.var 4) (.var 5)) [.asub (.sub (.var 8) (.var 4)) (.call "_law_draw" [(.var 0), (.var 6)] []) (.tup [])] []]
theorem mend_eq {lines : Rules} {m n : Nat} (hm : 0 < m) (hm' : m ≤ 6) (hn : lines.length = n) (hn' : n ≤ 12) (ho : ∀ ln ∈ lines, OkLine m n ln) (T : Tp (rulesAt junk lines) g) (fd : List Nat) (a b c x4 x9 x10 x11 x12 : Option P) :
    ∃ (lns : Rules) (g' : List Ob) (y4 : Option P), lns.length = n ∧ (∀ ln ∈ lns, OkLine m n ln) ∧ Tp (rulesAt junk lns) g' ∧ (∀ i ∈ fd, lns[i]? = lines[i]?) ∧ (∀ i, i < n → i ∉ fd → ∃ ln, lns[i]? = some ln ∧ some [] ∈ ln) ∧
      ex dp_law_program.phi (.for_ (.name 4) (.range1 (.var 7)) mendB) [some (.gob 1), a, b, c, x4, some (eIs fd), some (eI m), some (eI n), some (.gob (2 + junk.length)), x9, x10, x11, x12] ⟨[], g⟩ = .ok (.next, [some (.gob 1), a, b, c, y4, some (eIs fd), some (eI m), some (eI n), some (.gob (2 + junk.length)), x9, x10, x11, x12]) ⟨[], g'⟩ := by
  obtain ⟨ρ', s', h1', ⟨lns, y4, e1, e2, e3, e4, e6, e7⟩, e5⟩ := forVals_all (α := Nat) (e := eI) (as := List.range n) (step := fun x ρ' => bnd (ofO (asgT (.name 4) x ρ')) fun ρ2 => exs dp_law_program.phi mendB ρ2)
    (fun pre ρ s => (∃ (lns : Rules) (y4 : Option P), ρ = [some (.gob 1), a, b, c, y4, some (eIs fd), some (eI m), some (eI n), some (.gob (2 + junk.length)), x9, x10, x11, x12] ∧ lns.length = n ∧ (∀ ln ∈ lns, OkLine m n ln) ∧ Tp (rulesAt junk lns) s.g ∧ (∀ i ∈ fd, lns[i]? = lines[i]?) ∧ (∀ i, i < pre.length → i ∉ fd → ∃ ln, lns[i]? = some ln ∧ some [] ∈ ln)) ∧ s.l = []) (ρ := [some (.gob 1), a, b, c, x4, some (eIs fd), some (eI m), some (eI n), some (.gob (2 + junk.length)), x9, x10, x11, x12]) (s := ⟨[], g⟩) ⟨⟨lines, _, rfl, hn, ho, T, (fun _ _ => rfl), (fun i hi => absurd hi (Nat.not_lt_zero _))⟩, rfl⟩ (fun p1 i p2 ρ s he ⟨⟨lns, y4, e1, e2, e3, e4, e6, e7⟩, e5⟩ => by
      obtain ⟨l, g⟩ := s
      dsimp only at e4 e5
      subst e1 e5
      have hlen : p1.length < n := by
        have := congrArg List.length he
        simp at this; omega
      have hi : i = p1.length := by
        have h := congrArg (fun l : List Nat => l[p1.length]?) he
        simp [hlen] at h
        exact h.symm
      subst hi
      by_cases hf : p1.length ∈ fd
      · refine ⟨_, ⟨[], g⟩, .inl ?_, ⟨lns, some (eI p1.length), rfl, e2, e3, e4, e6, fun i hi hi2 => ?_⟩, rfl⟩
        · simp [mendB, pIn_nats, hf]
        · rw [List.length_append, List.length_singleton] at hi
          by_cases z : i = p1.length
          · exact absurd (z ▸ hf) hi2
          · exact e7 i (by omega) hi2
      · obtain ⟨d, g', q1, q2, q3⟩ := draw_l e4 hm (by omega)
        obtain ⟨ln, hln⟩ : ∃ ln, lns[p1.length]? = some ln := ⟨lns[p1.length], List.getElem?_eq_getElem (by omega)⟩
        have okl := e3 ln (List.mem_of_getElem? hln)
        have T2 : Tp (rulesAt junk (lns.set p1.length (ln.set d (some [])))) (g'.set (2 + (junk.length + 1 + p1.length)) (oL (ln.set d (some [])))) := by
          have := tp_set q2 (junk.length + 1 + p1.length) (oL (ln.set d (some [])))
          rw [rulesAt_set] at this; exact this
        have ix : pIdx (.gob (2 + junk.length)) (eI p1.length) ⟨[], g⟩ = .ok (.gob (2 + junk.length + 1 + p1.length)) ⟨[], g⟩ := by
          refine pIdx_list (xs := refs (2 + junk.length) lns.length) (fun _ => nofun) ?_ ?_
          · unfold itemsOf; dsimp only; rw [tp_at e4]
          · unfold refs; simp [e2, hlen]
        have st : pSet (.gob (2 + junk.length + 1 + p1.length)) (eI d) (.tup []) ⟨[], g'⟩ = .ok () ⟨[], g'.set (2 + (junk.length + 1 + p1.length)) (oL (ln.set d (some [])))⟩ := by
          have hg : g'[2 + junk.length + 1 + p1.length]? = some (oL ln) := by
            rw [show 2 + junk.length + 1 + p1.length = 2 + (junk.length + 1 + p1.length) by omega, tp_get q2]; exact rulesAt_line hln
          have hl : listOf ⟨[], g'⟩ (.gob (2 + junk.length + 1 + p1.length)) = some (ln.map eO) := by
            unfold listOf; dsimp only; rw [hg]; rfl
          have hx : L2.ixN (ln.map eO).length (d : Int) = some d := by
            unfold L2.ixN
            rw [if_pos (by omega), if_pos (by rw [List.length_map, okl.1]; omega)]
            simp
          unfold pSet
          dsimp only
          rw [hl]
          dsimp only
          rw [hx]
          dsimp only
          unfold setOb
          dsimp only
          rw [if_pos]
          · rw [show 2 + junk.length + 1 + p1.length = 2 + (junk.length + 1 + p1.length) by omega]
            unfold oL
            rw [List.map_set]; rfl
          · rw [decide_eq_true (List.getElem?_eq_some_iff.mp hg).1, Bool.true_and]
            have : (ln.map eO).set d (.tup []) = (ln.set d (some [])).map eO := by rw [List.map_set]; rfl
            rw [this]
            exact oL_noLob (l := ln.set d (some []))
        refine ⟨_, ⟨[], g'.set (2 + (junk.length + 1 + p1.length)) (oL (ln.set d (some [])))⟩, .inl ?_, ⟨lns.set p1.length (ln.set d (some [])), some (eI p1.length), rfl, by rw [List.length_set, e2], fun l' hl' => ?_, T2, fun i hi => ?_, fun i hi hi2 => ?_⟩, rfl⟩
        · simp [mendB, pIn_nats, hf, ix, q3, st]
        · rcases List.mem_or_eq_of_mem_set hl' with z | z
          · exact e3 l' z
          · subst z
            refine ⟨by rw [List.length_set, okl.1], fun o' ho' => ?_⟩
            rcases List.mem_or_eq_of_mem_set ho' with z | z
            · exact okl.2 o' z
            · subst z
              intro r hr; cases hr
              exact ⟨by decide, fun j hj => by cases hj⟩
        · rw [List.getElem?_set_ne (show p1.length ≠ i from fun z => hf (by rw [z]; exact hi))]
          exact e6 i hi
        · rw [List.length_append, List.length_singleton] at hi
          by_cases z : i = p1.length
          · subst z
            refine ⟨ln.set d (some []), by rw [List.getElem?_set_self (by omega)], ?_⟩
            exact List.mem_iff_getElem?.mpr ⟨d, by rw [List.getElem?_set_self (by rw [okl.1]; exact q1)]⟩
          · rw [List.getElem?_set_ne (fun z2 => z z2.symm)]
            exact e7 i (by omega) hi2)
  obtain ⟨l, g'⟩ := s'
  dsimp only at e4 e5
  subst e1 e5
  refine ⟨lns, g', y4, e2, e3, e4, e6, (by simpa using e7), ?_⟩
  rw [ex_for (xs := (List.range n).map eI) (s1 := ⟨[], g⟩) (by simp [r1P_nat (show n < 2 ^ 62 by omega)]), h1']
/-- junk that leads nowhere else -/
def GoodJ (junk : List Ob) : Prop := ∀ o ∈ junk, ∃ xs, o = .lst xs ∧ ∀ p ∈ xs, (∃ i, p = .gob i ∧ i < 2 + junk.length) ∨ ∃ q, p = eO q
theorem goodJ_nil : GoodJ [] := fun _ z => by cases z
theorem goodJ_rules {lines : Rules} (G : GoodJ junk) : GoodJ (rulesAt junk lines) := by
  have hl : (rulesAt junk lines).length = junk.length + 1 + lines.length := by unfold rulesAt; simp; omega
  intro o ho
  unfold rulesAt at ho
  rcases List.mem_append.mp ho with z | z
  · obtain ⟨xs, h1, h2⟩ := G o z
    refine ⟨xs, h1, fun p hp => ?_⟩
    rcases h2 p hp with ⟨i, k1, k2⟩ | k
    · exact .inl ⟨i, k1, by omega⟩
    · exact .inr k
  · rcases List.mem_cons.mp z with z | z
    · refine ⟨_, z, fun p hp => .inl ?_⟩
      unfold refs at hp
      obtain ⟨i, hi, rfl⟩ := List.mem_map.mp hp
      exact ⟨_, rfl, by have := List.mem_range.mp hi; omega⟩
    · obtain ⟨ln, _, rfl⟩ := List.mem_map.mp z
      exact ⟨ln.map eO, rfl, fun p hp => .inr (by obtain ⟨q, _, rfl⟩ := List.mem_map.mp hp; exact ⟨q, rfl⟩)⟩
theorem lowG_of (G : GoodJ junk) (T : Tp junk g) : LowG g := by
  have hl := tp_len T
  obtain ⟨a, b, c, d, rfl⟩ := T
  refine List.all_eq_true.mpr fun o ho => ?_
  have hint : ∀ (l : List Int) (n : Nat), lowGs n (l.map P.int) = true := fun l n => lowGs_of fun p hp => by obtain ⟨j, _, rfl⟩ := List.mem_map.mp hp; exact lowG_int
  have two : 0 < (GT a b c d junk).length := by omega
  generalize (GT a b c d junk).length = n at hl two ⊢
  unfold GT at ho
  rcases List.mem_cons.mp ho with rfl | ho
  · exact hint a _
  · rcases List.mem_cons.mp ho with rfl | ho
    · simp [Ob.low, lowGk, lowG, hint]
      exact two
    · obtain ⟨xs, rfl, h2⟩ := G o ho
      show lowGs n xs = true
      refine lowGs_of fun p hp => ?_
      rcases h2 p hp with ⟨i, rfl, k2⟩ | ⟨q, rfl⟩
      · rw [lowG]; exact decide_eq_true (by omega)
      · exact lowG_eO
theorem live_all {lines lns : Rules} {fd : List Nat} {n : Nat} (hl : lns.length = n) (F : ∀ i ∈ fd, Lv lines i) (h1 : ∀ i ∈ fd, lns[i]? = lines[i]?) (h2 : ∀ i, i < n → i ∉ fd → ∃ ln, lns[i]? = some ln ∧ some [] ∈ ln) (hn : lines.length = n) : AllLive lns := by
  intro S hS i hi
  have dead : ∀ i, i < n → i ∉ fd → S i := fun i hi hf => by
    obtain ⟨ln, k1, k2⟩ := h2 i hi hf
    exact hS i ln [] k1 k2 fun j hj => by cases hj
  by_cases hf : i ∈ fd
  · refine F i hf S fun i line r k1 k2 k3 => ?_
    by_cases hf2 : i ∈ fd
    · exact hS i line r (by rw [h1 i hf2]; exact k1) k2 k3
    · exact dead i (by rw [← hn]; exact (List.getElem?_eq_some_iff.mp k1).1) hf2
  · exact dead i (by omega) hf
/-- WHAT IS DRAWN IS A PROGRAM -/
structure Drawn (m : Nat) (rs : Rules) : Prop where
  ok : OkP m rs
  m3 : m ≤ 3
  n5 : rs.length ≤ 5
  r3 : ∀ line ∈ rs, ∀ r, some r ∈ line → r.length ≤ 3
theorem program_eq (T : Tp junk g) (G : GoodJ junk) : ∃ (m : Nat) (rs : Rules) (g' junk' : List Ob), F_law_program [.gob 1, .int 3, .int 5, .int 3] g = .ok (eLp m rs) g' ∧ Tp junk' g' ∧ GoodJ junk' ∧ Drawn m rs := by
  obtain ⟨d1, g1, a1, a2, a3⟩ := draw_eq T (n := 3) (by decide) (by decide)
  have a3 : F_law_draw [.gob 1, .int 3] g = .ok (eI d1) g1 := a3
  obtain ⟨d2, g2, b1, b2, b3⟩ := draw_eq a2 (n := 5) (by decide) (by decide)
  have b3 : F_law_draw [.gob 1, .int 5] g1 = .ok (eI d2) g2 := b3
  obtain ⟨m, em⟩ : ∃ m, m = 1 + d1 := ⟨_, rfl⟩
  obtain ⟨n, en⟩ : ∃ n, n = 1 + d2 := ⟨_, rfl⟩
  have T3 : Tp (rulesAt junk []) (g2 ++ [.lst []]) := tp_alloc b2 (.lst [])
  obtain ⟨lines, g4, y4, y9, y10, y11, c1, c2, c3, c4⟩ := lines_eq T3 (n := n) (m := m) (by omega) (by omega) (by omega) (some (.int 3)) (some (.int 5)) none none none none none none
  obtain ⟨fd, f1, f2⟩ := live_eq (std_of c3 (by omega) (fun ln h => by have := (c2 ln h).1; omega) (fun ln h r hr => by have := ((c2 ln h).2 _ hr r rfl).1; omega))
  obtain ⟨lns, g5, z4, e1, e2, e3, e4, e5, e6⟩ := mend_eq (m := m) (n := n) (by omega) (by omega) c1 (by omega) c2 c3 fd (some (.int 3)) (some (.int 5)) (some (.int 3)) y4 y9 y10 y11 none
  refine ⟨m, lns, g5, rulesAt junk lns, ?_, e3, goodJ_rules G, ⟨⟨by omega, by omega, by omega, by omega, fun ln h => (e2 ln h).1, fun ln h r hr => ?_, live_all e1 f2.lv e4 e5 c1⟩, by omega, by omega, fun ln h r hr => ((e2 ln h).2 _ hr r rfl).1⟩⟩
  · have gl := tp_len b2
    have i1 : (1 : Int) + (d1 : Int) = (m : Int) := by omega
    have i2 : (1 : Int) + (d2 : Int) = (n : Int) := by omega
    have fin : ∀ (ρ : Rho), getV ρ 8 ⟨[], g5⟩ = .ok (.gob (2 + junk.length)) ⟨[], g5⟩ → ρ.length = 13 → ev dp_law_program.phi (.comp .val (.bi .val .tuple [.var 9]) (.name 9) (.seq (.var 8)) [] [9]) ρ ⟨[], g5⟩ = .ok (.lst (lns.map eL)) ⟨[], g5⟩ := fun ρ h8 hl => by
      have := ev_compR (Φ := dp_law_program.phi) (ρ := ρ) (s := ⟨[], g5⟩) (elt := .bi .val .tuple [.var 9]) (tg := .name 9) (it := .seq (.var 8)) (ifs := []) (own := [9]) (p := .gob (2 + junk.length)) (List.range lns.length) (fun i => .gob (2 + junk.length + 1 + i)) (fun _ => true) (fun i => eL ((lns[i]?).getD [])) ?_ ?_ (fun i hi => ⟨_, rfl, by simp, fun _ => ?_⟩) (by simp; omega)
      · rw [this, show (List.range lns.length).filter (fun _ => true) = List.range lns.length by simp]
        have hh : (List.range lns.length).map (fun i => eL ((lns[i]?).getD [])) = lns.map eL := by
          refine List.ext_getElem? fun i => ?_
          by_cases hi : i < lns.length
          · simp [hi]
          · simp [hi]
        rw [hh]
      · simp [h8]
        unfold iterOf
        dsimp only
        rw [tp_at e3]
      · unfold listOf; dsimp only; rw [tp_at e3]; rfl
      · have hi' := List.mem_range.mp hi
        obtain ⟨ln, hln⟩ : ∃ ln, lns[i]? = some ln := ⟨lns[i], List.getElem?_eq_getElem hi'⟩
        have hg : g5[2 + junk.length + 1 + i]? = some (oL ln) := by
          rw [show 2 + junk.length + 1 + i = 2 + (junk.length + 1 + i) by omega, tp_get e3]; exact rulesAt_line hln
        have h9 : getV ((wipeR ρ [9]).set 9 (some (.gob (2 + junk.length + 1 + i)))) 9 ⟨[], g5⟩ = .ok (.gob (2 + junk.length + 1 + i)) ⟨[], g5⟩ := by
          unfold getV
          rw [List.getElem?_set_self (by simp [wipeR, hl])]
          rfl
        have htp : pBi dp_law_program.phi .val .tuple [.gob (2 + junk.length + 1 + i)] ⟨[], g5⟩ = .ok (.tup (ln.map eO)) ⟨[], g5⟩ := by
          unfold pBi; dsimp only [itemsOf]; rw [hg]; rfl
        simp only [ev_bi, evs_cons, evs_nil, bnd_ap, ev_var, ret_ap', R.bind_ok]
        rw [h9]
        simp only [R.bind_ok, bnd_ap, ret_ap']
        rw [htp, hln]
        rfl
    unfold lineB cellB at c4
    unfold mendB at e6
    have al : mkL .glob [] ⟨[], g2⟩ = .ok (.gob (2 + junk.length)) ⟨[], g2 ++ [.lst []]⟩ := by
      rw [allocG_ok (by simp)]; rw [gl]
    simp [F_law_program, b_law_program, run, a3, b3, al, i1, i2]
    rw [c4]
    simp [f1]
    rw [e6]
    simp [fin]
    rfl
  · have := (e2 ln h).2 _ hr r rfl
    exact ⟨by omega, fun j hj => by have := this.2 j hj; omega⟩
theorem made_eq {m : Nat} {rs : Rules} (K : OkP m rs) (G : LowG g) : F_law_made [eLp m rs] g = .ok (ePg m rs) g := by
  have hn := K.n12
  simp [F_law_made, b_law_made, run, eLp]
  rw [ev_comp' rs eL lL (by simp [eRs]) (fun l hl => ⟨_, rfl, by simp [lL, eL]⟩) (le_line (by omega))]
  simp [F_Program_eq K G]
end
end FW

end

section
set_option Elab.async false
set_option linter.all false
set_option maxRecDepth 100000
/-! Mp12: steps, texts, sums; the plain law. -/
namespace FW
open PySem L2
/-! ### plain -/
section
variable {m : Nat} {rs : Rules} {cs : List Nat}
theorem lmin_map {f : Nat → Nat} (hf : ∀ a b, a ≤ b → f a ≤ f b) (l : List Nat) : lmin (l.map f) = (lmin l).map f := by
  cases h : lmin l with
  | none => rw [lmin_none.mp h]; rfl
  | some v =>
    obtain ⟨h1, h2⟩ := lmin_some.mp h
    refine lmin_some.mpr ⟨List.mem_map.mpr ⟨v, h1, rfl⟩, fun y hy => ?_⟩
    obtain ⟨u, hu, rfl⟩ := List.mem_map.mp hy
    exact hf _ _ (h2 u hu)
theorem qB_mono (a b : Nat) (h : a ≤ b) : qB a ≤ qB b := Nat.div_le_div_right h
theorem known_map {T T' : Tab} (h : ∀ i, T' i = (T i).map qB) (r : Rule) : known T' r = known T r := by
  unfold known
  congr 1
  funext j
  rw [h j]; cases T j <;> rfl
theorem sumT_map {T T' : Tab} (h : ∀ i, T' i = (T i).map qB) : ∀ r : Rule, sumT T' r = cstT T r
  | [] => rfl
  | j :: r => by
    rw [sumT_cons, sumT_map h r, h j]
    unfold cstT
    rw [List.map_cons, List.sum_cons]
    cases T j with
    | none => simp [qB]
    | some v => rfl
/-- THE FIRST OF EACH PAIR IS THE LEAST COST -/
theorem it_q (K : OkP m rs) {c : Nat → Nat} : ∀ k, k ≤ 24 → ∀ i, itT rs c k i = (itT rs (wB c) k i).map qB
  | 0, _, i => rfl
  | k + 1, hk, i => by
    have ih := it_q K (c := c) k (by omega)
    show stepT rs c (itT rs c k) i = (stepT rs (wB c) (itT rs (wB c) k) i).map qB
    unfold stepT
    cases hi : rs[i]? with
    | none => rfl
    | some line =>
      dsimp only
      rw [← lmin_map qB_mono]
      congr 1
      unfold cands
      rw [List.map_filterMap]
      refine filterMap_congr' fun p hp => ?_
      obtain ⟨o, l⟩ := p
      have ho : line[l]? = some o := by
        have := List.mk_mem_zipIdx_iff_getElem?.mp hp
        simpa using this
      cases o with
      | none => rfl
      | some r =>
        dsimp only
        rw [known_map ih]
        have h6 := (K.rule line (List.mem_of_getElem? hi) r (List.mem_of_getElem? ho)).1
        cases hkn : known (itT rs (wB c) k) r with
        | false => rfl
        | true =>
          have hs := it_sum K (c := c) (k := k) (by omega) h6 hkn
          simp only [if_true, Option.map_some]
          rw [sumT_map ih]
          have e : wB c l + sumT (itT rs (wB c) k) r = (c l + cstT (itT rs (wB c) k) r) * BB + (1 + lenT (itT rs (wB c) k) r) := by
            rw [sum_code, Nat.add_mul]; unfold wB; omega
          rw [e, code_div (by omega)]
theorem lim_q (K : OkP m rs) {c : Nat → Nat} (i : Nat) : lim rs c i = (lim rs (wB c) i).map qB := it_q K rs.length (by have := K.n12; omega) i
theorem lim_q' (K : OkP m rs) {c : Nat → Nat} (i : Nat) : qB ((lim rs (wB c) i).getD 0) = (lim rs c i).getD 0 := by
  rw [lim_q K (c := c)]
  cases lim rs (wB c) i with
  | none => simp [qB]
  | some v => rfl
theorem cst_sum (K : OkP m rs) {c : Nat → Nat} (row : List Nat) : cstT (lim rs (wB c)) row = sumT (lim rs c) row := (sumT_map (lim_q K) row).symm
theorem cands_congr {w w' : Nat → Nat} {T : Tab} {line : Line} (h : ∀ l, l < line.length → w l = w' l) : cands w T line = cands w' T line := by
  unfold cands
  refine filterMap_congr' fun p hp => ?_
  obtain ⟨o, l⟩ := p
  have ho : line[l]? = some o := by
    have := List.mk_mem_zipIdx_iff_getElem?.mp hp
    simpa using this
  dsimp only
  rw [h l (List.getElem?_eq_some_iff.mp ho).1]
theorem it_congr {w w' : Nat → Nat} (h : ∀ line ∈ rs, ∀ l, l < line.length → w l = w' l) : ∀ k, itT rs w k = itT rs w' k
  | 0 => rfl
  | k + 1 => by
    show stepT rs w (itT rs w k) = stepT rs w' (itT rs w' k)
    rw [it_congr h k]
    funext i
    unfold stepT
    cases hi : rs[i]? with
    | none => rfl
    | some line => dsimp only; rw [cands_congr (h line (List.mem_of_getElem? hi))]
theorem lim_congr {w w' : Nat → Nat} (h : ∀ line ∈ rs, ∀ l, l < line.length → w l = w' l) : lim rs w = lim rs w' := it_congr h _
/-- norms grow at most so -/
theorem sumT_le {T : Tab} {L : Nat} : ∀ {r : Rule}, (∀ j ∈ r, (T j).getD 0 ≤ L) → sumT T r ≤ r.length * L
  | [], _ => Nat.zero_le _
  | j :: r, h => by
    have := sumT_le (T := T) (L := L) fun k hk => h k (List.mem_cons_of_mem _ hk)
    have h1 := h j List.mem_cons_self
    rw [sumT_cons, List.length_cons, Nat.add_mul]
    omega
theorem it_one {d : Nat} (hr : ∀ line ∈ rs, ∀ r, some r ∈ line → r.length ≤ d) : ∀ k i v, itT rs (fun _ => 1) k i = some v → v ≤ (d + 1) ^ k
  | 0, i, v, h => by cases h
  | k + 1, i, v, h => by
    have ih := it_one hr k
    have hs : stepT rs (fun _ => 1) (itT rs (fun _ => 1) k) i = some v := h
    unfold stepT at hs
    cases hi : rs[i]? with
    | none => rw [hi] at hs; cases hs
    | some line =>
      rw [hi] at hs
      obtain ⟨l, r, g1, g2, g3⟩ := mem_cands.mp (lmin_some.mp hs).1
      have hrl := hr line (List.mem_of_getElem? hi) r (List.mem_of_getElem? g1)
      have hl : sumT (itT rs (fun _ => 1) k) r ≤ d * (d + 1) ^ k := by
        refine Nat.le_trans (sumT_le (L := (d + 1) ^ k) fun j hj => ?_) (Nat.mul_le_mul_right _ hrl)
        obtain ⟨u, hu⟩ := known_iff.mp g2 j hj
        rw [hu]; exact ih j u hu
      have h1 : 1 ≤ (d + 1) ^ k := Nat.pow_pos (by omega)
      have h2 : (d + 1) ^ (k + 1) = d * (d + 1) ^ k + (d + 1) ^ k := by rw [Nat.pow_succ, Nat.mul_comm, Nat.add_mul, Nat.one_mul]
      omega
/-- no text is cheaper -/
theorem text_ge (K : OkP m rs) {c : Nat → Nat} : ∀ {t row r : List Nat}, (∀ j ∈ row, j < rs.length) → rafter rs row t = some r → sumT (lim rs c) row ≤ wsum c t + sumT (lim rs c) r
  | [], row, r, _, h => by cases h; exact Nat.le_add_left _ _
  | l :: t, row, r, hr, h => by
    rw [rafter] at h
    cases hs : rstep rs row l with
    | none => rw [hs] at h; cases h
    | some row' =>
      rw [hs] at h
      cases row with
      | nil => cases hs
      | cons i rest =>
        unfold rstep at hs
        dsimp only at hs
        cases hi : rs[i]? with
        | none => rw [hi] at hs; cases hs
        | some line =>
          rw [hi] at hs
          dsimp only at hs
          cases hl : line[l]? with
          | none => rw [hl] at hs; cases hs
          | some o =>
            rw [hl] at hs
            cases o with
            | none => cases hs
            | some q =>
              cases hs
              have hq := (K.rule line (List.mem_of_getElem? hi) q (List.mem_of_getElem? hl)).2
              have := text_ge K (c := c) (t := t) (row := q ++ rest) (r := r) (fun j hj => by
                rcases List.mem_append.mp hj with z | z
                · exact hq j z
                · exact hr j (List.mem_cons_of_mem _ z)) h
              have h2 := lim_le K.live (w := c) hi hl hq
              rw [sumT_app] at this
              rw [sumT_cons]
              show _ ≤ wsum c (l :: t) + _
              have h3 : wsum c (l :: t) = c l + wsum c t := by unfold wsum; rw [List.map_cons, List.sum_cons]
              omega
/-- what a step keeps -/
theorem rstep_ok (K : OkP m rs) {row r : List Nat} {l : Nat} (hr : ∀ j ∈ row, j < rs.length) (h : rstep rs row l = some r) : l < m ∧ (∀ j ∈ r, j < rs.length) ∧ r.length ≤ row.length + 6 ∧ row ≠ [] := by
  cases row with
  | nil => cases h
  | cons i rest =>
    unfold rstep at h
    dsimp only at h
    cases hi : rs[i]? with
    | none => rw [hi] at h; cases h
    | some line =>
      rw [hi] at h
      dsimp only at h
      cases hl : line[l]? with
      | none => rw [hl] at h; cases h
      | some o =>
        rw [hl] at h
        cases o with
        | none => cases h
        | some q =>
          cases h
          have hq := K.rule line (List.mem_of_getElem? hi) q (List.mem_of_getElem? hl)
          refine ⟨?_, fun j hj => ?_, ?_, by simp⟩
          · rw [← K.len line (List.mem_of_getElem? hi)]; exact (List.getElem?_eq_some_iff.mp hl).1
          · rcases List.mem_append.mp hj with z | z
            · exact hq.2 j z
            · exact hr j (List.mem_cons_of_mem _ z)
          · rw [List.length_append, List.length_cons]; omega
theorem rafter_letters (K : OkP m rs) : ∀ {t row r : List Nat}, (∀ j ∈ row, j < rs.length) → rafter rs row t = some r → ∀ l ∈ t, l < m
  | [], _, _, _, _, l, hl => by cases hl
  | a :: t, row, r, hr, h, l, hl => by
    rw [rafter] at h
    cases hs : rstep rs row a with
    | none => rw [hs] at h; cases h
    | some row' =>
      rw [hs] at h
      have := rstep_ok K hr hs
      rcases List.mem_cons.mp hl with rfl | z
      · exact this.1
      · exact rafter_letters K this.2.1 h l z
/-! ### steps -/
theorem rsub (K : OkP m rs) {i : Nat} {line : Line} {s : Sto} (h : rs[i]? = some line) : pIdx (eRs rs) (eI i) s = .ok (eL line) s := by
  unfold eRs; exact pIdx_tup (by simp [h])
theorem lsub {line : Line} {l : Nat} {o : Option Rule} {s : Sto} (h : line[l]? = some o) : pIdx (eL line) (eI l) s = .ok (eO o) s := by
  unfold eL; exact pIdx_tup (by simp [h])
theorem step_eq (K : OkP m rs) {row : List Nat} {l : Nat} (hr : ∀ j ∈ row, j < rs.length) (hl : l < m) (hlen : row.length ≤ 1000000) (g : List Ob) : F_law_step [eLp m rs, eR row, eI l] g = .ok (eO (rstep rs row l)) g := by
  cases row with
  | nil =>
    simp [F_law_step, b_law_step, run, eq_nil, rstep, eO]
  | cons i rest =>
    obtain ⟨line, hi⟩ : ∃ line, rs[i]? = some line := ⟨rs[i]'(hr i List.mem_cons_self), List.getElem?_eq_getElem _⟩
    have hm := List.mem_of_getElem? hi
    obtain ⟨o, ho⟩ : ∃ o, line[l]? = some o := ⟨line[l]'(by rw [K.len line hm]; exact hl), List.getElem?_eq_getElem _⟩
    have e0 : ∀ s, pIdx (eR (i :: rest)) (.int 0) s = .ok (eI i) s := fun s => pIdx_tup (n := 0) (by simp)
    have e1 : rstep rs (i :: rest) l = o.map fun r => r ++ rest := by
      unfold rstep; dsimp only; rw [hi]; dsimp only; rw [ho]; cases o <;> rfl
    have e2 : ∀ s, pIdx (eLp m rs) (.int 1) s = .ok (eRs rs) s := fun s => pIdx_tup (n := 1) rfl
    rw [e1]
    cases o with
    | none => simp [F_law_step, b_law_step, run, eq_nil, e0, e2, rsub K hi, lsub ho, eO]
    | some r =>
      have h6 := (K.rule line hm r (List.mem_of_getElem? ho)).1
      have e3 : ∀ s, pCut .val (eR (i :: rest)) (some 1) none s = .ok (eR rest) s := fun s => by
        unfold pCut eR cutP
        dsimp only
        rw [show (some 1 : Option Int) = some ((1 : Nat) : Int) from rfl, HT.sIx_nat, HT.sIx_none]
        simp
        exact List.take_of_length_le (by simp)
      have e4 : ∀ s, pBin .val .add (eR r) (eR rest) s = .ok (eR (r ++ rest)) s := fun s => by
        unfold eR
        rw [pBin_add_tup (by rw [List.length_map, List.length_map]; rw [List.length_cons] at hlen; unfold FW.line; omega), List.map_append]
      simp [F_law_step, b_law_step, run, eq_nil, e0, e2, rsub K hi, lsub ho, eO, isAbs, toI, e3, e4]
/-- a text is read -/
theorem after_eq (K : OkP m rs) {row : List Nat} {text : List Nat} (hr : ∀ j ∈ row, j < rs.length) (ht : ∀ l ∈ text, l < m) (hlen : row.length ≤ 100) (htl : text.length ≤ 100000) (g : List Ob) : F_law_after [eLp m rs, eR row, eR text] g = .ok (eO (rafter rs row text)) g := by
  obtain ⟨ρ', s', h1, ⟨a, e1, h2⟩, e2⟩ := forVals_all (α := Nat) (e := eI) (as := text) (step := fun x ρ' => bnd (ofO (asgT (.name 3) x ρ')) fun ρ2 => exs dp_law_after.phi [.asg (.name 1) (.ite (.cmp .is_ (.var 1) .non) .non (.call "_law_step" [(.var 0), (.var 1), (.var 3)] []))] ρ2)
    (fun pre ρ s => (∃ a, ρ = [some (eLp m rs), some (eO (rafter rs row pre)), some (eR text), a] ∧ ∀ r, rafter rs row pre = some r → r.length ≤ row.length + 6 * pre.length ∧ ∀ j ∈ r, j < rs.length) ∧ s = (⟨[], g⟩ : Sto)) (ρ := [some (eLp m rs), some (eR row), some (eR text), none]) (s := ⟨[], g⟩) ⟨⟨none, rfl, fun r h => by cases h; exact ⟨by simp, hr⟩⟩, rfl⟩ (fun p1 l p2 ρ s he ⟨⟨a, e1, h2⟩, e2⟩ => by
      subst e1 e2
      have hl : l < m := ht l (by rw [he]; simp)
      have hp : p1.length ≤ text.length := by rw [he]; simp
      have ea : rafter rs row (p1 ++ [l]) = (rafter rs row p1).bind fun r => rstep rs r l := by
        rw [rafter_app]
        congr 1
        funext r
        rw [rafter]
        cases rstep rs r l <;> rfl
      cases hs : rafter rs row p1 with
      | none =>
        refine ⟨_, _, .inl ?_, ⟨some (eI l), rfl, ?_⟩, rfl⟩
        · simp [hs, eO, ea]
        · rw [ea, hs]; intro r h; cases h
      | some r =>
        obtain ⟨k1, k2⟩ := h2 r hs
        have st := step_eq K k2 hl (by omega)
        refine ⟨_, _, .inl ?_, ⟨some (eI l), rfl, ?_⟩, rfl⟩
        · simp [hs, ea, isNonP_eO]
          rw [show eO (some r) = eR r from rfl]
          simp [st]
        · rw [ea, hs]
          intro r' h
          obtain ⟨_, w2, w3, _⟩ := rstep_ok K k2 h
          rw [List.length_append, List.length_singleton]
          exact ⟨by omega, w2⟩)
  subst e1 e2
  simp [F_law_after, b_law_after, run]
  rw [ex_for (xs := text.map eI) (s1 := ⟨[], g⟩) (by simp [eR]), h1]
  simp
theorem lawnorm_eq {ns : List Nat} {row : Rule} (h : ∀ j ∈ row, j < ns.length) (hl : row.length ≤ 1000000) (g : List Ob) : F_law_norm [eIs ns, eR row] g = .ok (eI ((row.map fun j => ns.getD j 0).sum)) g := by
  simp [F_law_norm, b_law_norm, run]
  rw [ev_comp' row eI (fun j => .int ((ns.getD j 0 : Nat) : Int)) (by simp [eR]) (fun j hj => ⟨_, rfl, ?_⟩) (by unfold FW.line; omega)]
  · simp [pBi_sum, ints_nat]
  · simp
    unfold eIs
    rw [pIdx_lst (p := eI (ns.getD j 0)) (by simp [h j hj])]
    simp
theorem whole_int (i : Int) (g : List Ob) : F_law_whole [.int i] g = .ok (.bl true) g := by simp [F_law_whole, b_law_whole, run]
theorem letters_ok {text : List Nat} (ht : ∀ l ∈ text, l < m) (htl : text.length ≤ 100000) (g : List Ob) : F_law_letters [eLp m rs, eR text] g = .ok (.bl true) g := by
  simp [F_law_letters, b_law_letters, run]
  have e1 : ∀ s : Sto, pBi dp_law_letters.phi .val .isinstance [eR text, .ty "tuple"] s = .ok (.bl true) s := fun s => rfl
  simp [e1]
  rw [ev_comp text eI (fun _ => false) (fun _ => .int 1) (by simp [eR]) (fun l hl => ⟨_, rfl, ?_, fun z => by cases z⟩) (by unfold FW.line; omega)]
  · simp
    rw [eq_lst_nil (isDs_map (fun _ => by simp [isD]) _)]
    simp
  · have e2 : ∀ s : Sto, pIdx (eLp m rs) (.int 0) s = .ok (eI m) s := fun s => pIdx_tup (n := 0) rfl
    simp [whole_int, e2, ht l hl]
end
end FW

end

section
set_option Elab.async false
set_option linter.all false
set_option maxRecDepth 100000
/-! Mp13: the law's norms and least costs. -/
namespace FW
open PySem L2
/-- a dict at hand -/
def DctAt (s : Sto) (p : P) (kvs : List (KeyP × P)) : Prop := p = .dct false kvs ∨ ∃ n, p = .lob n ∧ s.l[n]? = some (.dct false kvs)
section
variable {rs : Rules} {w : Nat → Nat} {k : Nat} {s : Sto} {p : P}
theorem dct_idx {f : Nat → P} (h : DctAt s p (kvR rs f (itT rs w k))) {j v : Nat} (hv : itT rs w k j = some v) : pIdx p (eI j) s = .ok (f v) s := by
  have hl : look (kvR rs f (itT rs w k)) (kI j) = some (f v) := by rw [look_itT, hv]; rfl
  rcases h with rfl | ⟨n, rfl, h⟩
  · exact pIdx_dct (kk := kI j) rfl rfl hl
  · unfold pIdx itemsOf dctOf
    dsimp only
    rw [h]
    dsimp only
    rw [show keyOf (eI j) = some (kI j) from rfl]
    dsimp only
    rw [hl]
    rfl
theorem dct_in {f : Nat → P} (h : DctAt s p (kvR rs f (itT rs w k))) {j : Nat} : pIn (eI j) p s = .ok (itT rs w k j).isSome s := by
  have hl : look (kvR rs f (itT rs w k)) (kI j) = (itT rs w k j).map f := look_itT
  rcases h with rfl | ⟨n, rfl, h⟩
  · rw [pIn_dct]
    show R.ok (look _ (kI j)).isSome s = _
    rw [hl]; cases itT rs w k j <;> rfl
  · unfold pIn itemsOf dctOf
    dsimp only
    rw [h]
    dsimp only
    rw [show keyOf (eI j) = some (kI j) from rfl]
    dsimp only
    rw [hl]
    cases itT rs w k j <;> rfl
theorem put_lob {n : Nat} {kvs : List (KeyP × P)} {i : Nat} {v : P} (h : s.l[n]? = some (.dct false kvs)) (hl : kvs.length ≤ 1000) (hn : ∀ kv ∈ kvs, kv.1 ≠ kI i) : pSet (.lob n) (eI i) v s = .ok () ⟨s.l.set n (.dct false (kvs ++ [(kI i, v)])), s.g⟩ := by
  unfold pSet listOf dctOf
  dsimp only
  rw [h]
  dsimp only
  rw [show keyOf (eI i) = some (kI i) from rfl]
  dsimp only
  rw [decide_eq_true (show kvs.length < FW.line by unfold FW.line; omega)]
  rw [show (true && isT (kI i) == false) = true from rfl, if_pos rfl, put_new hn, setOb_lob h]
end
theorem filter_cands {α : Type} {q : α → Option Nat} : ∀ {l : List α}, (l.filter fun a => (q a).isSome).map (fun a => eI ((q a).getD 0)) = (l.filterMap q).map eI
  | [] => rfl
  | a :: l => by
    rw [List.filter_cons, List.filterMap_cons]
    cases h : q a with
    | none => simp; exact filter_cands
    | some v => simp [h]; exact filter_cands
/-- what stands told after the first lines -/
def toldK (rs : Rules) (w : Nat → Nat) (k : Nat) (pre : List (Line × Nat)) : List (KeyP × P) := (pre.filter fun p => (lmin (cands w (itT rs w k) p.1)).isSome).map fun p => (kI p.2, eI ((lmin (cands w (itT rs w k) p.1)).getD 0))
theorem toldK_snoc {rs : Rules} {w : Nat → Nat} {k : Nat} {pre : List (Line × Nat)} {p : Line × Nat} : toldK rs w k (pre ++ [p]) = toldK rs w k pre ++ (match lmin (cands w (itT rs w k) p.1) with | some v => [(kI p.2, eI v)] | none => []) := by
  unfold toldK
  rw [List.filter_append, List.map_append]
  congr 1
  cases h : lmin (cands w (itT rs w k) p.1) <;> simp [h]
theorem toldK_all {rs : Rules} {w : Nat → Nat} {k : Nat} : toldK rs w k rs.zipIdx = kvR rs eI (itT rs w (k + 1)) := kvR_it.symm
theorem toldK_new {rs : Rules} {w : Nat → Nat} {k : Nat} {pre post : List (Line × Nat)} {p : Line × Nat} (h : rs.zipIdx = pre ++ p :: post) : ∀ kv ∈ toldK rs w k pre, kv.1 ≠ kI p.2 := by
  intro kv hkv
  unfold toldK at hkv
  obtain ⟨q, hq, rfl⟩ := List.mem_map.mp hkv
  have hq := (List.mem_filter.mp hq).1
  intro z
  have z := kI_inj z
  have nd : (rs.zipIdx.map (·.2)).Nodup := by
    rw [show (fun p : Line × Nat => p.2) = Prod.snd from rfl, List.zipIdx_map_snd]
    exact List.nodup_range'
  rw [h, List.map_append, List.map_cons, List.nodup_append] at nd
  exact nd.2.2 q.2 (List.mem_map.mpr ⟨q, hq, rfl⟩) p.2 List.mem_cons_self z
theorem toldK_len {rs : Rules} {w : Nat → Nat} {k : Nat} {pre post : List (Line × Nat)} (h : rs.zipIdx = pre ++ post) : (toldK rs w k pre).length ≤ rs.length := by
  unfold toldK
  rw [List.length_map]
  have h1 := List.length_filter_le (fun p : Line × Nat => (lmin (cands w (itT rs w k) p.1)).isSome) pre
  have h2 := congrArg List.length h
  rw [List.length_zipIdx, List.length_append] at h2
  omega
section
variable {m : Nat} {rs : Rules} {cs : List Nat}
theorem sub1 {s : Sto} : pIdx (eLp m rs) (.int 1) s = .ok (eRs rs) s := pIdx_tup (n := 1) rfl
theorem sub0 {s : Sto} : pIdx (eLp m rs) (.int 0) s = .ok (eI m) s := pIdx_tup (n := 0) rfl
/-! ### norms -/
def nSome : E := .comp .val (.bin .val .add (.int 1) (.bi .val .sum [(.comp .val (.sub (.var 1) (.var 8)) (.name 8) (.seq (.var 7)) [] [8])])) (.name 7) (.seq (.var 5)) [(.and [(.cmp .isNot (.var 7) .non), (.cmp .eq (.comp .val (.int 1) (.name 8) (.seq (.var 7)) [(.cmp .notIn (.var 8) (.var 1))] [8]) (.lst .val []))])] [7]
def nIn : List St := [.asg (.name 6) nSome, .ifs (.cmp .ne (.var 6) (.lst .val [])) [.asub (.var 3) (.var 4) (.bi .val .min [(.var 6)])] []]
theorem nSome_eq {k : Nat} {s : Sto} {q : P} {line : Line} (D : DctAt s q (kvR rs eI (itT rs (fun _ => 1) k))) (h0 : line.length ≤ 6) (h6 : ∀ r, some r ∈ line → r.length ≤ 6) (a b c d e f : Option P) :
    ev dp_law_norms.phi nSome [a, some q, b, c, d, some (eL line), e, f, none] s = .ok (.lst ((cands (fun _ => 1) (itT rs (fun _ => 1) k) line).map eI)) s := by
  unfold nSome
  rw [ev_comp line eO (fun o => (rnorm (fun _ => 1) (itT rs (fun _ => 1) k) 0 o).isSome) (fun o => eI ((rnorm (fun _ => 1) (itT rs (fun _ => 1) k) 0 o).getD 0)) (by simp [eL]) (fun o ho => ⟨_, rfl, ?_, fun hc => ?_⟩) (le_line (by omega))]
  · rw [filter_cands, ← cands_const]
  · cases o with
    | none => simp [eO, rnorm]
    | some r =>
      have h7 := h6 r ho
      have := all_in_eq (Φ := dp_law_norms.phi) (s := s) (ρ := [a, some q, b, c, d, some (eL line), e, some (eO (some r)), none]) (r := r) (vr := 7) (vf := 1) (t := 8) (c := fun j => (itT rs (fun _ => 1) k j).isSome) (by omega) (by simp [eO]) (fun j hj => by simp [dct_in D])
      rw [show (r.all fun j => (itT rs (fun _ => 1) k j).isSome) = known (itT rs (fun _ => 1) k) r from rfl] at this
      simp [isNonP_eO, rnorm]
      cases hk : known (itT rs (fun _ => 1) k) r <;> (rw [hk] at this; simp at this; rw [this]; simp)
  · cases o with
    | none => cases hc
    | some r =>
      have h7 := h6 r ho
      have hk : known (itT rs (fun _ => 1) k) r = true := by
        cases hk : known (itT rs (fun _ => 1) k) r with
        | true => rfl
        | false => simp [rnorm, hk] at hc
      simp
      rw [ev_comp' r eI (fun j => .int (((itT rs (fun _ => 1) k j).getD 0 : Nat) : Int)) (by simp [eO, eR]) (fun j hj => ⟨_, rfl, ?_⟩) (le_line (by omega))]
      · simp [pBi_sum, sumT_ints, rnorm, hk]
      · obtain ⟨v, hv⟩ := known_iff.mp hk j hj
        simp [dct_idx D hv, hv]
theorem norms_lap (K : OkP m rs) {k : Nat} {s : Sto} {q : P} (D : DctAt s q (kvR rs eI (itT rs (fun _ => 1) k))) (a x3 x4 x5 x6 : Option P) :
    ∃ s' y4 y5 y6, s'.g = s.g ∧ s'.l.length = s.l.length + 1 ∧ s'.l[s.l.length]? = some (.dct false (kvR rs eI (itT rs (fun _ => 1) (k + 1)))) ∧
      exs dp_law_norms.phi [.asg (.name 3) (.dct .loc false [] []), .for_ (.tup [.name 4, .name 5]) (.enum (.sub (.var 0) (.int 1))) nIn, .asg (.name 1) (.var 3)] [some (eLp m rs), some q, a, x3, x4, x5, x6, none, none] s = .ok (.next, [some (eLp m rs), some (.lob s.l.length), a, some (.lob s.l.length), y4, y5, y6, none, none]) s' := by
  have hn := K.n12
  have D0 : ∀ (l : List Ob), DctAt ⟨s.l ++ l, s.g⟩ q (kvR rs eI (itT rs (fun _ => 1) k)) := fun l => by
    rcases D with h | ⟨n, h1, h2⟩
    · exact .inl h
    · refine .inr ⟨n, h1, ?_⟩
      dsimp only
      rw [List.getElem?_append_left (List.getElem?_eq_some_iff.mp h2).1]; exact h2
  obtain ⟨ρ', s', h1, ⟨y4, y5, y6, e1⟩, e2⟩ := forVals_all (α := Line × Nat) (e := fun p => .tup [eI p.2, eL p.1]) (as := rs.zipIdx) (step := fun x ρ' => bnd (ofO (asgT (.tup [.name 4, .name 5]) x ρ')) fun ρ2 => exs dp_law_norms.phi nIn ρ2)
    (fun pre ρ s' => (∃ y4 y5 y6, ρ = [some (eLp m rs), some q, a, some (.lob s.l.length), y4, y5, y6, none, none]) ∧ s' = (⟨s.l ++ [.dct false (toldK rs (fun _ => 1) k pre)], s.g⟩ : Sto)) (ρ := [some (eLp m rs), some q, a, some (.lob s.l.length), x4, x5, x6, none, none]) (s := ⟨s.l ++ [.dct false []], s.g⟩) ⟨⟨_, _, _, rfl⟩, rfl⟩ (fun p1 p p2 ρ s' he ⟨⟨y4, y5, y6, e1⟩, e2⟩ => by
      subst e1 e2
      have hp : p ∈ rs.zipIdx := by rw [he]; simp
      obtain ⟨r1, r2, r3, r4⟩ := rnorm_le K hp
      have ns := nSome_eq (D0 [.dct false (toldK rs (fun _ => 1) k p1)]) (line := p.1) (by omega) (fun r hr => (r4 r hr).1) (some (eLp m rs)) a (some (.lob s.l.length)) (some (eI p.2)) y6 none
      have nn := fun s => ne_nilL (s := s) (l := cands (fun _ => 1) (itT rs (fun _ => 1) k) p.1)
      unfold eIs at nn
      refine ⟨_, _, .inl ?_, ⟨some (eI p.2), some (eL p.1), some (.lst ((cands (fun _ => 1) (itT rs (fun _ => 1) k) p.1).map eI)), rfl⟩, rfl⟩
      simp [nIn, ns, nn]
      rw [toldK_snoc]
      cases hm : lmin (cands (fun _ => 1) (itT rs (fun _ => 1) k) p.1) with
      | none => simp [lmin_none.mp hm]
      | some v =>
        have hne : (cands (fun _ => 1) (itT rs (fun _ => 1) k) p.1).isEmpty = false := by
          cases hh : cands (fun _ => 1) (itT rs (fun _ => 1) k) p.1 with
          | nil => rw [hh] at hm; cases hm
          | cons => rfl
        have hne2 : cands (fun _ => 1) (itT rs (fun _ => 1) k) p.1 ≠ [] := fun z => by rw [z] at hne; cases hne
        simp [hne2, pBi_min_ints hm]
        rw [put_lob (kvs := toldK rs (fun _ => 1) k p1) (by simp) (by have := toldK_len (w := fun _ => 1) (k := k) he; omega) (toldK_new he)]
        simp)
  subst e1 e2
  refine ⟨⟨s.l ++ [.dct false (toldK rs (fun _ => 1) k rs.zipIdx)], s.g⟩, y4, y5, y6, rfl, by simp, by rw [← toldK_all]; simp, ?_⟩
  simp [dispD, kvOf, mkD, allocL, quiet]
  rw [ex_for (xs := rs.zipIdx.map fun p => .tup [eI p.2, eL p.1]) (s1 := ⟨s.l ++ [.dct false []], s.g⟩) (by simp [sub1, eRs, enumP_map]), h1]
  simp
theorem lawnorms_eq (K : OkP m rs) (g : List Ob) : F_law_norms [eLp m rs] g = .ok (eIs ((List.range rs.length).map fun i => (lim rs (fun _ => 1) i).getD 0)) g := by
  have hn := K.n12
  obtain ⟨ρ', s', h1, ⟨q, y2, y3, y4, y5, y6, e1, D⟩, e2⟩ := forVals_all (α := Line) (e := eL) (as := rs) (step := fun x ρ' => bnd (ofO (asgT (.name 2) x ρ')) fun ρ2 => exs dp_law_norms.phi [.asg (.name 3) (.dct .loc false [] []), .for_ (.tup [.name 4, .name 5]) (.enum (.sub (.var 0) (.int 1))) nIn, .asg (.name 1) (.var 3)] ρ2)
    (fun pre ρ s => (∃ q y2 y3 y4 y5 y6, ρ = [some (eLp m rs), some q, y2, y3, y4, y5, y6, none, none] ∧ DctAt s q (kvR rs eI (itT rs (fun _ => 1) pre.length))) ∧ s.g = g) (ρ := [some (eLp m rs), some (.dct false []), none, none, none, none, none, none, none]) (s := ⟨[], g⟩) ⟨⟨_, _, _, _, _, _, rfl, .inl (by unfold kvR; simp [itT])⟩, rfl⟩ (fun p1 l p2 ρ s he ⟨⟨q, y2, y3, y4, y5, y6, e1, D⟩, e2⟩ => by
      subst e1 e2
      obtain ⟨s', z4, z5, z6, w1, w2, w3, w4⟩ := norms_lap K D (some (eL l)) y3 y4 y5 y6
      refine ⟨_, s', .inl (by simpa using w4), ⟨_, _, _, _, _, _, rfl, .inr ⟨_, rfl, ?_⟩⟩, w1⟩
      rw [List.length_append, List.length_singleton]; exact w3)
  subst e1
  obtain ⟨l', g'⟩ := s'
  dsimp only at e2
  subst e2
  unfold nIn nSome at h1
  simp [F_law_norms, b_law_norms, run, dispD, kvOf, mkD, quiet]
  rw [ex_for (xs := rs.map eL) (s1 := ⟨[], g'⟩) (by simp [sub1, eRs]), h1]
  simp
  rw [ev_comp' (List.range rs.length) eI (fun i => eI ((lim rs (fun _ => 1) i).getD 0)) (by simp [sub1, eRs, r1P_nat (show rs.length < 2 ^ 62 by omega)]) (fun i hi => ⟨_, rfl, ?_⟩) (le_line (by simp; omega))]
  · simp [eIs]
  · obtain ⟨v, hv⟩ := lim_some (w := fun _ => 1) K.live (List.mem_range.mp hi)
    simp [dct_idx D hv, hv]
/-! ### least costs -/
def cSome : E := .comp .val (.bin .val .add (.sub (.var 1) (.var 8)) (.bi .val .sum [(.comp .val (.sub (.var 2) (.var 10)) (.name 10) (.seq (.var 9)) [] [10])])) (.tup [(.name 8), (.name 9)]) (.enum (.var 6)) [(.and [(.cmp .isNot (.var 9) .non), (.cmp .eq (.comp .val (.int 1) (.name 10) (.seq (.var 9)) [(.cmp .notIn (.var 10) (.var 2))] [10]) (.lst .val []))])] [8, 9]
def cIn : List St := [.asg (.name 7) cSome, .ifs (.cmp .ne (.var 7) (.lst .val [])) [.asub (.var 4) (.var 5) (.bi .val .min [(.var 7)])] []]
theorem cSome_eq {k : Nat} {s : Sto} {q : P} {line : Line} (D : DctAt s q (kvR rs eI (itT rs (cOf cs) k))) (hcs : line.length ≤ cs.length) (h0 : line.length ≤ 6) (h6 : ∀ r, some r ∈ line → r.length ≤ 6) (a b c d e f f2 : Option P) :
    ev dp_law_low.phi cSome [a, some (eCs cs), some q, b, c, d, some (eL line), e, f, f2, none] s = .ok (.lst ((cands (cOf cs) (itT rs (cOf cs) k) line).map eI)) s := by
  unfold cSome
  rw [ev_comp line.zipIdx (fun p => .tup [eI p.2, eO p.1]) (fun p => (rnorm (cOf cs) (itT rs (cOf cs) k) p.2 p.1).isSome) (fun p => eI ((rnorm (cOf cs) (itT rs (cOf cs) k) p.2 p.1).getD 0)) (by simp [eL, enumP_map]) (fun p hp => ⟨_, rfl, ?_, fun hc => ?_⟩) (le_line (by simp; omega))]
  · rw [filter_cands, ← cands_zip]
  · obtain ⟨o, l⟩ := p
    cases o with
    | none => simp [eO, rnorm]
    | some r =>
      have ho : line[l]? = some (some r) := by
        have := List.mk_mem_zipIdx_iff_getElem?.mp hp
        simpa using this
      have h7 := h6 r (List.mem_of_getElem? ho)
      have := all_in_eq (Φ := dp_law_low.phi) (s := s) (ρ := [a, some (eCs cs), some q, b, c, d, some (eL line), e, some (eI l), some (eO (some r)), none]) (r := r) (vr := 9) (vf := 2) (t := 10) (c := fun j => (itT rs (cOf cs) k j).isSome) (by omega) (by simp [eO]) (fun j hj => by simp [dct_in D])
      rw [show (r.all fun j => (itT rs (cOf cs) k j).isSome) = known (itT rs (cOf cs) k) r from rfl] at this
      simp [isNonP_eO, rnorm]
      cases hk : known (itT rs (cOf cs) k) r <;> (rw [hk] at this; simp at this; rw [this]; simp)
  · obtain ⟨o, l⟩ := p
    cases o with
    | none => cases hc
    | some r =>
      have ho : line[l]? = some (some r) := by
        have := List.mk_mem_zipIdx_iff_getElem?.mp hp
        simpa using this
      have h7 := h6 r (List.mem_of_getElem? ho)
      have hlt : l < cs.length := Nat.lt_of_lt_of_le (List.getElem?_eq_some_iff.mp ho).1 hcs
      have hk : known (itT rs (cOf cs) k) r = true := by
        cases hk : known (itT rs (cOf cs) k) r with
        | true => rfl
        | false => simp [rnorm, hk] at hc
      simp [sub_costs csP_lst hlt]
      rw [ev_comp' r eI (fun j => .int (((itT rs (cOf cs) k j).getD 0 : Nat) : Int)) (by simp [eO, eR]) (fun j hj => ⟨_, rfl, ?_⟩) (le_line (by omega))]
      · simp [pBi_sum, sumT_ints, rnorm, hk, cOf]
      · obtain ⟨v, hv⟩ := known_iff.mp hk j hj
        simp [dct_idx D hv, hv]
theorem low_lap (K : OkP m rs) (hcs : cs.length = m) {k : Nat} {s : Sto} {q : P} (D : DctAt s q (kvR rs eI (itT rs (cOf cs) k))) (a x3 x4 x5 x6 : Option P) :
    ∃ s' y4 y5 y6, s'.g = s.g ∧ s'.l.length = s.l.length + 1 ∧ s'.l[s.l.length]? = some (.dct false (kvR rs eI (itT rs (cOf cs) (k + 1)))) ∧
      exs dp_law_low.phi [.asg (.name 4) (.dct .loc false [] []), .for_ (.tup [.name 5, .name 6]) (.enum (.sub (.var 0) (.int 1))) cIn, .asg (.name 2) (.var 4)] [some (eLp m rs), some (eCs cs), some q, a, x3, x4, x5, x6, none, none, none] s = .ok (.next, [some (eLp m rs), some (eCs cs), some (.lob s.l.length), a, some (.lob s.l.length), y4, y5, y6, none, none, none]) s' := by
  have hn := K.n12
  have D0 : ∀ (l : List Ob), DctAt ⟨s.l ++ l, s.g⟩ q (kvR rs eI (itT rs (cOf cs) k)) := fun l => by
    rcases D with h | ⟨n, h1, h2⟩
    · exact .inl h
    · refine .inr ⟨n, h1, ?_⟩
      dsimp only
      rw [List.getElem?_append_left (List.getElem?_eq_some_iff.mp h2).1]; exact h2
  obtain ⟨ρ', s', h1, ⟨y4, y5, y6, e1⟩, e2⟩ := forVals_all (α := Line × Nat) (e := fun p => .tup [eI p.2, eL p.1]) (as := rs.zipIdx) (step := fun x ρ' => bnd (ofO (asgT (.tup [.name 5, .name 6]) x ρ')) fun ρ2 => exs dp_law_low.phi cIn ρ2)
    (fun pre ρ s' => (∃ y4 y5 y6, ρ = [some (eLp m rs), some (eCs cs), some q, a, some (.lob s.l.length), y4, y5, y6, none, none, none]) ∧ s' = (⟨s.l ++ [.dct false (toldK rs (cOf cs) k pre)], s.g⟩ : Sto)) (ρ := [some (eLp m rs), some (eCs cs), some q, a, some (.lob s.l.length), x4, x5, x6, none, none, none]) (s := ⟨s.l ++ [.dct false []], s.g⟩) ⟨⟨_, _, _, rfl⟩, rfl⟩ (fun p1 p p2 ρ s' he ⟨⟨y4, y5, y6, e1⟩, e2⟩ => by
      subst e1 e2
      have hp : p ∈ rs.zipIdx := by rw [he]; simp
      obtain ⟨r1, r2, r3, r4⟩ := rnorm_le K hp
      have ns := cSome_eq (D0 [.dct false (toldK rs (cOf cs) k p1)]) (line := p.1) (by omega) (by omega) (fun r hr => (r4 r hr).1) (some (eLp m rs)) a (some (.lob s.l.length)) (some (eI p.2)) y6 none none
      have nn := fun s => ne_nilL (s := s) (l := cands (cOf cs) (itT rs (cOf cs) k) p.1)
      unfold eIs at nn
      refine ⟨_, _, .inl ?_, ⟨some (eI p.2), some (eL p.1), some (.lst ((cands (cOf cs) (itT rs (cOf cs) k) p.1).map eI)), rfl⟩, rfl⟩
      simp [cIn, ns, nn]
      rw [toldK_snoc]
      cases hm : lmin (cands (cOf cs) (itT rs (cOf cs) k) p.1) with
      | none => simp [lmin_none.mp hm]
      | some v =>
        have hne : (cands (cOf cs) (itT rs (cOf cs) k) p.1).isEmpty = false := by
          cases hh : cands (cOf cs) (itT rs (cOf cs) k) p.1 with
          | nil => rw [hh] at hm; cases hm
          | cons => rfl
        have hne2 : cands (cOf cs) (itT rs (cOf cs) k) p.1 ≠ [] := fun z => by rw [z] at hne; cases hne
        simp [hne2, pBi_min_ints hm]
        rw [put_lob (kvs := toldK rs (cOf cs) k p1) (by simp) (by have := toldK_len (w := cOf cs) (k := k) he; omega) (toldK_new he)]
        simp)
  subst e1 e2
  refine ⟨⟨s.l ++ [.dct false (toldK rs (cOf cs) k rs.zipIdx)], s.g⟩, y4, y5, y6, rfl, by simp, by rw [← toldK_all]; simp, ?_⟩
  simp [dispD, kvOf, mkD, allocL, quiet]
  rw [ex_for (xs := rs.zipIdx.map fun p => .tup [eI p.2, eL p.1]) (s1 := ⟨s.l ++ [.dct false []], s.g⟩) (by simp [sub1, eRs, enumP_map]), h1]
  simp
theorem outF_lob {n : Nat} {ρ : Rho} {s : Sto} {kvs : List (KeyP × P)} (h : s.l[n]? = some (.dct false kvs)) (hn : noLobk kvs = true) : outF (.ok (.ret (.lob n), ρ) s) = .ok (.dct false kvs) s.g := by
  have gen : ∀ {kvs : List (KeyP × P)}, noLobk kvs = true → (kvs.mapM fun kv => (view 2 s kv.2).map (kv.1, ·)) = some kvs := by
    intro kvs
    induction kvs with
    | nil => intro _; rfl
    | cons kv kvs ih =>
      intro h
      obtain ⟨k, p⟩ := kv
      rw [noLobk_cons, Bool.and_eq_true] at h
      rw [List.mapM_cons, ih h.2, view_noLob h.1]; rfl
  have : view 3 s (.lob n) = some (.dct false kvs) := by
    show vw _ (.lob n) = _
    rw [vw]
    dsimp only
    rw [h]
    dsimp only
    rw [gen hn]; rfl
  unfold outF flowP
  dsimp only
  rw [this]
theorem low_eq (K : OkP m rs) (hcs : cs.length = m) (g : List Ob) : F_law_low [eLp m rs, eCs cs] g = .ok (eT rs eI (lim rs (cOf cs))) g := by
  have hn := K.n12
  have hc0 : noLob (eCs cs) = true := csP_lst.n
  obtain ⟨ρ', s', h1, ⟨q, y2, y3, y4, y5, y6, e1, D⟩, e2⟩ := forVals_all (α := Line) (e := eL) (as := rs) (step := fun x ρ' => bnd (ofO (asgT (.name 3) x ρ')) fun ρ2 => exs dp_law_low.phi [.asg (.name 4) (.dct .loc false [] []), .for_ (.tup [.name 5, .name 6]) (.enum (.sub (.var 0) (.int 1))) cIn, .asg (.name 2) (.var 4)] ρ2)
    (fun pre ρ s => (∃ q y2 y3 y4 y5 y6, ρ = [some (eLp m rs), some (eCs cs), some q, y2, y3, y4, y5, y6, none, none, none] ∧ DctAt s q (kvR rs eI (itT rs (cOf cs) pre.length))) ∧ s.g = g) (ρ := [some (eLp m rs), some (eCs cs), some (.dct false []), none, none, none, none, none, none, none, none]) (s := ⟨[], g⟩) ⟨⟨_, _, _, _, _, _, rfl, .inl (by unfold kvR; simp [itT])⟩, rfl⟩ (fun p1 l p2 ρ s he ⟨⟨q, y2, y3, y4, y5, y6, e1, D⟩, e2⟩ => by
      subst e1 e2
      obtain ⟨s', z4, z5, z6, w1, w2, w3, w4⟩ := low_lap K hcs D (some (eL l)) y3 y4 y5 y6
      refine ⟨_, s', .inl (by simpa using w4), ⟨_, _, _, _, _, _, rfl, .inr ⟨_, rfl, ?_⟩⟩, w1⟩
      rw [List.length_append, List.length_singleton]; exact w3)
  subst e1
  obtain ⟨l', g'⟩ := s'
  dsimp only at e2
  subst e2
  unfold cIn cSome at h1
  simp [F_law_low, b_law_low, run, dispD, kvOf, mkD, quiet]
  rw [ex_for (xs := rs.map eL) (s1 := ⟨[], g'⟩) (by simp [sub1, eRs]), h1]
  simp
  rcases D with rfl | ⟨n, rfl, h⟩
  · rw [outF_ret (by rw [noLob_dct]; exact noLobk_kvR fun _ => noLob_int)]; rfl
  · rw [outF_lob h (noLobk_kvR fun _ => noLob_int)]; rfl
end
end FW

end

section
set_option Elab.async false
set_option linter.all false
set_option maxRecDepth 100000
/-! Mp14: the law's texts. -/
namespace FW
open PySem L2
abbrev NN (rs : Rules) : Tab := lim rs fun _ => 1
def nsL (rs : Rules) : List Nat := (List.range rs.length).map fun i => (NN rs i).getD 0
section
variable {m : Nat} {rs : Rules} {g : List Ob}
theorem lnorm (K : OkP m rs) {row : Rule} (h : ∀ j ∈ row, j < rs.length) (hl : row.length ≤ 1000000) (g : List Ob) : F_law_norm [eIs (nsL rs), eR row] g = .ok (eI (sumT (NN rs) row)) g := by
  rw [lawnorm_eq (by unfold nsL; simpa using h) hl]
  unfold nsL
  rw [sum_lim h]
theorem ns_sub {i : Nat} (h : i < rs.length) {s : Sto} : pIdx (eIs (nsL rs)) (eI i) s = .ok (eI ((NN rs i).getD 0)) s := by
  unfold eIs nsL
  exact pIdx_lst (by simp [h])
theorem nn_pos (K : OkP m rs) {i : Nat} (h : i < rs.length) : 1 ≤ (NN rs i).getD 0 := by
  obtain ⟨line, hi⟩ : ∃ line, rs[i]? = some line := ⟨rs[i], List.getElem?_eq_getElem h⟩
  obtain ⟨l, r, _, _, e⟩ := lim_eq K.live (w := fun _ => 1) hi
  rw [show NN rs = lim rs fun _ => 1 from rfl, e]; omega
theorem len_le_nn (K : OkP m rs) : ∀ {row : List Nat}, (∀ j ∈ row, j < rs.length) → row.length ≤ sumT (NN rs) row
  | [], _ => Nat.zero_le _
  | j :: row, h => by
    have h1 := len_le_nn K fun k hk => h k (List.mem_cons_of_mem _ hk)
    have h2 := nn_pos K (h j List.mem_cons_self)
    rw [sumT_cons, List.length_cons]; omega
/-- letters of rules that are shortest -/
def lc (rs : Rules) (i : Nat) (p : Option Rule × Nat) : Bool := match p.1 with
  | some r => decide (1 + sumT (NN rs) r = (NN rs i).getD 0)
  | none => false
theorem lsome_eq (K : OkP m rs) {i : Nat} {rest : List Nat} {line : Line} (hi : rs[i]? = some line) (q a : Option P) (s : Sto) :
    ev dp_law_least.phi (.comp .val (.var 5) (.tup [(.name 5), (.name 6)]) (.enum (.sub (.sub (.var 0) (.int 1)) (.sub (.var 2) (.int 0)))) [(.and [(.cmp .isNot (.var 6) .non), (.cmp .eq (.bin .val .add (.int 1) (.call "_law_norm" [(.var 1), (.var 6)] [])) (.sub (.var 1) (.sub (.var 2) (.int 0))))])] [5, 6]) [some (eLp m rs), some (eIs (nsL rs)), some (eR (i :: rest)), q, a, none, none] s = .ok (.lst ((line.zipIdx.filter (lc rs i)).map fun p => eI p.2)) s := by
  have hm := List.mem_of_getElem? hi
  have h6 := K.len line hm
  have hm6 := K.m6
  have e0 : ∀ s, pIdx (eR (i :: rest)) (.int 0) s = .ok (eI i) s := fun s => pIdx_tup (n := 0) (by simp)
  have hlt : i < rs.length := (List.getElem?_eq_some_iff.mp hi).1
  refine ev_comp line.zipIdx (fun p => .tup [eI p.2, eO p.1]) (lc rs i) (fun p => eI p.2) (by simp [sub1, e0, rsub K hi]; simp [eL, enumP_map]) (fun p hp => ⟨_, rfl, ?_, fun _ => by simp⟩) (le_line (by simp; omega))
  obtain ⟨o, l⟩ := p
  have ho : line[l]? = some o := by
    have := List.mk_mem_zipIdx_iff_getElem?.mp hp
    simpa using this
  cases o with
  | none => simp [eO, lc]
  | some r =>
    have h7 := K.rule line hm r (List.mem_of_getElem? ho)
    have ln := lnorm K h7.2 (by omega)
    simp [isNonP_eO, lc]
    rw [show eO (some r) = eR r from rfl]
    simp [ln, e0, ns_sub hlt]
    have : ((1 : Int) + (sumT (NN rs) r : Int) = (((NN rs i).getD 0 : Nat) : Int)) ↔ 1 + sumT (NN rs) r = (NN rs i).getD 0 := by omega
    by_cases h : 1 + sumT (NN rs) r = (NN rs i).getD 0
    · simp [h, this.mpr h]
    · have h' := fun z => h (this.mp z)
      simp [h]
      exact h'
theorem lawleast_eq (K : OkP m rs) {row : List Nat} (hr : ∀ j ∈ row, j < rs.length) (hB : sumT (NN rs) row ≤ 100000) (g : List Ob) :
    ∃ text, F_law_least [eLp m rs, eIs (nsL rs), eR row] g = .ok (eR text) g ∧ rafter rs row text = some [] ∧ text.length ≤ 100000 := by
  obtain ⟨⟨row', fd⟩, ρ', s', h1, ⟨w1, w2, w3, a, e1, e2⟩, h2⟩ := whileL_gh (σ := List Nat × List Nat) (c := fun ρ' => bnd (ev dp_law_least.phi (.cmp .ne (.var 2) (.tup [])) ρ') truthM) (b := fun ρ' => exs dp_law_least.phi [.asg (.name 4) (.comp .val (.var 5) (.tup [(.name 5), (.name 6)]) (.enum (.sub (.sub (.var 0) (.int 1)) (.sub (.var 2) (.int 0)))) [(.and [(.cmp .isNot (.var 6) .non), (.cmp .eq (.bin .val .add (.int 1) (.call "_law_norm" [(.var 1), (.var 6)] [])) (.sub (.var 1) (.sub (.var 2) (.int 0))))])] [5, 6]),
  .expr (.meth .append (.var 3) [(.sub (.var 4) (.int 0))]),
  .asg (.name 2) (.call "_law_step" [(.var 0), (.var 2), (.sub (.var 4) (.int 0))] [])] ρ')
    (fun a ρ s => (∀ j ∈ a.1, j < rs.length) ∧ rafter rs row a.2 = some a.1 ∧ a.2.length + sumT (NN rs) a.1 ≤ 100000 ∧ ∃ x, ρ = [some (eLp m rs), some (eIs (nsL rs)), some (eR a.1), some (.lob 0), x, none, none] ∧ s = (⟨[.lst (a.2.map eI)], g⟩ : Sto)) (fun a => sumT (NN rs) a.1) (fun ⟨row', fd⟩ ρ s ⟨w1, w2, w3, x, e1, e2⟩ => by
      dsimp only at w1 w2 w3 e1 e2
      subst e1 e2
      refine ⟨!row'.isEmpty, by simp [ne_nil], fun hk => ?_⟩
      cases row' with
      | nil => simp at hk
      | cons i rest =>
        have hi := w1 i List.mem_cons_self
        obtain ⟨line, hline⟩ : ∃ line, rs[i]? = some line := ⟨rs[i], List.getElem?_eq_getElem hi⟩
        have hm := List.mem_of_getElem? hline
        have hlen := len_le_nn K w1
        obtain ⟨l, r, k1, k2, k3⟩ := lim_eq K.live (w := fun _ => 1) hline
        have hmem : (some r, l) ∈ line.zipIdx.filter (lc rs i) := List.mem_filter.mpr ⟨List.mk_mem_zipIdx_iff_getElem?.mpr k1, decide_eq_true k3.symm⟩
        have ls := fun q a s => lsome_eq K (rest := rest) hline q a s
        cases hL : line.zipIdx.filter (lc rs i) with
        | nil => rw [hL] at hmem; cases hmem
        | cons p ps =>
          rw [hL] at ls
          have hp : p ∈ line.zipIdx.filter (lc rs i) := by rw [hL]; simp
          obtain ⟨hp1, hp2⟩ := List.mem_filter.mp hp
          obtain ⟨o, l0⟩ := p
          have ho : line[l0]? = some o := by
            have := List.mk_mem_zipIdx_iff_getElem?.mp hp1
            simpa using this
          cases o with
          | none => cases hp2
          | some r0 =>
            have hp3 : 1 + sumT (NN rs) r0 = (NN rs i).getD 0 := of_decide_eq_true hp2
            have hr0 := K.rule line hm r0 (List.mem_of_getElem? ho)
            have hs : rstep rs (i :: rest) l0 = some (r0 ++ rest) := rstep_cons hline ho
            have hl0 : l0 < m := by rw [← K.len line hm]; exact (List.getElem?_eq_some_iff.mp ho).1
            have hsum : sumT (NN rs) (i :: rest) = (NN rs i).getD 0 + sumT (NN rs) rest := sumT_cons
            have hsum2 : sumT (NN rs) (r0 ++ rest) = sumT (NN rs) r0 + sumT (NN rs) rest := sumT_app
            have st := step_eq K w1 hl0 (by omega)
            rw [hs] at st
            refine ⟨(r0 ++ rest, fd ++ [l0]), _, _, .inl ?_, ⟨fun j hj => ?_, rafter_snoc w2 hs, ?_, some (.lst (((some r0, l0) :: ps).map fun p => eI p.2)), rfl, rfl⟩, ?_⟩
            · rw [exs_cons, bnd_ap, ex_asg, bnd_ap, ls]
              simp [isLst_lob (s := ⟨[.lst (fd.map eI)], g⟩) (n := 0) (xs := fd.map eI) rfl]
              rw [append_lob (s := ⟨[.lst (fd.map eI)], g⟩) (n := 0) (xs := fd.map eI) rfl (by rw [List.length_map]; unfold FW.line; omega)]
              simp [st]
              rfl
            · rcases List.mem_append.mp hj with z | z
              · exact hr0.2 j z
              · exact w1 j (List.mem_cons_of_mem _ z)
            · dsimp only
              rw [List.length_append, List.length_singleton]; omega
            · dsimp only; omega) FUEL (row, []) [some (eLp m rs), some (eIs (nsL rs)), some (eR row), some (.lob 0), none, none, none] ⟨[.lst []], g⟩ ⟨hr, rfl, by simpa using hB, _, rfl, rfl⟩ (by dsimp only; unfold FUEL; omega)
  dsimp only at w1 w2 w3 e1 e2
  subst e1 e2
  have hemp : row' = [] := by
    have : bnd (ev dp_law_least.phi (.cmp .ne (.var 2) (.tup [])) [some (eLp m rs), some (eIs (nsL rs)), some (eR row'), some (.lob 0), a, none, none]) truthM ⟨[.lst (fd.map eI)], g⟩ = .ok (!row'.isEmpty) ⟨[.lst (fd.map eI)], g⟩ := by simp [ne_nil]
    rw [this] at h2
    have h2 : (!row'.isEmpty) = false := by injection h2
    cases row' with
    | nil => rfl
    | cons => simp at h2
  subst hemp
  refine ⟨fd, ?_, w2, by omega⟩
  simp [F_law_least, b_law_least, run, ex_whl]
  simp at h1
  rw [h1]
  simp
  rw [tuple_lob (s := ⟨[.lst (fd.map eI)], g⟩) (n := 0) (xs := fd.map eI) rfl]
  simp
  rfl
theorem forVals_brk {α : Type} {step : P → Rho → M (Flow × Rho)} {e : α → P} (J : Rho → Sto → Prop) : ∀ {as : List α} {ρ : Rho} {s : Sto}, (∀ a ∈ as, ∀ ρ s, J ρ s → ∃ ρ' s', (step (e a) ρ s = .ok (.next, ρ') s' ∨ step (e a) ρ s = .ok (.brk, ρ') s') ∧ J ρ' s') → J ρ s →
    ∃ ρ' s', forVals step (as.map e) ρ s = .ok (.next, ρ') s' ∧ J ρ' s'
  | [], ρ, s, _, h => ⟨ρ, s, rfl, h⟩
  | a :: as, ρ, s, hs, h => by
    obtain ⟨ρ', s', h1, h2⟩ := hs a List.mem_cons_self ρ s h
    rcases h1 with h1 | h1
    · obtain ⟨r, t, g1, g2⟩ := forVals_brk J (fun b hb => hs b (List.mem_cons_of_mem _ hb)) h2
      refine ⟨r, t, ?_, g2⟩
      rw [List.map_cons, forVals, bnd_ap, h1, R.bind_ok]; exact g1
    · refine ⟨ρ', s', ?_, h2⟩
      rw [List.map_cons, forVals, bnd_ap, h1, R.bind_ok]; rfl
theorem last_lob {s : Sto} {n : Nat} {xs : List P} {x : P} (h : s.l[n]? = some (.lst (xs ++ [x]))) : pIdx (.lob n) (.int (-1)) s = .ok x s := by
  unfold pIdx itemsOf
  dsimp only
  rw [h]
  dsimp only
  have : L2.atI (xs ++ [x]) (-1) = some x := by
    unfold L2.atI L2.ixN
    rw [List.length_append, List.length_singleton, if_neg (by omega), if_pos (by omega)]
    show (xs ++ [x])[((-1 : Int) + ((xs.length + 1 : Nat) : Int)).toNat]? = some x
    rw [show ((-1 : Int) + ((xs.length + 1 : Nat) : Int)).toNat = xs.length by omega]
    simp
  rw [this]
def wtBody : List St := [.asg (.name 8) (.comp .val (.var 9) (.name 9) (.range1 (.sub (.var 1) (.int 0))) [(.cmp .isNot (.call "_law_step" [(.var 1), (.var 7), (.var 9)] []) .non)] [9]),
  .asg (.name 8) (.comp .val (.var 9) (.name 9) (.seq (.var 8)) [(.cmp .le (.bin .val .add (.bin .val .add (.bi .val .len [(.var 6)]) (.int 1)) (.call "_law_norm" [(.var 5), (.call "_law_step" [(.var 1), (.var 7), (.var 9)] [])] [])) (.var 3))] [9]),
  .ifs (.cmp .eq (.var 8) (.lst .val [])) [.brk] [],
  .expr (.meth .append (.var 6) [(.call "_law_pick" [(.var 0), (.var 8)] [])]),
  .asg (.name 7) (.call "_law_step" [(.var 1), (.var 7), (.sub (.var 6) (.neg (.int 1)))] [])]
/-- a letter that may be taken -/
def mayC (rs : Rules) (here fd : List Nat) (l : Nat) : Bool := match rstep rs here l with
  | some r => decide (fd.length + 1 + sumT (NN rs) r ≤ 30)
  | none => false
theorem whole_text_eq {junk : List Ob} (T : Tp junk g) (K : OkP m rs) {row : List Nat} (hr : ∀ j ∈ row, j < rs.length) (hB : sumT (NN rs) row ≤ 5000) :
    ∃ text g', F_law_whole_text [.gob 1, eLp m rs, eR row, .int 30] g = .ok (eR text) g' ∧ Tp junk g' ∧ rafter rs row text = some [] ∧ text.length ≤ 1000000 := by
  have hm6 := K.m6
  obtain ⟨d, g1, q1, q2, q3⟩ := draw_eq T (n := 30) (by decide) (by decide)
  have q3 : F_law_draw [.gob 1, .int 30] g = .ok (eI d) g1 := q3
  obtain ⟨ρ', s', h1, ⟨fd, here, y4, y8, e1, e2, e3, e4, e5, e6, e7⟩⟩ := forVals_brk (α := Nat) (e := eI) (as := List.range d) (step := fun x ρ' => bnd (ofO (asgT (.name 4) x ρ')) fun ρ2 => exs dp_law_whole_text.phi wtBody ρ2)
    (fun ρ s => ∃ (fd here : List Nat) (y4 y8 : Option P), ρ = [some (.gob 1), some (eLp m rs), some (eR row), some (.int 30), y4, some (eIs (nsL rs)), some (.lob 0), some (eR here), y8, none] ∧ s.l = [.lst (fd.map eI)] ∧ Tp junk s.g ∧ rafter rs row fd = some here ∧ (∀ j ∈ here, j < rs.length) ∧ fd.length ≤ 30 ∧ sumT (NN rs) here ≤ 5000)
    (ρ := [some (.gob 1), some (eLp m rs), some (eR row), some (.int 30), none, some (eIs (nsL rs)), some (.lob 0), some (eR row), none, none]) (s := ⟨[.lst []], g1⟩) (fun lap _ ρ s ⟨fd, here, y4, y8, e1, e2, e3, e4, e5, e6, e7⟩ => by
      obtain ⟨l, g⟩ := s
      dsimp only at e2 e3
      subst e1 e2
      have hlen := len_le_nn K e5
      have st : ∀ l, l < m → ∀ g, F_law_step [eLp m rs, eR here, eI l] g = .ok (eO (rstep rs here l)) g := fun l hl g => step_eq K e5 hl (by omega) g
      have c1 : ∀ (y4 y8 : Option P), ev dp_law_whole_text.phi (.comp .val (.var 9) (.name 9) (.range1 (.sub (.var 1) (.int 0))) [(.cmp .isNot (.call "_law_step" [(.var 1), (.var 7), (.var 9)] []) .non)] [9]) [some (.gob 1), some (eLp m rs), some (eR row), some (.int 30), y4, some (eIs (nsL rs)), some (.lob 0), some (eR here), y8, none] ⟨[.lst (fd.map eI)], g⟩ = .ok (.lst (((List.range m).filter fun l => (rstep rs here l).isSome).map eI)) ⟨[.lst (fd.map eI)], g⟩ := fun y4 y8 => by
        refine ev_comp (List.range m) eI (fun l => (rstep rs here l).isSome) eI (by simp [sub0, r1P_nat (show m < 2 ^ 62 by omega)]) (fun l hl => ⟨_, rfl, ?_, fun _ => by simp⟩) (le_line (by simp; omega))
        have hl := List.mem_range.mp hl
        simp [st l hl, isNonP_eO]
        cases rstep rs here l <;> simp
      have c2 : ∀ (y4 : Option P), ev dp_law_whole_text.phi (.comp .val (.var 9) (.name 9) (.seq (.var 8)) [(.cmp .le (.bin .val .add (.bin .val .add (.bi .val .len [(.var 6)]) (.int 1)) (.call "_law_norm" [(.var 5), (.call "_law_step" [(.var 1), (.var 7), (.var 9)] [])] [])) (.var 3))] [9]) [some (.gob 1), some (eLp m rs), some (eR row), some (.int 30), y4, some (eIs (nsL rs)), some (.lob 0), some (eR here), some (.lst (((List.range m).filter fun l => (rstep rs here l).isSome).map eI)), none] ⟨[.lst (fd.map eI)], g⟩ = .ok (.lst ((((List.range m).filter fun l => (rstep rs here l).isSome).filter (mayC rs here fd)).map eI)) ⟨[.lst (fd.map eI)], g⟩ := fun y4 => by
        refine ev_comp ((List.range m).filter fun l => (rstep rs here l).isSome) eI (mayC rs here fd) eI (by simp) (fun l hl => ⟨_, rfl, ?_, fun _ => by simp⟩) (le_line (Nat.le_trans (List.length_filter_le _ _) (by simp; omega)))
        obtain ⟨h1, h2⟩ := List.mem_filter.mp hl
        have hl := List.mem_range.mp h1
        obtain ⟨r, hrr⟩ := Option.isSome_iff_exists.mp h2
        obtain ⟨_, v2, v3, _⟩ := rstep_ok K e5 hrr
        have ln := lnorm K v2 (by omega)
        have len6 : pBi dp_law_whole_text.phi .val .len [.lob 0] ⟨[.lst (fd.map eI)], g⟩ = .ok (eI fd.length) ⟨[.lst (fd.map eI)], g⟩ := by
          unfold pBi; dsimp only [itemsOf]; simp
        simp [len6, st l hl, hrr]
        rw [show eO (some r) = eR r from rfl]
        simp [ln, mayC, hrr]
        have : ((fd.length : Int) + 1 + (sumT (NN rs) r : Int) ≤ 30) ↔ fd.length + 1 + sumT (NN rs) r ≤ 30 := by omega
        by_cases h : fd.length + 1 + sumT (NN rs) r ≤ 30
        · simp [h, this.mpr h]
        · have h' := fun z => h (this.mp z)
          simp [h]
          omega
      generalize hL : (((List.range m).filter fun l => (rstep rs here l).isSome).filter (mayC rs here fd)) = L at c2
      have hLm : ∀ l ∈ L, l < m ∧ mayC rs here fd l = true := fun l hl => by
        rw [← hL] at hl
        obtain ⟨h1, h2⟩ := List.mem_filter.mp hl
        obtain ⟨h3, _⟩ := List.mem_filter.mp h1
        exact ⟨List.mem_range.mp h3, h2⟩
      have hLl : L.length ≤ 1000 := by
        rw [← hL]
        refine Nat.le_trans (List.length_filter_le _ _) (Nat.le_trans (List.length_filter_le _ _) (by simp; omega))
      have emp : ∀ s : Sto, pCmp .eq (.lst (L.map eI)) (.lst []) s = .ok L.isEmpty s := fun s => eq_nilL
      cases L with
      | nil =>
        refine ⟨_, ⟨[.lst (fd.map eI)], g⟩, .inr ?_, ⟨fd, here, some (eI lap), some (.lst []), rfl, rfl, e3, e4, e5, e6, e7⟩⟩
        simp at emp
        simp [wtBody, c1, c2, emp]
      | cons l0 L =>
        obtain ⟨p, g2, k1, k2, k3⟩ := pick_eq e3 (xs := (l0 :: L).map eI) (by simp) (by rw [List.length_map]; exact hLl) (by simp)
        obtain ⟨l, hl, rfl⟩ := List.mem_map.mp k1
        obtain ⟨v1, v2⟩ := hLm l hl
        unfold mayC at v2
        cases hs : rstep rs here l with
        | none => rw [hs] at v2; cases v2
        | some r =>
          rw [hs] at v2
          have v2 : fd.length + 1 + sumT (NN rs) r ≤ 30 := of_decide_eq_true v2
          obtain ⟨_, u2, u3, _⟩ := rstep_ok K e5 hs
          have st2 := st l v1
          rw [hs] at st2
          refine ⟨_, ⟨[.lst ((fd ++ [l]).map eI)], g2⟩, .inl ?_, ⟨fd ++ [l], r, some (eI lap), some (.lst ((l0 :: L).map eI)), rfl, rfl, k2, rafter_snoc e4 hs, u2, by rw [List.length_append, List.length_singleton]; omega, by omega⟩⟩
          have la : pIdx (.lob 0) (.int (-1)) ⟨[.lst (fd.map eI ++ [eI l])], g2⟩ = .ok (eI l) ⟨[.lst (fd.map eI ++ [eI l])], g2⟩ := last_lob (s := ⟨[.lst (fd.map eI ++ [eI l])], g2⟩) (n := 0) rfl
          have ap := append_lob (s := ⟨[.lst (fd.map eI)], g2⟩) (n := 0) (xs := fd.map eI) (x := eI l) rfl (by rw [List.length_map]; unfold FW.line; omega)
          simp only [List.set_cons_zero] at ap
          simp at emp
          simp at k3
          simp [wtBody, c1, c2, emp, isLst_lob (s := ⟨[.lst (fd.map eI)], g⟩) (n := 0) (xs := fd.map eI) rfl, k3, ap, la, st2]
          rfl) ⟨[], row, none, none, rfl, rfl, q2, rfl, hr, by decide, hB⟩
  subst e1
  obtain ⟨l', g'⟩ := s'
  dsimp only at e2 e3
  subst e2
  obtain ⟨rest, r1, r2, r3⟩ := lawleast_eq K e5 (by omega) g'
  refine ⟨fd ++ rest, g', ?_, e3, ?_, by rw [List.length_append]; omega⟩
  · have ln := fun g => lawnorms_eq K (m := m) g
    have ln : ∀ g, F_law_norms [eLp m rs] g = .ok (eIs (nsL rs)) g := ln
    unfold wtBody at h1
    simp [F_law_whole_text, b_law_whole_text, run, ln]
    rw [ex_for (xs := (List.range d).map eI) (s1 := ⟨[.lst []], g1⟩) (by simp [q3, r1P_nat (show d < 2 ^ 62 by omega)]), h1]
    simp
    rw [tuple_lob (s := ⟨[.lst (fd.map eI)], g'⟩) (n := 0) (xs := fd.map eI) rfl]
    simp [r1]
    rw [show eR rest = .tup (rest.map eI) from rfl, pBin_add_tup (by simp; unfold FW.line; omega)]
    simp
    simp [eR]
  · rw [rafter_app, e4]; exact r2
end
end FW

end

section
set_option Elab.async false
set_option linter.all false
set_option maxRecDepth 100000
/-! Mp15: what is judged; what is caught. -/
namespace FW
open PySem L2
@[simp] theorem noLob_eCs {cs : List Nat} : noLob (eCs cs) = true := csP_lst.n
def cauR (ec : String → Bool) : R P → R P
  | .ok _ s => .ok .non s
  | .exn x s => (match excCls x with
    | some c => if ec c = true then .ok x s else .bad
    | none => .bad)
  | .bad => .bad
@[simp] theorem cauM_ap {ec : String → Bool} {m : M P} {s : Sto} : cauM ec m s = cauR ec (m s) := by
  unfold cauM cauR; cases m s <;> rfl
@[simp] theorem cauR_ok {ec : String → Bool} {p : P} {s : Sto} : cauR ec (.ok p s) = .ok .non s := (rfl)
@[simp] theorem cauR_exn {ec : String → Bool} {c : String} {fs : List (String × P)} {s : Sto} : cauR ec (.exn (.exc c fs) s) = if ec c = true then .ok (.exc c fs) s else .bad := (rfl)
theorem attr_exc {Φ : Fenv} {c f : String} {fs : List (String × P)} {p : P} {s : Sto} (h : Φ.exc.contains c = true) (h2 : fs.lookup f = some p) : pAttr Φ (.exc c fs) f s = .ok p s := by
  unfold pAttr; dsimp only; rw [if_pos h, h2]
section
variable {m : Nat} {rs : Rules} {cs row : List Nat} {g : List Ob}
/-- the least costs -/
abbrev VV (rs : Rules) (cs : List Nat) : Tab := lim rs (cOf cs)
def vL (rs : Rules) (cs : List Nat) : List Nat := (List.range rs.length).map fun i => (VV rs cs i).getD 0
theorem vL_eq (K : OkP m rs) : ((List.range rs.length).map fun i => qB ((DD rs cs i).getD 0)) = vL rs cs := by
  unfold vL
  exact List.map_congr_left fun i _ => lim_q' K i
theorem v_sub {i : Nat} (h : i < rs.length) {s : Sto} : pIdx (eR (vL rs cs)) (eI i) s = .ok (eI ((VV rs cs i).getD 0)) s := by
  unfold eR vL
  exact pIdx_tup (by simp [h])
theorem is_cheap_eq (K : OkP m rs) (hcs : cs.length = m) (Rr : OkR rs row) {text : List Nat} (h1 : rafter rs row text = some []) (h2 : wsum (cOf cs) text = sumT (VV rs cs) row) (h3 : text.length ≤ 100000) (g : List Ob) :
    F_law_is_cheap [eLp m rs, eR row, eCs cs, .tup [eI (sumT (VV rs cs) row), eR text, eR (vL rs cs)]] g = .ok (.bl true) g := by
  have hn := K.n12
  have hm6 := K.m6
  have hrl := Rr.len
  have ht := rafter_letters K Rr.lt h1
  have lt1 := letters_ok (rs := rs) ht h3
  have af := after_eq K Rr.lt ht (by omega) h3
  rw [h1] at af
  have hvl : (vL rs cs).length = rs.length := by unfold vL; simp
  have le1 : ∀ s : Sto, pBi dp_law_is_cheap.phi .val .len [eR (vL rs cs)] s = .ok (eI rs.length) s := fun s => by rw [← hvl]; unfold eR; simp
  have le2 : ∀ s : Sto, pBi dp_law_is_cheap.phi .val .len [eRs rs] s = .ok (eI rs.length) s := fun s => by unfold eRs; simp
  have is1 : ∀ s : Sto, pBi dp_law_is_cheap.phi .val .isinstance [eR (vL rs cs), .ty "tuple"] s = .ok (.bl true) s := fun s => rfl
  have ne3 : ∀ s : Sto, pCmp .ne (eO (some [])) (.tup []) s = .ok false s := fun s => by rw [show eO (some []) = eR [] from rfl, ne_nil]; rfl
  have c1 : ∀ (ρ : Rho) (s : Sto), getV ρ 3 s = .ok (.tup [eI (sumT (VV rs cs) row), eR text, eR (vL rs cs)]) s → ρ.length = 9 → ev dp_law_is_cheap.phi (.comp .val (.int 1) (.name 8) (.seq (.sub (.var 3) (.int 2))) [(.or [(.not (.call "_law_whole" [(.var 8)] [])), (.cmp .lt (.var 8) (.int 0))])] [8]) ρ s = .ok (.lst []) s := fun ρ s h hl => by
    rw [ev_comp (vL rs cs) eI (fun _ => false) (fun _ => .int 1) (by simp [h]; simp [eR]) (fun i hi => ⟨_, rfl, ?_, fun z => by cases z⟩) (le_line (by omega))]
    · simp
    · have h8 : ∀ s : Sto, getV ((wipeR ρ [8]).set 8 (some (eI i))) 8 s = .ok (eI i) s := fun s => by
        unfold getV
        rw [List.getElem?_set_self (by simp [wipeR, hl])]; rfl
      simp only [evIfs_cons, ev_or, bnd_ap, evOr_2, ev_not, ev_call, evs_cons, evs_nil, ev_var, h8, R.bind_ok, ret_ap', List.append_nil, phi_fn, fs_law_is_cheap]
      simp [whole_int]
      have h8' := h8 s
      simp at h8'
      rw [h8']
      simp
  have c2 : ∀ (a b c : Option P) (s : Sto), ev dp_law_is_cheap.phi (.comp .val (.sub (.var 2) (.var 6)) (.name 6) (.seq (.sub (.var 3) (.int 1))) [] [6]) [a, b, some (eCs cs), some (.tup [eI (sumT (VV rs cs) row), eR text, eR (vL rs cs)]), c, none, none, none, none] s = .ok (.lst (text.map fun l => .int ((cOf cs l : Nat) : Int))) s := fun a b c s => by
    refine ev_comp' text eI (fun l => .int ((cOf cs l : Nat) : Int)) (by simp; simp [eR]) (fun l hl => ⟨_, rfl, ?_⟩) (by unfold FW.line; omega)
    simp [sub_costs csP_lst (show l < cs.length by have := ht l hl; omega), cOf]
  have c3 : ∀ (r : Rule), (∀ j ∈ r, j < rs.length) → r.length ≤ 100 → ∀ (ρ : Rho) (s : Sto) (it : E), ρ.length = 9 → ev dp_law_is_cheap.phi it ρ s = .ok (eR r) s → getV ρ 3 s = .ok (.tup [eI (sumT (VV rs cs) row), eR text, eR (vL rs cs)]) s → ev dp_law_is_cheap.phi (.comp .val (.sub (.sub (.var 3) (.int 2)) (.var 8)) (.name 8) (.seq it) [] [8]) ρ s = .ok (.lst (r.map fun j => .int (((VV rs cs j).getD 0 : Nat) : Int))) s := fun r hr hl ρ s it hρ hi h => by
    refine ev_comp' r eI (fun j => .int (((VV rs cs j).getD 0 : Nat) : Int)) (by rw [evI_seq, bnd_ap, hi]; rfl) (fun j hj => ⟨_, rfl, ?_⟩) (le_line (by omega))
    have h8 : ∀ s : Sto, getV ((wipeR ρ [8]).set 8 (some (eI j))) 8 s = .ok (eI j) s := fun s => by
      unfold getV
      rw [List.getElem?_set_self (by simp [wipeR, hρ])]; rfl
    have h3 : getV ((wipeR ρ [8]).set 8 (some (eI j))) 3 s = getV ρ 3 s := by
      unfold getV
      rw [List.getElem?_set_ne (by decide)]
      simp only [wipeR]
      rw [List.getElem?_set_ne (by decide)]
    rw [ev_sub, bnd_ap, ev_sub, bnd_ap, ev_var, h3, h]
    simp only [R.bind_ok, bnd_ap, ev_int, ret_ap', pIdx_tup2, ev_var]
    rw [h8, R.bind_ok, v_sub (hr j hj)]
  have body : ∀ (i : Nat) (line : Line), rs[i]? = some line → ∀ (y4 y5 y6 y7 : Option P) (s : Sto), ∃ z6 z7 : Option P, ex dp_law_is_cheap.phi (.for_ (.tup [(.name 6), (.name 7)]) (.enum (.var 5)) [.ifs (.and [(.cmp .isNot (.var 7) .non), (.cmp .gt (.sub (.sub (.var 3) (.int 2)) (.var 4)) (.bin .val .add (.sub (.var 2) (.var 6)) (.bi .val .sum [(.comp .val (.sub (.sub (.var 3) (.int 2)) (.var 8)) (.name 8) (.seq (.var 7)) [] [8])])))]) [.ret (.bl false)] []]) [some (eLp m rs), some (eR row), some (eCs cs), some (.tup [eI (sumT (VV rs cs) row), eR text, eR (vL rs cs)]), some (eI i), some (eL line), y6, y7, none] s = .ok (.next, [some (eLp m rs), some (eR row), some (eCs cs), some (.tup [eI (sumT (VV rs cs) row), eR text, eR (vL rs cs)]), some (eI i), some (eL line), z6, z7, none]) s := fun i line hi y4 y5 y6 y7 s => by
    have hm := List.mem_of_getElem? hi
    have hlen := K.len line hm
    have hlt : i < rs.length := (List.getElem?_eq_some_iff.mp hi).1
    obtain ⟨ρ', s', q1, ⟨z6, z7, e1⟩, e2⟩ := forVals_all (α := Option Rule × Nat) (e := fun p => .tup [eI p.2, eO p.1]) (as := line.zipIdx) (step := fun x ρ' => bnd (ofO (asgT (.tup [(.name 6), (.name 7)]) x ρ')) fun ρ2 => exs dp_law_is_cheap.phi [.ifs (.and [(.cmp .isNot (.var 7) .non), (.cmp .gt (.sub (.sub (.var 3) (.int 2)) (.var 4)) (.bin .val .add (.sub (.var 2) (.var 6)) (.bi .val .sum [(.comp .val (.sub (.sub (.var 3) (.int 2)) (.var 8)) (.name 8) (.seq (.var 7)) [] [8])])))]) [.ret (.bl false)] []] ρ2)
      (fun _ ρ s' => (∃ z6 z7 : Option P, ρ = [some (eLp m rs), some (eR row), some (eCs cs), some (.tup [eI (sumT (VV rs cs) row), eR text, eR (vL rs cs)]), some (eI i), some (eL line), z6, z7, none]) ∧ s' = s) (ρ := [some (eLp m rs), some (eR row), some (eCs cs), some (.tup [eI (sumT (VV rs cs) row), eR text, eR (vL rs cs)]), some (eI i), some (eL line), y6, y7, none]) (s := s) ⟨⟨_, _, rfl⟩, rfl⟩ (fun p1 p p2 ρ s' he ⟨⟨z6, z7, e1⟩, e2⟩ => by
        subst e1 e2
        have hp : p ∈ line.zipIdx := by rw [he]; simp
        obtain ⟨o, l⟩ := p
        have ho : line[l]? = some o := by
          have := List.mk_mem_zipIdx_iff_getElem?.mp hp
          simpa using this
        have hl : l < cs.length := by rw [hcs, ← hlen]; exact (List.getElem?_eq_some_iff.mp ho).1
        refine ⟨_, _, .inl ?_, ⟨some (eI l), some (eO o), rfl⟩, rfl⟩
        cases o with
        | none => simp [eO]
        | some r =>
          have hr := K.rule line hm r (List.mem_of_getElem? ho)
          have hle : (VV rs cs i).getD 0 ≤ cOf cs l + sumT (VV rs cs) r := lim_le K.live (w := cOf cs) hi ho hr.2
          have cc := c3 r hr.2 (by omega) [some (eLp m rs), some (eR row), some (eCs cs), some (.tup [eI (sumT (VV rs cs) row), eR text, eR (vL rs cs)]), some (eI i), some (eL line), some (eI l), some (eO (some r)), none] s' (.var 7) rfl (by simp [eO]) (by simp)
          simp [isNonP_eO, v_sub hlt, sub_costs csP_lst hl, cc, pBi_sum, sumT_ints]
          rw [if_neg (by
            have : cs[l]?.getD 0 = cOf cs l := by unfold cOf; simp
            rw [this]
            omega)]
          simp)
    subst e1 e2
    refine ⟨z6, z7, ?_⟩
    rw [ex_for (xs := line.zipIdx.map fun p => .tup [eI p.2, eO p.1]) (s1 := s') (by simp [eL, enumP_map]), q1]
  obtain ⟨ρ', s', q1, ⟨z4, z5, z6, z7, e1⟩, e2⟩ := forVals_all (α := Line × Nat) (e := fun p => .tup [eI p.2, eL p.1]) (as := rs.zipIdx) (step := fun x ρ' => bnd (ofO (asgT (.tup [(.name 4), (.name 5)]) x ρ')) fun ρ2 => exs dp_law_is_cheap.phi [.for_ (.tup [(.name 6), (.name 7)]) (.enum (.var 5)) [.ifs (.and [(.cmp .isNot (.var 7) .non), (.cmp .gt (.sub (.sub (.var 3) (.int 2)) (.var 4)) (.bin .val .add (.sub (.var 2) (.var 6)) (.bi .val .sum [(.comp .val (.sub (.sub (.var 3) (.int 2)) (.var 8)) (.name 8) (.seq (.var 7)) [] [8])])))]) [.ret (.bl false)] []]] ρ2)
    (fun _ ρ s' => (∃ z4 z5 z6 z7 : Option P, ρ = [some (eLp m rs), some (eR row), some (eCs cs), some (.tup [eI (sumT (VV rs cs) row), eR text, eR (vL rs cs)]), z4, z5, z6, z7, none]) ∧ s' = (⟨[], g⟩ : Sto)) (ρ := [some (eLp m rs), some (eR row), some (eCs cs), some (.tup [eI (sumT (VV rs cs) row), eR text, eR (vL rs cs)]), none, none, none, none, none]) (s := ⟨[], g⟩) ⟨⟨_, _, _, _, rfl⟩, rfl⟩ (fun p1 p p2 ρ s' he ⟨⟨z4, z5, z6, z7, e1⟩, e2⟩ => by
      subst e1 e2
      have hp : p ∈ rs.zipIdx := by rw [he]; simp
      obtain ⟨w6, w7, hb⟩ := body p.2 p.1 (mem_rules hp) z4 z5 z6 z7 ⟨[], g⟩
      refine ⟨_, _, .inl ?_, ⟨some (eI p.2), some (eL p.1), w6, w7, rfl⟩, rfl⟩
      simp [hb])
  subst e1 e2
  have cl := c3 row Rr.lt (by omega) [some (eLp m rs), some (eR row), some (eCs cs), some (.tup [eI (sumT (VV rs cs) row), eR text, eR (vL rs cs)]), z4, z5, z6, z7, none] ⟨[], g⟩ (.var 1) rfl (by simp) (by simp)
  have ec := c1 [some (eLp m rs), some (eR row), some (eCs cs), some (.tup [eI (sumT (VV rs cs) row), eR text, eR (vL rs cs)]), none, none, none, none, none] ⟨[], g⟩ (by simp) rfl
  have enil : ∀ s : Sto, pCmp .ne (.lst []) (.lst []) s = .ok false s := fun s => by rw [ne_lst_nil (by simp [isDs])]; rfl
  have hsum : (text.map fun l => ((cOf cs l : Nat) : Int)).sum = (sumT (VV rs cs) row : Int) := by
    rw [ints_nat, ← h2]; rfl
  simp [F_law_is_cheap, b_law_is_cheap, run, whole_int, lt1, is1, le1, sub1, le2, ec, enil, af, ne3, c2, pBi_sum, hsum]
  rw [ex_for (xs := rs.zipIdx.map fun p => .tup [eI p.2, eL p.1]) (s1 := ⟨[], g⟩) (by simp [sub1, eRs, enumP_map]), q1]
  simp [cl, pBi_sum, sumT_ints]
end
end FW

end

section
set_option Elab.async false
set_option linter.all false
set_option maxRecDepth 100000
/-! Mp16: the beginning, odd costs, the two given programs. -/
namespace FW
open PySem L2
/-! ### the tape's beginning -/
theorem ev_compG {Φ : Fenv} {ρ : Rho} {elt : E} {tg : T} {it : I} {ifs : List E} {own : List Nat} {s s' : Sto} {ps : List P} (h : ev Φ (.comp .val elt tg it ifs own) ρ s = .ok (.lst ps) s') : ev Φ (.comp .glob elt tg it ifs own) ρ s = mkL .glob ps s' := by
  rw [ev, bnd_ap] at h ⊢
  cases hA : evI Φ it ρ s with
  | bad => rw [hA] at h; cases h
  | exn x t => rw [hA] at h; cases h
  | ok iter s1 =>
    rw [hA, R.bind_ok, bnd_ap] at h
    rw [R.bind_ok, bnd_ap]
    revert h
    generalize (colIter iter (fun x acc => bnd (ofO (asgT tg x (wipeR ρ own))) fun ρ' => bnd (quiet (evIfs Φ ifs ρ')) fun c =>
        if c then bnd (quiet (ev Φ elt ρ')) fun p => if acc.length < FW.line then ret (acc ++ [p]) else bad else ret acc) []) s1 = B
    intro h
    cases B with
    | bad => cases h
    | exn x t => cases h
    | ok qs s2 =>
      rw [R.bind_ok] at h ⊢
      have h : R.ok (P.lst qs) s2 = .ok (.lst ps) s' := h
      injection h with h1 h2
      injection h1 with h1
      rw [h1, h2]
theorem begun_eq (ns : List Int) (hn : ns.length ≤ 63) : ∃ g, F_law_begun [.scr (ns.map P.int)] [] = .ok (.gob 1) g ∧ Tp [] g := by
  have e1 := ev_comp (Φ := dp_law_begun.phi) (ρ := [some (.scr (ns.map P.int)), none, none]) (s := ⟨[], []⟩) (elt := .bin .val .sub (.bi .val .abs [(.var 2)]) (.bin .val .pow (.int 10) (.int 18))) (tg := .name 2) (it := .seq (.var 0)) (ifs := [(.cmp .ge (.bi .val .abs [(.var 2)]) (.bin .val .pow (.int 10) (.int 18)))]) (own := [2]) ns P.int (fun i => decide ((10 : Int) ^ 18 ≤ (if i < 0 then -i else i))) (fun i => .int ((if i < 0 then -i else i) - 10 ^ 18)) (by simp) (fun i hi => ⟨_, rfl, by
      simp [pBin_pow (show (0 : Int) ≤ 18 by decide) (by decide) (show (10 : Int).natAbs < 2 ^ 64 by decide)]
      by_cases h : (1000000000000000000 : Int) ≤ (if i < 0 then -i else i) <;> simp [h], fun _ => by
      simp [pBin_pow (show (0 : Int) ≤ 18 by decide) (by decide) (show (10 : Int).natAbs < 2 ^ 64 by decide)]⟩) (le_line (by omega))
  have e2 := ev_compG e1
  have el : ∀ l : List Int, (l.map fun i => P.int ((if i < 0 then -i else i) - 10 ^ 18)) = (l.map fun i => ((if i < 0 then -i else i) - 10 ^ 18)).map P.int := fun l => by rw [List.map_map]; rfl
  rw [el, allocG_ok (noLobs_map (fun _ => noLob_int) _)] at e2
  generalize ((ns.filter fun i => decide ((10 : Int) ^ 18 ≤ (if i < 0 then -i else i))).map fun i => ((if i < 0 then -i else i) - 10 ^ 18)) = large at e2
  have e3 : ∀ (a b : Option P) (s : Sto), ev dp_law_begun.phi (.comp .val (.bi .val .abs [(.var 2)]) (.name 2) (.seq (.var 0)) [] [2]) [some (.scr (ns.map P.int)), a, b] s = .ok (.lst ((ns.map fun i => if i < 0 then -i else i).map P.int)) s := fun a b s => by
    rw [List.map_map]
    exact ev_comp' ns P.int (fun i => .int (if i < 0 then -i else i)) (by simp) (fun i hi => ⟨_, rfl, by simp⟩) (le_line (by omega))
  refine ⟨GT large (ns.map fun i => if i < 0 then -i else i) 0 0 [], ?_, ⟨_, _, _, _, rfl⟩⟩
  generalize (ns.map fun i : Int => if i < 0 then -i else i) = cells at e3 ⊢
  have d1 : dispD false [.str "large", .str "rest", .str "cells", .str "turn"] [.gob 0, .int 0, .lst (cells.map P.int), .int 0] = some [(.k (.inr "large"), .gob 0), (.k (.inr "rest"), .int 0), (.k (.inr "cells"), .lst (cells.map P.int)), (.k (.inr "turn"), .int 0)] := rfl
  simp at e2
  simp [F_law_begun, b_law_begun, run, e2, e3, quiet, d1]
  show outF _ = _
  unfold mkD allocG
  simp [Ob.noLob, Ob.ps, GT]
/-! ### odd costs -/
section
variable {m : Nat} {rs : Rules} {cs row : List Nat}
/-- costs that are refused -/
structure Odd (m : Nat) (rs : Rules) (row : List Nat) (odd idx : P) : Prop where
  n : noLob odd = true
  ni : noLob idx = true
  no : ∀ g, F_least_cost [ePg m rs, eR row, odd] g = .exn (.exc "BadCosts" [("index", idx)]) g
  eq : ∀ s : Sto, pCmp .ne idx idx s = .ok false s
theorem odd_of {odd idx : P} (n : noLob odd = true) (hi : idx = .non ∨ ∃ i : Nat, idx = eI i) (h : ∀ g, F_need_costs [ePg m rs, eR row, odd] g = .exn (.exc "BadCosts" [("index", idx)]) g) : Odd m rs row odd idx where
  n := n
  ni := by rcases hi with rfl | ⟨i, rfl⟩ <;> simp
  no := fun g => by
    have ni : noLob idx = true := by rcases hi with rfl | ⟨i, rfl⟩ <;> simp
    simp [F_least_cost, b_least_cost, run, n, h, ni]
  eq := fun s => by
    rcases hi with rfl | ⟨i, rfl⟩
    · rw [pCmp_ne (by simp [isD]) (by simp [isD])]; simp [peq]
    · simp
def badL (cs : List Nat) (spot : Nat) : List P := [.tup [.non, .non], .tup [.lst (cs.map eI ++ [.int 1]), .non], .tup [.str "11", .non]] ++ [.int (-1), .int 1001, .non, .bl true].map fun x => .tup [.lst ((cs.take spot).map eI ++ [x] ++ (cs.drop (spot + 1)).map eI), eI spot]
theorem bad_odd (Rr : OkR rs row) (hcs : cs.length = m) (hle : ∀ c ∈ cs, c ≤ 1000) {spot : Nat} (hs : spot < m) {p : P} (hp : p ∈ badL cs spot) : ∃ odd idx, p = .tup [odd, idx] ∧ Odd m rs row odd idx := by
  have at_ : ∀ x, NoC x → Odd m rs row (.lst ((cs.take spot).map eI ++ [x] ++ (cs.drop (spot + 1)).map eI)) (eI spot) := fun x hx => by
    have hn : noLobs ((cs.take spot).map eI ++ x :: (cs.drop (spot + 1)).map eI) = true := by rw [noLobs_app, noLobs_cons, noLobs_eI, hx.1, noLobs_eI]; rfl
    have hl : ((cs.take spot).map eI).length = spot := by simp; omega
    rw [show (cs.take spot).map eI ++ [x] ++ (cs.drop (spot + 1)).map eI = (cs.take spot).map eI ++ x :: (cs.drop (spot + 1)).map eI by simp]
    refine odd_of (by rw [noLob_lst]; exact hn) (.inr ⟨spot, rfl⟩) fun g => ?_
    have := need_costs_at (m := m) (rs := rs) (row := row) (pc := .lst ((cs.take spot).map eI ++ x :: (cs.drop (spot + 1)).map eI)) (.inl rfl) hn (by simp; omega) (fun y hy => by
      obtain ⟨c, hc, rfl⟩ := List.mem_map.mp hy
      exact okC_nat (hle c (List.mem_of_mem_take hc))) hx Rr g
    rw [hl] at this
    exact this
  unfold badL at hp
  simp only [List.map_cons, List.map_nil, List.cons_append, List.nil_append, List.mem_cons, List.not_mem_nil, or_false] at hp
  rcases hp with rfl | rfl | rfl | rfl | rfl | rfl | rfl
  · exact ⟨_, _, rfl, odd_of (by simp) (.inl rfl) fun g => need_costs_no (by simp) (fun g => is_list_non g) Rr g⟩
  · exact ⟨_, _, rfl, odd_of (by simp) (.inl rfl) fun g => need_costs_len (.inl rfl) (by simp) (by simp; omega) Rr g⟩
  · exact ⟨_, _, rfl, odd_of (by simp) (.inl rfl) fun g => need_costs_no (by simp) (fun g => is_list_str _ g) Rr g⟩
  · exact ⟨_, _, rfl, at_ _ (noC_int (by omega))⟩
  · exact ⟨_, _, rfl, at_ _ (noC_int (by omega))⟩
  · exact ⟨_, _, rfl, at_ _ noC_non⟩
  · exact ⟨_, _, rfl, at_ _ noC_bl⟩
theorem paper_badrow (hn : rs.length ≤ 12) (g : List Ob) : F_cost_paper [ePg m rs, .tup [.int 99], .non] g = .exn (.exc "BadRow" [("part", .non)]) g := by
  have h := need_costs_row (m := m) (rs := rs) (row := [99]) (pc := .non) (by simp) (by simp; omega) (by simp)
  have h : ∀ g, F_need_costs [ePg m rs, .tup [.int 99], .non] g = .exn (.exc "BadRow" [("part", .non)]) g := h
  simp [F_cost_paper, b_cost_paper, run, h]
theorem cost_noprog {q : P} (hq : q = .non ∨ ∃ i, q = .int i) (g : List Ob) : F_least_cost [q, .non, .non] g = .exn (.exc "NoProgram" [("part", .non)]) g := by
  have h := fun g => need_costs_prog hq (r := .non) (pc := .non) (by simp) (by simp) g
  have nq : noLob q = true := by rcases hq with rfl | ⟨i, rfl⟩ <;> simp
  simp [F_least_cost, b_least_cost, run, h, nq]
/-- ones are norms -/
theorem ones_eq (K : OkP m rs) (row : List Nat) : cstT (DD rs (List.replicate m 1)) row = sumT (NN rs) row := by
  rw [cst_sum K]
  rw [lim_congr (w := cOf (List.replicate m 1)) (w' := fun _ => 1) fun line hl l h => by
    have := K.len line hl
    unfold cOf
    simp [List.getD_eq_getElem?_getD, List.getElem?_replicate, show l < m by omega]]
/-- texts of drawn programs are short -/
theorem len_drawn {c : Nat → Nat} (D : Drawn m rs) {row : List Nat} (h4 : row.length ≤ 4) (hr : ∀ j ∈ row, j < rs.length) : lenT (lim rs (wB c)) row ≤ 4096 := by
  have h := lenT_le (T := lim rs (wB c)) (L := 1024) (r := row) fun j hj => by
    obtain ⟨v, hv⟩ := lim_some (w := wB c) D.ok.live (hr j hj)
    rw [hv]
    have := it_len D.ok (c := c) (d := 3) (by decide) D.r3 rs.length (by have := D.n5; omega) j v hv
    refine Nat.le_trans this ?_
    exact Nat.le_trans (Nat.pow_le_pow_right (by decide) D.n5) (by decide)
  have := Nat.mul_le_mul_right 1024 h4
  omega
theorem nn_drawn (D : Drawn m rs) {row : List Nat} (h4 : row.length ≤ 4) (hr : ∀ j ∈ row, j < rs.length) : sumT (NN rs) row ≤ 4096 := by
  have h := sumT_le (T := NN rs) (L := 1024) (r := row) fun j hj => by
    obtain ⟨v, hv⟩ := lim_some (w := fun _ => 1) D.ok.live (hr j hj)
    rw [show NN rs j = some v from hv]
    have := it_one (d := 3) D.r3 rs.length j v hv
    refine Nat.le_trans this ?_
    exact Nat.le_trans (Nat.pow_le_pow_right (by decide) D.n5) (by decide)
  have := Nat.mul_le_mul_right 1024 h4
  omega
end
/-! ### given programs -/
def chainR : Rules := [[some [1, 1, 1, 1, 1, 1], none], [some [2, 2, 2, 2, 2, 2], none], [some [3, 3, 3, 3, 3, 3], none], [some [4, 4, 4, 4, 4, 4], none], [some [5, 5, 5, 5, 5, 5], none], [some [], none]]
theorem chain_ok : OkP 2 chainR where
  m1 := by decide
  m6 := by decide
  n1 := by decide
  n12 := by decide
  len := by decide
  rule := by
    intro line hl r hr
    have : (chainR.all fun line => line.all fun o => match o with | some r => decide (r.length ≤ 6) && r.all fun j => decide (j < chainR.length) | none => true) = true := by decide
    have h := List.all_eq_true.mp (List.all_eq_true.mp this line hl) (some r) hr
    dsimp only at h
    rw [Bool.and_eq_true] at h
    exact ⟨of_decide_eq_true h.1, fun j hj => of_decide_eq_true (List.all_eq_true.mp h.2 j hj)⟩
  live := by
    intro S hS
    have h5 : S 5 := hS 5 [some [], none] [] rfl (by simp) (fun j hj => by cases hj)
    have h4 : S 4 := hS 4 [some [5, 5, 5, 5, 5, 5], none] [5, 5, 5, 5, 5, 5] rfl (by simp) (fun j hj => by simp at hj; subst hj; exact h5)
    have h3 : S 3 := hS 3 [some [4, 4, 4, 4, 4, 4], none] [4, 4, 4, 4, 4, 4] rfl (by simp) (fun j hj => by simp at hj; subst hj; exact h4)
    have h2 : S 2 := hS 2 [some [3, 3, 3, 3, 3, 3], none] [3, 3, 3, 3, 3, 3] rfl (by simp) (fun j hj => by simp at hj; subst hj; exact h3)
    have h1 : S 1 := hS 1 [some [2, 2, 2, 2, 2, 2], none] [2, 2, 2, 2, 2, 2] rfl (by simp) (fun j hj => by simp at hj; subst hj; exact h2)
    have h0 : S 0 := hS 0 [some [1, 1, 1, 1, 1, 1], none] [1, 1, 1, 1, 1, 1] rfl (by simp) (fun j hj => by simp at hj; subst hj; exact h1)
    intro i hi
    have hi : i < 6 := hi
    match i, hi with
    | 0, _ => exact h0
    | 1, _ => exact h1
    | 2, _ => exact h2
    | 3, _ => exact h3
    | 4, _ => exact h4
    | 5, _ => exact h5
theorem chain_vals (w : Nat → Nat) : lim chainR w 0 = some (9331 * w 0) ∧ lim chainR w 1 = some (1555 * w 0) := by
  have f := lim_fix (w := w) chain_ok.live
  have q5 := congrFun f 5
  have q4 := congrFun f 4
  have q3 := congrFun f 3
  have q2 := congrFun f 2
  have q1 := congrFun f 1
  have q0 := congrFun f 0
  generalize lim chainR w = T at *
  have one : ∀ (j : Nat) (v : Nat), T j = some v → lmin (cands w T [some [j, j, j, j, j, j], none]) = some (w 0 + 6 * v) := fun j v h => by
    simp [cands, known, sumT, h, lmin]
    omega
  have q5 : T 5 = some (w 0) := by
    rw [← q5]
    simp [stepT, chainR, cands, known, sumT, lmin]
  have q4 : T 4 = some (w 0 + 6 * w 0) := by rw [← q4]; exact one 5 _ q5
  have q3 : T 3 = some (w 0 + 6 * (w 0 + 6 * w 0)) := by rw [← q3]; exact one 4 _ q4
  have q2 : T 2 = some (259 * w 0) := by
    rw [← q2]
    have := one 3 _ q3
    rw [show w 0 + 6 * (w 0 + 6 * (w 0 + 6 * w 0)) = 259 * w 0 by omega] at this
    exact this
  have q1 : T 1 = some (1555 * w 0) := by
    rw [← q1]
    have := one 2 _ q2
    rw [show w 0 + 6 * (259 * w 0) = 1555 * w 0 by omega] at this
    exact this
  have q0 : T 0 = some (9331 * w 0) := by
    rw [← q0]
    have := one 1 _ q1
    rw [show w 0 + 6 * (1555 * w 0) = 9331 * w 0 by omega] at this
    exact this
  exact ⟨q0, q1⟩
theorem code_mul {c k x : Nat} (hk : k < 100000) (hx : x = c * BB + 1) : qB (k * x) = k * c ∧ rB (k * x) = k := by
  have hb : k < BB := Nat.lt_trans hk (by unfold BB; decide)
  have e : k * x = (k * c) * BB + k := by
    rw [hx, Nat.mul_add, Nat.mul_one, Nat.mul_assoc]
  rw [e]
  exact ⟨code_div hb, code_mod hb⟩
theorem wC_0 {c0 c1 : Nat} : wC [c0, c1] 0 = c0 * BB + 1 := by unfold wC wB cOf; simp
theorem wC_1 {c0 c1 : Nat} : wC [c0, c1] 1 = c1 * BB + 1 := by unfold wC wB cOf; simp
theorem chain_sums {T : Tab} {c0 x : Nat} (h0 : T 0 = some (9331 * x)) (h1 : T 1 = some (1555 * x)) (hx : x = c0 * BB + 1) : lenT T (List.replicate 12 1) = 18660 ∧ lenT T [0, 0, 0] = 27993 ∧ cstT T [0, 0, 0] = 27993 * c0 := by
  obtain ⟨a, a2⟩ := code_mul (k := 9331) (by decide) hx
  obtain ⟨b, b2⟩ := code_mul (k := 1555) (by decide) hx
  generalize 9331 * x = y at *
  generalize 1555 * x = z at *
  refine ⟨?_, ?_, ?_⟩
  · unfold lenT; simp [List.replicate, h1, b2]
  · unfold lenT; simp [h0, a2]
  · unfold cstT; simp [h0, a]; omega
theorem chain_all (c0 : Nat) : lenT (DD chainR [c0, 0]) (List.replicate 12 1) = 18660 ∧ lenT (DD chainR [c0, 0]) [0, 0, 0] = 27993 ∧ cstT (DD chainR [c0, 0]) [0, 0, 0] = 27993 * c0 := by
  obtain ⟨h0, h1⟩ := chain_vals (wC [c0, 0])
  exact chain_sums h0 h1 wC_0
def oneR : Rules := [[some [0, 1], some []], [none, some []]]
theorem one_ok : OkP 2 oneR where
  m1 := by decide
  m6 := by decide
  n1 := by decide
  n12 := by decide
  len := by decide
  rule := by
    intro line hl r hr
    have : (oneR.all fun line => line.all fun o => match o with | some r => decide (r.length ≤ 6) && r.all fun j => decide (j < oneR.length) | none => true) = true := by decide
    have h := List.all_eq_true.mp (List.all_eq_true.mp this line hl) (some r) hr
    dsimp only at h
    rw [Bool.and_eq_true] at h
    exact ⟨of_decide_eq_true h.1, fun j hj => of_decide_eq_true (List.all_eq_true.mp h.2 j hj)⟩
  live := by
    intro S hS
    have h1 : S 1 := hS 1 [none, some []] [] rfl (by simp) (fun j hj => by cases hj)
    have h0 : S 0 := hS 0 [some [0, 1], some []] [] rfl (by simp) (fun j hj => by cases hj)
    intro i hi
    have hi : i < 2 := hi
    match i, hi with
    | 0, _ => exact h0
    | 1, _ => exact h1
theorem one_vals (w : Nat → Nat) : lim oneR w 0 = some (w 1) ∧ lim oneR w 1 = some (w 1) := by
  have f := lim_fix (w := w) one_ok.live
  have q1 := congrFun f 1
  have q0 := congrFun f 0
  obtain ⟨v, hv⟩ := lim_some (w := w) one_ok.live (i := 0) (by decide)
  generalize lim oneR w = T at *
  simp [stepT, oneR, cands, known, sumT, lmin] at q1
  have q1 := q1.symm
  simp [stepT, oneR, cands, known, sumT, q1, hv, lmin] at q0
  rw [hv]
  refine ⟨?_, q1⟩
  congr 1
  by_cases h : w 1 < w 0 + (v + w 1)
  · rw [if_pos h] at q0; omega
  · rw [if_neg h] at q0; omega
theorem one_sums {T : Tab} {c1 x : Nat} (h0 : T 0 = some x) (h1 : T 1 = some x) (hx : x = c1 * BB + 1) : cstT T [0] = c1 ∧ cstT T [0, 1] = 2 * c1 ∧ lenT T [0, 1] = 2 := by
  obtain ⟨a, b⟩ := code_mul (k := 1) (by decide) hx
  rw [Nat.one_mul] at a b
  refine ⟨?_, ?_, ?_⟩
  · unfold cstT; simp [h0, a]
  · unfold cstT; simp [h0, h1, a]; omega
  · unfold lenT; simp [h0, h1, b]
theorem one_cost (c0 c1 : Nat) : cstT (DD oneR [c0, c1]) [0] = c1 ∧ cstT (DD oneR [c0, c1]) [0, 1] = 2 * c1 ∧ lenT (DD oneR [c0, c1]) [0, 1] = 2 := by
  obtain ⟨h0, h1⟩ := one_vals (wC [c0, c1])
  exact one_sums h0 h1 wC_1
end FW

end

section
set_option Elab.async false
set_option linter.all false
set_option maxRecDepth 100000
/-! MK87: the law of least costs. -/
namespace FW.NK87
open PySem L2 FW
def badE : E := .bin .val .add (.lst .val [(.tup [.non, .non]), (.tup [(.bin .val .add (.var 15) (.lst .val [(.int 1)])), .non]), (.tup [(.str "11"), .non])]) (.comp .val (.tup [(.bin .val .add (.bin .val .add (.slice .val (.var 15) .abs (.var 11)) (.lst .val [(.var 18)])) (.slice .val (.var 15) (.bin .val .add (.var 11) (.int 1)) .abs)), (.var 11)]) (.name 18) (.seq (.lst .val [(.neg (.int 1)), (.int 1001), .non, (.bl true)])) [] [18])
def lapB : List St := [.asg (.name 6) (.call "_law_program" [(.var 1), (.int 3), (.int 5), (.int 3)] []),
  .asg (.tup [(.name 13), (.name 14), (.name 15)]) (.tup [(.call "_law_made" [(.var 6)] []), (.call "_law_row" [(.var 1), (.var 6), (.int 4)] []), (.call "_law_costs" [(.var 1), (.sub (.var 6) (.int 0))] [])]),
  .asg (.name 7) (.call "_law_low" [(.var 6), (.var 15)] []),
  .asg (.name 8) (.bi .val .sum [(.comp .val (.sub (.var 7) (.var 18)) (.name 18) (.seq (.var 14)) [] [18])]),
  .ifs (.cmp .ne (.lst .val [(.call "least_cost" [(.var 13), (.var 14), (.var 15)] []), (.callk "least_cost" [] ["costs", "row", "program"] [2, 1, 0] [(.bi .val .tuple [(.var 15)]), (.var 14), (.var 13)])]) (.lst .val [(.var 8), (.var 8)])) [.ret (.bl false)] [],
  .asg (.name 9) (.call "cost_paper" [(.var 13), (.var 14), (.var 15)] []),
  .ifs (.or [(.cmp .ne (.sub (.var 9) (.int 0)) (.var 8)), (.not (.call "_law_is_cheap" [(.var 6), (.var 14), (.var 15), (.var 9)] [])), (.not (.call "_law_is_cheap" [(.var 6), (.var 14), (.var 15), (.callk "cost_paper" [] ["costs", "row", "program"] [2, 1, 0] [(.var 15), (.var 14), (.var 13)])] []))]) [.ret (.bl false)] [],
  .asg (.name 10) (.call "_law_whole_text" [(.var 1), (.var 6), (.var 14), (.int 30)] []),
  .ifs (.or [(.cmp .lt (.bi .val .sum [(.comp .val (.sub (.var 15) (.var 19)) (.name 19) (.seq (.var 10)) [] [19])]) (.var 8)), (.cmp .ne (.call "least_cost" [(.var 13), (.var 14), (.bin .val .mul (.lst .val [(.int 1)]) (.sub (.var 6) (.int 0)))] []) (.call "norm_of" [(.var 13), (.var 14)] []))]) [.ret (.bl false)] [],
  .asg (.name 11) (.call "_law_draw" [(.var 1), (.bi .val .len [(.var 15)])] []),
  .asg (.name 12) badE,
  .asg (.tup [(.name 16), (.name 17)]) (.call "_law_pick" [(.var 1), (.var 12)] []),
  .asg (.name 4) (.caught "_law_caught" (.call "least_cost" [(.var 13), (.var 14), (.var 16)] [])),
  .ifs (.or [(.not (.bi .val .isinstance [(.var 4), (.con "BadCosts" (.cls "BadCosts"))])), (.cmp .ne (.attr (.var 4) "index") (.var 17)), (.not (.bi .val .isinstance [(.caught "_law_caught" (.call "cost_paper" [(.var 13), (.tup [(.int 99)]), .non] [])), (.con "BadRow" (.cls "BadRow"))]))]) [.ret (.bl false)] []]
theorem comp_due {m : Nat} {rs : Rules} (K : OkP m rs) {cs row : List Nat} (Rr : OkR rs row) (a0 a1 a2 a3 a4 a5 a6 a8 a9 a10 a11 a12 a13 a15 a16 a17 : Option P) (s : Sto) :
    ev dp_law.phi (.comp .val (.sub (.var 7) (.var 18)) (.name 18) (.seq (.var 14)) [] [18]) [a0, a1, a2, a3, a4, a5, a6, some (eT rs eI (lim rs (cOf cs))), a8, a9, a10, a11, a12, a13, some (eR row), a15, a16, a17, none, none] s = .ok (.lst (row.map fun j => .int (((VV rs cs j).getD 0 : Nat) : Int))) s := by
  have := Rr.len
  refine ev_comp' row eI (fun j => .int (((VV rs cs j).getD 0 : Nat) : Int)) (by simp [eR]) (fun j hj => ⟨_, rfl, ?_⟩) (le_line (by omega))
  obtain ⟨v, hv⟩ := lim_some (w := cOf cs) K.live (Rr.lt j hj)
  have := sub_table (f := eI) (s := s) (k := rs.length) (w := cOf cs) (rs := rs) hv
  simp
  rw [show VV rs cs j = some v from hv]
  exact this
theorem comp_text {cs text : List Nat} (ht : ∀ l ∈ text, l < cs.length) (hl : text.length ≤ 1000000) (a0 a1 a2 a3 a4 a5 a6 a7 a8 a9 a11 a12 a13 a14 a16 a17 a18 : Option P) (s : Sto) :
    ev dp_law.phi (.comp .val (.sub (.var 15) (.var 19)) (.name 19) (.seq (.var 10)) [] [19]) [a0, a1, a2, a3, a4, a5, a6, a7, a8, a9, some (eR text), a11, a12, a13, a14, some (eCs cs), a16, a17, a18, none] s = .ok (.lst (text.map fun l => .int ((cOf cs l : Nat) : Int))) s := by
  refine ev_comp' text eI (fun l => .int ((cOf cs l : Nat) : Int)) (by simp [eR]) (fun l hl => ⟨_, rfl, ?_⟩) (by unfold FW.line; omega)
  simp [sub_costs csP_lst (ht l hl), cOf]
theorem bad_eq {cs : List Nat} {spot : Nat} (hc : cs.length ≤ 100) (a0 a1 a2 a3 a4 a5 a6 a7 a8 a9 a10 a12 a13 a14 a16 a17 : Option P) (s : Sto) :
    ev dp_law.phi badE [a0, a1, a2, a3, a4, a5, a6, a7, a8, a9, a10, some (eI spot), a12, a13, a14, some (eCs cs), a16, a17, none, none] s = .ok (.lst (badL cs spot)) s := by
  have cut1 : ∀ s : Sto, pCut .val (eCs cs) none (some (spot : Int)) s = .ok (.lst ((cs.take spot).map eI)) s := fun s => by
    unfold pCut eCs cutP listOf
    dsimp only
    rw [HT.sIx_nat, HT.sIx_none]
    simp
  have cut2 : ∀ s : Sto, pCut .val (eCs cs) (some ((spot : Int) + 1)) none s = .ok (.lst ((cs.drop (spot + 1)).map eI)) s := fun s => by
    unfold pCut eCs cutP listOf
    dsimp only
    rw [show ((spot : Int) + 1) = ((spot + 1 : Nat) : Int) by omega, HT.sIx_nat, HT.sIx_none]
    simp
    by_cases h : spot + 1 ≤ cs.length
    · rw [Nat.min_eq_left h, List.take_of_length_le (by simp)]
    · rw [Nat.min_eq_right (by omega), List.drop_of_length_le (by simp), List.drop_of_length_le (by simp; omega)]; simp
  have add1 : ∀ s : Sto, pBin .val .add (eCs cs) (.lst [.int 1]) s = .ok (.lst (cs.map eI ++ [.int 1])) s := fun s => by
    unfold eCs
    rw [pBin_add_lst (by simp [FW.line] <;> omega)]
  have l1 : (cs.take spot).length ≤ 100 := by rw [List.length_take]; omega
  have l2 : (cs.drop (spot + 1)).length ≤ 100 := by rw [List.length_drop]; omega
  unfold badE
  simp only [ev_bin, bnd_ap, ev_lst, evs_cons, evs_nil, ev_tup, ev_non, ev_var, ev_str, ev_int, getV_s, getV_0, getV_15, R.bind_ok, ret_ap', ite_M_ap, List.length_cons, List.length_nil, le_line, Nat.reduceAdd, Nat.reduceLeDiff, if_true, mkL_val, add1]
  rw [ev_comp' [.int (-1), .int 1001, .non, .bl true] id (fun x => .tup [.lst ((cs.take spot).map eI ++ [x] ++ (cs.drop (spot + 1)).map eI), eI spot]) (by simp) (fun x hx => ⟨_, rfl, ?_⟩) (le_line (by simp))]
  · simp only [R.bind_ok, mkL_val]
    rw [pBin_add_lst (by simp [FW.line] <;> omega)]
    rfl
  · simp [isAbs, toI, cut1, cut2]
    rw [pBin_add_lst (by simp [FW.line] <;> omega)]
    simp [toI, cut2]
    rw [pBin_add_lst (by simp [FW.line] <;> omega)]
    simp
theorem lap_eq {junk g : List Ob} (T : Tp junk g) (G : GoodJ junk) (a0 a2 a4 a6 a7 a8 a9 a10 a11 a12 a13 a14 a15 a16 a17 : Option P) :
    ∃ (b4 b6 b7 b8 b9 b10 b11 b12 b13 b14 b15 b16 b17 : Option P) (g' junk' : List Ob), Tp junk' g' ∧ GoodJ junk' ∧
      exs dp_law.phi lapB [a0, some (.gob 1), a2, none, a4, none, a6, a7, a8, a9, a10, a11, a12, a13, a14, a15, a16, a17, none, none] ⟨[], g⟩ = .ok (.next, [a0, some (.gob 1), a2, none, b4, none, b6, b7, b8, b9, b10, b11, b12, b13, b14, b15, b16, b17, none, none]) ⟨[], g'⟩ := by
  obtain ⟨m, rs, g1, j1, hp, T1, G1, D⟩ := program_eq T G
  have K := D.ok
  have hm6 := K.m6
  have hn12 := K.n12
  have hm := made_eq K (lowG_of G1 T1)
  obtain ⟨row, g2, r1, r2, T2, hr⟩ := row_eq T1 (m := m) K.n1 (by omega)
  have Rr : OkR rs row := ⟨by omega, r2⟩
  obtain ⟨cs, g3, c1, c2, T3, hc⟩ := costs_eq T2 (m := m) (by omega)
  have hlow := low_eq K c1 g3
  have C : OkCs m cs (eCs cs) := ⟨c1, c2, .inl rfl⟩
  have C2 : OkCs m cs (eR cs) := ⟨c1, c2, .inr rfl⟩
  have lc1 := least_cost_eq K C Rr g3
  have lc2 := least_cost_eq K C2 Rr g3
  have hd : cstT (DD rs cs) row = sumT (VV rs cs) row := cst_sum K row
  have hL : lenT (DD rs cs) row ≤ 4096 := len_drawn D r1 r2
  obtain ⟨tx, cp, x1, x2, x3⟩ := cost_paper_eq K C Rr (Nat.le_trans hL (by decide)) g3
  rw [vL_eq K, hd] at cp
  rw [hd] at lc1 lc2 x2
  have ic := is_cheap_eq K c1 Rr x1 x2 (by rw [x3]; exact Nat.le_trans hL (by decide)) g3
  obtain ⟨text, g4, wt, T4, w2, w3⟩ := whole_text_eq T3 K r2 (Nat.le_trans (nn_drawn D r1 r2) (by decide))
  have ge := text_ge K (c := cOf cs) r2 w2
  have ge : sumT (VV rs cs) row ≤ wsum (cOf cs) text := ge
  have wl := rafter_letters K r2 w2
  have ct := comp_text (cs := cs) (text := text) (by rw [c1]; exact wl) w3
  have C1 : OkCs m (List.replicate m 1) (eCs (List.replicate m 1)) := ⟨by simp, fun c hc => by rw [(List.mem_replicate.mp hc).2]; decide, .inl rfl⟩
  have lo := least_cost_eq K C1 Rr g4
  rw [ones_eq K] at lo
  have no : F_norm_of [ePg m rs, eR row] g4 = .ok (eI (sumT (NN rs) row)) g4 := norm_of_eq K Rr.len Rr.lt g4
  have mo : ∀ s : Sto, pBin .val .mul (.lst [.int 1]) (eI m) s = .ok (eCs (List.replicate m 1)) s := fun s => by
    unfold pBin pMul
    dsimp only [listOf]
    rw [if_pos (by simp [FW.line] <;> omega)]
    show mkL .val _ s = _
    rw [mkL_val]
    unfold eCs
    have e : (List.replicate (m : Int).toNat [P.int 1]).flatten = (List.replicate m 1).map eI := by simp
    rw [e]
  obtain ⟨spot, g5, s1, T5, hs⟩ := draw_eq T4 (n := cs.length) (by have := K.m1; omega) (by omega)
  have nb : noLobs (badL cs spot) = true := by
    have hx := fun p hp => bad_odd (cs := cs) (spot := spot) Rr c1 c2 (by omega) (p := p) hp
    exact noLobs_all fun p hp => by
      obtain ⟨odd, idx, rfl, O⟩ := hx p hp
      simp [O.n, O.ni]
  obtain ⟨p, g6, p1, T6, hpk⟩ := pick_eq T5 (xs := badL cs spot) (by unfold badL; simp) (by unfold badL; simp) nb
  obtain ⟨odd, idx, rfl, O⟩ := bad_odd Rr c1 c2 (by omega) p1
  have lodd := O.no g6
  have pbr := paper_badrow (m := m) (rs := rs) hn12 g6
  have eqL : ∀ s : Sto, pCmp .ne (.lst [eI (sumT (VV rs cs) row), eI (sumT (VV rs cs) row)]) (.lst [eI (sumT (VV rs cs) row), eI (sumT (VV rs cs) row)]) s = .ok false s := fun s => by
    rw [pCmp_ne (by simp [isD, isDs]) (by simp [isD, isDs])]; simp [peq, peqs]
  have tc : ∀ s : Sto, pBi dp_law.phi .val .tuple [eCs cs] s = .ok (eR cs) s := fun s => rfl
  have lcs : ∀ s : Sto, pBi dp_law.phi .val .len [eCs cs] s = .ok (eI cs.length) s := fun s => by unfold eCs; simp
  have due := comp_due K (cs := cs) Rr
  have be := bad_eq (cs := cs) (spot := spot) (by omega)
  have ecB : ecOf dp_law.phi "BadCosts" = true := rfl
  have ecR : ecOf dp_law.phi "BadRow" = true := rfl
  have iB : ∀ (fs : List (String × P)) (s : Sto), pBi dp_law.phi .val .isinstance [.exc "BadCosts" fs, .cls "BadCosts"] s = .ok (.bl true) s := fun fs s => by rw [isi_exc rfl rfl]; rfl
  have iR : ∀ (fs : List (String × P)) (s : Sto), pBi dp_law.phi .val .isinstance [.exc "BadRow" fs, .cls "BadRow"] s = .ok (.bl true) s := fun fs s => by rw [isi_exc rfl rfl]; rfl
  have at_ : ∀ s : Sto, pAttr dp_law.phi (.exc "BadCosts" [("index", idx)]) "index" s = .ok idx s := fun s => attr_exc rfl rfl
  have oeq := O.eq
  have on := O.n
  have hge : ¬ ((wsum (cOf cs) text : Nat) : Int) < ((sumT (VV rs cs) row : Nat) : Int) := by omega
  have hsum : (text.map fun l => ((cOf cs l : Nat) : Int)).sum = ((wsum (cOf cs) text : Nat) : Int) := by rw [ints_nat]; rfl
  refine ⟨some (.exc "BadCosts" [("index", idx)]), some (eLp m rs), some (eT rs eI (lim rs (cOf cs))), some (eI (sumT (VV rs cs) row)), some (.tup [eI (sumT (VV rs cs) row), eR tx, eR (vL rs cs)]), some (eR text), some (eI spot), some (.lst (badL cs spot)), some (ePg m rs), some (eR row), some (eCs cs), some odd, some idx, g6, j1, ?_, G1, ?_⟩
  · exact T6
  · simp [lapB, hp, hm, hr, sub0, hc, hlow, due, pBi_sum, sumT_ints, lc1, tc, lc2, eqL, cp, ic, wt, ct, hsum, hge, mo, lo, no, lcs, hs, be, nb, hpk, lodd, on, ecB, iB, at_, oeq, pbr, ecR, iR]
theorem mul_6 {i : Int} {s : Sto} : pBin .val .mul (.tup [.int i]) (.int 6) s = .ok (.tup [.int i, .int i, .int i, .int i, .int i, .int i]) s := (rfl)
theorem mul_12 {i : Int} {s : Sto} : pBin .val .mul (.tup [.int i]) (.int 12) s = .ok (.tup [.int i, .int i, .int i, .int i, .int i, .int i, .int i, .int i, .int i, .int i, .int i, .int i]) s := (rfl)
/-- THE LAW HOLDS -/
theorem law_true (ns : List Int) (hn : ns.length ≤ 63) (_hb : ∀ z ∈ ns, Builtin.Int.intBits z ≤ 1048576) : ∃ g, F_law [.scr (ns.map .int)] [] = .ok (.bl true) g := by
  obtain ⟨g0, hb, T0⟩ := begun_eq ns hn
  obtain ⟨k, hk, hk2⟩ : ∃ k : Nat, (6 : Int) + (if (12 : Int) < (ns.length : Int) then 12 else (ns.length : Int)) = (k : Int) ∧ k ≤ 18 := by
    by_cases h : (12 : Int) < (ns.length : Int)
    · exact ⟨18, by rw [if_pos h]; rfl, Nat.le_refl _⟩
    · exact ⟨6 + ns.length, by rw [if_neg h]; omega, by omega⟩
  obtain ⟨ρ', s', h1, ⟨b2, b4, b6, b7, b8, b9, b10, b11, b12, b13, b14, b15, b16, b17, junk, e1, T, G⟩, e2⟩ := forVals_all (α := Nat) (e := eI) (as := List.range k) (step := fun x ρ' => bnd (ofO (asgT (.name 2) x ρ')) fun ρ2 => exs dp_law.phi lapB ρ2)
    (fun _ ρ s => (∃ (b2 b4 b6 b7 b8 b9 b10 b11 b12 b13 b14 b15 b16 b17 : Option P) (junk : List Ob), ρ = [some (.scr (ns.map P.int)), some (.gob 1), b2, none, b4, none, b6, b7, b8, b9, b10, b11, b12, b13, b14, b15, b16, b17, none, none] ∧ Tp junk s.g ∧ GoodJ junk) ∧ s.l = []) (ρ := [some (.scr (ns.map P.int)), some (.gob 1), none, none, none, none, none, none, none, none, none, none, none, none, none, none, none, none, none, none]) (s := ⟨[], g0⟩) ⟨⟨none, none, none, none, none, none, none, none, none, none, none, none, none, none, [], rfl, T0, goodJ_nil⟩, rfl⟩ (fun p1 i p2 ρ s he ⟨⟨b2, b4, b6, b7, b8, b9, b10, b11, b12, b13, b14, b15, b16, b17, junk, e1, T, G⟩, e2⟩ => by
      obtain ⟨l, g⟩ := s
      dsimp only at e2 T
      subst e1 e2
      obtain ⟨c4, c6, c7, c8, c9, c10, c11, c12, c13, c14, c15, c16, c17, g', junk', T', G', hx⟩ := lap_eq T G (some (.scr (ns.map P.int))) (some (eI i)) b4 b6 b7 b8 b9 b10 b11 b12 b13 b14 b15 b16 b17
      refine ⟨_, ⟨[], g'⟩, .inl ?_, ⟨some (eI i), c4, c6, c7, c8, c9, c10, c11, c12, c13, c14, c15, c16, c17, junk', rfl, T', G'⟩, rfl⟩
      simp [hx])
  obtain ⟨l, g⟩ := s'
  dsimp only at e2 T
  subst e1 e2
  have LG := lowG_of G T
  have mc : F_Program [.int 2, .lst [.lst [.tup [.int 1, .int 1, .int 1, .int 1, .int 1, .int 1], .non], .lst [.tup [.int 2, .int 2, .int 2, .int 2, .int 2, .int 2], .non], .lst [.tup [.int 3, .int 3, .int 3, .int 3, .int 3, .int 3], .non], .lst [.tup [.int 4, .int 4, .int 4, .int 4, .int 4, .int 4], .non], .lst [.tup [.int 5, .int 5, .int 5, .int 5, .int 5, .int 5], .non], .lst [.tup [], .non]]] g = .ok (ePg 2 chainR) g := F_Program_eq chain_ok LG
  have mo : F_Program [.int 2, .lst [.lst [.tup [.int 0, .int 1], .tup []], .lst [.non, .tup []]]] g = .ok (ePg 2 oneR) g := F_Program_eq one_ok LG
  obtain ⟨l1, l2, _⟩ := chain_all 0
  obtain ⟨_, _, k3⟩ := chain_all 1000
  obtain ⟨tx, cp, _, _, t3⟩ := cost_paper_eq (row := List.replicate 12 1) (cs := [0, 0]) (pc := eCs [0, 0]) chain_ok ⟨rfl, by decide, .inl rfl⟩ ⟨by decide, by decide⟩ (by rw [l1]; decide) g
  rw [l1] at t3
  have cp : F_cost_paper [ePg 2 chainR, .tup [.int 1, .int 1, .int 1, .int 1, .int 1, .int 1, .int 1, .int 1, .int 1, .int 1, .int 1, .int 1], .lst [.int 0, .int 0]] g = _ := cp
  have lc := least_cost_eq (row := [0, 0, 0]) (cs := [1000, 0]) (pc := eCs [1000, 0]) chain_ok ⟨rfl, by decide, .inl rfl⟩ ⟨by decide, by decide⟩ g
  rw [k3] at lc
  have lc : F_least_cost [ePg 2 chainR, .tup [.int 0, .int 0, .int 0], .lst [.int 1000, .int 0]] g = .ok (.int 27993000) g := lc
  have cl := cost_paper_long (row := [0, 0, 0]) (cs := [0, 0]) (pc := eCs [0, 0]) chain_ok ⟨rfl, by decide, .inl rfl⟩ ⟨by decide, by decide⟩ (by rw [l2]; decide) g
  have cl : F_cost_paper [ePg 2 chainR, .tup [.int 0, .int 0, .int 0], .lst [.int 0, .int 0]] g = _ := cl
  obtain ⟨o1, _, _⟩ := one_cost 5 2
  obtain ⟨_, o2, o3⟩ := one_cost 0 3
  have lo := least_cost_eq (row := [0]) (cs := [5, 2]) (pc := eCs [5, 2]) one_ok ⟨rfl, by decide, .inl rfl⟩ ⟨by decide, by decide⟩ g
  rw [o1] at lo
  have lo : F_least_cost [ePg 2 oneR, .tup [.int 0], .lst [.int 5, .int 2]] g = .ok (.int 2) g := lo
  obtain ⟨to, co, _, _, _⟩ := cost_paper_eq (row := [0, 1]) (cs := [0, 3]) (pc := eCs [0, 3]) one_ok ⟨rfl, by decide, .inl rfl⟩ ⟨by decide, by decide⟩ (by rw [o3]; decide) g
  rw [o2] at co
  have co : F_cost_paper [ePg 2 oneR, .tup [.int 0, .int 1], .lst [.int 0, .int 3]] g = _ := co
  obtain ⟨p, g', p1, _, hp⟩ := pick_eq T (xs := [.non, .int 5]) (by simp) (by simp) (by simp)
  have hq : p = .non ∨ ∃ i, p = .int i := by
    simp at p1
    rcases p1 with rfl | rfl
    · exact .inl rfl
    · exact .inr ⟨5, rfl⟩
  have np : noLob p = true := by rcases hq with rfl | ⟨i, rfl⟩ <;> simp
  have cn := cost_noprog hq g'
  have lt : ∀ s : Sto, pBi dp_law.phi .val .len [eR tx] s = .ok (.int 18660) s := fun s => by
    unfold eR
    simp [t3]
  have ecT : ecOf dp_law.phi "TooMany" = true := rfl
  have ecN : ecOf dp_law.phi "NoProgram" = true := rfl
  have iT : ∀ (fs : List (String × P)) (s : Sto), pBi dp_law.phi .val .isinstance [.exc "TooMany" fs, .cls "TooMany"] s = .ok (.bl true) s := fun fs s => by rw [isi_exc rfl rfl]; rfl
  have iN : ∀ (fs : List (String × P)) (s : Sto), pBi dp_law.phi .val .isinstance [.exc "NoProgram" fs, .cls "NoProgram"] s = .ok (.bl true) s := fun fs s => by rw [isi_exc rfl rfl]; rfl
  have aT : ∀ s : Sto, pAttr dp_law.phi (.exc "TooMany" [("most", .int 20000)]) "most" s = .ok (.int 20000) s := fun s => attr_exc rfl rfl
  refine ⟨g', ?_⟩
  unfold lapB badE at h1
  simp [F_law, b_law, run, hb]
  rw [ex_for (xs := (List.range k).map eI) (s1 := ⟨[], g0⟩) (by simp [hk]; exact r1P_nat (by omega)), h1]
  simp [mul_6, mul_12, mc, cp, lt, lc, cl, ecT, iT, aT, mo, lo, co, hp, np, cn, ecN, iN]
end FW.NK87

end

section
set_option Elab.async false
set_option linter.all false
set_option maxRecDepth 100000
set_option maxHeartbeats 0
namespace FW.K87
open PySem PySem.Spec PyProof.Rows L2
theorem walk_law (hF : ∀ ns : List Int, ns.length ≤ 63 → (∀ z ∈ ns, Builtin.Int.intBits z ≤ 1048576) → ∃ g, F_law [.scr (ns.map .int)] [] = .ok (.bl true) g) {w : World} {mg : Mg} {fa : Addr} {h : Heap} (Y : hk.says w h) (G : h.Ns mainGlobals mg) (hfa : mg ("law" : Str) = some (.ref fa)) :
    ∃ K : PySem.W.Frag, K.In h ∧ LamX.LawAtS rw w K (L2.CX pw w) 18 63 "script" mg fa h := by
  obtain ⟨K, KX, S⟩ := Y
  have H : HdK P K mg := hdK_of KX G S
  exact ⟨K, KX, lawAtS_of (d := d_law) (F := F_law) KX S H (List.mem_of_getElem? (i := 51) rfl) rfl rfl rfl (by decide +kernel) hfa (fun _ _ _ _ _ _ us hl => match us, hl with | [_], _ => rfl) (fun base fd _ _ a TB => main_law H S.nd a TB) hF⟩
end FW.K87
open PySem PySem.W PySem.Calls PyProof.Rows
theorem PySem.Challenge.cw_stacksure_k87_whole_least_costs_of_texts_holds : PySem.Challenge.rw_stacksure_k87_whole_least_costs_of_texts.Holds := by
  w_on; o_law
  refine HandSHeadRun.head_any (r := OpenLaw.row PySem.Challenge.rw_stacksure_k87_whole_least_costs_of_texts) (q := view (OpenLaw.row PySem.Challenge.rw_stacksure_k87_whole_least_costs_of_texts).prog [67]) (H := FW.K87.hk) (ob := FW.K87.ob) (M := 4000) (loose := FW.K87.loose) (d := HandSHeadRun.topDef (OpenLaw.row PySem.Challenge.rw_stacksure_k87_whole_least_costs_of_texts).prog 67) (kwd := []) FW.K87.ob_eq
    (by kernel_rfl) (fun s => by kernel_rfl) FW.K87.run_eq (by kernel_rfl) (by kernel_rfl) (by kernel_rfl) (by rfl) (by first | assumption | decide +kernel) (by decide +kernel) ⟨rfl, rfl, rfl, rfl, rfl, by decide +kernel⟩ ?hw ?hc
  case hw => w_witness2
  case hc =>
    refine LamX.walk_ofTsE (l := PySem.Challenge.rw_stacksure_k87_whole_least_costs_of_texts) (n := 63) (k := 18) (x := "script") (CX := fun w => L2.CX FW.K87.pw w) rfl (by decide) (by kernel_rfl) ⟨rfl, by decide, by decide⟩ ?F (fun _ _ _ _ _ z => ?Z)
    case F =>
      intro w mg fa h Y G hmg0
      have hmg : mg ("law" : PySem.Str) = some (.ref fa) := by
        have e : (HandSHeadRun.topDef (OpenLaw.row PySem.Challenge.rw_stacksure_k87_whole_least_costs_of_texts).prog 67).name = ("law" : PySem.Str) := by kernel_rfl
        rw [← e]
        exact hmg0
      exact FW.K87.walk_law FW.NK87.law_true Y G hmg
    case Z =>
      obtain ⟨_, _, _, _, _, _, _, _, _, _, _, _, z⟩ := z
      exact z

end
