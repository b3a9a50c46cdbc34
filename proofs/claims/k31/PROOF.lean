import PyProof.Rows.All
import Wide.All
import OpenK.AllK
import Wide.FinOn
import PyProof.P3Statements
import PyProof.EqLayable
import KE.SortData
import PyProof.StrBlock2
import HandS.List
import HandS.Text
import HandS.ForMost
import HandS.Conv
import HandS.Deep
import HandS.DictComp
import HandS.Property
import HandS.ClsMeth
import HandS.Defaults
import HandS.OwnIter
import HandS.Flow
import HandS.FStr
import HandS.HeadHook2
import HandS.HeadEnd
import HandS.Head2
import HandS.HeadWalk
import HandS.Style
import HandS.Replace
import HandS.ReplaceList
import HandS.TupAny
import KE.DataEq
import HandS.IsInst
import HandS.Strs
import HandS.Finally
import HandS.Star
import HandS.More
import HandS.Zip
import HandS.Small
import HandS.Head0
import HandS.Head1
import Wide.Txt
import PySem.Challenge.RW_suncalls_k31_rules_and_situations
section
set_option linter.all false
/-! A small language, its values and its evaluator. -/
namespace Sc
open PySem

inductive Val where
  | non | bl (b : Bool) | int (i : Int) | str (x : Str)
  | glb (x : String)
  | tup (vs : List Val)
  | tuq (vs : List Val)       -- a tuple that tuple(..) made
  | loc (n : Nat)
  | tl (vs : List Val)
  | ts (vs : List Val)
  | itr (vs : List Val)
  | xc (C : String) (fs : List (String × Val))
  deriving Inhabited

mutual
def Val.eqb : Val → Val → Bool
  | .non, .non => true
  | .bl a, .bl b => a == b
  | .int a, .int b => a == b
  | .str a, .str b => a == b
  | .tup a, .tup b => Val.eqbs a b
  | _, _ => false
def Val.eqbs : List Val → List Val → Bool
  | [], [] => true
  | a :: r, b :: s => Val.eqb a b && Val.eqbs r s
  | _, _ => false
end

mutual
/-- the very same value -/
def Val.sam : Val → Val → Bool
  | .non, .non => true
  | .bl a, .bl b => a == b
  | .int a, .int b => a == b
  | .str a, .str b => a == b
  | .glb a, .glb b => a == b
  | .loc a, .loc b => a == b
  | .tup a, .tup b => Val.same a b
  | .tuq a, .tuq b => Val.same a b
  | _, _ => false
def Val.same : List Val → List Val → Bool
  | [], [] => true
  | a :: r, b :: s => Val.sam a b && Val.same r s
  | _, _ => false
end

mutual
theorem Val.sam_eq : ∀ a b : Val, Val.sam a b = true → a = b
  | .non, b, h => by cases b <;> simp_all [Val.sam]
  | .bl _, b, h => by cases b <;> simp_all [Val.sam]
  | .int _, b, h => by cases b <;> simp_all [Val.sam]
  | .str _, b, h => by cases b <;> simp_all [Val.sam]
  | .glb _, b, h => by cases b <;> simp_all [Val.sam]
  | .loc _, b, h => by cases b <;> simp_all [Val.sam]
  | .tup a, b, h => by
    cases b with
    | tup b => rw [Val.same_eq a b (by simpa [Val.sam] using h)]
    | _ => simp_all [Val.sam]
  | .tuq a, b, h => by
    cases b with
    | tuq b => rw [Val.same_eq a b (by simpa [Val.sam] using h)]
    | _ => simp_all [Val.sam]
  | .tl _, b, h => by cases b <;> simp_all [Val.sam]
  | .ts _, b, h => by cases b <;> simp_all [Val.sam]
  | .itr _, b, h => by cases b <;> simp_all [Val.sam]
  | .xc _ _, b, h => by cases b <;> simp_all [Val.sam]
theorem Val.same_eq : ∀ a b : List Val, Val.same a b = true → a = b
  | [], b, h => by cases b <;> simp_all [Val.same]
  | a :: r, b, h => by
    cases b with
    | nil => simp_all [Val.same]
    | cons b s =>
      simp only [Val.same, Bool.and_eq_true] at h
      rw [Val.sam_eq a b h.1, Val.same_eq r s h.2]
end
mutual
def Val.plain : Val → Bool
  | .non | .bl _ | .int _ | .str _ | .glb _ | .loc _ => true
  | .tup a => Val.plains a
  | .tuq a => Val.plains a
  | _ => false
def Val.plains : List Val → Bool
  | [] => true
  | a :: r => Val.plain a && Val.plains r
end

inductive Obj where
  | lst (xs : List Val)
  | fz (xs : List Val)
  | dct (kvs : List (Val × Val))
  | ins (C : String) (fs : List (String × Val))
  deriving Inhabited

abbrev Heap := List Obj

inductive R (α : Type) where
  | ok (a : α) (h : Heap)
  | ex (C : String) (fs : List (String × Val)) (h : Heap)
  | no

def R.bind {α β : Type} : R α → (α → Heap → R β) → R β
  | .ok a h, f => f a h
  | .ex C fs h, _ => .ex C fs h
  | .no, _ => .no

/-- nothing is raised -/
def R.nox {α : Type} : R α → R α
  | .ok a h => .ok a h
  | _ => .no

/-! ### syntax -/
inductive Bop where
  | add | sub | mul | fdiv | mod | pow | band | bor | shl | shr
  deriving DecidableEq
inductive Cop where
  | eq | ne | lt | le | gt | ge | is_ | isn | in_ | nin
  deriving DecidableEq
inductive Tg where
  | v (i : Nat)
  | vs (ts : List Tg)
inductive Fp where
  | lit (x : Str)
  | v (i : Nat)

mutual
inductive Ex where
  | v (i : Nat)
  | con (c : Val)
  | glob (x : String)
  | bin (op : Bop) (a b : Ex)
  | neg (a : Ex)
  | inv (a : Ex)
  | not (a : Ex)
  | and (a b : Ex)
  | or (a b : Ex)
  | cmp (op : Cop) (a b : Ex)
  | cmp2 (op op' : Cop) (a b c : Ex)
  | ite (t a b : Ex)
  | lst (es : Its)
  | tup (es : Its)
  | dct (ks vs : Its)
  | sub (a i : Ex)
  | slc (a : Ex) (lo hi : Op)
  | rev (a : Ex)
  | attr (a : Ex) (f : String)
  | call (f : String) (es : Its)
  | callv (f : Ex) (es : Its)
  | meth (o : Ex) (m : String) (es : Its)
  | repl (o : Ex) (y z : Str)
  | bi (f : String) (es : Its)
  | seq (f : String) (s : Src)
  | isi (a : Ex) (ts : List String)
  | lc (e : Ex) (gs : Gens)
  | sc (e : Ex) (gs : Gens)
  | dc (k v : Ex) (gs : Gens)
  | fstr (ps : List Fp)
inductive Its where
  | nil
  | cons (e : Ex) (r : Its)
  | star (e : Ex) (r : Its)
inductive Op where
  | none
  | some (e : Ex)
inductive Src where
  | it (e : Ex)
  | rng1 (a : Ex)
  | rng2 (a b : Ex)
  | rng3 (a b c : Ex)
  | enum (e : Ex)
  | zip (a b : Ex)
  | vals (e : Ex)
  | items (e : Ex)
inductive Gens where
  | nil
  | gen (t : Tg) (s : Src) (ifs : Its) (r : Gens)
end

mutual
def Tg.slots : Tg → List Nat
  | .v i => [i]
  | .vs ts => Tg.slotss ts
def Tg.slotss : List Tg → List Nat
  | [] => []
  | t :: r => Tg.slots t ++ Tg.slotss r
end
def Gens.slots : Gens → List Nat
  | .nil => []
  | .gen t _ _ r => t.slots ++ r.slots

inductive St where
  | set (i : Nat) (e : Ex)
  | sets (ts : List Tg) (e : Ex)
  | setI (o i e : Ex)
  | setA (o : Ex) (f : String) (e : Ex)
  | aug (op : Bop) (i : Nat) (e : Ex)
  | ex (e : Ex)
  | ret (e : Ex)
  | ifs (t : Ex) (a b : List St)
  | for_ (t : Tg) (s : Src) (body : List St)
  | while_ (t : Ex) (body : List St)
  | brk
  | pass
  | raise (C : String) (es : Its)
  | try_ (body : List St) (hs : List (List String × Option Nat × List St))
  | never

structure FnI where
  params : List String
  names : List String
  defs : List Val
  body : List St

structure ClsI where
  props : List String
  attrs : List String
  meths : List String
  cms : List String
  sups : List String       -- itself and the classes above it (names)
  exc : Bool
  fields : List String     -- of an exception: what it keeps

structure Cx where
  call : String → String → List Val → Heap → R Val
  con : String → Option Val
  cls : String → Option ClsI
  fns : String → Bool
  kinds : List String

abbrev Env := List (Option Val)
/-- these names forgotten -/
def wipeE (e : Env) : List Nat → Env
  | [] => e
  | v :: vs => (wipeE e vs).set v none

/-! ### values -/
def lim : Nat := sizeLine


def optAll {α β : Type} (f : α → Option β) : List α → Option (List β)
  | [] => some []
  | a :: r => match f a, optAll f r with
    | some b, some bs => some (b :: bs)
    | _, _ => none

def toPy (h : Heap) : Nat → Val → Option PyData
  | 0, _ => none
  | n + 1, v => match v with
    | .non => some .none
    | .bl b => some (.bool b)
    | .int i => some (.int i)
    | .str x => some (.str x)
    | .tup vs => (optAll (toPy h n) vs).map .tuple
    | .tuq vs => (optAll (toPy h n) vs).map .tuple
    | .tl vs => (optAll (toPy h n) vs).map .list
    | .loc k => match h[k]? with
      | some (.lst vs) => (optAll (toPy h n) vs).map .list
      | _ => none
    | _ => none

def py (h : Heap) (v : Val) : Option PyData := toPy h 9 v

/-- a fresh list gets a number -/
def box (v : Val) (h : Heap) : R Val := match v with
  | .tl vs => .ok (.loc h.length) (h ++ [.lst vs])
  | .ts _ => .no
  | .itr _ => .no
  | v => .ok v h

/-- the items of a list -/
def listOf (h : Heap) : Val → Option (List Val)
  | .tl vs => some vs
  | .loc n => match h[n]? with
    | some (.lst vs) => some vs
    | some (.fz vs) => some vs
    | _ => none
  | _ => none
/-- the items of a list that may be changed -/
def lstOf (h : Heap) : Val → Option (List Val)
  | .tl vs => some vs
  | .loc n => match h[n]? with
    | some (.lst vs) => some vs
    | _ => none
  | _ => none
/-- the items of a list or a tuple -/
def seqOf (h : Heap) : Val → Option (List Val)
  | .tup vs => some vs
  | .tuq vs => some vs
  | v => listOf h v

def dedup (vs : List Val) : List Val := vs.foldl (fun acc v => if acc.any (Val.eqb v) then acc else acc ++ [v]) []

def truth (h : Heap) : Val → Option Bool
  | .non => some false
  | .bl b => some b
  | .int i => some (i != 0)
  | .str x => if x.length ≤ lim then some ((x.length : Int) != 0) else none
  | v => match seqOf h v with
    | some vs => some (!vs.isEmpty)
    | none => none

def ofOpt {α : Type} (o : Option α) (h : Heap) : R α := match o with
  | some a => .ok a h
  | none => .no

/-- where i points in n items -/
abbrev ixOf (n : Nat) (i : Int) : Option Nat := L2.ixN n i
def cut {α : Type} (xs : List α) (lo hi : Option Int) : List α :=
  let a := HT.sIx xs.length 0 lo
  (xs.drop a).take (HT.sIx xs.length xs.length hi - a)

def small (i : Int) : Bool := decide (i.natAbs < 2 ^ 64)

def bin (op : Bop) (a b : Val) (h : Heap) : Option Val := match op, a, b with
  | .add, .int i, .int j => some (.int (i + j))
  | .sub, .int i, .int j => some (.int (i - j))
  | .mul, .int i, .int j => if small i || small j then some (.int (i * j)) else none
  | .fdiv, .int i, .int j => if 0 < j ∧ j < 1073741824 then some (.int (i / j)) else none
  | .mod, .int i, .int j => if 0 < j then some (.int (i % j)) else none
  | .pow, .int i, .int j => if 0 ≤ j ∧ j ≤ 1000000 ∧ i.natAbs < 2 ^ 64 then some (.int (i ^ j.toNat)) else none
  | .shl, .int i, .int j => if 0 ≤ j ∧ j ≤ 1000000 ∧ i.natAbs < 2 ^ 64 then some (.int (i * 2 ^ j.toNat)) else none
  | .shr, .int i, .int j => if 0 ≤ j then some (.int (i / 2 ^ j.toNat)) else none
  | .band, .int i, .int j => some (.int (Builtin.bitAnd i j))
  | .bor, .int i, .int j => some (.int (Builtin.bitOr i j))
  | .add, .str x, .str y => if x.length + y.length ≤ lim then some (.str (x ++ y)) else none
  | .mul, .str x, .int k => if 0 ≤ k ∧ k ≤ 64 ∧ x.length ≤ 64 then some (.str (Txt.mul x k)) else none
  | .add, .tup xs, .tup ys => if xs.length + ys.length ≤ lim then some (.tup (xs ++ ys)) else none
  | .add, .tup xs, .tuq ys => if xs.length + ys.length ≤ lim then some (.tup (xs ++ ys)) else none
  | .add, x, y => match lstOf h x, lstOf h y with
    | some xs, some ys => if xs.length + ys.length ≤ lim then some (.tl (xs ++ ys)) else none
    | _, _ => none
  | .mul, x, .int k => match lstOf h x with
    | some xs => if -(2 ^ 63) ≤ k ∧ k < 2 ^ 63 ∧ xs.length * k.toNat ≤ lim then some (.tl (List.replicate k.toNat xs).flatten) else none
    | none => none
  | _, _, _ => none

def pyEq (h : Heap) (a b : Val) : Option Bool := match py h a, py h b with
  | some d, some e => some (d.eqv e)
  | _, _ => none
abbrev Key := Sum Int Str
def keyOf : Val → Option Key
  | .int i => some (.inl i)
  | .str x => some (.inr x)
  | _ => none
/-- is a among the items -/
def anyEq (h : Heap) (a : Val) (vs : List Val) : Option Bool := match py h a, optAll (py h) vs with
  | some d, some ds => some (ds.any fun e => e.eqv d)
  | _, _ => none
/-- the first place of a -/
def idxOf (h : Heap) (a : Val) (vs : List Val) : Option Nat := match py h a, optAll (py h) vs with
  | some d, some ds => ds.findIdx? fun e => e.eqv d
  | _, _ => none

def strLt (x y : Str) : Bool := decide (x.cps.toList < y.cps.toList)

def isIn (a b : Val) (h : Heap) : Option Bool := match a, b with
  | .str x, .str y => some (!(Builtin.Str.occurrences y x 0 y.length 1).isEmpty)
  | a, .loc n => match h[n]? with
    | some (.lst vs) => anyEq h a vs
    | some (.fz vs) => anyEq h a vs
    | some (.dct kvs) => if (keyOf a).isSome then some (kvs.any fun p => Val.eqb p.1 a) else none
    | _ => none
  | a, .tup vs => anyEq h a vs
  | a, .tuq vs => anyEq h a vs
  | a, .tl vs => anyEq h a vs
  | a, .ts vs => some (vs.any (Val.eqb a))
  | _, _ => none

def isNon : Val → Bool
  | .non => true
  | _ => false

def cmp (op : Cop) (a b : Val) (h : Heap) : Option Bool := match op with
  | .eq => pyEq h a b
  | .ne => (pyEq h a b).map (!·)
  | .lt => match a, b with
    | .int i, .int j => some (decide (i < j))
    | .str x, .str y => some (strLt x y)
    | _, _ => none
  | .le => match a, b with
    | .int i, .int j => some (decide (i ≤ j))
    | _, _ => none
  | .gt => match a, b with
    | .int i, .int j => some (decide (j < i))
    | _, _ => none
  | .ge => match a, b with
    | .int i, .int j => some (decide (j ≤ i))
    | _, _ => none
  | .is_ => match b with
    | .non => some (isNon a)
    | _ => none
  | .isn => match b with
    | .non => some (!isNon a)
    | _ => none
  | .in_ => isIn a b h
  | .nin => (isIn a b h).map (!·)

def lookD (kvs : List (Val × Val)) (k : Val) : Option Val := (kvs.find? fun p => Val.eqb p.1 k).map (·.2)
def putD (kvs : List (Val × Val)) (k v : Val) : List (Val × Val) := if (kvs.any fun p => Val.eqb p.1 k) = true then kvs.map (fun p => if Val.eqb p.1 k = true then (p.1, v) else p) else kvs ++ [(k, v)]

def subV (a i : Val) (h : Heap) : Option Val := match a, i with
  | .str x, .int k => if x.length ≤ lim then (match ixOf x.length k with
    | some j => (x.cps.toList[j]?).map fun c => .str ⟨#[c]⟩
    | none => none) else none
  | .loc n, i => match h[n]?, i with
    | some (.lst vs), .int k => (ixOf vs.length k).bind (vs[·]?)
    | some (.fz vs), .int k => (ixOf vs.length k).bind (vs[·]?)
    | some (.dct kvs), k => if (keyOf k).isSome then lookD kvs k else none
    | _, _ => none
  | .tup vs, .int k => (ixOf vs.length k).bind (vs[·]?)
  | .tuq vs, .int k => (ixOf vs.length k).bind (vs[·]?)
  | .tl vs, .int k => (ixOf vs.length k).bind (vs[·]?)
  | _, _ => none

def optInt : Option Val → Option (Option Int)
  | none => some none
  | some (.int i) => some (some i)
  | _ => none
def cutV (a : Val) (lo hi : Option Int) (h : Heap) : Option Val := match a with
  | .str x => if x.length ≤ lim then some (.str (L2.cutS x lo hi)) else none
  | .tup vs => some (.tup (cut vs lo hi))
  | .tuq vs => some (.tup (cut vs lo hi))
  | a => (listOf h a).map fun vs => .tl (cut vs lo hi)

def putF (fs : List (String × Val)) (f : String) (v : Val) : List (String × Val) := match fs with
  | [] => [(f, v)]
  | (g, u) :: r => if g == f then (f, v) :: r else (g, u) :: putF r f v

def pairsOf : List Val → Option (List (Val × Val))
  | [] => some []
  | .tup [a, b] :: r => (pairsOf r).map ((a, b) :: ·)
  | _ => none
/-- what dict(x) holds -/
def dictOf (h : Heap) (x : Val) : Option (List (Val × Val)) := match listOf h x with
  | some vs => (pairsOf vs).map fun kvs => kvs.foldl (fun d p => putD d p.1 p.2) []
  | none => match x with
    | .loc n => match h[n]? with
      | some (.dct kvs) => some kvs
      | _ => none
    | _ => none
def allInts : List Val → Option (List Int)
  | [] => some []
  | .int i :: r => (allInts r).map (i :: ·)
  | _ => none
def allBls : List Val → Option (List Bool)
  | [] => some []
  | .bl i :: r => (allBls r).map (i :: ·)
  | _ => none
def allStrs : List Val → Option (List Str)
  | [] => some []
  | .str i :: r => (allStrs r).map (i :: ·)
  | _ => none

def sortable (ds : List PyData) : Bool := (ds.all fun d => match d with | .tuple (_ :: _) => true | _ => false) || (ds.all fun d => match d with | .none => false | .tuple _ => false | _ => true)
def sortV (h : Heap) (vs : List Val) : Option (List Val) := match optAll (py h) vs with
  | some ds => if (ds.all fun d => ds.all fun e => W.alike d e) && sortable ds && decide (vs.length ≤ lim) then some (((vs.zip ds).mergeSort (W.dataLe false Prod.snd)).map Prod.fst) else none
  | none => none

/-- what a loop goes over, and the lists that must stay meanwhile -/
structure Walk where
  items : List Val
  keep : List (Nat × List Val)
def staysL (h : Heap) : List (Nat × List Val) → Bool
  | [] => true
  | (n, xs) :: r => (match listOf h (.loc n) with
    | some ys => Val.same xs ys
    | none => false) && staysL h r
def Walk.stays (w : Walk) (h : Heap) : Bool := staysL h w.keep
/-- what must stay of a list -/
def keepOf (v : Val) (vs : List Val) : List (Nat × List Val) := match v with
  | .loc n => [(n, vs)]
  | _ => []
def rngV (a : Int) (n : Nat) : List Val := (List.range n).map fun (i : Nat) => .int (a + (i : Int))
def rngD (a : Int) (n : Nat) : List Val := (List.range n).map fun (i : Nat) => .int (a + (i : Int) * (-1))
def big (i : Int) : Bool := decide (-(2 ^ 62) ≤ i) && decide (i < 2 ^ 62)
/-- what a source that is one value goes over -/
def itE (x : Val) (h : Heap) : Option Walk := match x with
  | .tup vs => some ⟨vs, []⟩
  | .tuq vs => some ⟨vs, []⟩
  | .str x => some ⟨x.cps.toList.map fun c => .str ⟨#[c]⟩, []⟩
  | x => (listOf h x).map fun vs => ⟨vs, keepOf x vs⟩
def enumE (x : Val) (h : Heap) : Option Walk := (listOf h x).map fun vs => ⟨vs.zipIdx.map fun p => .tup [.int (p.2 : Int), p.1], keepOf x vs⟩
def tupOf : Val → Option (List Val)
  | .tup vs => some vs
  | .tuq vs => some vs
  | _ => none
def zipE (x y : Val) (h : Heap) : Option Walk := match listOf h x, listOf h y with
  | some vs, some us => some ⟨(vs.zip us).map fun p => .tup [p.1, p.2], keepOf x vs ++ keepOf y us⟩
  | _, _ => match tupOf x, tupOf y with
    | some vs, some us => some ⟨(vs.zip us).map fun p => .tup [p.1, p.2], []⟩
    | _, _ => none
def rng1E (x : Val) : Option Walk := match x with
  | .int i => if big i then some ⟨rngV 0 i.toNat, []⟩ else none
  | _ => none
def rng2E (x y : Val) : Option Walk := match x, y with
  | .int i, .int j => if big i && big j then some ⟨rngV i (j - i).toNat, []⟩ else none
  | _, _ => none
def rng3E (x y z : Val) : Option Walk := match x, y, z with
  | .int i, .int j, .int k => if big i && big j && k == -1 then some ⟨rngD i (i - j).toNat, []⟩ else none
  | _, _, _ => none

mutual
def asg : Tg → Val → Env → Option Env
  | .v i, v, env => some (env.set i (some v))
  | .vs ts, .tup vs, env => asgs ts vs env
  | .vs ts, .tuq vs, env => asgs ts vs env
  | .vs _, _, _ => none
def asgs : List Tg → List Val → Env → Option Env
  | [], [], env => some env
  | t :: ts, v :: vs, env => match asg t v env with
    | some env => asgs ts vs env
    | none => none
  | _, _, _ => none
end

def loopL (w : Walk) (f : Val → Heap → R (List Val)) : List Val → Heap → R (List Val)
  | [], h => if w.stays h then .ok [] h else .no
  | x :: r, h => if w.stays h then (f x h).bind fun a h1 => (loopL w f r h1).bind fun b h2 => .ok (a ++ b) h2 else .no

inductive Fl where
  | nx (e : Env)
  | rt (v : Val)
  | bk (e : Env)

def loopS (w : Walk) (f : Val → Env → Heap → R Fl) : List Val → Env → Heap → R Fl
  | [], e, h => if w.stays h then .ok (.nx e) h else .no
  | x :: r, e, h => if w.stays h then (f x e h).bind fun fl h1 => match fl with
    | .nx e1 => loopS w f r e1 h1
    | .bk e1 => .ok (.nx e1) h1
    | .rt v => .ok (.rt v) h1 else .no
def loopW (t : Env → Heap → R Bool) (f : Env → Heap → R Fl) : Nat → Env → Heap → R Fl
  | 0, _, _ => .no
  | n + 1, e, h => (t e h).bind fun b h1 => if b then (f e h1).bind fun fl h2 => match fl with
    | .nx e1 => loopW t f n e1 h2
    | .bk e1 => .ok (.nx e1) h2
    | .rt v => .ok (.rt v) h2 else .ok (.nx e) h1

/-- one argument -/
def b1 (g : Val → Heap → Option Val) (vs : List Val) (h : Heap) : Option Val := match vs with
  | [v] => g v h
  | _ => none
def dctOf (h : Heap) : Val → Option (List (Val × Val))
  | .loc n => match h[n]? with
    | some (.dct kvs) => some kvs
    | _ => none
  | _ => none
def bLen (v : Val) (h : Heap) : Option Val := match seqOf h v with
  | some xs => some (.int xs.length)
  | none => match dctOf h v with
    | some kvs => some (.int kvs.length)
    | none => match v with
      | .str x => if x.length ≤ lim then some (.int x.length) else none
      | .ts xs => some (.int xs.length)
      | _ => none
def bAbs (v : Val) (_ : Heap) : Option Val := match v with
  | .int i => some (.int (if i < 0 then -i else i))
  | _ => none
def bInt (v : Val) (_ : Heap) : Option Val := match v with
  | .int i => some (.int i)
  | .bl b => some (.int (if b then 1 else 0))
  | _ => none
def bSum (v : Val) (h : Heap) : Option Val := ((listOf h v).bind allInts).map fun is => .int is.sum
def bMax (v : Val) (h : Heap) : Option Val := match (listOf h v).bind allInts with
  | some (i :: r) => some (.int (r.foldl max i))
  | _ => none
def bMin (v : Val) (h : Heap) : Option Val := match (listOf h v).bind allInts with
  | some (i :: r) => some (.int (r.foldl min i))
  | _ => none
def bMax2 (vs : List Val) (h : Heap) : Option Val := match vs with
  | [.int i, .int j] => some (.int (if j > i then j else i))
  | _ => b1 bMax vs h
def bMin2 (vs : List Val) (h : Heap) : Option Val := match vs with
  | [.int i, .int j] => some (.int (if j < i then j else i))
  | _ => b1 bMin vs h
def bAny (v : Val) (h : Heap) : Option Val := ((listOf h v).bind allBls).map fun bs => .bl (bs.any id)
def bAll (v : Val) (h : Heap) : Option Val := ((listOf h v).bind allBls).map fun bs => .bl (bs.all id)
def bIter (v : Val) (_ : Heap) : Option Val := match v with
  | .tup vs => some (.itr vs)
  | .tuq vs => some (.itr vs)
  | _ => none
def bList (v : Val) (h : Heap) : Option Val := match seqOf h v with
  | some vs => some (.tl vs)
  | none => (dctOf h v).map fun kvs => .tl (kvs.map (·.1))
def bTuple (v : Val) (h : Heap) : Option Val := match listOf h v with
  | some vs => some (.tuq vs)
  | none => match v with
    | .tup vs => some (.tup vs)
    | .tuq vs => some (.tuq vs)
    | _ => none
def bSet (v : Val) (h : Heap) : Option Val := (seqOf h v).map fun vs => .ts (dedup vs)
def bSorted (v : Val) (h : Heap) : Option Val := match v with
  | .ts vs => (sortV h vs).map .tl
  | v => match listOf h v with
    | some vs => (sortV h vs).map .tl
    | none => none
def biV (f : String) (vs : List Val) (h : Heap) : Option Val := match f with
  | "abs" => b1 bAbs vs h
  | "int" => b1 bInt vs h
  | "sum" => b1 bSum vs h
  | "max" => bMax2 vs h
  | "min" => bMin2 vs h
  | "any" => b1 bAny vs h
  | "all" => b1 bAll vs h
  | "iter" => b1 bIter vs h
  | "list" => b1 bList vs h
  | "tuple" => b1 bTuple vs h
  | "set" => b1 bSet vs h
  | "sorted" => b1 bSorted vs h
  | _ => none

def seqf (f : String) (vs : List Val) (h : Heap) : Option Val := match f with
  | "list" => if vs.length ≤ lim then some (.tl vs) else none
  | _ => none

def insOf (h : Heap) : Val → Option (String × List (String × Val))
  | .loc n => match h[n]? with
    | some (.ins C fs) => some (C, fs)
    | _ => none
  | _ => none

/-- the name of a value's type -/
def kindOf (h : Heap) : Val → Option String
  | .non => some "NoneType"
  | .bl _ => some "bool"
  | .int _ => some "int"
  | .str _ => some "str"
  | .tup _ => some "tuple"
  | .tuq _ => some "tuple"
  | .tl _ => some "list"
  | .loc n => match h[n]? with
    | some (.lst _) => some "list"
    | some (.fz _) => some "list"
    | some (.dct _) => some "dict"
    | some (.ins C _) => some C
    | none => none
  | _ => none
/-- a is b, or below it -/
def isa (cx : Cx) (a b : String) : Bool := a == b || (a == "bool" && b == "int") || (match cx.cls a with | some c => c.sups.contains b | none => false)
def insOk (cx : Cx) (h : Heap) (x : Val) : Bool := match insOf h x with
  | some (C, _) => (match cx.cls C with | some c => !c.exc | none => false)
  | none => true
def isE (cx : Cx) (ts : List String) (x : Val) (h : Heap) : R Val := match kindOf h x with
  | some k => if (cx.kinds.contains k && ts.all cx.kinds.contains) && insOk cx h x then .ok (.bl (ts.any (isa cx k))) h else .no
  | none => .no

/-- methods of the built-in kinds that change nothing -/
def mJoin (o : Val) (vs : List Val) (h : Heap) : Option Val := match o, vs with
  | .str x, [v] => match (seqOf h v).bind allStrs with
    | some ys => if (ys.map (·.length)).sum + ys.length * x.length ≤ 16777216 then some (.str (Txt.join x ys)) else none
    | none => none
  | _, _ => none
def mSplit (o : Val) (vs : List Val) (_ : Heap) : Option Val := match o, vs with
  | .str x, [.str y] => if (y.length == 0) = false ∧ x.length + 2 ≤ lim then some (.tl ((Txt.split x y).map .str)) else none
  | _, _ => none
def mReplace (x y _z : Str) : Option Val := if (Builtin.Str.occurrences x y 0 x.length (x.length + 1)).isEmpty = true then some (.str x) else none
def mIndexT (o : Val) (vs : List Val) (_ : Heap) : Option Val := match o, vs with
  | .tuq ys, [.str z] => match allStrs ys with
    | some zs => (zs.findIdx? (· == z)).map fun (j : Nat) => .int (j : Int)
    | none => none
  | _, _ => none
def mIndexL (o : Val) (vs : List Val) (h : Heap) : Option Val := match vs with
  | [.str z] => match (listOf h o).bind allStrs with
    | some zs => (zs.findIdx? (· == z)).map fun (j : Nat) => .int (j : Int)
    | none => none
  | [.int z] => match (listOf h o).bind allInts with
    | some zs => (zs.findIdx? (· == z)).map fun (j : Nat) => .int (j : Int)
    | none => none
  | _ => none
def mGet (o : Val) (vs : List Val) (h : Heap) : Option Val := match dctOf h o, vs with
  | some kvs, [k] => if (keyOf k).isSome then some ((lookD kvs k).getD .non) else none
  | some kvs, [k, d] => if (keyOf k).isSome then some ((lookD kvs k).getD d) else none
  | _, _ => none
/-- the built-in method that x.m is -/
def bm (h : Heap) (m : String) : Val → Option String
  | .str _ => if m == "join" then some "str.join" else if m == "split" then some "str.split" else none
  | .tuq _ => if m == "index" then some "tuple.index" else none
  | .tl _ => if m == "index" then some "list.index" else none
  | .loc n => match h[n]? with
    | some (.lst _) => if m == "append" then some "list.append" else if m == "pop" then some "list.pop" else if m == "clear" then some "list.clear" else if m == "index" then some "list.index" else none
    | some (.fz _) => if m == "index" then some "list.index" else none
    | some (.dct _) => if m == "get" then some "dict.get" else if m == "clear" then some "dict.clear" else none
    | _ => none
  | _ => none
/-- a change of the list at x -/
def chL (x : Val) (h : Heap) (f : List Val → Option (Val × List Val)) : R Val := match x with
  | .loc n => match h[n]? with
    | some (.lst xs) => match f xs with
      | some (v, ys) => .ok v (h.set n (.lst ys))
      | none => .no
    | _ => .no
  | _ => .no
def bAppend (x : Val) (vs : List Val) (h : Heap) : R Val := match vs with
  | [v] => chL x h fun xs => if xs.length < lim then some (.non, xs ++ [v]) else none
  | _ => .no
def bPop (x : Val) (vs : List Val) (h : Heap) : R Val := match vs with
  | [] => chL x h fun xs => (xs[xs.length - 1]?).map fun v => (v, xs.dropLast)
  | [.int i] => chL x h fun xs => if -(2 ^ 63) ≤ i ∧ i < 2 ^ 63 then (seqIndex? i xs.length).bind fun j => (xs[j]?).map fun v => (v, xs.eraseIdx j) else none
  | _ => .no
def bClearL (x : Val) (vs : List Val) (h : Heap) : R Val := match vs with
  | [] => chL x h fun _ => some (.non, [])
  | _ => .no
def bClearD (x : Val) (vs : List Val) (h : Heap) : R Val := match x, vs with
  | .loc n, [] => match h[n]? with
    | some (.dct _) => .ok .non (h.set n (.dct []))
    | _ => .no
  | _, _ => .no
def methB (id : String) (x : Val) (vs : List Val) (h : Heap) : R Val := match id with
  | "str.join" => ofOpt (mJoin x vs h) h
  | "str.split" => ofOpt (mSplit x vs h) h
  | "tuple.index" => ofOpt (mIndexT x vs h) h
  | "list.index" => ofOpt (mIndexL x vs h) h
  | "dict.get" => ofOpt (mGet x vs h) h
  | "list.append" => bAppend x vs h
  | "list.pop" => bPop x vs h
  | "list.clear" => bClearL x vs h
  | "dict.clear" => bClearD x vs h
  | _ => .no

/-- an operator on instances -/
def opName : Bop → Option String
  | .add => some "__add__"
  | .band => some "__and__"
  | .bor => some "__or__"
  | _ => none
/-- a method that the class has -/
def dun (cx : Cx) (C m : String) : Bool := match cx.cls C with
  | some c => !c.exc && c.meths.contains m
  | none => false
def callM (cx : Cx) (C m : String) (vs : List Val) (h : Heap) : R Val := if dun cx C m then cx.call C m vs h else .no
/-- x in y, y an instance -/
def inE (cx : Cx) (C : String) (y x : Val) (h : Heap) : R Bool := (box x h).bind fun x h1 => (callM cx C "__contains__" [y, x] h1).bind fun r h2 => ofOpt (truth h2 r) h2
def cmpE (cx : Cx) (op : Cop) (x y : Val) (h : Heap) : R Val := match op, insOf h y with
  | .in_, some (C, _) => (inE cx C y x h).bind fun b h1 => .ok (.bl b) h1
  | .nin, some (C, _) => (inE cx C y x h).bind fun b h1 => .ok (.bl (!b)) h1
  | op, _ => ofOpt ((cmp op x y h).map .bl) h
/-- a op b -/
def binE (cx : Cx) (op : Bop) (x y : Val) (h : Heap) : R Val := match insOf h x, opName op with
  | some (C, _), some m => if kindOf h y = some C then callM cx C m [x, y] h else .no
  | some _, none => .no
  | none, _ => ofOpt (bin op x y h) h

def make (cx : Cx) (C : String) (vs : List Val) (h : Heap) : R Val := match cx.cls C with
  | some c => if c.exc then .no else
    (cx.call C "__init__" (.loc h.length :: vs) (h ++ [.ins C []])).bind fun r h1 => match r with
      | .non => .ok (.loc h.length) h1
      | _ => .no
  | none => .no
def callG (cx : Cx) (f : String) (vs : List Val) (h : Heap) : R Val := match cx.cls f with
  | some _ => make cx f vs h
  | none => if cx.fns f then cx.call "" f vs h else .no
/-- x.f -/
def attrE (cx : Cx) (f : String) (x : Val) (h : Heap) : R Val := match insOf h x with
  | some (C, fs) => match cx.cls C with
    | some c => if c.exc then .no else if c.props.contains f then (cx.call C f [x] h).nox else if c.attrs.contains f then ofOpt (fs.lookup f) h else .no
    | none => .no
  | none => .no
/-- what x.m(..) runs -/
def recvE (cx : Cx) (m : String) (x : Val) (h : Heap) : Option (List Val → Heap → R Val) := match x with
  | .glb C => match cx.cls C with
    | some c => if c.exc then none else if c.cms.contains m then some fun vs h1 => cx.call C m (.glb C :: vs) h1 else none
    | none => none
  | x => match insOf h x with
    | some (C, fs) => match cx.cls C with
      | some c => if !c.exc && c.meths.contains m && (fs.lookup m).isNone then some fun vs h1 => cx.call C m (x :: vs) h1 else none
      | none => none
    | none => (bm h m x).map fun id => methB id x
/-- what f(..) runs, f a value -/
def calleeE (cx : Cx) (f : Val) (h : Heap) : Option (List Val → Heap → R Val) := match f with
  | .glb g => if cx.fns g || (cx.cls g).isSome then some (callG cx g) else none
  | x => match insOf h x with
    | some (C, _) => if dun cx C "__call__" then some fun vs h1 => if (insOf h1 x).map (·.1) = some C then cx.call C "__call__" (x :: vs) h1 else .no else none
    | none => none

/-- a built-in function at values -/
def biE (cx : Cx) (f : String) (vs : List Val) (h : Heap) : R Val := match f with
  | "len" => match vs with
    | [x] => match insOf h x with
      | some (C, _) => (callM cx C "__len__" [x] h).bind fun r h1 => match r with
        | .int n => if 0 ≤ n ∧ n < 2 ^ 63 then .ok (.int n) h1 else .no
        | _ => .no
      | none => ofOpt (bLen x h) h
    | _ => .no
  | "dict" => match vs with
    | [x] => match dictOf h x with
      | some kvs => .ok (.loc h.length) (h ++ [.dct kvs])
      | none => .no
    | _ => .no
  | f => ofOpt (biV f vs h) h

/-- the parts of an f-string, one behind the other -/
def fstrE (e : Env) : List Fp → Str → Option Str
  | [], acc => some acc
  | .lit y :: r, acc => if (acc ++ y).length ≤ lim then fstrE e r (acc ++ y) else none
  | .v i :: r, acc => match e[i]? with
    | some (some (.str y)) => if y.length ≤ lim ∧ (acc ++ y).length ≤ lim then fstrE e r (acc ++ y) else none
    | _ => none

mutual
def evE (cx : Cx) : Ex → Env → Heap → R Val
  | .v i, e, h => match e[i]? with
    | some (some v) => .ok v h
    | _ => .no
  | .con c, _, h => .ok c h
  | .glob x, _, h => ofOpt (cx.con x) h
  | .bin op a b, e, h => (evE cx a e h).bind fun x h1 => (evE cx b e h1).bind fun y h2 => binE cx op x y h2
  | .neg a, e, h => (evE cx a e h).bind fun x h1 => match x with
    | .int i => .ok (.int (-i)) h1
    | _ => .no
  | .inv a, e, h => (evE cx a e h).bind fun x h1 => match insOf h1 x with
    | some (C, _) => callM cx C "__invert__" [x] h1
    | none => .no
  | .not a, e, h => (evE cx a e h).bind fun x h1 => ofOpt ((truth h1 x).map fun b => .bl (!b)) h1
  | .and a b, e, h => (evE cx a e h).bind fun x h1 => (ofOpt (truth h1 x) h1).bind fun c h2 => if c then evE cx b e h2 else .ok x h2
  | .or a b, e, h => (evE cx a e h).bind fun x h1 => (ofOpt (truth h1 x) h1).bind fun c h2 => if c then .ok x h2 else evE cx b e h2
  | .cmp op a b, e, h => (evE cx a e h).bind fun x h1 => (evE cx b e h1).bind fun y h2 => cmpE cx op x y h2
  | .cmp2 op op' a b c, e, h => (evE cx a e h).bind fun x h1 => (evE cx b e h1).bind fun y h2 => (ofOpt (cmp op x y h2) h2).bind fun t h3 =>
    if t then (evE cx c e h3).bind fun z h4 => ofOpt ((cmp op' y z h4).map .bl) h4 else .ok (.bl false) h3
  | .ite t a b, e, h => (evE cx t e h).bind fun x h1 => (ofOpt (truth h1 x) h1).bind fun c h2 => if c then evE cx a e h2 else evE cx b e h2
  | .lst es, e, h => (evI cx es e h).bind fun vs h1 => if vs.length ≤ lim then .ok (.tl vs) h1 else .no
  | .tup es, e, h => (evI cx es e h).bind fun vs h1 => if vs.length ≤ lim then .ok (.tup vs) h1 else .no
  | .dct ks vs, e, h => (evI cx ks e h).bind fun ks h1 => (evI cx vs e h1).bind fun vs h2 =>
    .ok (.loc h2.length) (h2 ++ [.dct ((ks.zip vs).foldl (fun d p => putD d p.1 p.2) [])])
  | .sub a i, e, h => (evE cx a e h).bind fun x h1 => (evE cx i e h1).bind fun y h2 => ofOpt (subV x y h2) h2
  | .slc a lo hi, e, h => (evE cx a e h).bind fun x h1 => (evO cx lo e h1).bind fun l h2 => (evO cx hi e h2).bind fun u h3 =>
    match optInt l, optInt u with
    | some l, some u => ofOpt (cutV x l u h3) h3
    | _, _ => .no
  | .rev a, e, h => (evE cx a e h).bind fun x h1 => match x with
    | .tup vs => .ok (.tup vs.reverse) h1
    | .tuq vs => .ok (.tup vs.reverse) h1
    | x => ofOpt ((listOf h1 x).map fun vs => .tl vs.reverse) h1
  | .attr a f, e, h => (evE cx a e h).bind fun x h1 => attrE cx f x h1
  | .call f es, e, h => (evI cx es e h).bind fun vs h1 => callG cx f vs h1
  | .callv f es, e, h => (evE cx f e h).bind fun x h1 => match calleeE cx x h1 with
    | some k => (evI cx es e h1).bind k
    | none => .no
  | .meth o m es, e, h => (evE cx o e h).bind fun x h1 => match recvE cx m x h1 with
    | some k => (evI cx es e h1).bind k
    | none => .no
  | .repl o y z, e, h => (evE cx o e h).bind fun x h1 => match x with
    | .str x => ofOpt (mReplace x y z) h1
    | _ => .no
  | .bi f es, e, h => (evR cx es e h).bind fun vs h1 => biE cx f vs h1
  | .seq f s, e, h => (evSrc cx s e h).bind fun w h1 => ofOpt (seqf f w.items h1) h1
  | .isi a ts, e, h => (evE cx a e h).bind fun x h1 => isE cx ts x h1
  | .lc el gs, e, h => (evG cx gs (fun e h => (evE cx el e h).bind fun v h1 => (box v h1).bind fun v h2 => .ok [v] h2) e (wipeE e gs.slots) h).nox.bind fun vs h1 => if vs.length ≤ lim then .ok (.tl vs) h1 else .no
  | .sc el gs, e, h => (evG cx gs (fun e h => (evE cx el e h).bind fun v h1 => (box v h1).bind fun v h2 => .ok [v] h2) e (wipeE e gs.slots) h).nox.bind fun vs h1 => .ok (.ts (dedup vs)) h1
  | .dc k v gs, e, h => (evG cx gs (fun e h => (evE cx k e h).bind fun a h1 => (evE cx v e h1).bind fun b h2 => (box b h2).bind fun b h3 => .ok [.tup [a, b]] h3) e (wipeE e gs.slots) h).nox.bind fun vs h1 =>
    .ok (.loc h1.length) (h1 ++ [.dct (vs.foldl (fun d p => match p with | .tup [a, b] => putD d a b | _ => d) [])])
  | .fstr ps, e, h => ofOpt ((fstrE e ps Str.empty).map .str) h
/-- the items of a display, the arguments of a call: each gets a number -/
def evI (cx : Cx) : Its → Env → Heap → R (List Val)
  | .nil, _, h => .ok [] h
  | .cons a r, e, h => (evE cx a e h).bind fun x h1 => (box x h1).bind fun x h2 => (evI cx r e h2).bind fun xs h3 => .ok (x :: xs) h3
  | .star a r, e, h => (evE cx a e h).bind fun x h1 => match seqOf h1 x with
    | some ys => (evI cx r e h1).bind fun xs h2 => .ok (ys ++ xs) h2
    | none => .no
/-- the arguments of what is built in: as they come -/
def evR (cx : Cx) : Its → Env → Heap → R (List Val)
  | .nil, _, h => .ok [] h
  | .cons a r, e, h => (evE cx a e h).bind fun x h1 => (evR cx r e h1).bind fun xs h2 => .ok (x :: xs) h2
  | .star _ _, _, _ => .no
def evO (cx : Cx) : Op → Env → Heap → R (Option Val)
  | .none, _, h => .ok none h
  | .some a, e, h => (evE cx a e h).bind fun x h1 => .ok (some x) h1
def evSrc (cx : Cx) : Src → Env → Heap → R Walk
  | .it a, e, h => (evE cx a e h).bind fun x h1 => ofOpt (itE x h1) h1
  | .rng1 a, e, h => (evE cx a e h).bind fun x h1 => ofOpt (rng1E x) h1
  | .rng2 a b, e, h => (evE cx a e h).bind fun x h1 => (evE cx b e h1).bind fun y h2 => ofOpt (rng2E x y) h2
  | .rng3 a b c, e, h => (evE cx a e h).bind fun x h1 => (evE cx b e h1).bind fun y h2 => (evE cx c e h2).bind fun z h3 => ofOpt (rng3E x y z) h3
  | .enum a, e, h => (evE cx a e h).bind fun x h1 => ofOpt (enumE x h1) h1
  | .zip a b, e, h => (evE cx a e h).bind fun x h1 => (evE cx b e h1).bind fun y h2 => ofOpt (zipE x y h2) h2
  | .vals _, _, _ => .no
  | .items _, _, _ => .no
/-- the clauses of a comprehension, f at the innermost: the source with the names e0, all else with e -/
def evG (cx : Cx) : Gens → (Env → Heap → R (List Val)) → Env → Env → Heap → R (List Val)
  | .nil, f, _, e, h => f e h
  | .gen t s ifs r, f, e0, e, h => (evSrc cx s e0 h).bind fun w h1 => loopL w (fun x h2 => match asg t x e with
    | some e1 => (evT cx ifs e1 h2).bind fun b h3 => if b then evG cx r f e1 e1 h3 else .ok [] h3
    | none => .no) w.items h1
/-- all of some tests -/
def evT (cx : Cx) : Its → Env → Heap → R Bool
  | .nil, _, h => .ok true h
  | .cons a r, e, h => (evE cx a e h).bind fun x h1 => (ofOpt (truth h1 x) h1).bind fun b h2 => if b then evT cx r e h2 else .ok false h2
  | .star _ _, _, _ => .no
end

def test (cx : Cx) (t : Ex) (e : Env) (h : Heap) : R Bool := (evE cx t e h).bind fun x h1 => ofOpt (truth h1 x) h1

def whileMost : Nat := 1000000

/-- o[i] = x -/
def setIE (o i x : Val) (h : Heap) : Option Heap := match o with
  | .loc n => match h[n]?, i with
    | some (.lst xs), .int k => (ixOf xs.length k).map fun j => h.set n (.lst (xs.set j x))
    | some (.dct kvs), k => if (keyOf k).isSome && decide (kvs.length < lim) then some (h.set n (.dct (putD kvs k x))) else none
    | _, _ => none
  | _ => none
/-- o.f = x -/
def setAE (cx : Cx) (o : Val) (f : String) (x : Val) (h : Heap) : Option Heap := match o with
  | .loc n => match h[n]? with
    | some (.ins C fs) => match cx.cls C with
      | some c => if !c.exc && c.attrs.contains f && decide (fs.length < 1000) then some (h.set n (.ins C (putF fs f x))) else none
      | none => none
    | _ => none
  | _ => none
/-- y op= x -/
def augE (op : Bop) (y x : Val) : Option Val := match op, y, x with
  | .add, .int i, .int j => some (.int (i + j))
  | .sub, .int i, .int j => some (.int (i - j))
  | _, _, _ => none
mutual
def evS (cx : Cx) : St → Env → Heap → R Fl
  | .set i a, e, h => (evE cx a e h).bind fun x h1 => (box x h1).bind fun x h2 => .ok (.nx (e.set i (some x))) h2
  | .sets ts a, e, h => (evE cx a e h).bind fun x h1 => match asg (.vs ts) x e with
    | some e1 => .ok (.nx e1) h1
    | none => .no
  | .setI o i a, e, h => (evE cx a e h).bind fun x h1 => (box x h1).bind fun x h2 => (evE cx o e h2).bind fun o h3 => (evE cx i e h3).bind fun i h4 => match setIE o i x h4 with
    | some h5 => .ok (.nx e) h5
    | none => .no
  | .setA o f a, e, h => (evE cx a e h).bind fun x h1 => (box x h1).bind fun x h2 => (evE cx o e h2).bind fun o h3 => match setAE cx o f x h3 with
    | some h4 => .ok (.nx e) h4
    | none => .no
  | .aug op i a, e, h => match e[i]? with
    | some (some y) => (evE cx a e h).bind fun x h1 => (ofOpt (augE op y x) h1).bind fun z h2 => .ok (.nx (e.set i (some z))) h2
    | _ => .no
  | .ex a, e, h => (evE cx a e h).bind fun _ h1 => .ok (.nx e) h1
  | .ret a, e, h => (evE cx a e h).bind fun x h1 => .ok (.rt x) h1
  | .ifs t a b, e, h => (test cx t e h).bind fun c h1 => if c then evB cx a e h1 else evB cx b e h1
  | .for_ t s body, e, h => (evSrc cx s e h).bind fun w h1 => loopS w (fun x e h2 => match asg t x e with
    | some e1 => evB cx body e1 h2
    | none => .no) w.items e h1
  | .while_ t body, e, h => loopW (test cx t) (evB cx body) whileMost e h
  | .brk, e, h => .ok (.bk e) h
  | .pass, e, h => .ok (.nx e) h
  | .raise C es, e, h => (evI cx es e h).bind fun vs h1 => match cx.cls C with
    | some c => if c.exc && c.fields.length == vs.length then .ex C (c.fields.zip vs) h1 else .no
    | none => .no
  | .try_ body hs, e, h => match evB cx body e h with
    | .ex C fs h1 => evH cx hs C fs e h1
    | r => r
  | .never, _, _ => .no
def evB (cx : Cx) : List St → Env → Heap → R Fl
  | [], e, h => .ok (.nx e) h
  | s :: r, e, h => (evS cx s e h).bind fun fl h1 => match fl with
    | .nx e1 => evB cx r e1 h1
    | fl => .ok fl h1
/-- the clauses of a try; the suite begins with the names as they stood ahead of the try: a body that stores a name and then raises is not said -/
def evH (cx : Cx) : List (List String × Option Nat × List St) → String → List (String × Val) → Env → Heap → R Fl
  | [], C, fs, _, h => .ex C fs h
  | (Ts, n, suite) :: r, C, fs, e, h => match cx.cls C with
    | some c => if Ts.any c.sups.contains then (match n with
      | none => evB cx suite e h
      | some i => (evB cx suite (e.set i (some (.xc C fs))) h).bind fun fl h1 => match fl with
        | .nx e1 => .ok (.nx (e1.set i none)) h1
        | fl => .ok fl h1) else evH cx r C fs e h
    | none => .no
end

/-- the text: its defs, its classes, its constants -/
structure Pg where
  fn : String → String → Option FnI
  con : String → Option Val
  cls : String → Option ClsI
  fns : String → Bool
  kinds : List String

def startE (f : FnI) (vs : List Val) : Env := vs.map some ++ List.replicate (f.names.length - vs.length) none
def run (P : Pg) : Nat → String → String → List Val → Heap → R Val
  | 0, _, _, _, _ => .no
  | d + 1, C, m, vs, h => match P.fn C m with
    | none => .no
    | some f => if vs.length + f.defs.length < f.params.length ∨ f.params.length < vs.length then .no else
      (evB ⟨run P d, P.con, P.cls, P.fns, P.kinds⟩ f.body (startE f (vs ++ f.defs.drop (f.defs.length - (f.params.length - vs.length)))) h).bind fun fl h1 => match fl with
        | .rt v => .ok v h1
        | .nx _ => .ok .non h1
        | .bk _ => .no
end Sc
end
section
set_option Elab.async false
set_option linter.all false
set_option maxRecDepth 100000
set_option maxHeartbeats 4000000
set_option autoImplicit false
/-! The evaluator's values and heaps beside those of the hand layer. -/
namespace Sc
open PySem PySem.Spec PyProof.Rows L2

/-! ### what came of an evaluation -/
def Sat {α : Type} (r : R α) (P : α → Heap → Prop) (E : String → List (String × Val) → Heap → Prop) : Prop := match r with
  | .ok a h => P a h
  | .ex C fs h => E C fs h
  | .no => False
theorem Sat.bind_iff {α β : Type} {r : R α} {f : α → Heap → R β} {P : β → Heap → Prop} {E : String → List (String × Val) → Heap → Prop} : Sat (r.bind f) P E ↔ Sat r (fun a h => Sat (f a h) P E) E := by
  cases r <;> exact Iff.rfl
theorem Sat.unbind {α β : Type} {r : R α} {f : α → Heap → R β} {P : β → Heap → Prop} {E : String → List (String × Val) → Heap → Prop} (h : Sat (r.bind f) P E) : Sat r (fun a h => Sat (f a h) P E) E := Sat.bind_iff.mp h
theorem Sat.mono {α : Type} {r : R α} {P P' : α → Heap → Prop} {E E' : String → List (String × Val) → Heap → Prop} (h : Sat r P E) (hP : ∀ a g, P a g → P' a g) (hE : ∀ C fs g, E C fs g → E' C fs g) : Sat r P' E' := by
  cases r with
  | ok a g => exact hP a g h
  | ex C fs g => exact hE C fs g h
  | no => exact h
theorem Sat.opt {α : Type} {o : Option α} {g : Heap} {P : α → Heap → Prop} {E : String → List (String × Val) → Heap → Prop} (h : Sat (ofOpt o g) P E) : ∃ a, o = some a ∧ P a g := by
  cases o with
  | none => exact (show False from h).elim
  | some a => exact ⟨a, rfl, h⟩

/-! ### values -/
def ca (K : PySem.W.Frag) (x : String) : Addr := He.ga K (Str.ofString x)
/-- a tuple's items, tracked or written -/
def TupAt (K : PySem.W.Frag) (H : Hp) (a : Addr) (xs : List V) : Prop :=
  (H a = some (.tup xs) ∨ ∃ o, H a = some (.frz o (.tup xs))) ∨ ∃ (o : PySem.Obj) (its : Array Value) (n : Nat), K.lookup a = some o ∧ o.cls = .type "tuple" ∧ o.data = .seq its n ∧ its.size ≤ sizeLine ∧ Vals xs its.toList
theorem TupAt.sq {K : PySem.W.Frag} {H : Hp} {a : Addr} {xs : List V} (h : TupAt K H a xs) : SqT K H a xs := by
  rcases h with h | h
  · exact .inl h
  · exact .inr h
/-- what a tuple may stand as -/
def IsTH (u : HO) : Prop := (∃ xs, u = .tup xs) ∨ ∃ o xs, u = .frz o (.tup xs)
theorem TupAt.mono {K : PySem.W.Frag} {H H' : Hp} {a : Addr} {xs : List V} (ht : ∀ a u, IsTH u → H a = some u → H' a = some u) (h : TupAt K H a xs) : TupAt K H' a xs := by
  rcases h with (h | ⟨o, h⟩) | h
  · exact .inl (.inl (ht _ _ (.inl ⟨_, rfl⟩) h))
  · exact .inl (.inr ⟨o, ht _ _ (.inr ⟨_, _, rfl⟩) h⟩)
  · exact .inr h
mutual
inductive VRel (K : PySem.W.Frag) (ρ : List Addr) (H : Hp) : Val → V → Prop
  | non : VRel K ρ H .non .non
  | bl (b : Bool) : VRel K ρ H (.bl b) (.bl b)
  | int (i : Int) : VRel K ρ H (.int i) (.int i)
  | str (x : Str) : VRel K ρ H (.str x) (.str x)
  | glb (x : String) : VRel K ρ H (.glb x) (.ref (ca K x))
  | loc {n : Nat} {a : Addr} : ρ[n]? = some a → VRel K ρ H (.loc n) (.ref a)
  | tup {vs : List Val} {a : Addr} {xs : List V} : TupAt K H a xs → VRels K ρ H vs xs → VRel K ρ H (.tup vs) (.ref a)
  | tuq {vs : List Val} {a : Addr} {o : PySem.Obj} {xs : List V} : o.dict = none → o.cls = .type "tuple" → H a = some (.frz o (.tup xs)) → VRels K ρ H vs xs → VRel K ρ H (.tuq vs) (.ref a)
inductive VRels (K : PySem.W.Frag) (ρ : List Addr) (H : Hp) : List Val → List V → Prop
  | nil : VRels K ρ H [] []
  | cons {v : Val} {x : V} {vs : List Val} {xs : List V} : VRel K ρ H v x → VRels K ρ H vs xs → VRels K ρ H (v :: vs) (x :: xs)
end
section
variable {K : PySem.W.Frag} {ρ ρ' : List Addr} {H H' : Hp}
mutual
theorem VRel.mono (hp : ∀ (n : Nat) (a : Addr), ρ[n]? = some a → ρ'[n]? = some a) (ht : ∀ a u, IsTH u → H a = some u → H' a = some u) : ∀ {v : Val} {x : V}, VRel K ρ H v x → VRel K ρ' H' v x
  | _, _, .non => .non
  | _, _, .bl b => .bl b
  | _, _, .int i => .int i
  | _, _, .str x => .str x
  | _, _, .glb x => .glb x
  | _, _, .loc h => .loc (hp _ _ h)
  | _, _, .tup h r => .tup (h.mono ht) (VRels.mono hp ht r)
  | _, _, .tuq d c h r => .tuq d c (ht _ _ (.inr ⟨_, _, rfl⟩) h) (VRels.mono hp ht r)
theorem VRels.mono (hp : ∀ (n : Nat) (a : Addr), ρ[n]? = some a → ρ'[n]? = some a) (ht : ∀ a u, IsTH u → H a = some u → H' a = some u) : ∀ {vs : List Val} {xs : List V}, VRels K ρ H vs xs → VRels K ρ' H' vs xs
  | _, _, .nil => .nil
  | _, _, .cons h r => .cons (VRel.mono hp ht h) (VRels.mono hp ht r)
end
theorem VRels.length : ∀ {vs : List Val} {xs : List V}, VRels K ρ H vs xs → vs.length = xs.length
  | _, _, .nil => rfl
  | _, _, .cons _ r => congrArg (· + 1) r.length
theorem VRels.get : ∀ {vs : List Val} {xs : List V} {i : Nat} {v : Val}, VRels K ρ H vs xs → vs[i]? = some v → ∃ x, xs[i]? = some x ∧ VRel K ρ H v x
  | _, _, _, _, .nil, e => by simp at e
  | _, _, 0, _, .cons h _, e => by simp at e; subst e; exact ⟨_, rfl, h⟩
  | _, _, i + 1, _, .cons _ r, e => by
    obtain ⟨x, h1, h2⟩ := VRels.get (i := i) r (by simpa using e)
    exact ⟨x, by simpa using h1, h2⟩
theorem VRels.append : ∀ {vs us : List Val} {xs ys : List V}, VRels K ρ H vs xs → VRels K ρ H us ys → VRels K ρ H (vs ++ us) (xs ++ ys)
  | _, _, _, _, .nil, s => s
  | _, _, _, _, .cons h r, s => .cons h (r.append s)
theorem VRels.set {v : Val} {x : V} (q : VRel K ρ H v x) : ∀ {vs : List Val} {xs : List V} (i : Nat), VRels K ρ H vs xs → VRels K ρ H (vs.set i v) (xs.set i x)
  | _, _, _, .nil => .nil
  | _, _, 0, .cons _ r => .cons q r
  | _, _, i + 1, .cons h r => .cons h (VRels.set q i r)
theorem VRels.take : ∀ {vs : List Val} {xs : List V} (n : Nat), VRels K ρ H vs xs → VRels K ρ H (vs.take n) (xs.take n)
  | _, _, 0, _ => .nil
  | _, _, _ + 1, .nil => .nil
  | _, _, n + 1, .cons h r => .cons h (r.take n)
theorem VRels.drop : ∀ {vs : List Val} {xs : List V} (n : Nat), VRels K ρ H vs xs → VRels K ρ H (vs.drop n) (xs.drop n)
  | _, _, 0, r => r
  | _, _, _ + 1, .nil => .nil
  | _, _, n + 1, .cons _ r => r.drop n
theorem VRels.dropLast {vs : List Val} {xs : List V} (r : VRels K ρ H vs xs) : VRels K ρ H vs.dropLast xs.dropLast := by
  rw [List.dropLast_eq_take, List.dropLast_eq_take, ← r.length]
  exact r.take _
theorem VRels.eraseIdx : ∀ {vs : List Val} {xs : List V} (n : Nat), VRels K ρ H vs xs → VRels K ρ H (vs.eraseIdx n) (xs.eraseIdx n)
  | _, _, _, .nil => .nil
  | _, _, 0, .cons _ r => r
  | _, _, n + 1, .cons h r => .cons h (r.eraseIdx n)
theorem VRels.reverse : ∀ {vs : List Val} {xs : List V}, VRels K ρ H vs xs → VRels K ρ H vs.reverse xs.reverse
  | _, _, .nil => .nil
  | _, _, .cons h r => by
    rw [List.reverse_cons, List.reverse_cons]
    exact r.reverse.append (.cons h .nil)
theorem VRels.isEmpty {vs : List Val} {xs : List V} (r : VRels K ρ H vs xs) : xs.isEmpty = vs.isEmpty := by cases r <;> rfl
theorem VRels.rep {vs : List Val} {xs : List V} (r : VRels K ρ H vs xs) : ∀ k : Nat, VRels K ρ H (List.replicate k vs).flatten (List.replicate k xs).flatten
  | 0 => .nil
  | k + 1 => by
    rw [List.replicate_succ, List.replicate_succ, List.flatten_cons, List.flatten_cons]
    exact r.append (r.rep k)
end

/-! ### objects, heaps -/
def FRels (K : PySem.W.Frag) (ρ : List Addr) (H : Hp) : List (String × Val) → List (Str × V) → Prop := Paired fun p q => q.1 = Str.ofString p.1 ∧ VRel K ρ H p.2 q.2
def KRels (K : PySem.W.Frag) (ρ : List Addr) (H : Hp) : List (Val × Val) → List (Key × V) → Prop := Paired fun p q => keyOf p.1 = some q.1 ∧ VRel K ρ H p.2 q.2
def ORel (K : PySem.W.Frag) (ρ : List Addr) (H : Hp) (a : Addr) : Obj → Prop
  | .lst vs => ∃ xs, H a = some (.lst xs) ∧ VRels K ρ H vs xs
  | .fz vs => ∃ o xs, H a = some (.frz o (.lst xs)) ∧ VRels K ρ H vs xs
  | .ins C fs => ∃ dx fs', H a = some (.ins (ca K C) dx fs') ∧ FRels K ρ H fs fs'
  | .dct kvs => ∃ kvs', H a = some (.dK kvs') ∧ KRels K ρ H kvs kvs'
structure HRel (K : PySem.W.Frag) (ρ : List Addr) (h : Heap) (H : Hp) : Prop where
  len : ρ.length = h.length
  nd : ρ.Nodup
  obj : ∀ (n : Nat) (o : Obj) (a : Addr), h[n]? = some o → ρ[n]? = some a → ORel K ρ H a o
structure SRel (K : PySem.W.Frag) (ρ : List Addr) (H : Hp) (env : Env) (σ : L2.St) : Prop where
  len : env.length = σ.length
  var : ∀ (i : Nat) (v : Val), env[i]? = some (some v) → ∃ x, σ[i]? = some (some x) ∧ VRel K ρ H v x
/-- from one state to a later one: numbers stay, what has no number stays -/
structure Ext (ρ : List Addr) (H : Hp) (ρ' : List Addr) (H' : Hp) : Prop where
  pre : ∃ more, ρ' = ρ ++ more
  keep : ∀ a o, H a = some o → a ∉ ρ → H' a = some o ∧ a ∉ ρ'
section
variable {K : PySem.W.Frag} {ρ ρ' ρ'' : List Addr} {H H' H'' : Hp} {h h' : Heap}
theorem Ext.refl : Ext ρ H ρ H := ⟨⟨[], by simp⟩, fun _ _ e n => ⟨e, n⟩⟩
theorem Ext.trans (a : Ext ρ H ρ' H') (b : Ext ρ' H' ρ'' H'') : Ext ρ H ρ'' H'' := by
  obtain ⟨m, e⟩ := a.pre
  obtain ⟨m', e'⟩ := b.pre
  refine ⟨⟨m ++ m', by rw [e', e, List.append_assoc]⟩, fun c o z n => ?_⟩
  obtain ⟨z1, n1⟩ := a.keep c o z n
  exact b.keep c o z1 n1
theorem Ext.num (a : Ext ρ H ρ' H') : ∀ (n : Nat) (b : Addr), ρ[n]? = some b → ρ'[n]? = some b := fun n b e => by
  obtain ⟨m, q⟩ := a.pre
  rw [q, List.getElem?_append_left (List.getElem?_eq_some_iff.mp e).1]
  exact e
theorem Ext.mem (a : Ext ρ H ρ' H') {b : Addr} (hb : b ∈ ρ) : b ∈ ρ' := by
  obtain ⟨m, q⟩ := a.pre
  rw [q]
  exact List.mem_append_left _ hb
theorem Ext.fresh (a : Ext ρ H ρ' H') {b : Addr} (hb : b ∉ ρ') (hn : H' b = none) : H b = none := by
  cases q : H b with
  | none => rfl
  | some o =>
    have nb : b ∉ ρ := fun z => hb (a.mem z)
    rw [(a.keep b o q nb).1] at hn
    cases hn
theorem Ext.new {p : Addr} {o : HO} (hp : H p = none) : Ext ρ H ρ (upd H p o) := ⟨⟨[], by simp⟩, fun a u e n => ⟨by rw [upd_ne (ne_of_none e hp)]; exact e, n⟩⟩
/-- an object with a number is written -/
theorem Ext.write {p : Addr} {o : HO} (hp : p ∈ ρ) : Ext ρ H ρ (upd H p o) := ⟨⟨[], by simp⟩, fun a u e n => ⟨by rw [upd_ne (fun z => n (by rw [z]; exact hp))]; exact e, n⟩⟩
theorem HRel.addr (R : HRel K ρ h H) {n : Nat} {o : Obj} (e : h[n]? = some o) : ∃ a, ρ[n]? = some a ∧ a ∈ ρ ∧ ORel K ρ H a o := by
  have hl : n < ρ.length := by rw [R.len]; exact (List.getElem?_eq_some_iff.mp e).1
  exact ⟨ρ[n], by simp [hl], List.getElem_mem hl, R.obj n o _ e (by simp [hl])⟩
theorem ORel.notTup {a : Addr} {o : Obj} (r : ORel K ρ H a o) : ∀ u, IsTH u → H a ≠ some u := fun u hu z => by
  rcases hu with ⟨xs, rfl⟩ | ⟨p, xs, rfl⟩ <;> cases o with
  | lst vs => obtain ⟨ys, e, _⟩ := r; rw [z] at e; cases e
  | fz vs => obtain ⟨_, ys, e, _⟩ := r; rw [z] at e; cases e
  | ins C fs => obtain ⟨_, ys, e, _⟩ := r; rw [z] at e; cases e
  | dct kvs => obtain ⟨ys, e, _⟩ := r; rw [z] at e; cases e
theorem HRel.tupFree (R : HRel K ρ h H) {a : Addr} {u : HO} (hu : IsTH u) (e : H a = some u) : a ∉ ρ := fun hm => by
  obtain ⟨n, hl, e2⟩ := List.getElem_of_mem hm
  have hh : n < h.length := by rw [← R.len]; exact hl
  exact (R.obj n h[n] a (by simp [hh]) (by simp [hl, e2])).notTup u hu e
theorem HRel.tups (R : HRel K ρ h H) (x : Ext ρ H ρ' H') : ∀ a u, IsTH u → H a = some u → H' a = some u := fun a u hu e => (x.keep a _ e (R.tupFree hu e)).1
theorem VRel.later {v : Val} {x : V} (q : VRel K ρ H v x) (R : HRel K ρ h H) (e : Ext ρ H ρ' H') : VRel K ρ' H' v x := q.mono e.num (R.tups e)
theorem VRels.later {v : List Val} {x : List V} (q : VRels K ρ H v x) (R : HRel K ρ h H) (e : Ext ρ H ρ' H') : VRels K ρ' H' v x := q.mono e.num (R.tups e)
theorem SRel.later {env : Env} {σ : L2.St} (q : SRel K ρ H env σ) (R : HRel K ρ h H) (e : Ext ρ H ρ' H') : SRel K ρ' H' env σ :=
  ⟨q.len, fun i v z => let ⟨x, a, b⟩ := q.var i v z; ⟨x, a, b.later R e⟩⟩
theorem Paired.imp {α β : Type} {F G : α → β → Prop} : ∀ {l₁ : List α} {l₂ : List β}, (∀ a b, F a b → G a b) → Paired F l₁ l₂ → Paired G l₁ l₂
  | _, _, _, .nil => .nil
  | _, _, f, .cons r t => .cons (f _ _ r) (Paired.imp f t)
theorem FRels.later {fs : List (String × Val)} {fs' : List (Str × V)} (q : FRels K ρ H fs fs') (R : HRel K ρ h H) (e : Ext ρ H ρ' H') : FRels K ρ' H' fs fs' := Paired.imp (fun _ _ z => ⟨z.1, z.2.later R e⟩) q
theorem KRels.later {fs : List (Val × Val)} {fs' : List (Key × V)} (q : KRels K ρ H fs fs') (R : HRel K ρ h H) (e : Ext ρ H ρ' H') : KRels K ρ' H' fs fs' := Paired.imp (fun _ _ z => ⟨z.1, z.2.later R e⟩) q
theorem ORel.later {a : Addr} {o : Obj} (q : ORel K ρ H a o) (R : HRel K ρ h H) (e : Ext ρ H ρ' H') (hs : H' a = H a) : ORel K ρ' H' a o := by
  cases o with
  | lst vs => obtain ⟨xs, z, r⟩ := q; exact ⟨xs, hs.trans z, r.later R e⟩
  | fz vs => obtain ⟨o, xs, z, r⟩ := q; exact ⟨o, xs, hs.trans z, r.later R e⟩
  | ins C fs => obtain ⟨dx, xs, z, r⟩ := q; exact ⟨dx, xs, hs.trans z, r.later R e⟩
  | dct kvs => obtain ⟨xs, z, r⟩ := q; exact ⟨xs, hs.trans z, r.later R e⟩
/-- the same numbered objects, a larger abstract heap -/
theorem HRel.grow (R : HRel K ρ h H) (e : Ext ρ H ρ H') (hs : ∀ a, a ∈ ρ → H' a = H a) : HRel K ρ h H' :=
  ⟨R.len, R.nd, fun n o a e1 e2 => (R.obj n o a e1 e2).later R e (hs a (List.mem_of_getElem? e2))⟩
theorem HRel.new (R : HRel K ρ h H) {p : Addr} {o : HO} (hp : H p = none) : HRel K ρ h (upd H p o) := by
  refine R.grow (.new hp) fun a ha => upd_ne fun z => ?_
  subst z
  obtain ⟨n, hl, e2⟩ := List.getElem_of_mem ha
  have hh : n < h.length := by rw [← R.len]; exact hl
  have q := R.obj n h[n] a (by simp [hh]) (by simp [hl, e2])
  cases ho : h[n] with
  | lst vs => rw [ho] at q; obtain ⟨_, z, _⟩ := q; rw [hp] at z; cases z
  | fz vs => rw [ho] at q; obtain ⟨_, _, z, _⟩ := q; rw [hp] at z; cases z
  | ins C fs => rw [ho] at q; obtain ⟨_, _, z, _⟩ := q; rw [hp] at z; cases z
  | dct kvs => rw [ho] at q; obtain ⟨_, z, _⟩ := q; rw [hp] at z; cases z
/-- a numbered object is written -/
theorem HRel.write (R : HRel K ρ h H) {n : Nat} {p : Addr} {o : Obj} {ho : HO} (hn : ρ[n]? = some p) (q : ∀ H', Ext ρ H ρ H' → H' p = some ho → ORel K ρ H' p o) : HRel K ρ (h.set n o) (upd H p ho) := by
  have hm : p ∈ ρ := List.mem_of_getElem? hn
  have e : Ext ρ H ρ (upd H p ho) := .write hm
  refine ⟨by rw [List.length_set]; exact R.len, R.nd, fun k u a e1 e2 => ?_⟩
  by_cases hk : k = n
  · subst hk
    rw [e2] at hn; cases hn
    have hl : k < h.length := by rw [← R.len]; exact (List.getElem?_eq_some_iff.mp e2).1
    rw [List.getElem?_set_self hl] at e1
    cases e1
    exact q _ e upd_same
  · rw [List.getElem?_set_ne (Ne.symm hk)] at e1
    refine (R.obj k u a e1 e2).later R e (upd_ne fun z => hk ?_)
    subst z
    obtain ⟨h1, f1⟩ := List.getElem?_eq_some_iff.mp e2
    obtain ⟨h2, f2⟩ := List.getElem?_eq_some_iff.mp hn
    exact (List.getElem_inj R.nd).mp (f1.trans f2.symm)
/-- an object gets a number -/
theorem HRel.number (R : HRel K ρ h H) {p : Addr} {o : Obj} (hp : p ∉ ρ) (q : ORel K ρ H p o) : HRel K (ρ ++ [p]) (h ++ [o]) H := by
  have mono : ∀ {a : Addr} {u : Obj}, ORel K ρ H a u → ORel K (ρ ++ [p]) H a u := fun {a u} r => by
    have hp' : ∀ (n : Nat) (b : Addr), ρ[n]? = some b → (ρ ++ [p])[n]? = some b := fun n b e => by
      rw [List.getElem?_append_left (List.getElem?_eq_some_iff.mp e).1]; exact e
    have vm : ∀ {vs xs}, VRels K ρ H vs xs → VRels K (ρ ++ [p]) H vs xs := fun r => r.mono hp' fun _ _ _ z => z
    cases u with
    | lst vs => obtain ⟨xs, z, r⟩ := r; exact ⟨xs, z, vm r⟩
    | fz vs => obtain ⟨o, xs, z, r⟩ := r; exact ⟨o, xs, z, vm r⟩
    | ins C fs => obtain ⟨dx, xs, z, r⟩ := r; exact ⟨dx, xs, z, Paired.imp (fun _ _ z => ⟨z.1, z.2.mono hp' fun _ _ _ z => z⟩) r⟩
    | dct kvs => obtain ⟨xs, z, r⟩ := r; exact ⟨xs, z, Paired.imp (fun _ _ z => ⟨z.1, z.2.mono hp' fun _ _ _ z => z⟩) r⟩
  refine ⟨by simp [R.len], ?_, fun n u a e1 e2 => ?_⟩
  · rw [List.nodup_append]
    exact ⟨R.nd, by simp, fun a ha b hb z => hp (by simp at hb; rw [← hb, ← z]; exact ha)⟩
  · by_cases hn : n < ρ.length
    · rw [List.getElem?_append_left hn] at e2
      rw [List.getElem?_append_left (by rw [← R.len]; exact hn)] at e1
      exact mono (R.obj n u a e1 e2)
    · have e : n = ρ.length := by
        have := (List.getElem?_eq_some_iff.mp e2).1
        simp at this
        omega
      subst e
      rw [List.getElem?_append_right (Nat.le_refl _)] at e2
      rw [R.len, List.getElem?_append_right (Nat.le_refl _)] at e1
      simp at e1 e2
      subst e1 e2
      exact mono q
end

/-! ### results -/
inductive WRel (K : PySem.W.Frag) (ρ : List Addr) (H0 H : Hp) : Val → V → Prop
  | v {v : Val} {x : V} : VRel K ρ H v x → WRel K ρ H0 H v x
  | tl {vs : List Val} {a : Addr} {xs : List V} : H a = some (.lst xs) → a ∉ ρ → H0 a = none → VRels K ρ H vs xs → WRel K ρ H0 H (.tl vs) (.ref a)
section
variable {K : PySem.W.Frag} {ρ ρ' ρ'' : List Addr} {H0 H H' H'' : Hp} {h h' : Heap}
theorem WRel.later {v : Val} {x : V} (q : WRel K ρ H0 H v x) (R : HRel K ρ h H) (e : Ext ρ H ρ' H') : WRel K ρ' H0 H' v x := by
  cases q with
  | v q => exact .v (q.later R e)
  | tl e1 n z r => exact .tl (e.keep _ _ e1 n).1 (e.keep _ _ e1 n).2 z (r.later R e)
/-- seen from an earlier start -/
theorem WRel.back {v : Val} {x : V} (q : WRel K ρ' H H' v x) (e : Ext ρ H0 ρ'' H) (hp : ∀ a, a ∈ ρ'' → a ∈ ρ') : WRel K ρ' H0 H' v x := by
  cases q with
  | v q => exact .v q
  | tl e1 n z r => exact .tl e1 n (e.fresh (fun q => n (hp _ q)) z) r
theorem Ext.memL (a : Ext ρ H ρ' H') : ∀ b, b ∈ ρ → b ∈ ρ' := fun _ hb => a.mem hb
/-- a number for a fresh list -/
theorem box_ok {v : Val} {x : V} {P : Val → Heap → Prop} {E : String → List (String × Val) → Heap → Prop} (R : HRel K ρ' h H') (e : Ext ρ H ρ' H') (q : WRel K ρ' H H' v x) (b : Sat (box v h) P E) :
    ∃ v' h' ρ'', P v' h' ∧ Ext ρ H ρ'' H' ∧ HRel K ρ'' h' H' ∧ VRel K ρ'' H' v' x ∧ (∃ m, ρ'' = ρ' ++ m) := by
  cases q with
  | v q =>
    have hb : box v h = .ok v h := by cases q <;> rfl
    rw [hb] at b
    exact ⟨v, h, ρ', b, e, R, q, [], by simp⟩
  | tl e1 n z r =>
    rename_i vs a xs
    have b : P (.loc h.length) (h ++ [.lst vs]) := b
    obtain ⟨m, hm⟩ := e.pre
    refine ⟨_, _, ρ' ++ [a], b, ⟨⟨m ++ [a], by rw [hm, List.append_assoc]⟩, fun c o q1 q2 => ?_⟩, R.number n ⟨xs, e1, r⟩, .loc ?_, [a], rfl⟩
    · obtain ⟨k1, k2⟩ := e.keep c o q1 q2
      refine ⟨k1, fun hc => ?_⟩
      rcases List.mem_append.mp hc with hc | hc
      · exact k2 hc
      · have : c = a := by simpa using hc
        subst this
        rw [z] at q1
        cases q1
    · rw [← R.len, List.getElem?_append_right (Nat.le_refl _)]
      simp
end
end Sc
end
section
set_option Elab.async false
set_option linter.all false
set_option maxRecDepth 100000
set_option maxHeartbeats 4000000
set_option autoImplicit false
/-! What the evaluator says of expressions, the model does. -/
namespace Sc
open PySem PySem.Spec PyProof.Rows L2

def XRel (K : PySem.W.Frag) (ρ : List Addr) (H : Hp) (C : String) (fs : List (String × Val)) (c : Value) (d : Option Addr) : Prop :=
  c = .ref (ca K C) ∧ ∃ dd fs', d = some dd ∧ H dd = some (.xd fs') ∧ FRels K ρ H fs fs'
def XP (K : PySem.W.Frag) (E : XK) (ρ : List Addr) (H : Hp) : String → List (String × Val) → Heap → Prop := fun C fs h' => ∀ ρ' H' c d, Ext ρ H ρ' H' → HRel K ρ' h' H' → XRel K ρ' H' C fs c d → E c d H'
section
variable {K : PySem.W.Frag} {cx : Sc.Cx} {E : XK} {ρ ρ' : List Addr} {H H' : Hp} {h : Heap} {σ : L2.St} {env : Env}
theorem XP.later (e : Ext ρ H ρ' H') {C : String} {fs : List (String × Val)} {g : Heap} (x : XP K E ρ H C fs g) : XP K E ρ' H' C fs g := fun ρ2 H2 c d e2 r q => x ρ2 H2 c d (e.trans e2) r q

/-- what is to hold behind a result -/
def Post (K : PySem.W.Frag) (ρ : List Addr) (H : Hp) (Q : V → Hp → Prop) (v : Val) (h' : Heap) : Prop := ∀ ρ' H' x, Ext ρ H ρ' H' → HRel K ρ' h' H' → WRel K ρ' H H' v x → Q x H'
def tE (K : PySem.W.Frag) (cx : Sc.Cx) (E : XK) (e : Ex) : TE := fun σ H Q => ∃ ρ env h, HRel K ρ h H ∧ SRel K ρ H env σ ∧ Sat (evE cx e env h) (Post K ρ H Q) (XP K E ρ H)
def tT (K : PySem.W.Frag) (cx : Sc.Cx) (E : XK) (e : Ex) : TT := fun σ H Q => ∃ ρ env h, HRel K ρ h H ∧ SRel K ρ H env σ ∧ Sat (test cx e env h) (fun b h' => ∀ ρ' H', Ext ρ H ρ' H' → HRel K ρ' h' H' → Q b H') (XP K E ρ H)
def tI (K : PySem.W.Frag) (cx : Sc.Cx) (E : XK) (es : Its) : TA := fun σ H Q => ∃ ρ env h, HRel K ρ h H ∧ SRel K ρ H env σ ∧ Sat (evI cx es env h) (fun vs h' => ∀ ρ' H' xs, Ext ρ H ρ' H' → HRel K ρ' h' H' → VRels K ρ' H' vs xs → Q xs H') (XP K E ρ H)
inductive WRels (K : PySem.W.Frag) (ρ : List Addr) (H0 H : Hp) : List Val → List V → Prop
  | nil : WRels K ρ H0 H [] []
  | cons {v : Val} {x : V} {vs : List Val} {xs : List V} : WRel K ρ H0 H v x → WRels K ρ H0 H vs xs → WRels K ρ H0 H (v :: vs) (x :: xs)
def tR (K : PySem.W.Frag) (cx : Sc.Cx) (E : XK) (es : Its) : TA := fun σ H Q => ∃ ρ env h, HRel K ρ h H ∧ SRel K ρ H env σ ∧ Sat (evR cx es env h) (fun vs h' => ∀ ρ' H' xs, Ext ρ H ρ' H' → HRel K ρ' h' H' → WRels K ρ' H H' vs xs → Q xs H') (XP K E ρ H)
end

/-! ### how results look -/
section
variable {K : PySem.W.Frag} {ρ : List Addr} {H0 H : Hp} {x : V}
theorem WRel.int {i : Int} (w : WRel K ρ H0 H (.int i) x) : x = .int i := by cases w with | v q => cases q; rfl
theorem WRel.bl {i : Bool} (w : WRel K ρ H0 H (.bl i) x) : x = .bl i := by cases w with | v q => cases q; rfl
theorem WRel.str {i : Str} (w : WRel K ρ H0 H (.str i) x) : x = .str i := by cases w with | v q => cases q; rfl
theorem WRel.non (w : WRel K ρ H0 H .non x) : x = .non := by cases w with | v q => cases q; rfl
theorem WRel.glb {g : String} (w : WRel K ρ H0 H (.glb g) x) : x = .ref (ca K g) := by cases w with | v q => cases q; rfl
theorem WRel.tup {vs : List Val} (w : WRel K ρ H0 H (.tup vs) x) : ∃ a xs, x = .ref a ∧ TupAt K H a xs ∧ VRels K ρ H vs xs := by cases w with | v q => cases q with | tup h r => exact ⟨_, _, rfl, h, r⟩
theorem WRel.tuq {vs : List Val} (w : WRel K ρ H0 H (.tuq vs) x) : ∃ a o xs, x = .ref a ∧ o.dict = none ∧ o.cls = .type "tuple" ∧ H a = some (.frz o (.tup xs)) ∧ VRels K ρ H vs xs := by cases w with | v q => cases q with | tuq d c h r => exact ⟨_, _, _, rfl, d, c, h, r⟩
theorem WRel.tuqT {vs : List Val} (w : WRel K ρ H0 H (.tuq vs) x) : ∃ a xs, x = .ref a ∧ TupAt K H a xs ∧ VRels K ρ H vs xs := by
  obtain ⟨a, o, xs, e, _, _, h, r⟩ := w.tuq
  exact ⟨a, xs, e, .inl (.inr ⟨o, h⟩), r⟩
theorem WRel.loc {n : Nat} (w : WRel K ρ H0 H (.loc n) x) : ∃ a, x = .ref a ∧ ρ[n]? = some a := by cases w with | v q => cases q with | loc h => exact ⟨_, rfl, h⟩
theorem WRel.no_ts {vs : List Val} (w : WRel K ρ H0 H (.ts vs) x) : False := by cases w with | v q => cases q
theorem WRel.no_itr {vs : List Val} (w : WRel K ρ H0 H (.itr vs) x) : False := by cases w with | v q => cases q
theorem WRel.no_xc {C : String} {vs : List (String × Val)} (w : WRel K ρ H0 H (.xc C vs) x) : False := by cases w with | v q => cases q
/-- a list that may be changed -/
theorem lst_of {h : Heap} {v : Val} {vs : List Val} (R : HRel K ρ h H) (w : WRel K ρ H0 H v x) (e : lstOf h v = some vs) : ∃ a xs, x = .ref a ∧ H a = some (.lst xs) ∧ VRels K ρ H vs xs := by
  cases w with
  | tl e1 n z r =>
    have : _ = vs := Option.some.inj e
    subst this
    exact ⟨_, _, rfl, e1, r⟩
  | v q =>
    cases q with
    | @loc n a hl =>
      have e : (match h[n]? with | some (.lst vs) => some vs | _ => none) = some vs := e
      split at e
      · rename_i us he
        cases e
        obtain ⟨xs, e1, r⟩ := R.obj n _ a he hl
        exact ⟨a, xs, rfl, e1, r⟩
      · cases e
    | _ => exact absurd e (by simp [lstOf])
/-- a list, written or not -/
theorem list_of {h : Heap} {v : Val} {vs : List Val} (R : HRel K ρ h H) (w : WRel K ρ H0 H v x) (e : listOf h v = some vs) : ∃ a xs, x = .ref a ∧ SqL K H a xs ∧ VRels K ρ H vs xs := by
  cases w with
  | tl e1 n z r =>
    have : _ = vs := Option.some.inj e
    subst this
    exact ⟨_, _, rfl, SqL.of e1, r⟩
  | v q =>
    cases q with
    | @loc n a hl =>
      have e : (match h[n]? with | some (.lst vs) => some vs | some (.fz vs) => some vs | _ => none) = some vs := e
      split at e
      · rename_i us he
        cases e
        obtain ⟨xs, e1, r⟩ := R.obj n _ a he hl
        exact ⟨a, xs, rfl, SqL.of e1, r⟩
      · rename_i us he
        cases e
        obtain ⟨o, xs, e1, r⟩ := R.obj n _ a he hl
        exact ⟨a, xs, rfl, .inl (.inr ⟨o, e1⟩), r⟩
      · cases e
    | _ => exact absurd e (by simp [listOf])
theorem seq_of {h : Heap} {v : Val} {vs : List Val} (R : HRel K ρ h H) (w : WRel K ρ H0 H v x) (e : seqOf h v = some vs) : ∃ a xs, x = .ref a ∧ (SqL K H a xs ∨ SqT K H a xs) ∧ VRels K ρ H vs xs := by
  by_cases ht : (∃ us, v = .tup us) ∨ ∃ us, v = .tuq us
  · rcases ht with ⟨us, rfl⟩ | ⟨us, rfl⟩
    · have : us = vs := Option.some.inj e
      subst this
      obtain ⟨a, xs, rfl, h1, r⟩ := w.tup
      exact ⟨a, xs, rfl, .inr h1.sq, r⟩
    · have : us = vs := Option.some.inj e
      subst this
      obtain ⟨a, xs, rfl, h1, r⟩ := w.tuqT
      exact ⟨a, xs, rfl, .inr h1.sq, r⟩
  · have e' : listOf h v = some vs := by
      cases v <;> first | exact e | exact absurd (.inl ⟨_, rfl⟩) ht | exact absurd (.inr ⟨_, rfl⟩) ht
    obtain ⟨a, xs, rfl, h1, r⟩ := list_of R w e'
    exact ⟨a, xs, rfl, .inl h1, r⟩
end

/-! ### operators by values -/
/-- a two-place operation that makes at most one thing -/
def rEv (K : PySem.W.Frag) (f : Val → Val → Heap → Option Val) : R2 := fun x y H Q => ∃ ρ H0 h v w r, HRel K ρ h H ∧ WRel K ρ H0 H v x ∧ WRel K ρ H0 H w y ∧ f v w h = some r ∧ ∀ H' z, Ext ρ H ρ H' → HRel K ρ h H' → WRel K ρ H H' r z → Q z H'
def bopE : Bop → Operator
  | .add => .Add | .sub => .Sub | .mul => .Mult | .fdiv => .FloorDiv | .mod => .Mod | .pow => .Pow | .band => .BitAnd | .bor => .BitOr | .shl => .LShift | .shr => .RShift
section
variable {X : L2.Cx} {K : PySem.W.Frag} {ρ : List Addr} {H : Hp} {h : Heap} {Q : V → Hp → Prop} {r : Val}
theorem stay_int {i : Int} (R : HRel K ρ h H) (k : ∀ H' z, Ext ρ H ρ H' → HRel K ρ h H' → WRel K ρ H H' (.int i) z → Q z H') : Q (.int i) H := k H _ .refl R (.v (.int i))
theorem stay_str {i : Str} (R : HRel K ρ h H) (k : ∀ H' z, Ext ρ H ρ H' → HRel K ρ h H' → WRel K ρ H H' (.str i) z → Q z H') : Q (.str i) H := k H _ .refl R (.v (.str i))
theorem new_list {vs : List Val} {xs : List V} (R : HRel K ρ h H) (r : VRels K ρ H vs xs) (k : ∀ H' z, Ext ρ H ρ H' → HRel K ρ h H' → WRel K ρ H H' (.tl vs) z → Q z H') : ∀ p, H p = none → Q (.ref p) (upd H p (.lst xs)) := fun p hp =>
  k _ _ (.new hp) (R.new hp) (.tl upd_same (fun hm => by
    obtain ⟨n, hl, e2⟩ := List.getElem_of_mem hm
    have hh : n < h.length := by rw [← R.len]; exact hl
    have q := R.obj n h[n] p (by simp [hh]) (by simp [hl, e2])
    cases ho : h[n] with
    | lst vs => rw [ho] at q; obtain ⟨_, z, _⟩ := q; rw [hp] at z; cases z
    | fz vs => rw [ho] at q; obtain ⟨_, _, z, _⟩ := q; rw [hp] at z; cases z
    | ins C fs => rw [ho] at q; obtain ⟨_, _, z, _⟩ := q; rw [hp] at z; cases z
    | dct kvs => rw [ho] at q; obtain ⟨_, z, _⟩ := q; rw [hp] at z; cases z) hp (r.later R (.new hp)))
theorem new_tup {vs : List Val} {xs : List V} (R : HRel K ρ h H) (r : VRels K ρ H vs xs) (k : ∀ H' z, Ext ρ H ρ H' → HRel K ρ h H' → WRel K ρ H H' (.tup vs) z → Q z H') : ∀ p, H p = none → Q (.ref p) (upd H p (.tup xs)) := fun p hp =>
  k _ _ (.new hp) (R.new hp) (.v (.tup (.inl (.inl upd_same)) (r.later R (.new hp))))
theorem small_ok {i : Int} (h : small i = true) : -(2 ^ 64) < i ∧ i < 2 ^ 64 := by
  have h' : i.natAbs < 2 ^ 64 := of_decide_eq_true h
  omega
theorem Str.mk_toList (x : Str) : (⟨x.cps.toList.toArray⟩ : Str) = x := by cases x; simp
theorem mulOk {x : Str} {k : Int} (h : 0 ≤ k ∧ k ≤ 64 ∧ x.length ≤ 64) : MulOk x k := by
  obtain ⟨h0, h1, h2⟩ := h
  have z : k = 0 ∨ 1 ≤ k := by omega
  refine ⟨?_, fun q _ => ?_, fun q _ => ?_⟩
  · have e1 : decide (k < -(2 ^ 63 : Int)) = false := decide_eq_false (by omega)
    have e2 : decide (k ≥ 2 ^ 63) = false := decide_eq_false (by omega)
    rw [e1, e2] <;> rfl
  · have h3 : (64 : Int) ≤ (2 ^ 63 - 1) / k := (Int.le_ediv_iff_mul_le (by omega)).mpr (by omega)
    omega
  · have h4 : x.length * k.toNat ≤ 64 * 64 := Nat.mul_le_mul h2 (by omega)
    unfold PySem.Builtin.Str.tooLong
    rw [decide_eq_false_iff_not, sizeLine_eq]
    omega
theorem op_bin {op : Bop} : OpR X (binaryOp (bopE op)) (rEv X.K (bin op)) := by
  intro pins s σ H x y v u Q I rx ry q
  obtain ⟨ρ, H0, h, a, b, r, R, wa, wb, e, k⟩ := q
  unfold bin at e
  split at e
  · cases e; obtain rfl := wa.int; obtain rfl := wb.int
    exact op_add pins s σ H _ _ v u Q I rx ry ⟨_, _, rfl, rfl, stay_int R k⟩
  · cases e; obtain rfl := wa.int; obtain rfl := wb.int
    exact op_sub pins s σ H _ _ v u Q I rx ry ⟨_, _, rfl, rfl, stay_int R k⟩
  · obtain rfl := wa.int; obtain rfl := wb.int
    split at e
    · rename_i hs
      cases e
      refine op_mul pins s σ H _ _ v u Q I rx ry ⟨_, _, rfl, rfl, ?_, stay_int R k⟩
      rcases Bool.or_eq_true_iff.mp hs with z | z
      · exact .inl (small_ok z)
      · exact .inr (small_ok z)
    · cases e
  · obtain rfl := wa.int; obtain rfl := wb.int
    split at e
    · rename_i hs
      cases e
      exact op_fdiv pins s σ H _ _ v u Q I rx ry ⟨_, _, rfl, rfl, hs, stay_int R k⟩
    · cases e
  · obtain rfl := wa.int; obtain rfl := wb.int
    split at e
    · rename_i hs
      cases e
      exact op_mod pins s σ H _ _ v u Q I rx ry ⟨_, _, rfl, rfl, hs, stay_int R k⟩
    · cases e
  · obtain rfl := wa.int; obtain rfl := wb.int
    split at e
    · rename_i hs
      cases e
      exact op_pow pins s σ H _ _ v u Q I rx ry ⟨_, _, rfl, rfl, hs, stay_int R k⟩
    · cases e
  · obtain rfl := wa.int; obtain rfl := wb.int
    split at e
    · rename_i hs
      cases e
      exact op_shl pins s σ H _ _ v u Q I rx ry ⟨_, _, rfl, rfl, hs, stay_int R k⟩
    · cases e
  · obtain rfl := wa.int; obtain rfl := wb.int
    split at e
    · rename_i hs
      cases e
      exact op_shr pins s σ H _ _ v u Q I rx ry ⟨_, _, rfl, rfl, hs, stay_int R k⟩
    · cases e
  · cases e; obtain rfl := wa.int; obtain rfl := wb.int
    exact op_and pins s σ H _ _ v u Q I rx ry ⟨_, _, rfl, rfl, stay_int R k⟩
  · cases e; obtain rfl := wa.int; obtain rfl := wb.int
    exact op_or pins s σ H _ _ v u Q I rx ry ⟨_, _, rfl, rfl, stay_int R k⟩
  · obtain rfl := wa.str; obtain rfl := wb.str
    split at e
    · rename_i hs
      cases e
      exact op_add_str pins s σ H _ _ v u Q I rx ry ⟨_, _, rfl, rfl, hs, stay_str R k⟩
    · cases e
  · obtain rfl := wa.str; obtain rfl := wb.int
    split at e
    · rename_i hs
      cases e
      obtain ⟨t, rfl⟩ := rx
      obtain ⟨t', rfl⟩ := ry
      exact PySem.SB.mul (mulOk hs) fun t2 k2 => ⟨.str _, H, I.tok _, ⟨_, rfl⟩, stay_str R k⟩
    · cases e
  · obtain ⟨pa, xs, rfl, ta, ra⟩ := wa.tup
    obtain ⟨pb, ys, rfl, tb, rb⟩ := wb.tup
    split at e
    · rename_i hs
      cases e
      refine op_catA pins s σ H _ _ v u Q I rx ry ⟨_, _, _, _, rfl, rfl, ta.sq, tb.sq, by rw [← ra.length, ← rb.length]; exact hs, fun z => ?_, fun z z' => ?_, fun _ _ => new_tup R (ra.append rb) k⟩
      · subst z; cases ra
        exact k H _ .refl R (.v (.tup tb rb))
      · subst z'; cases rb
        refine k H _ .refl R (.v (.tup ta ?_))
        rw [List.append_nil]
        exact ra
    · cases e
  · obtain ⟨pa, xs, rfl, ta, ra⟩ := wa.tup
    obtain ⟨pb, ys, rfl, tb, rb⟩ := wb.tuqT
    split at e
    · rename_i hs
      cases e
      refine op_catA pins s σ H _ _ v u Q I rx ry ⟨_, _, _, _, rfl, rfl, ta.sq, tb.sq, by rw [← ra.length, ← rb.length]; exact hs, fun z => ?_, fun z z' => ?_, fun _ _ => new_tup R (ra.append rb) k⟩
      · subst z; cases ra
        exact k H _ .refl R (.v (.tup tb rb))
      · subst z'; cases rb
        refine k H _ .refl R (.v (.tup ta ?_))
        rw [List.append_nil]
        exact ra
    · cases e
  · split at e
    · rename_i xs ys e1 e2
      split at e
      · rename_i hs
        cases e
        obtain ⟨pa, xs', rfl, ta, ra⟩ := lst_of R wa e1
        obtain ⟨pb, ys', rfl, tb, rb⟩ := lst_of R wb e2
        exact op_cat pins s σ H _ _ v u Q I rx ry ⟨_, _, _, _, rfl, rfl, ta, tb, by rw [← ra.length, ← rb.length]; exact hs, new_list R (ra.append rb) k⟩
      · cases e
    · cases e
  · obtain rfl := wb.int
    split at e
    · rename_i xs e1
      split at e
      · rename_i hs
        cases e
        obtain ⟨pa, xs', rfl, ta, ra⟩ := lst_of R wa e1
        exact op_rep pins s σ H _ _ v u Q I rx ry ⟨_, _, _, rfl, rfl, ta, hs.1, hs.2.1, by rw [← ra.length]; exact hs.2.2, new_list R (ra.rep _) k⟩
      · cases e
    · cases e
  · cases e
end
end Sc
end
section
set_option Elab.async false
set_option linter.all false
set_option maxRecDepth 100000
set_option maxHeartbeats 4000000
set_option autoImplicit false
/-! Comparisons, truth, subscripts. -/
namespace Sc
open PySem PySem.Spec PyProof.Rows L2

/-! ### data -/
theorem optAll_get {α β : Type} {f : α → Option β} : ∀ {l : List α} {r : List β}, optAll f l = some r → l.length = r.length ∧ ∀ (i : Nat) (a : α), l[i]? = some a → ∃ b, r[i]? = some b ∧ f a = some b
  | [], r, e => by
    cases (Option.some.inj e : [] = r)
    exact ⟨rfl, fun i a z => by simp at z⟩
  | a :: l, r, e => by
    unfold optAll at e
    split at e
    · rename_i b bs h1 h2
      cases e
      obtain ⟨q1, q2⟩ := optAll_get h2
      refine ⟨by simp [q1], fun i x z => ?_⟩
      cases i with
      | zero => simp at z; subst z; exact ⟨b, rfl, h1⟩
      | succ i => exact q2 i x (by simpa using z)
    · cases e
theorem toPy_plain {h : Heap} : ∀ (n : Nat) {v : Val} {d : PyData}, toPy h n v = some d → d.plain = true ∧ d.depth ≤ n := by
  intro n
  induction n with
  | zero => intro v d e; cases e
  | succ n ih =>
    have all : ∀ {vs : List Val} {ds : List PyData}, optAll (toPy h n) vs = some ds → PyData.plainAll ds = true ∧ PyData.depthAll ds ≤ n := by
      intro vs
      induction vs with
      | nil => intro ds e; cases e; exact ⟨rfl, Nat.zero_le _⟩
      | cons v vs iv =>
        intro ds e
        unfold optAll at e
        split at e
        · rename_i b bs h1 h2
          cases e
          obtain ⟨p1, p2⟩ := ih h1
          obtain ⟨p3, p4⟩ := iv h2
          exact ⟨by simp [PyData.plainAll, p1, p3], by simp only [PyData.depthAll]; omega⟩
        · cases e
    have one : ∀ {vs : List Val} {d : PyData} (g : List PyData → PyData), (∀ ds, (g ds).plain = PyData.plainAll ds ∧ (g ds).depth = PyData.depthAll ds + 1) → (optAll (toPy h n) vs).map g = some d → d.plain = true ∧ d.depth ≤ n + 1 := by
      intro vs d g hg e
      cases z : optAll (toPy h n) vs with
      | none => rw [z] at e; cases e
      | some ds =>
        rw [z] at e
        cases e
        obtain ⟨q1, q2⟩ := all z
        rw [(hg ds).1, (hg ds).2]
        exact ⟨q1, by omega⟩
    intro v d e
    unfold toPy at e
    split at e
    · cases e; exact ⟨rfl, by simp [PyData.depth]⟩
    · cases e; exact ⟨rfl, by simp [PyData.depth]⟩
    · cases e; exact ⟨rfl, by simp [PyData.depth]⟩
    · cases e; exact ⟨rfl, by simp [PyData.depth]⟩
    · exact one PyData.tuple (fun ds => ⟨rfl, by simp [PyData.depth]⟩) e
    · exact one PyData.tuple (fun ds => ⟨rfl, by simp [PyData.depth]⟩) e
    · exact one PyData.list (fun ds => ⟨rfl, by simp [PyData.depth]⟩) e
    · split at e
      · exact one PyData.list (fun ds => ⟨rfl, by simp [PyData.depth]⟩) e
      · cases e
    · cases e
section
variable {K : PySem.W.Frag} {ρ : List Addr} {H0 H : Hp} {h : Heap}
theorem dp_stored (R : HRel K ρ h H) : ∀ (n : Nat) {v : Val} {x : V} {d : PyData}, VRel K ρ H v x → toPy h n v = some d → Dp K H x d := by
  intro n
  induction n with
  | zero => intro v x d _ e; cases e
  | succ n ih =>
    have all : ∀ {vs : List Val} {xs : List V} {ds : List PyData}, VRels K ρ H vs xs → optAll (toPy h n) vs = some ds → DpAll K H xs ds := by
      intro vs
      induction vs with
      | nil => intro xs ds r e; cases r; cases e; exact .nil
      | cons v vs iv =>
        intro xs ds r e
        cases r with
        | cons q r =>
          unfold optAll at e
          split at e
          · rename_i b bs h1 h2
            cases e
            exact .cons (ih q h1) (iv r h2)
          · cases e
    intro v x d q e
    cases q with
    | non => cases e; exact .non
    | bl b => cases e; exact .bl b
    | int b => cases e; exact .int b
    | str b => cases e; exact .str b
    | glb b => cases e
    | @tup vs a xs ht r =>
      have e : (optAll (toPy h n) vs).map PyData.tuple = some d := e
      cases z : optAll (toPy h n) vs with
      | none => rw [z] at e; cases e
      | some ds =>
        rw [z] at e
        cases e
        exact .tup ht.sq (all r z)
    | @tuq vs a o xs hd hc ht r =>
      have e : (optAll (toPy h n) vs).map PyData.tuple = some d := e
      cases z : optAll (toPy h n) vs with
      | none => rw [z] at e; cases e
      | some ds =>
        rw [z] at e
        cases e
        exact .tup (.inl (.inr ⟨o, ht⟩)) (all r z)
    | @loc k a hl =>
      have e : (match h[k]? with | some (.lst vs) => (optAll (toPy h n) vs).map PyData.list | _ => none) = some d := e
      split at e
      · rename_i vs hk
        cases z : optAll (toPy h n) vs with
        | none => rw [z] at e; cases e
        | some ds =>
          rw [z] at e
          cases e
          obtain ⟨xs, e1, r⟩ := R.obj k _ a hk hl
          exact .lst (SqL.of e1) (all r z)
      · cases e
theorem dps_stored (R : HRel K ρ h H) (n : Nat) : ∀ {vs : List Val} {xs : List V} {ds : List PyData}, VRels K ρ H vs xs → optAll (toPy h n) vs = some ds → DpAll K H xs ds := by
  intro vs
  induction vs with
  | nil => intro xs ds r e; cases r; cases e; exact .nil
  | cons v vs iv =>
    intro xs ds r e
    cases r with
    | cons q r =>
      unfold optAll at e
      split at e
      · rename_i b bs h1 h2
        cases e
        exact .cons (dp_stored R n q h1) (iv r h2)
      · cases e
theorem dp_of (R : HRel K ρ h H) {n : Nat} {v : Val} {x : V} {d : PyData} (w : WRel K ρ H0 H v x) (e : toPy h n v = some d) : Dp K H x d := by
  cases w with
  | v q => exact dp_stored R n q e
  | @tl vs a xs e1 nm z r =>
    cases n with
    | zero => cases e
    | succ n =>
      have e : (optAll (toPy h n) vs).map PyData.list = some d := e
      cases z : optAll (toPy h n) vs with
      | none => rw [z] at e; cases e
      | some ds =>
        rw [z] at e
        cases e
        exact .lst (SqL.of e1) (dps_stored R n r z)
end

/-! ### comparisons by values -/
def rEvB (K : PySem.W.Frag) (f : Val → Val → Heap → Option Bool) : R2 := fun x y H Q => ∃ ρ H0 h v w b, HRel K ρ h H ∧ WRel K ρ H0 H v x ∧ WRel K ρ H0 H w y ∧ f v w h = some b ∧ Q (.bl b) H
def copE : Cop → CmpOp
  | .eq => .Eq | .ne => .NotEq | .lt => .Lt | .le => .LtE | .gt => .Gt | .ge => .GtE | .is_ => .Is | .isn => .IsNot | .in_ => .In | .nin => .NotIn
section
variable {X : L2.Cx}
theorem plain_all {ds : List PyData} {h : Heap} {n : Nat} {vs : List Val} (e : optAll (toPy h n) vs = some ds) : PyData.plainAll ds = true ∧ PyData.depthAll ds ≤ n := by
  have : toPy h (n + 1) (.tl vs) = some (.list ds) := by
    show (optAll (toPy h n) vs).map PyData.list = _
    rw [e] <;> rfl
  obtain ⟨a, b⟩ := toPy_plain (n + 1) this
  refine ⟨a, ?_⟩
  simp only [PyData.depth] at b
  omega
theorem op_eqP (hu : X.A.units + 64 < cLine) : OpR X (compareOp .Eq) (rEvB X.K fun v w h => pyEq h v w) := by
  intro pins s σ H x y v u Q I rx ry h
  obtain ⟨ρ, H0, h, a, c, b, R, wa, wc, e, q⟩ := h
  have e : (match py h a, py h c with | some d, some e => some (d.eqv e) | _, _ => none) = some b := e
  split at e
  · rename_i d d' e1 e2
    cases e
    obtain ⟨as, r1⟩ := Dp.reads I d x v (dp_of R wa e1) rx
    obtain ⟨bs, r2⟩ := Dp.reads I d' y u (dp_of R wc e2) ry
    obtain ⟨p1, p2⟩ := toPy_plain _ e1
    obtain ⟨p3, p4⟩ := toPy_plain _ e2
    exact SeqAt.eq_plain r1 r2 p1 p3 (by omega) ⟨.bl _, H, I, rfl, q⟩
  · cases e
theorem op_neP (hu : X.A.units + 64 < cLine) : OpR X (compareOp .NotEq) (rEvB X.K fun v w h => (pyEq h v w).map (!·)) := by
  intro pins s σ H x y v u Q I rx ry h
  obtain ⟨ρ, H0, h, a, c, b, R, wa, wc, e, q⟩ := h
  have e : (match py h a, py h c with | some d, some e => some (d.eqv e) | _, _ => none).map (!·) = some b := e
  split at e
  · rename_i d d' e1 e2
    cases e
    obtain ⟨as, r1⟩ := Dp.reads I d x v (dp_of R wa e1) rx
    obtain ⟨bs, r2⟩ := Dp.reads I d' y u (dp_of R wc e2) ry
    obtain ⟨p1, p2⟩ := toPy_plain _ e1
    obtain ⟨p3, p4⟩ := toPy_plain _ e2
    exact SeqAt.ne_plain r1 r2 p1 p3 (by omega) ⟨.bl _, H, I, rfl, q⟩
  · cases e
/-- a dict's keys -/
theorem keyOf_rel {K : PySem.W.Frag} {ρ : List Addr} {H0 H : Hp} {v : Val} {k : Key} {x : V} (e : keyOf v = some k) (w : WRel K ρ H0 H v x) : x = kV k := by
  cases v with
  | int i => cases e; exact w.int
  | str i => cases e; exact w.str
  | _ => cases e
theorem keyOf_eqb : ∀ {a b : Val} {k l : Key}, keyOf a = some k → keyOf b = some l → Val.eqb a b = decide (k = l)
  | .int i, .int j, _, _, e1, e2 => by
    cases e1; cases e2
    rw [key_ll]
    simp [Val.eqb]
  | .str i, .str j, _, _, e1, e2 => by
    cases e1; cases e2
    rw [key_rr]
    simp only [Val.eqb]
    rw [Bool.eq_iff_iff]
    simp
  | .int i, .str j, _, _, e1, e2 => by
    cases e1; cases e2
    rw [key_lr]
    simp [Val.eqb]
  | .str i, .int j, _, _, e1, e2 => by
    cases e1; cases e2
    rw [key_rl]
    simp [Val.eqb]
theorem notNon {a : Val} {K : PySem.W.Frag} {ρ : List Addr} {H0 H : Hp} {x : V} (w : WRel K ρ H0 H a x) : decide (x = .non) = isNon a := by
  cases w with
  | v q => cases q <;> simp [isNon]
  | tl => simp [isNon]
theorem KRels.look {K : PySem.W.Frag} {ρ : List Addr} {H : Hp} {k : Val} {l : Key} (ek : keyOf k = some l) : ∀ {kvs : List (Val × Val)} {kvs' : List (Key × V)}, KRels K ρ H kvs kvs' →
    (match lookD kvs k with | some v => ∃ x, valV kvs' l = some x ∧ VRel K ρ H v x | none => valV kvs' l = none) ∧ (kvs.any fun p => Val.eqb p.1 k) = (valV kvs' l).isSome
  | _, _, .nil => ⟨rfl, rfl⟩
  | p :: kvs, q :: kvs', .cons r t => by
    obtain ⟨ih1, ih2⟩ := KRels.look ek t
    have ee := keyOf_eqb r.1 ek
    by_cases hk : q.1 = l
    · have e1 : Val.eqb p.1 k = true := by rw [ee]; exact decide_eq_true hk
      have e2 : valV (q :: kvs') l = some q.2 := valV_pos hk
      have e3 : lookD (p :: kvs) k = some p.2 := by simp [lookD, List.find?_cons, e1]
      rw [e3, e2]
      exact ⟨⟨_, rfl, r.2⟩, by simp [e1]⟩
    · have e1 : Val.eqb p.1 k = false := by rw [ee]; exact decide_eq_false hk
      have e2 : valV (q :: kvs') l = valV kvs' l := valV_neg hk
      have e3 : lookD (p :: kvs) k = lookD kvs k := by simp [lookD, List.find?_cons, e1]
      rw [e3, e2]
      exact ⟨ih1, by rw [List.any_cons, e1, Bool.false_or]; exact ih2⟩
/-- what stands at a dict's key -/
theorem dct_at {K : PySem.W.Frag} {ρ : List Addr} {H0 H : Hp} {h : Heap} {n : Nat} {kvs : List (Val × Val)} {k : Val} {x y : V} (R : HRel K ρ h H) (e : h[n]? = some (.dct kvs)) (w : WRel K ρ H0 H (.loc n) x) (wk : WRel K ρ H0 H k y) (kk : (keyOf k).isSome = true) :
    ∃ a o, x = .ref a ∧ DGet H a y o ∧ (kvs.any fun p => Val.eqb p.1 k) = o.isSome ∧ (match lookD kvs k with | some v => ∃ z, o = some z ∧ VRel K ρ H v z | none => o = none) := by
  obtain ⟨a, rfl, hn⟩ := w.loc
  obtain ⟨kvs', e1, r⟩ := R.obj n _ a e hn
  cases z : keyOf k with
  | none => rw [z] at kk; cases kk
  | some l =>
    obtain rfl := keyOf_rel z wk
    obtain ⟨q1, q2⟩ := KRels.look z r
    exact ⟨a, _, rfl, DGet.k e1, q2, q1⟩
theorem op_inP (hu : X.A.units + 65 < cLine) : OpR X (compareOp .In) (rEvB X.K isIn) := by
  intro pins s σ H x y v u Q I rx ry h
  obtain ⟨ρ, H0, h, a, c, b, R, wa, wc, e, q⟩ := h
  have seq : ∀ {vs : List Val}, anyEq h a vs = some b → (∃ p xs, y = .ref p ∧ (SqL X.K H p xs ∨ SqT X.K H p xs) ∧ VRels X.K ρ H vs xs) → wpAny (model X.prog X.w) X.A (compareOp .In v u) (EP X pins σ Q) X.xe s := by
    rintro vs e ⟨p, xs, rfl, hs, r⟩
    unfold anyEq at e
    split at e
    · rename_i d ds e1 e2
      cases e
      obtain ⟨as, r1⟩ := Dp.reads I d x v (dp_of R wa e1) rx
      obtain ⟨p1, p2⟩ := toPy_plain _ e1
      obtain ⟨p3, p4⟩ := plain_all e2
      have hr : X.A.units + 1 + min (PyData.depthAll ds) d.depth < cLine := by omega
      rcases hs with hs | hs
      · obtain ⟨bs, r2⟩ := Dp.reads I (.list ds) _ u (.lst hs (dps_stored R 9 r e2)) ry
        exact SeqAt.in_list_data r2 r1 p3 p1 hr ⟨.bl _, H, I, rfl, q⟩
      · obtain ⟨bs, r2⟩ := Dp.reads I (.tuple ds) _ u (.tup hs (dps_stored R 9 r e2)) ry
        exact SeqAt.in_tuple_data r2 r1 p3 p1 hr ⟨.bl _, H, I, rfl, q⟩
    · cases e
  unfold isIn at e
  split at e
  · cases e; obtain rfl := wa.str; obtain rfl := wc.str
    exact op_in_str pins s σ H _ _ v u Q I rx ry ⟨_, _, rfl, rfl, q⟩
  · rename_i n
    split at e
    · rename_i vs hn
      exact seq e (by
        obtain ⟨p, xs, hx, h1, r⟩ := seq_of (vs := vs) R wc (by simp [seqOf, listOf, hn])
        exact ⟨p, xs, hx, h1, r⟩)
    · rename_i vs hn
      exact seq e (by
        obtain ⟨p, xs, hx, h1, r⟩ := seq_of (vs := vs) R wc (by simp [seqOf, listOf, hn])
        exact ⟨p, xs, hx, h1, r⟩)
    · rename_i kvs hn
      split at e
      · rename_i kk
        cases e
        obtain ⟨p, o, rfl, g, q1, _⟩ := dct_at R hn wc wa kk
        cases ry
        exact d_in (by omega) I g rx fun s' I' => ⟨.bl _, H, I', by rw [← q1]; rfl, q⟩
      · cases e
    · cases e
  · rename_i vs
    exact seq e (seq_of R wc rfl)
  · rename_i vs
    exact seq e (seq_of R wc rfl)
  · rename_i vs
    exact seq e (seq_of R wc rfl)
  · exact (wc.no_ts).elim
  · cases e
theorem op_notInP (hu : X.A.units + 65 < cLine) : OpR X (compareOp .NotIn) (rEvB X.K fun v w h => (isIn v w h).map (!·)) := by
  intro pins s σ H x y v u Q I rx ry h
  obtain ⟨ρ, H0, h, a, c, b', R, wa, wc, e0, q⟩ := h
  obtain ⟨b, e, rfl⟩ : ∃ b, isIn a c h = some b ∧ b' = !b := by
    have e : (isIn a c h).map (!·) = some b' := e0
    cases z : isIn a c h with
    | none => rw [z] at e; cases e
    | some b => rw [z] at e; cases e; exact ⟨b, rfl, rfl⟩
  have seq : ∀ {vs : List Val}, anyEq h a vs = some b → (∃ p xs, y = .ref p ∧ (SqL X.K H p xs ∨ SqT X.K H p xs) ∧ VRels X.K ρ H vs xs) → wpAny (model X.prog X.w) X.A (compareOp .NotIn v u) (EP X pins σ Q) X.xe s := by
    rintro vs e ⟨p, xs, rfl, hs, r⟩
    unfold anyEq at e
    split at e
    · rename_i d ds e1 e2
      cases e
      obtain ⟨as, r1⟩ := Dp.reads I d x v (dp_of R wa e1) rx
      obtain ⟨p1, p2⟩ := toPy_plain _ e1
      obtain ⟨p3, p4⟩ := plain_all e2
      have hr : X.A.units + 1 + min (PyData.depthAll ds) d.depth < cLine := by omega
      rcases hs with hs | hs
      · obtain ⟨bs, r2⟩ := Dp.reads I (.list ds) _ u (.lst hs (dps_stored R 9 r e2)) ry
        exact SeqAt.notIn_list_data r2 r1 p3 p1 hr ⟨.bl _, H, I, rfl, q⟩
      · obtain ⟨bs, r2⟩ := Dp.reads I (.tuple ds) _ u (.tup hs (dps_stored R 9 r e2)) ry
        exact SeqAt.notIn_tuple_data r2 r1 p3 p1 hr ⟨.bl _, H, I, rfl, q⟩
    · cases e
  unfold isIn at e
  split at e
  · cases e; obtain rfl := wa.str; obtain rfl := wc.str
    exact L2.op_notIn_str pins s σ H _ _ v u Q I rx ry ⟨_, _, rfl, rfl, q⟩
  · rename_i n
    split at e
    · rename_i vs hn
      exact seq e (by
        obtain ⟨p, xs, hx, h1, r⟩ := seq_of (vs := vs) R wc (by simp [seqOf, listOf, hn])
        exact ⟨p, xs, hx, h1, r⟩)
    · rename_i vs hn
      exact seq e (by
        obtain ⟨p, xs, hx, h1, r⟩ := seq_of (vs := vs) R wc (by simp [seqOf, listOf, hn])
        exact ⟨p, xs, hx, h1, r⟩)
    · rename_i kvs hn
      split at e
      · rename_i kk
        cases e
        obtain ⟨p, o, rfl, g, q1, _⟩ := dct_at R hn wc wa kk
        cases ry
        exact d_notIn (by omega) I g rx fun s' I' => ⟨.bl _, H, I', by rw [← q1]; rfl, q⟩
      · cases e
    · cases e
  · rename_i vs
    exact seq e (seq_of R wc rfl)
  · rename_i vs
    exact seq e (seq_of R wc rfl)
  · rename_i vs
    exact seq e (seq_of R wc rfl)
  · exact (wc.no_ts).elim
  · cases e
theorem op_cmp {op : Cop} (hu : X.A.units + 65 < cLine) : OpR X (compareOp (copE op)) (rEvB X.K (cmp op)) := by
  cases op with
  | eq => exact op_eqP (by omega)
  | ne => exact op_neP (by omega)
  | in_ => exact op_inP hu
  | nin => exact op_notInP hu
  | lt =>
    intro pins s σ H x y v u Q I rx ry h
    obtain ⟨ρ, H0, h, a, c, b, R, wa, wc, e, q⟩ := h
    simp only [cmp] at e
    split at e
    · cases e; obtain rfl := wa.int; obtain rfl := wc.int
      exact op_lt pins s σ H _ _ v u Q I rx ry ⟨_, _, rfl, rfl, q⟩
    · cases e; obtain rfl := wa.str; obtain rfl := wc.str
      exact op_lt_str pins s σ H _ _ v u Q I rx ry ⟨_, _, rfl, rfl, q⟩
    · cases e
  | le =>
    intro pins s σ H x y v u Q I rx ry h
    obtain ⟨ρ, H0, h, a, c, b, R, wa, wc, e, q⟩ := h
    simp only [cmp] at e
    split at e
    · cases e; obtain rfl := wa.int; obtain rfl := wc.int
      exact op_le pins s σ H _ _ v u Q I rx ry ⟨_, _, rfl, rfl, q⟩
    · cases e
  | gt =>
    intro pins s σ H x y v u Q I rx ry h
    obtain ⟨ρ, H0, h, a, c, b, R, wa, wc, e, q⟩ := h
    simp only [cmp] at e
    split at e
    · cases e; obtain rfl := wa.int; obtain rfl := wc.int
      exact op_gt pins s σ H _ _ v u Q I rx ry ⟨_, _, rfl, rfl, q⟩
    · cases e
  | ge =>
    intro pins s σ H x y v u Q I rx ry h
    obtain ⟨ρ, H0, h, a, c, b, R, wa, wc, e, q⟩ := h
    simp only [cmp] at e
    split at e
    · cases e; obtain rfl := wa.int; obtain rfl := wc.int
      exact op_ge pins s σ H _ _ v u Q I rx ry ⟨_, _, rfl, rfl, q⟩
    · cases e
  | is_ =>
    intro pins s σ H x y v u Q I rx ry h
    obtain ⟨ρ, H0, h, a, c, b, R, wa, wc, e, q⟩ := h
    simp only [cmp] at e
    split at e
    · obtain rfl := wc.non
      refine op_isN pins s σ H _ _ v u Q I rx ry ⟨rfl, ?_⟩
      rw [notNon wa]
      cases e
      exact q
    · cases e
  | isn =>
    intro pins s σ H x y v u Q I rx ry h
    obtain ⟨ρ, H0, h, a, c, b, R, wa, wc, e, q⟩ := h
    simp only [cmp] at e
    split at e
    · obtain rfl := wc.non
      refine op_notN pins s σ H _ _ v u Q I rx ry ⟨rfl, ?_⟩
      rw [notNon wa]
      cases e
      exact q
    · cases e
end
end Sc
end
section
set_option Elab.async false
set_option linter.all false
set_option maxRecDepth 100000
set_option maxHeartbeats 4000000
set_option autoImplicit false
/-! Truth, subscripts, built-in functions, methods of built-in kinds: by values. -/
namespace Sc
open PySem PySem.Spec PyProof.Rows L2

section
variable {K : PySem.W.Frag} {ρ : List Addr} {H0 H : Hp} {h : Heap} {x : V}
theorem truV_of {v : Val} {b : Bool} (R : HRel K ρ h H) (w : WRel K ρ H0 H v x) (e : truth h v = some b) : TruV K x H b := by
  have seq : ∀ {vs : List Val}, seqOf h v = some vs → b = !vs.isEmpty → TruV K x H b := fun {vs} es eb => by
    obtain ⟨a, xs, rfl, hs, r⟩ := seq_of R w es
    have e2 : b = !xs.isEmpty := by rw [r.isEmpty]; exact eb
    rcases hs with hs | hs
    · exact .inl ⟨xs, hs, e2⟩
    · exact .inr (.inl ⟨xs, hs, e2⟩)
  unfold truth at e
  split at e
  · cases e; rw [w.non]; exact rfl
  · cases e; rw [w.bl]; exact rfl
  · cases e; rw [w.int]; exact rfl
  · split at e
    · rename_i hz
      cases e; rw [w.str]; exact ⟨hz, rfl⟩
    · cases e
  · split at e
    · rename_i vs es
      cases e
      exact seq es rfl
    · cases e
theorem atI_of {vs : List Val} {xs : List V} {k : Int} {v : Val} (r : VRels K ρ H vs xs) (e : (ixOf vs.length k).bind (vs[·]?) = some v) : ∃ y, atI xs k = some y ∧ VRel K ρ H v y := by
  cases z : ixOf vs.length k with
  | none => rw [z] at e; cases e
  | some j =>
    rw [z] at e
    obtain ⟨y, h1, h2⟩ := r.get (i := j) e
    refine ⟨y, ?_, h2⟩
    unfold atI
    rw [← r.length, show L2.ixN vs.length k = some j from z]
    exact h1
end

section
variable {X : L2.Cx}
theorem ix_dict (hu : X.A.units + 1 < cLine) : IxR X (fun x y H Q => ∃ a v, x = .ref a ∧ DGet H a y (some v) ∧ Q v H) := by
  intro value slice pins s σ H x y v u Q I rx ry h hs
  obtain ⟨a, w', rfl, g, q⟩ := h
  cases rx
  exact tail_any (dict_typeIs I g) PySem.F.slot_dict_getitem.lookup (d_getItem hu I g ry fun w2 s3 I3 rw' => ⟨w', H, I3, rw', q⟩) hs
theorem ix_ev (hu : X.A.units + 1 < cLine) : IxR X (rEv X.K subV) := by
  intro value slice pins s σ H x y v u Q I rx ry q hs
  obtain ⟨ρ, H0, h, a, b, r, R, wa, wb, e, k⟩ := q
  unfold subV at e
  split at e
  · rename_i z i
    obtain rfl := wa.str; obtain rfl := wb.int
    split at e
    · rename_i hz
      split at e
      · rename_i j hj
        cases z2 : z.cps.toList[j]? with
        | none => rw [z2] at e; cases e
        | some c =>
          rw [z2] at e
          cases e
          refine ix_str value slice pins s σ H _ _ v u Q I rx ry ⟨z, i, c, rfl, rfl, hz, ?_, stay_str R k⟩ hs
          unfold atI
          have hl : z.cps.toList.length = z.length := by simp [Str.length]
          rw [hl, show L2.ixN z.length i = some j from hj]
          exact z2
      · cases e
    · cases e
  · rename_i n i
    split at e
    · rename_i vs kk hn
      obtain rfl := wb.int
      obtain ⟨p, xs, rfl, hl, rr⟩ := list_of (vs := vs) R wa (by simp [listOf, hn])
      obtain ⟨y, h1, h2⟩ := atI_of rr e
      exact ix_list value slice pins s σ H _ _ v u Q I rx ry ⟨p, xs, kk, y, rfl, rfl, hl, h1, k H y .refl R (.v h2)⟩ hs
    · rename_i vs kk hn
      obtain rfl := wb.int
      obtain ⟨p, xs, rfl, hl, rr⟩ := list_of (vs := vs) R wa (by simp [listOf, hn])
      obtain ⟨y, h1, h2⟩ := atI_of rr e
      exact ix_list value slice pins s σ H _ _ v u Q I rx ry ⟨p, xs, kk, y, rfl, rfl, hl, h1, k H y .refl R (.v h2)⟩ hs
    · rename_i kvs hn
      split at e
      · rename_i kk
        obtain ⟨p, o, rfl, g, _, q2⟩ := dct_at R hn wa wb kk
        rw [e] at q2
        obtain ⟨z, rfl, rz⟩ := q2
        exact ix_dict hu value slice pins s σ H _ _ v u Q I rx ry ⟨p, z, rfl, g, k H z .refl R (.v rz)⟩ hs
      · cases e
    · cases e
  · rename_i vs kk
    obtain rfl := wb.int
    obtain ⟨p, xs, rfl, ht, rr⟩ := wa.tup
    obtain ⟨y, h1, h2⟩ := atI_of rr e
    exact ix_tup value slice pins s σ H _ _ v u Q I rx ry ⟨p, xs, kk, y, rfl, rfl, ht.sq, h1, k H y .refl R (.v h2)⟩ hs
  · rename_i vs kk
    obtain rfl := wb.int
    obtain ⟨p, xs, rfl, ht, rr⟩ := wa.tuqT
    obtain ⟨y, h1, h2⟩ := atI_of rr e
    exact ix_tup value slice pins s σ H _ _ v u Q I rx ry ⟨p, xs, kk, y, rfl, rfl, ht.sq, h1, k H y .refl R (.v h2)⟩ hs
  · rename_i vs kk
    obtain rfl := wb.int
    obtain ⟨p, xs, rfl, hl, rr⟩ := list_of (vs := vs) R wa rfl
    obtain ⟨y, h1, h2⟩ := atI_of rr e
    exact ix_list value slice pins s σ H _ _ v u Q I rx ry ⟨p, xs, kk, y, rfl, rfl, hl, h1, k H y .refl R (.v h2)⟩ hs
  · cases e
/-- a slice by values -/
def rSl (K : PySem.W.Frag) : V → Option Int → Option Int → Hp → VK → Prop := fun x lo hi H Q => ∃ ρ H0 h v r, HRel K ρ h H ∧ WRel K ρ H0 H v x ∧ Sc.cutV v lo hi h = some r ∧ ∀ H' z, Ext ρ H ρ H' → HRel K ρ h H' → WRel K ρ H H' r z → Q z H'
theorem cut_rel {K : PySem.W.Frag} {ρ : List Addr} {H : Hp} {vs : List Val} {xs : List V} (r : VRels K ρ H vs xs) (lo hi : Option Int) : VRels K ρ H (cut vs lo hi) (L2.cutV xs lo hi) := by
  unfold cut L2.cutV
  rw [r.length]
  exact (r.drop _).take _
theorem sl_ev : SlR X (rSl X.K) := by
  intro pins s σ H x v vl vu lo hi sl Q I rx hs pl pu q
  obtain ⟨ρ, H0, h, a, r, R, wa, e, k⟩ := q
  have tup : ∀ {vs : List Val}, (∃ p xs, x = .ref p ∧ TupAt X.K H p xs ∧ VRels X.K ρ H vs xs) → r = .tup (cut vs lo hi) → rSlA X.K x lo hi H Q := by
    rintro vs ⟨p, xs, rfl, ht, rr⟩ rfl
    refine ⟨p, xs, rfl, ht.sq, fun hw => k H _ .refl R (.v (.tup ht ?_)), fun _ => new_tup R (cut_rel rr lo hi) k⟩
    have : cut vs lo hi = vs := by
      unfold cut
      rw [rr.length, hw.1, hw.2]
      simp only [List.drop_zero, Nat.sub_zero]
      rw [← rr.length, List.take_length]
    rw [this]
    exact rr
  unfold Sc.cutV at e
  split at e
  · obtain rfl := wa.str
    split at e
    · rename_i hz
      cases e
      exact sl_str pins s σ H _ v vl vu lo hi sl Q I rx hs pl pu ⟨_, rfl, hz, stay_str R k⟩
    · cases e
  · cases e
    exact sl_tupA pins s σ H _ v vl vu lo hi sl Q I rx hs pl pu (tup wa.tup rfl)
  · cases e
    exact sl_tupA pins s σ H _ v vl vu lo hi sl Q I rx hs pl pu (tup wa.tuqT rfl)
  · cases z : listOf h a with
    | none => rw [z] at e; cases e
    | some vs =>
      rw [z] at e
      cases e
      obtain ⟨p, xs, rfl, hl, rr⟩ := list_of R wa z
      exact sl_list pins s σ H _ v vl vu lo hi sl Q I rx hs pl pu ⟨p, xs, rfl, hl, new_list R (cut_rel rr lo hi) k⟩

/-! ### built-in functions -/
def rEvs (K : PySem.W.Frag) (f : List Val → Heap → Option Val) : List V → Hp → VK → Prop := fun xs H Q => ∃ ρ H0 h vs r, HRel K ρ h H ∧ WRels K ρ H0 H vs xs ∧ f vs h = some r ∧ ∀ H' z, Ext ρ H ρ H' → HRel K ρ h H' → WRel K ρ H H' r z → Q z H'
theorem WRels.one {K : PySem.W.Frag} {ρ : List Addr} {H0 H : Hp} {v : Val} {xs : List V} (w : WRels K ρ H0 H [v] xs) : ∃ x, xs = [x] ∧ WRel K ρ H0 H v x := by
  cases w with | cons q r => cases r; exact ⟨_, rfl, q⟩
theorem WRels.two {K : PySem.W.Frag} {ρ : List Addr} {H0 H : Hp} {v u : Val} {xs : List V} (w : WRels K ρ H0 H [v, u] xs) : ∃ x y, xs = [x, y] ∧ WRel K ρ H0 H v x ∧ WRel K ρ H0 H u y := by
  cases w with | cons q r => cases r with | cons q2 r => cases r; exact ⟨_, _, rfl, q, q2⟩
theorem WRels.zero {K : PySem.W.Frag} {ρ : List Addr} {H0 H : Hp} {xs : List V} (w : WRels K ρ H0 H [] xs) : xs = [] := by cases w; rfl
theorem ints_rel {K : PySem.W.Frag} {ρ : List Addr} {H : Hp} : ∀ {vs : List Val} {xs : List V} {ns : List Int}, VRels K ρ H vs xs → allInts vs = some ns → xs = ns.map V.int
  | [], _, _, r, e => by cases r; cases e; rfl
  | v :: vs, _, ns, .cons q r, e => by
    cases v with
    | int i =>
      have e : (allInts vs).map (i :: ·) = some ns := e
      cases z : allInts vs with
      | none => rw [z] at e; cases e
      | some ms => rw [z] at e; cases e; cases q; rw [ints_rel r z]; rfl
    | _ => cases e
theorem bls_rel {K : PySem.W.Frag} {ρ : List Addr} {H : Hp} : ∀ {vs : List Val} {xs : List V} {ns : List Bool}, VRels K ρ H vs xs → allBls vs = some ns → xs = ns.map V.bl
  | [], _, _, r, e => by cases r; cases e; rfl
  | v :: vs, _, ns, .cons q r, e => by
    cases v with
    | bl i =>
      have e : (allBls vs).map (i :: ·) = some ns := e
      cases z : allBls vs with
      | none => rw [z] at e; cases e
      | some ms => rw [z] at e; cases e; cases q; rw [bls_rel r z]; rfl
    | _ => cases e
theorem strs_rel {K : PySem.W.Frag} {ρ : List Addr} {H : Hp} : ∀ {vs : List Val} {xs : List V} {ns : List Str}, VRels K ρ H vs xs → allStrs vs = some ns → xs = ns.map V.str
  | [], _, _, r, e => by cases r; cases e; rfl
  | v :: vs, _, ns, .cons q r, e => by
    cases v with
    | str i =>
      have e : (allStrs vs).map (i :: ·) = some ns := e
      cases z : allStrs vs with
      | none => rw [z] at e; cases e
      | some ms => rw [z] at e; cases e; cases q; rw [strs_rel r z]; rfl
    | _ => cases e
theorem fold_max : ∀ (r : List Int) (i : Int), i ≤ r.foldl max i ∧ (∀ y ∈ r, y ≤ r.foldl max i) ∧ (r.foldl max i = i ∨ r.foldl max i ∈ r)
  | [], i => ⟨Int.le_refl i, (fun y hy => nomatch hy), .inl rfl⟩
  | a :: r, i => by
    obtain ⟨h1, h2, h3⟩ := fold_max r (max i a)
    rw [List.foldl_cons]
    refine ⟨by omega, fun y hy => ?_, ?_⟩
    · rcases List.mem_cons.mp hy with rfl | hy
      · omega
      · exact h2 y hy
    · rcases h3 with h3 | h3
      · rw [h3]
        by_cases z : i ≤ a
        · rw [Int.max_eq_right z]; exact .inr List.mem_cons_self
        · rw [Int.max_eq_left (by omega)]; exact .inl rfl
      · exact .inr (List.mem_cons_of_mem _ h3)
theorem fold_min : ∀ (r : List Int) (i : Int), r.foldl min i ≤ i ∧ (∀ y ∈ r, r.foldl min i ≤ y) ∧ (r.foldl min i = i ∨ r.foldl min i ∈ r)
  | [], i => ⟨Int.le_refl i, (fun y hy => nomatch hy), .inl rfl⟩
  | a :: r, i => by
    obtain ⟨h1, h2, h3⟩ := fold_min r (min i a)
    rw [List.foldl_cons]
    refine ⟨by omega, fun y hy => ?_, ?_⟩
    · rcases List.mem_cons.mp hy with rfl | hy
      · omega
      · exact h2 y hy
    · rcases h3 with h3 | h3
      · rw [h3]
        by_cases z : a ≤ i
        · rw [Int.min_eq_right z]; exact .inr List.mem_cons_self
        · rw [Int.min_eq_left (by omega)]; exact .inl rfl
      · exact .inr (List.mem_cons_of_mem _ h3)
theorem dct_of {K : PySem.W.Frag} {ρ : List Addr} {H0 H : Hp} {h : Heap} {v : Val} {x : V} {kvs : List (Val × Val)} (R : HRel K ρ h H) (w : WRel K ρ H0 H v x) (e : dctOf h v = some kvs) : ∃ a kvs', x = .ref a ∧ H a = some (.dK kvs') ∧ KRels K ρ H kvs kvs' := by
  unfold dctOf at e
  split at e
  · split at e
    · rename_i n us hn
      cases e
      obtain ⟨a, rfl, hr⟩ := w.loc
      obtain ⟨kvs', e1, rr⟩ := R.obj _ _ a hn hr
      exact ⟨a, kvs', rfl, e1, rr⟩
    · cases e
  · cases e
/-- a built-in of one argument, by what it says of values -/
theorem cr_b1 {f : Value} {g : Val → Heap → Option Val} (c : ∀ (pins : List (Addr × PySem.Obj)) (s : Shared) (σ : L2.St) (H : Hp) (x : V) (us : List Value) (Q : VK), L2.Inv X pins σ H s → Vals [x] us →
    ∀ ρ H0 h v r, HRel X.K ρ h H → WRel X.K ρ H0 H v x → g v h = some r → (∀ H' z, Ext ρ H ρ H' → HRel X.K ρ h H' → WRel X.K ρ H H' r z → Q z H') → wpAny (model X.prog X.w) X.A (call f us) (EP X pins σ Q) X.xe s) : CallR X f (rEvs X.K (b1 g)) := by
  intro pins s σ H xs us Q I rs q
  obtain ⟨ρ, H0, h, vs, r, R, w, e, k⟩ := q
  unfold b1 at e
  split at e
  · obtain ⟨x, rfl, w1⟩ := w.one
    exact c pins s σ H x us Q I rs ρ H0 h _ r R w1 e k
  · cases e
theorem cr_len : CallR X (.builtin "len") (rEvs X.K (b1 bLen)) := cr_b1 fun pins s σ H x us Q I rs ρ H0 h v r R w e k => by
  unfold bLen at e
  split at e
  · rename_i ys es
    cases e
    obtain ⟨a, zs, rfl, hs, rr⟩ := seq_of R w es
    refine call_len pins s σ H _ us Q I rs ⟨_, zs.length, rfl, ?_, ?_⟩
    · rcases hs with hs | hs
      · exact .inl ⟨zs, hs, rfl⟩
      · exact .inr ⟨zs, hs, rfl⟩
    · rw [← rr.length]; exact stay_int R k
  · split at e
    · rename_i kvs hn
      cases e
      obtain ⟨a, kvs', rfl, e1, rr⟩ := dct_of R w hn
      obtain ⟨u, rfl, rx⟩ := vals1 rs
      cases rx
      refine d_len I (.inl e1) fun t s' I' => ⟨.int kvs'.length, H, I', ⟨_, rfl⟩, ?_⟩
      rw [← Paired.length rr]
      exact stay_int R k
    · split at e
      · split at e
        · rename_i hz
          cases e
          obtain rfl := w.str
          exact call_len pins s σ H _ us Q I rs ⟨_, _, rfl, ⟨hz, rfl⟩, stay_int R k⟩
        · cases e
      · exact w.no_ts.elim
      · cases e
theorem cr_abs : CallR X (.builtin "abs") (rEvs X.K (b1 bAbs)) := cr_b1 fun pins s σ H x us Q I rs ρ H0 h v r R w e k => by
  unfold bAbs at e
  split at e
  · cases e; obtain rfl := w.int
    exact call_abs pins s σ H _ us Q I rs ⟨_, rfl, stay_int R k⟩
  · cases e
theorem cr_int : CallR X (.type "int") (rEvs X.K (b1 bInt)) := cr_b1 fun pins s σ H x us Q I rs ρ H0 h v r R w e k => by
  unfold bInt at e
  split at e
  · cases e; obtain rfl := w.int
    exact call_int1 pins s σ H _ us Q I rs (.inl ⟨_, rfl, stay_int R k⟩)
  · cases e; obtain rfl := w.bl
    exact call_int1 pins s σ H _ us Q I rs (.inr ⟨_, rfl, stay_int R k⟩)
  · cases e
theorem ints_of {K : PySem.W.Frag} {ρ : List Addr} {H0 H : Hp} {h : Heap} {v : Val} {x : V} {ns : List Int} (R : HRel K ρ h H) (w : WRel K ρ H0 H v x) (e : (listOf h v).bind allInts = some ns) : ∃ a, x = .ref a ∧ SqL K H a (ns.map V.int) := by
  cases z : listOf h v with
  | none => rw [z] at e; cases e
  | some vs =>
    rw [z] at e
    obtain ⟨a, xs, rfl, hs, rr⟩ := list_of R w z
    rw [ints_rel rr e] at hs
    exact ⟨a, rfl, hs⟩
theorem bls_of {K : PySem.W.Frag} {ρ : List Addr} {H0 H : Hp} {h : Heap} {v : Val} {x : V} {ns : List Bool} (R : HRel K ρ h H) (w : WRel K ρ H0 H v x) (e : (listOf h v).bind allBls = some ns) : ∃ a, x = .ref a ∧ SqL K H a (ns.map V.bl) := by
  cases z : listOf h v with
  | none => rw [z] at e; cases e
  | some vs =>
    rw [z] at e
    obtain ⟨a, xs, rfl, hs, rr⟩ := list_of R w z
    rw [bls_rel rr e] at hs
    exact ⟨a, rfl, hs⟩
theorem map_some {α β : Type} {o : Option α} {f : α → β} {b : β} (e : o.map f = some b) : ∃ a, o = some a ∧ f a = b := by
  cases o with
  | none => cases e
  | some a => exact ⟨a, rfl, Option.some.inj e⟩
theorem cr_sumE (hc : X.calm = true) : CallR X (.builtin "sum") (rEvs X.K (b1 bSum)) := cr_b1 fun pins s σ H x us Q I rs ρ H0 h v r R w e k => by
  obtain ⟨ns, e1, rfl⟩ := map_some e
  obtain ⟨a, rfl, hs⟩ := ints_of R w e1
  exact L2.cr_sum hc pins s σ H _ us Q I rs ⟨a, ns, rfl, hs, stay_int R k⟩
theorem cr_anyE (hc : X.calm = true) : CallR X (.builtin "any") (rEvs X.K (b1 bAny)) := cr_b1 fun pins s σ H x us Q I rs ρ H0 h v r R w e k => by
  obtain ⟨ns, e1, rfl⟩ := map_some e
  obtain ⟨a, rfl, hs⟩ := bls_of R w e1
  exact L2.cr_any hc pins s σ H _ us Q I rs ⟨a, ns, rfl, hs, k H _ .refl R (.v (.bl _))⟩
theorem cr_allE (hc : X.calm = true) : CallR X (.builtin "all") (rEvs X.K (b1 bAll)) := cr_b1 fun pins s σ H x us Q I rs ρ H0 h v r R w e k => by
  obtain ⟨ns, e1, rfl⟩ := map_some e
  obtain ⟨a, rfl, hs⟩ := bls_of R w e1
  exact L2.cr_all hc pins s σ H _ us Q I rs ⟨a, ns, rfl, hs, k H _ .refl R (.v (.bl _))⟩
theorem cr_maxE (hc : X.calm = true) : CallR X (.builtin "max") (rEvs X.K bMax2) := by
  intro pins s σ H xs us Q I rs q
  obtain ⟨ρ, H0, h, vs, r, R, w, e, k⟩ := q
  unfold bMax2 at e
  split at e
  · cases e
    obtain ⟨x, y, rfl, w1, w2⟩ := w.two
    obtain rfl := w1.int; obtain rfl := w2.int
    exact call_max2 hc pins s σ H _ us Q I rs ⟨_, _, rfl, stay_int R k⟩
  · refine (cr_b1 (f := .builtin "max") (g := bMax) fun pins s σ H x us Q I rs ρ H0 h v r R w e k => ?_) pins s σ H xs us Q I rs ⟨ρ, H0, h, vs, r, R, w, e, k⟩
    unfold bMax at e
    split at e
    · rename_i i l e1
      cases e
      obtain ⟨a, rfl, hs⟩ := ints_of R w e1
      refine L2.cr_max hc pins s σ H _ us Q I rs ⟨a, i :: l, rfl, hs, Nat.succ_pos _, fun m h1 h2 => ?_⟩
      obtain ⟨q1, q2, q3⟩ := fold_max l i
      have e2 : m = l.foldl max i := by
        have a1 : l.foldl max i ≤ m := by
          rcases q3 with q3 | q3
          · rw [q3]; exact h2 i List.mem_cons_self
          · exact h2 _ (List.mem_cons_of_mem _ q3)
        rcases List.mem_cons.mp h1 with rfl | h1
        · omega
        · have := q2 m h1; omega
      rw [e2]
      exact stay_int R k
    · cases e
theorem cr_minE (hc : X.calm = true) : CallR X (.builtin "min") (rEvs X.K bMin2) := by
  intro pins s σ H xs us Q I rs q
  obtain ⟨ρ, H0, h, vs, r, R, w, e, k⟩ := q
  unfold bMin2 at e
  split at e
  · cases e
    obtain ⟨x, y, rfl, w1, w2⟩ := w.two
    obtain rfl := w1.int; obtain rfl := w2.int
    exact call_min2 hc pins s σ H _ us Q I rs ⟨_, _, rfl, stay_int R k⟩
  · refine (cr_b1 (f := .builtin "min") (g := bMin) fun pins s σ H x us Q I rs ρ H0 h v r R w e k => ?_) pins s σ H xs us Q I rs ⟨ρ, H0, h, vs, r, R, w, e, k⟩
    unfold bMin at e
    split at e
    · rename_i i l e1
      cases e
      obtain ⟨a, rfl, hs⟩ := ints_of R w e1
      refine L2.cr_min hc pins s σ H _ us Q I rs ⟨a, i :: l, rfl, hs, Nat.succ_pos _, fun m h1 h2 => ?_⟩
      obtain ⟨q1, q2, q3⟩ := fold_min l i
      have e2 : m = l.foldl min i := by
        have a1 : m ≤ l.foldl min i := by
          rcases q3 with q3 | q3
          · rw [q3]; exact h2 i List.mem_cons_self
          · exact h2 _ (List.mem_cons_of_mem _ q3)
        rcases List.mem_cons.mp h1 with rfl | h1
        · omega
        · have := q2 m h1; omega
      rw [e2]
      exact stay_int R k
    · cases e
theorem cr_list (hc : X.calm = true) : CallR X (.type "list") (rEvs X.K (b1 bList)) := cr_b1 fun pins s σ H x us Q I rs ρ H0 h v r R w e k => by
  unfold bList at e
  split at e
  · rename_i ys es
    cases e
    obtain ⟨a, zs, rfl, hs, rr⟩ := seq_of R w es
    exact call_list_of pins s σ H _ us Q I rs ⟨a, zs, rfl, hs, new_list R rr k⟩
  · obtain ⟨kvs, e1, rfl⟩ := map_some e
    obtain ⟨a, kvs', rfl, e2, rr⟩ := dct_of R w e1
    refine call_listD hc pins s σ H _ us Q I rs ⟨a, kvs', rfl, .inl e2, new_list R ?_ k⟩
    clear e1 e2 e k
    induction rr with
    | nil => exact .nil
    | cons q r ih =>
      rename_i p q' l1 l2
      refine .cons ?_ ih
      have e := q.1
      cases hp : p.1 with
      | int i => (show VRel X.K ρ H p.1 (kV q'.1)); rw [hp] at e ⊢; rw [← Option.some.inj e]; exact .int i
      | str i => (show VRel X.K ρ H p.1 (kV q'.1)); rw [hp] at e ⊢; rw [← Option.some.inj e]; exact .str i
      | _ => rw [hp] at e; cases e
end
end Sc
end
section
set_option Elab.async false
set_option linter.all false
set_option maxRecDepth 100000
set_option maxHeartbeats 4000000
set_option autoImplicit false
/-! tuple(..), sorted(..), methods of the built-in kinds. -/
namespace Sc
open PySem PySem.Spec PyProof.Rows L2

section
variable {X : L2.Cx}
theorem new_tuq {ρ : List Addr} {H : Hp} {h : Heap} {Q : V → Hp → Prop} {vs : List Val} {xs : List V} {o : PySem.Obj} (hd : o.dict = none) (hc : o.cls = .type "tuple") (R : HRel X.K ρ h H) (r : VRels X.K ρ H vs xs) (k : ∀ H' z, Ext ρ H ρ H' → HRel X.K ρ h H' → WRel X.K ρ H H' (.tuq vs) z → Q z H') : ∀ p, H p = none → Q (.ref p) (upd H p (.frz o (.tup xs))) := fun p hp =>
  k _ _ (.new hp) (R.new hp) (.v (.tuq hd hc upd_same (r.later R (.new hp))))
theorem cr_tuple : CallR X (.type "tuple") (rEvs X.K (b1 bTuple)) := cr_b1 fun pins s σ H x us Q I rs ρ H0 h v r R w e k => by
  unfold bTuple at e
  split at e
  · rename_i vs es
    cases e
    obtain ⟨a, xs, rfl, hq, rr⟩ := list_of R w es
    obtain ⟨u, rfl, rx⟩ := vals1 rs
    cases rx
    obtain ⟨its, r', pl, hz⟩ := I.list hq
    have hlen := r'.length
    refine call_tuple_list pl.isList (fun h' kp => ?_) (by simp only [List.size_toArray] <;> omega)
    have I1 : L2.Inv X pins σ H { s with heap := h' } := I.kept (t' := s.toks) kp
    have hg := Heap.get?_push_size h' (o := { cls := .type "tuple", data := .seq its.toArray }) rfl
    have I2 : L2.Inv X pins σ (upd H h'.objs.size (.frz { cls := .type "tuple", data := .seq its.toArray } (.tup xs))) { s with heap := h'.push { cls := .type "tuple", data := .seq its.toArray } } :=
      I1.laid (t' := s.toks) (fun b o e => Heap.get?_push_of_some _ e) (Nat.le_refl _) (show ObjOk X.prog X.w _ _ _ (.frz _ (.tup xs)) from ⟨hg, hz, its, r', IsTup.new _ _⟩)
    exact ⟨.ref h'.objs.size, _, I2, rfl, new_tuq rfl rfl R rr k _ (I1.hok.fresh (Nat.le_refl _))⟩
  · split at e
    · cases e
      obtain ⟨a, xs, rfl, ht, rr⟩ := w.tup
      exact call_tupleT pins s σ H _ us Q I rs ⟨a, xs, rfl, ht.sq, k H _ .refl R (.v (.tup ht rr))⟩
    · cases e
      obtain ⟨a, o, xs, rfl, hd, hc, ht, rr⟩ := w.tuq
      exact call_tupleT pins s σ H _ us Q I rs ⟨a, xs, rfl, .inl (.inr ⟨o, ht⟩), k H _ .refl R (.v (.tuq hd hc ht rr))⟩
    · cases e

/-! ### sorted -/
theorem each_zip {s : Shared} {K : PySem.W.Frag} {ρ : List Addr} {H : Hp} : ∀ {vs : List Val} {xs : List V} {us : List Value} {ds : List PyData}, VRels K ρ H vs xs → Vals xs us → vs.length = ds.length → (∀ (i : Nat) (d : PyData) (u : Value), ds[i]? = some d → us[i]? = some u → ∃ as, Reads s.heap u d as) →
    PySem.W.EachIs (fun (v : Value) (b : Val × PyData) => ∃ x, VRel K ρ H b.1 x ∧ RelV x v) us (vs.zip ds) ∧ PySem.W.EachIs (fun (v : Value) (b : Val × PyData) => ∃ as, Reads s.heap v b.2 as) us (vs.zip ds)
  | _, _, _, [], .nil, .nil, _, _ => ⟨.nil, .nil⟩
  | _, _, _, [], .cons _ _, _, e, _ => by simp at e
  | _, _, _, _ :: _, .nil, _, e, _ => by simp at e
  | _, _, _, d :: ds, .cons q r, .cons q2 r2, e, f => by
    obtain ⟨i1, i2⟩ := each_zip r r2 (by simpa using e) (fun i d u e1 e2 => f (i + 1) d u (by simpa using e1) (by simpa using e2))
    exact ⟨.cons ⟨_, q, q2⟩ i1, .cons (f 0 _ _ rfl rfl) i2⟩
theorem each_back {K : PySem.W.Frag} {ρ : List Addr} {H : Hp} : ∀ {us : List Value} {bs : List (Val × PyData)}, PySem.W.EachIs (fun (v : Value) (b : Val × PyData) => ∃ x, VRel K ρ H b.1 x ∧ RelV x v) us bs → ∃ xs, VRels K ρ H (bs.map Prod.fst) xs ∧ Vals xs us
  | _, _, .nil => ⟨[], .nil, .nil⟩
  | _, _, .cons ⟨x, q, r⟩ t => by
    obtain ⟨xs, h1, h2⟩ := each_back t
    exact ⟨x :: xs, .cons q h1, .cons r h2⟩
theorem zip_snd : ∀ (vs : List Val) (ds : List PyData), vs.length = ds.length → (vs.zip ds).map Prod.snd = ds
  | [], [], _ => rfl
  | _ :: vs, d :: ds, e => by
    show d :: (vs.zip ds).map Prod.snd = d :: ds
    rw [zip_snd vs ds (by simpa using e)]
  | [], _ :: _, e => by simp at e
  | _ :: _, [], e => by simp at e
theorem dp_reads {X : L2.Cx} {pins : List (Addr × PySem.Obj)} {σ : L2.St} {H : Hp} {s : Shared} {ρ : List Addr} {h : Heap} (I : L2.Inv X pins σ H s) (R : HRel X.K ρ h H) (n : Nat) : ∀ {vs : List Val} {xs : List V} {us : List Value} {ds : List PyData}, VRels X.K ρ H vs xs → Vals xs us → optAll (toPy h n) vs = some ds → ∀ (i : Nat) (d : PyData) (u : Value), ds[i]? = some d → us[i]? = some u → ∃ as, Reads s.heap u d as := by
  intro vs
  induction vs with
  | nil => intro xs us ds r rv e i d u e1 e2; cases e; simp at e1
  | cons v vs ih =>
    intro xs us ds r rv e i d u e1 e2
    unfold optAll at e
    split at e
    · rename_i b bs h1 h2
      cases e
      cases r with
      | cons q r =>
        cases rv with
        | cons qv rv =>
          cases i with
          | zero =>
            simp at e1 e2
            subst e1 e2
            exact Dp.reads I _ _ _ (dp_stored R n q h1) qv
          | succ i => exact ih r rv h2 i d u (by simpa using e1) (by simpa using e2)
    · cases e
theorem sortable_ok {ds : List PyData} (e : sortable ds = true) : PySem.W.Sortable ds := by
  unfold sortable at e
  rcases Bool.or_eq_true_iff.mp e with e | e
  · refine .inl fun d hd => ?_
    have := List.all_eq_true.mp e d hd
    split at this
    · exact ⟨_, _, rfl⟩
    · cases this
  · refine .inr fun d hd => ?_
    have := List.all_eq_true.mp e d hd
    split at this
    · cases this
    · cases this
    · rename_i h1 h2
      exact ⟨h1, fun xs z => h2 xs z⟩
theorem alike_ok {ds : List PyData} (e : (ds.all fun d => ds.all fun e => PySem.W.alike d e) = true) : PySem.W.AllAlike ds := fun d hd d' hd' => List.all_eq_true.mp (List.all_eq_true.mp e d hd) d' hd'
theorem depth_mem {d : PyData} : ∀ {ds : List PyData}, d ∈ ds → d.depth ≤ PyData.depthAll ds
  | [], h => nomatch h
  | e :: ds, h => by
    simp only [PyData.depthAll]
    rcases List.mem_cons.mp h with z | z
    · rw [z]; omega
    · have := depth_mem z; omega
/-- sorted(a list) -/
theorem sorted_list {pins : List (Addr × PySem.Obj)} {s : Shared} {σ : L2.St} {H : Hp} {us : List Value} {Q : V → Hp → Prop} {ρ : List Addr} {h : Heap} {a : Addr} {xs : List V} {vs out : List Val} (hu : X.A.units + 64 < cLine) (I : L2.Inv X pins σ H s) (rs : Vals [.ref a] us) (R : HRel X.K ρ h H) (hq : SqL X.K H a xs) (rr : VRels X.K ρ H vs xs)
    (e : sortV h vs = some out) (k : ∀ H' z, Ext ρ H ρ H' → HRel X.K ρ h H' → WRel X.K ρ H H' (.tl out) z → Q z H') : wpAny (model X.prog X.w) X.A (call (.builtin "sorted") us) (EP X pins σ Q) X.xe s := by
  obtain ⟨u, rfl, rx⟩ := vals1 rs
  cases rx
  unfold sortV at e
  split at e
  · rename_i ds hds
    split at e
    · rename_i hc
      cases e
      simp only [Bool.and_eq_true, decide_eq_true_eq] at hc
      obtain ⟨⟨c1, c2⟩, c3⟩ := hc
      obtain ⟨its, r', pl, hz⟩ := I.list hq
      have hl := (optAll_get hds).1
      obtain ⟨e1, e2⟩ := each_zip rr r' hl (dp_reads I R 9 rr r' hds)
      obtain ⟨p1, p2⟩ := plain_all hds
      refine PySem.W.sorted_data (enc := Prod.snd) pl.isList e1 e2 (by rw [zip_snd vs ds hl]; exact alike_ok c1) (by rw [zip_snd vs ds hl]; exact sortable_ok c2) (by rw [List.length_zip]; exact Nat.le_trans (Nat.min_le_left _ _) c3) (fun b hb => ?_) fun o2 ho eo => ?_
      · have hm : b.2 ∈ ds := (List.of_mem_zip (a := b.1) (b := b.2) hb).2
        have hd := depth_mem hm
        omega
      · obtain ⟨ys, h1, h2⟩ := each_back eo
        obtain ⟨c, hat⟩ := sortedAll_at s.heap its o2.toArray
        have hz2 : ys.length ≤ sizeLine := by
          rw [h2.length, ho, List.length_zip]
          exact Nat.le_trans (Nat.min_le_left _ _) c3
        have I1 : L2.Inv X pins σ (upd H (s.heap.objs.size + 1) (.lst ys)) { s with heap := sortedAll s.heap its o2.toArray } :=
          I.laid (t' := s.toks) (fun b o q => sortedAll_old q) (Nat.le_succ _) ⟨hz2, o2, c, h2, hat⟩
        exact ⟨.ref _, _, I1, rfl, new_list R h1 k _ (I.hok.fresh (Nat.le_succ _))⟩
    · cases e
  · cases e
theorem cr_sortedL (hu : X.A.units + 64 < cLine) : CallR X (.builtin "sorted") (rEvs X.K (b1 fun v h => match listOf h v with | some vs => (sortV h vs).map .tl | none => none)) := cr_b1 fun pins s σ H x us Q I rs ρ H0 h v r R w e k => by
  split at e
  · rename_i vs es
    obtain ⟨out, e1, rfl⟩ := map_some e
    obtain ⟨a, xs, rfl, hq, rr⟩ := list_of R w es
    exact sorted_list hu I rs R hq rr e1 k
  · cases e

/-! ### methods -/
/-- a method of a built-in kind by values -/
def rMt (K : PySem.W.Frag) (f : Val → List Val → Heap → Option Val) : V → List V → Hp → VK → Prop := fun x xs H Q => ∃ ρ H0 h v vs r, HRel K ρ h H ∧ WRel K ρ H0 H v x ∧ VRels K ρ H vs xs ∧ f v vs h = some r ∧ ∀ H' z, Ext ρ H ρ H' → HRel K ρ h H' → WRel K ρ H H' r z → Q z H'
theorem VRel.w {K : PySem.W.Frag} {ρ : List Addr} {H0 H : Hp} {v : Val} {x : V} (q : VRel K ρ H v x) : WRel K ρ H0 H v x := .v q
theorem VRels.one {K : PySem.W.Frag} {ρ : List Addr} {H : Hp} {v : Val} {xs : List V} (w : VRels K ρ H [v] xs) : ∃ x, xs = [x] ∧ VRel K ρ H v x := by
  cases w with | cons q r => cases r; exact ⟨_, rfl, q⟩
theorem VRels.two {K : PySem.W.Frag} {ρ : List Addr} {H : Hp} {v u : Val} {xs : List V} (w : VRels K ρ H [v, u] xs) : ∃ x y, xs = [x, y] ∧ VRel K ρ H v x ∧ VRel K ρ H u y := by
  cases w with | cons q r => cases r with | cons q2 r => cases r; exact ⟨_, _, rfl, q, q2⟩
theorem strs_of {K : PySem.W.Frag} {ρ : List Addr} {H0 H : Hp} {h : Heap} {v : Val} {x : V} {ns : List Str} (R : HRel K ρ h H) (w : WRel K ρ H0 H v x) (e : (seqOf h v).bind allStrs = some ns) : ∃ a, x = .ref a ∧ (SqL K H a (ns.map V.str) ∨ SqT K H a (ns.map V.str)) := by
  cases z : seqOf h v with
  | none => rw [z] at e; cases e
  | some vs =>
    rw [z] at e
    obtain ⟨a, xs, rfl, hs, rr⟩ := seq_of R w z
    rw [strs_rel rr e] at hs
    exact ⟨a, rfl, hs⟩
theorem me_join : MtR X "str.join" (rMt X.K mJoin) := by
  intro pins s σ H x xs v us Q I rx rs q
  obtain ⟨ρ, H0, h, w, vs, r, R, wx, ws, e, k⟩ := q
  unfold mJoin at e
  split at e
  · obtain rfl := wx.str
    obtain ⟨y, rfl, wy⟩ := ws.one
    split at e
    · rename_i ys es
      split at e
      · rename_i hz
        cases e
        obtain ⟨a, rfl, hs⟩ := strs_of (H0 := H0) R wy.w es
        exact mt_join pins s σ H _ _ v us Q I rx rs ⟨_, a, ys, rfl, rfl, hs, hz, stay_str R k⟩
      · cases e
    · cases e
  · cases e
theorem strs_rels {K : PySem.W.Frag} {ρ : List Addr} {H : Hp} : ∀ ys : List Str, VRels K ρ H (ys.map Val.str) (ys.map V.str)
  | [] => .nil
  | y :: ys => .cons (.str y) (strs_rels ys)
theorem me_split : MtR X "str.split" (rMt X.K mSplit) := by
  intro pins s σ H x xs v us Q I rx rs q
  obtain ⟨ρ, H0, h, w, vs, r, R, wx, ws, e, k⟩ := q
  unfold mSplit at e
  split at e
  · obtain rfl := wx.str
    obtain ⟨y, rfl, wy⟩ := ws.one
    cases wy
    split at e
    · rename_i hz
      cases e
      exact mt_split pins s σ H _ _ v us Q I rx rs ⟨_, _, rfl, rfl, hz.1, hz.2, new_list R (strs_rels _) k⟩
    · cases e
  · cases e
theorem find_at {α : Type} [BEq α] [LawfulBEq α] {z : α} : ∀ {ys : List α} {j : Nat}, ys.findIdx? (· == z) = some j → ys[j]? = some z ∧ ∀ m, m < j → ys[m]? ≠ some z := by
  intro ys j e
  obtain ⟨h1, h2, h3⟩ := List.findIdx?_eq_some_iff_getElem.mp e
  refine ⟨by rw [List.getElem?_eq_getElem h1, eq_of_beq h2], fun m hm q => ?_⟩
  obtain ⟨h4, h5⟩ := List.getElem?_eq_some_iff.mp q
  exact h3 m hm (by rw [h5]; exact beq_self_eq_true z)
theorem me_indexT : MtR X "tuple.index" (rMt X.K mIndexT) := by
  intro pins s σ H x xs v us Q I rx rs q
  obtain ⟨ρ, H0, h, w, vs, r, R, wx, ws, e, k⟩ := q
  unfold mIndexT at e
  split at e
  · split at e
    · rename_i ys z _ zs ez
      obtain ⟨j, e1, rfl⟩ := map_some e
      obtain ⟨y, rfl, wy⟩ := ws.one
      cases wy
      obtain ⟨a, o, zs', rfl, hd, hc, ht, rr⟩ := wx.tuq
      obtain rfl := strs_rel rr ez
      obtain ⟨q1, q2⟩ := find_at e1
      exact mt_tup_index pins s σ H _ _ v us Q I rx rs ⟨a, zs, z, j, rfl, rfl, .inl (.inr ⟨o, ht⟩), q1, q2, stay_int R k⟩
    · cases e
  · cases e
theorem flat_map {α : Type} (f : α → V) (hf : ∀ a, flatV (f a) = true) (ys : List α) : (ys.map f).all flatV = true := by
  rw [List.all_map]
  exact List.all_eq_true.mpr fun a _ => hf a
theorem me_indexL : MtR X "list.index" (rMt X.K mIndexL) := by
  intro pins s σ H x xs v us Q I rx rs q
  obtain ⟨ρ, H0, h, w, vs, r, R, wx, ws, e, k⟩ := q
  have go : ∀ {α : Type} [BEq α] [LawfulBEq α] (f : α → V) (zs : List α) (z : α) (j : Nat) (a : Addr), (∀ a, flatV (f a) = true) → (∀ a b, eqV (f a) (f b) = (a == b)) → x = .ref a → xs = [f z] → SqL X.K H a (zs.map f) → zs.findIdx? (· == z) = some j → r = .int (j : Int) → wpAny (model X.prog X.w) X.A (call (.builtin "list.index") (v :: us)) (EP X pins σ Q) X.xe s := by
    intro α _ _ f zs z j a f1 f2 ex exs hs ej er
    subst er
    obtain ⟨q1, q2⟩ := find_at ej
    refine mt_index pins s σ H x xs v us Q I rx rs ⟨a, _, f z, j, f z, ex, exs, hs, f1 z, flat_map f f1 zs, by rw [List.getElem?_map, q1]; rfl, by rw [f2]; exact beq_self_eq_true z, fun m z' hm ez => ?_, stay_int R k⟩
    rw [List.getElem?_map] at ez
    cases hz : zs[m]? with
    | none => rw [hz] at ez; cases ez
    | some y =>
      rw [hz] at ez
      cases (Option.some.inj ez : f y = z')
      rw [f2]
      exact beq_eq_false_iff_ne.mpr fun q => q2 m hm (by rw [hz, q])
  unfold mIndexL at e
  split at e
  · split at e
    · rename_i z _ zs ez
      obtain ⟨j, e1, rfl⟩ := map_some e
      obtain ⟨y, rfl, wy⟩ := ws.one
      cases wy
      cases zz : listOf h w with
      | none => rw [zz] at ez; cases ez
      | some ys =>
        rw [zz] at ez
        obtain ⟨a, ws', rfl, hs, rr⟩ := list_of R wx zz
        obtain rfl := strs_rel rr ez
        exact go V.str zs z j a (fun _ => rfl) (fun _ _ => rfl) rfl rfl hs e1 rfl
    · cases e
  · split at e
    · rename_i z _ zs ez
      obtain ⟨j, e1, rfl⟩ := map_some e
      obtain ⟨y, rfl, wy⟩ := ws.one
      cases wy
      cases zz : listOf h w with
      | none => rw [zz] at ez; cases ez
      | some ys =>
        rw [zz] at ez
        obtain ⟨a, ws', rfl, hs, rr⟩ := list_of R wx zz
        obtain rfl := ints_rel rr ez
        exact go V.int zs z j a (fun _ => rfl) (fun _ _ => rfl) rfl rfl hs e1 rfl
    · cases e
  · cases e
theorem me_get (hu : X.A.units + 1 < cLine) : MtR X "dict.get" (rMt X.K mGet) := by
  intro pins s σ H x xs v us Q I rx rs q
  obtain ⟨ρ, H0, h, w, vs, r, R, wx, ws, e, k⟩ := q
  have dd : ∀ {kvs : List (Val × Val)}, dctOf h w = some kvs → ∃ n, w = .loc n ∧ h[n]? = some (.dct kvs) := by
    intro kvs e
    unfold dctOf at e
    split at e
    · split at e
      · rename_i n us hn
        cases e
        exact ⟨_, rfl, hn⟩
      · cases e
    · cases e
  unfold mGet at e
  split at e
  · rename_i kvs kk ed
    split at e
    · rename_i hk
      cases e
      obtain ⟨n, rfl, hn⟩ := dd ed
      obtain ⟨y, rfl, wy⟩ := ws.one
      obtain ⟨a, o, rfl, g, _, q2⟩ := dct_at R hn wx (wy.w (H0 := H0)) hk
      cases rx
      obtain ⟨u, rfl, ru⟩ := vals1 rs
      refine d_get1 hu I g ru fun w' s' I' rw' => ⟨_, H, I', rw', ?_⟩
      cases hl : lookD kvs kk with
      | none => rw [hl] at q2; rw [q2]; rw [hl] at k; exact k H .non .refl R (.v .non)
      | some v' => rw [hl] at q2; obtain ⟨z, rfl, rz⟩ := q2; rw [hl] at k; exact k H z .refl R (.v rz)
    · cases e
  · rename_i kvs kk d ed
    split at e
    · rename_i hk
      cases e
      obtain ⟨n, rfl, hn⟩ := dd ed
      obtain ⟨y, y2, rfl, wy, wd⟩ := ws.two
      obtain ⟨a, o, rfl, g, _, q2⟩ := dct_at R hn wx (wy.w (H0 := H0)) hk
      cases rx
      obtain ⟨u, u2, rfl, ru, ru2⟩ := vals2 rs
      refine d_get2 hu I g ru ru2 fun w' s' I' rw' => ⟨_, H, I', rw', ?_⟩
      cases hl : lookD kvs kk with
      | none => rw [hl] at q2; rw [q2]; rw [hl] at k; exact k H _ .refl R (.v wd)
      | some v' => rw [hl] at q2; obtain ⟨z, rfl, rz⟩ := q2; rw [hl] at k; exact k H z .refl R (.v rz)
    · cases e
  · cases e

/-! ### methods that change -/
/-- a method at values: what it answers, what it leaves -/
def MtE (X : L2.Cx) (E : XK) (id : String) (g : Val → List Val → Heap → Sc.R Val) : Prop :=
  ∀ (pins : List (Addr × PySem.Obj)) (s : Shared) (σ : L2.St) (H : Hp) (x : V) (xs : List V) (u : Value) (us : List Value) (Q : V → Hp → Prop) (ρ : List Addr) (H0 : Hp) (h : Heap) (v : Val) (vs : List Val), L2.Inv X pins σ H s → L2.RelV x u → Vals xs us → HRel X.K ρ h H → WRel X.K ρ H0 H v x → VRels X.K ρ H vs xs →
    Sat (g v vs h) (Post X.K ρ H Q) (XP X.K E ρ H) → wpAny (model X.prog X.w) X.A (call (.builtin id) (u :: us)) (EP X pins σ Q) X.xe s
variable {E : XK}
theorem mt_of {id : String} {g : Val → List Val → Heap → Option Val} (c : MtR X id (rMt X.K g)) : MtE X E id (fun v vs h => ofOpt (g v vs h) h) := by
  intro pins s σ H x xs u us Q ρ H0 h v vs I rx rs R wx ws q
  obtain ⟨r, e, p⟩ := Sat.opt q
  exact c pins s σ H x xs u us Q I rx rs ⟨ρ, H0, h, v, vs, r, R, wx, ws, e, fun H' z e' R' w' => p ρ H' z e' R' w'⟩
/-- the list at a number is written -/
theorem chL_ok {x : V} {v : Val} {ρ : List Addr} {H0 H : Hp} {h : Heap} {f : List Val → Option (Val × List Val)} {P : Val → Heap → Prop} {EE : String → List (String × Val) → Heap → Prop} (R : HRel X.K ρ h H) (w : WRel X.K ρ H0 H v x) (q : Sat (chL v h f) P EE) :
    ∃ n a vs xs r ys, v = .loc n ∧ x = .ref a ∧ ρ[n]? = some a ∧ h[n]? = some (.lst vs) ∧ H a = some (.lst xs) ∧ VRels X.K ρ H vs xs ∧ f vs = some (r, ys) ∧ P r (h.set n (.lst ys)) ∧
      ∀ zs, (∀ H', Ext ρ H ρ H' → VRels X.K ρ H' ys zs) → Ext ρ H ρ (upd H a (.lst zs)) ∧ HRel X.K ρ (h.set n (.lst ys)) (upd H a (.lst zs)) := by
  unfold chL at q
  split at q
  · rename_i n
    split at q
    · rename_i vs hn
      split at q
      · rename_i r ys ef
        obtain ⟨a, rfl, hr⟩ := w.loc
        obtain ⟨xs, e1, rr⟩ := R.obj n _ a hn hr
        refine ⟨n, a, vs, xs, r, ys, rfl, rfl, hr, hn, e1, rr, ef, q, fun zs hz => ⟨.write (List.mem_of_getElem? hr), R.write hr fun H' e' hH' => ⟨zs, hH', hz H' e'⟩⟩⟩
      · exact q.elim
    · exact q.elim
  · exact q.elim
theorem me_append : MtE X E "list.append" bAppend := by
  intro pins s σ H x xs u us Q ρ H0 h v vs I rx rs R wx ws q
  unfold bAppend at q
  split at q
  · rename_i y
    obtain ⟨y', rfl, wy⟩ := ws.one
    obtain ⟨n, a, vs', xs', r, ys, rfl, rfl, hr, hn, e1, rr, ef, p, up⟩ := chL_ok R wx q
    split at ef
    · rename_i hz
      cases ef
      obtain ⟨e2, R2⟩ := up (xs' ++ [y']) fun H' e' => (rr.later R e').append (.cons (wy.later R e') .nil)
      exact mt_append pins s σ H _ _ u us Q I rx rs ⟨a, xs', y', rfl, rfl, e1, by rw [← rr.length]; exact hz, p ρ _ _ e2 R2 (.v .non)⟩
    · cases ef
  · exact q.elim
theorem me_pop : MtE X E "list.pop" bPop := by
  intro pins s σ H x xs u us Q ρ H0 h v vs I rx rs R wx ws q
  unfold bPop at q
  split at q
  · cases ws
    obtain ⟨n, a, vs', xs', r, ys, rfl, rfl, hr, hn, e1, rr, ef, p, up⟩ := chL_ok R wx q
    obtain ⟨y, ey, ef⟩ := map_some ef
    cases ef
    obtain ⟨z, ez, rz⟩ := rr.get ey
    obtain ⟨e2, R2⟩ := up xs'.dropLast fun H' e' => (rr.later R e').dropLast
    exact mt_pop pins s σ H _ _ u us Q I rx rs ⟨a, xs', z, rfl, rfl, e1, by rw [← rr.length]; exact ez, p ρ _ _ e2 R2 (.v (rz.later R e2))⟩
  · rename_i i
    obtain ⟨y', rfl, wy⟩ := ws.one
    cases wy
    obtain ⟨n, a, vs', xs', r, ys, rfl, rfl, hr, hn, e1, rr, ef, p, up⟩ := chL_ok R wx q
    split at ef
    · rename_i hi
      cases hj : seqIndex? i vs'.length with
      | none => rw [hj] at ef; cases ef
      | some j =>
        rw [hj] at ef
        obtain ⟨y, ey, ef⟩ := map_some ef
        cases ef
        obtain ⟨z, ez, rz⟩ := rr.get ey
        obtain ⟨e2, R2⟩ := up (xs'.eraseIdx j) fun H' e' => (rr.later R e').eraseIdx j
        exact mt_popAt pins s σ H _ _ u us Q I rx rs ⟨a, xs', i, j, z, rfl, rfl, e1, hi.1, hi.2, by rw [← rr.length]; exact hj, ez, p ρ _ _ e2 R2 (.v (rz.later R e2))⟩
    · cases ef
  · exact q.elim
theorem me_clearL : MtE X E "list.clear" bClearL := by
  intro pins s σ H x xs u us Q ρ H0 h v vs I rx rs R wx ws q
  unfold bClearL at q
  split at q
  · cases ws
    obtain ⟨n, a, vs', xs', r, ys, rfl, rfl, hr, hn, e1, rr, ef, p, up⟩ := chL_ok R wx q
    cases ef
    obtain ⟨e2, R2⟩ := up [] fun H' e' => .nil
    exact mt_clear pins s σ H _ _ u us Q I rx rs ⟨a, xs', rfl, rfl, e1, p ρ _ _ e2 R2 (.v .non)⟩
  · exact q.elim
theorem me_clearD : MtE X E "dict.clear" bClearD := by
  intro pins s σ H x xs u us Q ρ H0 h v vs I rx rs R wx ws q
  unfold bClearD at q
  split at q
  · rename_i n
    split at q
    · rename_i kvs hn
      cases ws
      obtain ⟨a, rfl, hr⟩ := wx.loc
      obtain ⟨kvs', e1, rr⟩ := R.obj n _ a hn hr
      exact mtd_clear pins s σ H _ _ u us Q I rx rs ⟨a, kvs', rfl, rfl, e1, (show Post X.K ρ H Q .non _ from q) ρ _ _ (.write (List.mem_of_getElem? hr)) (R.write hr fun H' e' hH' => ⟨[], hH', .nil⟩) (.v .non)⟩
    · exact q.elim
  · exact q.elim
theorem mt_all (hu : X.A.units + 65 < cLine) {id : String} (hid : id ∈ ["str.join", "str.split", "tuple.index", "list.index", "dict.get", "list.append", "list.pop", "list.clear", "dict.clear"]) : MtE X E id (methB id) := by
  simp only [List.mem_cons, List.not_mem_nil, or_false] at hid
  rcases hid with rfl | rfl | rfl | rfl | rfl | rfl | rfl | rfl | rfl
  · exact mt_of me_join
  · exact mt_of me_split
  · exact mt_of me_indexT
  · exact mt_of me_indexL
  · exact mt_of (me_get (by omega))
  · exact me_append
  · exact me_pop
  · exact me_clearL
  · exact me_clearD
end
end Sc
end
section
set_option Elab.async false
set_option linter.all false
set_option maxRecDepth 100000
set_option maxHeartbeats 4000000
set_option autoImplicit false
/-! The expressions, one by one. -/
namespace Sc
open PySem PySem.Spec PyProof.Rows L2

abbrev PX (X : L2.Cx) (cx : Sc.Cx) (E : XK) (a : Expr) (ir : Ex) : Prop := PE X a (tE X.K cx E ir)
abbrev PXT (X : L2.Cx) (cx : Sc.Cx) (E : XK) (a : Expr) (ir : Ex) : Prop := PT X a (tT X.K cx E ir)
abbrev PXI (X : L2.Cx) (cx : Sc.Cx) (E : XK) (as : List Expr) (ir : Its) : Prop := PA X as (tI X.K cx E ir)
abbrev PXR (X : L2.Cx) (cx : Sc.Cx) (E : XK) (as : List Expr) (ir : Its) : Prop := PA X as (tR X.K cx E ir)

section
variable {X : L2.Cx} {cx : Sc.Cx} {E : XK} {ρ : List Addr} {H : Hp} {h : Heap} {σ : L2.St} {env : Env} {s : Shared} {pins : List (Addr × PySem.Obj)} {α : Type}

/-! ### running one -/
theorem PX.go {a : Expr} {ir : Ex} (ha : PX X cx E a ir) (I : L2.Inv X pins σ H s) (R : HRel X.K ρ h H) (S : SRel X.K ρ H env σ) {P : Val → Heap → Prop} (q : Sat (evE cx ir env h) P (XP X.K E ρ H)) {G : Value → Shared → Prop}
    (k : ∀ v h1 ρ1 H1 x u s1, P v h1 → L2.Inv X pins σ H1 s1 → L2.RelV x u → Ext ρ H ρ1 H1 → HRel X.K ρ1 h1 H1 → SRel X.K ρ1 H1 env σ → WRel X.K ρ1 H H1 v x → G u s1) : wpAny (model X.prog X.w) X.A (eval a X.env) G X.xe s := by
  refine thn (ha.run pins s σ H (fun x H1 => ∃ v h1 ρ1, P v h1 ∧ Ext ρ H ρ1 H1 ∧ HRel X.K ρ1 h1 H1 ∧ WRel X.K ρ1 H H1 v x) I ⟨ρ, env, h, R, S, q.mono (fun v h1 p ρ1 H1 x e r w => ⟨v, h1, ρ1, p, e, r, w⟩) fun _ _ _ z => z⟩) fun u s1 ⟨x, H1, I1, r1, v, h1, ρ1, p, e, r, w⟩ => ?_
  exact k v h1 ρ1 H1 x u s1 p I1 r1 e r (S.later R e) w
theorem PXT.go {a : Expr} {ir : Ex} (ha : PXT X cx E a ir) (I : L2.Inv X pins σ H s) (R : HRel X.K ρ h H) (S : SRel X.K ρ H env σ) {P : Bool → Heap → Prop} (q : Sat (test cx ir env h) P (XP X.K E ρ H)) {G : Bool → Shared → Prop}
    (k : ∀ b h1 ρ1 H1 s1, P b h1 → L2.Inv X pins σ H1 s1 → Ext ρ H ρ1 H1 → HRel X.K ρ1 h1 H1 → SRel X.K ρ1 H1 env σ → G b s1) : wpAny (model X.prog X.w) X.A (isTrue a X.env (eval a X.env)) G X.xe s := by
  refine thn (ha.run pins s σ H (fun b H1 => ∃ h1 ρ1, P b h1 ∧ Ext ρ H ρ1 H1 ∧ HRel X.K ρ1 h1 H1) I ⟨ρ, env, h, R, S, q.mono (fun b h1 p ρ1 H1 e r => ⟨h1, ρ1, p, e, r⟩) fun _ _ _ z => z⟩) fun b s1 ⟨H1, I1, h1, ρ1, p, e, r⟩ => ?_
  exact k b h1 ρ1 H1 s1 p I1 e r (S.later R e)
theorem PXI.go {as : List Expr} {ir : Its} (ha : PXI X cx E as ir) (pos : Pos) (I : L2.Inv X pins σ H s) (R : HRel X.K ρ h H) (S : SRel X.K ρ H env σ) {P : List Val → Heap → Prop} (q : Sat (evI cx ir env h) P (XP X.K E ρ H)) {G : List Value → Shared → Prop}
    (k : ∀ vs h1 ρ1 H1 xs us s1, P vs h1 → L2.Inv X pins σ H1 s1 → Vals xs us → Ext ρ H ρ1 H1 → HRel X.K ρ1 h1 H1 → SRel X.K ρ1 H1 env σ → VRels X.K ρ1 H1 vs xs → G us s1) : wpAny (model X.prog X.w) X.A (spliced (backTo pos (starEach as X.env))) G X.xe s := by
  refine thn (ha.run pos pins s σ H (fun xs H1 => ∃ vs h1 ρ1, P vs h1 ∧ Ext ρ H ρ1 H1 ∧ HRel X.K ρ1 h1 H1 ∧ VRels X.K ρ1 H1 vs xs) I ⟨ρ, env, h, R, S, q.mono (fun v h1 p ρ1 H1 x e r w => ⟨v, h1, ρ1, p, e, r, w⟩) fun _ _ _ z => z⟩) fun us s1 ⟨xs, H1, I1, r1, vs, h1, ρ1, p, e, r, w⟩ => ?_
  exact k vs h1 ρ1 H1 xs us s1 p I1 r1 e r (S.later R e) w
theorem PXR.go {as : List Expr} {ir : Its} (ha : PXR X cx E as ir) (pos : Pos) (I : L2.Inv X pins σ H s) (R : HRel X.K ρ h H) (S : SRel X.K ρ H env σ) {P : List Val → Heap → Prop} (q : Sat (evR cx ir env h) P (XP X.K E ρ H)) {G : List Value → Shared → Prop}
    (k : ∀ vs h1 ρ1 H1 xs us s1, P vs h1 → L2.Inv X pins σ H1 s1 → Vals xs us → Ext ρ H ρ1 H1 → HRel X.K ρ1 h1 H1 → SRel X.K ρ1 H1 env σ → WRels X.K ρ1 H H1 vs xs → G us s1) : wpAny (model X.prog X.w) X.A (spliced (backTo pos (starEach as X.env))) G X.xe s := by
  refine thn (ha.run pos pins s σ H (fun xs H1 => ∃ vs h1 ρ1, P vs h1 ∧ Ext ρ H ρ1 H1 ∧ HRel X.K ρ1 h1 H1 ∧ WRels X.K ρ1 H H1 vs xs) I ⟨ρ, env, h, R, S, q.mono (fun v h1 p ρ1 H1 x e r w => ⟨v, h1, ρ1, p, e, r, w⟩) fun _ _ _ z => z⟩) fun us s1 ⟨xs, H1, I1, r1, vs, h1, ρ1, p, e, r, w⟩ => ?_
  exact k vs h1 ρ1 H1 xs us s1 p I1 r1 e r (S.later R e) w
/-- from a Post at a later start -/
theorem Post.at {K : PySem.W.Frag} {ρ ρ1 ρ2 : List Addr} {H H1 H2 : Hp} {Q : V → Hp → Prop} {v : Val} {h' : Heap} {x : V} (p : Post K ρ H Q v h') (e : Ext ρ H ρ1 H1) (e2 : Ext ρ1 H1 ρ2 H2) (R : HRel K ρ2 h' H2) (w : WRel K ρ2 H1 H2 v x) : Q x H2 :=
  p ρ2 H2 x (e.trans e2) R (w.back e e2.memL)

/-! ### names, constants -/
theorem px_v {i : Nat} {x : Str} {pos : Pos} (hN : X.N[i]? = some x) (hv : Vis X.env.scope x) (hd : (x == ("__debug__" : Str)) = false) (hcd : (x == ("__classdict__" : Str)) = false) : PX X cx E (.Name x pos) (.v i) := by
  refine ⟨fun pins s σ H Q I q => ?_⟩
  obtain ⟨ρ, env, h, R, S, q⟩ := q
  have q : Sat (match env[i]? with | some (some v) => Sc.R.ok v h | _ => .no) (Post X.K ρ H Q) (XP X.K E ρ H) := q
  split at q
  · rename_i v hv'
    obtain ⟨y, e1, r⟩ := S.var i v hv'
    exact (pe_var hN hv hd hcd).run pins s σ H Q I ⟨y, e1, q ρ H y .refl R (.v r)⟩
  · exact q.elim
/-- a value that every state holds -/
def Konst (K : PySem.W.Frag) (v : Val) (x : V) : Prop := ∀ (ρ : List Addr) (H : Hp), VRel K ρ H v x
theorem px_c {a : Expr} {v : Val} {x : V} (he : PE X a (tC x)) (hk : Konst X.K v x) : PX X cx E a (.con v) := by
  refine ⟨fun pins s σ H Q I q => ?_⟩
  obtain ⟨ρ, env, h, R, S, q⟩ := q
  exact he.run pins s σ H Q I ((show Post X.K ρ H Q v h from q) ρ H x .refl R (.v (hk ρ H)))
theorem px_int {i : Int} {j pos} : PX X cx E (.Constant (.int i) j pos) (.con (.int i)) := px_c pe_int fun _ _ => .int i
theorem px_bl {i : Bool} {j pos} : PX X cx E (.Constant (.bool i) j pos) (.con (.bl i)) := px_c pe_bl fun _ _ => .bl i
theorem px_non {j pos} : PX X cx E (.Constant .none j pos) (.con .non) := px_c pe_non fun _ _ => .non
theorem px_str {i : Str} {j pos} : PX X cx E (.Constant (.str i) j pos) (.con (.str i)) := px_c pe_str fun _ _ => .str i
theorem px_glob {x : Str} {g : String} {v : Val} {y : V} {u : Value} {pos : Pos} (hc : cx.con g = some v) (hg : Gl X x) (hm : X.mg x = some u) (r : L2.RelV y u) (hk : Konst X.K v y) (hd : (x == ("__debug__" : Str)) = false) : PX X cx E (.Name x pos) (.glob g) := by
  refine ⟨fun pins s σ H Q I q => ?_⟩
  obtain ⟨ρ, env, h, R, S, q⟩ := q
  have q : Sat (ofOpt (cx.con g) h) (Post X.K ρ H Q) (XP X.K E ρ H) := q
  rw [hc] at q
  exact (pe_glob hg hm r hd).run pins s σ H Q I ((show Post X.K ρ H Q v h from q) ρ H y .refl R (.v (hk ρ H)))

/-! ### operators -/
/-- two operands -/
theorem two_go {a b : Expr} {ia ib : Ex} (ha : PX X cx E a ia) (hb : PX X cx E b ib) (I : L2.Inv X pins σ H s) (R : HRel X.K ρ h H) (S : SRel X.K ρ H env σ) {P : Val → Val → Heap → Prop} (q : Sat (evE cx ia env h) (fun v h1 => Sat (evE cx ib env h1) (fun w h2 => P v w h2) (XP X.K E ρ H)) (XP X.K E ρ H)) {β : Type} {G : β → Shared → Prop} {f : Value → Value → Sem β}
    (k : ∀ v w h2 ρ2 H2 x y u u' s2, P v w h2 → L2.Inv X pins σ H2 s2 → L2.RelV x u → L2.RelV y u' → Ext ρ H ρ2 H2 → HRel X.K ρ2 h2 H2 → SRel X.K ρ2 H2 env σ → WRel X.K ρ2 H H2 v x → WRel X.K ρ2 H H2 w y → wpAny (model X.prog X.w) X.A (f u u') G X.xe s2) :
    wpAny (model X.prog X.w) X.A (eval a X.env) (fun v s₁ => wpAny (model X.prog X.w) X.A (eval b X.env) (fun u s₂ => wpAny (model X.prog X.w) X.A (f v u) G X.xe s₂) X.xe s₁) X.xe s := by
  refine ha.go I R S q fun v h1 ρ1 H1 x u s1 p I1 r1 e1 R1 S1 w1 => ?_
  refine hb.go I1 R1 S1 (p.mono (fun _ _ z => z) fun _ _ _ z => z.later e1) fun w h2 ρ2 H2 y u' s2 p2 I2 r2 e2 R2 S2 w2 => ?_
  exact k v w h2 ρ2 H2 x y u u' s2 p2 I2 r1 r2 (e1.trans e2) R2 S2 (w1.later R1 e2) (w2.back e1 e2.memL)
/-- what an operator of an own class does -/
def OwnBin (X : L2.Cx) (cx : Sc.Cx) (E : XK) : Prop :=
  ∀ (op : Bop) (m : String) (pins : List (Addr × PySem.Obj)) (s : Shared) (σ : L2.St) (H : Hp) (x y : V) (u u' : Value) (Q : V → Hp → Prop) (ρ : List Addr) (h : Heap) (H0 : Hp) (v w : Val) (C : String) (fs : List (String × Val)), opName op = some m → L2.Inv X pins σ H s → L2.RelV x u → L2.RelV y u' → HRel X.K ρ h H → WRel X.K ρ H0 H v x → WRel X.K ρ H0 H w y → insOf h v = some (C, fs) → kindOf h w = some C →
    Sat (callM cx C m [v, w] h) (Post X.K ρ H Q) (XP X.K E ρ H) → wpAny (model X.prog X.w) X.A (binaryOp (bopE op) u u') (EP X pins σ Q) X.xe s
theorem px_bin {a b : Expr} {ia ib : Ex} {op : Bop} {pos : Pos} (ho : OwnBin X cx E) (ha : PX X cx E a ia) (hb : PX X cx E b ib) : PX X cx E (.BinOp a (bopE op) b pos) (.bin op ia ib) := by
  refine ⟨fun pins s σ H Q I q => ?_⟩
  obtain ⟨ρ, env, h, R, S, q⟩ := q
  refine wpAny_BinOp (two_go ha hb I R S (P := fun x y h2 => Sat (binE cx op x y h2) (Post X.K ρ H Q) (XP X.K E ρ H)) ?_ fun v w h2 ρ2 H2 x y u u' s2 p I2 rx ry e2 R2 S2 w1 w2 => ?_)
  · exact (Sat.unbind q).mono (fun v h1 z => Sat.unbind z) fun _ _ _ z => z
  · unfold binE at p
    split at p
    · rename_i C fs m hi hm
      split at p
      · rename_i hk
        refine ho op m pins s2 σ H2 x y u u' Q ρ2 h2 H v w C fs hm I2 rx ry R2 w1 w2 hi hk (p.mono (fun r h3 z => ?_) fun _ _ _ z => z.later e2)
        exact fun ρ3 H3 x3 e3 R3 w3 => z.at e2 e3 R3 w3
      · exact p.elim
    · exact p.elim
    · obtain ⟨r, e3, z⟩ := Sat.opt p
      exact op_bin pins s2 σ H2 x y u u' Q I2 rx ry ⟨ρ2, H, h2, v, w, r, R2, w1, w2, e3, fun H' z' e4 R4 w4 => z.at e2 e4 R4 w4⟩
theorem px_neg {a : Expr} {ia : Ex} {pos : Pos} (ha : PX X cx E a ia) : PX X cx E (.UnaryOp .USub a pos) (.neg ia) := by
  refine ⟨fun pins s σ H Q I q => ?_⟩
  obtain ⟨ρ, env, h, R, S, q⟩ := q
  refine UnaryOp_ (ha.go I R S (Sat.unbind q) fun v h1 ρ1 H1 x u s1 p I1 rx e1 R1 S1 w1 => ?_)
  split at p
  · obtain rfl := w1.int
    exact un_neg pins s1 σ H1 _ u Q I1 rx ⟨_, rfl, p ρ1 H1 _ e1 R1 (.v (.int _))⟩
  · exact p.elim

/-! ### truth -/
theorem trl_go {P : Bool → Heap → Prop} {EE : String → List (String × Val) → Heap → Prop} {v : Val} {x : V} {u : Value} {H0 : Hp} (I : L2.Inv X pins σ H s) (R : HRel X.K ρ h H) (w : WRel X.K ρ H0 H v x) (rx : L2.RelV x u) (q : Sat (ofOpt (truth h v) h) P EE) {G : Bool → Shared → Prop}
    (k : ∀ b s1, P b h → L2.Inv X pins σ H s1 → G b s1) : wpAny (model X.prog X.w) X.A (truthy u) G X.xe s := by
  obtain ⟨b, e, p⟩ := Sat.opt q
  refine thn (tru_ok pins s σ H x u (fun c H1 => c = b ∧ H1 = H) I rx ⟨b, truV_of R w e, rfl, rfl⟩) fun c s1 ⟨H1, I1, e1, e2⟩ => ?_
  subst e1 e2
  exact k _ s1 p I1
theorem px_not {a : Expr} {ia : Ex} {pos : Pos} (ha : PX X cx E a ia) : PX X cx E (.UnaryOp .Not a pos) (.not ia) := by
  refine ⟨fun pins s σ H Q I q => ?_⟩
  obtain ⟨ρ, env, h, R, S, q⟩ := q
  refine UnaryOp_ (ha.go I R S (Sat.unbind q) fun v h1 ρ1 H1 x u s1 p I1 rx e1 R1 S1 w1 => ?_)
  obtain ⟨r, e, p⟩ := Sat.opt p
  obtain ⟨b, eb, rfl⟩ := map_some e
  exact not_of (trl_go (P := fun c _ => c = b) (EE := fun _ _ _ => False) I1 R1 w1 rx (by rw [eb]; exact rfl) fun c s2 ec I2 => by subst ec; exact ⟨.bl (!c), H1, I2, rfl, p ρ1 H1 _ e1 R1 (.v (.bl _))⟩)
theorem px_and {a b : Expr} {rest : List Expr} {ia ib : Ex} {pos : Pos} (ha : PX X cx E a ia) (hb : PX X cx E (.BoolOp .And (b :: rest) pos) ib) : PX X cx E (.BoolOp .And (a :: b :: rest) pos) (.and ia ib) := by
  refine ⟨fun pins s σ H Q I q => ?_⟩
  obtain ⟨ρ, env, h, R, S, q⟩ := q
  refine BoolOp_and (ha.go I R S (Sat.unbind q) fun v h1 ρ1 H1 x u s1 p I1 rx e1 R1 S1 w1 => ?_)
  refine trl_go I1 R1 w1 rx (Sat.unbind p) fun c s2 p I2 => ?_
  cases c with
  | true => exact hb.go I2 R1 S1 (p.mono (fun _ _ z => z) fun _ _ _ z => z.later e1) fun w h2 ρ2 H2 y u' s3 p2 I3 r2 e2 R2 S2 w2 => ⟨y, H2, I3, r2, p2.at e1 e2 R2 w2⟩
  | false => exact ⟨x, H1, I2, rx, (show Post X.K ρ H Q v h1 from p) ρ1 H1 x e1 R1 w1⟩
theorem px_or {a b : Expr} {rest : List Expr} {ia ib : Ex} {pos : Pos} (ha : PX X cx E a ia) (hb : PX X cx E (.BoolOp .Or (b :: rest) pos) ib) : PX X cx E (.BoolOp .Or (a :: b :: rest) pos) (.or ia ib) := by
  refine ⟨fun pins s σ H Q I q => ?_⟩
  obtain ⟨ρ, env, h, R, S, q⟩ := q
  refine BoolOp_or (ha.go I R S (Sat.unbind q) fun v h1 ρ1 H1 x u s1 p I1 rx e1 R1 S1 w1 => ?_)
  refine trl_go I1 R1 w1 rx (Sat.unbind p) fun c s2 p I2 => ?_
  cases c with
  | false => exact hb.go I2 R1 S1 (p.mono (fun _ _ z => z) fun _ _ _ z => z.later e1) fun w h2 ρ2 H2 y u' s3 p2 I3 r2 e2 R2 S2 w2 => ⟨y, H2, I3, r2, p2.at e1 e2 R2 w2⟩
  | true => exact ⟨x, H1, I2, rx, (show Post X.K ρ H Q v h1 from p) ρ1 H1 x e1 R1 w1⟩
theorem px_one {op : BoolOp} {a : Expr} {ia : Ex} {pos : Pos} (ha : PX X cx E a ia) : PX X cx E (.BoolOp op [a] pos) ia := pe_one ha

/-! ### tests -/
theorem pxt_val {a : Expr} {ia : Ex} (ha : PX X cx E a ia) (hp : ∀ whole, isTrue a X.env whole = (do let v ← whole; standAt a.pos; holding [v] (truthy v))) : PXT X cx E a ia := by
  refine ⟨fun pins s σ H Q I q => ?_⟩
  obtain ⟨ρ, env, h, R, S, q⟩ := q
  refine isTrue_plain (ha.go I R S (Sat.unbind q) fun v h1 ρ1 H1 x u s1 p I1 rx e1 R1 S1 w1 => ?_) (hp _)
  exact trl_go I1 R1 w1 rx p fun c s2 p I2 => ⟨H1, I2, p ρ1 H1 e1 R1⟩
theorem sat_test {e : Ex} {P : Bool → Heap → Prop} {EE : String → List (String × Val) → Heap → Prop} : Sat (test cx e env h) P EE ↔ Sat (evE cx e env h) (fun v h1 => Sat (ofOpt (truth h1 v) h1) P EE) EE := Sat.bind_iff
theorem pxt_not {a : Expr} {ia : Ex} {pos : Pos} (ha : PXT X cx E a ia) : PXT X cx E (.UnaryOp .Not a pos) (.not ia) := by
  refine ⟨fun pins s σ H Q I q => ?_⟩
  obtain ⟨ρ, env, h, R, S, q⟩ := q
  refine isTrue_not (ha.go I R S (P := fun b h1 => ∀ ρ' H', Ext ρ H ρ' H' → HRel X.K ρ' h1 H' → Q (!b) H') ?_ fun b h1 ρ1 H1 s1 p I1 e1 R1 S1 => ⟨H1, I1, p ρ1 H1 e1 R1⟩)
  refine sat_test.mpr ((Sat.unbind (sat_test.mp q)).mono (fun v h1 z => ?_) fun _ _ _ z => z)
  obtain ⟨b, e, p⟩ := Sat.opt z
  obtain ⟨c, ec, rfl⟩ := map_some e
  rw [ec]
  obtain ⟨d, ed, p⟩ := Sat.opt p
  cases (Option.some.inj ed : (!c) = d)
  exact p
/-- a test whatever its whole is -/
abbrev PXW (X : L2.Cx) (cx : Sc.Cx) (E : XK) (a : Expr) (ir : Ex) : Prop := PW X a (tT X.K cx E ir)
theorem PXW.go {a : Expr} {ir : Ex} (ha : PXW X cx E a ir) (wh : Sem Value) (I : L2.Inv X pins σ H s) (R : HRel X.K ρ h H) (S : SRel X.K ρ H env σ) {P : Bool → Heap → Prop} (q : Sat (test cx ir env h) P (XP X.K E ρ H)) {G : Bool → Shared → Prop}
    (k : ∀ b h1 ρ1 H1 s1, P b h1 → L2.Inv X pins σ H1 s1 → Ext ρ H ρ1 H1 → HRel X.K ρ1 h1 H1 → SRel X.K ρ1 H1 env σ → G b s1) : wpAny (model X.prog X.w) X.A (isTrue a X.env wh) G X.xe s := by
  refine thn (ha.run wh pins s σ H (fun b H1 => ∃ h1 ρ1, P b h1 ∧ Ext ρ H ρ1 H1 ∧ HRel X.K ρ1 h1 H1) I ⟨ρ, env, h, R, S, q.mono (fun b h1 p ρ1 H1 e r => ⟨h1, ρ1, p, e, r⟩) fun _ _ _ z => z⟩) fun b s1 ⟨H1, I1, h1, ρ1, p, e, r⟩ => ?_
  exact k b h1 ρ1 H1 s1 p I1 e r (S.later R e)
theorem pxw_and1 {a : Expr} {ia : Ex} {pos : Pos} (ha : PXT X cx E a ia) : PXW X cx E (.BoolOp .And [a] pos) ia := pw_and1 ha
theorem pxw_or1 {a : Expr} {ia : Ex} {pos : Pos} (ha : PXT X cx E a ia) : PXW X cx E (.BoolOp .Or [a] pos) ia := pw_or1 ha
theorem truth_same {v : Val} {h : Heap} {P : Bool → Heap → Prop} {EE : String → List (String × Val) → Heap → Prop} {c : Bool} (e : truth h v = some c) (q : Sat (ofOpt (truth h v) h) P EE) : P c h := by rw [e] at q; exact q
theorem pxw_and {a b : Expr} {rest : List Expr} {ia ib : Ex} {pos : Pos} (ha : PXT X cx E a ia) (hb : PXW X cx E (.BoolOp .And (b :: rest) pos) ib) : PXW X cx E (.BoolOp .And (a :: b :: rest) pos) (.and ia ib) := by
  refine ⟨fun wh pins s σ H Q I q => ?_⟩
  obtain ⟨ρ, env, h, R, S, q⟩ := q
  refine isTrue_and (ha.go I R S (P := fun c h1 => if c = true then Sat (test cx ib env h1) (fun b h' => ∀ ρ' H', Ext ρ H ρ' H' → HRel X.K ρ' h' H' → Q b H') (XP X.K E ρ H) else ∀ ρ' H', Ext ρ H ρ' H' → HRel X.K ρ' h1 H' → Q false H') ?_ fun c h1 ρ1 H1 s1 p I1 e1 R1 S1 => ?_)
  · refine sat_test.mpr ((Sat.unbind (sat_test.mp q)).mono (fun v h1 z => ?_) fun _ _ _ z => z)
    obtain ⟨c, ec, z⟩ := Sat.opt (Sat.unbind z)
    rw [ec]
    show if c = true then _ else _
    cases c with
    | true => rw [if_pos rfl]; exact sat_test.mpr z
    | false => rw [if_neg Bool.false_ne_true]; exact truth_same ec z
  · cases c with
    | true => rw [if_pos rfl] at p; exact hb.go wh I1 R1 S1 (p.mono (fun _ _ z => z) fun _ _ _ z => z.later e1) fun b h2 ρ2 H2 s2 p2 I2 e2 R2 S2 => ⟨H2, I2, p2 ρ2 H2 (e1.trans e2) R2⟩
    | false => rw [if_neg Bool.false_ne_true] at p; exact ⟨H1, I1, p ρ1 H1 e1 R1⟩
theorem pxw_or {a b : Expr} {rest : List Expr} {ia ib : Ex} {pos : Pos} (ha : PXT X cx E a ia) (hb : PXW X cx E (.BoolOp .Or (b :: rest) pos) ib) : PXW X cx E (.BoolOp .Or (a :: b :: rest) pos) (.or ia ib) := by
  refine ⟨fun wh pins s σ H Q I q => ?_⟩
  obtain ⟨ρ, env, h, R, S, q⟩ := q
  refine isTrue_or (ha.go I R S (P := fun c h1 => if c = true then ∀ ρ' H', Ext ρ H ρ' H' → HRel X.K ρ' h1 H' → Q true H' else Sat (test cx ib env h1) (fun b h' => ∀ ρ' H', Ext ρ H ρ' H' → HRel X.K ρ' h' H' → Q b H') (XP X.K E ρ H)) ?_ fun c h1 ρ1 H1 s1 p I1 e1 R1 S1 => ?_)
  · refine sat_test.mpr ((Sat.unbind (sat_test.mp q)).mono (fun v h1 z => ?_) fun _ _ _ z => z)
    obtain ⟨c, ec, z⟩ := Sat.opt (Sat.unbind z)
    rw [ec]
    show if c = true then _ else _
    cases c with
    | true => rw [if_pos rfl]; exact truth_same ec z
    | false => rw [if_neg Bool.false_ne_true]; exact sat_test.mpr z
  · cases c with
    | false => rw [if_neg Bool.false_ne_true] at p; exact hb.go wh I1 R1 S1 (p.mono (fun _ _ z => z) fun _ _ _ z => z.later e1) fun b h2 ρ2 H2 s2 p2 I2 e2 R2 S2 => ⟨H2, I2, p2 ρ2 H2 (e1.trans e2) R2⟩
    | true => rw [if_pos rfl] at p; exact ⟨H1, I1, p ρ1 H1 e1 R1⟩
theorem px_ite {t a b : Expr} {it ia ib : Ex} {pos : Pos} (ht : PXT X cx E t it) (ha : PX X cx E a ia) (hb : PX X cx E b ib) : PX X cx E (.IfExp t a b pos) (.ite it ia ib) := by
  refine ⟨fun pins s σ H Q I q => ?_⟩
  obtain ⟨ρ, env, h, R, S, q⟩ := q
  refine wpAny_IfExp (ht.go I R S (P := fun c h1 => Sat (if c then evE cx ia env h1 else evE cx ib env h1) (Post X.K ρ H Q) (XP X.K E ρ H)) ?_ fun c h1 ρ1 H1 s1 p I1 e1 R1 S1 => ?_)
  · exact sat_test.mpr ((Sat.unbind q).mono (fun v h1 z => Sat.unbind z) fun _ _ _ z => z)
  · cases c with
    | true => exact ha.go I1 R1 S1 (p.mono (fun _ _ z => z) fun _ _ _ z => z.later e1) fun w h2 ρ2 H2 y u' s3 p2 I3 r2 e2 R2 S2 w2 => ⟨y, H2, I3, r2, p2.at e1 e2 R2 w2⟩
    | false => exact hb.go I1 R1 S1 (p.mono (fun _ _ z => z) fun _ _ _ z => z.later e1) fun w h2 ρ2 H2 y u' s3 p2 I3 r2 e2 R2 S2 w2 => ⟨y, H2, I3, r2, p2.at e1 e2 R2 w2⟩
theorem pxt_ite {t a b : Expr} {it ia ib : Ex} {pos : Pos} (ht : PXT X cx E t it) (ha : PXT X cx E a ia) (hb : PXT X cx E b ib) : PXT X cx E (.IfExp t a b pos) (.ite it ia ib) := by
  refine ⟨fun pins s σ H Q I q => ?_⟩
  obtain ⟨ρ, env, h, R, S, q⟩ := q
  show wpAny _ _ (do if ← isTrue t X.env (eval t X.env) then isTrue a X.env (eval a X.env) else isTrue b X.env (eval b X.env)) _ _ _
  refine wpAny_bind (ht.go I R S (P := fun c h1 => Sat (if c then test cx ia env h1 else test cx ib env h1) (fun b h' => ∀ ρ' H', Ext ρ H ρ' H' → HRel X.K ρ' h' H' → Q b H') (XP X.K E ρ H)) ?_ fun c h1 ρ1 H1 s1 p I1 e1 R1 S1 => ?_)
  · refine sat_test.mpr ((Sat.unbind (sat_test.mp q)).mono (fun v h1 z => (Sat.unbind z).mono (fun c h2 z => ?_) fun _ _ _ z => z) fun _ _ _ z => z)
    cases c with
    | true => exact sat_test.mpr z
    | false => exact sat_test.mpr z
  · cases c with
    | true => exact ha.go I1 R1 S1 (p.mono (fun _ _ z => z) fun _ _ _ z => z.later e1) fun w h2 ρ2 H2 s2 p2 I2 e2 R2 S2 => ⟨H2, I2, p2 ρ2 H2 (e1.trans e2) R2⟩
    | false => exact hb.go I1 R1 S1 (p.mono (fun _ _ z => z) fun _ _ _ z => z.later e1) fun w h2 ρ2 H2 s2 p2 I2 e2 R2 S2 => ⟨H2, I2, p2 ρ2 H2 (e1.trans e2) R2⟩
end
end Sc
end
section
set_option Elab.async false
set_option linter.all false
set_option maxRecDepth 100000
set_option maxHeartbeats 4000000
set_option autoImplicit false
/-! Comparisons, displays, subscripts, arguments, built-in functions. -/
namespace Sc
open PySem PySem.Spec PyProof.Rows L2

section
variable {X : L2.Cx} {cx : Sc.Cx} {E : XK} {ρ : List Addr} {H : Hp} {h : Heap} {σ : L2.St} {env : Env} {s : Shared} {pins : List (Addr × PySem.Obj)} {α : Type}

/-! ### comparisons -/
/-- in, not in of an own class -/
def OwnIn (X : L2.Cx) (cx : Sc.Cx) (E : XK) : Prop :=
  ∀ (pins : List (Addr × PySem.Obj)) (s : Shared) (σ : L2.St) (H : Hp) (x y : V) (u u' : Value) (Q : Bool → Hp → Prop) (ρ0 : List Addr) (H0 : Hp) (ρ : List Addr) (h : Heap) (v w : Val) (C : String) (fs : List (String × Val)), L2.Inv X pins σ H s → L2.RelV x u → L2.RelV y u' → Ext ρ0 H0 ρ H → HRel X.K ρ h H → WRel X.K ρ H0 H v x → WRel X.K ρ H0 H w y → insOf h w = some (C, fs) →
    Sat (inE cx C w v h) (fun b h' => ∀ ρ' H', Ext ρ0 H0 ρ' H' → HRel X.K ρ' h' H' → Q b H') (XP X.K E ρ0 H0) →
      wpAny (model X.prog X.w) X.A (compareOp .In u u') (fun r s' => ∃ b H', r = .bool b ∧ L2.Inv X pins σ H' s' ∧ Q b H') X.xe s ∧
      wpAny (model X.prog X.w) X.A (compareOp .NotIn u u') (fun r s' => ∃ b H', r = .bool (!b) ∧ L2.Inv X pins σ H' s' ∧ Q b H') X.xe s
theorem cmp_fin {op : Cop} {v w : Val} {x y : V} {u u' : Value} {ρ2 : List Addr} {H2 : Hp} {h2 : Heap} {s2 : Shared} {Q : V → Hp → Prop} (hu : X.A.units + 65 < cLine) (hi : OwnIn X cx E) (I2 : L2.Inv X pins σ H2 s2) (rx : L2.RelV x u) (ry : L2.RelV y u') (e2 : Ext ρ H ρ2 H2) (R2 : HRel X.K ρ2 h2 H2) (w1 : WRel X.K ρ2 H H2 v x) (w2 : WRel X.K ρ2 H H2 w y)
    (p : Sat (cmpE cx op v w h2) (Post X.K ρ H Q) (XP X.K E ρ H)) :
    wpAny (model X.prog X.w) X.A (compareOp (copE op) u u') (EP X pins σ Q) X.xe s2 := by
  unfold cmpE at p
  split at p
  · rename_i C fs hC
    refine thn (hi pins s2 σ H2 x y u u' (fun b H' => Q (.bl b) H') ρ H ρ2 h2 v w C fs I2 rx ry e2 R2 w1 w2 hC ((Sat.unbind p).mono (fun b h3 z => ?_) fun _ _ _ z => z)).1 fun r s' ⟨b, H', er, I', q⟩ => ?_
    · exact fun ρ' H' e' R' => (show Post X.K ρ H Q (.bl b) h3 from z) ρ' H' _ e' R' (.v (.bl b))
    · subst er
      exact ⟨.bl b, H', I', rfl, q⟩
  · rename_i C fs hC
    refine thn (hi pins s2 σ H2 x y u u' (fun b H' => Q (.bl (!b)) H') ρ H ρ2 h2 v w C fs I2 rx ry e2 R2 w1 w2 hC ((Sat.unbind p).mono (fun b h3 z => ?_) fun _ _ _ z => z)).2 fun r s' ⟨b, H', er, I', q⟩ => ?_
    · exact fun ρ' H' e' R' => (show Post X.K ρ H Q (.bl (!b)) h3 from z) ρ' H' _ e' R' (.v (.bl (!b)))
    · subst er
      exact ⟨.bl (!b), H', I', rfl, q⟩
  · obtain ⟨r, e3, z⟩ := Sat.opt p
    obtain ⟨b, eb, rfl⟩ := map_some e3
    exact op_cmp hu pins s2 σ H2 x y u u' Q I2 rx ry ⟨ρ2, H, h2, v, w, b, R2, w1, w2, eb, z ρ2 H2 _ e2 R2 (.v (.bl b))⟩
theorem px_cmp {a b : Expr} {ia ib : Ex} {op : Cop} {pos : Pos} (hu : X.A.units + 65 < cLine) (hi : OwnIn X cx E) (ha : PX X cx E a ia) (hb : PX X cx E b ib) (hm : behindInMarks (copE op) b = false) : PX X cx E (.Compare a [copE op] [b] pos) (.cmp op ia ib) := by
  refine ⟨fun pins s σ H Q I q => ?_⟩
  obtain ⟨ρ, env, h, R, S, q⟩ := q
  refine wpAny_Compare1 (two_go ha hb I R S ((Sat.unbind q).mono (fun v h1 z => Sat.unbind z) fun _ _ _ z => z) fun v w h2 ρ2 H2 x y u u' s2 p I2 rx ry e2 R2 S2 w1 w2 => ?_) hm
  exact cmp_fin hu hi I2 rx ry e2 R2 w1 w2 p
theorem cmp_bl {op : Cop} {v w : Val} {h2 : Heap} {P : Val → Heap → Prop} {EE : String → List (String × Val) → Heap → Prop} (p : Sat (cmpE cx op v w h2) P EE) :
    Sat (cmpE cx op v w h2) (fun r h3 => ∃ b, r = .bl b ∧ P r h3) EE := by
  unfold cmpE at p ⊢
  split at p
  · rename_i hC
    exact Sat.bind_iff.mpr ((Sat.unbind p).mono (fun b h3 z => ⟨b, rfl, z⟩) fun _ _ _ z => z)
  · exact Sat.bind_iff.mpr ((Sat.unbind p).mono (fun b h3 z => ⟨_, rfl, z⟩) fun _ _ _ z => z)
  · obtain ⟨t, et, z⟩ := Sat.opt p
    rw [et]
    obtain ⟨b, eb, rfl⟩ := map_some et
    exact ⟨b, rfl, z⟩
theorem pxt_cmp {a b : Expr} {ia ib : Ex} {op : Cop} {pos : Pos} (hu : X.A.units + 65 < cLine) (hi : OwnIn X cx E) (ha : PX X cx E a ia) (hb : PX X cx E b ib) (hm : behindInMarks (copE op) b = false) : PXT X cx E (.Compare a [copE op] [b] pos) (.cmp op ia ib) := by
  refine ⟨fun pins s σ H Q I q => ?_⟩
  obtain ⟨ρ, env, h, R, S, q⟩ := q
  have q := Sat.unbind (sat_test.mp q)
  refine wpAny_isTrue_Compare1 (two_go ha hb I R S (q.mono (fun v h1 z => Sat.unbind z) fun _ _ _ z => z) (f := fun u u' => compareOp (copE op) u u') fun v w h2 ρ2 H2 x y u u' s2 p I2 rx ry e2 R2 S2 w1 w2 => ?_) hm
  refine thn (cmp_fin (Q := fun z H' => ∃ c, z = .bl c ∧ Q c H') hu hi I2 rx ry e2 R2 w1 w2 ((cmp_bl p).mono (fun r h3 z => ?_) fun _ _ _ z => z)) fun c s3 ⟨z, H3, I3, r3, d, ed, q3⟩ => ?_
  · obtain ⟨b, rfl, z⟩ := z
    intro ρ3 H3 x3 e3 R3 w3
    exact ⟨b, w3.bl, (show ∀ ρ' H', Ext ρ H ρ' H' → HRel X.K ρ' h3 H' → Q b H' from z) ρ3 H3 e3 R3⟩
  · subst ed
    cases r3
    exact wpAny_truthy_bool ⟨H3, I3, q3⟩
theorem px_cmp2 {a b c : Expr} {ia ib ic : Ex} {op op' : Cop} {pos : Pos} (hu : X.A.units + 65 < cLine) (ha : PX X cx E a ia) (hb : PX X cx E b ib) (hc : PX X cx E c ic) (hm : lastMarks [copE op, copE op'] [b, c] = false) : PX X cx E (.Compare a [copE op, copE op'] [b, c] pos) (.cmp2 op op' ia ib ic) := by
  refine ⟨fun pins s σ H Q I q => ?_⟩
  obtain ⟨ρ, env, h, R, S, q⟩ := q
  refine Compare_chain (ha.go I R S (Sat.unbind q) fun v h1 ρ1 H1 x u s1 p I1 r1 e1 R1 S1 w1 => chain_link (hb.go I1 R1 S1 ((Sat.unbind p).mono (fun _ _ z => z) fun _ _ _ z => z.later e1) fun w h2 ρ2 H2 y u' s2 p2 I2 r2 e2 R2 S2 w2 => ?_)) hm
  have w1' := w1.later R1 e2
  have w2' := w2.back e1 e2.memL
  obtain ⟨t, et, p2⟩ := Sat.opt (Sat.unbind p2)
  refine thn (op_cmp hu pins s2 σ H2 x y u u' (fun z H' => z = .bl t ∧ H' = H2) I2 r1 r2 ⟨ρ2, H, h2, v, w, t, R2, w1', w2', et, rfl, rfl⟩) fun d s3 ⟨z, H3, I3, r3, ez, eH⟩ => ?_
  subst ez eH
  cases r3
  refine wpAny_truthy_bool ?_
  cases t with
  | false => exact ite_ff ⟨.bl false, H3, I3, rfl, (show Post X.K ρ H Q (.bl false) h2 from p2) ρ2 H3 _ (e1.trans e2) R2 (.v (.bl false))⟩
  | true =>
    refine ite_tt (chain_last (hc.go I3 R2 S2 ((Sat.unbind p2).mono (fun _ _ z => z) fun _ _ _ z => z.later (e1.trans e2)) fun w3 h4 ρ4 H4 z u3 s4 p4 I4 r4 e4 R4 S4 w4 => ?_))
    obtain ⟨t2, et2, p4⟩ := Sat.opt p4
    obtain ⟨b2, eb2, rfl⟩ := map_some et2
    exact op_cmp hu pins s4 σ H4 y z u' u3 Q I4 r2 r4 ⟨ρ4, H, h4, w, w3, b2, R4, w2'.later R2 e4, w4.back (e1.trans e2) e4.memL, eb2, p4 ρ4 H4 _ ((e1.trans e2).trans e4) R4 (.v (.bl b2))⟩
theorem pxt_cmp2 {a b c : Expr} {ia ib ic : Ex} {op op' : Cop} {pos : Pos} (hu : X.A.units + 65 < cLine) (ha : PX X cx E a ia) (hb : PX X cx E b ib) (hc : PX X cx E c ic) (hm : lastMarks [copE op, copE op'] [b, c] = false) : PXT X cx E (.Compare a [copE op, copE op'] [b, c] pos) (.cmp2 op op' ia ib ic) := by
  refine ⟨fun pins s σ H Q I q => ?_⟩
  obtain ⟨ρ, env, h, R, S, q⟩ := q
  have q := Sat.unbind (sat_test.mp q)
  refine isTrue_chain (ha.go I R S q fun v h1 ρ1 H1 x u s1 p I1 r1 e1 R1 S1 w1 => test_link (hb.go I1 R1 S1 ((Sat.unbind p).mono (fun _ _ z => z) fun _ _ _ z => z.later e1) fun w h2 ρ2 H2 y u' s2 p2 I2 r2 e2 R2 S2 w2 => ?_)) hm
  have w1' := w1.later R1 e2
  have w2' := w2.back e1 e2.memL
  obtain ⟨t, et, p2⟩ := Sat.opt (Sat.unbind p2)
  refine thn (op_cmp hu pins s2 σ H2 x y u u' (fun z H' => z = .bl t ∧ H' = H2) I2 r1 r2 ⟨ρ2, H, h2, v, w, t, R2, w1', w2', et, rfl, rfl⟩) fun d s3 ⟨z, H3, I3, r3, ez, eH⟩ => ?_
  subst ez eH
  cases r3
  refine wpAny_truthy_bool ?_
  cases t with
  | false => exact ite_ff ⟨H3, I3, (show ∀ ρ' H', Ext ρ H ρ' H' → HRel X.K ρ' h2 H' → Q false H' from p2) ρ2 H3 (e1.trans e2) R2⟩
  | true =>
    refine ite_tt (test_last (hc.go I3 R2 S2 ((Sat.unbind p2).mono (fun _ _ z => z) fun _ _ _ z => z.later (e1.trans e2)) fun w3 h4 ρ4 H4 z u3 s4 p4 I4 r4 e4 R4 S4 w4 => ?_))
    obtain ⟨t2, et2, p4⟩ := Sat.opt p4
    obtain ⟨b2, eb2, rfl⟩ := map_some et2
    refine thn (op_cmp hu pins s4 σ H4 y z u' u3 (fun z H' => z = .bl b2 ∧ H' = H4) I4 r2 r4 ⟨ρ4, H, h4, w, w3, b2, R4, w2'.later R2 e4, w4.back (e1.trans e2) e4.memL, eb2, rfl, rfl⟩) fun d2 s5 ⟨z5, H5, I5, r5, ez5, eH5⟩ => ?_
    subst ez5 eH5
    cases r5
    exact wpAny_truthy_bool ⟨H5, I5, (show ∀ ρ' H', Ext ρ H ρ' H' → HRel X.K ρ' h4 H' → Q b2 H' from p4) ρ4 H5 ((e1.trans e2).trans e4) R4⟩
end
end Sc
end
section
set_option Elab.async false
set_option linter.all false
set_option maxRecDepth 100000
set_option maxHeartbeats 4000000
set_option autoImplicit false
/-! Displays, arguments, subscripts, slices, built-in functions, isinstance, f-strings. -/
namespace Sc
open PySem PySem.Spec PyProof.Rows L2

section
variable {X : L2.Cx} {cx : Sc.Cx} {E : XK} {ρ : List Addr} {H : Hp} {h : Heap} {σ : L2.St} {env : Env} {s : Shared} {pins : List (Addr × PySem.Obj)} {α : Type}

/-! ### arguments -/
theorem pxi_nil : PXI X cx E [] .nil := by
  refine ⟨fun pos pins s σ H Q I q => ?_⟩
  obtain ⟨ρ, env, h, R, S, q⟩ := q
  exact pa_nil.run pos pins s σ H Q I ((show ∀ ρ' H' xs, Ext ρ H ρ' H' → HRel X.K ρ' h H' → VRels X.K ρ' H' [] xs → Q xs H' from q) ρ H [] .refl R .nil)
theorem ext_more {ρ ρ2 : List Addr} {H : Hp} {env : Env} {σ : L2.St} {K : PySem.W.Frag} (S : SRel K ρ H env σ) (m : ∃ m, ρ2 = ρ ++ m) : SRel K ρ2 H env σ := by
  obtain ⟨m, rfl⟩ := m
  refine ⟨S.len, fun i v z => ?_⟩
  obtain ⟨x, a, b⟩ := S.var i v z
  exact ⟨x, a, b.mono (fun n c e => by rw [List.getElem?_append_left (List.getElem?_eq_some_iff.mp e).1]; exact e) fun _ _ _ z => z⟩
theorem pxi_cons {a : Expr} {as : List Expr} {ia : Ex} {ir : Its} (ha : PX X cx E a ia) (hr : PXI X cx E as ir) (hs : starEach (a :: as) X.env = (false, eval a X.env) :: starEach as X.env) : PXI X cx E (a :: as) (.cons ia ir) := by
  refine ⟨fun pos pins s σ H Q I q => ?_⟩
  obtain ⟨ρ, env, h, R, S, q⟩ := q
  rw [hs]
  show wpAny _ _ (spliced ((false, eval a X.env) :: backTo pos (starEach as X.env))) _ _ s
  refine Calls.spliced_cons (ha.go I R S (Sat.unbind q) fun v h1 ρ1 H1 x u s1 p I1 rx e1 R1 S1 w1 => ?_)
  obtain ⟨v', h2, ρ2, p, e2, R2, r2, m⟩ := box_ok R1 e1 w1 (Sat.unbind p)
  refine hr.go pos I1 R2 (ext_more S1 m) ((Sat.unbind p).mono (fun _ _ z => z) fun _ _ _ z => z.later e2) fun vs h3 ρ3 H3 xs us s3 p3 I3 r3 e3 R3 S3 w3 => ?_
  exact ⟨x :: xs, H3, I3, .cons rx r3, (show ∀ ρ' H' xs, Ext ρ H ρ' H' → HRel X.K ρ' h3 H' → VRels X.K ρ' H' (v' :: vs) xs → Q xs H' from p3) ρ3 H3 _ (e2.trans e3) R3 (.cons (r2.later R2 e3) w3)⟩
theorem pxi_star {a : Expr} {as : List Expr} {ia : Ex} {ir : Its} {p : Pos} (ha : PX X cx E a ia) (hr : PXI X cx E as ir) : PXI X cx E (.Starred a p :: as) (.star ia ir) := by
  refine ⟨fun pos pins s σ H Q I q => ?_⟩
  obtain ⟨ρ, env, h, R, S, q⟩ := q
  refine PySem.W.items_star (ha.go I R S (Sat.unbind q) fun v h1 ρ1 H1 x u s1 p I1 rx e1 R1 S1 w1 => ?_) rfl
  split at p
  · rename_i ys es
    obtain ⟨b, xs, rfl, hx, rr⟩ := seq_of R1 w1 es
    obtain rfl : u = Value.ref b := rx
    refine StX.star_any I1 hx.symm fun us s2 I2 rv => ?_
    refine hr.go pos I2 R1 S1 ((Sat.unbind p).mono (fun _ _ z => z) fun _ _ _ z => z.later e1) fun vs h3 ρ3 H3 xs3 us3 s3 p3 I3 r3 e3 R3 S3 w3 => ?_
    exact ⟨xs ++ xs3, H3, I3, rv.append r3, (show ∀ ρ' H' xs, Ext ρ H ρ' H' → HRel X.K ρ' h3 H' → VRels X.K ρ' H' (ys ++ vs) xs → Q xs H' from p3) ρ3 H3 _ (e1.trans e3) R3 ((rr.later R1 e3).append w3)⟩
  · exact p.elim
theorem pxr_nil : PXR X cx E [] .nil := by
  refine ⟨fun pos pins s σ H Q I q => ?_⟩
  obtain ⟨ρ, env, h, R, S, q⟩ := q
  exact pa_nil.run pos pins s σ H Q I ((show ∀ ρ' H' xs, Ext ρ H ρ' H' → HRel X.K ρ' h H' → WRels X.K ρ' H H' [] xs → Q xs H' from q) ρ H [] .refl R .nil)
theorem pxr_cons {a : Expr} {as : List Expr} {ia : Ex} {ir : Its} (ha : PX X cx E a ia) (hr : PXR X cx E as ir) (hs : starEach (a :: as) X.env = (false, eval a X.env) :: starEach as X.env) : PXR X cx E (a :: as) (.cons ia ir) := by
  refine ⟨fun pos pins s σ H Q I q => ?_⟩
  obtain ⟨ρ, env, h, R, S, q⟩ := q
  rw [hs]
  show wpAny _ _ (spliced ((false, eval a X.env) :: backTo pos (starEach as X.env))) _ _ s
  refine Calls.spliced_cons (ha.go I R S (Sat.unbind q) fun v h1 ρ1 H1 x u s1 p I1 rx e1 R1 S1 w1 => ?_)
  refine hr.go pos I1 R1 S1 ((Sat.unbind p).mono (fun _ _ z => z) fun _ _ _ z => z.later e1) fun vs h3 ρ3 H3 xs us s3 p3 I3 r3 e3 R3 S3 w3 => ?_
  have back : ∀ {vs : List Val} {xs : List V}, WRels X.K ρ3 H1 H3 vs xs → WRels X.K ρ3 H H3 vs xs := fun w => by
    induction w with
    | nil => exact .nil
    | cons w r ih => exact .cons (w.back e1 e3.memL) ih
  exact ⟨x :: xs, H3, I3, .cons rx r3, (show ∀ ρ' H' xs, Ext ρ H ρ' H' → HRel X.K ρ' h3 H' → WRels X.K ρ' H H' (v :: vs) xs → Q xs H' from p3) ρ3 H3 _ (e1.trans e3) R3 (.cons (w1.later R1 e3) (back w3))⟩

/-! ### displays -/
theorem fresh_out {K : PySem.W.Frag} {ρ : List Addr} {h : Heap} {H : Hp} (R : HRel K ρ h H) {p : Addr} (hp : H p = none) : p ∉ ρ := fun hm => by
  obtain ⟨n, hl, e2⟩ := List.getElem_of_mem hm
  have hh : n < h.length := by rw [← R.len]; exact hl
  have q := R.obj n h[n] p (by simp [hh]) (by simp [hl, e2])
  cases ho : h[n] with
  | lst vs => rw [ho] at q; obtain ⟨_, z, _⟩ := q; rw [hp] at z; cases z
  | fz vs => rw [ho] at q; obtain ⟨_, _, z, _⟩ := q; rw [hp] at z; cases z
  | ins C fs => rw [ho] at q; obtain ⟨_, _, z, _⟩ := q; rw [hp] at z; cases z
  | dct kvs => rw [ho] at q; obtain ⟨_, z, _⟩ := q; rw [hp] at z; cases z
theorem px_tup {as : List Expr} {ir : Its} {k : Nat} {pos : Pos} (ha : PXI X cx E as ir) : PX X cx E (.Tuple as k pos) (.tup ir) := by
  refine ⟨fun pins s σ H Q I q => ?_⟩
  obtain ⟨ρ, env, h, R, S, q⟩ := q
  refine wpAny_Tuple_spliced (ha.go pos I R S (Sat.unbind q) fun vs h1 ρ1 H1 xs us s1 p I1 r1 e1 R1 S1 w1 => ?_)
  split at p
  · rename_i hz
    have hf : H1 s1.heap.objs.size = none := I1.hok.fresh (Nat.le_refl _)
    refine ⟨by rw [← r1.length, ← w1.length]; exact hz, .ref s1.heap.objs.size, upd H1 s1.heap.objs.size (.tup xs), I1.laid (t' := s1.toks) (fun b u e => Heap.get?_push_of_some _ e) (Nat.le_refl _) ?_, rfl, ?_⟩
    · exact ⟨by rw [← w1.length]; exact hz, us, r1, ⟨_, Heap.get?_push_size _ rfl, rfl, _, rfl⟩⟩
    · exact (show Post X.K ρ H Q (.tup vs) h1 from p).at e1 (.new hf) (R1.new hf) (.v (.tup (.inl (.inl upd_same)) (w1.later R1 (.new hf))))
  · exact p.elim
theorem px_lst {as : List Expr} {ir : Its} {pos : Pos} (ha : PXI X cx E as ir) : PX X cx E (.List as pos) (.lst ir) := by
  refine ⟨fun pins s σ H Q I q => ?_⟩
  obtain ⟨ρ, env, h, R, S, q⟩ := q
  refine wpAny_List_spliced (ha.go pos I R S (Sat.unbind q) fun vs h1 ρ1 H1 xs us s1 p I1 r1 e1 R1 S1 w1 => ?_)
  split at p
  · rename_i hz
    have hf : H1 s1.heap.objs.size = none := I1.hok.fresh (Nat.le_refl _)
    refine ⟨by rw [← r1.length, ← w1.length]; exact hz, .ref s1.heap.objs.size, upd H1 s1.heap.objs.size (.lst xs), I1.laid (t' := s1.toks) (fun b u e => Heap.get?_push_of_some _ e) (Nat.le_refl _) ?_, rfl, ?_⟩
    · exact ⟨by rw [← w1.length]; exact hz, us, 0, r1, Heap.get?_push_size _ rfl⟩
    · exact (show Post X.K ρ H Q (.tl vs) h1 from p).at e1 (.new hf) (R1.new hf) (.tl upd_same (fresh_out R1 hf) hf (w1.later R1 (.new hf)))
  · exact p.elim

/-! ### subscripts -/
theorem px_sub {a b : Expr} {ia ib : Ex} {pos : Pos} (hu : X.A.units + 65 < cLine) (ha : PX X cx E a ia) (hb : PX X cx E b ib) (hs : PlainIx b) : PX X cx E (.Subscript a b pos) (.sub ia ib) := by
  refine ⟨fun pins s σ H Q I q => ?_⟩
  obtain ⟨ρ, env, h, R, S, q⟩ := q
  refine Subscript_ (two_go ha hb I R S ((Sat.unbind q).mono (fun v h1 z => Sat.unbind z) fun _ _ _ z => z) fun v w h2 ρ2 H2 x y u u' s2 p I2 rx ry e2 R2 S2 w1 w2 => ?_)
  obtain ⟨r, e3, z⟩ := Sat.opt p
  exact ix_ev (by omega) a b pins s2 σ H2 x y u u' Q I2 rx ry ⟨ρ2, H, h2, v, w, r, R2, w1, w2, e3, fun H' z' e4 R4 w4 => z.at e2 e4 R4 w4⟩ (hs _ _)

/-- a part of a slice -/
abbrev PXO (X : L2.Cx) (cx : Sc.Cx) (E : XK) (a : Option Expr) (ir : Op) : Prop := match a, ir with
  | none, .none => True
  | some a, .some ia => PX X cx E a ia
  | _, _ => False
theorem PXO.go {a : Option Expr} {ir : Op} (ha : PXO X cx E a ir) (I : L2.Inv X pins σ H s) (R : HRel X.K ρ h H) (S : SRel X.K ρ H env σ) {P : Option Val → Heap → Prop} (q : Sat (evO cx ir env h) P (XP X.K E ρ H)) {G : Value → Shared → Prop}
    (k : ∀ v h1 ρ1 H1 u s1, P v h1 → L2.Inv X pins σ H1 s1 → (∀ o, optInt v = some o → IsPart u o) → Ext ρ H ρ1 H1 → HRel X.K ρ1 h1 H1 → SRel X.K ρ1 H1 env σ → G u s1) : wpAny (model X.prog X.w) X.A (evalPart a X.env) G X.xe s := by
  cases a with
  | none =>
    cases ir with
    | none =>
      rw [evalPart_none]
      exact wpAny_pure (k none h ρ H .none s q I (fun o e => by cases e; exact .none) .refl R S)
    | some ia => exact ha.elim
  | some a =>
    cases ir with
    | none => exact ha.elim
    | some ia =>
      rw [evalPart_some]
      refine PX.go (show PX X cx E a ia from ha) I R S (Sat.unbind q) fun v h1 ρ1 H1 x u s1 p I1 rx e1 R1 S1 w1 => ?_
      refine k (some v) h1 ρ1 H1 u s1 p I1 (fun o e => ?_) e1 R1 S1
      cases v with
      | int i =>
        cases e
        obtain rfl := w1.int
        obtain ⟨t, rfl⟩ := rx
        exact .int i t
      | _ => cases e
theorem px_slc {a : Expr} {lo hi : Option Expr} {ia : Ex} {il ih : Op} {p2 pos : Pos} (ha : PX X cx E a ia) (hl : PXO X cx E lo il) (hh : PXO X cx E hi ih) : PX X cx E (.Subscript a (.Slice lo hi none p2) pos) (.slc ia il ih) := by
  refine ⟨fun pins s σ H Q I q => ?_⟩
  obtain ⟨ρ, env, h, R, S, q⟩ := q
  refine Subscript_ (ha.go I R S (Sat.unbind q) fun v h1 ρ1 H1 x vv s1 p I1 rx e1 R1 S1 w1 => ?_)
  refine wpAny_Slice (hl.go I1 R1 S1 ((Sat.unbind p).mono (fun _ _ z => z) fun _ _ _ z => z.later e1) fun l h2 ρ2 H2 vl s2 p I2 pl e2 R2 S2 => hh.go I2 R2 S2 ((Sat.unbind p).mono (fun _ _ z => z) fun _ _ _ z => z.later (e1.trans e2)) fun u h3 ρ3 H3 vu s3 p I3 pu e3 R3 S3 => ?_)
  rw [evalPart_none]
  refine wpAny_pure ?_
  split at p
  · rename_i l' u' el eu
    obtain ⟨r, e4, z⟩ := Sat.opt p
    have I4 : L2.Inv X pins σ H3 { s3 with heap := s3.heap.push { cls := .type "slice", data := .fields #[vl, vu, .none] } } := I3.kept (t' := s3.toks) fun b ob q => Heap.get?_push_of_some _ q
    obtain ⟨T, id, hT, ht, hg⟩ := sl_ev pins { s3 with heap := s3.heap.push { cls := .type "slice", data := .fields #[vl, vu, .none] } } σ H3 x vv vl vu _ _ s3.heap.objs.size Q I4 rx (Heap.IsSliceOf.new ..) (pl _ el) (pu _ eu)
      ⟨ρ3, H, h3, v, r, R3, (w1.later R1 e2).later R2 e3, e4, fun H' z' e5 R5 w5 => z.at ((e1.trans e2).trans e3) e5 R5 w5⟩
    show wpAny (model X.prog X.w) X.A (subscriptTail a (.Slice lo hi none p2) vv (.ref s3.heap.objs.size)) (EP X pins σ Q) X.xe { s3 with heap := s3.heap.push { cls := .type "slice", data := .fields #[vl, vu, .none] } }
    exact tail_any (ops := [.ref s3.heap.objs.size, vv]) ht hT hg (by with_unfolding_all rfl)
  · exact p.elim
/-! ### built-in functions -/
/-- a call of a built-in thing at values -/
def CallE (X : L2.Cx) (E : XK) (f : Value) (g : List Val → Heap → Sc.R Val) : Prop :=
  ∀ (pins : List (Addr × PySem.Obj)) (s : Shared) (σ : L2.St) (H : Hp) (xs : List V) (us : List Value) (Q : V → Hp → Prop) (ρ : List Addr) (H0 : Hp) (h : Heap) (vs : List Val), L2.Inv X pins σ H s → Vals xs us → HRel X.K ρ h H → WRels X.K ρ H0 H vs xs →
    Sat (g vs h) (Post X.K ρ H Q) (XP X.K E ρ H) → wpAny (model X.prog X.w) X.A (call f us) (EP X pins σ Q) X.xe s
theorem ce_of {f : Value} {g : List Val → Heap → Option Val} (c : CallR X f (rEvs X.K g)) : CallE X E f (fun vs h => ofOpt (g vs h) h) := by
  intro pins s σ H xs us Q ρ H0 h vs I rs R w q
  obtain ⟨r, e, p⟩ := Sat.opt q
  exact c pins s σ H xs us Q I rs ⟨ρ, H0, h, vs, r, R, w, e, fun H' z e' R' w' => p ρ H' z e' R' w'⟩
/-- a name of the built-in kind that is not hidden -/
structure Bi (X : L2.Cx) (f : String) : Prop where
  gl : Gl X (Str.ofString f)
  no : X.mg (Str.ofString f) = none
theorem px_biB {f : String} {e : Expr} {es : List Expr} {ir : Its} {p pos : Pos} (b : Bi X f) (hv : bootBuiltins (Str.ofString f) = some (.builtin f)) (hc : CallE X E (.builtin f) (biE cx f)) (ha : PXR X cx E (e :: es) ir)
    (hn : Str.ofString f ≠ "__name__") (hd : (Str.ofString f == ("__debug__" : Str)) = false) (hs : starEach (e :: es) X.env = (false, eval e X.env) :: starEach es X.env) (hp : (backTo pos (starEach es X.env)).any (·.1) = false) : PX X cx E (.Call (.Name (Str.ofString f) p) (e :: es) [] pos) (.bi f ir) := by
  refine ⟨fun pins s σ H Q I q => ?_⟩
  obtain ⟨ρ, env, h, R, S, q⟩ := q
  refine wpAny_Call_Name_kw (ld_blt I b.gl b.no hv ?_ hn hd)
  refine PyProof.Rows.callWith_builtin1 (ha.go pos I R S (Sat.unbind q) fun vs h1 ρ1 H1 xs us s1 p I1 r1 e1 R1 S1 w1 => ?_) hs hp
  exact hc pins s1 σ H1 xs us Q ρ1 H h1 vs I1 r1 R1 w1 (p.mono (fun v h2 z ρ2 H2 x e2 R2 w2 => z.at e1 e2 R2 w2) fun _ _ _ z => z.later e1)
theorem px_biT {f : String} {e : Expr} {es : List Expr} {ir : Its} {p pos : Pos} (b : Bi X f) (hv : bootBuiltins (Str.ofString f) = some (.type f)) (hc : CallE X E (.type f) (biE cx f)) (ha : PXR X cx E (e :: es) ir)
    (hn : Str.ofString f ≠ "__name__") (hd : (Str.ofString f == ("__debug__" : Str)) = false) (hs : starEach (e :: es) X.env = (false, eval e X.env) :: starEach es X.env) (hp : (backTo pos (starEach es X.env)).any (·.1) = false) : PX X cx E (.Call (.Name (Str.ofString f) p) (e :: es) [] pos) (.bi f ir) := by
  refine ⟨fun pins s σ H Q I q => ?_⟩
  obtain ⟨ρ, env, h, R, S, q⟩ := q
  refine wpAny_Call_Name_kw (ld_blt I b.gl b.no hv ?_ hn hd)
  refine PyProof.Rows.callWith_type1 (ha.go pos I R S (Sat.unbind q) fun vs h1 ρ1 H1 xs us s1 p I1 r1 e1 R1 S1 w1 => ?_) hs hp
  exact hc pins s1 σ H1 xs us Q ρ1 H h1 vs I1 r1 R1 w1 (p.mono (fun v h2 z ρ2 H2 x e2 R2 w2 => z.at e1 e2 R2 w2) fun _ _ _ z => z.later e1)
/-- len of an own class -/
def OwnLen (X : L2.Cx) (cx : Sc.Cx) (E : XK) : Prop :=
  ∀ (pins : List (Addr × PySem.Obj)) (s : Shared) (σ : L2.St) (H : Hp) (x : V) (u : Value) (Q : Int → Hp → Prop) (ρ : List Addr) (h : Heap) (H0 : Hp) (v : Val) (C : String) (fs : List (String × Val)), L2.Inv X pins σ H s → L2.RelV x u → HRel X.K ρ h H → WRel X.K ρ H0 H v x → insOf h v = some (C, fs) →
    Sat (callM cx C "__len__" [v] h) (fun r h' => ∃ n : Int, r = .int n ∧ (0 ≤ n ∧ n < 2 ^ 63) ∧ ∀ ρ' H', Ext ρ H ρ' H' → HRel X.K ρ' h' H' → Q n H') (XP X.K E ρ H) →
      wpAny (model X.prog X.w) X.A (call (.builtin "len") [u]) (fun r s' => ∃ n t H', r = .int n t ∧ L2.Inv X pins σ H' s' ∧ Q n H') X.xe s
theorem ce_len (hl : OwnLen X cx E) : CallE X E (.builtin "len") (biE cx "len") := by
  intro pins s σ H xs us Q ρ H0 h vs I rs R w q0
  have q : Sat (match vs with
    | [x] => match insOf h x with
      | some (C, _) => (callM cx C "__len__" [x] h).bind fun r h1 => match r with
        | .int n => if 0 ≤ n ∧ n < 2 ^ 63 then Sc.R.ok (.int n) h1 else .no
        | _ => .no
      | none => ofOpt (bLen x h) h
    | _ => .no) (Post X.K ρ H Q) (XP X.K E ρ H) := q0
  clear q0
  split at q
  · rename_i v
    obtain ⟨x, rfl, w1⟩ := w.one
    obtain ⟨u, rfl, rx⟩ := vals1 rs
    split at q
    · rename_i C fs hC
      refine thn (hl pins s σ H x u (fun n H' => Q (.int n) H') ρ h H0 v C fs I rx R w1 hC ((Sat.unbind q).mono (fun r h3 z => ?_) fun _ _ _ z => z)) fun r s' ⟨n, t, H', er, I', q⟩ => ?_
      · split at z
        · rename_i n
          split at z
          · rename_i hn
            exact ⟨n, rfl, hn, fun ρ' H' e' R' => (show Post X.K ρ H Q (.int n) h3 from z) ρ' H' _ e' R' (.v (.int n))⟩
          · exact z.elim
        · exact z.elim
      · subst er
        exact ⟨.int n, H', I', ⟨t, rfl⟩, q⟩
    · obtain ⟨r, e, p⟩ := Sat.opt q
      exact cr_len pins s σ H [x] [u] Q I (.cons rx .nil) ⟨ρ, H0, h, [v], r, R, w, e, fun H' z e' R' w' => p ρ H' z e' R' w'⟩
  · exact q.elim
theorem cr_sorted (hu : X.A.units + 64 < cLine) : CallR X (.builtin "sorted") (rEvs X.K (b1 bSorted)) := cr_b1 fun pins s σ H x us Q I rs ρ H0 h v r R w e k => by
  unfold bSorted at e
  split at e
  · exact w.no_ts.elim
  · split at e
    · rename_i vs es
      obtain ⟨out, e1, rfl⟩ := map_some e
      obtain ⟨a, xs, rfl, hq, rr⟩ := list_of R w es
      exact sorted_list hu I rs R hq rr e1 k
    · cases e
theorem ce_all (hl : OwnLen X cx E) (hc : X.calm = true) (hu : X.A.units + 65 < cLine) :
    CallE X E (.builtin "len") (biE cx "len") ∧ CallE X E (.builtin "abs") (biE cx "abs") ∧ CallE X E (.type "int") (biE cx "int") ∧ CallE X E (.builtin "sum") (biE cx "sum") ∧ CallE X E (.builtin "max") (biE cx "max") ∧ CallE X E (.builtin "min") (biE cx "min") ∧
    CallE X E (.builtin "any") (biE cx "any") ∧ CallE X E (.builtin "all") (biE cx "all") ∧ CallE X E (.type "list") (biE cx "list") ∧ CallE X E (.type "tuple") (biE cx "tuple") ∧ CallE X E (.builtin "sorted") (biE cx "sorted") :=
  ⟨ce_len hl, ce_of cr_abs, ce_of cr_int, ce_of (cr_sumE hc), ce_of (cr_maxE hc), ce_of (cr_minE hc), ce_of (cr_anyE hc), ce_of (cr_allE hc), ce_of (cr_list hc), ce_of cr_tuple, ce_of (cr_sorted (by omega))⟩
end
end Sc
end
section
set_option Elab.async false
set_option linter.all false
set_option maxRecDepth 100000
set_option maxHeartbeats 4000000
set_option autoImplicit false
/-! What the module's own things are; calls of them. -/
namespace Sc
open PySem PySem.Spec PyProof.Rows L2

theorem map_toNat_inj : ∀ {a b : List Char}, a.map Char.toNat = b.map Char.toNat → a = b
  | [], [], _ => rfl
  | [], _ :: _, h => by simp at h
  | _ :: _, [], h => by simp at h
  | x :: a, y :: b, h => by
    simp only [List.map_cons, List.cons.injEq] at h
    rw [map_toNat_inj h.2]
    congr 1
    exact Char.ext (UInt32.toNat_inj.mp h.1)
theorem ofString_inj {s t : String} (h : Str.ofString s = Str.ofString t) : s = t := by
  rw [Str.ofString_eq_toList, Str.ofString_eq_toList] at h
  have h1 : s.toList.map Char.toNat = t.toList.map Char.toNat := by
    have := congrArg (fun x : Str => x.cps.toList) h
    simpa using this
  exact String.toList_inj.mp (map_toNat_inj h1)
/-- what a class must have -/
structure ClsF (K : PySem.W.Frag) (fa : String → String → Addr) (C : String) (c : ClsI) : Prop where
  cls : Cls K (ca K C)
  meth : ∀ m, c.meths.contains m = true → Meth K (ca K C) (Str.ofString m) (fa C m)
  fi : ∀ m, c.meths.contains m = true → PySem.W.fnIn K (fa C m) = true
  attr : ∀ f, c.attrs.contains f = true → NoAttr K (ca K C) (Str.ofString f)
  prop : ∀ f, c.props.contains f = true → ∃ p, PropOf K (ca K C) (Str.ofString f) p (fa C f)
  cms : ∀ m, c.cms.contains m = true → ∃ mc p, ClX.CRead K (ca K C) mc ∧ ClX.CMet K (ca K C) mc (Str.ofString m) p (fa C m)
  mkC : Mk K (ca K C) (fa C "__init__")
  ty1 : PySem.W.findIn K (.ref (ca K C)) "__class__" = some (some (.builtin "object.__class__"))
  mro : PySem.W.mroIn K (ca K C) (.type "object") = some true
  self : PySem.W.selfFirst K (ca K C) = true
/-- a def's promise -/
def spF (K : PySem.W.Frag) (cx : Sc.Cx) (C m : String) : Sp := fun xs H Q E => ∃ ρ h vs, HRel K ρ h H ∧ VRels K ρ H vs xs ∧ Sat (cx.call C m vs h) (Post K ρ H Q) (XP K E ρ H)
def E0 : XK := fun _ _ _ => False
/-- a type's name as a value -/
def tyVal (K : PySem.W.Frag) (cx : Sc.Cx) (a : String) : Value := match cx.cls a with
  | some _ => .ref (ca K a)
  | none => .type a
/-- the facts about the module -/
structure Fx (X : L2.Cx) (CX : CXT) (k : Nat) (cx : Sc.Cx) (fa : String → String → Addr) : Prop where
  prom : ∀ C m, FnR X.prog X.w X.K X.mg X.base CX k (fa C m) (spF X.K cx C m)
  room : Room (k + 2) X.A
  calm : X.calm = true
  fn : ∀ g, cx.fns g = true → fa "" g = ca X.K g
  keep : ∀ g, (cx.fns g = true ∨ ∃ c, cx.cls g = some c) → PySem.W.keepIn X.K (.ref (ca X.K g)) = true
  cls : ∀ C c, cx.cls C = some c → c.exc = false → ClsF X.K fa C c
  cl1 : PySem.W.specialIn X.K (.builtin "object.__class__") "__get__" = some (some (.builtin "getset_descriptor.__get__"))
  cl2 : PySem.W.takesIn X.K (.builtin "object.__class__") = some true
  isi : ∀ a b, cx.kinds.contains a = true → cx.kinds.contains b = true → PySem.W.kitOne X.K (tyVal X.K cx a) (tyVal X.K cx b) = some (isa cx a b)
  bti : ∀ a, a ∈ ["NoneType", "bool", "int", "str", "tuple", "list", "dict"] → cx.cls a = none

section
variable {X : L2.Cx} {CX : CXT} {k : Nat} {cx : Sc.Cx} {fa : String → String → Addr} {E : XK} {ρ : List Addr} {H H0 : Hp} {h : Heap} {σ : L2.St} {env : Env} {s : Shared} {pins : List (Addr × PySem.Obj)} {α : Type}

theorem Fx.units (F : Fx X CX k cx fa) : X.A.units + 65 < cLine := by
  have := F.room.units
  have := F.room.un
  omega
/-- a callee runs -/
theorem Fx.go (F : Fx X CX k cx fa) (hx : Passes CX X E) (I : L2.Inv X pins σ H s) (R : HRel X.K ρ h H) {C m : String} {vs : List Val} {xs : List V} {us : List Value} {Q : V → Hp → Prop} (rs : Vals xs us) (w : VRels X.K ρ H vs xs) (q : Sat (cx.call C m vs h) (Post X.K ρ H Q) (XP X.K E ρ H)) :
    wpAny (model X.prog X.w) X.A (call (.ref (fa C m)) us) (EP X pins σ Q) X.xe s :=
  wpAny_call (run_fnR (F.prom C m) (F.room.mono (by omega)) hx I rs ⟨ρ, h, vs, R, w, q⟩)
theorem callM_of {C m : String} {vs : List Val} {P : Val → Heap → Prop} {EE : String → List (String × Val) → Heap → Prop} (q : Sat (callM cx C m vs h) P EE) : (∃ c, cx.cls C = some c ∧ c.exc = false ∧ c.meths.contains m = true) ∧ Sat (cx.call C m vs h) P EE := by
  unfold callM at q
  split at q
  · rename_i hd
    refine ⟨?_, q⟩
    unfold dun at hd
    split at hd
    · rename_i c hc
      simp only [Bool.and_eq_true, Bool.not_eq_true'] at hd
      exact ⟨c, hc, hd.1, hd.2⟩
    · cases hd
  · exact q.elim
/-- an instance -/
theorem ins_of {v : Val} {x : V} {C : String} {fs : List (String × Val)} (R : HRel X.K ρ h H) (w : WRel X.K ρ H0 H v x) (e : insOf h v = some (C, fs)) : ∃ n a dx fs', v = .loc n ∧ x = .ref a ∧ ρ[n]? = some a ∧ H a = some (.ins (ca X.K C) dx fs') ∧ FRels X.K ρ H fs fs' := by
  unfold insOf at e
  split at e
  · split at e
    · rename_i n C' fs' hn
      cases e
      obtain ⟨a, rfl, hr⟩ := w.loc
      obtain ⟨dx, fs'', e1, rr⟩ := R.obj _ _ a hn hr
      exact ⟨_, a, dx, fs'', rfl, rfl, hr, e1, rr⟩
    · cases e
  · cases e
theorem inst_at {a dx : Addr} {C : Addr} {fs : List (Str × V)} (I : L2.Inv X pins σ H s) (e : H a = some (.ins C dx fs)) : ∃ od, PySem.W.InstAt s.heap a (PySem.W.instObj C dx) C (some od) := by
  obtain ⟨mA, O, _, _, _, _⟩ := ins_get I.hok e
  obtain ⟨od, J, _⟩ := O.look
  exact ⟨od, J⟩
theorem cmpBack_of {Q : V → Hp → Prop} {u : Value} {s' : Shared} (h : EP X pins σ Q u s') : PySem.W.CmpBack (EP X pins σ Q) u s' := by
  obtain ⟨v, H', I, r, q⟩ := h
  have : EP X pins σ Q u s' := ⟨v, H', I, r, q⟩
  cases v with
  | non => cases r; exact this
  | bl _ => cases r; exact this
  | int _ => obtain ⟨t, rfl⟩ := r; exact this
  | str _ => obtain ⟨t, rfl⟩ := r; exact this
  | byt _ => obtain ⟨t, rfl⟩ := r; exact this
  | flt _ => obtain ⟨t, rfl⟩ := r; exact this
  | ref _ => cases r; exact this
  | ty _ => cases r; exact this
theorem v_of_w {v : Val} {x : V} (w : WRel X.K ρ H0 H v x) (hp : ∀ vs, v ≠ .tl vs) : VRel X.K ρ H v x := by
  cases w with
  | v q => exact q
  | tl _ _ _ _ => exact absurd rfl (hp _)
theorem kind_ins {w : Val} {C : String} {c : ClsI} (F : Fx X CX k cx fa) (hc : cx.cls C = some c) (e : kindOf h w = some C) : ∃ fs, insOf h w = some (C, fs) := by
  have nb : ∀ b, b ∈ ["NoneType", "bool", "int", "str", "tuple", "list", "dict"] → some b ≠ some C := fun b hb z => by
    cases z
    rw [F.bti _ hb] at hc
    cases hc
  cases w with
  | loc n =>
    have e : (match h[n]? with | some (.lst _) => some "list" | some (.fz _) => some "list" | some (.dct _) => some "dict" | some (.ins C _) => some C | none => none) = some C := e
    split at e
    · exact absurd e (nb _ (by simp))
    · exact absurd e (nb _ (by simp))
    · exact absurd e (nb _ (by simp))
    · rename_i C' fs hn
      cases e
      exact ⟨fs, by simp [insOf, hn]⟩
    · cases e
  | non => exact absurd e (nb _ (by simp))
  | bl _ => exact absurd e (nb _ (by simp))
  | int _ => exact absurd e (nb _ (by simp))
  | str _ => exact absurd e (nb _ (by simp))
  | tup _ => exact absurd e (nb _ (by simp))
  | tuq _ => exact absurd e (nb _ (by simp))
  | tl _ => exact absurd e (nb _ (by simp))
  | glb _ => cases e
  | ts _ => cases e
  | itr _ => cases e
  | xc _ _ => cases e
theorem own_bin (F : Fx X CX k cx fa) (hx : Passes CX X E) : OwnBin X cx E := by
  intro op m pins s σ H x y u u' Q ρ h H0 v w C fs hm I rx ry R wx wy hi hk q
  obtain ⟨⟨c, hc, hne, hcm⟩, q⟩ := callM_of q
  have G := F.cls C c hc hne
  obtain ⟨n, a, dx, fs', rfl, rfl, hr, ea, _⟩ := ins_of R wx hi
  obtain ⟨fs2, hi2⟩ := kind_ins F hc hk
  obtain ⟨n2, a2, dx2, fs2', rfl, rfl, hr2, ea2, _⟩ := ins_of R wy hi2
  cases rx
  cases ry
  obtain ⟨od, J⟩ := inst_at I ea
  obtain ⟨od2, J2⟩ := inst_at I ea2
  obtain ⟨mm, fr⟩ := I.fr
  have M := G.meth m hcm
  have hd : Str.ofString m = PySem.dunder (bopE op).info.2 := by
    cases op <;> first
      | (cases (show none = some m from hm))
      | (cases (show some _ = some m from hm); with_unfolding_all rfl)
  refine PySem.W.binop_K fr I.mod.kin J (J2.type) G.self (by rw [← hd]; exact M.at_) M.fn ?_
  refine thn (F.go hx I R (xs := [.ref a, .ref a2]) (us := [.ref a, .ref a2]) (.cons rfl (.cons rfl .nil)) (.cons (.loc hr) (.cons (.loc hr2) .nil)) q) fun r s' z => cmpBack_of z
theorem own_in (F : Fx X CX k cx fa) (hx : Passes CX X E) : OwnIn X cx E := by
  intro pins s σ H x y u u' Q ρ0 H0 ρ h v w C fs I rx ry e0 R wx wy hi q
  unfold inE at q
  obtain ⟨v', h1, ρ1, q, e1, R1, r1, more⟩ := box_ok R e0 wx (Sat.unbind q)
  obtain ⟨⟨c, hc, hne, hcm⟩, q⟩ := callM_of (Sat.unbind q)
  have G := F.cls C c hc hne
  obtain ⟨n, a, dx, fs', rfl, rfl, hr, ea, _⟩ := ins_of R wy hi
  cases ry
  obtain ⟨od, J⟩ := inst_at I ea
  obtain ⟨mm, fr⟩ := I.fr
  have M := G.meth "__contains__" hcm
  obtain ⟨m, rfl⟩ := more
  have hr1 : (ρ ++ m)[n]? = some a := by rw [List.getElem?_append_left (List.getElem?_eq_some_iff.mp hr).1]; exact hr
  have go : wpAny (model X.prog X.w) X.A (call (.ref (fa C "__contains__")) [.ref a, u]) (EP X pins σ fun z H' => ∃ b, TruV X.K z H' b ∧ Q b H') X.xe s := by
    refine F.go hx I R1 (xs := [.ref a, x]) (us := [.ref a, u]) (.cons rfl (.cons rx .nil)) (.cons (.loc hr1) (.cons r1 .nil)) (q.mono (fun r h3 z ρ3 H3 x3 e3 R3 w3 => ?_) fun _ _ _ z => z.later e1)
    obtain ⟨b, eb, z⟩ := Sat.opt z
    exact ⟨b, truV_of R3 w3 eb, (show ∀ ρ' H', Ext ρ0 H0 ρ' H' → HRel X.K ρ' h3 H' → Q b H' from z) ρ3 H3 (e1.trans e3) R3⟩
  have tru : ∀ (r : Value) (s' : Shared) (G' : Bool → Shared → Prop), EP X pins σ (fun z H' => ∃ b, TruV X.K z H' b ∧ Q b H') r s' → (∀ b s2 H', L2.Inv X pins σ H' s2 → Q b H' → G' b s2) → wpAny (model X.prog X.w) X.A (truthy r) G' X.xe s' := by
    rintro r s' G' ⟨z, H', I', rz, b, tb, hq⟩ k
    refine thn (tru_ok pins s' σ H' z r (fun c H2 => c = b ∧ H2 = H') I' rz ⟨b, tb, rfl, rfl⟩) fun c s2 ⟨H2, I2, ec, eH⟩ => ?_
    subst ec eH
    exact k _ s2 _ I2 hq
  refine ⟨?_, ?_⟩
  · exact PySem.W.in_K fr I.mod.kin J M.at_ M.fn (thn go fun r s' z => tru r s' _ z fun b s2 H' I2 hq => ⟨b, H', rfl, I2, hq⟩)
  · exact PySem.W.notIn_K fr I.mod.kin J M.at_ M.fn (thn go fun r s' z => tru r s' _ z fun b s2 H' I2 hq => ⟨b, H', rfl, I2, hq⟩)
theorem own_len (F : Fx X CX k cx fa) (hx : Passes CX X E) : OwnLen X cx E := by
  intro pins s σ H x u Q ρ h H0 v C fs I rx R wx hi q
  obtain ⟨⟨c, hc, hne, hcm⟩, q⟩ := callM_of q
  have G := F.cls C c hc hne
  obtain ⟨n, a, dx, fs', rfl, rfl, hr, ea, _⟩ := ins_of R wx hi
  cases rx
  obtain ⟨od, J⟩ := inst_at I ea
  obtain ⟨mm, fr⟩ := I.fr
  have M := G.meth "__len__" hcm
  refine PySem.W.len_K fr I.mod.kin J M.at_ M.fn ?_
  refine wpAny_call (codeAny_mono (F.prom C "__len__" X.A.in1 X.stack s H [.ref a] [.ref a] (fun z H' => ∃ n : Int, z = .int n ∧ (0 ≤ n ∧ n < 2 ^ 63) ∧ Q n H') E ((F.room.mono (by omega)).in1 (k := k)) I.env0.in1 (.cons rfl .nil) ⟨ρ, h, [.loc n], R, .cons (.loc hr) .nil, q.mono (fun r h3 z ρ3 H3 x3 e3 R3 w3 => ?_) fun _ _ _ z => z⟩) fun r s' hq => ?_)
  · obtain ⟨n, rfl, hn, z⟩ := z
    exact ⟨n, w3.int, hn, z ρ3 H3 e3 R3⟩
  · cases r with
    | error e => exact hx pins σ H s e s' I hq
    | ok fl =>
      cases fl with
      | ret u =>
        obtain ⟨z, H', I', rz, n, rfl, hn, hq2⟩ := I.after hq
        obtain ⟨t, rfl⟩ := rz
        exact ⟨hn, n, _, H', rfl, I'.tok _, hq2⟩
      | next => exact False.elim hq
      | brk => exact False.elim hq
      | cont => exact False.elim hq

/-! ### ~x -/
theorem px_inv {a : Expr} {ia : Ex} {pos : Pos} (F : Fx X CX k cx fa) (hx : Passes CX X E) (ha : PX X cx E a ia) : PX X cx E (.UnaryOp .Invert a pos) (.inv ia) := by
  refine ⟨fun pins s σ H Q I q => ?_⟩
  obtain ⟨ρ, env, h, R, S, q⟩ := q
  refine UnaryOp_ (ha.go I R S (Sat.unbind q) fun v h1 ρ1 H1 x u s1 p I1 rx e1 R1 S1 w1 => ?_)
  split at p
  · rename_i C fs hi
    obtain ⟨⟨c, hc, hne, hcm⟩, p⟩ := callM_of p
    have G := F.cls C c hc hne
    obtain ⟨n, a, dx, fs', rfl, rfl, hr, ea, _⟩ := ins_of R1 w1 hi
    cases rx
    obtain ⟨od, J⟩ := inst_at I1 ea
    obtain ⟨mm, fr⟩ := I1.fr
    have M := G.meth "__invert__" hcm
    refine PySem.W.ksp_inv fr I1.mod.kin J M.at_ M.fn ?_
    exact F.go hx I1 R1 (xs := [.ref a]) (us := [.ref a]) (.cons rfl .nil) (.cons (.loc hr) .nil) (p.mono (fun r h3 z ρ3 H3 x3 e3 R3 w3 => z.at e1 e3 R3 w3) fun _ _ _ z => z.later e1)
  · exact p.elim

/-! ### attributes -/
theorem fl_look (f : String) : ∀ {fs : List (String × Val)} {fs' : List (Str × V)}, FRels X.K ρ H fs fs' → (match fs.lookup f with | some v => ∃ x, fs'.lookup (Str.ofString f) = some x ∧ VRel X.K ρ H v x | none => fs'.lookup (Str.ofString f) = none)
  | _, _, .nil => rfl
  | p :: fs, q :: fs', .cons r t => by
    obtain ⟨g, v⟩ := p
    obtain ⟨g', x⟩ := q
    have r1 : g' = Str.ofString g := r.1
    subst r1
    by_cases hg : f = g
    · subst hg
      simp only [List.lookup_cons, beq_self_eq_true]
      exact ⟨x, rfl, r.2⟩
    · have h1 : (f == g) = false := beq_eq_false_iff_ne.mpr hg
      have h2 : (Str.ofString f == Str.ofString g) = false := beq_eq_false_iff_ne.mpr fun z => hg (ofString_inj z)
      simp only [List.lookup_cons, h1, h2]
      exact fl_look f t
theorem px_attr {a : Expr} {ia : Ex} {f : String} {pos : Pos} (F : Fx X CX k cx fa) (hx0 : Passes CX X.nox E0) (ha : PX X cx E a ia) (hb : attributeBase a (Str.ofString f) X.env (eval a X.env) = eval a X.env) : PX X cx E (.Attribute a (Str.ofString f) pos) (.attr ia f) := by
  refine ⟨fun pins s σ H Q I q => ?_⟩
  obtain ⟨ρ, env, h, R, S, q⟩ := q
  refine attr_of hb (ha.go I R S (Sat.unbind q) fun v h1 ρ1 H1 x u s1 p I1 rx e1 R1 S1 w1 => ?_)
  unfold attrE at p
  split at p
  · rename_i C fs hi
    split at p
    · rename_i c hc
      obtain ⟨n, a, dx, fs', rfl, rfl, hr, ea, rr⟩ := ins_of R1 w1 hi
      cases rx
      split at p
      · exact p.elim
      · rename_i hne
        have G := F.cls C c hc (by simpa using hne)
        split at p
        · rename_i hp
          obtain ⟨p0, hpp⟩ := G.prop f hp
          -- a property
          obtain ⟨mA, O, _, _, _, _⟩ := ins_get I1.hok ea
          obtain ⟨od, J, _⟩ := O.look
          obtain ⟨rest, hrec⟩ := hpp.rec_
          have I2 := I1.tok (s1.toks + 1)
          have hcl : (PySem.W.clsIn X.K (ca X.K C)).isSome = true := by
            obtain ⟨cd, hc, _⟩ := PySem.W.any_some G.cls.hd
            rw [hc]
            rfl
          have p : Sat (cx.call C f [.loc n] h1) (Post X.K ρ H Q) (fun _ _ _ => False) := by
            revert p
            cases cx.call C f [.loc n] h1 with
            | ok => exact id
            | ex => exact id
            | no => exact id
          refine PySem.W.get_bind I1.kIn J (PySem.W.plainGet_of (G.cls.get (Str.ofString f))).1 (PySem.W.findObj_data hcl hpp.at_ hpp.get hpp.tak) (PySem.W.plainGet_of (G.cls.get (Str.ofString f))).2 (wpAny_call (PySem.W.prop_get (s := { s1 with toks := s1.toks + 1 }) I1.kIn hrec ?_))
          refine codeAny_mono (F.prom C f X.A.in1 X.stack { s1 with toks := s1.toks + 1 } H1 [.ref a] [.ref a] Q E0 ((F.room.mono (by omega)).in1 (k := k)) I2.env0.in1 (.cons rfl .nil) ⟨ρ1, h1, [.loc n], R1, .cons (.loc hr) .nil, p.mono (fun r h3 z ρ3 H3 x3 e3 R3 w3 => z.at e1 e3 R3 w3) fun _ _ _ z => z.elim⟩) fun r s' hq => ?_
          cases r with
          | error er => exact False.elim (hx0 pins σ H1 { s1 with toks := s1.toks + 1 } er s' (I2.wish _) hq)
          | ok fl =>
            cases fl with
            | ret u =>
              obtain ⟨v, H', I3, rv, q3⟩ := I2.after hq
              show wpAny _ _ (handedOut u) _ _ _
              rw [PySem.W.handedOut_of (handed_of rv)]
              exact wpAny_pure ⟨v, H', I3, rv, q3⟩
            | next => exact False.elim hq
            | brk => exact False.elim hq
            | cont => exact False.elim hq
        · split at p
          · rename_i hp
            obtain ⟨v, ev, p⟩ := Sat.opt p
            have l := fl_look f rr
            rw [ev] at l
            obtain ⟨y, l, ry⟩ := l
            exact getattr_ok I1 ea G.cls (G.attr f hp) l fun u' s2 I2 ru => ⟨y, H1, I2, ru, (show Post X.K ρ H Q v h1 from p) ρ1 H1 y e1 R1 (.v ry)⟩
          · exact p.elim
    · exact p.elim
  · exact p.elim

/-! ### calls -/
theorem run_mk {C : Addr} {f : Addr} {sp : Sp} {Q : VK} {us : List Value} {vs : List V} (M : Mk X.K C f) (F : FnR X.prog X.w X.K X.mg X.base CX k f sp) (hr : Room (k + 1) X.A) (hx : Passes CX X E) (I : L2.Inv X pins σ H s) (r : Vals vs us)
    (h : ∀ x dx, H x = none → H dx = none → dx ≠ x → sp (.ref x :: vs) (upd (upd H dx (.own x)) x (.ins C dx [])) (fun v H2 => v = .non ∧ Q (.ref x) H2) E) : wpAny (model X.prog X.w) X.A (call (.ref C) us) (EP X pins σ Q) X.xe s := by
  have hq := h (s.heap.objs.size + 1) s.heap.objs.size (I.hok.fresh (Nat.le_succ _)) (I.hok.fresh (Nat.le_refl _)) (Nat.ne_of_lt (Nat.lt_succ_self _))
  have I2 := Inv.made (C := C) I
  have r2 : Vals (V.ref (s.heap.objs.size + 1) :: vs) (Value.ref (s.heap.objs.size + 1) :: us) := .cons rfl r
  refine wpAny_call (make_map (f := f) I.kIn M.makes M.init (beq_iff_eq.mp M.fn) (codeAny_mono (F _ X.stack _ _ _ _ _ E (hr.make C us []) (I2.env0.make C us []) r2 hq) fun r s' hq' => ?_))
  cases r with
  | error e => exact hx pins σ _ _ e s' I2 hq'
  | ok fl =>
    cases fl with
    | ret u =>
      obtain ⟨v, H', I3, rv, ev, q3⟩ := I2.after hq'
      subst ev
      exact ⟨rv, ⟨V.ref (s.heap.objs.size + 1), H', I3, rfl, q3⟩⟩
    | next => exact False.elim hq'
    | brk => exact False.elim hq'
    | cont => exact False.elim hq'
theorem callG_go (F : Fx X CX k cx fa) (hx : Passes CX X E) {g : String} {vs : List Val} {xs : List V} {us : List Value} {Q : V → Hp → Prop} (I : L2.Inv X pins σ H s) (R : HRel X.K ρ h H) (rs : Vals xs us) (w : VRels X.K ρ H vs xs) (q : Sat (callG cx g vs h) (Post X.K ρ H Q) (XP X.K E ρ H)) :
    wpAny (model X.prog X.w) X.A (call (.ref (ca X.K g)) us) (EP X pins σ Q) X.xe s ∧ PySem.W.keepIn X.K (.ref (ca X.K g)) = true := by
  unfold callG at q
  split at q
  · rename_i c hc
    refine ⟨?_, F.keep g (.inr ⟨c, hc⟩)⟩
    unfold make at q
    rw [hc] at q
    by_cases hne : c.exc = true
    · simp only [hne, if_true] at q
      exact q.elim
    · simp only [hne] at q
      have G := F.cls g c hc (by simpa using hne)
      refine run_mk G.mkC (F.prom g "__init__") (F.room.mono (by omega)) hx I rs fun x dx hx1 hdx hne => ?_
      have e1 : Ext ρ H ρ (upd H dx (.own x)) := .new hdx
      have hx2 : upd H dx (.own x) x = none := by rw [upd_ne hne.symm]; exact hx1
      have R1 := (R.new (o := .own x) hdx)
      have R2 := (R1.new (o := .ins (ca X.K g) dx []) hx2)
      have R3 := R2.number (fresh_out R hx1) (o := .ins g []) ⟨dx, [], upd_same, .nil⟩
      have e3 : Ext ρ H (ρ ++ [x]) (upd (upd H dx (.own x)) x (.ins (ca X.K g) dx [])) := by
        refine ⟨⟨[x], rfl⟩, fun a o ea na => ?_⟩
        have h1 : a ≠ x := fun z => by rw [z, hx1] at ea; cases ea
        have h2 : a ≠ dx := fun z => by rw [z, hdx] at ea; cases ea
        exact ⟨by rw [upd_ne h1, upd_ne h2]; exact ea, by simp [na, h1]⟩
      refine ⟨ρ ++ [x], h ++ [.ins g []], .loc h.length :: vs, R3, .cons (.loc ?_) (w.later R e3), (Sat.unbind q).mono (fun r h3 z ρ3 H3 x3 e4 R4 w4 => ?_) fun _ _ _ z => z.later e3⟩
      · rw [← R.len, List.getElem?_append_right (Nat.le_refl _)]; simp
      · split at z
        · refine ⟨w4.non, (show Post X.K ρ H Q (.loc h.length) h3 from z) ρ3 H3 _ (e3.trans e4) R4 (.v (.loc (e4.num _ _ ?_)))⟩
          rw [← R.len, List.getElem?_append_right (Nat.le_refl _)]; simp
        · exact z.elim
  · split at q
    · rename_i hf
      refine ⟨?_, F.keep g (.inl hf)⟩
      rw [← F.fn g hf]
      exact F.go hx I R rs w q
    · exact q.elim
end
end Sc
end
section
set_option Elab.async false
set_option linter.all false
set_option maxRecDepth 100000
set_option maxHeartbeats 4000000
set_option autoImplicit false
/-! Calls as expressions. -/
namespace Sc
open PySem PySem.Spec PyProof.Rows L2

section
variable {X : L2.Cx} {CX : CXT} {k : Nat} {cx : Sc.Cx} {fa : String → String → Addr} {E : XK} {ρ : List Addr} {H H0 : Hp} {h : Heap} {σ : L2.St} {env : Env} {s : Shared} {pins : List (Addr × PySem.Obj)} {α : Type}

/-! ### trees without stars -/
def noStar : Expr → Bool
  | .Starred _ _ => false
  | _ => true
theorem star_ns {e : Expr} {es : List Expr} {env : PySem.Env} (h : noStar e = true) : starEach (e :: es) env = (false, eval e env) :: starEach es env := by
  cases e <;> first | rfl | cases h
theorem star_all {env : PySem.Env} {pos : Pos} : ∀ {es : List Expr}, es.all noStar = true → (backTo pos (starEach es env)).any (·.1) = false ∧ (backTo pos (starEach es env)).all (fun x => !x.1) = true
  | [], _ => ⟨rfl, rfl⟩
  | e :: es, h => by
    rw [List.all_cons, Bool.and_eq_true] at h
    obtain ⟨i1, i2⟩ := star_all (env := env) (pos := pos) h.2
    rw [star_ns h.1]
    exact ⟨by show (false || (backTo pos (starEach es env)).any (·.1)) = false; rw [i1]; rfl, by show (true && (backTo pos (starEach es env)).all (fun x => !x.1)) = true; rw [i2]; rfl⟩
/-- arguments handed to what is known -/
theorem cw_go {as : List Expr} {ir : Its} {f : Value} {first : List Value} {pos : Pos} (hn : as = [] → ir = .nil) (hk : PySem.W.keepIn X.K f = true) (hs : as.all noStar = true) (ha : PXI X cx E as ir) (I : L2.Inv X pins σ H s) (R : HRel X.K ρ h H) (S : SRel X.K ρ H env σ) {P : List Val → Heap → Prop} (q : Sat (evI cx ir env h) P (XP X.K E ρ H)) {G : Value → Shared → Prop}
    (go : ∀ vs h1 ρ1 H1 xs us s1, P vs h1 → L2.Inv X pins σ H1 s1 → Vals xs us → Ext ρ H ρ1 H1 → HRel X.K ρ1 h1 H1 → SRel X.K ρ1 H1 env σ → VRels X.K ρ1 H1 vs xs → wpAny (model X.prog X.w) X.A (call f (first ++ us)) G X.xe s1) :
    wpAny (model X.prog X.w) X.A (callWith pos f first (backTo pos (starEach as X.env)) (backToKw pos (keywordEach [] X.env))) G X.xe s := by
  cases as with
  | nil =>
    obtain rfl := hn rfl
    exact PySem.W.callWith_K0 (first := first) I.kIn hk (go [] h ρ H [] [] s q I .nil .refl R S .nil)
  | cons e es =>
    rw [List.all_cons, Bool.and_eq_true] at hs
    refine PySem.W.callWith_K (first := first) (h₀ := X.base) I.ok.mod.kin hk (ha.go pos I R S q fun vs h1 ρ1 H1 xs us s1 p I1 r1 e1 R1 S1 w1 => ⟨I1.kIn, go vs h1 ρ1 H1 xs us s1 p I1 r1 e1 R1 S1 w1⟩) (star_ns hs.1) (star_all hs.2).1
/-- f(..), f a def or a class of the module -/
theorem px_call {f : String} {as : List Expr} {ir : Its} {p pos : Pos} (F : Fx X CX k cx fa) (hx : Passes CX X E) (hg : Gl X (Str.ofString f)) (hm : X.mg (Str.ofString f) = some (.ref (ca X.K f))) (hd : (Str.ofString f == ("__debug__" : Str)) = false) (hf : cx.fns f = true ∨ ∃ c, cx.cls f = some c) (hn : as = [] → ir = .nil) (hs : as.all noStar = true) (ha : PXI X cx E as ir) :
    PX X cx E (.Call (.Name (Str.ofString f) p) as [] pos) (.call f ir) := by
  refine ⟨fun pins s σ H Q I q => ?_⟩
  obtain ⟨ρ, env, h, R, S, q⟩ := q
  refine wpAny_Call_Name_kw (ld_glob I hg hm ?_ hd)
  refine cw_go hn (F.keep f hf) hs ha I R S (Sat.unbind q) fun vs h1 ρ1 H1 xs us s1 p I1 r1 e1 R1 S1 w1 => ?_
  exact (callG_go F hx I1 R1 r1 w1 (p.mono (fun v h2 z ρ2 H2 x e2 R2 w2 => z.at e1 e2 R2 w2) fun _ _ _ z => z.later e1)).1
/-- f(..), f a variable that holds a def, a class, or an instance that can be called -/
theorem px_callv {x : Str} {i : Nat} {as : List Expr} {ir : Its} {p pos : Pos} (F : Fx X CX k cx fa) (hx : Passes CX X E) (hf : PX X cx E (.Name x p) (.v i)) (hn : as = [] → ir = .nil) (hs : as.all noStar = true) (ha : PXI X cx E as ir) :
    PX X cx E (.Call (.Name x p) as [] pos) (.callv (.v i) ir) := by
  refine ⟨fun pins s σ H Q I q => ?_⟩
  obtain ⟨ρ, env, h, R, S, q⟩ := q
  refine wpAny_Call_Name_kw (hf.go I R S (Sat.unbind q) fun v h1 ρ1 H1 y u s1 p I1 rx e1 R1 S1 w1 => ?_)
  split at p
  · rename_i kk hk
    unfold calleeE at hk
    split at hk
    · rename_i g
      split at hk
      · rename_i hg
        cases hk
        obtain rfl := w1.glb
        cases rx
        have hg' : cx.fns g = true ∨ ∃ c, cx.cls g = some c := by
          rcases Bool.or_eq_true_iff.mp hg with z | z
          · exact .inl z
          · exact .inr (Option.isSome_iff_exists.mp z)
        refine cw_go hn (F.keep g hg') hs ha I1 R1 S1 ((Sat.unbind p).mono (fun _ _ z => z) fun _ _ _ z => z.later e1) fun vs h2 ρ2 H2 xs us s2 p2 I2 r2 e2 R2 S2 w2 => ?_
        exact (callG_go F hx I2 R2 r2 w2 (p2.mono (fun v h3 z ρ3 H3 x e3 R3 w3 => z.at (e1.trans e2) e3 R3 w3) fun _ _ _ z => z.later (e1.trans e2))).1
      · cases hk
    · split at hk
      · rename_i C fs hC
        split at hk
        · rename_i hd
          cases hk
          have hd2 := hd
          unfold dun at hd2
          split at hd2
          · rename_i c hc
            simp only [Bool.and_eq_true, Bool.not_eq_true'] at hd2
            have G := F.cls C c hc hd2.1
            have M := G.meth "__call__" hd2.2
            obtain ⟨n, a, dx, fs', rfl, rfl, hr, ea, rr⟩ := ins_of R1 w1 hC
            cases rx
            have p := (Sat.unbind p).mono (fun _ _ z => z) (fun _ _ _ z => XP.later e1 z)
            have fin : ∀ vs h2 ρ2 H2 xs us s3, Sat (if (insOf h2 (.loc n)).map (·.1) = some C then cx.call C "__call__" (.loc n :: vs) h2 else .no) (Post X.K ρ H Q) (XP X.K E ρ H) → L2.Inv X pins σ H2 s3 → Vals xs us → Ext ρ1 H1 ρ2 H2 → HRel X.K ρ2 h2 H2 → VRels X.K ρ2 H2 vs xs → (∃ C ox od, PySem.W.InstAt s3.heap a ox C od ∧ ox.data = .plain) ∧ wpAny (model X.prog X.w) X.A (call (.ref a) us) (EP X pins σ Q) X.xe s3 := by
              intro vs h2 ρ2 H2 xs us s3 q2 I3 r3 e2 R2 w2
              split at q2
              · rename_i hi2
                obtain ⟨⟨C', fs2⟩, hi3, hC'⟩ := map_some hi2
                cases (show C' = C from hC')
                obtain ⟨n2, a2, dx2, fs2', en, ea2, hr2, ea3, _⟩ := ins_of (H0 := H2) R2 (.v (.loc (e2.num _ _ hr))) hi3
                cases en
                cases ea2
                obtain ⟨ox, od, J, hdt⟩ := StX.insC_at I3 (.inr ⟨_, _, ea3⟩)
                refine ⟨⟨_, ox, od, J, hdt⟩, ?_⟩
                have hfi : PySem.W.fnIn X.K (fa C "__call__") = true := G.fi "__call__" hd2.2
                exact StX.run_callO ⟨M.at_, M.fn, hfi⟩ (F.prom C "__call__") (F.room.mono (by omega)) hx I3 (.inr ⟨_, _, ea3⟩) r3 ⟨ρ2, h2, .loc n :: vs, R2, .cons (.loc hr2) w2, q2.mono (fun v h3 z ρ3 H3 x e3 R3 w3 => z.at (e1.trans e2) e3 R3 w3) fun _ _ _ z => z.later (e1.trans e2)⟩
              · exact q2.elim
            cases as with
            | nil =>
              obtain rfl := hn rfl
              refine StX.callO_of rfl (FK.evalArgs_any rfl (Calls.spliced_nil ?_))
              exact fin [] h1 ρ1 H1 [] [] s1 p I1 .nil .refl R1 .nil
            | cons e es =>
              rw [List.all_cons, Bool.and_eq_true] at hs
              exact StX.callO_with (ha.go pos I1 R1 S1 p fun vs h2 ρ2 H2 xs us s2 p2 I2 r2 e2 R2 S2 w2 => fin vs h2 ρ2 H2 xs us s2 p2 I2 r2 e2 R2 w2) (star_ns hs.1) (star_all hs.2).1
          · cases hd2
        · cases hk
      · cases hk
  · exact p.elim

/-! ### methods -/
/-- the tree of a method call, opened -/
theorem meth_open {o : Expr} {name : Str} {apos pos : Pos} {as : List Expr} {G : Value → Shared → Prop} (hb : attributeBase o name X.env (eval o X.env) = eval o X.env) (hs : as.all noStar = true) (hl : as.length < 30) (hline : (apos.endLine == pos.line) = true)
    (h : wpAny (model X.prog X.w) X.A (eval o X.env) (fun ov s₁ => ∀ pl : Sem Bool, wpAny (model X.prog X.w) X.A (getMethod ov name pl) (fun fx s₂ => wpAny (model X.prog X.w) X.A (callWith pos fx.1 fx.2 (backTo pos (starEach as X.env)) (backToKw pos (keywordEach [] X.env))) G X.xe s₂) X.xe s₁) X.xe s) :
    wpAny (model X.prog X.w) X.A (eval (.Call (.Attribute o name apos) as [] pos) X.env) G X.xe s := by
  rw [arm_eval_Call, hb]
  refine wpAny_bind (wpAny_mono h (fun ov s₁ h₁ => ?_) fun _ _ e => e)
  refine wpAny_bind (wpAny_standAt ?_)
  have hform : methodCallForm (as.length + ([] : List Keyword).length) (backTo pos (starEach as X.env)) (backToKw pos (keywordEach [] X.env)) = true := by
    unfold methodCallForm
    rw [(star_all hs).2]
    show (true && true && decide (as.length + 0 + 0 < 30)) = true
    simp [hl]
  have hpos : methodCallPos true o X.env apos pos = pure pos := by unfold methodCallPos; simp [hline]
  unfold methodCall
  rw [hform]
  refine wpAny_bind (wpAny_holding (wpAny_mono (h₁ _) (fun fx s₂ h₂ => ?_) fun _ _ e => e))
  exact wpAny_bind (wpAny_of_eq hpos h₂)
theorem bm_ids {m id : String} {v : Val} (e : bm h m v = some id) : id ∈ ["str.join", "str.split", "tuple.index", "list.index", "dict.get", "list.append", "list.pop", "list.clear", "dict.clear"] ∧
    ((∃ y, v = .str y ∧ (id = "str.join" ∧ m = "join" ∨ id = "str.split" ∧ m = "split")) ∨ (∃ ys, v = .tuq ys ∧ id = "tuple.index" ∧ m = "index") ∨ (∃ ys, listOf h v = some ys ∧ (id = "list.index" ∧ m = "index" ∨ id = "list.append" ∧ m = "append" ∨ id = "list.pop" ∧ m = "pop" ∨ id = "list.clear" ∧ m = "clear")) ∨ (∃ n kvs, v = .loc n ∧ h[n]? = some (.dct kvs) ∧ (id = "dict.get" ∧ m = "get" ∨ id = "dict.clear" ∧ m = "clear"))) := by
  cases v with
  | str y =>
    have e : (if m == "join" then some "str.join" else if m == "split" then some "str.split" else none) = some id := e
    split at e
    · rename_i hm
      cases e
      exact ⟨by simp, .inl ⟨y, rfl, .inl ⟨rfl, eq_of_beq hm⟩⟩⟩
    · split at e
      · rename_i hm
        cases e
        exact ⟨by simp, .inl ⟨y, rfl, .inr ⟨rfl, eq_of_beq hm⟩⟩⟩
      · cases e
  | tuq ys =>
    have e : (if m == "index" then some "tuple.index" else none) = some id := e
    split at e
    · rename_i hm
      cases e
      exact ⟨by simp, .inr (.inl ⟨ys, rfl, rfl, eq_of_beq hm⟩)⟩
    · cases e
  | tl ys =>
    have e : (if m == "index" then some "list.index" else none) = some id := e
    split at e
    · rename_i hm
      cases e
      exact ⟨by simp, .inr (.inr (.inl ⟨ys, rfl, .inl ⟨rfl, eq_of_beq hm⟩⟩))⟩
    · cases e
  | loc n =>
    have e : (match h[n]? with
      | some (.lst _) => if m == "append" then some "list.append" else if m == "pop" then some "list.pop" else if m == "clear" then some "list.clear" else if m == "index" then some "list.index" else none
      | some (.fz _) => if m == "index" then some "list.index" else none
      | some (.dct _) => if m == "get" then some "dict.get" else if m == "clear" then some "dict.clear" else none
      | _ => none) = some id := e
    split at e
    · rename_i ys hn
      have hl : listOf h (.loc n) = some ys := by simp [listOf, hn]
      split at e
      · rename_i hm
        cases e
        exact ⟨by simp, .inr (.inr (.inl ⟨ys, hl, .inr (.inl ⟨rfl, eq_of_beq hm⟩)⟩))⟩
      · split at e
        · rename_i hm
          cases e
          exact ⟨by simp, .inr (.inr (.inl ⟨ys, hl, .inr (.inr (.inl ⟨rfl, eq_of_beq hm⟩))⟩))⟩
        · split at e
          · rename_i hm
            cases e
            exact ⟨by simp, .inr (.inr (.inl ⟨ys, hl, .inr (.inr (.inr ⟨rfl, eq_of_beq hm⟩))⟩))⟩
          · split at e
            · rename_i hm
              cases e
              exact ⟨by simp, .inr (.inr (.inl ⟨ys, hl, .inl ⟨rfl, eq_of_beq hm⟩⟩))⟩
            · cases e
    · rename_i ys hn
      have hl : listOf h (.loc n) = some ys := by simp [listOf, hn]
      split at e
      · rename_i hm
        cases e
        exact ⟨by simp, .inr (.inr (.inl ⟨ys, hl, .inl ⟨rfl, eq_of_beq hm⟩⟩))⟩
      · cases e
    · rename_i kvs hn
      split at e
      · rename_i hm
        cases e
        exact ⟨by simp, .inr (.inr (.inr ⟨n, kvs, rfl, hn, .inl ⟨rfl, eq_of_beq hm⟩⟩))⟩
      · split at e
        · rename_i hm
          cases e
          exact ⟨by simp, .inr (.inr (.inr ⟨n, kvs, rfl, hn, .inr ⟨rfl, eq_of_beq hm⟩⟩))⟩
        · cases e
    · cases e
  | _ => cases e
/-- getting a built-in method -/
theorem getbm_ok {m id : String} {v : Val} {x : V} {u : Value} {pl : Sem Bool} {G : Value × List Value → Shared → Prop} (I : L2.Inv X pins σ H s) (R : HRel X.K ρ h H) (w : WRel X.K ρ H0 H v x) (rx : L2.RelV x u) (e : bm h m v = some id) (hG : G (.builtin id, [u]) s) : wpAny (model X.prog X.w) X.A (getMethod u (Str.ofString m) pl) G X.xe s := by
  obtain ⟨_, c⟩ := bm_ids e
  rcases c with ⟨y, rfl, c⟩ | ⟨ys, rfl, rfl, rfl⟩ | ⟨ys, hl, c⟩ | ⟨n, kvs, rfl, hn, c⟩
  · obtain rfl := w.str
    obtain ⟨h1, h2⟩ := tyV_is (T := "str") I rx rfl
    rcases c with ⟨rfl, rfl⟩ | ⟨rfl, rfl⟩
    · exact getMethod_builtin h1 PySem.F.plainAttrs_str PySem.F.slot_str_join PySem.F.type_str_join h2 hG
    · exact getMethod_builtin h1 PySem.F.plainAttrs_str PySem.F.slot_str_split PySem.F.type_str_split h2 hG
  · obtain ⟨a, o, xs, rfl, hd, hc, ht, rr⟩ := w.tuq
    cases rx
    obtain ⟨e1, _⟩ := I.hok a _ ht
    exact getMethod_builtin (show s.TypeIs (.ref a) "tuple" from ⟨o, e1, hc⟩) PySem.F.plainAttrs_tuple PySem.F.slot_tuple_index PySem.F.type_tuple_index (fun b z => by cases z; exact ⟨o, e1, hd⟩) hG
  · obtain ⟨a, xs, rfl, hs, rr⟩ := list_of R w hl
    obtain ⟨h1, h2⟩ := tyV_is (T := "list") (x := .ref a) I rx (.inl ⟨rfl, xs, hs⟩)
    rcases c with ⟨rfl, rfl⟩ | ⟨rfl, rfl⟩ | ⟨rfl, rfl⟩ | ⟨rfl, rfl⟩
    · exact getMethod_builtin h1 PySem.F.plainAttrs_list PySem.F.slot_list_index PySem.F.type_list_index h2 hG
    · exact getMethod_builtin h1 PySem.F.plainAttrs_list PySem.F.slot_list_append PySem.F.type_list_append h2 hG
    · exact getMethod_builtin h1 PySem.F.plainAttrs_list PySem.F.slot_list_pop PySem.F.type_list_pop h2 hG
    · exact getMethod_builtin h1 PySem.F.plainAttrs_list PySem.F.slot_list_clear PySem.F.type_list_clear h2 hG
  · obtain ⟨a, rfl, hr⟩ := w.loc
    obtain ⟨kvs', e1, rr⟩ := R.obj n _ a hn hr
    obtain ⟨h1, h2⟩ := tyV_is (T := "dict") (x := .ref a) I rx (.inr (.inr (.inl ⟨rfl, .inl ⟨kvs', e1⟩⟩)))
    rcases c with ⟨rfl, rfl⟩ | ⟨rfl, rfl⟩
    · exact getMethod_builtin h1 PySem.F.plainAttrs_dict PySem.F.slot_dict_get PySem.F.type_dict_get h2 hG
    · exact getMethod_builtin h1 PySem.F.plainAttrs_dict PySem.F.slot_dict_clear PySem.F.type_dict_clear h2 hG

theorem px_meth {o : Expr} {io : Ex} {m : String} {as : List Expr} {ir : Its} {apos pos : Pos} (F : Fx X CX k cx fa) (hx : Passes CX X E) (ho : PX X cx E o io) (hb : attributeBase o (Str.ofString m) X.env (eval o X.env) = eval o X.env) (hn : as = [] → ir = .nil) (hs : as.all noStar = true) (hl : as.length < 30) (hline : (apos.endLine == pos.line) = true) (ha : PXI X cx E as ir) :
    PX X cx E (.Call (.Attribute o (Str.ofString m) apos) as [] pos) (.meth io m ir) := by
  refine ⟨fun pins s σ H Q I q => ?_⟩
  obtain ⟨ρ, env, h, R, S, q⟩ := q
  refine meth_open hb hs hl hline (ho.go I R S (Sat.unbind q) fun v h1 ρ1 H1 x u s1 p I1 rx e1 R1 S1 w1 pl => ?_)
  split at p
  · rename_i kk hk
    have p := (Sat.unbind p).mono (fun _ _ z => z) (fun _ _ _ z => XP.later e1 z)
    unfold recvE at hk
    split at hk
    · -- a class
      rename_i C
      split at hk
      · rename_i c hc
        split at hk
        · cases hk
        · rename_i hne
          split at hk
          · rename_i hm
            cases hk
            obtain rfl := w1.glb
            cases rx
            obtain ⟨mc, p0, hr, hcm⟩ := (F.cls C c hc (by simpa using hne)).cms m hm
            refine ClX.getmethcm_ok I1 hr hcm fun s2 I2 => ?_
            have fin : ∀ vs h2 ρ2 H2 xs us s3, Sat (cx.call C m (.glb C :: vs) h2) (Post X.K ρ H Q) (XP X.K E ρ H) → L2.Inv X ((s1.heap.objs.size, PySem.W.methodObj (.ref (fa C m)) (.ref (ca X.K C))) :: pins) σ H2 s3 → Vals xs us → Ext ρ1 H1 ρ2 H2 → HRel X.K ρ2 h2 H2 → VRels X.K ρ2 H2 vs xs → wpAny (model X.prog X.w) X.A (call (.ref s1.heap.objs.size) us) (EP X pins σ Q) X.xe s3 := by
              intro vs h2 ρ2 H2 xs us s3 q2 I3 r3 e2 R2 w2
              refine ClX.run_cm (F.prom C m) (F.room.mono (by omega)) hx I3 r3 ⟨ρ2, h2, .glb C :: vs, R2, .cons (.glb C) w2, q2.mono (fun v h3 z ρ3 H3 x e3 R3 w3 => z.at (e1.trans e2) e3 R3 w3) fun _ _ _ z => z.later (e1.trans e2)⟩
            cases as with
            | nil =>
              obtain rfl := hn rfl
              refine PySem.W.callWith_M0 (first := []) ⟨ClX.pin_at I2, I2.kIn⟩ hcm.fi ?_
              exact fin [] h1 ρ1 H1 [] [] s2 p I2 .nil .refl R1 .nil
            | cons e es =>
              rw [List.all_cons, Bool.and_eq_true] at hs
              refine ClX.callwith_cm I2 (ClX.base_none I1 (Nat.le_refl _)) hcm.fi (ha.go pos I2 R1 S1 p fun vs h2 ρ2 H2 xs us s3 p2 I3 r3 e2 R2 S2 w2 => ⟨⟨ClX.pin_at I3, I3.kIn⟩, ?_⟩) (star_ns hs.1) (star_all hs.2).1
              exact fin vs h2 ρ2 H2 xs us s3 p2 I3 r3 e2 R2 w2
          · cases hk
      · cases hk
    · split at hk
      · rename_i C fs hi
        split at hk
        · rename_i c hc
          split at hk
          · rename_i hm
            cases hk
            simp only [Bool.and_eq_true, Bool.not_eq_true', Option.isNone_iff_eq_none] at hm
            have G := F.cls C c hc hm.1.1
            obtain ⟨n, a, dx, fs', rfl, rfl, hr, ea, rr⟩ := ins_of R1 w1 hi
            cases rx
            have l := fl_look m rr
            rw [hm.2] at l
            have M := G.meth m hm.1.2
            refine getmeth_ok I1 ea G.cls M l ?_
            refine cw_go (first := [.ref a]) hn M.kp hs ha I1 R1 S1 p fun vs h2 ρ2 H2 xs us s2 p2 I2 r2 e2 R2 S2 w2 => ?_
            exact F.go hx I2 R2 (xs := .ref a :: xs) (us := .ref a :: us) (.cons rfl r2) (.cons (.loc (e2.num _ _ hr)) w2) (p2.mono (fun v h3 z ρ3 H3 x e3 R3 w3 => z.at (e1.trans e2) e3 R3 w3) fun _ _ _ z => z.later (e1.trans e2))
          · cases hk
        · cases hk
      · obtain ⟨id, eid, rfl⟩ := map_some hk
        refine getbm_ok I1 R1 w1 rx eid ?_
        refine Calls.callWith_builtin (star_all hs).1 (FK.evalArgs_any (star_all hs).1 (ha.go pos I1 R1 S1 p fun vs h2 ρ2 H2 xs us s2 p2 I2 r2 e2 R2 S2 w2 => ?_))
        exact mt_all F.units (bm_ids eid).1 pins s2 σ H2 x xs u us Q ρ2 H h2 v vs I2 rx r2 R2 (w1.later R1 e2) w2 (p2.mono (fun v h3 z ρ3 H3 x e3 R3 w3 => z.at (e1.trans e2) e3 R3 w3) fun _ _ _ z => z.later (e1.trans e2))
  · exact p.elim

/-! ### isinstance -/
theorem kind_ty {v : Val} {x : V} {a : String} (F : Fx X CX k cx fa) (R : HRel X.K ρ h H) (w : WRel X.K ρ H0 H v x) (e : kindOf h v = some a) (hk : cx.kinds.contains a = true) (hcls : ∀ C fs, insOf h v = some (C, fs) → ∃ c, cx.cls C = some c ∧ c.exc = false) : TyX X.K H x (tyVal X.K cx a) := by
  have bt : ∀ b, b ∈ ["NoneType", "bool", "int", "str", "tuple", "list", "dict"] → tyVal X.K cx b = .type b := fun b hb => by unfold tyVal; rw [F.bti b hb]
  have tup : ∀ {p : Addr} {xs : List V}, TupAt X.K H p xs → TyX X.K H (.ref p) (.type "tuple") := by
    intro p xs t
    rcases t with (t | ⟨o, t⟩) | ⟨o, its, n, t, hc, _⟩
    · exact .base (.tup t)
    · exact .fTuple t
    · exact .kTuple t hc
  cases w with
  | tl e1 _ _ _ => cases e; rw [bt "list" (by simp)]; exact .base (.lst e1)
  | v q =>
    cases q with
    | non => cases e; rw [bt "NoneType" (by simp)]; exact .base .non
    | bl b => cases e; rw [bt "bool" (by simp)]; exact .base (.bl b)
    | int i => cases e; rw [bt "int" (by simp)]; exact .base (.int i)
    | str y => cases e; rw [bt "str" (by simp)]; exact .base (.str y)
    | glb g => cases e
    | tup ht r => cases e; rw [bt "tuple" (by simp)]; exact tup ht
    | tuq hd hc ht r => cases e; rw [bt "tuple" (by simp)]; exact .fTuple ht
    | @loc n p hr =>
      have e : (match h[n]? with | some (.lst _) => some "list" | some (.fz _) => some "list" | some (.dct _) => some "dict" | some (.ins C _) => some C | none => none) = some a := e
      split at e
      · rename_i hn
        cases e
        rw [bt "list" (by simp)]
        obtain ⟨xs, e1, _⟩ := R.obj n _ p hn hr
        exact .base (.lst e1)
      · rename_i hn
        cases e
        rw [bt "list" (by simp)]
        obtain ⟨o, xs, e1, _⟩ := R.obj n _ p hn hr
        exact .base (.frz e1)
      · rename_i hn
        cases e
        rw [bt "dict" (by simp)]
        obtain ⟨xs, e1, _⟩ := R.obj n _ p hn hr
        exact .base (.dK e1)
      · rename_i C fs hn
        cases e
        obtain ⟨c, hc, hne⟩ := hcls a fs (by simp [insOf, hn])
        have G := F.cls a c hc hne
        obtain ⟨dx, fs', e1, _⟩ := R.obj n _ p hn hr
        have : tyVal X.K cx a = .ref (ca X.K a) := by unfold tyVal; rw [hc]
        rw [this]
        exact .base (.ins e1 G.cls G.ty1 F.cl1 F.cl2 G.mro)
      · cases e
def clsV (K : PySem.W.Frag) (cx : Sc.Cx) (t : String) : V := match cx.cls t with
  | some _ => .ref (ca K t)
  | none => .ty t
theorem clsV_is (K : PySem.W.Frag) (t : String) : ClsV (clsV K cx t) (tyVal K cx t) := by
  cases h : cx.cls t with
  | none => simp only [clsV, tyVal, h]; exact .ty _
  | some c => simp only [clsV, tyVal, h]; exact .own _
theorem kit_all (F : Fx X CX k cx fa) {a : String} (ha : cx.kinds.contains a = true) : ∀ {ts : List String}, ts.all cx.kinds.contains = true → PySem.W.kitAny X.K (tyVal X.K cx a) (ts.map (tyVal X.K cx)) = some (ts.any (isa cx a))
  | [], _ => rfl
  | t :: ts, h => by
    rw [List.all_cons, Bool.and_eq_true] at h
    rw [List.map_cons, List.any_cons]
    unfold PySem.W.kitAny
    rw [F.isi a t ha h.1]
    cases isa cx a t with
    | true => rfl
    | false => exact kit_all F ha h.2
theorem isE_of {ts : List String} {v : Val} {x : V} {P : Val → Heap → Prop} {EE : String → List (String × Val) → Heap → Prop} (F : Fx X CX k cx fa) (R : HRel X.K ρ h H) (w : WRel X.K ρ H0 H v x) (q : Sat (isE cx ts v h) P EE) :
    ∃ t, TyX X.K H x t ∧ PySem.W.kitAny X.K t (ts.map (tyVal X.K cx)) = some (ts.any (isa cx ((kindOf h v).getD ""))) ∧ (∀ t', ts = [t'] → PySem.W.kitOne X.K t (tyVal X.K cx t') = some (ts.any (isa cx ((kindOf h v).getD "")))) ∧ P (.bl (ts.any (isa cx ((kindOf h v).getD "")))) h := by
  unfold isE at q
  split at q
  · rename_i a ha
    split at q
    · rename_i hc
      simp only [Bool.and_eq_true] at hc
      refine ⟨_, kind_ty F R w ha hc.1.1 (fun C fs e => ?_), by rw [ha]; exact kit_all F hc.1.1 hc.1.2, fun t' et => ?_, by rw [ha]; exact q⟩
      · have h2 := hc.2
        unfold insOk at h2
        rw [e] at h2
        have h2 : (match cx.cls C with | some c => !c.exc | none => false) = true := h2
        split at h2
        · rename_i c hcc
          exact ⟨c, hcc, by simpa using h2⟩
        · cases h2
      · subst et
        have h3 : cx.kinds.contains t' = true := by simpa using hc.1.2
        rw [F.isi a t' hc.1.1 h3, ha]
        simp
    · exact q.elim
  · exact q.elim
theorem boot_isi : bootBuiltins (Str.ofString "isinstance") = some (.builtin "isinstance") := by decide +kernel
theorem px_isi1 {a T : Expr} {ia : Ex} {t : String} {p pos : Pos} (F : Fx X CX k cx fa) (b : Bi X "isinstance") (ha : PX X cx E a ia) (hT : PE X T (tC (clsV X.K cx t))) (hs : noStar a = true) (hs2 : noStar T = true) : PX X cx E (.Call (.Name (Str.ofString "isinstance") p) [a, T] [] pos) (.isi ia [t]) := by
  refine ⟨fun pins s σ H Q I q => ?_⟩
  obtain ⟨ρ, env, h, R, S, q⟩ := q
  refine wpAny_Call_Name_kw (ld_blt I b.gl b.no boot_isi ?_ (by decide +kernel) (by decide +kernel))
  refine PyProof.Rows.callWith_builtin1 ?_ (star_ns hs) (star_all (es := [T]) (by simp [hs2])).1
  rw [star_ns hs, star_ns hs2]
  show wpAny _ _ (spliced ((false, eval a X.env) :: (false, eval T X.env) :: [])) _ _ _
  refine Calls.spliced_cons (ha.go I R S (Sat.unbind q) fun v h1 ρ1 H1 x u s1 p I1 rx e1 R1 S1 w1 => ?_)
  refine Calls.spliced_cons (thn (hT.run pins s1 σ H1 (fun y H2 => y = clsV X.K cx t ∧ H2 = H1) I1 ⟨rfl, rfl⟩) fun u2 s2 ⟨y, H2, I2, ry, ey, eH⟩ => ?_)
  subst ey eH
  refine Calls.spliced_nil ?_
  obtain ⟨ty, h1', h2, h3, z⟩ := isE_of F R1 w1 p
  exact call_isi pins s2 σ H2 [x, clsV X.K cx t] [u, u2] Q I2 (.cons rx (.cons ry .nil)) ⟨x, _, ty, _, _, rfl, clsV_is X.K t, h1', h3 t rfl, (show Post X.K ρ H Q _ h1 from z) ρ1 H2 _ e1 R1 (.v (.bl _))⟩
/-- the classes of a tuple -/
inductive PCs (X : L2.Cx) (cx : Sc.Cx) : List Expr → List String → Prop
  | nil : PCs X cx [] []
  | cons {T : Expr} {Ts : List Expr} {t : String} {ts : List String} : PE X T (tC (clsV X.K cx t)) → noStar T = true → PCs X cx Ts ts → PCs X cx (T :: Ts) (t :: ts)
theorem PCs.pa : ∀ {Ts : List Expr} {ts : List String}, PCs X cx Ts ts → PA X Ts (fun _ H Q => Q (ts.map (clsV X.K cx)) H)
  | _, _, .nil => pa_nil
  | _, _, .cons h n r => by
    refine ⟨fun pos pins s σ H Q I q => ?_⟩
    exact (pa_cons h r.pa (star_ns n)).run pos pins s σ H Q I q
theorem PCs.cls : ∀ {ts : List String}, Paired ClsV (ts.map (clsV X.K cx)) (ts.map (tyVal X.K cx))
  | [] => .nil
  | t :: ts => .cons (clsV_is X.K t) PCs.cls
theorem px_isiT {a : Expr} {Ts : List Expr} {ia : Ex} {ts : List String} {kk : Nat} {p p2 pos : Pos} (F : Fx X CX k cx fa) (b : Bi X "isinstance") (hz : ts.length ≤ 64) (ha : PX X cx E a ia) (hT : PCs X cx Ts ts) (hs : noStar a = true) : PX X cx E (.Call (.Name (Str.ofString "isinstance") p) [a, .Tuple Ts kk p2] [] pos) (.isi ia ts) := by
  refine ⟨fun pins s σ H Q I q => ?_⟩
  obtain ⟨ρ, env, h, R, S, q⟩ := q
  refine wpAny_Call_Name_kw (ld_blt I b.gl b.no boot_isi ?_ (by decide +kernel) (by decide +kernel))
  refine PyProof.Rows.callWith_builtin1 ?_ (star_ns hs) rfl
  rw [star_ns hs]
  show wpAny _ _ (spliced ((false, eval a X.env) :: (false, eval (.Tuple Ts kk p2) X.env) :: [])) _ _ _
  refine Calls.spliced_cons (ha.go I R S (Sat.unbind q) fun v h1 ρ1 H1 x u s1 p I1 rx e1 R1 S1 w1 => ?_)
  have hl : (ts.map (clsV X.K cx)).length ≤ sizeLine := by rw [List.length_map, sizeLine_eq]; omega
  refine Calls.spliced_cons (thn ((pe_tup hT.pa).run pins s1 σ H1 (fun y H2 => ∃ tp, y = .ref tp ∧ H1 tp = none ∧ H2 = upd H1 tp (.tup (ts.map (clsV X.K cx)))) I1 ⟨hl, fun tp htp => ⟨tp, rfl, htp, rfl⟩⟩) fun u2 s2 ⟨y, H2, I2, ry, tp, ey, htp, eH⟩ => ?_)
  subst ey eH
  refine Calls.spliced_nil ?_
  have e2 : Ext ρ1 H1 ρ1 (upd H1 tp (.tup (ts.map (clsV X.K cx)))) := .new htp
  have R2 := R1.new (o := .tup (ts.map (clsV X.K cx))) htp
  obtain ⟨ty, h1', h2, h3, z⟩ := isE_of F R2 (w1.later R1 e2) p
  exact call_isiT pins s2 σ _ [x, .ref tp] [u, u2] Q I2 (.cons rx (.cons ry .nil)) ⟨x, tp, _, ty, _, _, rfl, upd_same, PCs.cls, h1', h2, (show Post X.K ρ H Q _ h1 from z) ρ1 _ _ (e1.trans e2) R2 (.v (.bl _))⟩
end
end Sc
end
section
set_option Elab.async false
set_option linter.all false
set_option maxRecDepth 100000
set_option maxHeartbeats 4000000
set_option autoImplicit false
/-! What loops go over. -/
namespace Sc
open PySem PySem.Spec PyProof.Rows L2

/-- an iterator goes over the items, as long as what it leans on stays -/
def WalksV (K : PySem.W.Frag) (J : It) (w : Walk) (ρ : List Addr) (H : Hp) : Prop := ∀ ρ' h' H', Ext ρ H ρ' H' → HRel K ρ' h' H' → w.stays h' = true →
  (∀ i v, w.items[i]? = some v → J.go i H' ∧ ∀ x H'', J.yld i H' x H'' → Ext ρ' H' ρ' H'' ∧ HRel K ρ' h' H'' ∧ VRel K ρ' H'' v x) ∧ J.stop w.items.length H'
def tS (K : PySem.W.Frag) (cx : Sc.Cx) (E : XK) (ir : Src) : TI := fun σ H R => ∃ ρ env h, HRel K ρ h H ∧ SRel K ρ H env σ ∧ Sat (evSrc cx ir env h) (fun w h' => ∀ ρ' H' J, Ext ρ H ρ' H' → HRel K ρ' h' H' → WalksV K J w ρ' H' → R J H') (XP K E ρ H)
abbrev PXS (X : L2.Cx) (cx : Sc.Cx) (E : XK) (tg a : Expr) (ir : Src) : Prop := PI X tg a (tS X.K cx E ir)
section
variable {K : PySem.W.Frag} {ρ ρ' : List Addr} {H H' H0 : Hp} {h h' : Heap}
/-- a list that stays -/
theorem list_stays {v : Val} {x : V} {vs : List Val} (R : HRel K ρ h H) (w : WRel K ρ H0 H v x) (e : listOf h v = some vs) : ∃ a, x = .ref a ∧ (∃ xs, SqL K H a xs) ∧ ∀ ρ' h' H', Ext ρ H ρ' H' → HRel K ρ' h' H' → staysL h' (keepOf v vs) = true → ∃ xs, SqL K H' a xs ∧ VRels K ρ' H' vs xs := by
  obtain ⟨a, xs, rfl, hs, rr⟩ := list_of R w e
  refine ⟨a, rfl, ⟨xs, hs⟩, fun ρ' h' H' ex R' st => ?_⟩
  cases w with
  | tl e1 n z r =>
    cases e
    exact ⟨_, SqL.of (ex.keep _ _ e1 n).1, r.later R ex⟩
  | v q =>
    cases q with
    | @loc n _ hr =>
      have st : ((match listOf h' (.loc n) with | some ys => Val.same vs ys | none => false) && true) = true := st
      rw [Bool.and_true] at st
      split at st
      · rename_i ys hy
        cases Val.same_eq _ _ st
        obtain ⟨b, xs', eb, hs', rr'⟩ := list_of (H0 := H') R' (.v (.loc (ex.num _ _ hr))) hy
        cases eb
        exact ⟨xs', hs', rr'⟩
      · cases st
    | _ => exact absurd e (by simp [listOf])
theorem tup_stays {v : Val} {x : V} {vs : List Val} (R : HRel K ρ h H) (w : WRel K ρ H0 H v x) (e : tupOf v = some vs) : ∃ a, x = .ref a ∧ (∃ xs, SqT K H a xs) ∧ ∀ ρ' h' H', Ext ρ H ρ' H' → HRel K ρ' h' H' → ∃ xs, SqT K H' a xs ∧ VRels K ρ' H' vs xs := by
  cases v with
  | tup us =>
    cases e
    obtain ⟨a, xs, rfl, ht, rr⟩ := w.tup
    exact ⟨a, rfl, ⟨xs, ht.sq⟩, fun ρ' h' H' ex R' => ⟨xs, (ht.mono (R.tups ex)).sq, rr.later R ex⟩⟩
  | tuq us =>
    cases e
    obtain ⟨a, xs, rfl, ht, rr⟩ := w.tuqT
    exact ⟨a, rfl, ⟨xs, ht.sq⟩, fun ρ' h' H' ex R' => ⟨xs, (ht.mono (R.tups ex)).sq, rr.later R ex⟩⟩
  | _ => cases e
theorem walks_list {a : Addr} {vs : List Val} {kp : List (Nat × List Val)} (f : ∀ ρ' h' H', Ext ρ H ρ' H' → HRel K ρ' h' H' → staysL h' kp = true → ∃ xs, SqL K H' a xs ∧ VRels K ρ' H' vs xs) : WalksV K (Itl K a) ⟨vs, kp⟩ ρ H := by
  intro ρ' h' H' ex R' st
  obtain ⟨xs, hs, rr⟩ := f ρ' h' H' ex R' st
  refine ⟨fun i v ev => ?_, ⟨xs, hs, by rw [← rr.length]; exact Nat.le_refl _⟩⟩
  obtain ⟨y, ey, ry⟩ := rr.get ev
  refine ⟨⟨xs, y, hs, ey⟩, fun x H'' hy => ?_⟩
  obtain ⟨rfl, hy⟩ := hy
  have := hy xs hs
  rw [ey] at this
  cases this
  exact ⟨.refl, R', ry⟩
theorem walks_tup {a : Addr} {vs : List Val} (f : ∀ ρ' h' H', Ext ρ H ρ' H' → HRel K ρ' h' H' → ∃ xs, SqT K H' a xs ∧ VRels K ρ' H' vs xs) : WalksV K (Itt K a) ⟨vs, []⟩ ρ H := by
  intro ρ' h' H' ex R' st
  obtain ⟨xs, hs, rr⟩ := f ρ' h' H' ex R'
  refine ⟨fun i v ev => ?_, ⟨xs, hs, by rw [← rr.length]; exact Nat.le_refl _⟩⟩
  obtain ⟨y, ey, ry⟩ := rr.get ev
  refine ⟨⟨xs, y, hs, ey⟩, fun x H'' hy => ?_⟩
  obtain ⟨rfl, hy⟩ := hy
  have := hy xs hs
  rw [ey] at this
  cases this
  exact ⟨.refl, R', ry⟩
theorem walks_str {x : Str} : WalksV K (L2.Its x) ⟨x.cps.toList.map fun c => .str ⟨#[c]⟩, []⟩ ρ H := by
  intro ρ' h' H' ex R' st
  refine ⟨fun i v ev => ?_, by show x.cps.size ≤ _; simp⟩
  rw [List.getElem?_map] at ev
  cases hc : x.cps.toList[i]? with
  | none => rw [hc] at ev; cases ev
  | some c =>
    rw [hc] at ev
    cases ev
    have hc2 : x.cps[i]? = some c := by rw [← hc]; simp
    refine ⟨(Array.getElem?_eq_some_iff.mp hc2).1, fun y H'' hy => ?_⟩
    obtain ⟨rfl, c', hc', rfl⟩ := hy
    rw [hc2] at hc'
    cases hc'
    exact ⟨.refl, R', .str _⟩
theorem walks_rng {lo : Int} {n : Nat} : WalksV K (Itr lo n) ⟨rngV lo n, []⟩ ρ H := by
  intro ρ' h' H' ex R' st
  have hl : (rngV lo n).length = n := by simp [rngV]
  refine ⟨fun i v ev => ?_, by show n ≤ _; rw [hl]; exact Nat.le_refl _⟩
  have hi : i < n := by rw [← hl]; exact (List.getElem?_eq_some_iff.mp ev).1
  refine ⟨hi, fun y H'' hy => ?_⟩
  obtain ⟨rfl, rfl⟩ := hy
  have : v = .int (lo + (i : Int)) := by
    unfold rngV at ev
    rw [List.getElem?_map, List.getElem?_range hi] at ev
    exact (Option.some.inj ev).symm
  rw [this]
  exact ⟨.refl, R', .int _⟩
theorem walks_rngD {lo : Int} {n : Nat} : WalksV K (Itc lo (-1) n) ⟨rngD lo n, []⟩ ρ H := by
  intro ρ' h' H' ex R' st
  have hl : (rngD lo n).length = n := by simp [rngD]
  refine ⟨fun i v ev => ?_, by show n ≤ _; rw [hl]; exact Nat.le_refl _⟩
  have hi : i < n := by rw [← hl]; exact (List.getElem?_eq_some_iff.mp ev).1
  refine ⟨hi, fun y H'' hy => ?_⟩
  obtain ⟨rfl, rfl⟩ := hy
  have : v = .int (lo + (i : Int) * (-1)) := by
    unfold rngD at ev
    rw [List.getElem?_map, List.getElem?_range hi] at ev
    exact (Option.some.inj ev).symm
  rw [this]
  exact ⟨.refl, R', .int _⟩
theorem walks_enum {a : Addr} {vs : List Val} {kp : List (Nat × List Val)} (f : ∀ ρ' h' H', Ext ρ H ρ' H' → HRel K ρ' h' H' → staysL h' kp = true → ∃ xs, SqL K H' a xs ∧ VRels K ρ' H' vs xs) : WalksV K (Ite K a) ⟨vs.zipIdx.map fun p => .tup [.int (p.2 : Int), p.1], kp⟩ ρ H := by
  intro ρ' h' H' ex R' st
  obtain ⟨xs, hs, rr⟩ := f ρ' h' H' ex R' st
  refine ⟨fun i v ev => ?_, ⟨xs, hs, by rw [← rr.length]; simp⟩⟩
  rw [List.getElem?_map, List.getElem?_zipIdx] at ev
  cases hv : vs[i]? with
  | none => rw [hv] at ev; cases ev
  | some u =>
    rw [hv] at ev
    have ev : some (Val.tup [.int ((0 + i : Nat) : Int), u]) = some v := ev
    cases ev
    obtain ⟨y, ey, ry⟩ := rr.get hv
    refine ⟨⟨xs, y, hs, ey⟩, fun x H'' hy => ?_⟩
    obtain ⟨T, z, rfl, hT, rfl, hz⟩ := hy
    have := hz xs hs
    rw [ey] at this
    cases this
    have e2 : Ext ρ' H' ρ' (upd H' T (.tup [.int (i : Nat), y])) := .new hT
    refine ⟨e2, R'.new hT, .tup (.inl (.inl upd_same)) (.cons ?_ (.cons (ry.later R' e2) .nil))⟩
    rw [Nat.zero_add]
    exact .int _
theorem zip_get {vs us : List Val} {i : Nat} {v : Val} (e : ((vs.zip us).map fun p => Val.tup [p.1, p.2])[i]? = some v) : ∃ a b, vs[i]? = some a ∧ us[i]? = some b ∧ v = .tup [a, b] := by
  rw [List.getElem?_map] at e
  cases hz : (vs.zip us)[i]? with
  | none => rw [hz] at e; cases e
  | some p =>
    rw [hz] at e
    obtain ⟨h1, h2⟩ := List.getElem?_zip_eq_some.mp hz
    exact ⟨p.1, p.2, h1, h2, (Option.some.inj e).symm⟩
theorem walks_zipL {a b : Addr} {vs us : List Val} {kp : List (Nat × List Val)} (f : ∀ ρ' h' H', Ext ρ H ρ' H' → HRel K ρ' h' H' → staysL h' kp = true → (∃ xs, SqL K H' a xs ∧ VRels K ρ' H' vs xs) ∧ ∃ xs, SqL K H' b xs ∧ VRels K ρ' H' us xs) : WalksV K (Itz K a b) ⟨(vs.zip us).map fun p => .tup [p.1, p.2], kp⟩ ρ H := by
  intro ρ' h' H' ex R' st
  obtain ⟨⟨xs, hs, rr⟩, ys, hs2, rr2⟩ := f ρ' h' H' ex R' st
  refine ⟨fun i v ev => ?_, ⟨xs, ys, hs, hs2, ?_⟩⟩
  · obtain ⟨p, q, hp, hq, rfl⟩ := zip_get ev
    obtain ⟨y, ey, ry⟩ := rr.get hp
    obtain ⟨z, ez, rz⟩ := rr2.get hq
    refine ⟨⟨xs, ys, y, z, hs, hs2, ey, ez⟩, fun x H'' hy => ?_⟩
    obtain ⟨T, y', z', rfl, hT, rfl, h1, h2⟩ := hy
    have e1 := h1 xs hs
    have e2 := h2 ys hs2
    rw [ey] at e1
    rw [ez] at e2
    cases e1
    cases e2
    have e3 : Ext ρ' H' ρ' (upd H' T (.tup [y, z])) := .new hT
    exact ⟨e3, R'.new hT, .tup (.inl (.inl upd_same)) (.cons (ry.later R' e3) (.cons (rz.later R' e3) .nil))⟩
  · rw [← rr.length, ← rr2.length]
    simp only [List.length_map, List.length_zip]
    omega
theorem walks_zipT {a b : Addr} {vs us : List Val} (f : ∀ ρ' h' H', Ext ρ H ρ' H' → HRel K ρ' h' H' → ∃ xs, SqT K H' a xs ∧ VRels K ρ' H' vs xs) (g : ∀ ρ' h' H', Ext ρ H ρ' H' → HRel K ρ' h' H' → ∃ xs, SqT K H' b xs ∧ VRels K ρ' H' us xs) : WalksV K (RZ.ItzT K a b) ⟨(vs.zip us).map fun p => .tup [p.1, p.2], []⟩ ρ H := by
  intro ρ' h' H' ex R' st
  obtain ⟨xs, hs, rr⟩ := f ρ' h' H' ex R'
  obtain ⟨ys, hs2, rr2⟩ := g ρ' h' H' ex R'
  refine ⟨fun i v ev => ?_, ⟨xs, ys, hs, hs2, ?_⟩⟩
  · obtain ⟨p, q, hp, hq, rfl⟩ := zip_get ev
    obtain ⟨y, ey, ry⟩ := rr.get hp
    obtain ⟨z, ez, rz⟩ := rr2.get hq
    refine ⟨⟨xs, ys, y, z, hs, hs2, ey, ez⟩, fun x H'' hy => ?_⟩
    obtain ⟨T, y', z', rfl, hT, rfl, h1, h2⟩ := hy
    have e1 := h1 xs hs
    have e2 := h2 ys hs2
    rw [ey] at e1
    rw [ez] at e2
    cases e1
    cases e2
    have e3 : Ext ρ' H' ρ' (upd H' T (.tup [y, z])) := .new hT
    exact ⟨e3, R'.new hT, .tup (.inl (.inl upd_same)) (.cons (ry.later R' e3) (.cons (rz.later R' e3) .nil))⟩
  · rw [← rr.length, ← rr2.length]
    simp only [List.length_map, List.length_zip]
    omega
end
section
variable {X : L2.Cx} {cx : Sc.Cx} {E : XK} {ρ : List Addr} {H : Hp} {h : Heap} {σ : L2.St} {env : Env} {s : Shared} {pins : List (Addr × PySem.Obj)} {tg : Expr}
/-- a source that is one value -/
theorem pxs_it {a : Expr} {ia : Ex} (ha : PX X cx E a ia) : PXS X cx E tg a (.it ia) := by
  refine ⟨fun pins s σ H R0 I q => ?_⟩
  obtain ⟨ρ, env, h, R, S, q⟩ := q
  refine ha.go I R S (Sat.unbind q) fun v h1 ρ1 H1 x u s1 p I1 rx e1 R1 S1 w1 => ?_
  obtain ⟨w, ew, p⟩ := Sat.opt p
  have done : ∀ J, WalksV X.K J w ρ1 H1 → R0 J H1 := fun J hJ => p ρ1 H1 J e1 R1 hJ
  have tup : ∀ {vs : List Val}, tupOf v = some vs → w = ⟨vs, []⟩ → wpAny (model X.prog X.w) X.A (pyIter u) (PIE X pins σ tg R0) X.xe s1 := by
    intro vs et hw
    subst hw
    obtain ⟨a, rfl, ⟨xs, hs⟩, st⟩ := tup_stays R1 w1 et
    cases rx
    obtain ⟨its, rv, tp, hz⟩ := I1.tuple hs
    refine wpAny_pyIter_tuple (show s1.heap.IsTuple a its.toArray from tp) ?_
    exact L2.pi_one (tk := s1.toks) I1 _ (turn_tuple a _) ⟨_, Heap.get?_push_size _ rfl, rfl, rfl⟩ (done _ (walks_tup st))
  unfold itE at ew
  split at ew
  · cases ew; exact tup rfl rfl
  · cases ew; exact tup rfl rfl
  · rename_i y
    cases ew
    obtain rfl := w1.str
    obtain ⟨t, rfl⟩ := rx
    cases hasc : y.cps.all (· < 128)
    · exact wpAny_pyIter_wide hasc (L2.pi_one (tk := s1.toks) I1 _ (turn_str _ y t "str_iterator" (.inr rfl)) ⟨_, Heap.get?_push_size _ rfl, rfl, rfl⟩ (done _ walks_str))
    · exact wpAny_pyIter_ascii hasc (L2.pi_one (tk := s1.toks) I1 _ (turn_str _ y t "str_ascii_iterator" (.inl rfl)) ⟨_, Heap.get?_push_size _ rfl, rfl, rfl⟩ (done _ walks_str))
  · obtain ⟨vs, el, rfl⟩ := map_some ew
    obtain ⟨a, rfl, ⟨xs, hs⟩, st⟩ := list_stays R1 w1 el
    cases rx
    obtain ⟨its, rv, tp, hz⟩ := I1.list hs
    refine wpAny_pyIter_list tp.isList ?_
    exact L2.pi_one (tk := s1.toks) I1 _ (turn_list a _) ⟨_, Heap.get?_push_size _ rfl, rfl, rfl⟩ (done _ (walks_list st))
theorem big_of {i : Int} (h : big i = true) : -(2 ^ 62) ≤ i ∧ i < 2 ^ 62 := by
  unfold big at h
  simp only [Bool.and_eq_true, decide_eq_true_eq] at h
  exact h
/-- what an argument tree's reading says, under evR -/
theorem tR_one {K : PySem.W.Frag} {ia : Ex} {G : List V → Hp → Prop} (R : HRel K ρ h H) (S : SRel K ρ H env σ) {P : Val → Heap → Prop} (q : Sat (evE cx ia env h) P (XP K E ρ H)) (g : ∀ v h1 ρ1 H1 x, P v h1 → Ext ρ H ρ1 H1 → HRel K ρ1 h1 H1 → WRel K ρ1 H H1 v x → G [x] H1) : tR K cx E (.cons ia .nil) σ H G := by
  refine ⟨ρ, env, h, R, S, Sat.bind_iff.mpr (q.mono (fun v h1 p => ?_) fun _ _ _ z => z)⟩
  intro ρ1 H1 xs e1 R1 w1
  obtain ⟨x, rfl, w⟩ := w1.one
  exact g v h1 ρ1 H1 x p e1 R1 w
theorem tR_two {K : PySem.W.Frag} {ia ib : Ex} {G : List V → Hp → Prop} (R : HRel K ρ h H) (S : SRel K ρ H env σ) {P : Val → Val → Heap → Prop} (q : Sat (evE cx ia env h) (fun v h1 => Sat (evE cx ib env h1) (fun w h2 => P v w h2) (XP K E ρ H)) (XP K E ρ H)) (g : ∀ v w h1 ρ1 H1 x y, P v w h1 → Ext ρ H ρ1 H1 → HRel K ρ1 h1 H1 → WRel K ρ1 H H1 v x → WRel K ρ1 H H1 w y → G [x, y] H1) : tR K cx E (.cons ia (.cons ib .nil)) σ H G := by
  refine ⟨ρ, env, h, R, S, Sat.bind_iff.mpr (q.mono (fun v h1 p => ?_) fun _ _ _ z => z)⟩
  refine Sat.bind_iff.mpr ?_
  show Sat ((evE cx ib env h1).bind fun x h1 => .ok [x] h1) _ _
  refine Sat.bind_iff.mpr (p.mono (fun w h2 p => ?_) fun _ _ _ z => z)
  intro ρ1 H1 xs e1 R1 w1
  obtain ⟨x, y, rfl, w', w''⟩ := w1.two
  exact g v w h2 ρ1 H1 x y p e1 R1 w' w''
theorem pxs_rng1 {a : Expr} {ia : Ex} {p pos : Pos} (b : Bi X "range") (ha : PX X cx E a ia) (hs : noStar a = true) : PXS X cx E tg (.Call (.Name (Str.ofString "range") p) [a] [] pos) (.rng1 ia) := by
  refine ⟨fun pins s σ H R0 I q => ?_⟩
  obtain ⟨ρ, env, h, R, S, q⟩ := q
  refine (pi_range1 (tg := tg) b.gl b.no (pxr_cons ha pxr_nil (star_ns hs)) (star_ns hs)).run pins s σ H R0 I (tR_one R S (Sat.unbind q) fun v h1 ρ1 H1 x p e1 R1 w1 => ?_)
  obtain ⟨w, ew, p⟩ := Sat.opt p
  unfold rng1E at ew
  split at ew
  · split at ew
    · rename_i i hb
      cases ew
      obtain rfl := w1.int
      obtain ⟨b1, b2⟩ := big_of hb
      exact ⟨i, rfl, b1, b2, p ρ1 H1 _ e1 R1 walks_rng⟩
    · cases ew
  · cases ew
theorem pxs_rng2 {a c : Expr} {ia ic : Ex} {p pos : Pos} (b : Bi X "range") (ha : PX X cx E a ia) (hc : PX X cx E c ic) (hs : noStar a = true) (hs2 : noStar c = true) : PXS X cx E tg (.Call (.Name (Str.ofString "range") p) [a, c] [] pos) (.rng2 ia ic) := by
  refine ⟨fun pins s σ H R0 I q => ?_⟩
  obtain ⟨ρ, env, h, R, S, q⟩ := q
  refine (pi_range2 (tg := tg) b.gl b.no (pxr_cons ha (pxr_cons hc pxr_nil (star_ns hs2)) (star_ns hs)) (by rw [star_ns hs, star_ns hs2]; rfl) (star_ns hs2)).run pins s σ H R0 I (tR_two R S ((Sat.unbind q).mono (fun v h1 z => Sat.unbind z) fun _ _ _ z => z) fun v v2 h1 ρ1 H1 x y p e1 R1 w1 w2 => ?_)
  obtain ⟨w, ew, p⟩ := Sat.opt p
  unfold rng2E at ew
  split at ew
  · split at ew
    · rename_i i j hb
      cases ew
      obtain rfl := w1.int
      obtain rfl := w2.int
      rw [Bool.and_eq_true] at hb
      obtain ⟨b1, b2⟩ := big_of hb.1
      obtain ⟨b3, b4⟩ := big_of hb.2
      exact ⟨i, j, rfl, ⟨b1, b2, b3, b4⟩, p ρ1 H1 _ e1 R1 walks_rng⟩
    · cases ew
  · cases ew
theorem pxs_enum {a : Expr} {ia : Ex} {elts : List Expr} {kk : Nat} {p pos tpos : Pos} (b : Bi X "enumerate") (ha : PX X cx E a ia) (hs : noStar a = true) : PXS X cx E (.Tuple elts kk tpos) (.Call (.Name (Str.ofString "enumerate") p) [a] [] pos) (.enum ia) := by
  refine ⟨fun pins s σ H R0 I q => ?_⟩
  obtain ⟨ρ, env, h, R, S, q⟩ := q
  refine (pi_enum (elts := elts) (kk := kk) (tpos := tpos) b.gl b.no (pxr_cons ha pxr_nil (star_ns hs)) (star_ns hs)).run pins s σ H R0 I (tR_one R S (Sat.unbind q) fun v h1 ρ1 H1 x p e1 R1 w1 => ?_)
  obtain ⟨w, ew, p⟩ := Sat.opt p
  obtain ⟨vs, el, rfl⟩ := map_some ew
  obtain ⟨a, rfl, ⟨xs, hs⟩, st⟩ := list_stays R1 w1 el
  exact ⟨a, xs, rfl, hs, p ρ1 H1 _ e1 R1 (walks_enum st)⟩
theorem stays_app {h : Heap} : ∀ {k1 k2 : List (Nat × List Val)}, staysL h (k1 ++ k2) = true → staysL h k1 = true ∧ staysL h k2 = true
  | [], _, e => ⟨rfl, e⟩
  | (n, xs) :: r, k2, e => by
    have e : ((match listOf h (.loc n) with | some ys => Val.same xs ys | none => false) && staysL h (r ++ k2)) = true := e
    rw [Bool.and_eq_true] at e
    obtain ⟨i1, i2⟩ := stays_app e.2
    refine ⟨?_, i2⟩
    show ((match listOf h (.loc n) with | some ys => Val.same xs ys | none => false) && staysL h r) = true
    rw [e.1, i1]; rfl
theorem pxs_zip {a c : Expr} {ia ic : Ex} {elts : List Expr} {kk : Nat} {p pos tpos : Pos} (b : Bi X "zip") (ha : PX X cx E a ia) (hc : PX X cx E c ic) (hs : noStar a = true) (hs2 : noStar c = true) : PXS X cx E (.Tuple elts kk tpos) (.Call (.Name (Str.ofString "zip") p) [a, c] [] pos) (.zip ia ic) := by
  refine ⟨fun pins s σ H R0 I q => ?_⟩
  obtain ⟨ρ, env, h, R, S, q⟩ := q
  refine (RZ.pi_zipA (elts := elts) (kk := kk) (tpos := tpos) b.gl b.no (pxr_cons ha (pxr_cons hc pxr_nil (star_ns hs2)) (star_ns hs)) (star_ns hs) (star_all (es := [c]) (by simp [hs2])).1).run pins s σ H R0 I (tR_two R S ((Sat.unbind q).mono (fun v h1 z => Sat.unbind z) fun _ _ _ z => z) fun v v2 h1 ρ1 H1 x y p e1 R1 w1 w2 => ?_)
  obtain ⟨w, ew, p⟩ := Sat.opt p
  unfold zipE at ew
  split at ew
  · rename_i vs us e1' e2'
    cases ew
    obtain ⟨a, rfl, ⟨xs, hs⟩, st⟩ := list_stays R1 w1 e1'
    obtain ⟨c, rfl, ⟨ys, hs'⟩, st'⟩ := list_stays R1 w2 e2'
    refine ⟨a, c, xs, ys, rfl, .inl ⟨hs, hs', p ρ1 H1 _ e1 R1 (walks_zipL fun ρ' h' H' ex R' stt => ?_)⟩⟩
    obtain ⟨s1, s2⟩ := stays_app stt
    exact ⟨st ρ' h' H' ex R' s1, st' ρ' h' H' ex R' s2⟩
  · split at ew
    · rename_i vs us e1' e2'
      cases ew
      obtain ⟨a, rfl, ⟨xs, hs⟩, st⟩ := tup_stays R1 w1 e1'
      obtain ⟨c, rfl, ⟨ys, hs'⟩, st'⟩ := tup_stays R1 w2 e2'
      exact ⟨a, c, xs, ys, rfl, .inr ⟨hs, hs', p ρ1 H1 _ e1 R1 (walks_zipT st st')⟩⟩
    · cases ew
end
end Sc
end
section
set_option Elab.async false
set_option linter.all false
set_option maxRecDepth 100000
set_option maxHeartbeats 4000000
set_option autoImplicit false
/-! Targets, comprehensions. -/
namespace Sc
open PySem PySem.Spec PyProof.Rows L2

/-! ### the names' store -/
/-- but for these places -/
def Same (ts : List Nat) (σ σ' : L2.St) : Prop := σ'.length = σ.length ∧ ∀ j, j ∉ ts → σ'[j]? = σ[j]?
theorem Same.refl {ts : List Nat} {σ : L2.St} : Same ts σ σ := ⟨rfl, fun _ _ => rfl⟩
theorem Same.trans {a b : List Nat} {σ σ' σ'' : L2.St} (h : Same a σ σ') (g : Same b σ' σ'') : Same (a ++ b) σ σ'' :=
  ⟨g.1.trans h.1, fun j hj => by
    rw [List.mem_append, not_or] at hj
    exact (g.2 j hj.2).trans (h.2 j hj.1)⟩
theorem wipe_at (σ : L2.St) : ∀ (vs : List Nat) (j : Nat), (wipe σ vs)[j]? = if j ∈ vs ∧ j < σ.length then some none else σ[j]?
  | [], j => by simp [wipe]
  | v :: vs, j => by
    unfold wipe
    by_cases hv : v = j
    · subst hv
      by_cases hl : v < σ.length
      · rw [List.getElem?_set_self (by rw [wipe_length]; exact hl), if_pos ⟨by simp, hl⟩]
      · rw [List.getElem?_eq_none (by rw [List.length_set, wipe_length]; omega), if_neg (by intro z; exact hl z.2), List.getElem?_eq_none (by omega)]
    · rw [List.getElem?_set_ne hv, wipe_at σ vs j]
      simp [List.mem_cons, Ne.symm hv]
theorem wipeE_at (e : Env) : ∀ (vs : List Nat) (j : Nat), (wipeE e vs)[j]? = if j ∈ vs ∧ j < e.length then some none else e[j]?
  | [], j => by simp [wipeE]
  | v :: vs, j => by
    have hl' : ∀ vs : List Nat, (wipeE e vs).length = e.length := by
      intro vs
      induction vs with
      | nil => rfl
      | cons a r ih => unfold wipeE; rw [List.length_set]; exact ih
    unfold wipeE
    by_cases hv : v = j
    · subst hv
      by_cases hl : v < e.length
      · rw [List.getElem?_set_self (by rw [hl']; exact hl), if_pos ⟨by simp, hl⟩]
      · rw [List.getElem?_eq_none (by rw [List.length_set, hl']; omega), if_neg (by intro z; exact hl z.2), List.getElem?_eq_none (by omega)]
    · rw [List.getElem?_set_ne hv, wipeE_at e vs j]
      simp [List.mem_cons, Ne.symm hv]
theorem wipeE_len (e : Env) : ∀ vs : List Nat, (wipeE e vs).length = e.length
  | [] => rfl
  | v :: vs => by unfold wipeE; rw [List.length_set]; exact wipeE_len e vs
theorem Same.wiped {ts vs : List Nat} {σ σ' : L2.St} (h : Same ts (wipe σ vs) σ') (hs : ∀ j ∈ ts, j ∈ vs) : wipe σ' vs = wipe σ vs := by
  have hl : σ'.length = σ.length := h.1.trans (wipe_length σ vs)
  apply List.ext_getElem?
  intro j
  rw [wipe_at, wipe_at, hl]
  split
  · rfl
  · rename_i hj
    by_cases hv : j ∈ vs
    · have : ¬ j < σ.length := fun z => hj ⟨hv, z⟩
      rw [List.getElem?_eq_none (by omega), List.getElem?_eq_none (by omega)]
    · rw [h.2 j (fun z => hv (hs j z)), wipe_at, if_neg (fun z => hv z.1)]
section
variable {K : PySem.W.Frag} {ρ ρ' : List Addr} {H H' : Hp} {h h' : Heap} {env : Env} {σ : L2.St}
theorem SRel.wiped (S : SRel K ρ H env σ) (vs : List Nat) : SRel K ρ H (wipeE env vs) (wipe σ vs) := by
  refine ⟨by rw [wipeE_len, wipe_length]; exact S.len, fun i v e => ?_⟩
  rw [wipeE_at] at e
  split at e
  · cases e
  · rename_i hn
    obtain ⟨x, e1, r⟩ := S.var i v e
    refine ⟨x, ?_, r⟩
    rw [wipe_at, if_neg (by rw [← S.len]; exact hn)]
    exact e1
theorem SRel.put (S : SRel K ρ H env σ) {v : Val} {x : V} (r : VRel K ρ H v x) (i : Nat) : SRel K ρ H (env.set i (some v)) (σ.set i (some x)) := by
  refine ⟨by rw [List.length_set, List.length_set]; exact S.len, fun j w e => ?_⟩
  by_cases hij : i = j
  · subst hij
    have hl : i < env.length := by
      have := (List.getElem?_eq_some_iff.mp e).1
      rwa [List.length_set] at this
    rw [List.getElem?_set_self hl] at e
    cases e
    exact ⟨x, List.getElem?_set_self (by rw [← S.len]; exact hl), r⟩
  · rw [List.getElem?_set_ne hij] at e
    obtain ⟨y, e1, r1⟩ := S.var j w e
    exact ⟨y, by rw [List.getElem?_set_ne hij]; exact e1, r1⟩
/-- a list without a number is written -/
theorem tups_poke {D : Addr} {acc acc' : List V} (e : H D = some (.lst acc)) : ∀ a u, IsTH u → H a = some u → upd H D (.lst acc') a = some u := fun a u hu ea => by
  have : a ≠ D := fun z => by
    subst z
    rw [e] at ea
    cases ea
    rcases hu with ⟨_, z⟩ | ⟨_, _, z⟩ <;> cases z
  rw [upd_ne this]
  exact ea
theorem HRel.poke {D : Addr} {acc acc' : List V} (R : HRel K ρ h H) (hD : D ∉ ρ) (e : H D = some (.lst acc)) : HRel K ρ h (upd H D (.lst acc')) := by
  have tp := tups_poke (acc' := acc') e
  refine ⟨R.len, R.nd, fun n o a e1 e2 => ?_⟩
  have hne : a ≠ D := fun z => hD (by rw [← z]; exact List.mem_of_getElem? e2)
  have q := R.obj n o a e1 e2
  have vm : ∀ {vs xs}, VRels K ρ H vs xs → VRels K ρ (upd H D (.lst acc')) vs xs := fun r => r.mono (fun _ _ z => z) tp
  cases o with
  | lst vs => obtain ⟨xs, z, r⟩ := q; exact ⟨xs, by rw [upd_ne hne]; exact z, vm r⟩
  | fz vs => obtain ⟨o, xs, z, r⟩ := q; exact ⟨o, xs, by rw [upd_ne hne]; exact z, vm r⟩
  | ins C fs => obtain ⟨dx, xs, z, r⟩ := q; exact ⟨dx, xs, by rw [upd_ne hne]; exact z, Paired.imp (fun _ _ z => ⟨z.1, z.2.mono (fun _ _ z => z) tp⟩) r⟩
  | dct kvs => obtain ⟨xs, z, r⟩ := q; exact ⟨xs, by rw [upd_ne hne]; exact z, Paired.imp (fun _ _ z => ⟨z.1, z.2.mono (fun _ _ z => z) tp⟩) r⟩
/-- seen from where it was not -/
theorem Ext.poke {D : Addr} {o : HO} (e : Ext ρ H ρ' H') (hD : H D = none) : Ext ρ H ρ' (upd H' D o) :=
  ⟨e.pre, fun a u ea na => by
    obtain ⟨k1, k2⟩ := e.keep a u ea na
    have : a ≠ D := fun z => by rw [z, hD] at ea; cases ea
    exact ⟨by rw [upd_ne this]; exact k1, k2⟩⟩

/-! ### targets -/
def gV (K : PySem.W.Frag) (t : Tg) : TG := fun x σ H Q => ∃ ρ env h v env', HRel K ρ h H ∧ SRel K ρ H env σ ∧ VRel K ρ H v x ∧ asg t v env = some env' ∧ ∀ σ', SRel K ρ H env' σ' → Same t.slots σ σ' → Q σ' H
def gVs (K : PySem.W.Frag) (ts : List Tg) : TGs := fun xs σ H Q => ∃ ρ env h vs env', HRel K ρ h H ∧ SRel K ρ H env σ ∧ VRels K ρ H vs xs ∧ asgs ts vs env = some env' ∧ ∀ σ', SRel K ρ H env' σ' → Same (Tg.slotss ts) σ σ' → Q σ' H
theorem pg_imp {X : L2.Cx} {e : Expr} {g g' : TG} (h : PG X e g) (f : ∀ v σ H Q, g' v σ H Q → g v σ H Q) : PG X e g' := ⟨fun pins s σ H v u Q I r q => h.run pins s σ H v u Q I r (f v σ H Q q)⟩
theorem pgs_imp {X : L2.Cx} {es : List Expr} {g g' : TGs} (h : PGs X es g) (f : ∀ v σ H Q, g' v σ H Q → g v σ H Q) : PGs X es g' := ⟨fun pins s σ H v u Q I r q => h.run pins s σ H v u Q I r (f v σ H Q q)⟩
theorem pg_v {X : L2.Cx} {i : Nat} {x : Str} {pos : Pos} (hN : X.N.Nodup) (hi : X.N[i]? = some x) (hx : Loc X.env.scope x) (hf : X.fn x = true ∨ X.env.scope.names.lookup x = some .local) : PG X (.Name x pos) (gV X.K (.v i)) :=
  pg_imp (pg_name hN hi hx hf) fun v σ H Q q => by
    obtain ⟨ρ, env, h, w, env', R, S, r, e, k⟩ := q
    cases (Option.some.inj e : env.set i (some w) = env')
    exact k _ (S.put r i) ⟨by rw [List.length_set], fun j hj => List.getElem?_set_ne (fun z => hj (by rw [← z]; exact List.mem_singleton.mpr rfl))⟩
theorem each_len {env : PySem.Env} : ∀ {es : List Expr}, es.all noStar = true → (assignEach es env).length = es.length ∧ (assignEach es env).findIdx? (·.1) = none
  | [], _ => ⟨rfl, rfl⟩
  | e :: es, h => by
    rw [List.all_cons, Bool.and_eq_true] at h
    obtain ⟨i1, i2⟩ := each_len (env := env) h.2
    have e1 : assignEach (e :: es) env = (false, assign e env) :: assignEach es env := by
      cases e <;> first | rfl | cases h.1
    rw [e1]
    refine ⟨by rw [List.length_cons, i1]; rfl, ?_⟩
    rw [List.findIdx?_cons, i2]
    rfl
theorem pg_vs {X : L2.Cx} {es : List Expr} {ts : List Tg} {k : Nat} {pos : Pos} (hc : X.calm = true) (hs : es.all noStar = true) (hl : es.length = ts.length) (h : PGs X es (gVs X.K ts)) : PG X (.Tuple es k pos) (gV X.K (.vs ts)) :=
  pg_imp (pg_tup (n := es.length) hc h (each_len hs).1 (each_len hs).2) fun v σ H Q q => by
    obtain ⟨ρ, env, h, w, env', R, S, r, e, k⟩ := q
    have len : ∀ {ts : List Tg} {vs : List Val} {env env' : Env}, asgs ts vs env = some env' → ts.length = vs.length := by
      intro ts
      induction ts with
      | nil => intro vs env env' e; cases vs with | nil => rfl | cons _ _ => cases e
      | cons t ts ih =>
        intro vs env env' e
        cases vs with
        | nil => cases e
        | cons v vs =>
          have e : (match asg t v env with | some env => asgs ts vs env | none => none) = some env' := e
          split at e
          · exact congrArg (· + 1) (ih e)
          · cases e
    cases r with
    | @tup vs a xs ht rr =>
      have e : asgs ts vs env = some env' := e
      exact ⟨a, xs, rfl, ht.sq, by rw [hl, len e, rr.length], ρ, env, h, vs, env', R, S, rr, e, k⟩
    | @tuq vs a o xs hd hcc ht rr =>
      have e : asgs ts vs env = some env' := e
      exact ⟨a, xs, rfl, .inl (.inr ⟨o, ht⟩), by rw [hl, len e, rr.length], ρ, env, h, vs, env', R, S, rr, e, k⟩
    | _ => cases e
theorem pgs_n {X : L2.Cx} : PGs X [] (gVs X.K []) :=
  pgs_imp pgs_nil fun vs σ H Q q => by
    obtain ⟨ρ, env, h, ws, env', R, S, r, e, k⟩ := q
    cases r with
    | nil => cases e; exact ⟨rfl, k σ S .refl⟩
    | cons _ _ => cases e
theorem pgs_c {X : L2.Cx} {e : Expr} {es : List Expr} {t : Tg} {ts : List Tg} (hs : noStar e = true) (h1 : PG X e (gV X.K t)) (h2 : PGs X es (gVs X.K ts)) : PGs X (e :: es) (gVs X.K (t :: ts)) :=
  pgs_imp (pgs_cons h1 h2 (by cases e <;> first | rfl | cases hs)) fun vs σ H Q q => by
    obtain ⟨ρ, env, h, ws, env', R, S, r, e, k⟩ := q
    cases r with
    | nil => cases e
    | @cons w x ws xs r rr =>
      have e : (match asg t w env with | some env => asgs ts ws env | none => none) = some env' := e
      split at e
      · rename_i env1 e1
        exact ⟨x, xs, rfl, ρ, env, h, w, env1, R, S, r, e1, fun σ1 S1 s1 => ⟨ρ, env1, h, ws, env', R, S1, rr, e, fun σ2 S2 s2 => k σ2 S2 (s1.trans s2)⟩⟩
      · cases e
end
end Sc
end
section
set_option Elab.async false
set_option linter.all false
set_option maxRecDepth 100000
set_option maxHeartbeats 4000000
set_option autoImplicit false
/-! Comprehensions. -/
namespace Sc
open PySem PySem.Spec PyProof.Rows L2

def NoX : String → List (String × Val) → Heap → Prop := fun _ _ _ => False
theorem Sat.unnox {α : Type} {r : Sc.R α} {P : α → Heap → Prop} {EE : String → List (String × Val) → Heap → Prop} (q : Sat r.nox P EE) : Sat r P NoX := by
  cases r with
  | ok a h => exact q
  | ex C fs h => exact (show False from q).elim
  | no => exact q
theorem Sat.some {α : Type} {r : Sc.R α} {P : α → Heap → Prop} (q : Sat r P NoX) : ∃ a h, r = .ok a h ∧ P a h := by
  cases r with
  | ok a h => exact ⟨a, h, rfl, q⟩
  | ex C fs h => exact (show False from q).elim
  | no => exact (show False from q).elim
def tTs (K : PySem.W.Frag) (cx : Sc.Cx) (E : XK) (irs : Its) : TT := fun σ H Q => ∃ ρ env h, HRel K ρ h H ∧ SRel K ρ H env σ ∧ Sat (evT cx irs env h) (fun b h' => ∀ ρ' H', Ext ρ H ρ' H' → HRel K ρ' h' H' → Q b H') (XP K E ρ H)
section
variable {X : L2.Cx} {cx : Sc.Cx} {E : XK}
theorem ptsE_nil : PTs X [] (tTs X.K cx E .nil) := ⟨fun pins s σ H Q I q => by
  obtain ⟨ρ, env, h, R, S, q⟩ := q
  exact pts_nil.run pins s σ H Q I ((show ∀ ρ' H', Ext ρ H ρ' H' → HRel X.K ρ' h H' → Q true H' from q) ρ H .refl R)⟩
theorem ptsE_one {c : Expr} {ic : Ex} (hc : PXT X cx E c ic) : PTs X [c] (tTs X.K cx E (.cons ic .nil)) := ⟨fun pins s σ H Q I q => by
  obtain ⟨ρ, env, h, R, S, q⟩ := q
  refine (pts_one hc).run pins s σ H Q I ⟨ρ, env, h, R, S, sat_test.mpr ((Sat.unbind q).mono (fun v h1 z => ?_) fun _ _ _ z => z)⟩
  obtain ⟨b, eb, z⟩ := Sat.opt (Sat.unbind z)
  rw [eb]
  cases b with
  | true => exact z
  | false => exact z⟩
/-- what a comprehension says, as the hand layer reads it -/
theorem lcR {el : Ex} {t : Tg} {sr : Src} {irs : Its} {σ : L2.St} {H : Hp} {Q : VK} (q : tE X.K cx E (.lc el (.gen t sr irs .nil)) σ H Q) : tLc (tS X.K cx E sr) (gV X.K t) (tTs X.K cx E0 irs) (tE X.K cx E0 el) t.slots σ H Q := by
  obtain ⟨ρ, env, h, R, S, q⟩ := q
  have q1 := Sat.unbind (Sat.unnox (Sat.unbind q))
  refine ⟨ρ, env, h, R, S, q1.mono (fun w h1 z ρ1 H1 J e1 R1 wk D hD => ?_) fun _ _ _ z => z.elim⟩
  have hDρ := fresh_out R1 hD
  -- the invariant
  refine ⟨fun i m H2 => i ≤ w.items.length ∧ m = w.items.length - i ∧ ∃ ρ2 h2 va acc, Ext ρ1 H1 ρ2 H2 ∧ HRel X.K ρ2 h2 H2 ∧ D ∉ ρ2 ∧ H2 D = some (.lst acc) ∧ VRels X.K ρ2 H2 va acc ∧ Sat (loopL w _ (w.items.drop i) h2) (fun vs h' => Sat (if (va ++ vs).length ≤ lim then Sc.R.ok (.tl (va ++ vs)) h' else .no) (Post X.K ρ H Q) (XP X.K E ρ H)) NoX, ⟨_, Nat.zero_le _, rfl, ρ1, h1, [], [], Ext.poke .refl hD, R1.new hD, hDρ, upd_same, .nil, z⟩, ?_⟩
  rintro i m H2 ⟨hil, rfl, ρ2, h2, va, acc, ex, R2, hD2, eD, rr, lp⟩
  by_cases hlt : i < w.items.length
  · have hdr : w.items.drop i = w.items[i] :: w.items.drop (i + 1) := List.drop_eq_getElem_cons hlt
    rw [hdr] at lp
    unfold loopL at lp
    split at lp
    · rename_i hst
      obtain ⟨go, _⟩ := wk ρ2 h2 H2 ex R2 hst
      obtain ⟨hgo, hyl⟩ := go i _ (List.getElem?_eq_getElem hlt)
      refine .inr ⟨hgo, fun H' => ∃ ρ2 h2 va acc, Ext ρ1 H1 ρ2 H' ∧ HRel X.K ρ2 h2 H' ∧ D ∉ ρ2 ∧ H' D = some (.lst acc) ∧ VRels X.K ρ2 H' va acc ∧ Sat (loopL w _ (w.items.drop (i + 1)) h2) (fun vs h' => Sat (if (va ++ vs).length ≤ lim then Sc.R.ok (.tl (va ++ vs)) h' else .no) (Post X.K ρ H Q) (XP X.K E ρ H)) NoX, fun H' p => ⟨w.items.length - (i + 1), by omega, hlt, rfl, p⟩, fun x H' hy => ?_⟩
      obtain ⟨e2, R2', rv⟩ := hyl x H' hy
      have lp := Sat.unbind lp
      split at lp
      · rename_i env1 ea
        refine ⟨ρ2, wipeE env t.slots, h2, _, env1, R2', ((S.wiped t.slots).later R ((e1.trans ex).trans e2)), rv, ?_, fun σ' S' sm => ⟨sm.wiped fun _ z => z, ρ2, env1, h2, R2', S', (Sat.unbind lp).mono (fun b h3 lp ρ3 H3 e3 R3 => ?_) fun _ _ _ z => z.elim⟩⟩
        · have hsl : (Gens.gen t sr irs .nil).slots = t.slots := List.append_nil _
          rw [← hsl]
          exact ea
        obtain ⟨kD2, nD2⟩ := e2.keep D _ eD hD2
        obtain ⟨kD3, nD3⟩ := e3.keep D _ kD2 nD2
        cases b with
        | false =>
          rw [if_neg Bool.false_ne_true]
          rw [if_neg Bool.false_ne_true] at lp
          refine ⟨ρ3, h3, va, acc, (ex.trans e2).trans e3, R3, nD3, kD3, (rr.later R2 e2).later R2' e3, ?_⟩
          refine (Sat.unbind lp).mono (fun b h4 z => ?_) fun _ _ _ z => z
          have z : Sat (if (va ++ ([] ++ b)).length ≤ lim then Sc.R.ok (.tl (va ++ ([] ++ b))) h4 else .no) (Post X.K ρ H Q) (XP X.K E ρ H) := z
          rw [List.nil_append] at z
          exact z
        | true =>
          rw [if_pos rfl]
          rw [if_pos rfl] at lp
          refine ⟨ρ3, env1, h3, R3, S'.later R2' e3, (Sat.unbind lp).mono (fun v h4 lp ρ4 H4 y e4 R4 w4 => ?_) fun _ _ _ z => z.elim⟩
          obtain ⟨v', h5, ρ5, lp, e5, R5, r5, _⟩ := box_ok R4 e4 w4 (Sat.unbind lp)
          obtain ⟨kD5, nD5⟩ := e5.keep D _ kD3 nD3
          have lp : Sat (loopL w _ (w.items.drop (i + 1)) h5) (fun b h6 => Sat (if (va ++ ([v'] ++ b)).length ≤ lim then Sc.R.ok (.tl (va ++ ([v'] ++ b))) h6 else .no) (Post X.K ρ H Q) (XP X.K E ρ H)) NoX := Sat.unbind lp
          have rr5 : VRels X.K ρ5 H4 va acc := ((rr.later R2 e2).later R2' e3).later R3 e5
          have hz : acc.length < sizeLine := by
            obtain ⟨b, h6, _, z⟩ := lp.some
            split at z
            · rename_i hz
              rw [← rr5.length]
              simp only [List.length_append, List.length_singleton] at hz
              have : lim = sizeLine := rfl
              omega
            · exact (show False from z).elim
          have tp := tups_poke (acc' := acc ++ [y]) kD5
          refine ⟨acc, kD5, hz, ρ5, h5, va ++ [v'], acc ++ [y], Ext.poke ((ex.trans e2).trans (e3.trans e5)) hD, R5.poke nD5 kD5, nD5, upd_same, (rr5.mono (fun _ _ z => z) tp).append (.cons (r5.mono (fun _ _ z => z) tp) .nil), ?_⟩
          simpa [List.append_assoc] using lp
      · exact (show False from lp).elim
    · exact (show False from lp).elim
  · have hin : i = w.items.length := by omega
    subst hin
    rw [List.drop_length] at lp
    unfold loopL at lp
    split at lp
    · rename_i hst
      obtain ⟨_, stop⟩ := wk ρ2 h2 H2 ex R2 hst
      refine .inl ⟨stop, ?_⟩
      have lp : Sat (if (va ++ []).length ≤ lim then Sc.R.ok (.tl (va ++ [])) h2 else .no) (Post X.K ρ H Q) (XP X.K E ρ H) := lp
      split at lp
      · rw [List.append_nil] at lp
        exact (show Post X.K ρ H Q (.tl va) h2 from lp) ρ2 H2 _ (e1.trans ex) R2 (.tl eD hD2 (e1.fresh hDρ hD) rr)
      · exact (show False from lp).elim
    · exact (show False from lp).elim
/-- [elt for tg in iter if ..] -/
theorem px_lc {elt tg iter : Expr} {ifs : List Expr} {scope : Scope} {own : List (Str × Nat)} {pos : Pos} {el : Ex} {t : Tg} {sr : Src} {irs : Its} (hc : X.calm = true) (hN : X.N.Nodup) (hi : PXS X cx E tg iter sr) (ok : BlkOk X.N X.env.scope scope own) (hown : own.map (·.2) = t.slots)
    (hg : ∀ (s : Shared) (H : Hp) (C : Addr) (cl : List (Str × Addr)) (fp : List Addr), PG (X.blk s H scope (compEnvC scope cl C X.env) fp) tg (gV X.K t)) (ht : ∀ (s : Shared) (H : Hp) (C : Addr) (cl : List (Str × Addr)) (fp : List Addr), PTs (X.blk s H scope (compEnvC scope cl C X.env) fp) ifs (tTs X.K cx E0 irs))
    (he : ∀ (s : Shared) (H : Hp) (C : Addr) (cl : List (Str × Addr)) (fp : List Addr), PX (X.blk s H scope (compEnvC scope cl C X.env) fp) cx E0 elt el) (hs : ∀ x, foldedSetIterable iter X.env x = pure x) :
    PX X cx E (.ListComp elt [⟨tg, iter, ifs, 0⟩] scope pos) (.lc el (.gen t sr irs .nil)) := by
  refine ⟨fun pins s σ H Q I q => (pe_lc (te := tE X.K cx E0 el) hc hN hi ok hg ht he hs).run pins s σ H Q I ?_⟩
  rw [hown]
  exact lcR q
end
end Sc
end
section
set_option Elab.async false
set_option linter.all false
set_option maxRecDepth 100000
set_option maxHeartbeats 4000000
set_option autoImplicit false
/-! Statements. -/
namespace Sc
open PySem PySem.Spec PyProof.Rows L2

def FlowQ (K : PySem.W.Frag) (ρ : List Addr) (H : Hp) (D : Ends) : Fl → Heap → Prop := fun fl h' => ∀ ρ' H', Ext ρ H ρ' H' → HRel K ρ' h' H' → match fl with
  | .nx e => ∀ σ', SRel K ρ' H' e σ' → D.nx σ' H'
  | .bk e => ∀ σ', SRel K ρ' H' e σ' → D.bk σ' H'
  | .rt v => ∀ x, WRel K ρ' H H' v x → D.rt x H'
def tST (K : PySem.W.Frag) (cx : Sc.Cx) (E : XK) (ir : Sc.St) : TS := fun D σ H => ∃ ρ env h, HRel K ρ h H ∧ SRel K ρ H env σ ∧ Sat (evS cx ir env h) (FlowQ K ρ H D) (XP K E ρ H)
def tBT (K : PySem.W.Frag) (cx : Sc.Cx) (E : XK) (irs : List Sc.St) : TS := fun D σ H => ∃ ρ env h, HRel K ρ h H ∧ SRel K ρ H env σ ∧ Sat (evB cx irs env h) (FlowQ K ρ H D) (XP K E ρ H)
abbrev QS (X : L2.Cx) (cx : Sc.Cx) (E : XK) (st : Stmt) (ir : Sc.St) : Prop := PS X st (tST X.K cx E ir)
abbrev QB (X : L2.Cx) (cx : Sc.Cx) (E : XK) (sts : List Stmt) (irs : List Sc.St) : Prop := PSs X sts (tBT X.K cx E irs)
/-- seen from an earlier start -/
theorem FlowQ.at {K : PySem.W.Frag} {ρ ρ1 : List Addr} {H H1 : Hp} {D : Ends} {fl : Fl} {h' : Heap} (p : FlowQ K ρ H D fl h') (e : Ext ρ H ρ1 H1) : FlowQ K ρ1 H1 D fl h' := fun ρ' H' e' R' => by
  have z := p ρ' H' (e.trans e') R'
  cases fl with
  | nx e => exact z
  | bk e => exact z
  | rt v => exact fun x w => z x (w.back e e'.memL)
section
variable {X : L2.Cx} {CX : CXT} {k : Nat} {cx : Sc.Cx} {fa : String → String → Addr} {E : XK}
theorem qb_nil : QB X cx E [] [] := ⟨fun pins s σ H D I q => by
  obtain ⟨ρ, env, h, R, S, q⟩ := q
  exact pss_nil.run pins s σ H D I ((show FlowQ X.K ρ H D (.nx env) h from q) ρ H .refl R σ S)⟩
theorem qb_cons {st : Stmt} {sts : List Stmt} {ir : Sc.St} {irs : List Sc.St} (h1 : QS X cx E st ir) (h2 : QB X cx E sts irs) : QB X cx E (st :: sts) (ir :: irs) := ⟨fun pins s σ H D I q => by
  refine (pss_cons h1 h2).run pins s σ H D I ?_
  obtain ⟨ρ, env, h, R, S, q⟩ := q
  refine ⟨ρ, env, h, R, S, (Sat.unbind q).mono (fun fl h1 p ρ1 H1 e1 R1 => ?_) fun _ _ _ z => z⟩
  cases fl with
  | nx e => exact fun σ1 S1 => ⟨ρ1, e, h1, R1, S1, (show Sat (evB cx irs e h1) _ _ from p).mono (fun _ _ z => z.at e1) fun _ _ _ z => z.later e1⟩
  | bk e => exact (show FlowQ X.K ρ H D (.bk e) h1 from p) ρ1 H1 e1 R1
  | rt v => exact (show FlowQ X.K ρ H D (.rt v) h1 from p) ρ1 H1 e1 R1⟩
theorem qs_pass {pos : Pos} : QS X cx E (.Pass pos) .pass := ⟨fun pins s σ H D I q => by
  obtain ⟨ρ, env, h, R, S, q⟩ := q
  exact ps_pass.run pins s σ H D I ((show FlowQ X.K ρ H D (.nx env) h from q) ρ H .refl R σ S)⟩
theorem qs_brk {pos : Pos} : QS X cx E (.Break pos) .brk := ⟨fun pins s σ H D I q => by
  obtain ⟨ρ, env, h, R, S, q⟩ := q
  exact ps_break.run pins s σ H D I ((show FlowQ X.K ρ H D (.bk env) h from q) ρ H .refl R σ S)⟩
theorem qs_ret {e : Expr} {ie : Ex} {pos : Pos} (he : PX X cx E e ie) : QS X cx E (.Return (some e) pos) (.ret ie) := ⟨fun pins s σ H D I q => by
  obtain ⟨ρ, env, h, R, S, q⟩ := q
  refine (ps_ret he).run pins s σ H D I ⟨ρ, env, h, R, S, (Sat.unbind q).mono (fun v h1 p ρ1 H1 x e1 R1 w1 => ?_) fun _ _ _ z => z⟩
  exact (show FlowQ X.K ρ H D (.rt v) h1 from p) ρ1 H1 e1 R1 x w1⟩
theorem qs_retN {pos : Pos} : QS X cx E (.Return none pos) (.ret (.con .non)) := ⟨fun pins s σ H D I q => by
  obtain ⟨ρ, env, h, R, S, q⟩ := q
  exact ps_retN.run pins s σ H D I ((show FlowQ X.K ρ H D (.rt .non) h from q) ρ H .refl R .non (.v .non))⟩
theorem qs_never {st : Stmt} : QS X cx E st .never := ⟨fun pins s σ H D I q => by
  obtain ⟨ρ, env, h, R, S, q⟩ := q
  exact (show False from q).elim⟩
theorem qs_ex {e : Expr} {ie : Ex} {pos : Pos} (he : PX X cx E e ie) (hs : swapsWith e none pos.line X.env = pure false) : QS X cx E (.Expr e pos) (.ex ie) := ⟨fun pins s σ H D I q => by
  obtain ⟨ρ, env, h, R, S, q⟩ := q
  refine (ps_expr he hs).run pins s σ H D I ⟨ρ, env, h, R, S, (Sat.unbind q).mono (fun v h1 p ρ1 H1 x e1 R1 w1 => ?_) fun _ _ _ z => z⟩
  exact (show FlowQ X.K ρ H D (.nx env) h1 from p) ρ1 H1 e1 R1 σ (S.later R e1)⟩
theorem qs_doc {x : Str} {j : Nat} {p1 p2 : Pos} : QS X cx E (.Expr (.Constant (.str x) j p1) p2) .pass := ⟨fun pins s σ H D I q => by
  obtain ⟨ρ, env, h, R, S, q⟩ := q
  exact ps_doc.run pins s σ H D I ((show FlowQ X.K ρ H D (.nx env) h from q) ρ H .refl R σ S)⟩
theorem qs_if {c : Expr} {a b : List Stmt} {ic : Ex} {ia ib : List Sc.St} {pos : Pos} (hc : PXT X cx E c ic) (ha : QB X cx E a ia) (hb : QB X cx E b ib) : QS X cx E (.If c a b pos) (.ifs ic ia ib) := ⟨fun pins s σ H D I q => by
  obtain ⟨ρ, env, h, R, S, q⟩ := q
  refine (ps_if hc ha hb).run pins s σ H D I ⟨ρ, env, h, R, S, (Sat.unbind q).mono (fun b h1 p ρ1 H1 e1 R1 => ?_) fun _ _ _ z => z⟩
  cases b with
  | true => exact ⟨ρ1, env, h1, R1, S.later R e1, (show Sat (evB cx ia env h1) _ _ from p).mono (fun _ _ z => z.at e1) fun _ _ _ z => z.later e1⟩
  | false => exact ⟨ρ1, env, h1, R1, S.later R e1, (show Sat (evB cx ib env h1) _ _ from p).mono (fun _ _ z => z.at e1) fun _ _ _ z => z.later e1⟩⟩
/-- a value that is to be kept under a name -/
theorem set_go {K : PySem.W.Frag} {ρ ρ1 : List Addr} {H H1 : Hp} {h h1 : Heap} {env : Env} {σ : L2.St} {D : Ends} {EE : String → List (String × Val) → Heap → Prop} {v : Val} {x : V} {i : Nat} (R : HRel K ρ h H) (S : SRel K ρ H env σ) (e1 : Ext ρ H ρ1 H1) (R1 : HRel K ρ1 h1 H1) (w1 : WRel K ρ1 H H1 v x)
    (p : Sat ((box v h1).bind fun x h2 => .ok (.nx (env.set i (some x))) h2) (FlowQ K ρ H D) EE) : D.nx (σ.set i (some x)) H1 := by
  obtain ⟨v', h2, ρ2, p, e2, R2, r2, _⟩ := box_ok R1 e1 w1 (Sat.unbind p)
  exact (show FlowQ K ρ H D (.nx (env.set i (some v'))) h2 from p) ρ2 H1 e2 R2 _ ((S.later R e2).put r2 i)
theorem qs_set {i : Nat} {x : Str} {e : Expr} {ie : Ex} {pos p : Pos} (hN : X.N.Nodup) (hi : X.N[i]? = some x) (hx : Loc X.env.scope x) (he : PX X cx E e ie) (hs : swapsWith e (some (.Name x p)) pos.line X.env = pure false) (hf : X.fn x = true ∨ X.env.scope.names.lookup x = some .local) : QS X cx E (.Assign [.Name x p] e pos) (.set i ie) := ⟨fun pins s σ H D I q => by
  obtain ⟨ρ, env, h, R, S, q⟩ := q
  exact (ps_set hN hi hx he hs hf).run pins s σ H D I ⟨ρ, env, h, R, S, (Sat.unbind q).mono (fun v h1 p ρ1 H1 x e1 R1 w1 => set_go R S e1 R1 w1 p) fun _ _ _ z => z⟩⟩
/-- name = [..] on one line -/
theorem qs_setLc {i : Nat} {y : Str} {py : Pos} {elt tg iter : Expr} {ifs : List Expr} {scope : Scope} {own : List (Str × Nat)} {pos spos : Pos} {el : Ex} {t : Tg} {sr : Src} {irs : Its} (hc : X.calm = true) (hN : X.N.Nodup) (hy : X.N[i]? = some y) (hyl : X.env.scope.names.lookup y = some .local)
    (hsw : swapsWith (.ListComp elt [⟨tg, iter, ifs, 0⟩] scope pos) (some (.Name y py)) spos.line X.env = pure true) (hi : PXS X cx E tg iter sr) (ok : BlkOk X.N X.env.scope scope own) (hown : own.map (·.2) = t.slots)
    (hg : ∀ (s : Shared) (H : Hp) (C : Addr) (cl : List (Str × Addr)) (fp : List Addr), PG (X.blk s H scope (compEnvC scope cl C X.env) fp) tg (gV X.K t)) (ht : ∀ (s : Shared) (H : Hp) (C : Addr) (cl : List (Str × Addr)) (fp : List Addr), PTs (X.blk s H scope (compEnvC scope cl C X.env) fp) ifs (tTs X.K cx E0 irs))
    (he : ∀ (s : Shared) (H : Hp) (C : Addr) (cl : List (Str × Addr)) (fp : List Addr), PX (X.blk s H scope (compEnvC scope cl C X.env) fp) cx E0 elt el) (hs : ∀ x, foldedSetIterable iter X.env x = pure x) :
    QS X cx E (.Assign [.Name y py] (.ListComp elt [⟨tg, iter, ifs, 0⟩] scope pos) spos) (.set i (.lc el (.gen t sr irs .nil))) := ⟨fun pins s σ H D I q => by
  refine (ps_setLc (te := tE X.K cx E0 el) hc hN hy hyl hsw hi ok hg ht he hs).run pins s σ H D I ?_
  show tLc _ _ _ _ (own.map (·.2)) σ H _
  rw [hown]
  obtain ⟨ρ, env, h, R, S, q⟩ := q
  exact lcR ⟨ρ, env, h, R, S, (Sat.unbind q).mono (fun v h1 p ρ1 H1 x e1 R1 w1 => set_go R S e1 R1 w1 p) fun _ _ _ z => z⟩⟩
theorem qs_sets {es : List Expr} {ts : List Tg} {e : Expr} {ie : Ex} {k : Nat} {pos p : Pos} (he : PX X cx E e ie) (hg : PG X (.Tuple es k p) (gV X.K (.vs ts))) (hs : swapsWithSole [.Tuple es k p] e pos.line X.env = pure false) (hw : swappedStores [.Tuple es k p] e X.env = pure none) : QS X cx E (.Assign [.Tuple es k p] e pos) (.sets ts ie) := ⟨fun pins s σ H D I q => by
  obtain ⟨ρ, env, h, R, S, q⟩ := q
  refine (ps_asg he hg hs hw).run pins s σ H D I ⟨ρ, env, h, R, S, (Sat.unbind q).mono (fun v h1 p ρ1 H1 x e1 R1 w1 => ?_) fun _ _ _ z => z⟩
  split at p
  · rename_i env' ea
    have hv : VRel X.K ρ1 H1 v x := v_of_w w1 fun vs z => by subst z; cases ea
    exact ⟨ρ1, env, h1, v, env', R1, S.later R e1, hv, ea, fun σ' S' _ => (show FlowQ X.K ρ H D (.nx env') h1 from p) ρ1 H1 e1 R1 σ' S'⟩
  · exact (show False from p).elim⟩
theorem qs_aug {i : Nat} {x : Str} {e : Expr} {ie : Ex} {op : Bop} {pos p : Pos} (hN : X.N.Nodup) (hi : X.N[i]? = some x) (hx : Loc X.env.scope x) (he : PX X cx E e ie) (hf : X.fn x = true ∨ X.env.scope.names.lookup x = some .local) : QS X cx E (.AugAssign (.Name x p) .Add e pos) (.aug .add i ie) := ⟨fun pins s σ H D I q => by
  obtain ⟨ρ, env, h, R, S, q⟩ := q
  have q : Sat (match env[i]? with | some (some y) => (evE cx ie env h).bind fun x h1 => (ofOpt (augE .add y x) h1).bind fun z h2 => .ok (.nx (env.set i (some z))) h2 | _ => Sc.R.no) (FlowQ X.K ρ H D) (XP X.K E ρ H) := q
  split at q
  · rename_i y hy
    obtain ⟨yv, ev, r⟩ := S.var i y hy
    refine (ps_aug hN hi hx he ip_add hf).run pins s σ H D I ⟨yv, ev, ρ, env, h, R, S, (Sat.unbind q).mono (fun v h1 p ρ1 H1 x e1 R1 w1 => ?_) fun _ _ _ z => z⟩
    obtain ⟨z, ez, p⟩ := Sat.opt (Sat.unbind p)
    have aug : ∃ a b, y = .int a ∧ v = .int b ∧ z = .int (a + b) := by
      cases y <;> cases v <;> first
        | exact ⟨_, _, rfl, rfl, (Option.some.inj ez).symm⟩
        | cases ez
    obtain ⟨a, b, rfl, rfl, rfl⟩ := aug
    obtain rfl := w1.int
    cases r
    exact ⟨_, _, rfl, rfl, (show FlowQ X.K ρ H D (.nx _) h1 from p) ρ1 H1 e1 R1 _ ((S.later R e1).put (.int _) i)⟩
  · exact (show False from q).elim⟩

/-! ### loops -/
theorem qs_for {tg iter : Expr} {body : List Stmt} {t : Tg} {sr : Src} {ib : List Sc.St} {pos : Pos} (hp : PassesOwn (model X.prog X.w) X.A X.env X.xe) (hc : X.calm = true) (hi : PXS X cx E tg iter sr) (hg : PG X tg (gV X.K t)) (hb : QB X cx E body ib) (hs : ∀ x, foldedSetIterable iter X.env x = pure x) : QS X cx E (.For tg iter body [] pos) (.for_ t sr ib) := ⟨fun pins s σ H D I q => by
  refine (ps_for hp hc hi hg hb hs).run pins s σ H D I ?_
  obtain ⟨ρ, env, h, R, S, q⟩ := q
  refine ⟨ρ, env, h, R, S, (Sat.unbind q).mono (fun w h1 z ρ1 H1 J e1 R1 wk => ?_) fun _ _ _ z => z⟩
  refine ⟨fun i m σ2 H2 => i ≤ w.items.length ∧ m = w.items.length - i ∧ ∃ ρ2 env2 h2, Ext ρ1 H1 ρ2 H2 ∧ HRel X.K ρ2 h2 H2 ∧ SRel X.K ρ2 H2 env2 σ2 ∧ Sat (loopS w _ (w.items.drop i) env2 h2) (FlowQ X.K ρ H D) (XP X.K E ρ H), ⟨_, Nat.zero_le _, rfl, ρ1, env, h1, .refl, R1, S.later R e1, z⟩, ?_⟩
  rintro i m σ2 H2 ⟨hil, rfl, ρ2, env2, h2, ex, R2, S2, lp⟩
  by_cases hlt : i < w.items.length
  · have hdr : w.items.drop i = w.items[i] :: w.items.drop (i + 1) := List.drop_eq_getElem_cons hlt
    rw [hdr] at lp
    unfold loopS at lp
    split at lp
    · rename_i hst
      obtain ⟨go, _⟩ := wk ρ2 h2 H2 ex R2 hst
      obtain ⟨hgo, hyl⟩ := go i _ (List.getElem?_eq_getElem hlt)
      refine .inr ⟨hgo, fun σ' H' => ∃ ρ2 env2 h2, Ext ρ1 H1 ρ2 H' ∧ HRel X.K ρ2 h2 H' ∧ SRel X.K ρ2 H' env2 σ' ∧ Sat (loopS w _ (w.items.drop (i + 1)) env2 h2) (FlowQ X.K ρ H D) (XP X.K E ρ H), fun σ' H' p => ⟨w.items.length - (i + 1), by omega, hlt, rfl, p⟩, fun x H' hy => ?_⟩
      obtain ⟨e2, R2', rv⟩ := hyl x H' hy
      have lp := Sat.unbind lp
      split at lp
      · rename_i env1 ea
        refine ⟨ρ2, env2, h2, _, env1, R2', S2.later R2 e2, rv, ea, fun σ' S' _ => ⟨ρ2, env1, h2, R2', S', lp.mono (fun fl h3 lp ρ3 H3 e3 R3 => ?_) fun _ _ _ z => z.later ((e1.trans ex).trans e2)⟩⟩
        cases fl with
        | nx e => exact fun σ3 S3 => ⟨ρ3, e, h3, (ex.trans e2).trans e3, R3, S3, lp⟩
        | bk e => exact fun σ3 S3 => (show FlowQ X.K ρ H D (.nx e) h3 from lp) ρ3 H3 (((e1.trans ex).trans e2).trans e3) R3 σ3 S3
        | rt v => exact fun y w3 => (show FlowQ X.K ρ H D (.rt v) h3 from lp) ρ3 H3 (((e1.trans ex).trans e2).trans e3) R3 y (w3.back ((e1.trans ex).trans e2) e3.memL)
      · exact (show False from lp).elim
    · exact (show False from lp).elim
  · have hin : i = w.items.length := by omega
    subst hin
    rw [List.drop_length] at lp
    unfold loopS at lp
    split at lp
    · rename_i hst
      obtain ⟨_, stop⟩ := wk ρ2 h2 H2 ex R2 hst
      exact .inl ⟨stop, (show FlowQ X.K ρ H D (.nx env2) h2 from lp) ρ2 H2 (e1.trans ex) R2 σ2 S2⟩
    · exact (show False from lp).elim⟩
theorem qs_while {c : Expr} {body : List Stmt} {ic : Ex} {ib : List Sc.St} {pos : Pos} (hp : PassesOwn (model X.prog X.w) X.A X.env X.xe) (hc : PXT X cx E c ic) (hb : QB X cx E body ib) : QS X cx E (.While c body [] pos) (.while_ ic ib) := ⟨fun pins s σ H D I q => by
  refine (ps_while hp hc hb).run pins s σ H D I ?_
  obtain ⟨ρ, env, h, R, S, q⟩ := q
  refine ⟨fun m σ2 H2 => ∃ ρ2 env2 h2, Ext ρ H ρ2 H2 ∧ HRel X.K ρ2 h2 H2 ∧ SRel X.K ρ2 H2 env2 σ2 ∧ Sat (loopW (test cx ic) (evB cx ib) m env2 h2) (FlowQ X.K ρ H D) (XP X.K E ρ H), ⟨whileMost, ρ, env, h, .refl, R, S, q⟩, ?_⟩
  rintro m σ2 H2 ⟨ρ2, env2, h2, ex, R2, S2, lp⟩
  cases m with
  | zero => exact (show False from lp).elim
  | succ m =>
    unfold loopW at lp
    refine ⟨ρ2, env2, h2, R2, S2, (Sat.unbind lp).mono (fun b h3 lp ρ3 H3 e3 R3 => ?_) fun _ _ _ z => z.later ex⟩
    cases b with
    | false => exact (show FlowQ X.K ρ H D (.nx env2) h3 from lp) ρ3 H3 (ex.trans e3) R3 σ2 (S2.later R2 e3)
    | true =>
      refine ⟨fun σ' H' => ∃ ρ2 env2 h2, Ext ρ H ρ2 H' ∧ HRel X.K ρ2 h2 H' ∧ SRel X.K ρ2 H' env2 σ' ∧ Sat (loopW (test cx ic) (evB cx ib) m env2 h2) (FlowQ X.K ρ H D) (XP X.K E ρ H), fun σ' H' p => ⟨m, Nat.lt_succ_self m, p⟩, ρ3, env2, h3, R3, S2.later R2 e3, (Sat.unbind lp).mono (fun fl h4 lp ρ4 H4 e4 R4 => ?_) fun _ _ _ z => z.later (ex.trans e3)⟩
      cases fl with
      | nx e => exact fun σ4 S4 => ⟨ρ4, e, h4, (ex.trans e3).trans e4, R4, S4, lp⟩
      | bk e => exact fun σ4 S4 => (show FlowQ X.K ρ H D (.nx e) h4 from lp) ρ4 H4 ((ex.trans e3).trans e4) R4 σ4 S4
      | rt v => exact fun y w4 => (show FlowQ X.K ρ H D (.rt v) h4 from lp) ρ4 H4 ((ex.trans e3).trans e4) R4 y (w4.back (ex.trans e3) e4.memL)⟩
end
end Sc
end
section
set_option Elab.async false
set_option linter.all false
set_option maxRecDepth 100000
set_option maxHeartbeats 4000000
set_option autoImplicit false
/-! Stores into things. -/
namespace Sc
open PySem PySem.Spec PyProof.Rows L2

section
variable {X : L2.Cx} {CX : CXT} {k : Nat} {cx : Sc.Cx} {fa : String → String → Addr} {E : XK} {K : PySem.W.Frag} {ρ : List Addr} {H H0 : Hp} {h : Heap}
theorem KRels.app : ∀ {a : List (Val × Val)} {a' : List (Key × V)} {b : List (Val × Val)} {b' : List (Key × V)}, KRels K ρ H a a' → KRels K ρ H b b' → KRels K ρ H (a ++ b) (a' ++ b')
  | _, _, _, _, .nil, s => s
  | _, _, _, _, .cons r t, s => .cons r (KRels.app t s)
theorem KRels.any {k : Val} {l : Key} (ek : keyOf k = some l) : ∀ {kvs : List (Val × Val)} {kvs' : List (Key × V)}, KRels K ρ H kvs kvs' → (kvs.any fun p => Val.eqb p.1 k) = kvs'.any fun kv => decide (kv.1 = l)
  | _, _, .nil => rfl
  | p :: kvs, q :: kvs', .cons rr t => by rw [List.any_cons, List.any_cons, KRels.any ek t, keyOf_eqb rr.1 ek]
theorem KRels.repl {k : Val} {l : Key} {v : Val} {x : V} (ek : keyOf k = some l) (r : VRel K ρ H v x) : ∀ {kvs : List (Val × Val)} {kvs' : List (Key × V)}, KRels K ρ H kvs kvs' → KRels K ρ H (kvs.map fun p => if Val.eqb p.1 k = true then (p.1, v) else p) (kvs'.map fun kv => if kv.1 = l then (kv.1, x) else kv)
  | _, _, .nil => .nil
  | p :: kvs, q :: kvs', .cons rr t => by
    refine .cons ?_ (KRels.repl ek r t)
    have ee := keyOf_eqb rr.1 ek
    dsimp only
    by_cases hk : q.1 = l
    · rw [if_pos hk, if_pos (by rw [ee]; exact decide_eq_true hk)]
      exact ⟨rr.1, r⟩
    · rw [if_neg hk, if_neg (by rw [ee]; simp [hk])]
      exact rr
theorem KRels.put {k : Val} {l : Key} {v : Val} {x : V} (ek : keyOf k = some l) (r : VRel K ρ H v x) {kvs : List (Val × Val)} {kvs' : List (Key × V)} (rr : KRels K ρ H kvs kvs') : KRels K ρ H (putD kvs k v) (putK kvs' l x) := by
  unfold putD putK
  rw [rr.any ek]
  split
  · exact rr.repl ek r
  · exact rr.app (.cons ⟨ek, r⟩ .nil)
theorem FRels.put (f : String) {v : Val} {x : V} (r : VRel K ρ H v x) : ∀ {fs : List (String × Val)} {fs' : List (Str × V)}, FRels K ρ H fs fs' → FRels K ρ H (Sc.putF fs f v) (L2.putF (Str.ofString f) x fs')
  | _, _, .nil => .cons ⟨rfl, r⟩ .nil
  | p :: fs, q :: fs', .cons rr t => by
    obtain ⟨a, b⟩ := p
    obtain ⟨a', b'⟩ := q
    have e0 : a' = Str.ofString a := rr.1
    subst e0
    unfold Sc.putF L2.putF
    by_cases ha : a = f
    · subst ha
      simp only [beq_self_eq_true, if_true]
      exact .cons ⟨rfl, r⟩ t
    · have h1 : (a == f) = false := beq_eq_false_iff_ne.mpr ha
      have h2 : ¬ Str.ofString a = Str.ofString f := fun z => ha (ofString_inj z)
      simp only [h1, if_neg h2]
      exact .cons rr (FRels.put f r t)
/-- o[i] = v, by values -/
def rSetE (K : PySem.W.Frag) : TSet := fun o i v H Q => ∃ ρ H0 h wo wi wv h', HRel K ρ h H ∧ WRel K ρ H0 H wo o ∧ WRel K ρ H0 H wi i ∧ VRel K ρ H wv v ∧ setIE wo wi wv h = some h' ∧ ∀ H', Ext ρ H ρ H' → HRel K ρ h' H' → Q H'
theorem set_ev (hu : X.A.units + 1 < cLine) : PSet X (rSetE X.K) := by
  intro pins s σ H o i v ov iv u Q I ro ri rv h
  obtain ⟨ρ, H0, h, wo, wi, wv, h', R, q1, q2, q3, e, kq⟩ := h
  unfold setIE at e
  split at e
  · rename_i n
    obtain ⟨a, rfl, hr⟩ := q1.loc
    split at e
    · rename_i xs kk hn
      obtain ⟨j, ej, rfl⟩ := map_some e
      obtain rfl := q2.int
      obtain ⟨ys, e1, rr⟩ := R.obj n _ a hn hr
      exact set_list pins s σ H _ _ v ov iv u Q I ro ri rv ⟨a, ys, kk, j, rfl, rfl, e1, by rw [← rr.length]; exact ej, kq _ (.write (List.mem_of_getElem? hr)) (R.write hr fun H' e' hH' => ⟨_, hH', VRels.set (q3.later R e') j (rr.later R e')⟩)⟩
    · rename_i kvs hn
      split at e
      · rename_i hc
        cases e
        simp only [Bool.and_eq_true, decide_eq_true_eq] at hc
        obtain ⟨l, hl⟩ := Option.isSome_iff_exists.mp hc.1
        obtain rfl := keyOf_rel hl q2
        obtain ⟨kvs', e1, rr⟩ := R.obj n _ a hn hr
        exact set_dict hu pins s σ H _ _ v ov iv u Q I ro ri rv ⟨a, _, rfl, DPut.k e1 (by rw [← Paired.length rr]; exact hc.2), kq _ (.write (List.mem_of_getElem? hr)) (R.write hr fun H' e' hH' => ⟨_, hH', (KRels.later rr R e').put hl (q3.later R e')⟩)⟩
      · cases e
    · cases e
  · cases e
theorem qs_setI {o i e : Expr} {io ii ie : Ex} {p pos : Pos} (hu : X.A.units + 1 < cLine) (ho : PX X cx E o io) (hi : PX X cx E i ii) (he : PX X cx E e ie) (hs : swapsWith e (some (.Subscript o i p)) pos.line X.env = pure false)
    (hA : ∀ v, assign (.Subscript o i p) X.env v = (do
      let ov ← holding [v] (eval o X.env)
      let iv ← holding [v, ov] (eval i X.env)
      standAt p
      holding [v, ov, iv] (setItem ov iv v)
      release [v, ov, iv] [])) : QS X cx E (.Assign [.Subscript o i p] e pos) (.setI io ii ie) := ⟨fun pins s σ H D I q => by
  refine (ps_asg (te := tE X.K cx E ie) (g := gSub (tE X.K cx E io) (tE X.K cx E ii) (rSetE X.K)) he (pg_sub ho hi (set_ev hu) hA) hs (by cases e <;> rfl)).run pins s σ H D I ?_
  obtain ⟨ρ, env, h, R, S, q⟩ := q
  refine ⟨ρ, env, h, R, S, (Sat.unbind q).mono (fun v h1 p ρ1 H1 x e1 R1 w1 => ?_) fun _ _ _ z => z⟩
  obtain ⟨v', h2, ρ2, p, e2, R2, r2, more⟩ := box_ok R1 e1 w1 (Sat.unbind p)
  refine ⟨ρ2, env, h2, R2, ext_more (S.later R e1) more, (Sat.unbind p).mono (fun vo h3 p ρ3 H3 xo e3 R3 w3 => ?_) fun _ _ _ z => z.later e2⟩
  refine ⟨ρ3, env, h3, R3, (ext_more (S.later R e1) more).later R2 e3, (Sat.unbind p).mono (fun vi h4 p ρ4 H4 xi e4 R4 w4 => ?_) fun _ _ _ z => z.later (e2.trans e3)⟩
  split at p
  · rename_i h5 e5
    refine ⟨ρ4, H1, h4, vo, vi, v', h5, R4, w3.later R3 e4, w4.back e3 e4.memL, (r2.later R2 e3).later R3 e4, e5, fun H' e6 R6 => ?_⟩
    exact (show FlowQ X.K ρ H D (.nx env) h5 from p) ρ4 H' (((e2.trans e3).trans e4).trans e6) R6 σ ((((ext_more (S.later R e1) more).later R2 e3).later R3 e4).later R4 e6)
  · exact (show False from p).elim⟩
theorem qs_setA {o e : Expr} {io ie : Ex} {f : String} {p pos : Pos} (F : Fx X CX k cx fa) (ho : PX X cx E o io) (he : PX X cx E e ie) (hs : swapsWith e (some (.Attribute o (Str.ofString f) p)) pos.line X.env = pure false) : QS X cx E (.Assign [.Attribute o (Str.ofString f) p] e pos) (.setA io f ie) := ⟨fun pins s σ H D I q => by
  refine (ps_fld (f := Str.ofString f) ho he hs).run pins s σ H D I ?_
  obtain ⟨ρ, env, h, R, S, q⟩ := q
  refine ⟨ρ, env, h, R, S, (Sat.unbind q).mono (fun v h1 p ρ1 H1 x e1 R1 w1 => ?_) fun _ _ _ z => z⟩
  obtain ⟨v', h2, ρ2, p, e2, R2, r2, more⟩ := box_ok R1 e1 w1 (Sat.unbind p)
  refine ⟨ρ2, env, h2, R2, ext_more (S.later R e1) more, (Sat.unbind p).mono (fun vo h3 p ρ3 H3 xo e3 R3 w3 => ?_) fun _ _ _ z => z.later e2⟩
  split at p
  · rename_i h5 e5
    unfold setAE at e5
    split at e5
    · rename_i n
      split at e5
      · rename_i C fs hn
        split at e5
        · rename_i c hc
          split at e5
          · rename_i hcc
            cases e5
            simp only [Bool.and_eq_true, Bool.not_eq_true', decide_eq_true_eq] at hcc
            have G := F.cls C c hc hcc.1.1
            obtain ⟨a, rfl, hr⟩ := w3.loc
            obtain ⟨dx, fs', ea, rr⟩ := R3.obj n _ a hn hr
            refine ⟨a, ca X.K C, dx, fs', rfl, ea, G.cls, G.attr f hcc.1.2, by rw [← Paired.length rr]; exact hcc.2, ?_⟩
            have e6 : Ext ρ3 H3 ρ3 (upd H3 a (.ins (ca X.K C) dx (L2.putF (Str.ofString f) x fs'))) := .write (List.mem_of_getElem? hr)
            have R6 := R3.write (o := .ins C (Sc.putF fs f v')) (ho := .ins (ca X.K C) dx (L2.putF (Str.ofString f) x fs')) hr fun H' e' hH' => ⟨dx, _, hH', FRels.put f ((r2.later R2 e3).later R3 e') (FRels.later rr R3 e')⟩
            exact (show FlowQ X.K ρ H D (.nx env) _ from p) ρ3 _ ((e2.trans e3).trans e6) R6 σ (((ext_more (S.later R e1) more).later R2 e3).later R3 e6)
          · cases e5
        · cases e5
      · cases e5
    · cases e5
  · exact (show False from p).elim⟩
end
end Sc
end
section
set_option Elab.async false
set_option linter.all false
set_option maxRecDepth 100000
set_option maxHeartbeats 4000000
set_option autoImplicit false
/-! replace with constant texts, f-strings, dict displays. -/
namespace Sc
open PySem PySem.Spec PyProof.Rows L2

section
variable {X : L2.Cx} {CX : CXT} {k : Nat} {cx : Sc.Cx} {fa : String → String → Addr} {E : XK}
theorem px_repl {o : Expr} {io : Ex} {y z : Str} {j1 j2 : Nat} {p1 p2 apos pos : Pos} (ho : PX X cx E o io) (hb : attributeBase o (Str.ofString "replace") X.env (eval o X.env) = eval o X.env) (hline : (apos.endLine == pos.line) = true) :
    PX X cx E (.Call (.Attribute o (Str.ofString "replace") apos) [.Constant (.str y) j1 p1, .Constant (.str z) j2 p2] [] pos) (.repl io y z) := by
  refine ⟨fun pins s σ H Q I q => ?_⟩
  obtain ⟨ρ, env, h, R, S, q⟩ := q
  refine meth_open hb rfl (show 2 < 30 by decide) hline (ho.go I R S (Sat.unbind q) fun v h1 ρ1 H1 x u s1 p I1 rx e1 R1 S1 w1 pl => ?_)
  split at p
  · rename_i x0
    obtain ⟨r, e, p⟩ := Sat.opt p
    unfold mReplace at e
    split at e
    · rename_i hz
      cases e
      obtain rfl := w1.str
      obtain ⟨t, rfl⟩ := rx
      obtain ⟨h1', h2'⟩ := tyV_is (T := "str") (x := .str x0) I1 ⟨t, rfl⟩ rfl
      refine getMethod_builtin h1' PySem.F.plainAttrs_str PySem.F.slot_str_replace PySem.F.type_str_replace h2' ?_
      refine Calls.callWith_builtin rfl (FK.evalArgs_any rfl ?_)
      show wpAny _ _ (spliced ((false, eval (.Constant (.str y) j1 p1) X.env) :: (false, eval (.Constant (.str z) j2 p2) X.env) :: [])) _ _ _
      refine Calls.spliced_cons (Calls.Constant_str ?_)
      refine Calls.spliced_cons (Calls.Constant_str ?_)
      refine Calls.spliced_nil ?_
      refine call_gives PySem.F.slot_str_replace (typeIs_str _ _ _) PySem.F.entry_str_replace (PySem.F.args_str_replace_3 _ _ _) (gives_str_replace x0 y z t _ _ fun hf => ?_) ?_
      · rw [hz, Bool.true_or] at hf
        cases hf
      · rw [hz, Bool.true_or, if_pos rfl]
        exact ⟨.str x0, H1, (I1.tok _).tok _, ⟨t, rfl⟩, (show Post X.K ρ H Q _ h1 from p) ρ1 H1 _ e1 R1 (.v (.str _))⟩
    · cases e
  · exact (show False from p).elim

/-! ### f-strings -/
/-- the parts beside their trees -/
inductive Fps (X : L2.Cx) : List Expr → List Fp → Prop
  | nil : Fps X [] []
  | lit {y : Str} {j : Nat} {p : Pos} {es : List Expr} {ps : List Fp} : Fps X es ps → Fps X (.Constant (.str y) j p :: es) (.lit y :: ps)
  | v {i : Nat} {x : Str} {p p2 : Pos} {es : List Expr} {ps : List Fp} : X.N[i]? = some x → Vis X.env.scope x → (x == ("__debug__" : Str)) = false → (x == ("__classdict__" : Str)) = false → Fps X es ps → Fps X (.FormattedValue (.Name x p) (-1) none p2 :: es) (.v i :: ps)
def fpT : Fp → TE
  | .lit y => tC (.str y)
  | .v i => tFmt (tVar i)
theorem Fps.pj {es : List Expr} {ps : List Fp} (h : Fps X es ps) : PJ X es (ps.map fpT) := by
  induction h with
  | nil => exact .nil
  | lit _ ih => exact .cons pe_str ih
  | v hN hv hd hcd _ ih => exact .cons (pe_fmt (pe_var hN hv hd hcd)) ih
theorem fstr_tJs {K : PySem.W.Frag} {ρ : List Addr} {H : Hp} {env : Env} {σ : L2.St} (S : SRel K ρ H env σ) {Q : Str → Hp → Prop} : ∀ {ps : List Fp} {acc r : Str}, fstrE env ps acc = some r → Q r H → tJs (ps.map fpT) acc σ H Q
  | [], acc, r, e, q => by cases e; exact q
  | .lit y :: ps, acc, r, e, q => by
    have e : (if (acc ++ y).length ≤ lim then fstrE env ps (acc ++ y) else none) = some r := e
    split at e
    · rename_i hl
      exact ⟨y, rfl, hl, fstr_tJs S e q⟩
    · cases e
  | .v i :: ps, acc, r, e, q => by
    have e : (match env[i]? with
      | some (some (.str y)) => if y.length ≤ lim ∧ (acc ++ y).length ≤ lim then fstrE env ps (acc ++ y) else none
      | _ => none) = some r := e
    split at e
    · rename_i y hy
      split at e
      · rename_i hl
        obtain ⟨x, e1, r1⟩ := S.var i _ hy
        cases r1
        exact ⟨.str y, e1, .inl ⟨y, rfl, hl.1, y, rfl, hl.2, fstr_tJs S e q⟩⟩
      · cases e
    · cases e
theorem px_fstr {e1 e2 : Expr} {es : List Expr} {ps : List Fp} {pos : Pos} (hp : Fps X (e1 :: e2 :: es) ps) : PX X cx E (.JoinedStr (e1 :: e2 :: es) pos) (.fstr ps) := by
  refine ⟨fun pins s σ H Q I q => ?_⟩
  obtain ⟨ρ, env, h, R, S, q⟩ := q
  have q : Sat (ofOpt ((fstrE env ps Str.empty).map .str) h) (Post X.K ρ H Q) (XP X.K E ρ H) := q
  obtain ⟨r, e, p⟩ := Sat.opt q
  obtain ⟨z, ez, rfl⟩ := map_some e
  exact (pe_joined hp.pj).run pins s σ H Q I (fstr_tJs S ez (p ρ H _ .refl R (.v (.str _))))
/-! ### {} -/
theorem px_dct0 {pos : Pos} : PX X cx E (.Dict [] [] pos) (.dct .nil .nil) := by
  refine ⟨fun pins s σ H Q I q => ?_⟩
  obtain ⟨ρ, env, h, R, S, q⟩ := q
  have q : Post X.K ρ H Q (.loc h.length) (h ++ [.dct []]) := q
  refine pe_dnewK.run pins s σ H Q I fun p hp => ?_
  have R1 := R.new (o := .dK []) hp
  have R2 := R1.number (fresh_out R hp) (o := .dct []) ⟨[], upd_same, .nil⟩
  refine q (ρ ++ [p]) _ _ ⟨⟨[p], rfl⟩, fun a o ea na => ?_⟩ R2 (.v (.loc ?_))
  · have h1 : a ≠ p := fun z => by rw [z, hp] at ea; cases ea
    exact ⟨by rw [upd_ne h1]; exact ea, by simp [na, h1]⟩
  · rw [← R.len, List.getElem?_append_right (Nat.le_refl _)]; simp
end
end Sc
end
section
set_option Elab.async false
set_option linter.all false
set_option maxRecDepth 100000
set_option maxHeartbeats 4000000
set_option autoImplicit false
/-! A check of the small language's text against the trees. -/
namespace Sc
open PySem PySem.Spec PyProof.Rows L2

/-- where the check stands: the slots' names, the scope, the block (none: the def itself) -/
structure Ck where
  N : List Str
  sc : Scope
  blk : Option Scope
  P : Pg
def Ck.fn (c : Ck) : Str → Bool := match c.blk with
  | none => fun _ => true
  | some s => fun x => s.names.lookup x == some .cell
def Ck.within (c : Ck) (s : Scope) : Ck := ⟨c.N, relS s c.sc, some s, c.P⟩
def kd (c : Ck) (x : Str) : Option NameKind := c.sc.names.lookup x
def isVis (c : Ck) (x : Str) : Bool := match kd c x with
  | some .local => true
  | some .cell => true
  | some .free => true
  | _ => false
def isLoc (c : Ck) (x : Str) : Bool := match kd c x with
  | some .local => true
  | some .cell => true
  | _ => false
def isLocal (c : Ck) (x : Str) : Bool := match kd c x with
  | some .local => true
  | _ => false
def isCell (c : Ck) (x : Str) : Bool := match kd c x with
  | some .cell => true
  | _ => false
def isGl (c : Ck) (x : Str) : Bool := match kd c x with
  | some .globalImplicit => true
  | _ => false
def okFn (c : Ck) (x : Str) : Bool := c.fn x || isLocal c x
def nodbg (x : Str) : Bool := !(x == ("__debug__" : Str)) && !(x == ("__classdict__" : Str))
def constB : Val → Const → Bool
  | .int i, .int j => decide (i = j)
  | .bl a, .bool b => a == b
  | .non, .none => true
  | .str x, .str y => decide (x = y)
  | _, _ => false
def bopB : Bop → Operator → Bool
  | .add, .Add => true
  | .sub, .Sub => true
  | .mul, .Mult => true
  | .fdiv, .FloorDiv => true
  | .mod, .Mod => true
  | .pow, .Pow => true
  | .band, .BitAnd => true
  | .bor, .BitOr => true
  | .shl, .LShift => true
  | .shr, .RShift => true
  | _, _ => false
theorem bopB_ok {a : Bop} {b : Operator} (h : bopB a b = true) : b = bopE a := by cases a <;> cases b <;> first | rfl | cases h
def copB : Cop → CmpOp → Bool
  | .eq, .Eq => true
  | .ne, .NotEq => true
  | .lt, .Lt => true
  | .le, .LtE => true
  | .gt, .Gt => true
  | .ge, .GtE => true
  | .is_, .Is => true
  | .isn, .IsNot => true
  | .in_, .In => true
  | .nin, .NotIn => true
  | _, _ => false
theorem copB_ok {a : Cop} {b : CmpOp} (h : copB a b = true) : b = copE a := by cases a <;> cases b <;> first | rfl | cases h
/-- not super() -/
def abOk : Expr → Bool
  | .Call (.Name _ _) [] [] _ => false
  | _ => true
theorem abOk_ok {o : Expr} (h : abOk o = true) (m : Str) (env : PySem.Env) (wh : Sem Value) : attributeBase o m env wh = wh := by
  unfold attributeBase
  split
  · cases h
  · rfl
def noSlice : Expr → Bool
  | .Slice _ _ _ _ => false
  | _ => true
theorem noSlice_ok {b : Expr} (h : noSlice b = true) : PlainIx b := by
  intro o i
  cases b <;> first | rfl | cases h
def noSetE : Expr → Bool
  | .Set _ _ _ => false
  | _ => true
theorem noSetE_ok {b : Expr} (h : noSetE b = true) (env : PySem.Env) (x : Value) : foldedSetIterable b env x = pure x := by
  cases b <;> first | rfl | cases h
def noComp : Expr → Bool
  | .ListComp _ _ _ _ => false
  | .SetComp _ _ _ _ => false
  | .DictComp _ _ _ _ _ => false
  | _ => true
theorem noComp_ok {b : Expr} (h : noComp b = true) (t : Option Expr) (l : Nat) (env : PySem.Env) : swapsWith b t l env = pure false := by
  cases b <;> first | rfl | cases h
theorem sw_sub {b o i : Expr} {p : Pos} (l : Nat) (env : PySem.Env) : swapsWith b (some (.Subscript o i p)) l env = pure false := by
  cases b <;> rfl
theorem sw_attr {b o : Expr} {f : Str} {p : Pos} (l : Nat) (env : PySem.Env) : swapsWith b (some (.Attribute o f p)) l env = pure false := by
  cases b <;> rfl
def noTup : Expr → Bool
  | .Tuple _ _ _ => false
  | _ => true
theorem noTup_ok {b : Expr} (h : noTup b = true) {es : List Expr} {k : Nat} {p : Pos} (env : PySem.Env) : swappedStores [.Tuple es k p] b env = pure none := by
  cases b <;> first | rfl | cases h
def freeNames : List String := ["len", "abs", "int", "sum", "max", "min", "any", "all", "list", "tuple", "sorted", "isinstance", "range", "enumerate", "zip", "str", "dict", "bool", "set", "iter", "repr"]
def biNames : List String := ["len", "abs", "int", "sum", "max", "min", "any", "all", "list", "tuple", "sorted"]
def tyNames : List String := ["str", "list", "tuple", "int", "bool", "dict"]
def isNm (x : Str) (f : String) : Bool := decide (x = Str.ofString f)
/-- a name of the built-in kind -/
def isBi (c : Ck) (x : Str) (f : String) : Bool := isNm x f && isGl c x && freeNames.contains f
/-- a def or a class of the module -/
def isOwn (c : Ck) (x : Str) (f : String) : Bool := isNm x f && isGl c x && nodbg x && (c.P.fns f || (c.P.cls f).isSome)
def tyOk (c : Ck) (t : String) : Expr → Bool
  | .Name x _ => isNm x t && isGl c x && nodbg x && ((c.P.cls t).isSome || (tyNames.contains t && (c.P.cls t).isNone))
  | _ => false
def tysOk (c : Ck) : List String → List Expr → Bool
  | [], [] => true
  | t :: ts, T :: Ts => tyOk c t T && tysOk c ts Ts
  | _, _ => false
def fpsOk (c : Ck) : List Fp → List Expr → Bool
  | [], es => match es with
    | [] => true
    | _ => false
  | p :: ps, es => match p, es with
    | .lit y, .Constant (.str z) _ _ :: es => decide (y = z) && fpsOk c ps es
    | .v i, .FormattedValue (.Name x _) cv none _ :: es => decide (cv = -1) && decide (c.N[i]? = some x) && isVis c x && nodbg x && fpsOk c ps es
    | _, _ => false
mutual
def ckTg (c : Ck) : Tg → Expr → Bool
  | .v i, e => match e with
    | .Name x _ => decide (c.N[i]? = some x) && isLoc c x && okFn c x
    | _ => false
  | .vs ts, e => match e with
    | .Tuple es _ _ => es.all noStar && decide (es.length = ts.length) && ckTgs c ts es
    | _ => false
def ckTgs (c : Ck) : List Tg → List Expr → Bool
  | [], es => match es with
    | [] => true
    | _ => false
  | t :: ts, es => match es with
    | e :: es => noStar e && ckTg c t e && ckTgs c ts es
    | _ => false
end
/-- the block's own names with their slots -/
def ownOf (c : Ck) (is : List Nat) : List (Str × Nat) := is.map fun i => (c.N.getD i "", i)
theorem ownOf_snd (c : Ck) (is : List Nat) : (ownOf c is).map (·.2) = is := by
  unfold ownOf
  rw [List.map_map]
  exact List.map_id is

mutual
def ckE (c : Ck) : Ex → Bool → Expr → Bool
  | .v i, _, e => match e with
    | .Name x _ => decide (c.N[i]? = some x) && isVis c x && nodbg x
    | _ => false
  | .con v, _, e => match e with
    | .Constant k _ _ => constB v k
    | .Name x _ => (match v with
      | .glb f => isOwn c x f
      | _ => false)
    | _ => false
  | .glob g, _, e => match e with
    | .Name x _ => isNm x g && isGl c x && nodbg x && (c.P.con g).isSome
    | _ => false
  | .bin op a b, _, e => match e with
    | .BinOp l o r _ => bopB op o && ckE c a false l && ckE c b false r
    | _ => false
  | .neg a, _, e => match e with
    | .UnaryOp o x _ => (match o with | .USub => true | _ => false) && ckE c a false x
    | _ => false
  | .inv a, _, e => match e with
    | .UnaryOp o x _ => (match o with | .Invert => true | _ => false) && ckE c a false x
    | _ => false
  | .not a, t, e => match e with
    | .UnaryOp o x _ => (match o with | .Not => true | _ => false) && ckE c a t x
    | _ => false
  | .and a b, t, e => match e with
    | .BoolOp o (x :: y :: r) p => (match o with | .And => true | _ => false) && ckE c a t x && ckE c b t (match r with | [] => y | _ :: _ => .BoolOp o (y :: r) p)
    | _ => false
  | .or a b, t, e => match e with
    | .BoolOp o (x :: y :: r) p => (match o with | .Or => true | _ => false) && ckE c a t x && ckE c b t (match r with | [] => y | _ :: _ => .BoolOp o (y :: r) p)
    | _ => false
  | .cmp op a b, _, e => match e with
    | .Compare l [o] [r] _ => copB op o && !(behindInMarks o r) && ckE c a false l && ckE c b false r
    | _ => false
  | .cmp2 op op' a b d, _, e => match e with
    | .Compare l [o, o'] [m, r] _ => copB op o && copB op' o' && !(lastMarks [o, o'] [m, r]) && ckE c a false l && ckE c b false m && ckE c d false r
    | _ => false
  | .ite i a b, t, e => match e with
    | .IfExp x y z _ => ckE c i true x && ckE c a t y && ckE c b t z
    | _ => false
  | .lst es, _, e => match e with
    | .List xs _ => ckI c es xs
    | _ => false
  | .tup es, _, e => match e with
    | .Tuple xs _ _ => ckI c es xs
    | _ => false
  | .dct ks vs, _, e => match e with
    | .Dict [] [] _ => (match ks, vs with
      | .nil, .nil => true
      | _, _ => false)
    | _ => false
  | .sub a i, _, e => match e with
    | .Subscript x y _ => noSlice y && ckE c a false x && ckE c i false y
    | _ => false
  | .slc a lo hi, _, e => match e with
    | .Subscript x (.Slice l h none _) _ => ckE c a false x && ckO c lo l && ckO c hi h
    | _ => false
  | .rev _, _, _ => false
  | .attr a f, _, e => match e with
    | .Attribute x g _ => isNm g f && abOk x && ckE c a false x
    | _ => false
  | .call f es, _, e => match e with
    | .Call (.Name x _) as [] _ => isOwn c x f && as.all noStar && ckI c es as
    | _ => false
  | .callv f es, _, e => match e with
    | .Call (.Name x p) as [] _ => (match f with | .v _ => true | _ => false) && ckE c f false (.Name x p) && as.all noStar && ckI c es as
    | _ => false
  | .meth o m es, _, e => match e with
    | .Call (.Attribute x g ap) as [] pos => isNm g m && abOk x && as.all noStar && decide (as.length < 30) && (ap.endLine == pos.line) && ckE c o false x && ckI c es as
    | _ => false
  | .repl o y z, _, e => match e with
    | .Call (.Attribute x g ap) [.Constant (.str y') _ _, .Constant (.str z') _ _] [] pos => isNm g "replace" && abOk x && (ap.endLine == pos.line) && decide (y' = y) && decide (z' = z) && ckE c o false x
    | _ => false
  | .bi f es, _, e => match e with
    | .Call (.Name x _) (a :: as) [] _ => isBi c x f && biNames.contains f && (a :: as).all noStar && ckI c es (a :: as)
    | _ => false
  | .seq _ _, _, _ => false
  | .isi a ts, _, e => match e with
    | .Call (.Name x _) [y, T] [] _ => isBi c x "isinstance" && noStar y && noStar T && ckE c a false y && (match T with
      | .Tuple Ts _ _ => decide (ts.length ≤ 64) && tysOk c ts Ts
      | T => (match ts with
        | [t] => tyOk c t T
        | _ => false))
    | _ => false
  | .lc el gs, _, e => match e with
    | .ListComp elt gens scope _ => blkC c.N c.sc scope (ownOf c gs.slots) && ckG c (c.within scope) gs gens && ckE (c.within scope) el false elt
    | _ => false
  | .sc _ _, _, _ => false
  | .dc _ _ _, _, _ => false
  | .fstr ps, _, e => match e with
    | .JoinedStr (e1 :: e2 :: es) _ => fpsOk c ps (e1 :: e2 :: es)
    | _ => false
def ckI (c : Ck) : Its → List Expr → Bool
  | .nil, es => match es with
    | [] => true
    | _ => false
  | .cons a r, es => match es with
    | e :: es => noStar e && ckE c a false e && ckI c r es
    | _ => false
  | .star a r, es => match es with
    | .Starred e _ :: es => ckE c a false e && ckI c r es
    | _ => false
def ckO (c : Ck) : Op → Option Expr → Bool
  | .none, o => match o with
    | none => true
    | _ => false
  | .some a, o => match o with
    | some e => ckE c a false e
    | _ => false
def ckSr (c : Ck) : Src → Expr → Expr → Bool
  | .it a, _, e => ckE c a false e
  | .rng1 a, _, e => match e with
    | .Call (.Name x _) [y] [] _ => isBi c x "range" && noStar y && ckE c a false y
    | _ => false
  | .rng2 a b, _, e => match e with
    | .Call (.Name x _) [y, z] [] _ => isBi c x "range" && noStar y && noStar z && ckE c a false y && ckE c b false z
    | _ => false
  | .rng3 _ _ _, _, _ => false
  | .enum a, tg, e => match tg, e with
    | .Tuple _ _ _, .Call (.Name x _) [y] [] _ => isBi c x "enumerate" && noStar y && ckE c a false y
    | _, _ => false
  | .zip a b, tg, e => match tg, e with
    | .Tuple _ _ _, .Call (.Name x _) [y, z] [] _ => isBi c x "zip" && noStar y && noStar z && ckE c a false y && ckE c b false z
    | _, _ => false
  | .vals _, _, _ => false
  | .items _, _, _ => false
/-- tests of a clause: none, or one -/
def ckTs (c : Ck) : Its → List Expr → Bool
  | .nil, es => match es with
    | [] => true
    | _ => false
  | .cons a r, es => match es with
    | [e] => (match r with | .nil => true | _ => false) && ckE c a true e
    | _ => false
  | .star _ _, _ => false
/-- one clause (c: outside, d: within) -/
def ckG (c d : Ck) : Gens → List Comprehension → Bool
  | .nil, _ => false
  | .gen t sr irs r, gens => match gens with
    | [⟨tg, iter, ifs, as⟩] => (match r with | .nil => true | _ => false) && decide (as = 0) && noSetE iter && ckSr c sr tg iter && ckTg d t tg && ckTs d irs ifs
    | _ => false
end
/-- name = e -/
def ckSet (c : Ck) (i : Nat) (e : Ex) : Stmt → Bool
  | .Assign [.Name x p] v pos => decide (c.N[i]? = some x) && isLoc c x && okFn c x && (match v with
    | .ListComp _ _ scope lp => isCell c x || (isLocal c x && (p.line == lp.line) && !(scope.names.any fun (n, k) => n == x && (k == .local || k == .cell)))
    | v => noComp v) && ckE c e false v
  | _ => false
def isNever : Sc.St → Bool
  | .never => true
  | _ => false
mutual
def ckS (c : Ck) : Sc.St → Stmt → Bool
  | .set i e, st => ckSet c i e st
  | .sets ts e, st => match st with
    | .Assign [.Tuple es k p] v _ => noComp v && noTup v && ckTg c (.vs ts) (.Tuple es k p) && ckE c e false v
    | _ => false
  | .setI o i e, st => match st with
    | .Assign [.Subscript x y _] v _ => noSlice y && ckE c o false x && ckE c i false y && ckE c e false v
    | _ => false
  | .setA o f e, st => match st with
    | .Assign [.Attribute x g _] v _ => isNm g f && ckE c o false x && ckE c e false v
    | _ => false
  | .aug op i e, st => match st with
    | .AugAssign (.Name x _) o v _ => (match op, o with | .add, .Add => true | _, _ => false) && decide (c.N[i]? = some x) && isLoc c x && okFn c x && ckE c e false v
    | _ => false
  | .ex e, st => match st with
    | .Expr v _ => noComp v && ckE c e false v
    | _ => false
  | .ret e, st => match st with
    | .Return (some v) _ => ckE c e false v
    | .Return none _ => (match e with | .con .non => true | _ => false)
    | _ => false
  | .ifs t a b, st => match st with
    | .If x y z _ => ckE c t true x && ckB c a y && ckB c b z
    | _ => false
  | .for_ t s body, st => match st with
    | .For tg it bd [] _ => noSetE it && ckSr c s tg it && ckTg c t tg && ckB c body bd
    | _ => false
  | .while_ t body, st => match st with
    | .While x bd [] _ => ckE c t true x && ckB c body bd
    | _ => false
  | .brk, st => match st with
    | .Break _ => true
    | _ => false
  | .pass, st => match st with
    | .Pass _ => true
    | _ => false
  | .raise _ _, _ => false
  | .try_ _ _, _ => false
  | .never, _ => false
def ckB (c : Ck) : List Sc.St → List Stmt → Bool
  | [], sts => match sts with
    | [] => true
    | _ => false
  | ir :: irs, sts => match sts with
    | st :: sts => isNever ir || (ckS c ir st && ckB c irs sts)
    | _ => false
end
end Sc
end
section
set_option Elab.async false
set_option linter.all false
set_option maxRecDepth 100000
set_option maxHeartbeats 4000000
set_option autoImplicit false
/-! What the check lets through, the model does. -/
namespace Sc
open PySem PySem.Spec PyProof.Rows L2

/-- the module's names -/
structure GF (K : PySem.W.Frag) (mg : Str → Option Value) (P : Pg) : Prop where
  own : ∀ g, (P.fns g || (P.cls g).isSome) = true → mg (Str.ofString g) = some (.ref (ca K g))
  con : ∀ g v, P.con g = some v → ∃ y u, mg (Str.ofString g) = some u ∧ L2.RelV y u ∧ Konst K v y
  free : ∀ f, freeNames.contains f = true → mg (Str.ofString f) = none
structure Ct (CX : CXT) (k : Nat) (cx : Sc.Cx) (fa : String → String → Addr) (c : Ck) (X : L2.Cx) (E : XK) : Prop where
  N : X.N = c.N
  nd : c.N.Nodup
  sc : X.env.scope = c.sc
  kind : c.sc.kind = .function
  fn : X.fn = c.fn
  F : Fx X CX k cx fa
  g : GF X.K X.mg c.P
  con : cx.con = c.P.con
  cls : cx.cls = c.P.cls
  fns : cx.fns = c.P.fns
  p1 : Passes CX X E
  p0 : ∀ st H s e s', CX st H s E0 e s' → False
  po : PassesOwn (model X.prog X.w) X.A X.env X.xe
section
variable {CX : CXT} {k : Nat} {cx : Sc.Cx} {fa : String → String → Addr} {c : Ck} {X : L2.Cx} {E : XK}
theorem Ct.px0 (C : Ct CX k cx fa c X E) : Passes CX X.nox E0 := fun _ _ _ _ _ _ _ h => (C.p0 _ _ _ _ _ h).elim
theorem Ct.vis (C : Ct CX k cx fa c X E) {x : Str} (h : isVis c x = true) : Vis X.env.scope x := by
  unfold isVis kd at h
  unfold Vis
  rw [C.sc]
  split at h
  · rename_i e; exact .inl e
  · rename_i e; exact .inr (.inl e)
  · rename_i e; exact .inr (.inr e)
  · cases h
theorem Ct.loc (C : Ct CX k cx fa c X E) {x : Str} (h : isLoc c x = true) : L2.Loc X.env.scope x := by
  unfold isLoc kd at h
  unfold L2.Loc
  rw [C.sc]
  split at h
  · rename_i e; exact .inl e
  · rename_i e; exact .inr e
  · cases h
theorem Ct.isL (C : Ct CX k cx fa c X E) {x : Str} (h : isLocal c x = true) : X.env.scope.names.lookup x = some .local := by
  unfold isLocal kd at h
  rw [C.sc]
  split at h
  · rename_i e; exact e
  · cases h
theorem Ct.isC (C : Ct CX k cx fa c X E) {x : Str} (h : isCell c x = true) : X.env.scope.names.lookup x = some .cell := by
  unfold isCell kd at h
  rw [C.sc]
  split at h
  · rename_i e; exact e
  · cases h
theorem Ct.gl (C : Ct CX k cx fa c X E) {x : Str} (h : isGl c x = true) : Gl X x := by
  unfold isGl kd at h
  unfold Gl PySem.Env.kindOf
  rw [C.sc]
  split at h
  · rename_i e; exact e
  · cases h
theorem Ct.okf (C : Ct CX k cx fa c X E) {x : Str} (h : okFn c x = true) : X.fn x = true ∨ X.env.scope.names.lookup x = some .local := by
  unfold okFn at h
  rcases Bool.or_eq_true_iff.mp h with h | h
  · exact .inl (by rw [C.fn]; exact h)
  · exact .inr (C.isL h)
theorem nodbg_ok {x : Str} (h : nodbg x = true) : (x == ("__debug__" : Str)) = false ∧ (x == ("__classdict__" : Str)) = false := by
  unfold nodbg at h
  simpa using h
theorem nm_ok {x : Str} {f : String} (h : isNm x f = true) : x = Str.ofString f := of_decide_eq_true h
theorem Ct.bi (C : Ct CX k cx fa c X E) {x : Str} {f : String} (h : isBi c x f = true) : x = Str.ofString f ∧ Bi X f := by
  unfold isBi at h
  simp only [Bool.and_eq_true] at h
  obtain ⟨⟨h1, h2⟩, h3⟩ := h
  obtain rfl := nm_ok h1
  exact ⟨rfl, C.gl h2, C.g.free f h3⟩
theorem Ct.own (C : Ct CX k cx fa c X E) {x : Str} {f : String} (h : isOwn c x f = true) : x = Str.ofString f ∧ Gl X (Str.ofString f) ∧ X.mg (Str.ofString f) = some (.ref (ca X.K f)) ∧ (Str.ofString f == ("__debug__" : Str)) = false ∧ (cx.fns f = true ∨ ∃ cc, cx.cls f = some cc) := by
  unfold isOwn at h
  rw [Bool.and_eq_true, Bool.and_eq_true, Bool.and_eq_true] at h
  obtain ⟨⟨⟨h1, h2⟩, h3⟩, h4⟩ := h
  obtain rfl := nm_ok h1
  refine ⟨rfl, C.gl h2, C.g.own f h4, (nodbg_ok h3).1, ?_⟩
  rw [C.fns, C.cls]
  rcases Bool.or_eq_true_iff.mp h4 with h | h
  · exact .inl h
  · exact .inr (Option.isSome_iff_exists.mp h)
theorem Ct.blk (C : Ct CX k cx fa c X E) {scope : Scope} {own : List (Str × Nat)} (ok : BlkOk c.N c.sc scope own) (s : Shared) (H : Hp) (Cc : Addr) (cl : List (Str × Addr)) (fp : List Addr) : Ct CX k cx fa (c.within scope) (X.blk s H scope (compEnvC scope cl Cc X.env) fp) E0 where
  N := C.N
  nd := C.nd
  sc := by show relS scope X.env.scope = relS scope c.sc; rw [C.sc]
  kind := ok.kind
  fn := rfl
  F := ⟨C.F.prom, C.F.room, C.F.calm, C.F.fn, C.F.keep, C.F.cls, C.F.cl1, C.F.cl2, C.F.isi, C.F.bti⟩
  g := C.g
  con := C.con
  cls := C.cls
  fns := C.fns
  p1 := fun _ _ _ _ _ _ _ h => (C.p0 _ _ _ _ _ h).elim
  p0 := C.p0
  po := PassesOwn.never

/-- what is said of a tree: a value, or a test -/
def Snd (X : L2.Cx) (cx : Sc.Cx) (E : XK) (t : Bool) (e : Expr) (ir : Ex) : Prop := (t = false → PX X cx E e ir) ∧ (t = true → PXT X cx E e ir ∧ ∀ op vs pos, e = .BoolOp op vs pos → PXW X cx E e ir)
theorem Snd.plain {t : Bool} {e : Expr} {ir : Ex} (h : PX X cx E e ir) (hp : ∀ whole, isTrue e X.env whole = (do let v ← whole; standAt e.pos; holding [v] (truthy v))) (hb : ∀ op vs pos, e ≠ .BoolOp op vs pos) : Snd X cx E t e ir :=
  ⟨fun _ => h, fun _ => ⟨pxt_val h hp, fun op vs pos z => (hb _ _ _ z).elim⟩⟩
theorem Snd.v {e : Expr} {ir : Ex} (h : Snd X cx E false e ir) : PX X cx E e ir := h.1 rfl
theorem Snd.t {e : Expr} {ir : Ex} (h : Snd X cx E true e ir) : PXT X cx E e ir := (h.2 rfl).1

theorem bi_snd {f : String} {e : Expr} {es : List Expr} {ir : Its} {p pos : Pos} (C : Ct CX k cx fa c X E) (hf : biNames.contains f = true) (b : Bi X f) (ha : PXR X cx E (e :: es) ir) (hs : (e :: es).all noStar = true) : PX X cx E (.Call (.Name (Str.ofString f) p) (e :: es) [] pos) (.bi f ir) := by
  rw [List.all_cons, Bool.and_eq_true] at hs
  obtain ⟨c1, c2, c3, c4, c5, c6, c7, c8, c9, c10, c11⟩ := ce_all (cx := cx) (own_len C.F C.p1) C.F.calm C.F.units
  have hm : f ∈ biNames := by simpa using hf
  unfold biNames at hm
  simp only [List.mem_cons, List.not_mem_nil, or_false] at hm
  rcases hm with rfl | rfl | rfl | rfl | rfl | rfl | rfl | rfl | rfl | rfl | rfl
  · exact px_biB b (by decide +kernel) c1 ha (by decide +kernel) (by decide +kernel) (star_ns hs.1) (star_all hs.2).1
  · exact px_biB b (by decide +kernel) c2 ha (by decide +kernel) (by decide +kernel) (star_ns hs.1) (star_all hs.2).1
  · exact px_biT b (by decide +kernel) c3 ha (by decide +kernel) (by decide +kernel) (star_ns hs.1) (star_all hs.2).1
  · exact px_biB b (by decide +kernel) c4 ha (by decide +kernel) (by decide +kernel) (star_ns hs.1) (star_all hs.2).1
  · exact px_biB b (by decide +kernel) c5 ha (by decide +kernel) (by decide +kernel) (star_ns hs.1) (star_all hs.2).1
  · exact px_biB b (by decide +kernel) c6 ha (by decide +kernel) (by decide +kernel) (star_ns hs.1) (star_all hs.2).1
  · exact px_biB b (by decide +kernel) c7 ha (by decide +kernel) (by decide +kernel) (star_ns hs.1) (star_all hs.2).1
  · exact px_biB b (by decide +kernel) c8 ha (by decide +kernel) (by decide +kernel) (star_ns hs.1) (star_all hs.2).1
  · exact px_biT b (by decide +kernel) c9 ha (by decide +kernel) (by decide +kernel) (star_ns hs.1) (star_all hs.2).1
  · exact px_biT b (by decide +kernel) c10 ha (by decide +kernel) (by decide +kernel) (star_ns hs.1) (star_all hs.2).1
  · exact px_biB b (by decide +kernel) c11 ha (by decide +kernel) (by decide +kernel) (star_ns hs.1) (star_all hs.2).1
/-- a class as it is named in isinstance -/
theorem ty_snd (C : Ct CX k cx fa c X E) {t : String} {T : Expr} (h : tyOk c t T = true) : PE X T (tC (clsV X.K cx t)) ∧ noStar T = true := by
  unfold tyOk at h
  split at h
  · rename_i x p
    rw [Bool.and_eq_true, Bool.and_eq_true, Bool.and_eq_true] at h
    obtain ⟨⟨⟨h1, h2⟩, h3⟩, h4⟩ := h
    obtain rfl := nm_ok h1
    refine ⟨?_, rfl⟩
    rcases Bool.or_eq_true_iff.mp h4 with h | h
    · have e : clsV X.K cx t = .ref (ca X.K t) := by
        obtain ⟨cc, hc⟩ := Option.isSome_iff_exists.mp h
        unfold clsV
        rw [C.cls, hc]
      rw [e]
      exact pe_glob (C.gl h2) (C.g.own t (by rw [h, Bool.or_true])) rfl (nodbg_ok h3).1
    · rw [Bool.and_eq_true] at h
      have e : clsV X.K cx t = .ty t := by
        have hn : c.P.cls t = none := Option.isNone_iff_eq_none.mp h.2
        unfold clsV
        rw [C.cls, hn]
      rw [e]
      have hm : t ∈ tyNames := by simpa using h.1
      have go : ∀ u : String, bootBuiltins (Str.ofString u) = some (.type u) → Str.ofString u ≠ "__name__" → (Str.ofString u == ("__debug__" : Str)) = false → freeNames.contains u = true → t = u → PE X (.Name (Str.ofString t) p) (tC (.ty t)) := by
        intro u hb hn hd hfr e
        subst e
        exact ⟨fun pins s σ H Q I q => ld_blt I (C.gl h2) (C.g.free t hfr) hb ⟨.ty t, H, I, rfl, q⟩ hn hd⟩
      unfold tyNames at hm
      simp only [List.mem_cons, List.not_mem_nil, or_false] at hm
      rcases hm with e | e | e | e | e | e <;> exact go _ (by decide +kernel) (by decide +kernel) (by decide +kernel) (by decide +kernel) e
  · cases h
theorem tys_snd (C : Ct CX k cx fa c X E) : ∀ {ts : List String} {Ts : List Expr}, tysOk c ts Ts = true → PCs X cx Ts ts
  | [], [], _ => .nil
  | [], _ :: _, h => by cases h
  | _ :: _, [], h => by cases h
  | t :: ts, T :: Ts, h => by
    have h : (tyOk c t T && tysOk c ts Ts) = true := h
    rw [Bool.and_eq_true] at h
    obtain ⟨h1, h2⟩ := ty_snd C h.1
    exact .cons h1 h2 (tys_snd C h.2)
theorem fps_snd (C : Ct CX k cx fa c X E) : ∀ {ps : List Fp} {es : List Expr}, fpsOk c ps es = true → Fps X es ps := by
  intro ps
  induction ps with
  | nil =>
    intro es h
    unfold fpsOk at h
    split at h
    · exact .nil
    · cases h
  | cons p ps ih =>
    intro es h
    unfold fpsOk at h
    split at h
    · rw [Bool.and_eq_true] at h
      obtain rfl := of_decide_eq_true h.1
      exact .lit (ih h.2)
    · rw [Bool.and_eq_true, Bool.and_eq_true, Bool.and_eq_true, Bool.and_eq_true] at h
      obtain ⟨⟨⟨⟨h1, h2⟩, h3⟩, h4⟩, h5⟩ := h
      obtain rfl := of_decide_eq_true h1
      exact .v (by rw [C.N]; exact of_decide_eq_true h2) (C.vis h3) (nodbg_ok h4).1 (nodbg_ok h4).2 (ih h5)
    · cases h
mutual
theorem tg_snd (C : Ct CX k cx fa c X E) : ∀ (t : Tg) (e : Expr), ckTg c t e = true → PG X e (gV X.K t)
  | .v i, e, h => by
    unfold ckTg at h
    split at h
    · rw [Bool.and_eq_true, Bool.and_eq_true] at h
      obtain ⟨⟨h1, h2⟩, h3⟩ := h
      exact pg_v (by rw [C.N]; exact C.nd) (by rw [C.N]; exact of_decide_eq_true h1) (C.loc h2) (C.okf h3)
    · cases h
  | .vs ts, e, h => by
    unfold ckTg at h
    split at h
    · rw [Bool.and_eq_true, Bool.and_eq_true] at h
      obtain ⟨⟨h1, h2⟩, h3⟩ := h
      exact pg_vs C.F.calm h1 (of_decide_eq_true h2) (tgs_snd C ts _ h3)
    · cases h
theorem tgs_snd (C : Ct CX k cx fa c X E) : ∀ (ts : List Tg) (es : List Expr), ckTgs c ts es = true → PGs X es (gVs X.K ts)
  | [], es, h => by
    unfold ckTgs at h
    split at h
    · exact pgs_n
    · cases h
  | t :: ts, es, h => by
    unfold ckTgs at h
    split at h
    · rw [Bool.and_eq_true, Bool.and_eq_true] at h
      obtain ⟨⟨h1, h2⟩, h3⟩ := h
      exact pgs_c h1 (tg_snd C t _ h2) (tgs_snd C ts _ h3)
    · cases h
end
end
end Sc
end
section
set_option Elab.async false
set_option linter.all false
set_option maxRecDepth 100000
set_option maxHeartbeats 8000000
set_option autoImplicit false
/-! What the check lets through, the model does: expressions. -/
namespace Sc
open PySem PySem.Spec PyProof.Rows L2

section
variable {CX : CXT} {k : Nat} {cx : Sc.Cx} {fa : String → String → Addr}
theorem wmap {X : L2.Cx} {E : XK} {e : Expr} {ir : Ex} (h : PXW X cx E e ir) : Snd X cx E true e ir := ⟨(fun z => by cases z), fun _ => ⟨h.pt, fun _ _ _ _ => h⟩⟩
/-- a chain of ands: what comes behind the first -/
theorem and_tail {X : L2.Cx} {E : XK} {y : Expr} {r : List Expr} {p : Pos} {ib : Ex} {t : Bool} (h : Snd X cx E t (match r with | [] => y | _ :: _ => .BoolOp .And (y :: r) p) ib) : (t = false → PX X cx E (.BoolOp .And (y :: r) p) ib) ∧ (t = true → PXW X cx E (.BoolOp .And (y :: r) p) ib) := by
  cases r with
  | nil => exact ⟨fun z => px_one (h.1 z), fun z => pxw_and1 (h.2 z).1⟩
  | cons z r => exact ⟨fun z => h.1 z, fun z => (h.2 z).2 _ _ _ rfl⟩
theorem or_tail {X : L2.Cx} {E : XK} {y : Expr} {r : List Expr} {p : Pos} {ib : Ex} {t : Bool} (h : Snd X cx E t (match r with | [] => y | _ :: _ => .BoolOp .Or (y :: r) p) ib) : (t = false → PX X cx E (.BoolOp .Or (y :: r) p) ib) ∧ (t = true → PXW X cx E (.BoolOp .Or (y :: r) p) ib) := by
  cases r with
  | nil => exact ⟨fun z => px_one (h.1 z), fun z => pxw_or1 (h.2 z).1⟩
  | cons z r => exact ⟨fun z => h.1 z, fun z => (h.2 z).2 _ _ _ rfl⟩
/-- what is said of one clause -/
structure Cl1 (CX : CXT) (k : Nat) (cx : Sc.Cx) (fa : String → String → Addr) (X : L2.Cx) (E : XK) (d : Ck) (gs : Gens) (gens : List Comprehension) (t : Tg) (sr : Src) (irs : Its) (tg iter : Expr) (ifs : List Expr) : Prop where
  eg : gs = .gen t sr irs .nil
  en : gens = [⟨tg, iter, ifs, 0⟩]
  src : PXS X cx E tg iter sr
  ns : noSetE iter = true
  tgt : ∀ Y E', Ct CX k cx fa d Y E' → PG Y tg (gV Y.K t)
  tst : ∀ Y E', Ct CX k cx fa d Y E' → PTs Y ifs (tTs Y.K cx E' irs)
mutual
theorem ckE_ok : ∀ (ir : Ex) (c : Ck) (X : L2.Cx) (E : XK) (t : Bool) (e : Expr), Ct CX k cx fa c X E → ckE c ir t e = true → Snd X cx E t e ir
  | .v i, c, X, E, t, e, C, h => by
    unfold ckE at h
    split at h
    · rw [Bool.and_eq_true, Bool.and_eq_true] at h
      obtain ⟨⟨h1, h2⟩, h3⟩ := h
      exact Snd.plain (px_v (by rw [C.N]; exact of_decide_eq_true h1) (C.vis h2) (nodbg_ok h3).1 (nodbg_ok h3).2) (fun _ => rfl) (fun _ _ _ z => by cases z)
    · cases h
  | .con v, c, X, E, t, e, C, h => by
    unfold ckE at h
    split at h
    · refine Snd.plain ?_ (fun _ => rfl) (fun _ _ _ z => by cases z)
      unfold constB at h
      split at h
      · obtain rfl := of_decide_eq_true h; exact px_int
      · obtain rfl := eq_of_beq h; exact px_bl
      · exact px_non
      · obtain rfl := of_decide_eq_true h; exact px_str
      · cases h
    · split at h
      · obtain ⟨rfl, h2, h3, h4, h5⟩ := C.own h
        exact Snd.plain (px_c (x := .ref (ca X.K _)) (pe_glob h2 h3 rfl h4) fun _ _ => .glb _) (fun _ => rfl) (fun _ _ _ z => by cases z)
      · cases h
    · cases h
  | .glob g, c, X, E, t, e, C, h => by
    unfold ckE at h
    split at h
    · rw [Bool.and_eq_true, Bool.and_eq_true, Bool.and_eq_true] at h
      obtain ⟨⟨⟨h1, h2⟩, h3⟩, h4⟩ := h
      obtain rfl := nm_ok h1
      obtain ⟨v, hv⟩ := Option.isSome_iff_exists.mp h4
      obtain ⟨y, u, hm, r, hk⟩ := C.g.con g v hv
      exact Snd.plain (px_glob (by rw [C.con]; exact hv) (C.gl h2) hm r hk (nodbg_ok h3).1) (fun _ => rfl) (fun _ _ _ z => by cases z)
    · cases h
  | .bin op a b, c, X, E, t, e, C, h => by
    unfold ckE at h
    split at h
    · rw [Bool.and_eq_true, Bool.and_eq_true] at h
      obtain ⟨⟨h1, h2⟩, h3⟩ := h
      obtain rfl := bopB_ok h1
      exact Snd.plain (px_bin (own_bin C.F C.p1) (ckE_ok a _ _ _ _ _ C h2).v (ckE_ok b _ _ _ _ _ C h3).v) (fun _ => rfl) (fun _ _ _ z => by cases z)
    · cases h
  | .neg a, c, X, E, t, e, C, h => by
    unfold ckE at h
    split at h
    · rw [Bool.and_eq_true] at h
      obtain ⟨h1, h2⟩ := h
      split at h1
      · exact Snd.plain (px_neg (ckE_ok a _ _ _ _ _ C h2).v) (fun _ => rfl) (fun _ _ _ z => by cases z)
      · cases h1
    · cases h
  | .inv a, c, X, E, t, e, C, h => by
    unfold ckE at h
    split at h
    · rw [Bool.and_eq_true] at h
      obtain ⟨h1, h2⟩ := h
      split at h1
      · exact Snd.plain (px_inv C.F C.p1 (ckE_ok a _ _ _ _ _ C h2).v) (fun _ => rfl) (fun _ _ _ z => by cases z)
      · cases h1
    · cases h
  | .not a, c, X, E, t, e, C, h => by
    unfold ckE at h
    split at h
    · rw [Bool.and_eq_true] at h
      obtain ⟨h1, h2⟩ := h
      split at h1
      · have q := ckE_ok a _ _ _ _ _ C h2
        exact ⟨fun z => px_not (q.1 z), fun z => ⟨pxt_not (q.2 z).1, fun _ _ _ z => by cases z⟩⟩
      · cases h1
    · cases h
  | .and a b, c, X, E, t, e, C, h => by
    unfold ckE at h
    split at h
    · rw [Bool.and_eq_true, Bool.and_eq_true] at h
      obtain ⟨⟨h1, h2⟩, h3⟩ := h
      split at h1
      · have q := ckE_ok a _ _ _ _ _ C h2
        obtain ⟨r1, r2⟩ := and_tail (ckE_ok b _ _ _ _ _ C h3)
        exact ⟨fun z => px_and (q.1 z) (r1 z), fun z => ⟨(pxw_and (q.2 z).1 (r2 z)).pt, fun _ _ _ _ => pxw_and (q.2 z).1 (r2 z)⟩⟩
      · cases h1
    · cases h
  | .or a b, c, X, E, t, e, C, h => by
    unfold ckE at h
    split at h
    · rw [Bool.and_eq_true, Bool.and_eq_true] at h
      obtain ⟨⟨h1, h2⟩, h3⟩ := h
      split at h1
      · have q := ckE_ok a _ _ _ _ _ C h2
        obtain ⟨r1, r2⟩ := or_tail (ckE_ok b _ _ _ _ _ C h3)
        exact ⟨fun z => px_or (q.1 z) (r1 z), fun z => ⟨(pxw_or (q.2 z).1 (r2 z)).pt, fun _ _ _ _ => pxw_or (q.2 z).1 (r2 z)⟩⟩
      · cases h1
    · cases h
  | .cmp op a b, c, X, E, t, e, C, h => by
    unfold ckE at h
    split at h
    · rw [Bool.and_eq_true, Bool.and_eq_true, Bool.and_eq_true, Bool.not_eq_true'] at h
      obtain ⟨⟨⟨h1, h2⟩, h3⟩, h4⟩ := h
      obtain rfl := copB_ok h1
      have qa := (ckE_ok a _ _ _ _ _ C h3).v
      have qb := (ckE_ok b _ _ _ _ _ C h4).v
      exact ⟨fun _ => px_cmp C.F.units (own_in C.F C.p1) qa qb h2, fun _ => ⟨pxt_cmp C.F.units (own_in C.F C.p1) qa qb h2, fun _ _ _ z => by cases z⟩⟩
    · cases h
  | .cmp2 op op' a b d, c, X, E, t, e, C, h => by
    unfold ckE at h
    split at h
    · rw [Bool.and_eq_true, Bool.and_eq_true, Bool.and_eq_true, Bool.and_eq_true, Bool.and_eq_true, Bool.not_eq_true'] at h
      obtain ⟨⟨⟨⟨⟨h1, h1'⟩, h2⟩, h3⟩, h4⟩, h5⟩ := h
      obtain rfl := copB_ok h1
      obtain rfl := copB_ok h1'
      have qa := (ckE_ok a _ _ _ _ _ C h3).v
      have qb := (ckE_ok b _ _ _ _ _ C h4).v
      have qd := (ckE_ok d _ _ _ _ _ C h5).v
      exact ⟨fun _ => px_cmp2 C.F.units qa qb qd h2, fun _ => ⟨pxt_cmp2 C.F.units qa qb qd h2, fun _ _ _ z => by cases z⟩⟩
    · cases h
  | .ite i a b, c, X, E, t, e, C, h => by
    unfold ckE at h
    split at h
    · rw [Bool.and_eq_true, Bool.and_eq_true] at h
      obtain ⟨⟨h1, h2⟩, h3⟩ := h
      have qi := (ckE_ok i _ _ _ _ _ C h1).t
      have qa := ckE_ok a _ _ _ _ _ C h2
      have qb := ckE_ok b _ _ _ _ _ C h3
      exact ⟨fun z => px_ite qi (qa.1 z) (qb.1 z), fun z => ⟨pxt_ite qi (qa.2 z).1 (qb.2 z).1, fun _ _ _ z => by cases z⟩⟩
    · cases h
  | .lst es, c, X, E, t, e, C, h => by
    unfold ckE at h
    split at h
    · exact Snd.plain (px_lst (ckI_ok es _ _ _ _ C h).1) (fun _ => rfl) (fun _ _ _ z => by cases z)
    · cases h
  | .tup es, c, X, E, t, e, C, h => by
    unfold ckE at h
    split at h
    · exact Snd.plain (px_tup (ckI_ok es _ _ _ _ C h).1) (fun _ => rfl) (fun _ _ _ z => by cases z)
    · cases h
  | .dct ks vs, c, X, E, t, e, C, h => by
    unfold ckE at h
    split at h
    · split at h
      · exact Snd.plain px_dct0 (fun _ => rfl) (fun _ _ _ z => by cases z)
      · cases h
    · cases h
  | .sub a i, c, X, E, t, e, C, h => by
    unfold ckE at h
    split at h
    · rw [Bool.and_eq_true, Bool.and_eq_true] at h
      obtain ⟨⟨h1, h2⟩, h3⟩ := h
      exact Snd.plain (px_sub C.F.units (ckE_ok a _ _ _ _ _ C h2).v (ckE_ok i _ _ _ _ _ C h3).v (noSlice_ok h1)) (fun _ => rfl) (fun _ _ _ z => by cases z)
    · cases h
  | .slc a lo hi, c, X, E, t, e, C, h => by
    unfold ckE at h
    split at h
    · rw [Bool.and_eq_true, Bool.and_eq_true] at h
      obtain ⟨⟨h1, h2⟩, h3⟩ := h
      exact Snd.plain (px_slc (ckE_ok a _ _ _ _ _ C h1).v (ckO_ok lo _ _ _ _ C h2) (ckO_ok hi _ _ _ _ C h3)) (fun _ => rfl) (fun _ _ _ z => by cases z)
    · cases h
  | .rev _, c, X, E, t, e, C, h => by
    unfold ckE at h
    cases h
  | .attr a f, c, X, E, t, e, C, h => by
    unfold ckE at h
    split at h
    · rw [Bool.and_eq_true, Bool.and_eq_true] at h
      obtain ⟨⟨h1, h2⟩, h3⟩ := h
      obtain rfl := nm_ok h1
      exact Snd.plain (px_attr C.F C.px0 (ckE_ok a _ _ _ _ _ C h3).v (abOk_ok h2 _ _ _)) (fun _ => rfl) (fun _ _ _ z => by cases z)
    · cases h
  | .call f es, c, X, E, t, e, C, h => by
    unfold ckE at h
    split at h
    · rw [Bool.and_eq_true, Bool.and_eq_true] at h
      obtain ⟨⟨h1, h2⟩, h3⟩ := h
      obtain ⟨rfl, g1, g2, g3, g4⟩ := C.own h1
      obtain ⟨i1, i2, i3⟩ := ckI_ok es _ _ _ _ C h3
      exact Snd.plain (px_call C.F C.p1 g1 g2 g3 g4 i3 h2 i1) (fun _ => rfl) (fun _ _ _ z => by cases z)
    · cases h
  | .callv f es, c, X, E, t, e, C, h => by
    unfold ckE at h
    split at h
    · rw [Bool.and_eq_true, Bool.and_eq_true, Bool.and_eq_true] at h
      obtain ⟨⟨⟨h1, h2⟩, h3⟩, h4⟩ := h
      obtain ⟨i1, i2, i3⟩ := ckI_ok es _ _ _ _ C h4
      have q := (ckE_ok f _ _ _ _ _ C h2).v
      split at h1
      · exact Snd.plain (px_callv C.F C.p1 q i3 h3 i1) (fun _ => rfl) (fun _ _ _ z => by cases z)
      · cases h1
    · cases h
  | .meth o m es, c, X, E, t, e, C, h => by
    unfold ckE at h
    split at h
    · rw [Bool.and_eq_true, Bool.and_eq_true, Bool.and_eq_true, Bool.and_eq_true, Bool.and_eq_true, Bool.and_eq_true] at h
      obtain ⟨⟨⟨⟨⟨⟨h1, h2⟩, h3⟩, h4⟩, h5⟩, h6⟩, h7⟩ := h
      obtain rfl := nm_ok h1
      obtain ⟨i1, i2, i3⟩ := ckI_ok es _ _ _ _ C h7
      exact Snd.plain (px_meth C.F C.p1 (ckE_ok o _ _ _ _ _ C h6).v (abOk_ok h2 _ _ _) i3 h3 (of_decide_eq_true h4) h5 i1) (fun _ => rfl) (fun _ _ _ z => by cases z)
    · cases h
  | .repl o y z, c, X, E, t, e, C, h => by
    unfold ckE at h
    split at h
    · rw [Bool.and_eq_true, Bool.and_eq_true, Bool.and_eq_true, Bool.and_eq_true, Bool.and_eq_true] at h
      obtain ⟨⟨⟨⟨⟨h1, h2⟩, h3⟩, h4⟩, h5⟩, h6⟩ := h
      obtain rfl := nm_ok h1
      obtain rfl := of_decide_eq_true h4
      obtain rfl := of_decide_eq_true h5
      exact Snd.plain (px_repl (ckE_ok o _ _ _ _ _ C h6).v (abOk_ok h2 _ _ _) h3) (fun _ => rfl) (fun _ _ _ z => by cases z)
    · cases h
  | .bi f es, c, X, E, t, e, C, h => by
    unfold ckE at h
    split at h
    · rw [Bool.and_eq_true, Bool.and_eq_true, Bool.and_eq_true] at h
      obtain ⟨⟨⟨h1, h2⟩, h3⟩, h4⟩ := h
      obtain ⟨rfl, b⟩ := C.bi h1
      obtain ⟨i1, i2, i3⟩ := ckI_ok es _ _ _ _ C h4
      exact Snd.plain (bi_snd C h2 b (i2 h3) h3) (fun _ => rfl) (fun _ _ _ z => by cases z)
    · cases h
  | .seq _ _, c, X, E, t, e, C, h => by
    unfold ckE at h
    cases h
  | .isi a ts, c, X, E, t, e, C, h => by
    unfold ckE at h
    split at h
    · rw [Bool.and_eq_true, Bool.and_eq_true, Bool.and_eq_true, Bool.and_eq_true] at h
      obtain ⟨⟨⟨⟨h1, h2⟩, h3⟩, h4⟩, h5⟩ := h
      obtain ⟨rfl, b⟩ := C.bi h1
      have q := (ckE_ok a _ _ _ _ _ C h4).v
      refine Snd.plain ?_ (fun _ => rfl) (fun _ _ _ z => by cases z)
      split at h5
      · rw [Bool.and_eq_true] at h5
        exact px_isiT C.F b (of_decide_eq_true h5.1) q (tys_snd C h5.2) h2
      · split at h5
        · obtain ⟨t1, t2⟩ := ty_snd C h5
          exact px_isi1 C.F b q t1 h2 t2
        · cases h5
    · cases h
  | .lc el gs, c, X, E, t, e, C, h => by
    unfold ckE at h
    split at h
    · rename_i elt gens scope pos
      rw [Bool.and_eq_true, Bool.and_eq_true] at h
      obtain ⟨⟨h1, h2⟩, h3⟩ := h
      have ok := blkOk_by h1
      obtain ⟨tt, sr, irs, tg, iter, ifs, cl⟩ := ckG_ok gs _ _ _ _ _ C h2
      obtain rfl := cl.eg
      obtain rfl := cl.en
      refine Snd.plain (px_lc C.F.calm (by rw [C.N]; exact C.nd) cl.src (by rw [C.N, C.sc]; exact ok) ?_ (fun s H Cc cl' fp => cl.tgt _ _ (C.blk ok s H Cc cl' fp)) (fun s H Cc cl' fp => cl.tst _ _ (C.blk ok s H Cc cl' fp)) (fun s H Cc cl' fp => (ckE_ok el _ _ _ _ _ (C.blk ok s H Cc cl' fp) h3).v) (noSetE_ok cl.ns _)) (fun _ => rfl) (fun _ _ _ z => by cases z)
      rw [ownOf_snd]
      exact List.append_nil _
    · cases h
  | .sc _ _, c, X, E, t, e, C, h => by
    unfold ckE at h
    cases h
  | .dc _ _ _, c, X, E, t, e, C, h => by
    unfold ckE at h
    cases h
  | .fstr ps, c, X, E, t, e, C, h => by
    unfold ckE at h
    split at h
    · exact Snd.plain (px_fstr (fps_snd C h)) (fun _ => rfl) (fun _ _ _ z => by cases z)
    · cases h
theorem ckI_ok : ∀ (ir : Its) (c : Ck) (X : L2.Cx) (E : XK) (es : List Expr), Ct CX k cx fa c X E → ckI c ir es = true → PXI X cx E es ir ∧ (es.all noStar = true → PXR X cx E es ir) ∧ (es = [] → ir = .nil)
  | .nil, c, X, E, es, C, h => by
    unfold ckI at h
    split at h
    · exact ⟨pxi_nil, fun _ => pxr_nil, fun _ => rfl⟩
    · cases h
  | .cons a r, c, X, E, es, C, h => by
    unfold ckI at h
    split at h
    · rw [Bool.and_eq_true, Bool.and_eq_true] at h
      obtain ⟨⟨h1, h2⟩, h3⟩ := h
      have q := (ckE_ok a _ _ _ _ _ C h2).v
      obtain ⟨i1, i2, i3⟩ := ckI_ok r _ _ _ _ C h3
      refine ⟨pxi_cons q i1 (star_ns h1), fun hs => ?_, fun z => by cases z⟩
      rw [List.all_cons, Bool.and_eq_true] at hs
      exact pxr_cons q (i2 hs.2) (star_ns h1)
    · cases h
  | .star a r, c, X, E, es, C, h => by
    unfold ckI at h
    split at h
    · rw [Bool.and_eq_true] at h
      obtain ⟨h1, h2⟩ := h
      have q := (ckE_ok a _ _ _ _ _ C h1).v
      obtain ⟨i1, i2, i3⟩ := ckI_ok r _ _ _ _ C h2
      refine ⟨pxi_star q i1, fun hs => ?_, fun z => by cases z⟩
      rw [List.all_cons, Bool.and_eq_true] at hs
      cases hs.1
    · cases h
theorem ckO_ok : ∀ (ir : Op) (c : Ck) (X : L2.Cx) (E : XK) (o : Option Expr), Ct CX k cx fa c X E → ckO c ir o = true → PXO X cx E o ir
  | .none, c, X, E, o, C, h => by
    unfold ckO at h
    split at h
    · trivial
    · cases h
  | .some a, c, X, E, o, C, h => by
    unfold ckO at h
    split at h
    · exact (ckE_ok a _ _ _ _ _ C h).v
    · cases h
theorem ckSr_ok : ∀ (ir : Src) (c : Ck) (X : L2.Cx) (E : XK) (tg e : Expr), Ct CX k cx fa c X E → ckSr c ir tg e = true → PXS X cx E tg e ir
  | .it a, c, X, E, tg, e, C, h => by
    unfold ckSr at h
    exact pxs_it (ckE_ok a _ _ _ _ _ C h).v
  | .rng1 a, c, X, E, tg, e, C, h => by
    unfold ckSr at h
    split at h
    · rw [Bool.and_eq_true, Bool.and_eq_true] at h
      obtain ⟨⟨h1, h2⟩, h3⟩ := h
      obtain ⟨rfl, b⟩ := C.bi h1
      exact pxs_rng1 b (ckE_ok a _ _ _ _ _ C h3).v h2
    · cases h
  | .rng2 a b, c, X, E, tg, e, C, h => by
    unfold ckSr at h
    split at h
    · rw [Bool.and_eq_true, Bool.and_eq_true, Bool.and_eq_true, Bool.and_eq_true] at h
      obtain ⟨⟨⟨⟨h1, h2⟩, h2'⟩, h3⟩, h4⟩ := h
      obtain ⟨rfl, bb⟩ := C.bi h1
      exact pxs_rng2 bb (ckE_ok a _ _ _ _ _ C h3).v (ckE_ok b _ _ _ _ _ C h4).v h2 h2'
    · cases h
  | .rng3 _ _ _, c, X, E, tg, e, C, h => by
    unfold ckSr at h
    cases h
  | .enum a, c, X, E, tg, e, C, h => by
    unfold ckSr at h
    split at h
    · rw [Bool.and_eq_true, Bool.and_eq_true] at h
      obtain ⟨⟨h1, h2⟩, h3⟩ := h
      obtain ⟨rfl, b⟩ := C.bi h1
      exact pxs_enum b (ckE_ok a _ _ _ _ _ C h3).v h2
    · cases h
  | .zip a b, c, X, E, tg, e, C, h => by
    unfold ckSr at h
    split at h
    · rw [Bool.and_eq_true, Bool.and_eq_true, Bool.and_eq_true, Bool.and_eq_true] at h
      obtain ⟨⟨⟨⟨h1, h2⟩, h2'⟩, h3⟩, h4⟩ := h
      obtain ⟨rfl, bb⟩ := C.bi h1
      exact pxs_zip bb (ckE_ok a _ _ _ _ _ C h3).v (ckE_ok b _ _ _ _ _ C h4).v h2 h2'
    · cases h
  | .vals _, c, X, E, tg, e, C, h => by
    unfold ckSr at h
    cases h
  | .items _, c, X, E, tg, e, C, h => by
    unfold ckSr at h
    cases h
theorem ckTs_ok : ∀ (irs : Its) (c : Ck) (X : L2.Cx) (E : XK) (es : List Expr), Ct CX k cx fa c X E → ckTs c irs es = true → PTs X es (tTs X.K cx E irs)
  | .nil, c, X, E, es, C, h => by
    unfold ckTs at h
    split at h
    · exact ptsE_nil
    · cases h
  | .cons a r, c, X, E, es, C, h => by
    unfold ckTs at h
    split at h
    · rw [Bool.and_eq_true] at h
      obtain ⟨h1, h2⟩ := h
      have q := (ckE_ok a _ _ _ _ _ C h2).t
      split at h1
      · exact ptsE_one q
      · cases h1
    · cases h
  | .star _ _, c, X, E, es, C, h => by
    unfold ckTs at h
    cases h
theorem ckG_ok : ∀ (gs : Gens) (c : Ck) (X : L2.Cx) (E : XK) (d : Ck) (gens : List Comprehension), Ct CX k cx fa c X E → ckG c d gs gens = true → ∃ t sr irs tg iter ifs, Cl1 CX k cx fa X E d gs gens t sr irs tg iter ifs
  | .nil, c, X, E, d, gens, C, h => by
    unfold ckG at h
    cases h
  | .gen t sr irs r, c, X, E, d, gens, C, h => by
    unfold ckG at h
    split at h
    · rename_i tg iter ifs as
      rw [Bool.and_eq_true, Bool.and_eq_true, Bool.and_eq_true, Bool.and_eq_true, Bool.and_eq_true] at h
      obtain ⟨⟨⟨⟨⟨h1, h2⟩, h3⟩, h4⟩, h5⟩, h6⟩ := h
      obtain rfl := of_decide_eq_true h2
      have q1 := ckSr_ok sr _ _ _ _ _ C h4
      have q2 : ∀ Y E', Ct CX k cx fa d Y E' → PTs Y ifs (tTs Y.K cx E' irs) := fun Y E' D => ckTs_ok irs _ _ _ _ D h6
      split at h1
      · exact ⟨t, sr, irs, tg, iter, ifs, rfl, rfl, q1, h3, fun Y E' D => tg_snd D t _ h5, q2⟩
      · cases h1
    · cases h
end
end
end Sc
end
section
set_option Elab.async false
set_option linter.all false
set_option maxRecDepth 100000
set_option maxHeartbeats 8000000
set_option autoImplicit false
/-! What the check lets through, the model does: statements. -/
namespace Sc
open PySem PySem.Spec PyProof.Rows L2

section
variable {CX : CXT} {k : Nat} {cx : Sc.Cx} {fa : String → String → Addr}
theorem noComp_noLc {elt : Expr} {gens : List Comprehension} {scope : Scope} {p : Pos} (h : noComp (.ListComp elt gens scope p) = true) : False := by cases h
theorem sw_cell {elt : Expr} {gs : List Comprehension} {scope : Scope} {pos py : Pos} {y : Str} {l : Nat} {env : PySem.Env} (hy : env.scope.names.lookup y = some .cell) : swapsWith (.ListComp elt gs scope pos) (some (.Name y py)) l env = pure false := by
  have ky : env.kindOf y = some .cell := hy
  unfold swapsWith
  simp only [ky]
  have e : ((some NameKind.cell : Option NameKind) == some .local) = false := by decide
  rw [e, Bool.and_false, Bool.false_and, Bool.false_and]
theorem ckSet_ok {c : Ck} {X : L2.Cx} {E : XK} {i : Nat} {e : Ex} {st : Stmt} (C : Ct CX k cx fa c X E) (h : ckSet c i e st = true) : QS X cx E st (.set i e) := by
  unfold ckSet at h
  split at h
  · rename_i x p v pos
    rw [Bool.and_eq_true, Bool.and_eq_true, Bool.and_eq_true, Bool.and_eq_true] at h
    obtain ⟨⟨⟨⟨h1, h2⟩, h3⟩, h4⟩, h5⟩ := h
    have hN : X.N.Nodup := by rw [C.N]; exact C.nd
    have hi : X.N[i]? = some x := by rw [C.N]; exact of_decide_eq_true h1
    split at h4
    · rename_i elt gens scope lp
      rcases Bool.or_eq_true_iff.mp h4 with h4 | h4
      · exact qs_set hN hi (C.loc h2) (ckE_ok e _ _ _ _ _ C h5).v (sw_cell (C.isC h4)) (C.okf h3)
      rw [Bool.and_eq_true, Bool.and_eq_true, Bool.not_eq_true'] at h4
      obtain ⟨⟨g1, g2⟩, g3⟩ := h4
      cases e with
      | lc el gs =>
        unfold ckE at h5
        rw [Bool.and_eq_true, Bool.and_eq_true] at h5
        obtain ⟨⟨h1, h2⟩, h3⟩ := h5
        have ok := blkOk_by h1
        obtain ⟨tt, sr, irs, tg, iter, ifs, cl⟩ := ckG_ok gs _ _ _ _ _ C h2
        obtain rfl := cl.eg
        obtain rfl := cl.en
        refine qs_setLc C.F.calm hN hi (C.isL g1) (sw_true (by rw [C.sc]; exact C.kind) (C.isL g1) g2 g3) cl.src (by rw [C.N, C.sc]; exact ok) ?_ (fun s H Cc cl' fp => cl.tgt _ _ (C.blk ok s H Cc cl' fp)) (fun s H Cc cl' fp => cl.tst _ _ (C.blk ok s H Cc cl' fp)) (fun s H Cc cl' fp => (ckE_ok el _ _ _ _ _ (C.blk ok s H Cc cl' fp) h3).v) (noSetE_ok cl.ns _)
        rw [ownOf_snd]
        exact List.append_nil _
      | _ => unfold ckE at h5; first | cases h5 | (split at h5 <;> cases h5)
    · exact qs_set hN hi (C.loc h2) (ckE_ok e _ _ _ _ _ C h5).v (noComp_ok h4 _ _ _) (C.okf h3)
  · cases h
theorem qb_never {X : L2.Cx} {E : XK} {sts : List Stmt} {irs : List Sc.St} : QB X cx E sts (.never :: irs) := ⟨fun pins s σ H D I q => by
  obtain ⟨ρ, env, h, R, S, q⟩ := q
  exact (show False from q).elim⟩
mutual
theorem ckS_ok : ∀ (ir : Sc.St) (c : Ck) (X : L2.Cx) (E : XK) (st : Stmt), Ct CX k cx fa c X E → ckS c ir st = true → QS X cx E st ir
  | .set i e, c, X, E, st, C, h => by
    unfold ckS at h
    exact ckSet_ok C h
  | .sets ts e, c, X, E, st, C, h => by
    unfold ckS at h
    split at h
    · rw [Bool.and_eq_true, Bool.and_eq_true, Bool.and_eq_true] at h
      obtain ⟨⟨⟨h1, h2⟩, h3⟩, h4⟩ := h
      exact qs_sets (ckE_ok e _ _ _ _ _ C h4).v (tg_snd C _ _ h3) (by unfold swapsWithSole; exact noComp_ok h1 _ _ _) (noTup_ok h2 _)
    · cases h
  | .setI o i e, c, X, E, st, C, h => by
    unfold ckS at h
    split at h
    · rw [Bool.and_eq_true, Bool.and_eq_true, Bool.and_eq_true] at h
      obtain ⟨⟨⟨h2, h3⟩, h4⟩, h5⟩ := h
      rename_i x y p v pos
      refine qs_setI (by have := C.F.units; omega) (ckE_ok o _ _ _ _ _ C h3).v (ckE_ok i _ _ _ _ _ C h4).v (ckE_ok e _ _ _ _ _ C h5).v (sw_sub _ _) ?_
      cases y <;> first | exact fun _ => rfl | cases h2
    · cases h
  | .setA o f e, c, X, E, st, C, h => by
    unfold ckS at h
    split at h
    · rw [Bool.and_eq_true, Bool.and_eq_true] at h
      obtain ⟨⟨h2, h3⟩, h4⟩ := h
      obtain rfl := nm_ok h2
      exact qs_setA C.F (ckE_ok o _ _ _ _ _ C h3).v (ckE_ok e _ _ _ _ _ C h4).v (sw_attr _ _)
    · cases h
  | .aug op i e, c, X, E, st, C, h => by
    unfold ckS at h
    split at h
    · rw [Bool.and_eq_true, Bool.and_eq_true, Bool.and_eq_true, Bool.and_eq_true] at h
      obtain ⟨⟨⟨⟨h1, h2⟩, h3⟩, h4⟩, h5⟩ := h
      have q := (ckE_ok e _ _ _ _ _ C h5).v
      split at h1
      · exact qs_aug (op := .add) (by rw [C.N]; exact C.nd) (by rw [C.N]; exact of_decide_eq_true h2) (C.loc h3) q (C.okf h4)
      · cases h1
    · cases h
  | .ex e, c, X, E, st, C, h => by
    unfold ckS at h
    split at h
    · rw [Bool.and_eq_true] at h
      exact qs_ex (ckE_ok e _ _ _ _ _ C h.2).v (noComp_ok h.1 _ _ _)
    · cases h
  | .ret e, c, X, E, st, C, h => by
    unfold ckS at h
    split at h
    · exact qs_ret (ckE_ok e _ _ _ _ _ C h).v
    · split at h
      · exact qs_retN
      · cases h
    · cases h
  | .ifs t a b, c, X, E, st, C, h => by
    unfold ckS at h
    split at h
    · rw [Bool.and_eq_true, Bool.and_eq_true] at h
      obtain ⟨⟨h1, h2⟩, h3⟩ := h
      exact qs_if (ckE_ok t _ _ _ _ _ C h1).t (ckB_ok a _ _ _ _ C h2) (ckB_ok b _ _ _ _ C h3)
    · cases h
  | .for_ t s body, c, X, E, st, C, h => by
    unfold ckS at h
    split at h
    · rw [Bool.and_eq_true, Bool.and_eq_true, Bool.and_eq_true] at h
      obtain ⟨⟨⟨h1, h2⟩, h3⟩, h4⟩ := h
      exact qs_for C.po C.F.calm (ckSr_ok s _ _ _ _ _ C h2) (tg_snd C _ _ h3) (ckB_ok body _ _ _ _ C h4) (noSetE_ok h1 _)
    · cases h
  | .while_ t body, c, X, E, st, C, h => by
    unfold ckS at h
    split at h
    · rw [Bool.and_eq_true] at h
      exact qs_while C.po (ckE_ok t _ _ _ _ _ C h.1).t (ckB_ok body _ _ _ _ C h.2)
    · cases h
  | .brk, c, X, E, st, C, h => by
    unfold ckS at h
    split at h
    · exact qs_brk
    · cases h
  | .pass, c, X, E, st, C, h => by
    unfold ckS at h
    split at h
    · exact qs_pass
    · cases h
  | .raise _ _, c, X, E, st, C, h => by
    unfold ckS at h
    cases h
  | .try_ _ _, c, X, E, st, C, h => by
    unfold ckS at h
    cases h
  | .never, c, X, E, st, C, h => by
    unfold ckS at h
    cases h
theorem ckB_ok : ∀ (irs : List Sc.St) (c : Ck) (X : L2.Cx) (E : XK) (sts : List Stmt), Ct CX k cx fa c X E → ckB c irs sts = true → QB X cx E sts irs
  | [], c, X, E, sts, C, h => by
    unfold ckB at h
    split at h
    · exact qb_nil
    · cases h
  | ir :: irs, c, X, E, sts, C, h => by
    unfold ckB at h
    split at h
    · rcases Bool.or_eq_true_iff.mp h with h | h
      · unfold isNever at h
        split at h
        · exact qb_never
        · cases h
      · rw [Bool.and_eq_true] at h
        exact qb_cons (ckS_ok ir _ _ _ _ C h.1) (ckB_ok irs _ _ _ _ C h.2)
    · cases h
end
end
end Sc
end
section
set_option Elab.async false
set_option linter.all false
set_option maxRecDepth 100000
set_option maxHeartbeats 4000000
set_option autoImplicit false
/-! Each def keeps what the evaluator says of it. -/
namespace Sc
open PySem PySem.Spec PyProof.Rows L2

theorem lookup_zip : ∀ {ps : List Str} {us : List Value}, ps.Nodup → us.length = ps.length → (ps.filterMap fun n => ((ps.zip us).lookup n).map (n, ·)) = ps.zip us := by
  intro ps
  have key : ∀ (qs : List Str) (us : List Value) (pre : List (Str × Value)), qs.Nodup → us.length = qs.length → (∀ q ∈ qs, pre.lookup q = none) → (qs.filterMap fun n => ((pre ++ qs.zip us).lookup n).map (n, ·)) = qs.zip us := by
    intro qs
    induction qs with
    | nil => intro us pre _ _ _; rfl
    | cons q qs ih =>
      intro us pre nd hl hp
      cases us with
      | nil => cases hl
      | cons u us =>
        have hq : (pre ++ (q :: qs).zip (u :: us)).lookup q = some u := by
          rw [List.lookup_append, hp q (List.mem_cons_self ..)]
          show (List.lookup q ((q, u) :: qs.zip us)) = some u
          rw [List.lookup_cons_self]
        rw [List.filterMap_cons, hq]
        show (q, u) :: _ = (q, u) :: _
        congr 1
        have := ih us (pre ++ [(q, u)]) (List.nodup_cons.mp nd).2 (Nat.succ.inj hl) (fun z hz => by
          rw [List.lookup_append, hp z (List.mem_cons_of_mem _ hz)]
          have hne : z ≠ q := fun e => (List.nodup_cons.mp nd).1 (by rw [← e]; exact hz)
          show List.lookup z [(q, u)] = none
          rw [List.lookup_cons, beq_eq_false_iff_ne.mpr hne]
          rfl)
        rw [List.append_assoc] at this
        exact this
  intro us nd hl
  exact key ps us [] nd hl fun _ _ => rfl
theorem lookup_has : ∀ {ps : List Str} {us : List Value} {n : Str}, us.length = ps.length → n ∈ ps → (List.lookup n (ps.zip us)).isNone = false
  | [], _, _, _, h => by cases h
  | p :: ps, [], _, hl, _ => by cases hl
  | p :: ps, u :: us, n, hl, h => by
    show (List.lookup n ((p, u) :: ps.zip us)).isNone = false
    rw [List.lookup_cons]
    cases e : n == p with
    | true => rfl
    | false =>
      have hne : n ≠ p := beq_eq_false_iff_ne.mp e
      exact lookup_has (Nat.succ.inj hl) ((List.mem_cons.mp h).resolve_left hne)
theorem bind_none {x qual : Str} {params : Arguments} {body : List Stmt} {scope : Scope} {kV doc pm cdv ct : Value} {an : Option Addr} {us : List Value} (hpo : params.posonlyargs = []) (hko : params.kwonlyargs = []) (hva : params.vararg = none) (hkw : params.kwarg = none) (nd : (params.args.map (·.arg)).Nodup) (hl : us.length = (params.args.map (·.arg)).length) :
    bindArgs (PySem.W.fnOf x qual params body scope .none kV doc pm an cdv ct) ⟨us, []⟩ = pure ((params.args.map (·.arg)).zip us) := by
  unfold bindArgs
  simp only [PySem.W.fnOf, hpo, hko, hva, hkw, List.map_nil, List.nil_append, List.append_nil, seqItems?]
  rw [List.forIn_nil, pure_bind]
  have e1 : notAStandIn Value.none = pure () := rfl
  simp only [e1, pure_bind, Option.getD_none, List.length_zip]
  have e2 : (#[] : Array Value).toList = [] := rfl
  simp only [e2, List.drop_nil, List.length_nil, Nat.sub_zero, List.zip_nil_right, List.take_length]
  generalize params.args.map (fun x => x.arg) = ps at nd hl
  have c1 : (decide (us.length > ps.length) && (none : Option Arg).isNone) = false := by
    rw [hl]; simp
  have c2 : (ps.filter fun n => (List.lookup n (ps.zip us)).isNone) = [] := by
    rw [List.filter_eq_nil_iff]
    intro n hn
    rw [lookup_has hl hn]
    exact Bool.false_ne_true
  simp only [c1, c2, Bool.false_eq_true, if_false, List.isEmpty_nil, Bool.not_true, List.forIn_nil, pure_bind, lookup_zip nd hl]
/-- one def: where it stands, its text, its tree -/
structure DefE where
  C : String
  m : String
  ir : FnI
  name : Str
  qual : Str
  params : Arguments
  body : List Stmt
  scope : Scope
def namesN (f : FnI) : List Str := f.names.map Str.ofString
def paramsN (f : FnI) : List Str := f.params.map Str.ofString
def plainP (p : Arguments) : Bool := p.posonlyargs.isEmpty && p.kwonlyargs.isEmpty && p.vararg.isNone && p.kwarg.isNone && p.defaults.isEmpty
def scOk (N ps : List Str) (sc : Scope) : Bool := (match sc.kind with | .function => true | _ => false) && !sc.isCoroutine && !sc.isGenerator && decide N.Nodup && decide (N.take ps.length = ps) &&
  (ps.all fun x => match sc.names.lookup x with | some .local => true | some .cell => true | _ => false) && (sc.names.all fun y => match y.2 with | .free => false | _ => true)
theorem scOk_ok {N ps : List Str} {sc : Scope} (h : scOk N ps sc = true) : FnScope N ps sc := by
  unfold scOk at h
  rw [Bool.and_eq_true, Bool.and_eq_true, Bool.and_eq_true, Bool.and_eq_true, Bool.and_eq_true, Bool.and_eq_true, Bool.not_eq_true', Bool.not_eq_true'] at h
  obtain ⟨⟨⟨⟨⟨⟨h1, h2⟩, h3⟩, h4⟩, h5⟩, h6⟩, h7⟩ := h
  refine ⟨?_, h2, h3, of_decide_eq_true h4, of_decide_eq_true h5, fun x hx => ?_, fun y hy e => ?_⟩
  · split at h1
    · assumption
    · cases h1
  · have q := List.all_eq_true.mp h6 x hx
    split at q
    · exact .inl (by assumption)
    · exact .inr (by assumption)
    · cases q
  · have q := List.all_eq_true.mp h7 y hy
    rw [e] at q
    cases q
def defOk (P : Pg) (d : DefE) : Bool := plainP d.params && decide (d.params.args.map (·.arg) = paramsN d.ir) && d.ir.defs.isEmpty && scOk (namesN d.ir) (paramsN d.ir) d.scope && ckB ⟨namesN d.ir, d.scope, none, P⟩ d.ir.body d.body
/-- the module's facts -/
abbrev cxAt (P : Pg) (n : Nat) : Sc.Cx := ⟨run P n, P.con, P.cls, P.fns, P.kinds⟩
structure Mf (K : PySem.W.Frag) (mg : Str → Option Value) (P : Pg) (fa : String → String → Addr) : Prop where
  fn : ∀ g, P.fns g = true → fa "" g = ca K g
  keep : ∀ g, (P.fns g = true ∨ ∃ c, P.cls g = some c) → PySem.W.keepIn K (.ref (ca K g)) = true
  cls : ∀ C c, P.cls C = some c → c.exc = false → ClsF K fa C c
  cl1 : PySem.W.specialIn K (.builtin "object.__class__") "__get__" = some (some (.builtin "getset_descriptor.__get__"))
  cl2 : PySem.W.takesIn K (.builtin "object.__class__") = some true
  isi : ∀ a b, P.kinds.contains a = true → P.kinds.contains b = true → PySem.W.kitOne K (tyVal K (cxAt P 0) a) (tyVal K (cxAt P 0) b) = some (isa (cxAt P 0) a b)
  bti : ∀ a, a ∈ ["NoneType", "bool", "int", "str", "tuple", "list", "dict"] → P.cls a = none
  g : GF K mg P
/-- the promise at bound arguments -/
def spB (K : PySem.W.Frag) (P : Pg) (n : Nat) (f : FnI) : Sp := fun xs H Q E => ∃ ρ h vs, HRel K ρ h H ∧ VRels K ρ H vs xs ∧ vs.length = f.params.length ∧
  Sat ((evB (cxAt P n) f.body (startE f vs) h).bind fun fl h1 => match fl with
        | .rt v => .ok v h1
        | .nx _ => .ok .non h1
        | .bk _ => .no) (Post K ρ H Q) (XP K E ρ H)
theorem VRels.at {K : PySem.W.Frag} {ρ : List Addr} {H : Hp} : ∀ {vs : List Val} {xs : List V}, VRels K ρ H vs xs → ∀ (m k : Nat) (i : Nat) (v : Val), (vs.map some ++ List.replicate m none)[i]? = some (some v) → ∃ x, (xs.map some ++ List.replicate k none)[i]? = some (some x) ∧ VRel K ρ H v x
  | _, _, .nil, m, k, i, v, e => by
    rw [List.map_nil, List.nil_append, List.getElem?_replicate] at e
    split at e <;> cases e
  | _, _, .cons r t, m, k, 0, v, e => by
    have e : some (some _) = some (some v) := e
    cases e
    exact ⟨_, rfl, r⟩
  | _, _, .cons r t, m, k, i + 1, v, e => t.at m k i v e
theorem srel_start {K : PySem.W.Frag} {ρ : List Addr} {H : Hp} {vs : List Val} {xs : List V} {f : FnI} (w : VRels K ρ H vs xs) : SRel K ρ H (startE f vs) (L2.start (namesN f) xs) := by
  have hl := w.length
  refine ⟨?_, fun i v e => w.at _ _ i v e⟩
  unfold startE L2.start namesN
  simp [hl]
section
variable {P : Pg} {prog : Program} {w : World} {K : PySem.W.Frag} {mg : Str → Option Value} {base : PySem.Heap} {fa : String → String → Addr}
theorem def_ok {d : DefE} {n : Nat} {fd : FuncData} (hd : defOk P d = true) (M : Mf K mg P fa) (IH : ∀ C m, FnR prog w K mg base L2.CX0 (3 * n) (fa C m) (spF K (cxAt P n) C m)) (FD : FunD K d.name d.qual d.params d.body d.scope [] [] (fa d.C d.m) fd) :
    FnOk prog w K mg base L2.CX0 (3 * (n + 1)) (fa d.C d.m) fd (paramsN d.ir) (spB K P n d.ir) := by
  unfold defOk at hd
  rw [Bool.and_eq_true, Bool.and_eq_true, Bool.and_eq_true, Bool.and_eq_true] at hd
  obtain ⟨⟨⟨⟨h1, h2⟩, h3⟩, h4⟩, h5⟩ := hd
  have S := scOk_ok h4
  refine FD.ok (k := 3 * n + 2) S (fun vs H Q E q => ?_) (fun cdv A outer s H xs Q E hr q => ?_)
  · obtain ⟨ρ, h, us, R, r, hl, _⟩ := q
    rw [← r.length, hl]
    unfold paramsN
    rw [List.length_map]
  · obtain ⟨ρ, h, us, R, r, hl, q⟩ := q
    refine ⟨tBT K (cxAt P n) E d.ir.body, PSs.nox (ckB_ok (CX := L2.CX0) (k := 3 * n) (fa := fa) d.ir.body ⟨namesN d.ir, d.scope, none, P⟩ _ E d.body ?_ h5), ?_⟩
    · exact {
        N := rfl
        nd := S.nd
        sc := rfl
        kind := S.kind
        fn := rfl
        F := ⟨IH, hr, rfl, M.fn, M.keep, M.cls, M.cl1, M.cl2, M.isi, M.bti⟩
        g := M.g
        con := rfl
        cls := rfl
        fns := rfl
        p1 := fun _ _ _ _ _ _ _ z => z.elim
        p0 := fun _ _ _ _ _ z => z
        po := PassesOwn.never }
    · refine ⟨ρ, startE d.ir us, h, R, srel_start r, (Sat.unbind q).mono (fun fl h1 z ρ' H' e' R' => ?_) fun _ _ _ z => z⟩
      cases fl with
      | nx e => exact fun σ' _ => (show Post K ρ H Q .non h1 from z) ρ' H' .non e' R' (.v .non)
      | bk e => exact z.elim
      | rt v => exact fun x wx => (show Post K ρ H Q v h1 from z) ρ' H' x e' R' wx
/-- the defs of a text: at each depth -/
theorem all_ok {ds : List DefE} (M : Mf K mg P fa) (hds : ∀ d ∈ ds, defOk P d = true ∧ ∃ fd, FunD K d.name d.qual d.params d.body d.scope [] [] (fa d.C d.m) fd) (hfn : ∀ C m f, P.fn C m = some f → ∃ d ∈ ds, d.C = C ∧ d.m = m ∧ d.ir = f) :
    ∀ n C m, FnR prog w K mg base L2.CX0 (3 * n) (fa C m) (spF K (cxAt P n) C m)
  | 0, C, m => by
    intro A outer s H us vs Q E hr e0 r q
    obtain ⟨ρ, h, ws, _, _, q⟩ := q
    exact (show False from q).elim
  | n + 1, C, m => by
    have IH := all_ok M hds hfn n
    intro A outer s H us xs Q E hr e0 r q
    obtain ⟨ρ, h, ws, R, rr, q⟩ := q
    have q : Sat (match P.fn C m with
      | none => Sc.R.no
      | some f => if ws.length + f.defs.length < f.params.length ∨ f.params.length < ws.length then .no else
        (evB (cxAt P n) f.body (startE f (ws ++ f.defs.drop (f.defs.length - (f.params.length - ws.length)))) h).bind fun fl h1 => match fl with
          | .rt v => .ok v h1
          | .nx _ => .ok .non h1
          | .bk _ => .no) (Post K ρ H Q) (XP K E ρ H) := q
    split at q
    · exact (show False from q).elim
    · rename_i f hf
      obtain ⟨d, hd, rfl, rfl, rfl⟩ := hfn C m f hf
      obtain ⟨ok, fd, FD⟩ := hds d hd
      have G := def_ok (prog := prog) (w := w) (base := base) ok M IH FD
      unfold defOk at ok
      rw [Bool.and_eq_true, Bool.and_eq_true, Bool.and_eq_true, Bool.and_eq_true] at ok
      obtain ⟨⟨⟨⟨h1, h2⟩, h3⟩, h4⟩, h5⟩ := ok
      have hde : d.ir.defs = [] := List.isEmpty_iff.mp h3
      rw [hde] at q
      split at q
      · exact (show False from q).elim
      · rename_i hlen
        rw [List.length_nil] at hlen
        have hl : ws.length = d.ir.params.length := by omega
        rw [List.drop_nil, List.append_nil] at q
        have hps : d.params.args.map (·.arg) = paramsN d.ir := of_decide_eq_true h2
        unfold plainP at h1
        simp only [Bool.and_eq_true, List.isEmpty_iff, Option.isNone_iff_eq_none] at h1
        obtain ⟨⟨⟨⟨p1, p2⟩, p3⟩, p4⟩, p5⟩ := h1
        have nd : (d.params.args.map (·.arg)).Nodup := by
          rw [hps, ← (scOk_ok h4).pre]
          exact (scOk_ok h4).nd.sublist (List.take_sublist _ _)
        have B : Binds K fd (paramsN d.ir) [] := FD.bindsN fun kV doc pm an cdv ct us hu => by
          rw [← hps] at hu ⊢
          exact bind_none p1 p2 p3 p4 nd hu
        have F := FnOk.raw (dvs := []) G B .nil
        refine F A outer s H us xs Q E hr e0 r ?_
        show spB K P n d.ir (xs ++ []) H Q E
        rw [List.append_nil]
        exact ⟨ρ, h, ws, R, rr, hl, q⟩
end
end Sc
end
section
set_option Elab.async false
set_option linter.all false
set_option maxRecDepth 100000
set_option maxHeartbeats 4000000
set_option autoImplicit false
/-! What the head must have left, as a check; the Hook. -/
namespace Sc
open PySem PySem.Spec PyProof.Rows L2

/-- a text's tables -/
structure Tb where
  fns : List ((String × String) × FnI)
  con : List (String × Val)
  cls : List (String × ClsI)
  kinds : List String
def Tb.pg (T : Tb) : Pg := { fn := fun C m => T.fns.lookup (C, m), con := fun x => T.con.lookup x, cls := fun x => T.cls.lookup x, fns := fun g => (T.fns.lookup ("", g)).isSome, kinds := T.kinds }
theorem lookup_mem {α β : Type} [BEq α] [LawfulBEq α] {a : α} {b : β} : ∀ {l : List (α × β)}, l.lookup a = some b → (a, b) ∈ l
  | [], h => by cases h
  | (c, d) :: r, h => by
    rw [List.lookup_cons] at h
    split at h
    · rename_i e
      cases h
      rw [eq_of_beq e]
      exact List.mem_cons_self
    · exact List.mem_cons_of_mem _ (lookup_mem h)

/-! ### where the defs are -/
def mAd (K : PySem.W.Frag) (C m : String) : Addr := He.ma K (ca K C) (Str.ofString m)
def recG (K : PySem.W.Frag) (p : Addr) (n : String) : Addr := match PySem.W.recIn K p n with
  | some (.ref g :: _) => g
  | _ => 0
def faOf (K : PySem.W.Frag) (cls : String → Option ClsI) (C m : String) : Addr := if C = "" then ca K m else match cls C with
  | some c => if c.props.contains m then recG K (mAd K C m) "property" else if c.cms.contains m then recG K (mAd K C m) "classmethod" else mAd K C m
  | none => mAd K C m

/-! ### classes -/
def propB (K : PySem.W.Frag) (C f : String) : Bool := He.eqO (PySem.W.findIn K (.ref (ca K C)) (Str.ofString f)) (some (some (.ref (mAd K C f)))) && (He.eqO (PySem.W.specialIn K (.ref (mAd K C f)) "__get__") (some (some (.builtin "property.__get__"))) &&
  (decide (PySem.W.takesIn K (.ref (mAd K C f)) = some true) && (match PySem.W.recIn K (mAd K C f) "property" with
    | some (.ref _ :: _) => true
    | _ => false)))
def cfB (p C : Addr) : Option PySem.W.CFound → Bool
  | some (.get g a o t) => decide (g = .builtin "classmethod.__get__") && (decide (a = .ref p) && (decide (o = .none) && decide (t = .ref C)))
  | _ => false
def cmB (K : PySem.W.Frag) (C m : String) : Bool := PySem.W.readsIn K (ca K C) (.type "type") && (He.eqO (PySem.W.specialIn K (.ref (ca K C)) "__getattribute__") (some (some (.builtin "type.__getattribute__"))) &&
  (cfB (mAd K C m) (ca K C) (PySem.W.findCls K (.ref (ca K C)) (.type "type") (Str.ofString m)) && ((match PySem.W.recIn K (mAd K C m) "classmethod" with
    | some (.ref _ :: _) => true
    | _ => false) && PySem.W.fnIn K (recG K (mAd K C m) "classmethod"))))
def clsB (K : PySem.W.Frag) (cls : String → Option ClsI) (C : String) (c : ClsI) : Bool :=
  He.Fa.ok K (.cls (Str.ofString C)) && ((c.meths.all fun m => He.Fa.ok K (.meth (Str.ofString C) (Str.ofString m)) && (PySem.W.fnIn K (mAd K C m) && (!c.props.contains m && !c.cms.contains m))) &&
  ((c.attrs.all fun f => He.Fa.ok K (.noat (Str.ofString C) (Str.ofString f))) && ((c.props.all fun f => propB K C f) && ((c.cms.all fun m => cmB K C m && !c.props.contains m) &&
  ((He.Fa.ok K (.mkr (Str.ofString C)) && (!c.props.contains "__init__" && !c.cms.contains "__init__")) && (He.eqO (PySem.W.findIn K (.ref (ca K C)) "__class__") (some (some (.builtin "object.__class__"))) && (decide (PySem.W.mroIn K (ca K C) (.type "object") = some true) && (PySem.W.selfFirst K (ca K C) && decide (C ≠ "")))))))))
theorem propB_ok {K : PySem.W.Frag} {C f : String} (h : propB K C f = true) : PropOf K (ca K C) (Str.ofString f) (mAd K C f) (recG K (mAd K C f) "property") := by
  obtain ⟨h1, h⟩ := He.ba h
  obtain ⟨h2, h⟩ := He.ba h
  obtain ⟨h3, h4⟩ := He.ba h
  refine ⟨He.eqO_ok h1, He.eqO_ok h2, of_decide_eq_true h3, ?_⟩
  unfold recG
  split at h4
  · rename_i g r e
    rw [e]
    exact ⟨r, rfl⟩
  · cases h4
theorem cmB_ok {K : PySem.W.Frag} {C m : String} (h : cmB K C m = true) : ∃ mc p, ClX.CRead K (ca K C) mc ∧ ClX.CMet K (ca K C) mc (Str.ofString m) p (recG K (mAd K C m) "classmethod") := by
  obtain ⟨h1, h⟩ := He.ba h
  obtain ⟨h2, h⟩ := He.ba h
  obtain ⟨h3, h⟩ := He.ba h
  obtain ⟨h4, h5⟩ := He.ba h
  refine ⟨.type "type", mAd K C m, ⟨h1, He.eqO_ok h2⟩, ⟨?_, ?_, h5⟩⟩
  · revert h3
    cases PySem.W.findCls K (.ref (ca K C)) (.type "type") (Str.ofString m) with
    | none => intro h; cases h
    | some r =>
      cases r with
      | val v => intro h; cases h
      | get g a o t =>
        intro h
        obtain ⟨e1, h⟩ := He.ba h
        obtain ⟨e2, h⟩ := He.ba h
        obtain ⟨e3, e4⟩ := He.ba h
        rw [of_decide_eq_true e1, of_decide_eq_true e2, of_decide_eq_true e3, of_decide_eq_true e4]
  · unfold recG
    split at h4
    · rename_i g r e
      rw [e]
      exact ⟨r, rfl⟩
    · cases h4
theorem clsB_ok {K : PySem.W.Frag} {cls : String → Option ClsI} {C : String} {c : ClsI} (hc : cls C = some c) (h : clsB K cls C c = true) : ClsF K (faOf K cls) C c := by
  obtain ⟨h1, h⟩ := He.ba h
  obtain ⟨h2, h⟩ := He.ba h
  obtain ⟨h3, h⟩ := He.ba h
  obtain ⟨h4, h⟩ := He.ba h
  obtain ⟨h5, h⟩ := He.ba h
  obtain ⟨h6, h⟩ := He.ba h
  obtain ⟨h7, h⟩ := He.ba h
  obtain ⟨h8, h⟩ := He.ba h
  obtain ⟨h9, h10⟩ := He.ba h
  have hne : C ≠ "" := of_decide_eq_true h10
  have plain : ∀ m, c.props.contains m = false → c.cms.contains m = false → faOf K cls C m = mAd K C m := fun m e1 e2 => by
    unfold faOf
    rw [if_neg hne, hc]
    show (if c.props.contains m = true then _ else _) = _
    rw [e1, if_neg Bool.false_ne_true, e2, if_neg Bool.false_ne_true]
  have met : ∀ m, c.meths.contains m = true → Meth K (ca K C) (Str.ofString m) (mAd K C m) ∧ PySem.W.fnIn K (mAd K C m) = true ∧ faOf K cls C m = mAd K C m := fun m hm => by
    have q := List.all_eq_true.mp h2 m (by simpa using hm)
    obtain ⟨q1, q⟩ := He.ba q
    obtain ⟨q2, q⟩ := He.ba q
    obtain ⟨q3, q4⟩ := He.ba q
    rw [Bool.not_eq_true'] at q3 q4
    exact ⟨He.meth_ok q1, q2, plain m q3 q4⟩
  refine ⟨He.cls_ok h1, fun m hm => ?_, fun m hm => ?_, fun f hf => ?_, fun f hf => ?_, fun m hm => ?_, ?_, He.eqO_ok h7, of_decide_eq_true h8, h9⟩
  · rw [(met m hm).2.2]; exact (met m hm).1
  · rw [(met m hm).2.2]; exact (met m hm).2.1
  · exact He.noat_ok (List.all_eq_true.mp h3 f (by simpa using hf))
  · refine ⟨mAd K C f, ?_⟩
    have e : faOf K cls C f = recG K (mAd K C f) "property" := by
      unfold faOf
      rw [if_neg hne, hc]
      show (if c.props.contains f = true then _ else _) = _
      rw [if_pos hf]
    rw [e]
    exact propB_ok (List.all_eq_true.mp h4 f (by simpa using hf))
  · obtain ⟨q1, q2⟩ := He.ba (List.all_eq_true.mp h5 m (by simpa using hm))
    rw [Bool.not_eq_true'] at q2
    have e : faOf K cls C m = recG K (mAd K C m) "classmethod" := by
      unfold faOf
      rw [if_neg hne, hc]
      show (if c.props.contains m = true then _ else if c.cms.contains m = true then _ else _) = _
      rw [q2, if_neg Bool.false_ne_true, if_pos hm]
    rw [e]
    exact cmB_ok q1
  · obtain ⟨q1, q⟩ := He.ba h6
    obtain ⟨q2, q3⟩ := He.ba q
    rw [Bool.not_eq_true'] at q2 q3
    rw [plain _ q2 q3]
    exact He.mkr_ok q1

/-! ### constants -/
mutual
def conB (K : PySem.W.Frag) : Val → Value → Bool
  | .non, u => (match u with | .none => true | _ => false)
  | .bl b, u => (match u with | .bool c => b == c | _ => false)
  | .int i, u => (match u with | .int j _ => decide (i = j) | _ => false)
  | .str x, u => (match u with | .str y _ => decide (x = y) | _ => false)
  | .tup vs, u => (match u with
    | .ref a => (match K.lookup a with
      | some ⟨.type c, _, .seq its _, _⟩ => decide (c = "tuple") && (decide (its.size ≤ sizeLine) && consB K vs its.toList)
      | _ => false)
    | _ => false)
  | .glb _, _ => false
  | .tuq _, _ => false
  | .loc _, _ => false
  | .tl _, _ => false
  | .ts _, _ => false
  | .itr _, _ => false
  | .xc _ _, _ => false
def consB (K : PySem.W.Frag) : List Val → List Value → Bool
  | [], us => (match us with | [] => true | _ => false)
  | v :: vs, us => (match us with | u :: us => conB K v u && consB K vs us | _ => false)
end
mutual
theorem conB_ok {K : PySem.W.Frag} : ∀ (v : Val) (u : Value), conB K v u = true → ∃ y, L2.RelV y u ∧ Konst K v y
  | .non, u, h => by
    unfold conB at h
    split at h
    · exact ⟨.non, rfl, fun _ _ => .non⟩
    · cases h
  | .bl b, u, h => by
    unfold conB at h
    split at h
    · rw [eq_of_beq h]; exact ⟨.bl _, rfl, fun _ _ => .bl _⟩
    · cases h
  | .int i, u, h => by
    unfold conB at h
    split at h
    · obtain rfl := of_decide_eq_true h; exact ⟨.int i, ⟨_, rfl⟩, fun _ _ => .int _⟩
    · cases h
  | .str x, u, h => by
    unfold conB at h
    split at h
    · obtain rfl := of_decide_eq_true h; exact ⟨.str x, ⟨_, rfl⟩, fun _ _ => .str _⟩
    · cases h
  | .tup vs, u, h => by
    unfold conB at h
    split at h
    · rename_i a
      split at h
      · rename_i c d its n sl e
        obtain ⟨h1, h2⟩ := He.ba h
        obtain ⟨h2, h3⟩ := He.ba h2
        obtain rfl := of_decide_eq_true h1
        obtain ⟨ys, r, k⟩ := consB_ok vs _ h3
        exact ⟨.ref a, rfl, fun ρ H => .tup (.inr ⟨_, its, n, e, rfl, rfl, of_decide_eq_true h2, r⟩) (k ρ H)⟩
      · cases h
    · cases h
  | .glb _, _, h => by unfold conB at h; cases h
  | .tuq _, _, h => by unfold conB at h; cases h
  | .loc _, _, h => by unfold conB at h; cases h
  | .tl _, _, h => by unfold conB at h; cases h
  | .ts _, _, h => by unfold conB at h; cases h
  | .itr _, _, h => by unfold conB at h; cases h
  | .xc _ _, _, h => by unfold conB at h; cases h
theorem consB_ok {K : PySem.W.Frag} : ∀ (vs : List Val) (us : List Value), consB K vs us = true → ∃ ys, Vals ys us ∧ ∀ ρ H, VRels K ρ H vs ys
  | [], us, h => by
    unfold consB at h
    split at h
    · exact ⟨[], .nil, fun _ _ => .nil⟩
    · cases h
  | v :: vs, us, h => by
    unfold consB at h
    split at h
    · obtain ⟨h1, h2⟩ := He.ba h
      obtain ⟨y, r, k⟩ := conB_ok v _ h1
      obtain ⟨ys, rs, ks⟩ := consB_ok vs _ h2
      exact ⟨y :: ys, .cons r rs, fun ρ H => .cons (k ρ H) (ks ρ H)⟩
    · cases h
end
def conAt (K : PySem.W.Frag) (x : String) (v : Val) : Bool := match PySem.W.nsIn K mainGlobals (Str.ofString x) with
  | some (some u) => conB K v u
  | _ => false

/-! ### all of it -/
def ownNames (T : Tb) : List String := ((T.fns.filter fun p => p.1.1 == "").map fun p => p.1.2) ++ T.cls.map (·.1)
def noList (K : PySem.W.Frag) : Bool := K.all fun p => !(p.2.cls == .type "list")
def factsB (T : Tb) (K : PySem.W.Frag) : Bool :=
  ((ownNames T).all fun g => He.Fa.ok K (.glo (Str.ofString g)) && He.Fa.ok K (.keep (Str.ofString g))) && ((T.con.all fun p => conAt K p.1 p.2) && ((freeNames.all fun f => He.Fa.ok K (.free (Str.ofString f))) && ((T.cls.all fun p => p.2.exc || clsB K T.pg.cls p.1 p.2) &&
  (He.eqO (PySem.W.specialIn K (.builtin "object.__class__") "__get__") (some (some (.builtin "getset_descriptor.__get__"))) && (decide (PySem.W.takesIn K (.builtin "object.__class__") = some true) &&
  ((T.kinds.all fun a => T.kinds.all fun b => decide (PySem.W.kitOne K (tyVal K (cxAt T.pg 0) a) (tyVal K (cxAt T.pg 0) b) = some (isa (cxAt T.pg 0) a b))) && ((["NoneType", "bool", "int", "str", "tuple", "list", "dict"].all fun a => (T.pg.cls a).isNone) && noList K)))))))
theorem facts_ok {T : Tb} {K : PySem.W.Frag} {h : PySem.Heap} {mg : Str → Option Value} (X : K.In h) (G : h.Ns mainGlobals mg) (c : factsB T K = true) : Mf K mg T.pg (faOf K T.pg.cls) := by
  obtain ⟨h1, c⟩ := He.ba c
  obtain ⟨h2, c⟩ := He.ba c
  obtain ⟨h3, c⟩ := He.ba c
  obtain ⟨h4, c⟩ := He.ba c
  obtain ⟨h5, c⟩ := He.ba c
  obtain ⟨h6, c⟩ := He.ba c
  obtain ⟨h7, c⟩ := He.ba c
  obtain ⟨h8, h9⟩ := He.ba c
  have own : ∀ g, (T.pg.fns g || (T.pg.cls g).isSome) = true → mg (Str.ofString g) = some (.ref (ca K g)) ∧ PySem.W.keepIn K (.ref (ca K g)) = true := fun g hg => by
    have hm : g ∈ ownNames T := by
      unfold ownNames
      rw [List.mem_append]
      rcases Bool.or_eq_true_iff.mp hg with hg | hg
      · obtain ⟨f, hf⟩ := Option.isSome_iff_exists.mp hg
        exact .inl (List.mem_map.mpr ⟨(("", g), f), List.mem_filter.mpr ⟨lookup_mem hf, rfl⟩, rfl⟩)
      · obtain ⟨f, hf⟩ := Option.isSome_iff_exists.mp hg
        exact .inr (List.mem_map.mpr ⟨(g, f), lookup_mem hf, rfl⟩)
    obtain ⟨q1, q2⟩ := He.ba (List.all_eq_true.mp h1 g hm)
    exact ⟨He.glo_ok X G q1, He.keep_ok q2⟩
  refine ⟨fun g _ => ?_, fun g hg => ?_, fun C cc hc hne => ?_, He.eqO_ok h5, of_decide_eq_true h6, fun a b ha hb => ?_, fun a ha => ?_, ⟨fun g hg => (own g hg).1, fun g v hv => ?_, fun f hf => ?_⟩⟩
  · unfold faOf
    rw [if_pos rfl]
  · refine (own g ?_).2
    rcases hg with hg | ⟨cc, hg⟩
    · rw [hg, Bool.true_or]
    · rw [hg, Option.isSome_some, Bool.or_true]
  · have q := List.all_eq_true.mp h4 (C, cc) (lookup_mem hc)
    rcases Bool.or_eq_true_iff.mp q with q | q
    · rw [hne] at q; cases q
    · exact clsB_ok hc q
  · exact of_decide_eq_true (List.all_eq_true.mp (List.all_eq_true.mp h7 a (by simpa using (show T.kinds.contains a = true from ha))) b (by simpa using (show T.kinds.contains b = true from hb)))
  · exact Option.isNone_iff_eq_none.mp (List.all_eq_true.mp h8 a ha)
  · have q := List.all_eq_true.mp h2 (g, v) (lookup_mem hv)
    have q : (match PySem.W.nsIn K mainGlobals (Str.ofString g) with
      | some (some u) => conB K v u
      | _ => false) = true := q
    split at q
    · rename_i u e
      obtain ⟨y, r, k⟩ := conB_ok v u q
      exact ⟨y, u, PySem.W.mg_of X G e, r, k⟩
    · cases q
  · exact He.free_ok X G (List.all_eq_true.mp h3 f (by simpa using hf))
theorem noList_of {T : Tb} {K : PySem.W.Frag} (c : factsB T K = true) : noList K = true := by
  obtain ⟨h1, c⟩ := He.ba c
  obtain ⟨h2, c⟩ := He.ba c
  obtain ⟨h3, c⟩ := He.ba c
  obtain ⟨h4, c⟩ := He.ba c
  obtain ⟨h5, c⟩ := He.ba c
  obtain ⟨h6, c⟩ := He.ba c
  obtain ⟨h7, c⟩ := He.ba c
  exact (He.ba c).2
/-! ### the defs -/
def fnAt (K : PySem.W.Frag) (a : Addr) : He.FnW := match K.lookup a with
  | some ⟨_, _, .func fd, _⟩ => some (fd.name, fd.qualname, fd.params, fd.body, fd.scope, fd.globals, fd.closure, fd.builtins)
  | _ => none
def isNoneV : Value → Bool
  | .none => true
  | _ => false
def fnB (K : PySem.W.Frag) (a : Addr) (q : Str) : Bool := PySem.W.keepIn K (.ref a) && (match K.lookup a with
  | some ⟨_, _, .func fd, _⟩ => PySem.W.codeIn K fd.code q && isNoneV fd.defaults
  | _ => false)
def DefE.val (d : DefE) : He.FnW := some (d.name, d.qual, d.params, .stmts d.body, d.scope, mainGlobals, [], builtinsNs)
theorem fn_at {K : PySem.W.Frag} {a : Addr} {d : DefE} (e : fnAt K a = d.val) (c : fnB K a d.qual = true) : ∃ fd, FunD K d.name d.qual d.params d.body d.scope [] [] a fd := by
  obtain ⟨kp, c2⟩ := He.ba c
  unfold fnAt at e
  cases q : K.lookup a with
  | none =>
    rw [q] at c2
    cases c2
  | some o =>
    obtain ⟨oc, od, dt, osl⟩ := o
    rw [q] at c2 e
    cases dt with
    | func fd =>
      obtain ⟨n1, n2, n3, n4, n5, n6, n7, n8, n9, n10, n11, n12, n13, n14, n15⟩ := fd
      have e2 : (some (n1, n2, n3, n4, n5, n6, n7, n15) : He.FnW) = some (d.name, d.qual, d.params, .stmts d.body, d.scope, mainGlobals, [], builtinsNs) := e
      simp only [Option.some.injEq, Prod.mk.injEq] at e2
      obtain ⟨g1, g2, g3, g4, g5, g6, g7, g8⟩ := e2
      subst g1 g2 g3 g4 g5 g6 g7 g8
      have c3 : (PySem.W.codeIn K n13 d.qual && isNoneV n8) = true := c2
      obtain ⟨k1, k2⟩ := He.ba c3
      have k3 : n8 = .none := by
        revert k2
        cases n8 <;> intro z <;> first | rfl | cases z
      subst k3
      exact ⟨_, ⟨oc, od, .none, n9, n10, n11, n12, n13, n14, osl, rfl, q, k1, .inl ⟨rfl, rfl⟩, .inl rfl⟩, kp⟩
    | _ => cases c2
/-! ### the Hook -/
def asS (g : Addr → Option PySem.Obj) : Nat → List Addr
  | 0 => [mainGlobals, cStatics]
  | n + 1 => He.growD g (asS g n)
def obsS (T : Tb) (ds : List DefE) (K : PySem.W.Frag) : Bool × List He.FnW := (factsB T K && ds.all fun d => fnB K (faOf K T.pg.cls d.C d.m) d.qual, ds.map fun d => fnAt K (faOf K T.pg.cls d.C d.m))
def valS (ds : List DefE) : Bool × List He.FnW := (true, ds.map DefE.val)
def hookS (n : Nat) (T : Tb) (ds : List DefE) : PySem.W.Hook where
  α := Bool × List He.FnW
  obs := fun s => obsS T ds (He.frG s.heap.get? (asS s.heap.get? n))
  val := fun _ => valS ds
  says := fun _ h => ∃ K : PySem.W.Frag, K.In h ∧ obsS T ds K = valS ds
  of := fun _ _ e => ⟨_, He.frG_in, e⟩
  keeps := fun _ _ _ ⟨K, hK, c⟩ k => ⟨K, PySem.W.Frag.In.keeps hK k, c⟩
def obT (n : Nat) (T : Tb) (ds : List DefE) (s : PySem.W.SharedT) : Bool × List He.FnW := obsS T ds (He.frG (HandSHeadRun.getT s) (asS (HandSHeadRun.getT s) n))
theorem obT_eq (n : Nat) (T : Tb) (ds : List DefE) (s : PySem.W.SharedT) : obT n T ds s = (hookS n T ds).obs s.abs := by
  have e : HandSHeadRun.getT s = s.abs.heap.get? := funext fun a => HandSHeadRun.getT_eq s a
  unfold obT
  rw [e]
  rfl
/-- all promises of a text whose head is checked -/
theorem all_prom {T : Tb} {ds : List DefE} {prog : Program} {w : World} {K : PySem.W.Frag} {h base : PySem.Heap} {mg mg' : Str → Option Value} (X : K.In h) (G : h.Ns mainGlobals mg) (c : obsS T ds K = valS ds) (hd : ∀ d ∈ ds, defOk T.pg d = true) (ht : T.fns = ds.map fun d => ((d.C, d.m), d.ir)) :
    Mf K mg T.pg (faOf K T.pg.cls) ∧ (∀ d ∈ ds, ∃ fd, FunD K d.name d.qual d.params d.body d.scope [] [] (faOf K T.pg.cls d.C d.m) fd) ∧ ∀ n C m, FnR prog w K mg base L2.CX0 (3 * n) (faOf K T.pg.cls C m) (spF K (cxAt T.pg n) C m) := by
  obtain ⟨c1, c2⟩ := Prod.mk.inj (show (factsB T K && ds.all fun d => fnB K (faOf K T.pg.cls d.C d.m) d.qual, ds.map fun d => fnAt K (faOf K T.pg.cls d.C d.m)) = (true, ds.map DefE.val) from c)
  obtain ⟨c1, c3⟩ := He.ba c1
  have M := facts_ok X G c1
  have D : ∀ d ∈ ds, ∃ fd, FunD K d.name d.qual d.params d.body d.scope [] [] (faOf K T.pg.cls d.C d.m) fd := fun d hm => by
    refine fn_at ?_ (List.all_eq_true.mp c3 d hm)
    exact List.map_inj_left.mp c2 d hm
  refine ⟨M, D, all_ok M (fun d hm => ⟨hd d hm, D d hm⟩) fun C m f hf => ?_⟩
  have hf : T.fns.lookup (C, m) = some f := hf
  have q := lookup_mem hf
  rw [ht, List.mem_map] at q
  obtain ⟨d, hm, e⟩ := q
  cases e
  exact ⟨d, hm, rfl, rfl, rfl⟩
end Sc
end
section
set_option Elab.async false
set_option linter.all false
set_option maxRecDepth 100000
set_option maxHeartbeats 4000000
set_option autoImplicit false
/-! A law, by its evaluator's run. -/
namespace Sc
open PySem PySem.Spec PyProof.Rows L2

theorem vrels_ints {K : PySem.W.Frag} {ρ : List Addr} {H : Hp} : ∀ ns : List Int, VRels K ρ H (ns.map Val.int) (ns.map V.int)
  | [] => .nil
  | n :: ns => .cons (.int n) (vrels_ints ns)
theorem law_walk {l : PySem.W.OpenLaw} {n D : Nat} {q : Program} {loose : List Str} {XP : (Str → Option Value) → PySem.Heap → Prop} {d : DefRec} {T : Tb} {ds : List DefE} {dl : DefE} (hn : l.most = some 63) (hdf : d.params.defaults = []) (hr : Room (3 * (D + 1)) callerA) (hname : d.name = Str.ofString "law")
    (hds : (ds.all fun d => defOk T.pg d) = true) (ht : T.fns = ds.map fun d => ((d.C, d.m), d.ir)) (hl : dl ∈ ds) (hC : dl.C = "") (hm : dl.m = "law") (hps : dl.ir.params = ["_law_script"]) (hfn : T.fns.lookup ("", "law") = some dl.ir)
    (run_ok : ∀ zs : List Int, zs.length ≤ 63 → ∃ g, run T.pg (D + 1) "" "law" [.loc 0] [.fz (zs.map Val.int)] = .ok (.bl true) g) :
    PySem.W.WalkO q loose XP (hookS n T ds).says l.row.toRowW d [] (fun f vs => PySem.call f vs) := by
  refine L2.walk_ofE (l := l) (n := 63) (k := 3 * (D + 1)) (x := Str.ofString "_law_script") (CX := L2.CX0) hn (by rw [sizeLine_eq]; omega) hdf hr ?_ (fun _ _ _ _ z => z)
  intro w mg fa h Y G hmg0
  obtain ⟨K, KX, c⟩ := Y
  have hall : ∀ d ∈ ds, defOk T.pg d = true := fun d hd => List.all_eq_true.mp hds d hd
  obtain ⟨M, DD, _⟩ := all_prom (prog := l.prog) (w := w) (base := h) (mg' := mg) KX G c hall ht
  obtain ⟨fd, FD⟩ := DD dl hl
  have hf : T.pg.fns "law" = true := by
    show (T.fns.lookup ("", "law")).isSome = true
    rw [hfn]; rfl
  have e1 := M.g.own "law" (by rw [hf, Bool.true_or])
  rw [hname] at hmg0
  have e2 : fa = ca K "law" := by
    have := hmg0.symm.trans e1
    cases this
    rfl
  subst e2
  have ea : faOf K T.pg.cls dl.C dl.m = ca K "law" := by
    rw [hC, hm]
    unfold faOf
    rw [if_pos rfl]
  have ok := hall dl hl
  have ok2 := ok
  unfold defOk at ok2
  rw [Bool.and_eq_true, Bool.and_eq_true, Bool.and_eq_true, Bool.and_eq_true] at ok2
  obtain ⟨⟨⟨⟨h1, h2⟩, h3⟩, h4⟩, h5⟩ := ok2
  have hpn : paramsN dl.ir = [Str.ofString "_law_script"] := by
    unfold paramsN
    rw [hps]; rfl
  have hpp : dl.params.args.map (·.arg) = [Str.ofString "_law_script"] := (of_decide_eq_true h2).trans hpn
  refine ⟨K, fd, spB K T.pg D dl.ir, KX, fun s u => ?_, fun H a ns hlen hO hS => ?_, fun base KB GB => ?_⟩
  · unfold plainP at h1
    simp only [Bool.and_eq_true, List.isEmpty_iff, Option.isNone_iff_eq_none] at h1
    obtain ⟨⟨⟨⟨p1, p2⟩, p3⟩, p4⟩, p5⟩ := h1
    have b := FD.bindsA (ps := [Str.ofString "_law_script"]) (fun kV doc pm an cdv ct us hu => by
      rw [← hpp] at hu ⊢
      exact bind_none p1 p2 p3 p4 (by rw [hpp]; simp) hu)
    exact b s [u] rfl
  · have hz : ∃ o xs, H a = some (.frz o (.lst xs)) ∧ xs = ns.map V.int := by
      have hnl := noList_of (show factsB T K = true from (He.ba (Prod.mk.inj (show (factsB T K && ds.all fun d => fnB K (faOf K T.pg.cls d.C d.m) d.qual, ds.map fun d => fnAt K (faOf K T.pg.cls d.C d.m)) = (true, ds.map DefE.val) from c)).1).1)
      rcases hS with (hS | ⟨o, hS⟩) | ⟨o, its, m, lk, hcl, _⟩
      · rcases hO a with z | ⟨o, xs, z⟩
        · rw [z] at hS; cases hS
        · rw [z] at hS; cases hS
      · exact ⟨o, _, hS, rfl⟩
      · unfold noList at hnl
        have q := List.all_eq_true.mp hnl (a, o) (lookup_mem lk)
        rw [hcl] at q
        exact absurd q (by decide)
    obtain ⟨o, xs, hz, rfl⟩ := hz
    obtain ⟨g, hg⟩ := run_ok ns hlen
    have hfn2 : T.pg.fn "" "law" = some dl.ir := hfn
    have hg : (match T.pg.fn "" "law" with
      | none => Sc.R.no
      | some f => if [Val.loc 0].length + f.defs.length < f.params.length ∨ f.params.length < [Val.loc 0].length then .no else
        (evB (cxAt T.pg D) f.body (startE f ([Val.loc 0] ++ f.defs.drop (f.defs.length - (f.params.length - [Val.loc 0].length)))) [.fz (ns.map Val.int)]).bind fun fl h1 => match fl with
          | .rt v => .ok v h1
          | .nx _ => .ok .non h1
          | .bk _ => .no) = .ok (.bl true) g := hg
    rw [hfn2] at hg
    dsimp only at hg
    have hde : dl.ir.defs = [] := List.isEmpty_iff.mp h3
    rw [hps, hde, if_neg (by simp)] at hg
    have hg : (evB (cxAt T.pg D) dl.ir.body (startE dl.ir [Val.loc 0]) [.fz (ns.map Val.int)]).bind (fun fl h1 => match fl with
          | .rt v => .ok v h1
          | .nx _ => .ok .non h1
          | .bk _ => .no) = .ok (.bl true) g := hg
    refine ⟨[a], [.fz (ns.map Val.int)], [.loc 0], ⟨rfl, by simp, fun k u b e1 e2 => ?_⟩, .cons (.loc rfl) .nil, by rw [hps]; rfl, ?_⟩
    · cases k with
      | zero =>
        cases e1
        cases e2
        exact ⟨o, _, hz, vrels_ints ns⟩
      | succ k => simp at e1
    · refine Eq.mpr (congrArg (fun r => Sat r (Post K [a] H fun v _ => v = V.bl true) (Sc.XP K (fun _ _ _ => False) [a] H)) hg) ?_
      exact fun ρ' H' x e R w => w.bl
  · obtain ⟨M2, DD2, prom⟩ := all_prom (prog := l.prog) (w := w) (base := base) (mg' := mg) KB GB c hall ht
    have G2 := def_ok (prog := l.prog) (w := w) (base := base) ok M2 (prom D) FD
    rw [ea, hpn] at G2
    exact G2
end Sc
end
section
set_option Elab.async false
set_option linter.all false
set_option maxRecDepth 100000
set_option maxHeartbeats 4000000
set_option autoImplicit false
/-! What a run comes to: plain rules for the evaluator. -/
namespace Sc
open PySem

def Ok {α : Type} (r : R α) (P : α → Heap → Prop) : Prop := match r with
  | .ok a h => P a h
  | _ => False
theorem Ok.mono {α : Type} {r : R α} {P Q : α → Heap → Prop} (h : Ok r P) (f : ∀ a g, P a g → Q a g) : Ok r Q := by
  cases r with
  | ok a g => exact f a g h
  | ex => exact h
  | no => exact h
theorem Ok.eq {α : Type} {r : R α} {P : α → Heap → Prop} (h : Ok r P) : ∃ a g, r = .ok a g ∧ P a g := by
  cases r with
  | ok a g => exact ⟨a, g, rfl, h⟩
  | ex => exact h.elim
  | no => exact h.elim
theorem ok_ok {α : Type} (a : α) (g : Heap) (P : α → Heap → Prop) : Ok (.ok a g) P = P a g := rfl
theorem ok_no {α : Type} (P : α → Heap → Prop) : Ok (.no : R α) P = False := rfl
theorem ok_bind {α β : Type} (r : R α) (f : α → Heap → R β) (P : β → Heap → Prop) : Ok (r.bind f) P = Ok r fun a g => Ok (f a g) P := by
  cases r <;> rfl
theorem ok_nox {α : Type} (r : R α) (P : α → Heap → Prop) : Ok r.nox P = Ok r P := by
  cases r <;> rfl
theorem ok_some {α : Type} (a : α) (g : Heap) (P : α → Heap → Prop) : Ok (ofOpt (some a) g) P = P a g := rfl
theorem ok_none {α : Type} (g : Heap) (P : α → Heap → Prop) : Ok (ofOpt (none : Option α) g) P = False := rfl

/-! ### expressions -/
section
variable {cx : Cx} {e : Env} {h : Heap}
variable (P : Val → Heap → Prop)
theorem ok_v (i : Nat) : Ok (evE cx (.v i) e h) P = (match e[i]? with | some (some v) => P v h | _ => False) := by
  simp only [evE]; rcases e[i]? with _ | _ | v <;> rfl
theorem ok_con (v : Val) : Ok (evE cx (.con v) e h) P = P v h := by simp only [evE, Ok]
theorem ok_glob (x : String) : Ok (evE cx (.glob x) e h) P = Ok (ofOpt (cx.con x) h) P := by simp only [evE]
theorem ok_bin (op : Bop) (a b : Ex) : Ok (evE cx (.bin op a b) e h) P = Ok (evE cx a e h) fun x h1 => Ok (evE cx b e h1) fun y h2 => Ok (binE cx op x y h2) P := by simp only [evE, ok_bind]
theorem ok_neg (a : Ex) : Ok (evE cx (.neg a) e h) P = Ok (evE cx a e h) fun x h1 => match x with | .int i => P (.int (-i)) h1 | _ => False := by
  simp only [evE, ok_bind]; congr 1; funext x h1; cases x <;> rfl
theorem ok_inv (a : Ex) : Ok (evE cx (.inv a) e h) P = Ok (evE cx a e h) fun x h1 => match insOf h1 x with | some (C, _) => Ok (callM cx C "__invert__" [x] h1) P | none => False := by
  simp only [evE, ok_bind]; congr 1; funext x h1; cases insOf h1 x <;> rfl
theorem ok_not (a : Ex) : Ok (evE cx (.not a) e h) P = Ok (evE cx a e h) fun x h1 => Ok (ofOpt (truth h1 x) h1) fun b h2 => P (.bl (!b)) h2 := by
  simp only [evE, ok_bind]; congr 1; funext x h1; cases truth h1 x <;> rfl
theorem ok_and (a b : Ex) : Ok (evE cx (.and a b) e h) P = Ok (evE cx a e h) fun x h1 => Ok (ofOpt (truth h1 x) h1) fun c h2 => if c = true then Ok (evE cx b e h2) P else P x h2 := by
  simp only [evE, ok_bind]; congr 1; funext x h1; congr 1; funext c h2; cases c <;> rfl
theorem ok_or (a b : Ex) : Ok (evE cx (.or a b) e h) P = Ok (evE cx a e h) fun x h1 => Ok (ofOpt (truth h1 x) h1) fun c h2 => if c = true then P x h2 else Ok (evE cx b e h2) P := by
  simp only [evE, ok_bind]; congr 1; funext x h1; congr 1; funext c h2; cases c <;> rfl
theorem ok_cmp (op : Cop) (a b : Ex) : Ok (evE cx (.cmp op a b) e h) P = Ok (evE cx a e h) fun x h1 => Ok (evE cx b e h1) fun y h2 => Ok (cmpE cx op x y h2) P := by simp only [evE, ok_bind]
theorem ok_cmp2 (op op' : Cop) (a b c : Ex) : Ok (evE cx (.cmp2 op op' a b c) e h) P = Ok (evE cx a e h) fun x h1 => Ok (evE cx b e h1) fun y h2 => Ok (ofOpt (cmp op x y h2) h2) fun t h3 => if t = true then Ok (evE cx c e h3) fun z h4 => Ok (ofOpt (cmp op' y z h4) h4) fun b h5 => P (.bl b) h5 else P (.bl false) h3 := by
  simp only [evE, ok_bind]; congr 1; funext x h1; congr 1; funext y h2; congr 1; funext t h3
  cases t
  · rfl
  · simp only [if_true, ok_bind]; congr 1; funext z h4; cases cmp op' y z h4 <;> rfl
theorem ok_ite (t a b : Ex) : Ok (evE cx (.ite t a b) e h) P = Ok (evE cx t e h) fun x h1 => Ok (ofOpt (truth h1 x) h1) fun c h2 => if c = true then Ok (evE cx a e h2) P else Ok (evE cx b e h2) P := by
  simp only [evE, ok_bind]; congr 1; funext x h1; congr 1; funext c h2; cases c <;> rfl
theorem ok_lst (es : Its) : Ok (evE cx (.lst es) e h) P = Ok (evI cx es e h) fun vs h1 => vs.length ≤ lim ∧ P (.tl vs) h1 := by
  simp only [evE, ok_bind]; congr 1; funext vs h1; by_cases c : vs.length ≤ lim <;> simp [c, Ok]
theorem ok_tup (es : Its) : Ok (evE cx (.tup es) e h) P = Ok (evI cx es e h) fun vs h1 => vs.length ≤ lim ∧ P (.tup vs) h1 := by
  simp only [evE, ok_bind]; congr 1; funext vs h1; by_cases c : vs.length ≤ lim <;> simp [c, Ok]
theorem ok_dct (ks vs : Its) : Ok (evE cx (.dct ks vs) e h) P = Ok (evI cx ks e h) fun ks h1 => Ok (evI cx vs e h1) fun vs h2 => P (.loc h2.length) (h2 ++ [.dct ((ks.zip vs).foldl (fun d p => putD d p.1 p.2) [])]) := by
  simp only [evE, ok_bind, ok_ok]
theorem ok_sub (a i : Ex) : Ok (evE cx (.sub a i) e h) P = Ok (evE cx a e h) fun x h1 => Ok (evE cx i e h1) fun y h2 => Ok (ofOpt (subV x y h2) h2) P := by simp only [evE, ok_bind]
theorem ok_slc (a : Ex) (lo hi : Op) : Ok (evE cx (.slc a lo hi) e h) P = Ok (evE cx a e h) fun x h1 => Ok (evO cx lo e h1) fun l h2 => Ok (evO cx hi e h2) fun u h3 => match optInt l, optInt u with | some l, some u => Ok (ofOpt (cutV x l u h3) h3) P | _, _ => False := by
  simp only [evE, ok_bind]; congr 1; funext x h1; congr 1; funext l h2; congr 1; funext u h3
  cases optInt l <;> cases optInt u <;> rfl
theorem ok_attr (a : Ex) (f : String) : Ok (evE cx (.attr a f) e h) P = Ok (evE cx a e h) fun x h1 => Ok (attrE cx f x h1) P := by simp only [evE, ok_bind]
theorem ok_call (f : String) (es : Its) : Ok (evE cx (.call f es) e h) P = Ok (evI cx es e h) fun vs h1 => Ok (callG cx f vs h1) P := by simp only [evE, ok_bind]
theorem ok_callv (f : Ex) (es : Its) : Ok (evE cx (.callv f es) e h) P = Ok (evE cx f e h) fun x h1 => match calleeE cx x h1 with | some k => Ok (evI cx es e h1) fun vs h2 => Ok (k vs h2) P | none => False := by
  simp only [evE, ok_bind]; congr 1; funext x h1; cases calleeE cx x h1 with
  | none => rfl
  | some k => simp only [ok_bind]
theorem ok_meth (o : Ex) (m : String) (es : Its) : Ok (evE cx (.meth o m es) e h) P = Ok (evE cx o e h) fun x h1 => match recvE cx m x h1 with | some k => Ok (evI cx es e h1) fun vs h2 => Ok (k vs h2) P | none => False := by
  simp only [evE, ok_bind]; congr 1; funext x h1; cases recvE cx m x h1 with
  | none => rfl
  | some k => simp only [ok_bind]
theorem ok_repl (o : Ex) (y z : Str) : Ok (evE cx (.repl o y z) e h) P = Ok (evE cx o e h) fun x h1 => match x with | .str x => Ok (ofOpt (mReplace x y z) h1) P | _ => False := by
  simp only [evE, ok_bind]; congr 1; funext x h1; cases x <;> rfl
theorem ok_bi (f : String) (es : Its) : Ok (evE cx (.bi f es) e h) P = Ok (evR cx es e h) fun vs h1 => Ok (biE cx f vs h1) P := by simp only [evE, ok_bind]
theorem ok_isi (a : Ex) (ts : List String) : Ok (evE cx (.isi a ts) e h) P = Ok (evE cx a e h) fun x h1 => Ok (isE cx ts x h1) P := by simp only [evE, ok_bind]
theorem ok_fstr (ps : List Fp) : Ok (evE cx (.fstr ps) e h) P = Ok (ofOpt (fstrE e ps Str.empty) h) fun x h1 => P (.str x) h1 := by
  simp only [evE]; cases fstrE e ps Str.empty <;> rfl
/-- [el for t in s if ..] -/
theorem ok_lc1 (el : Ex) (t : Tg) (s : Src) (irs : Its) : Ok (evE cx (.lc el (.gen t s irs .nil)) e h) P = Ok (evSrc cx s e h) fun w h1 => Ok (loopL w (fun x h2 => match asg t x (wipeE e t.slots) with
    | some e1 => (evT cx irs e1 h2).bind fun b h3 => if b then (evE cx el e1 h3).bind fun v h1 => (box v h1).bind fun v h2 => .ok [v] h2 else .ok [] h3
    | none => .no) w.items h1) fun vs h2 => vs.length ≤ lim ∧ P (.tl vs) h2 := by
  have e1 : (Gens.gen t s irs .nil).slots = t.slots := List.append_nil _
  simp only [evE, evG, ok_bind, ok_nox, e1]
  congr 1; funext w h1; congr 1; funext vs h2; by_cases c : vs.length ≤ lim <;> simp [c, Ok]
end
section
variable {cx : Cx} {e : Env} {h : Heap}
theorem oki_nil (P : List Val → Heap → Prop) : Ok (evI cx .nil e h) P = P [] h := by simp only [evI, Ok]
theorem oki_cons (a : Ex) (r : Its) (P : List Val → Heap → Prop) : Ok (evI cx (.cons a r) e h) P = Ok (evE cx a e h) fun x h1 => Ok (box x h1) fun x h2 => Ok (evI cx r e h2) fun xs h3 => P (x :: xs) h3 := by simp only [evI, ok_bind, ok_ok]
theorem oki_star (a : Ex) (r : Its) (P : List Val → Heap → Prop) : Ok (evI cx (.star a r) e h) P = Ok (evE cx a e h) fun x h1 => match seqOf h1 x with | some ys => Ok (evI cx r e h1) fun xs h2 => P (ys ++ xs) h2 | none => False := by
  simp only [evI, ok_bind]; congr 1; funext x h1; cases seqOf h1 x with
  | none => rfl
  | some ys => simp only [ok_bind, ok_ok]
theorem okr_nil (P : List Val → Heap → Prop) : Ok (evR cx .nil e h) P = P [] h := by simp only [evR, Ok]
theorem okr_cons (a : Ex) (r : Its) (P : List Val → Heap → Prop) : Ok (evR cx (.cons a r) e h) P = Ok (evE cx a e h) fun x h1 => Ok (evR cx r e h1) fun xs h2 => P (x :: xs) h2 := by simp only [evR, ok_bind, ok_ok]
theorem oko_none (P : Option Val → Heap → Prop) : Ok (evO cx .none e h) P = P none h := by simp only [evO, Ok]
theorem oko_some (a : Ex) (P : Option Val → Heap → Prop) : Ok (evO cx (.some a) e h) P = Ok (evE cx a e h) fun x h1 => P (some x) h1 := by simp only [evO, ok_bind, ok_ok]
theorem oks_it (a : Ex) (P : Walk → Heap → Prop) : Ok (evSrc cx (.it a) e h) P = Ok (evE cx a e h) fun x h1 => Ok (ofOpt (itE x h1) h1) P := by simp only [evSrc, ok_bind]
theorem oks_rng1 (a : Ex) (P : Walk → Heap → Prop) : Ok (evSrc cx (.rng1 a) e h) P = Ok (evE cx a e h) fun x h1 => Ok (ofOpt (rng1E x) h1) P := by simp only [evSrc, ok_bind]
theorem oks_rng2 (a b : Ex) (P : Walk → Heap → Prop) : Ok (evSrc cx (.rng2 a b) e h) P = Ok (evE cx a e h) fun x h1 => Ok (evE cx b e h1) fun y h2 => Ok (ofOpt (rng2E x y) h2) P := by simp only [evSrc, ok_bind]
theorem oks_enum (a : Ex) (P : Walk → Heap → Prop) : Ok (evSrc cx (.enum a) e h) P = Ok (evE cx a e h) fun x h1 => Ok (ofOpt (enumE x h1) h1) P := by simp only [evSrc, ok_bind]
theorem oks_zip (a b : Ex) (P : Walk → Heap → Prop) : Ok (evSrc cx (.zip a b) e h) P = Ok (evE cx a e h) fun x h1 => Ok (evE cx b e h1) fun y h2 => Ok (ofOpt (zipE x y h2) h2) P := by simp only [evSrc, ok_bind]
theorem okt_nil (P : Bool → Heap → Prop) : Ok (evT cx .nil e h) P = P true h := by simp only [evT, Ok]
theorem okt_cons (a : Ex) (r : Its) (P : Bool → Heap → Prop) : Ok (evT cx (.cons a r) e h) P = Ok (evE cx a e h) fun x h1 => Ok (ofOpt (truth h1 x) h1) fun b h2 => if b = true then Ok (evT cx r e h2) P else P false h2 := by
  simp only [evT, ok_bind]; congr 1; funext x h1; congr 1; funext b h2; cases b <;> rfl
theorem ok_test (t : Ex) (P : Bool → Heap → Prop) : Ok (test cx t e h) P = Ok (evE cx t e h) fun x h1 => Ok (ofOpt (truth h1 x) h1) P := by simp only [test, ok_bind]
/-! ### statements -/
theorem okb_nil (P : Fl → Heap → Prop) : Ok (evB cx [] e h) P = P (.nx e) h := by simp only [evB, Ok]
theorem okb_cons (s : St) (r : List St) (P : Fl → Heap → Prop) : Ok (evB cx (s :: r) e h) P = Ok (evS cx s e h) fun fl h1 => match fl with | .nx e1 => Ok (evB cx r e1 h1) P | .rt v => P (.rt v) h1 | .bk e1 => P (.bk e1) h1 := by
  simp only [evB, ok_bind]; congr 1; funext fl h1; cases fl <;> rfl
theorem okst_set (i : Nat) (a : Ex) (P : Fl → Heap → Prop) : Ok (evS cx (.set i a) e h) P = Ok (evE cx a e h) fun x h1 => Ok (box x h1) fun x h2 => P (.nx (e.set i (some x))) h2 := by simp only [evS, ok_bind, ok_ok]
theorem okst_sets (ts : List Tg) (a : Ex) (P : Fl → Heap → Prop) : Ok (evS cx (.sets ts a) e h) P = Ok (evE cx a e h) fun x h1 => match asg (.vs ts) x e with | some e1 => P (.nx e1) h1 | none => False := by
  simp only [evS, ok_bind]; congr 1; funext x h1; cases asg (.vs ts) x e <;> rfl
theorem okst_setI (o i a : Ex) (P : Fl → Heap → Prop) : Ok (evS cx (.setI o i a) e h) P = Ok (evE cx a e h) fun x h1 => Ok (box x h1) fun x h2 => Ok (evE cx o e h2) fun o h3 => Ok (evE cx i e h3) fun i h4 => match setIE o i x h4 with | some h5 => P (.nx e) h5 | none => False := by
  simp only [evS, ok_bind]; congr 1; funext x h1; congr 1; funext x h2; congr 1; funext o h3; congr 1; funext i h4; cases setIE o i x h4 <;> rfl
theorem okst_setA (o : Ex) (f : String) (a : Ex) (P : Fl → Heap → Prop) : Ok (evS cx (.setA o f a) e h) P = Ok (evE cx a e h) fun x h1 => Ok (box x h1) fun x h2 => Ok (evE cx o e h2) fun o h3 => match setAE cx o f x h3 with | some h4 => P (.nx e) h4 | none => False := by
  simp only [evS, ok_bind]; congr 1; funext x h1; congr 1; funext x h2; congr 1; funext o h3; cases setAE cx o f x h3 <;> rfl
theorem okst_aug (op : Bop) (i : Nat) (a : Ex) (P : Fl → Heap → Prop) : Ok (evS cx (.aug op i a) e h) P = (match e[i]? with | some (some y) => Ok (evE cx a e h) fun x h1 => Ok (ofOpt (augE op y x) h1) fun z h2 => P (.nx (e.set i (some z))) h2 | _ => False) := by
  simp only [evS]; rcases e[i]? with _ | _ | v
  · rfl
  · rfl
  · simp only [ok_bind, ok_ok]
theorem okst_ex (a : Ex) (P : Fl → Heap → Prop) : Ok (evS cx (.ex a) e h) P = Ok (evE cx a e h) fun _ h1 => P (.nx e) h1 := by simp only [evS, ok_bind, ok_ok]
theorem okst_ret (a : Ex) (P : Fl → Heap → Prop) : Ok (evS cx (.ret a) e h) P = Ok (evE cx a e h) fun x h1 => P (.rt x) h1 := by simp only [evS, ok_bind, ok_ok]
theorem okst_ifs (t : Ex) (a b : List St) (P : Fl → Heap → Prop) : Ok (evS cx (.ifs t a b) e h) P = Ok (test cx t e h) fun c h1 => if c = true then Ok (evB cx a e h1) P else Ok (evB cx b e h1) P := by
  simp only [evS, ok_bind]; congr 1; funext c h1; cases c <;> rfl
theorem okst_for (t : Tg) (s : Src) (body : List St) (P : Fl → Heap → Prop) : Ok (evS cx (.for_ t s body) e h) P = Ok (evSrc cx s e h) fun w h1 => Ok (loopS w (fun x e h2 => match asg t x e with | some e1 => evB cx body e1 h2 | none => .no) w.items e h1) P := by simp only [evS, ok_bind] <;> rfl
theorem okst_while (t : Ex) (body : List St) (P : Fl → Heap → Prop) : Ok (evS cx (.while_ t body) e h) P = Ok (loopW (test cx t) (evB cx body) whileMost e h) P := by simp only [evS]
theorem okst_brk (P : Fl → Heap → Prop) : Ok (evS cx .brk e h) P = P (.bk e) h := by simp only [evS, Ok]
theorem okst_pass (P : Fl → Heap → Prop) : Ok (evS cx .pass e h) P = P (.nx e) h := by simp only [evS, Ok]
end

/-! ### loops -/
theorem ok_loopL {w : Walk} {f : Val → Heap → R (List Val)} (I : List Val → List Val → Heap → Prop) (hst : ∀ d r a h, w.items = d ++ r → I d a h → w.stays h = true) (step : ∀ d x r a h, w.items = d ++ x :: r → I d a h → Ok (f x h) fun b h1 => I (d ++ [x]) (a ++ b) h1) :
    ∀ (r d a : List Val) (h : Heap) (P : List Val → Heap → Prop), w.items = d ++ r → I d a h → (∀ b h1, I w.items (a ++ b) h1 → P b h1) → Ok (loopL w f r h) P
  | [], d, a, h, P, e, i, k => by
    unfold loopL
    rw [if_pos (hst d [] a h e i)]
    refine k [] h ?_
    rw [List.append_nil] at e
    rw [e, List.append_nil]
    exact i
  | x :: r, d, a, h, P, e, i, k => by
    unfold loopL
    rw [if_pos (hst d _ a h e i), ok_bind]
    refine (step d x r a h e i).mono fun b h1 i1 => ?_
    rw [ok_bind]
    refine ok_loopL I hst step r (d ++ [x]) (a ++ b) h1 _ (by rw [e]; simp) i1 fun c h2 i2 => ?_
    rw [ok_ok]
    refine k (b ++ c) h2 ?_
    rw [← List.append_assoc]
    exact i2
/-- a comprehension that changes nothing -/
theorem loopL_pure {w : Walk} {f : Val → Heap → R (List Val)} {h : Heap} (g : Val → List Val) (hst : w.stays h = true) : ∀ r : List Val, (∀ x ∈ r, f x h = .ok (g x) h) → loopL w f r h = .ok (r.flatMap g) h
  | [], _ => by unfold loopL; rw [if_pos hst]; rfl
  | x :: r, hf => by
    unfold loopL
    rw [if_pos hst, hf x (List.mem_cons_self ..)]
    show ((loopL w f r h).bind fun b h2 => R.ok (g x ++ b) h2) = _
    rw [loopL_pure g hst r fun y hy => hf y (List.mem_cons_of_mem _ hy)]
    rfl
theorem ok_loopS {w : Walk} {f : Val → Env → Heap → R Fl} {P : Fl → Heap → Prop} (I : List Val → Env → Heap → Prop) (hst : ∀ d r e h, w.items = d ++ r → I d e h → w.stays h = true)
    (step : ∀ d x r e h, w.items = d ++ x :: r → I d e h → Ok (f x e h) fun fl h1 => match fl with | .nx e1 => I (d ++ [x]) e1 h1 | .bk e1 => P (.nx e1) h1 | .rt v => P (.rt v) h1) (fin : ∀ e h, I w.items e h → P (.nx e) h) :
    ∀ (r d : List Val) (e : Env) (h : Heap), w.items = d ++ r → I d e h → Ok (loopS w f r e h) P
  | [], d, e, h, q, i => by
    unfold loopS
    rw [if_pos (hst d [] e h q i)]
    rw [List.append_nil] at q
    subst q
    exact fin e h i
  | x :: r, d, e, h, q, i => by
    unfold loopS
    rw [if_pos (hst d _ e h q i), ok_bind]
    refine (step d x r e h q i).mono fun fl h1 k => ?_
    cases fl with
    | nx e1 => exact ok_loopS I hst step fin r (d ++ [x]) e1 h1 (by rw [q]; simp) k
    | bk e1 => exact k
    | rt v => exact k
theorem ok_loopW {t : Env → Heap → R Bool} {f : Env → Heap → R Fl} {P : Fl → Heap → Prop} (I : Nat → Env → Heap → Prop)
    (step : ∀ m e h, I m e h → Ok (t e h) fun b h1 => if b = true then Ok (f e h1) fun fl h2 => match fl with | .nx e1 => ∃ m', m' < m ∧ I m' e1 h2 | .bk e1 => P (.nx e1) h2 | .rt v => P (.rt v) h2 else P (.nx e) h1) :
    ∀ (n m : Nat) (e : Env) (h : Heap), m < n → I m e h → Ok (loopW t f n e h) P
  | 0, m, _, _, hm, _ => by omega
  | n + 1, m, e, h, hm, i => by
    unfold loopW
    rw [ok_bind]
    refine (step m e h i).mono fun b h1 k => ?_
    cases b with
    | false =>
      rw [if_neg Bool.false_ne_true] at k
      exact k
    | true =>
      rw [if_pos rfl] at k
      rw [if_pos rfl, ok_bind]
      refine k.mono fun fl h2 k => ?_
      cases fl with
      | nx e1 =>
        obtain ⟨m', h1, i1⟩ := k
        exact ok_loopW I step n m' e1 h2 (by omega) i1
      | bk e1 => exact k
      | rt v => exact k

/-! ### calls -/
abbrev cxD (P : Pg) (d : Nat) : Cx := ⟨run P d, P.con, P.cls, P.fns, P.kinds⟩
/-- what is wanted of a value, of a def's end -/
def RetP (Q : Val → Heap → Prop) : Fl → Heap → Prop
  | .rt v, h => Q v h
  | .nx _, h => Q .non h
  | .bk _, _ => False
theorem retP_rt (Q : Val → Heap → Prop) (v : Val) (h : Heap) : RetP Q (.rt v) h = Q v h := id rfl
theorem retP_nx (Q : Val → Heap → Prop) (e : Env) (h : Heap) : RetP Q (.nx e) h = Q .non h := id rfl
theorem ok_run {P : Pg} {d : Nat} {C m : String} {f : FnI} {vs : List Val} {h : Heap} {Q : Val → Heap → Prop} (hf : P.fn C m = some f) (hl : vs.length = f.params.length) (k : Ok (evB (cxD P d) f.body (startE f vs) h) (RetP Q)) : Ok (run P (d + 1) C m vs h) Q := by
  unfold run
  rw [hf]
  dsimp only
  have c : ¬ (vs.length + f.defs.length < f.params.length ∨ f.params.length < vs.length) := by omega
  rw [if_neg c, ok_bind]
  have e : vs ++ f.defs.drop (f.defs.length - (f.params.length - vs.length)) = vs := by
    rw [hl, Nat.sub_self, Nat.sub_zero, List.drop_length, List.append_nil]
  rw [e]
  refine k.mono fun fl h1 z => ?_
  cases fl <;> exact z
end Sc
end
section
set_option Elab.async false
set_option linter.all false
set_option maxRecDepth 100000
set_option maxHeartbeats 4000000
set_option autoImplicit false
/-! Values: what single operations come to. -/
namespace Sc
open PySem

theorem box_non (h : Heap) (P : Val → Heap → Prop) : Ok (box .non h) P = P .non h := rfl
theorem box_bl (b : Bool) (h : Heap) (P : Val → Heap → Prop) : Ok (box (.bl b) h) P = P (.bl b) h := rfl
theorem box_int (b : Int) (h : Heap) (P : Val → Heap → Prop) : Ok (box (.int b) h) P = P (.int b) h := rfl
theorem box_str (b : Str) (h : Heap) (P : Val → Heap → Prop) : Ok (box (.str b) h) P = P (.str b) h := rfl
theorem box_glb (b : String) (h : Heap) (P : Val → Heap → Prop) : Ok (box (.glb b) h) P = P (.glb b) h := rfl
theorem box_tup (b : List Val) (h : Heap) (P : Val → Heap → Prop) : Ok (box (.tup b) h) P = P (.tup b) h := rfl
theorem box_tuq (b : List Val) (h : Heap) (P : Val → Heap → Prop) : Ok (box (.tuq b) h) P = P (.tuq b) h := rfl
theorem box_loc (b : Nat) (h : Heap) (P : Val → Heap → Prop) : Ok (box (.loc b) h) P = P (.loc b) h := rfl
theorem box_tl (b : List Val) (h : Heap) (P : Val → Heap → Prop) : Ok (box (.tl b) h) P = P (.loc h.length) (h ++ [.lst b]) := rfl

theorem ixN_nat {n i : Nat} (h : i < n) : L2.ixN n (i : Int) = some i := by
  unfold L2.ixN
  split <;> first | omega | (split <;> first | omega | simp)
section
variable {cx : Cx} {h : Heap} {n : Nat}
theorem subV_lst {vs : List Val} (hn : h[n]? = some (.lst vs)) (k : Int) : subV (.loc n) (.int k) h = (ixOf vs.length k).bind (vs[·]?) := by
  unfold subV; simp only [hn]
theorem listOf_lst {vs : List Val} (hn : h[n]? = some (.lst vs)) : listOf h (.loc n) = some vs := by simp only [listOf, hn]
theorem listOf_fz {vs : List Val} (hn : h[n]? = some (.fz vs)) : listOf h (.loc n) = some vs := by simp only [listOf, hn]
theorem lstOf_lst {vs : List Val} (hn : h[n]? = some (.lst vs)) : lstOf h (.loc n) = some vs := by simp only [lstOf, hn]
theorem seqOf_lst {vs : List Val} (hn : h[n]? = some (.lst vs)) : seqOf h (.loc n) = some vs := by simp only [seqOf, listOf, hn]
theorem seqOf_fz {vs : List Val} (hn : h[n]? = some (.fz vs)) : seqOf h (.loc n) = some vs := by simp only [seqOf, listOf, hn]
theorem insOf_lst {vs : List Val} (hn : h[n]? = some (.lst vs)) : insOf h (.loc n) = none := by simp only [insOf, hn]
theorem insOf_fz {vs : List Val} (hn : h[n]? = some (.fz vs)) : insOf h (.loc n) = none := by simp only [insOf, hn]
theorem insOf_dct {vs : List (Val × Val)} (hn : h[n]? = some (.dct vs)) : insOf h (.loc n) = none := by simp only [insOf, hn]
theorem insOf_ins {C : String} {fs : List (String × Val)} (hn : h[n]? = some (.ins C fs)) : insOf h (.loc n) = some (C, fs) := by simp only [insOf, hn]
theorem setIE_lst {vs : List Val} (hn : h[n]? = some (.lst vs)) (k : Int) (x : Val) : setIE (.loc n) (.int k) x h = (ixOf vs.length k).map fun j => h.set n (.lst (vs.set j x)) := by
  unfold setIE; simp only [hn]
end
section
variable {cx : Cx} {h : Heap} {n : Nat}
theorem binE_int (op : Bop) (i : Int) (y : Val) : binE cx op (.int i) y h = ofOpt (bin op (.int i) y h) h := by cases op <;> rfl
theorem cmpE_int (op : Cop) (x : Val) (j : Int) : cmpE cx op x (.int j) h = ofOpt ((cmp op x (.int j) h).map .bl) h := by cases op <;> rfl
theorem pyEq_int (i j : Int) : pyEq h (.int i) (.int j) = some (decide (i = j)) := by
  show some ((PyData.int i).eqv (.int j)) = _
  simp only [PyData.eqv]; rfl
theorem biE_abs (i : Int) : biE cx "abs" [.int i] h = .ok (.int (if i < 0 then -i else i)) h := by
  simp [biE, biV, b1, bAbs, ofOpt]
theorem biE_int (i : Int) : biE cx "int" [.int i] h = .ok (.int i) h := by
  simp [biE, biV, b1, bInt, ofOpt]
theorem biE_intb (b : Bool) : biE cx "int" [.bl b] h = .ok (.int (if b then 1 else 0)) h := by
  simp [biE, biV, b1, bInt, ofOpt]
theorem biE_len {vs : List Val} (hn : h[n]? = some (.lst vs)) : biE cx "len" [.loc n] h = .ok (.int vs.length) h := by
  simp [biE, insOf_lst hn, bLen, seqOf_lst hn, ofOpt]
end
end Sc
end
section
set_option linter.all false
set_option autoImplicit false
namespace Sc
open PySem
namespace K31
def ir_wall : FnI := { params := ["k"], names := ["k"], defs := [], body :=
  [.never] }
def ir_is_row : FnI := { params := ["value"], names := ["value"], defs := [], body :=
  [.ret (.isi (.v 0) ["list", "tuple"])] }
def ir_is_situation : FnI := { params := ["value"], names := ["value", "situation"], defs := [], body :=
  [.ret (.and (.isi (.v 0) ["tuple"]) (.bi "any" (.cons (.lc (.cmp .eq (.v 0) (.v 1)) (.gen (.v 1) (.it (.glob "SITUATIONS")) .nil .nil)) .nil)))] }
def ir_words_of : FnI := { params := ["text"], names := ["text"], defs := [], body :=
  [.ret (.meth (.repl (.repl (.v 0) "(" "( ") ")" " )") "split" (.cons (.con (.str " ")) .nil))] }
def ir_written : FnI := { params := ["words"], names := ["words"], defs := [], body :=
  [.ret (.repl (.repl (.meth (.con (.str " ")) "join" (.cons (.v 0) .nil)) "( " "(") " )" ")")] }
def ir_meant : FnI := { params := ["word"], names := ["word", "situation"], defs := [], body :=
  [.ifs (.cmp .eq (.v 0) (.con (.str "any"))) [.ret (.bi "list" (.cons (.glob "SITUATIONS") .nil))] [],
  .ifs (.cmp .eq (.v 0) (.con (.str "never"))) [.ret (.lst .nil)] [],
  .ifs (.or (.cmp .in_ (.v 0) (.glob "TIES")) (.cmp .in_ (.v 0) (.glob "PARTS"))) [.ret (.lc (.v 1) (.gen (.v 1) (.it (.glob "SITUATIONS")) (.cons (.cmp .in_ (.v 0) (.v 1)) .nil) .nil))] [],
  .ret (.con .non)] }
def ir_read_one : FnI := { params := ["words", "at", "deep"], names := ["words", "at", "deep", "turned", "found", "situation"], defs := [], body :=
  [.set 3 (.con (.bl false)),
  .while_ (.and (.cmp .lt (.v 1) (.bi "len" (.cons (.v 0) .nil))) (.cmp .eq (.sub (.v 0) (.v 1)) (.con (.str "not")))) [.set 3 (.not (.v 3)),
    .aug .add 1 (.con (.int 1))],
  .ifs (.cmp .eq (.v 1) (.bi "len" (.cons (.v 0) .nil))) [.ret (.tup (.cons (.con .non) (.cons (.v 1) .nil)))] [],
  .ifs (.cmp .eq (.sub (.v 0) (.v 1)) (.con (.str "("))) [.sets [(.v 4), (.v 1)] (.ite (.cmp .eq (.v 2) (.glob "DEEPEST")) (.tup (.cons (.con .non) (.cons (.v 1) .nil))) (.call "read_either" (.cons (.v 0) (.cons (.bin .add (.v 1) (.con (.int 1))) (.cons (.bin .add (.v 2) (.con (.int 1))) .nil))))),
    .ifs (.or (.cmp .is_ (.v 4) (.con .non)) (.or (.cmp .eq (.v 1) (.bi "len" (.cons (.v 0) .nil))) (.cmp .ne (.sub (.v 0) (.v 1)) (.con (.str ")"))))) [.ret (.tup (.cons (.con .non) (.cons (.v 1) .nil)))] []] [.set 4 (.call "meant" (.cons (.sub (.v 0) (.v 1)) .nil))],
  .ifs (.and (.cmp .isn (.v 4) (.con .non)) (.v 3)) [.set 4 (.lc (.v 5) (.gen (.v 5) (.it (.glob "SITUATIONS")) (.cons (.cmp .nin (.v 5) (.v 4)) .nil) .nil))] [],
  .ret (.tup (.cons (.v 4) (.cons (.bin .add (.v 1) (.con (.int 1))) .nil)))] }
def ir_read_both : FnI := { params := ["words", "at", "deep"], names := ["words", "at", "deep", "found", "more", "situation"], defs := [], body :=
  [.sets [(.v 3), (.v 1)] (.call "read_one" (.cons (.v 0) (.cons (.v 1) (.cons (.v 2) .nil)))),
  .while_ (.and (.cmp .isn (.v 3) (.con .non)) (.and (.cmp .lt (.v 1) (.bi "len" (.cons (.v 0) .nil))) (.cmp .eq (.sub (.v 0) (.v 1)) (.con (.str "and"))))) [.sets [(.v 4), (.v 1)] (.call "read_one" (.cons (.v 0) (.cons (.bin .add (.v 1) (.con (.int 1))) (.cons (.v 2) .nil)))),
    .set 3 (.ite (.cmp .is_ (.v 4) (.con .non)) (.con .non) (.lc (.v 5) (.gen (.v 5) (.it (.v 3)) (.cons (.cmp .in_ (.v 5) (.v 4)) .nil) .nil)))],
  .ret (.tup (.cons (.v 3) (.cons (.v 1) .nil)))] }
def ir_read_either : FnI := { params := ["words", "at", "deep"], names := ["words", "at", "deep", "found", "more"], defs := [], body :=
  [.sets [(.v 3), (.v 1)] (.call "read_both" (.cons (.v 0) (.cons (.v 1) (.cons (.v 2) .nil)))),
  .while_ (.and (.cmp .isn (.v 3) (.con .non)) (.and (.cmp .lt (.v 1) (.bi "len" (.cons (.v 0) .nil))) (.cmp .eq (.sub (.v 0) (.v 1)) (.con (.str "or"))))) [.sets [(.v 4), (.v 1)] (.call "read_both" (.cons (.v 0) (.cons (.bin .add (.v 1) (.con (.int 1))) (.cons (.v 2) .nil)))),
    .set 3 (.ite (.cmp .is_ (.v 4) (.con .non)) (.con .non) (.lst (.star (.v 3) (.star (.v 4) .nil))))],
  .ret (.tup (.cons (.v 3) (.cons (.v 1) .nil)))] }
def ir_RuleX_initX : FnI := { params := ["self", "situations"], names := ["self", "situations", "situation"], defs := [], body :=
  [.ifs (.or (.not (.call "is_row" (.cons (.v 1) .nil))) (.not (.bi "all" (.cons (.lc (.call "is_situation" (.cons (.v 2) .nil)) (.gen (.v 2) (.it (.v 1)) .nil .nil)) .nil)))) [.never] [],
  .setA (.v 0) "own_kept" (.bi "tuple" (.cons (.lc (.v 2) (.gen (.v 2) (.it (.glob "SITUATIONS")) (.cons (.cmp .in_ (.v 2) (.v 1)) .nil) .nil)) .nil))] }
def ir_Rule_new : FnI := { params := ["cls"], names := ["cls", "situation"], defs := [], body :=
  [.ret (.callv (.v 0) (.cons (.lc (.v 1) (.gen (.v 1) (.it (.glob "SITUATIONS")) (.cons (.cmp .eq (.sub (.v 1) (.con (.int 0))) (.con (.str "new"))) .nil) .nil)) .nil))] }
def ir_Rule_once : FnI := { params := ["cls"], names := ["cls", "situation"], defs := [], body :=
  [.ret (.callv (.v 0) (.cons (.lc (.v 1) (.gen (.v 1) (.it (.glob "SITUATIONS")) (.cons (.cmp .in_ (.sub (.v 1) (.con (.int 0))) (.tup (.cons (.con (.str "new")) (.cons (.con (.str "known")) .nil)))) .nil) .nil)) .nil))] }
def ir_Rule_each_way : FnI := { params := ["cls"], names := ["cls", "situation"], defs := [], body :=
  [.ret (.callv (.v 0) (.cons (.lc (.v 1) (.gen (.v 1) (.it (.glob "SITUATIONS")) (.cons (.cmp .in_ (.sub (.v 1) (.con (.int 0))) (.tup (.cons (.con (.str "new")) (.cons (.con (.str "known")) (.cons (.con (.str "in")) .nil))))) .nil) .nil)) .nil))] }
def ir_Rule_free : FnI := { params := ["cls"], names := ["cls"], defs := [], body :=
  [.ret (.callv (.v 0) (.cons (.glob "SITUATIONS") .nil))] }
def ir_Rule_read : FnI := { params := ["cls", "text"], names := ["cls", "text", "words", "found", "at"], defs := [], body :=
  [.ifs (.not (.isi (.v 1) ["str"])) [.never] [],
  .set 2 (.call "words_of" (.cons (.v 1) .nil)),
  .sets [(.v 3), (.v 4)] (.call "read_either" (.cons (.v 2) (.cons (.con (.int 0)) (.cons (.con (.int 0)) .nil)))),
  .ifs (.or (.cmp .is_ (.v 3) (.con .non)) (.or (.cmp .ne (.v 4) (.bi "len" (.cons (.v 2) .nil))) (.cmp .ne (.call "written" (.cons (.v 2) .nil)) (.v 1)))) [.never] [],
  .ret (.callv (.v 0) (.cons (.v 3) .nil))] }
def ir_Rule_situations : FnI := { params := ["self"], names := ["self"], defs := [], body :=
  [.ret (.bi "list" (.cons (.attr (.v 0) "own_kept") .nil))] }
def ir_RuleX_lenX : FnI := { params := ["self"], names := ["self"], defs := [], body :=
  [.ret (.bi "len" (.cons (.attr (.v 0) "own_kept") .nil))] }
def ir_RuleX_containsX : FnI := { params := ["self", "value"], names := ["self", "value", "situation"], defs := [], body :=
  [.ret (.and (.isi (.v 1) ["tuple"]) (.bi "any" (.cons (.lc (.cmp .eq (.v 1) (.v 2)) (.gen (.v 2) (.it (.attr (.v 0) "own_kept")) .nil .nil)) .nil)))] }
def ir_Rule_lets : FnI := { params := ["self", "state", "caller", "callee"], names := ["self", "state", "caller", "callee", "situation"], defs := [], body :=
  [.set 4 (.meth (.v 1) "situation" (.cons (.v 2) (.cons (.v 3) .nil))),
  .ret (.and (.cmp .isn (.v 4) (.con .non)) (.cmp .in_ (.v 4) (.attr (.v 0) "own_kept")))] }
def ir_RuleX_callX : FnI := { params := ["self", "state", "person"], names := ["self", "state", "person", "other"], defs := [], body :=
  [.ex (.meth (.attr (.v 1) "book") "place" (.cons (.v 2) .nil)),
  .ret (.lc (.v 3) (.gen (.v 3) (.it (.attr (.attr (.v 1) "book") "people")) (.cons (.meth (.v 0) "lets" (.cons (.v 1) (.cons (.v 2) (.cons (.v 3) .nil)))) .nil) .nil))] }
def ir_Rule_calls : FnI := { params := ["self", "state"], names := ["self", "state", "people", "one", "two"], defs := [], body :=
  [.never] }
def ir_Rule_is_over : FnI := { params := ["self", "state"], names := ["self", "state"], defs := [], body :=
  [.never] }
def ir_RuleX_andX : FnI := { params := ["self", "other"], names := ["self", "other", "situation"], defs := [], body :=
  [.ret (.call "Rule" (.cons (.lc (.v 2) (.gen (.v 2) (.it (.attr (.v 0) "own_kept")) (.cons (.cmp .in_ (.v 2) (.attr (.v 1) "own_kept")) .nil) .nil)) .nil))] }
def ir_RuleX_orX : FnI := { params := ["self", "other"], names := ["self", "other"], defs := [], body :=
  [.ret (.call "Rule" (.cons (.lst (.star (.attr (.v 0) "own_kept") (.star (.attr (.v 1) "own_kept") .nil))) .nil))] }
def ir_RuleX_invertX : FnI := { params := ["self"], names := ["self", "situation"], defs := [], body :=
  [.ret (.call "Rule" (.cons (.lc (.v 1) (.gen (.v 1) (.it (.glob "SITUATIONS")) (.cons (.cmp .nin (.v 1) (.attr (.v 0) "own_kept")) .nil) .nil)) .nil))] }
def ir_Rule_same : FnI := { params := ["self", "other"], names := ["self", "other"], defs := [], body :=
  [.ret (.cmp .eq (.meth (.v 0) "situations" .nil) (.meth (.v 1) "situations" .nil))] }
def ir_Rule_within : FnI := { params := ["self", "other"], names := ["self", "other", "situation"], defs := [], body :=
  [.ret (.bi "all" (.cons (.lc (.cmp .in_ (.v 2) (.meth (.v 1) "situations" .nil)) (.gen (.v 2) (.it (.attr (.v 0) "own_kept")) .nil .nil)) .nil))] }
def ir_Rule_text : FnI := { params := ["self"], names := ["self", "tie", "part"], defs := [], body :=
  [.ifs (.cmp .eq (.bi "len" (.cons (.attr (.v 0) "own_kept") .nil)) (.con (.int 0))) [.ret (.con (.str "never"))] [],
  .ret (.meth (.con (.str " or ")) "join" (.cons (.lc (.fstr [.v 1, .lit " and ", .v 2]) (.gen (.vs [(.v 1), (.v 2)]) (.it (.attr (.v 0) "own_kept")) .nil .nil)) .nil))] }
def ir_Rule_first_not_let : FnI := { params := ["self", "book", "order"], names := ["self", "book", "order"], defs := [], body :=
  [.never] }
def ir_Rule_kept_by : FnI := { params := ["self", "book", "order"], names := ["self", "book", "order"], defs := [], body :=
  [.never] }
def ir_law_bag : FnI := { params := ["_law_script"], names := ["_law_script"], defs := [], body :=
  [.ret (.lst (.cons (.bi "list" (.cons (.v 0) .nil)) (.cons (.con (.int 0)) (.cons (.con (.int 0)) (.cons (.con (.int 17)) (.cons (.con (.int 0)) .nil))))))] }
def ir_law_draw : FnI := { params := ["_law_bag_here", "_law_size"], names := ["_law_bag_here", "_law_size", "_law_cell", "_law_digit", "_law_mixed_here"], defs := [], body :=
  [.setI (.v 0) (.con (.int 4)) (.bin .add (.sub (.v 0) (.con (.int 4))) (.con (.int 1))),
  .ifs (.and (.cmp .eq (.sub (.v 0) (.con (.int 2))) (.con (.int 0))) (.cmp .lt (.sub (.v 0) (.con (.int 1))) (.bi "len" (.cons (.sub (.v 0) (.con (.int 0))) .nil)))) [.set 2 (.sub (.sub (.v 0) (.con (.int 0))) (.sub (.v 0) (.con (.int 1)))),
    .setI (.v 0) (.con (.int 1)) (.bin .add (.sub (.v 0) (.con (.int 1))) (.con (.int 1))),
    .setI (.v 0) (.con (.int 2)) (.bin .mul (.bin .add (.bin .mul (.con (.int 2)) (.bi "abs" (.cons (.v 2) .nil))) (.bi "int" (.cons (.cmp .lt (.v 2) (.con (.int 0))) .nil))) (.bi "int" (.cons (.cmp .ge (.bi "abs" (.cons (.v 2) .nil)) (.bin .pow (.con (.int 10)) (.con (.int 18)))) .nil))),
    .setI (.v 0) (.con (.int 3)) (.bin .mod (.bi "int" (.cons (.bin .add (.bin .add (.bin .mul (.sub (.v 0) (.con (.int 3))) (.con (.int 48271))) (.bin .mul (.v 2) (.con (.int 69621)))) (.con (.int 11))) .nil)) (.con (.int 2147483647)))] [],
  .set 3 (.bin .mod (.bi "int" (.cons (.sub (.v 0) (.con (.int 2))) .nil)) (.v 1)),
  .ifs (.cmp .gt (.sub (.v 0) (.con (.int 2))) (.con (.int 0))) [.setI (.v 0) (.con (.int 2)) (.bin .fdiv (.sub (.v 0) (.con (.int 2))) (.v 1)),
    .ret (.v 3)] [],
  .set 4 (.bin .mod (.bi "int" (.cons (.bin .add (.sub (.v 0) (.con (.int 3))) (.bin .mul (.sub (.v 0) (.con (.int 4))) (.con (.int 40692)))) .nil)) (.con (.int 2147483647))),
  .set 4 (.bin .mod (.bi "int" (.cons (.bin .add (.bin .add (.bin .pow (.v 4) (.con (.int 3))) (.bin .mul (.sub (.v 0) (.con (.int 4))) (.con (.int 16807)))) (.con (.int 7))) .nil)) (.con (.int 2147483629))),
  .ret (.bin .mod (.bin .fdiv (.bin .mod (.bi "int" (.cons (.bin .pow (.v 4) (.con (.int 2))) .nil)) (.con (.int 2147483587))) (.con (.int 8))) (.v 1))] }
def ir_law_mixed : FnI := { params := ["_law_bag_here", "_law_items"], names := ["_law_bag_here", "_law_items", "_law_left", "_law_found", "_law_k"], defs := [], body :=
  [.set 2 (.bi "list" (.cons (.v 1) .nil)),
  .set 3 (.lst .nil),
  .for_ (.v 4) (.rng1 (.bi "len" (.cons (.v 1) .nil))) [.ex (.meth (.v 3) "append" (.cons (.meth (.v 2) "pop" (.cons (.call "_law_draw" (.cons (.v 0) (.cons (.bi "len" (.cons (.v 2) .nil)) .nil))) .nil)) .nil))],
  .ret (.v 3)] }
def ir_law_situations : FnI := { params := [], names := ["_law_found", "_law_tie"], defs := [], body :=
  [.set 0 (.lst (.cons (.tup (.cons (.con (.str "new")) (.cons (.con (.str "none")) .nil))) .nil)),
  .for_ (.v 1) (.it (.lst (.cons (.con (.str "new")) (.cons (.con (.str "known")) (.cons (.con (.str "out")) (.cons (.con (.str "in")) (.cons (.con (.str "both")) .nil))))))) [.set 0 (.bin .add (.v 0) (.lst (.cons (.tup (.cons (.v 1) (.cons (.con (.str "caller")) .nil))) (.cons (.tup (.cons (.v 1) (.cons (.con (.str "callee")) .nil))) .nil))))],
  .ret (.v 0)] }
def ir_law_kept : FnI := { params := ["_law_bag_here"], names := ["_law_bag_here", "_law_every", "_law_choice", "_law_one", "_law_share"], defs := [], body :=
  [.set 1 (.call "_law_situations" .nil),
  .set 2 (.call "_law_draw" (.cons (.v 0) (.cons (.con (.int 8)) .nil))),
  .ifs (.cmp .eq (.v 2) (.con (.int 0))) [.ret (.lc (.v 3) (.gen (.v 3) (.it (.v 1)) (.cons (.cmp .eq (.sub (.v 3) (.con (.int 0))) (.con (.str "new"))) .nil) .nil))] [],
  .ifs (.cmp .eq (.v 2) (.con (.int 1))) [.ret (.lc (.v 3) (.gen (.v 3) (.it (.v 1)) (.cons (.cmp .in_ (.sub (.v 3) (.con (.int 0))) (.lst (.cons (.con (.str "new")) (.cons (.con (.str "known")) .nil)))) .nil) .nil))] [],
  .ifs (.cmp .eq (.v 2) (.con (.int 2))) [.ret (.lc (.v 3) (.gen (.v 3) (.it (.v 1)) (.cons (.cmp .nin (.sub (.v 3) (.con (.int 0))) (.lst (.cons (.con (.str "out")) (.cons (.con (.str "both")) .nil)))) .nil) .nil))] [],
  .ifs (.cmp .eq (.v 2) (.con (.int 3))) [.ret (.v 1)] [],
  .set 4 (.bin .add (.con (.int 2)) (.bi "int" (.cons (.cmp .gt (.v 2) (.con (.int 5))) .nil))),
  .ret (.lc (.v 3) (.gen (.v 3) (.it (.v 1)) (.cons (.or (.and (.cmp .eq (.v 3) (.sub (.v 1) (.con (.int 0)))) (.cmp .lt (.v 2) (.con (.int 7)))) (.cmp .eq (.call "_law_draw" (.cons (.v 0) (.cons (.v 4) .nil))) (.con (.int 0)))) .nil) .nil))] }
def ir_law_made_rule : FnI := { params := ["_law_bag_here", "_law_kept_here"], names := ["_law_bag_here", "_law_kept_here", "_law_every", "_law_choice", "_law_words", "_law_one", "_law_some", "_law_more"], defs := [], body :=
  [.set 2 (.call "_law_situations" .nil),
  .set 3 (.call "_law_draw" (.cons (.v 0) (.cons (.con (.int 5)) .nil))),
  .set 4 (.lc (.bin .add (.bin .add (.sub (.v 5) (.con (.int 0))) (.con (.str " and "))) (.sub (.v 5) (.con (.int 1)))) (.gen (.v 5) (.it (.call "_law_mixed" (.cons (.v 0) (.cons (.v 1) .nil)))) .nil .nil)),
  .ifs (.cmp .eq (.v 3) (.con (.int 0))) [.ret (.meth (.con (.glb "Rule")) "read" (.cons (.meth (.con (.str " or ")) "join" (.cons (.bin .add (.v 4) (.lst (.cons (.con (.str "never")) .nil))) .nil)) .nil))] [],
  .ifs (.cmp .eq (.v 3) (.con (.int 1))) [.ret (.inv (.call "Rule" (.cons (.lc (.v 5) (.gen (.v 5) (.it (.v 2)) (.cons (.cmp .nin (.v 5) (.v 1)) .nil) .nil)) .nil)))] [],
  .set 6 (.slc (.v 1) .none (.some (.call "_law_draw" (.cons (.v 0) (.cons (.bin .add (.bi "len" (.cons (.v 1) .nil)) (.con (.int 1))) .nil))))),
  .ifs (.cmp .eq (.v 3) (.con (.int 2))) [.ret (.bin .bor (.call "Rule" (.cons (.v 6) .nil)) (.call "Rule" (.cons (.lc (.v 5) (.gen (.v 5) (.it (.v 1)) (.cons (.cmp .nin (.v 5) (.v 6)) .nil) .nil)) .nil)))] [],
  .ifs (.cmp .eq (.v 3) (.con (.int 3))) [.set 7 (.lc (.v 5) (.gen (.v 5) (.it (.v 2)) (.cons (.or (.cmp .in_ (.v 5) (.v 1)) (.cmp .eq (.call "_law_draw" (.cons (.v 0) (.cons (.con (.int 2)) .nil))) (.con (.int 0)))) .nil) .nil)),
    .ret (.bin .band (.call "Rule" (.cons (.v 7) .nil)) (.call "Rule" (.cons (.bin .add (.v 1) (.lc (.v 5) (.gen (.v 5) (.it (.v 2)) (.cons (.cmp .nin (.v 5) (.v 7)) .nil) .nil))) .nil)))] [],
  .ret (.call "Rule" (.cons (.call "_law_mixed" (.cons (.v 0) (.cons (.bin .add (.v 1) (.slc (.v 1) .none (.some (.con (.int 2))))) .nil))) .nil))] }
def ir_law_asked : FnI := { params := ["_law_bag_here", "_law_rule", "_law_kept_here"], names := ["_law_bag_here", "_law_rule", "_law_kept_here", "_law_question", "_law_told", "_law_one"], defs := [], body :=
  [.for_ (.v 3) (.it (.call "_law_mixed" (.cons (.v 0) (.cons (.lst (.cons (.con (.int 0)) (.cons (.con (.int 1)) (.cons (.con (.int 2)) (.cons (.con (.int 0)) .nil))))) .nil)))) [.ifs (.cmp .eq (.v 3) (.con (.int 0))) [.set 4 (.meth (.v 1) "situations" .nil),
      .ifs (.cmp .ne (.v 4) (.v 2)) [.ret (.con (.bl false))] [],
      .ex (.meth (.v 4) "append" (.cons (.tup (.cons (.con (.str "new")) (.cons (.con (.str "none")) .nil))) .nil))] [],
    .ifs (.and (.cmp .eq (.v 3) (.con (.int 1))) (.cmp .ne (.bi "len" (.cons (.v 1) .nil)) (.bi "len" (.cons (.v 2) .nil)))) [.ret (.con (.bl false))] [],
    .ifs (.cmp .eq (.v 3) (.con (.int 2))) [.for_ (.v 5) (.it (.call "_law_situations" .nil)) [.ifs (.or (.cmp .ne (.cmp .in_ (.v 5) (.v 1)) (.cmp .in_ (.v 5) (.v 2))) (.cmp .in_ (.bi "list" (.cons (.v 5) .nil)) (.v 1))) [.ret (.con (.bl false))] []]] []],
  .ret (.con (.bl true))] }
def ir_law_named_right : FnI := { params := ["_law_bag_here"], names := ["_law_bag_here", "_law_every", "_law_due", "_law_rule", "_law_ties", "_law_one"], defs := [], body :=
  [.set 1 (.call "_law_situations" .nil),
  .set 2 (.lst (.cons (.tup (.cons (.meth (.con (.glb "Rule")) "new" .nil) (.cons (.lst (.cons (.con (.str "new")) .nil)) .nil))) (.cons (.tup (.cons (.meth (.con (.glb "Rule")) "once" .nil) (.cons (.lst (.cons (.con (.str "new")) (.cons (.con (.str "known")) .nil))) .nil))) (.cons (.tup (.cons (.meth (.con (.glb "Rule")) "each_way" .nil) (.cons (.lst (.cons (.con (.str "new")) (.cons (.con (.str "known")) (.cons (.con (.str "in")) .nil)))) .nil))) .nil)))),
  .ex (.meth (.v 2) "append" (.cons (.tup (.cons (.meth (.con (.glb "Rule")) "free" .nil) (.cons (.lst (.cons (.con (.str "new")) (.cons (.con (.str "known")) (.cons (.con (.str "out")) (.cons (.con (.str "in")) (.cons (.con (.str "both")) .nil)))))) .nil))) .nil)),
  .for_ (.vs [(.v 3), (.v 4)]) (.it (.call "_law_mixed" (.cons (.v 0) (.cons (.v 2) .nil)))) [.ifs (.not (.call "_law_asked" (.cons (.v 0) (.cons (.v 3) (.cons (.lc (.v 5) (.gen (.v 5) (.it (.v 1)) (.cons (.cmp .in_ (.sub (.v 5) (.con (.int 0))) (.v 4)) .nil) .nil)) .nil))))) [.ret (.con (.bl false))] []],
  .ret (.con (.bl true))] }
def ir_law_two_right : FnI := { params := ["_law_bag_here", "_law_one", "_law_other", "_law_kept_here", "_law_more"], names := ["_law_bag_here", "_law_one", "_law_other", "_law_kept_here", "_law_more", "_law_every", "_law_common", "_law_part", "_law_either"], defs := [], body :=
  [.set 5 (.call "_law_situations" .nil),
  .set 6 (.lc (.v 7) (.gen (.v 7) (.it (.v 3)) (.cons (.cmp .in_ (.v 7) (.v 4)) .nil) .nil)),
  .set 8 (.lc (.v 7) (.gen (.v 7) (.it (.v 5)) (.cons (.or (.cmp .in_ (.v 7) (.v 3)) (.cmp .in_ (.v 7) (.v 4))) .nil) .nil)),
  .ifs (.or (.not (.call "_law_asked" (.cons (.v 0) (.cons (.bin .band (.v 1) (.v 2)) (.cons (.v 6) .nil))))) (.not (.call "_law_asked" (.cons (.v 0) (.cons (.bin .bor (.v 1) (.v 2)) (.cons (.v 8) .nil)))))) [.ret (.con (.bl false))] [],
  .ifs (.not (.call "_law_asked" (.cons (.v 0) (.cons (.inv (.v 1)) (.cons (.lc (.v 7) (.gen (.v 7) (.it (.v 5)) (.cons (.cmp .nin (.v 7) (.v 3)) .nil) .nil)) .nil))))) [.ret (.con (.bl false))] [],
  .ifs (.or (.cmp .ne (.meth (.v 1) "within" (.cons (.v 2) .nil)) (.cmp .eq (.v 6) (.v 3))) (.cmp .ne (.meth (.v 1) "same" (.cons (.v 2) .nil)) (.cmp .eq (.v 3) (.v 4)))) [.ret (.con (.bl false))] [],
  .ifs (.or (.not (.meth (.inv (.inv (.v 1))) "same" (.cons (.v 1) .nil))) (.not (.meth (.inv (.bin .band (.v 1) (.v 2))) "same" (.cons (.bin .bor (.inv (.v 1)) (.inv (.v 2))) .nil)))) [.ret (.con (.bl false))] [],
  .ifs (.or (.not (.meth (.bin .band (.v 1) (.v 2)) "within" (.cons (.v 1) .nil))) (.not (.meth (.v 1) "within" (.cons (.bin .bor (.v 1) (.v 2)) .nil)))) [.ret (.con (.bl false))] [],
  .ret (.and (.call "_law_asked" (.cons (.v 0) (.cons (.v 1) (.cons (.v 3) .nil)))) (.call "_law_asked" (.cons (.v 0) (.cons (.v 2) (.cons (.v 4) .nil)))))] }
def ir_law : FnI := { params := ["_law_script"], names := ["_law_script", "_law_bag_here", "_law_lots", "_law_k", "_law_one", "_law_rules", "_law_kept_here", "_law_given", "_law_before", "_law_told", "_law_other", "_law_strange", "_law_value"], defs := [], body :=
  [.set 1 (.call "_law_bag" (.cons (.v 0) .nil)),
  .set 2 (.lc (.call "_law_kept" (.cons (.v 1) .nil)) (.gen (.v 3) (.rng1 (.con (.int 3))) .nil .nil)),
  .ifs (.cmp .eq (.call "_law_draw" (.cons (.v 1) (.cons (.con (.int 3)) .nil))) (.con (.int 0))) [.setI (.v 2) (.con (.int 1)) (.lc (.v 4) (.gen (.v 4) (.it (.sub (.v 2) (.con (.int 0)))) (.cons (.cmp .gt (.call "_law_draw" (.cons (.v 1) (.cons (.con (.int 4)) .nil))) (.con (.int 0))) .nil) .nil))] [],
  .set 5 (.lc (.call "_law_made_rule" (.cons (.v 1) (.cons (.v 6) .nil))) (.gen (.v 6) (.it (.v 2)) .nil .nil)),
  .for_ (.v 3) (.it (.call "_law_mixed" (.cons (.v 1) (.cons (.lst (.cons (.con (.int 0)) (.cons (.con (.int 1)) (.cons (.con (.int 2)) (.cons (.con (.int 0)) .nil))))) .nil)))) [.ifs (.not (.call "_law_asked" (.cons (.v 1) (.cons (.sub (.v 5) (.v 3)) (.cons (.sub (.v 2) (.v 3)) .nil))))) [.ret (.con (.bl false))] [],
    .set 7 (.call "_law_mixed" (.cons (.v 1) (.cons (.bin .add (.sub (.v 2) (.v 3)) (.slc (.sub (.v 2) (.v 3)) .none (.some (.con (.int 2))))) .nil))),
    .set 8 (.bi "list" (.cons (.v 7) .nil)),
    .set 9 (.call "Rule" (.cons (.sub (.lst (.cons (.v 7) (.cons (.bi "tuple" (.cons (.v 7) .nil)) .nil))) (.call "_law_draw" (.cons (.v 1) (.cons (.con (.int 2)) .nil)))) .nil)),
    .ifs (.cmp .ne (.v 7) (.v 8)) [.ret (.con (.bl false))] [],
    .ex (.meth (.v 7) "clear" .nil),
    .ifs (.not (.call "_law_asked" (.cons (.v 1) (.cons (.v 9) (.cons (.sub (.v 2) (.v 3)) .nil))))) [.ret (.con (.bl false))] []],
  .for_ (.vs [(.v 4), (.v 10)]) (.it (.call "_law_mixed" (.cons (.v 1) (.cons (.lst (.cons (.tup (.cons (.con (.int 0)) (.cons (.con (.int 1)) .nil))) (.cons (.tup (.cons (.con (.int 1)) (.cons (.con (.int 0)) .nil))) (.cons (.tup (.cons (.con (.int 2)) (.cons (.con (.int 0)) .nil))) (.cons (.tup (.cons (.con (.int 1)) (.cons (.con (.int 1)) .nil))) .nil))))) .nil)))) [.ifs (.not (.call "_law_two_right" (.cons (.v 1) (.cons (.sub (.v 5) (.v 4)) (.cons (.sub (.v 5) (.v 10)) (.cons (.sub (.v 2) (.v 4)) (.cons (.sub (.v 2) (.v 10)) .nil))))))) [.ret (.con (.bl false))] []],
  .set 11 (.lst (.cons (.con (.str "new")) (.cons (.con .non) (.cons (.con (.int 3)) (.cons (.lst .nil) (.cons (.tup (.cons (.con (.str "new")) .nil)) (.cons (.tup (.cons (.con (.str "new")) (.cons (.con (.str "none")) (.cons (.con (.str "none")) .nil)))) (.cons (.tup (.cons (.con (.str "none")) (.cons (.con (.str "new")) .nil))) (.cons (.tup (.cons (.con (.str "known")) (.cons (.con (.str "none")) .nil))) (.cons (.dct .nil .nil) (.cons (.con (.bl true)) .nil))))))))))),
  .for_ (.v 12) (.it (.bin .add (.v 11) (.lst (.cons (.tup (.cons (.con (.str "new")) (.cons (.lst .nil) .nil))) (.cons (.tup (.cons (.lst .nil) (.cons (.con (.str "none")) .nil))) .nil))))) [.ifs (.or (.cmp .in_ (.v 12) (.sub (.v 5) (.con (.int 0)))) (.cmp .in_ (.v 12) (.meth (.con (.glb "Rule")) "free" .nil))) [.ret (.con (.bl false))] []],
  .ret (.and (.call "_law_named_right" (.cons (.v 1) .nil)) (.and (.cmp .eq (.bi "len" (.cons (.call "Rule" (.cons (.lst .nil) .nil)) .nil)) (.con (.int 0))) (.cmp .eq (.meth (.call "Rule" (.cons (.tup .nil) .nil)) "situations" .nil) (.lst .nil))))] }
def fnT : List ((String × String) × FnI) := [
  (("", "_wall"), ir_wall),
  (("", "is_row"), ir_is_row),
  (("", "is_situation"), ir_is_situation),
  (("", "words_of"), ir_words_of),
  (("", "written"), ir_written),
  (("", "meant"), ir_meant),
  (("", "read_one"), ir_read_one),
  (("", "read_both"), ir_read_both),
  (("", "read_either"), ir_read_either),
  (("Rule", "__init__"), ir_RuleX_initX),
  (("Rule", "new"), ir_Rule_new),
  (("Rule", "once"), ir_Rule_once),
  (("Rule", "each_way"), ir_Rule_each_way),
  (("Rule", "free"), ir_Rule_free),
  (("Rule", "read"), ir_Rule_read),
  (("Rule", "situations"), ir_Rule_situations),
  (("Rule", "__len__"), ir_RuleX_lenX),
  (("Rule", "__contains__"), ir_RuleX_containsX),
  (("Rule", "lets"), ir_Rule_lets),
  (("Rule", "__call__"), ir_RuleX_callX),
  (("Rule", "calls"), ir_Rule_calls),
  (("Rule", "is_over"), ir_Rule_is_over),
  (("Rule", "__and__"), ir_RuleX_andX),
  (("Rule", "__or__"), ir_RuleX_orX),
  (("Rule", "__invert__"), ir_RuleX_invertX),
  (("Rule", "same"), ir_Rule_same),
  (("Rule", "within"), ir_Rule_within),
  (("Rule", "text"), ir_Rule_text),
  (("Rule", "first_not_let"), ir_Rule_first_not_let),
  (("Rule", "kept_by"), ir_Rule_kept_by),
  (("", "_law_bag"), ir_law_bag),
  (("", "_law_draw"), ir_law_draw),
  (("", "_law_mixed"), ir_law_mixed),
  (("", "_law_situations"), ir_law_situations),
  (("", "_law_kept"), ir_law_kept),
  (("", "_law_made_rule"), ir_law_made_rule),
  (("", "_law_asked"), ir_law_asked),
  (("", "_law_named_right"), ir_law_named_right),
  (("", "_law_two_right"), ir_law_two_right),
  (("", "law"), ir_law)]
def conT : List (String × Val) := [("TIES", (.tup [(.str "new"), (.str "known"), (.str "out"), (.str "in"), (.str "both")])),
  ("PARTS", (.tup [(.str "none"), (.str "caller"), (.str "callee")])),
  ("SITUATIONS", (.tup [(.tup [(.str "new"), (.str "none")]), (.tup [(.str "new"), (.str "caller")]), (.tup [(.str "new"), (.str "callee")]), (.tup [(.str "known"), (.str "caller")]), (.tup [(.str "known"), (.str "callee")]), (.tup [(.str "out"), (.str "caller")]), (.tup [(.str "out"), (.str "callee")]), (.tup [(.str "in"), (.str "caller")]), (.tup [(.str "in"), (.str "callee")]), (.tup [(.str "both"), (.str "caller")]), (.tup [(.str "both"), (.str "callee")])])),
  ("DEEPEST", (.int 20))]
def clsT : List (String × ClsI) := [("Rule", { props := [], attrs := ["own_kept"], meths := ["__init__", "situations", "__len__", "__contains__", "lets", "__call__", "calls", "is_over", "__and__", "__or__", "__invert__", "same", "within", "text", "first_not_let", "kept_by"], cms := ["new", "once", "each_way", "free", "read"], sups := ["Rule"], exc := false, fields := [] })]

end K31
end Sc
end
section
set_option Elab.async false
set_option linter.all false
set_option maxRecDepth 100000
set_option maxHeartbeats 4000000
set_option autoImplicit false
/-! The laws' own bag of numbers. -/
namespace Sc
open PySem
def lw_bag : FnI := { params := ["_law_script"], names := ["_law_script"], defs := [], body :=
  [.ret (.lst (.cons (.bi "list" (.cons (.v 0) .nil)) (.cons (.con (.int 0)) (.cons (.con (.int 0)) (.cons (.con (.int 17)) (.cons (.con (.int 0)) .nil))))))] }
def lw_draw : FnI := { params := ["_law_bag_here", "_law_size"], names := ["_law_bag_here", "_law_size", "_law_cell", "_law_digit", "_law_mixed_here"], defs := [], body :=
  [.setI (.v 0) (.con (.int 4)) (.bin .add (.sub (.v 0) (.con (.int 4))) (.con (.int 1))),
  .ifs (.and (.cmp .eq (.sub (.v 0) (.con (.int 2))) (.con (.int 0))) (.cmp .lt (.sub (.v 0) (.con (.int 1))) (.bi "len" (.cons (.sub (.v 0) (.con (.int 0))) .nil)))) [.set 2 (.sub (.sub (.v 0) (.con (.int 0))) (.sub (.v 0) (.con (.int 1)))),
    .setI (.v 0) (.con (.int 1)) (.bin .add (.sub (.v 0) (.con (.int 1))) (.con (.int 1))),
    .setI (.v 0) (.con (.int 2)) (.bin .mul (.bin .add (.bin .mul (.con (.int 2)) (.bi "abs" (.cons (.v 2) .nil))) (.bi "int" (.cons (.cmp .lt (.v 2) (.con (.int 0))) .nil))) (.bi "int" (.cons (.cmp .ge (.bi "abs" (.cons (.v 2) .nil)) (.bin .pow (.con (.int 10)) (.con (.int 18)))) .nil))),
    .setI (.v 0) (.con (.int 3)) (.bin .mod (.bi "int" (.cons (.bin .add (.bin .add (.bin .mul (.sub (.v 0) (.con (.int 3))) (.con (.int 48271))) (.bin .mul (.v 2) (.con (.int 69621)))) (.con (.int 11))) .nil)) (.con (.int 2147483647)))] [],
  .set 3 (.bin .mod (.bi "int" (.cons (.sub (.v 0) (.con (.int 2))) .nil)) (.v 1)),
  .ifs (.cmp .gt (.sub (.v 0) (.con (.int 2))) (.con (.int 0))) [.setI (.v 0) (.con (.int 2)) (.bin .fdiv (.sub (.v 0) (.con (.int 2))) (.v 1)),
    .ret (.v 3)] [],
  .set 4 (.bin .mod (.bi "int" (.cons (.bin .add (.sub (.v 0) (.con (.int 3))) (.bin .mul (.sub (.v 0) (.con (.int 4))) (.con (.int 40692)))) .nil)) (.con (.int 2147483647))),
  .set 4 (.bin .mod (.bi "int" (.cons (.bin .add (.bin .add (.bin .pow (.v 4) (.con (.int 3))) (.bin .mul (.sub (.v 0) (.con (.int 4))) (.con (.int 16807)))) (.con (.int 7))) .nil)) (.con (.int 2147483629))),
  .ret (.bin .mod (.bin .fdiv (.bin .mod (.bi "int" (.cons (.bin .pow (.v 4) (.con (.int 2))) .nil)) (.con (.int 2147483587))) (.con (.int 8))) (.v 1))] }
def lw_mixed : FnI := { params := ["_law_bag_here", "_law_items"], names := ["_law_bag_here", "_law_items", "_law_left", "_law_found", "_law_k"], defs := [], body :=
  [.set 2 (.bi "list" (.cons (.v 1) .nil)),
  .set 3 (.lst .nil),
  .for_ (.v 4) (.rng1 (.bi "len" (.cons (.v 1) .nil))) [.ex (.meth (.v 3) "append" (.cons (.meth (.v 2) "pop" (.cons (.call "_law_draw" (.cons (.v 0) (.cons (.bi "len" (.cons (.v 2) .nil)) .nil))) .nil)) .nil))],
  .ret (.v 3)] }
/-- the bag stands at b -/
def Bag (b s : Nat) (h : Heap) : Prop := ∃ (zs : List Int) (p q r t : Int), h[b]? = some (.lst [.loc s, .int p, .int q, .int r, .int t]) ∧ h[s]? = some (.lst (zs.map Val.int)) ∧ s ≠ b ∧ 0 ≤ p
/-- only the bag has changed, and things have come -/
structure Gr (b s : Nat) (h h' : Heap) : Prop where
  bag : Bag b s h'
  len : h.length ≤ h'.length
  keep : ∀ (i : Nat) (o : Obj), i ≠ b → h[i]? = some o → h'[i]? = some o
theorem Bag.lt {b s : Nat} {h : Heap} (B : Bag b s h) : b < h.length := by
  obtain ⟨zs, p, q, r, t, hb, _⟩ := B
  exact (List.getElem?_eq_some_iff.mp hb).1
theorem Bag.lts {b s : Nat} {h : Heap} (B : Bag b s h) : s < h.length := by
  obtain ⟨zs, p, q, r, t, _, hs, _⟩ := B
  exact (List.getElem?_eq_some_iff.mp hs).1
/-- the bag's list -/
abbrev bagO (s : Nat) (p q r t : Int) : Obj := .lst [.loc s, .int p, .int q, .int r, .int t]
section
variable {P : Pg} {cx : Cx} {h : Heap} {b s : Nat}
theorem bag_sub (hl : b < h.length) (p q r t k : Int) : subV (.loc b) (.int k) (h.set b (bagO s p q r t)) = (ixOf 5 k).bind ([Val.loc s, .int p, .int q, .int r, .int t][·]?) := subV_lst (List.getElem?_set_self hl) k
theorem bag_set (hl : b < h.length) (p q r t k : Int) (x : Val) : setIE (.loc b) (.int k) x (h.set b (bagO s p q r t)) = (ixOf 5 k).map fun j => h.set b (.lst ([Val.loc s, .int p, .int q, .int r, .int t].set j x)) := by
  rw [setIE_lst (List.getElem?_set_self hl)]
  simp -implicitDefEqProofs only [List.set_set, List.length_cons, List.length_nil]
theorem ix0 : ixOf 5 0 = some 0 := by decide
theorem ix1 : ixOf 5 1 = some 1 := by decide
theorem ix2 : ixOf 5 2 = some 2 := by decide
theorem ix3 : ixOf 5 3 = some 3 := by decide
theorem ix4 : ixOf 5 4 = some 4 := by decide
theorem bin_add (i j : Int) : bin .add (.int i) (.int j) h = some (.int (i + j)) := rfl
theorem bin_sub (i j : Int) : bin .sub (.int i) (.int j) h = some (.int (i - j)) := rfl
theorem bin_mod {i j : Int} (hj : 0 < j) : bin .mod (.int i) (.int j) h = some (.int (i % j)) := by simp [bin, hj]
theorem bin_fdiv {i j : Int} (hj : 0 < j) (hk : j < 1073741824) : bin .fdiv (.int i) (.int j) h = some (.int (i / j)) := by simp [bin, hj, hk]
theorem bin_mulR {i j : Int} (hj : small j = true) : bin .mul (.int i) (.int j) h = some (.int (i * j)) := by simp [bin, hj]
theorem bin_mulL {i j : Int} (hj : small i = true) : bin .mul (.int i) (.int j) h = some (.int (i * j)) := by simp [bin, hj]
theorem bin_pow {i : Int} {j : Int} (h0 : 0 ≤ j) (h1 : j ≤ 1000000) (hi : i.natAbs < 2 ^ 64) : bin .pow (.int i) (.int j) h = some (.int (i ^ j.toNat)) := by simp -implicitDefEqProofs only [bin, h0, h1, hi, and_self, if_true]
theorem truth_bl (c : Bool) : truth h (.bl c) = some c := rfl
theorem truth_int (c : Int) : truth h (.int c) = some (c != 0) := rfl
theorem cmp_eq (x y : Val) : cmp .eq x y h = pyEq h x y := rfl
theorem cmp_lt (i j : Int) : cmp .lt (.int i) (.int j) h = some (decide (i < j)) := rfl
theorem cmp_gt (i j : Int) : cmp .gt (.int i) (.int j) h = some (decide (j < i)) := rfl
theorem cmp_ge (i j : Int) : cmp .ge (.int i) (.int j) h = some (decide (j ≤ i)) := rfl
theorem cmp_le (i j : Int) : cmp .le (.int i) (.int j) h = some (decide (i ≤ j)) := rfl
theorem some_map {α β : Type} (f : α → β) (a : α) : (some a).map f = some (f a) := rfl
theorem some_bind {α β : Type} (f : α → Option β) (a : α) : (some a).bind f = f a := rfl

theorem draw_1 {d : Nat} (hl : b < h.length) {p q r t : Int} (hb : h = h.set b (bagO s p q r t)) (e : Env) (he : e[0]? = some (some (.loc b))) : Ok (evS (cxD P d) (.setI (.v 0) (.con (.int 4)) (.bin .add (.sub (.v 0) (.con (.int 4))) (.con (.int 1)))) e h) fun fl h1 => fl = .nx e ∧ h1 = h.set b (bagO s p q r (t + 1)) := by
  rw [hb]
  simp -implicitDefEqProofs only [okst_setI, ok_bin, ok_sub, ok_v, ok_con, he, bag_sub hl, ix4, some_bind, ok_some, List.getElem?_cons_zero, List.getElem?_cons_succ, binE_int, bin_add, box_int, bag_set hl, some_map, List.set_cons_succ, List.set_cons_zero, List.set_set, and_self]

theorem draw_cond {d : Nat} (hl : b < h.length) {zs : List Int} (hs : ∀ o, (h.set b o)[s]? = some (.lst (zs.map Val.int))) {p q r t : Int} (e : Env) (he : e[0]? = some (some (.loc b))) : Ok (test (cxD P d) (.and (.cmp .eq (.sub (.v 0) (.con (.int 2))) (.con (.int 0))) (.cmp .lt (.sub (.v 0) (.con (.int 1))) (.bi "len" (.cons (.sub (.v 0) (.con (.int 0))) .nil)))) e (h.set b (bagO s p q r t))) fun c h1 => c = decide (q = 0 ∧ p < zs.length) ∧ h1 = h.set b (bagO s p q r t) := by
  simp -implicitDefEqProofs only [ok_test, ok_and, ok_cmp, ok_sub, ok_v, he, ok_con, bag_sub hl, ix0, ix1, ix2, some_bind, ok_some, List.getElem?_cons_zero, List.getElem?_cons_succ, cmpE_int, cmp_eq, pyEq_int, some_map, truth_bl, ok_bi, okr_cons, okr_nil, biE_len (hs _), ok_ok, cmp_lt, List.length_map]
  by_cases hq : q = 0 <;> by_cases hp : p < (zs.length : Int) <;> simp [hq, hp]
theorem cell_sub (hl : b < h.length) {zs : List Int} (hs : ∀ o, (h.set b o)[s]? = some (.lst (zs.map Val.int))) {p q r t : Int} (h0 : 0 ≤ p) (hp : p < zs.length) : ∃ z, subV (.loc s) (.int p) (h.set b (bagO s p q r t)) = some (.int z) := by
  obtain ⟨m, rfl⟩ : ∃ m : Nat, p = m := ⟨p.toNat, by omega⟩
  have hp' : m < zs.length := by omega
  refine ⟨zs[m], ?_⟩
  rw [subV_lst (hs _), List.length_map]
  show (L2.ixN zs.length m).bind _ = _
  rw [ixN_nat hp', some_bind, List.getElem?_map]
  simp [hp']
theorem sm_bool (c : Bool) : small (if c then 1 else 0) = true := by cases c <;> decide
theorem sm2 : small 2 = true := by decide
theorem sm48271 : small 48271 = true := by decide
theorem sm69621 : small 69621 = true := by decide
theorem sm40692 : small 40692 = true := by decide
theorem sm16807 : small 16807 = true := by decide
theorem ten18 : bin .pow (.int 10) (.int 18) h = some (.int 1000000000000000000) := by
  rw [bin_pow (by decide) (by decide) (by decide)]
  rfl
theorem draw_cell {d : Nat} (hl : b < h.length) {zs : List Int} (hs : ∀ o, (h.set b o)[s]? = some (.lst (zs.map Val.int))) {p q r t : Int} {n : Int} (h0 : 0 ≤ p) (hp : p < zs.length) : Ok (evB (cxD P d) [.set 2 (.sub (.sub (.v 0) (.con (.int 0))) (.sub (.v 0) (.con (.int 1)))),
    .setI (.v 0) (.con (.int 1)) (.bin .add (.sub (.v 0) (.con (.int 1))) (.con (.int 1))),
    .setI (.v 0) (.con (.int 2)) (.bin .mul (.bin .add (.bin .mul (.con (.int 2)) (.bi "abs" (.cons (.v 2) .nil))) (.bi "int" (.cons (.cmp .lt (.v 2) (.con (.int 0))) .nil))) (.bi "int" (.cons (.cmp .ge (.bi "abs" (.cons (.v 2) .nil)) (.bin .pow (.con (.int 10)) (.con (.int 18)))) .nil))),
    .setI (.v 0) (.con (.int 3)) (.bin .mod (.bi "int" (.cons (.bin .add (.bin .add (.bin .mul (.sub (.v 0) (.con (.int 3))) (.con (.int 48271))) (.bin .mul (.v 2) (.con (.int 69621)))) (.con (.int 11))) .nil)) (.con (.int 2147483647)))] [some (.loc b), some (.int n), none, none, none] (h.set b (bagO s p q r t))) fun fl h1 => ∃ (x : Option Val) (q' r' : Int), fl = .nx [some (.loc b), some (.int n), x, none, none] ∧ h1 = h.set b (bagO s (p + 1) q' r' t) := by
  obtain ⟨z, hz⟩ := cell_sub (q := q) (r := r) (t := t) hl hs h0 hp
  simp -implicitDefEqProofs only [okb_cons, okb_nil, okst_set, okst_setI, ok_sub, ok_v, ok_con, List.getElem?_cons_zero, List.getElem?_cons_succ, bag_sub hl, ix0, ix1, some_bind, ok_some, hz, box_int, List.set_cons_succ, List.set_cons_zero, ok_bin, binE_int, bin_add, bag_set hl, some_map, ok_bi, okr_cons, okr_nil, biE_abs, ok_ok, bin_mulL sm2, ok_cmp, cmpE_int, cmp_lt, cmp_ge, ten18, biE_intb, bin_mulR (sm_bool _), ix2, ix3, bin_mulR sm48271, bin_mulR sm69621, biE_int, bin_mod (show (0 : Int) < 2147483647 by decide)]
  exact ⟨_, _, _, rfl, rfl⟩

theorem draw_tail {d : Nat} (hl : b < h.length) {p q r t : Int} {n : Int} (h0 : 0 < n) (h1 : n < 1073741824) (x : Option Val) : Ok (evB (cxD P d) [.set 3 (.bin .mod (.bi "int" (.cons (.sub (.v 0) (.con (.int 2))) .nil)) (.v 1)),
  .ifs (.cmp .gt (.sub (.v 0) (.con (.int 2))) (.con (.int 0))) [.setI (.v 0) (.con (.int 2)) (.bin .fdiv (.sub (.v 0) (.con (.int 2))) (.v 1)),
    .ret (.v 3)] [],
  .set 4 (.bin .mod (.bi "int" (.cons (.bin .add (.sub (.v 0) (.con (.int 3))) (.bin .mul (.sub (.v 0) (.con (.int 4))) (.con (.int 40692)))) .nil)) (.con (.int 2147483647))),
  .set 4 (.bin .mod (.bi "int" (.cons (.bin .add (.bin .add (.bin .pow (.v 4) (.con (.int 3))) (.bin .mul (.sub (.v 0) (.con (.int 4))) (.con (.int 16807)))) (.con (.int 7))) .nil)) (.con (.int 2147483629))),
  .ret (.bin .mod (.bin .fdiv (.bin .mod (.bi "int" (.cons (.bin .pow (.v 4) (.con (.int 2))) .nil)) (.con (.int 2147483587))) (.con (.int 8))) (.v 1))] [some (.loc b), some (.int n), x, none, none] (h.set b (bagO s p q r t))) fun fl h1 => ∃ (k q' : Int), fl = .rt (.int k) ∧ (0 ≤ k ∧ k < n) ∧ h1 = h.set b (bagO s p q' r t) := by
  have b0 : ∀ z : Int, 0 ≤ z % n ∧ z % n < n := fun z => ⟨Int.emod_nonneg _ (by omega), Int.emod_lt_of_pos _ h0⟩
  have sq : ∀ z : Int, ((z % 2147483647).natAbs) < 2 ^ 64 := fun z => by
    have e1 := Int.emod_nonneg z (show (2147483647 : Int) ≠ 0 by decide)
    have e2 := Int.emod_lt_of_pos z (show (0 : Int) < 2147483647 by decide)
    omega
  have sq2 : ∀ z : Int, ((z % 2147483629).natAbs) < 2 ^ 64 := fun z => by
    have e1 := Int.emod_nonneg z (show (2147483629 : Int) ≠ 0 by decide)
    have e2 := Int.emod_lt_of_pos z (show (0 : Int) < 2147483629 by decide)
    omega
  have three : ∀ z : Int, bin .pow (.int (z % 2147483647)) (.int 3) (h.set b (bagO s p q r t)) = some (.int ((z % 2147483647) ^ 3)) := fun z => bin_pow (by decide) (by decide) (sq z)
  have two : ∀ z : Int, bin .pow (.int (z % 2147483629)) (.int 2) (h.set b (bagO s p q r t)) = some (.int ((z % 2147483629) ^ 2)) := fun z => bin_pow (by decide) (by decide) (sq2 z)
  simp -implicitDefEqProofs only [okb_cons, okb_nil, okst_set, okst_setI, okst_ifs, okst_ret, ok_test, ok_sub, ok_v, ok_con, List.getElem?_cons_zero, List.getElem?_cons_succ, bag_sub hl, ix2, ix3, ix4, some_bind, ok_some, box_int, List.set_cons_succ, List.set_cons_zero, ok_bin, binE_int, bin_add, bag_set hl, some_map, ok_bi, okr_cons, okr_nil, ok_ok, ok_cmp, cmpE_int, cmp_gt, truth_bl, biE_int, bin_mod h0, bin_fdiv h0 h1, bin_mulR sm40692, bin_mulR sm16807, bin_mod (show (0 : Int) < 2147483647 by decide), bin_mod (show (0 : Int) < 2147483629 by decide), bin_mod (show (0 : Int) < 2147483587 by decide), three, two, bin_fdiv (show (0 : Int) < 8 by decide) (show (8 : Int) < 1073741824 by decide)]
  by_cases hq : (0 : Int) < q
  · simp -implicitDefEqProofs only [hq, decide_true, if_true]
    exact ⟨_, _, rfl, b0 _, rfl⟩
  · simp -implicitDefEqProofs only [hq, decide_false, Bool.false_eq_true, if_false]
    exact ⟨_, _, rfl, b0 _, rfl⟩

theorem set_self {α : Type} {l : List α} {i : Nat} {a : α} (e : l[i]? = some a) : l = l.set i a := by
  apply List.ext_getElem?
  intro j
  have hl := (List.getElem?_eq_some_iff.mp e).1
  by_cases hi : j = i
  · subst hi; rw [List.getElem?_set_self hl]; exact e
  · rw [List.getElem?_set_ne (Ne.symm hi)]
theorem draw_ok (hf : P.fn "" "_law_draw" = some lw_draw) {d b s : Nat} {n : Int} {h : Heap} (B : Bag b s h) (h0 : 0 < n) (h1 : n < 1073741824) : Ok (run P (d + 1) "" "_law_draw" [.loc b, .int n] h) fun v h' => (∃ k : Int, v = .int k ∧ 0 ≤ k ∧ k < n) ∧ Gr b s h h' := by
  have hl := B.lt
  obtain ⟨zs, p, q, r, t, hb, hs, hsb, hp⟩ := B
  have fin : ∀ (p' q' r' t' : Int), 0 ≤ p' → Gr b s h (h.set b (bagO s p' q' r' t')) := fun p' q' r' t' hp' =>
    ⟨⟨zs, p', q', r', t', List.getElem?_set_self hl, by rw [List.getElem?_set_ne (Ne.symm hsb)]; exact hs, hsb, hp'⟩, by rw [List.length_set]; exact Nat.le_refl _, fun i o hi e => by rw [List.getElem?_set_ne (Ne.symm hi)]; exact e⟩
  have hs' : ∀ o, (h.set b o)[s]? = some (.lst (zs.map Val.int)) := fun o => by rw [List.getElem?_set_ne (Ne.symm hsb)]; exact hs
  refine ok_run hf rfl ?_
  show Ok (evB (cxD P d) lw_draw.body [some (.loc b), some (.int n), none, none, none] h) _
  unfold lw_draw
  dsimp only
  rw [okb_cons]
  refine (draw_1 hl (set_self hb) _ rfl).mono fun fl g1 ⟨e1, e2⟩ => ?_
  subst e1 e2
  dsimp only
  rw [okb_cons, okst_ifs]
  refine (draw_cond hl hs' _ rfl).mono fun c g1 ⟨e1, e2⟩ => ?_
  subst e2
  have tail : ∀ (x : Option Val) (p' q' r' : Int), 0 ≤ p' → Ok (evB (cxD P d) _ [some (.loc b), some (.int n), x, none, none] (h.set b (bagO s p' q' r' (t + 1)))) (RetP fun v h' => (∃ k : Int, v = .int k ∧ 0 ≤ k ∧ k < n) ∧ Gr b s h h') := fun x p' q' r' hp' => (draw_tail (P := P) (d := d) (s := s) hl (p := p') (q := q') (r := r') (t := t + 1) h0 h1 x).mono fun fl g2 ⟨k, q2, e1, k1, e2⟩ => by
    subst e1 e2
    exact ⟨⟨k, rfl, k1⟩, fin _ _ _ _ hp'⟩
  by_cases hc : q = 0 ∧ p < zs.length
  · have hc' : c = true := by rw [e1]; exact decide_eq_true hc
    rw [hc', if_pos rfl]
    refine (draw_cell hl hs' hp hc.2).mono fun fl g2 ⟨x, q', r', e1, e2⟩ => ?_
    subst e1 e2
    exact tail x _ _ _ (by omega)
  · have hc' : c = false := by rw [e1]; exact decide_eq_false hc
    rw [hc', if_neg Bool.false_ne_true, okb_nil]
    exact tail none _ _ _ hp
end
end Sc
end
section
set_option Elab.async false
set_option linter.all false
set_option maxRecDepth 100000
set_option maxHeartbeats 1000000
set_option autoImplicit false
/-! Calls, methods of lists; the shuffled list. -/
namespace Sc
open PySem

/-- a def of the module -/
structure Has (P : Pg) (g : String) (f : FnI) : Prop where
  fn : P.fn "" g = some f
  cls : P.cls g = none
  fns : P.fns g = true
def Bx (v : Val) : Prop := ∀ h, box v h = .ok v h
theorem ok_box {v : Val} (b : Bx v) (h : Heap) (P : Val → Heap → Prop) : Ok (box v h) P = P v h := by rw [b h]; rfl
section
variable {P : Pg} {h : Heap} {d : Nat}
theorem callG_has {g : String} {f : FnI} (H : Has P g f) (vs : List Val) : callG (cxD P d) g vs h = run P d "" g vs h := by
  unfold callG
  rw [show (cxD P d).cls g = none from H.cls]
  dsimp only
  rw [if_pos (show (cxD P d).fns g = true from H.fns)]
theorem Gr.refl {b s : Nat} (B : Bag b s h) : Gr b s h h := ⟨B, Nat.le_refl _, fun _ _ _ e => e⟩
theorem Gr.trans {b s : Nat} {h1 h2 : Heap} (x : Gr b s h h1) (y : Gr b s h1 h2) : Gr b s h h2 := ⟨y.bag, Nat.le_trans x.len y.len, fun i o hi e => y.keep i o hi (x.keep i o hi e)⟩
theorem get_push {i : Nat} {o : Obj} (e : h[i]? = some o) (u : List Obj) : (h ++ u)[i]? = some o := by
  rw [List.getElem?_append_left (List.getElem?_eq_some_iff.mp e).1]; exact e
theorem get_new (o : Obj) : (h ++ [o])[h.length]? = some o := by
  rw [List.getElem?_append_right (Nat.le_refl _), Nat.sub_self]; rfl
/-- something new -/
theorem Bag.push {b s : Nat} (B : Bag b s h) (o : List Obj) : Bag b s (h ++ o) := by
  obtain ⟨zs, p, q, r, t, hb, hs, hsb, hp⟩ := B
  exact ⟨zs, p, q, r, t, get_push hb o, get_push hs o, hsb, hp⟩
theorem Bag.set {b s : Nat} (B : Bag b s h) {i : Nat} (hb : i ≠ b) (hs : i ≠ s) (o : Obj) : Bag b s (h.set i o) := by
  obtain ⟨zs, p, q, r, t, hb', hs', hsb, hp⟩ := B
  exact ⟨zs, p, q, r, t, by rw [List.getElem?_set_ne hb]; exact hb', by rw [List.getElem?_set_ne hs]; exact hs', hsb, hp⟩
theorem Gr.push {b s : Nat} (B : Bag b s h) (o : List Obj) : Gr b s h (h ++ o) := ⟨B.push o, by rw [List.length_append]; omega, fun i u _ e => get_push e o⟩
theorem Gr.pushed {b s : Nat} {h0 : Heap} (g : Gr b s h0 h) (o : List Obj) : Gr b s h0 (h ++ o) := g.trans (.push g.bag o)
/-- a list of one's own is written: i is new since h0 -/
theorem Gr.write {b s : Nat} {h0 : Heap} (B : Bag b s h0) (g : Gr b s h0 h) {i : Nat} (hi : h0.length ≤ i) (o : Obj) : Gr b s h0 (h.set i o) := by
  have e1 := B.lt
  have e2 := B.lts
  refine ⟨g.bag.set (by omega) (by omega) o, by rw [List.length_set]; exact g.len, fun j u hj e => ?_⟩
  have : i ≠ j := fun z => by
    have := (List.getElem?_eq_some_iff.mp e).1
    omega
  rw [List.getElem?_set_ne this]; exact g.keep j u hj e
/-! ### methods of lists -/
variable {n : Nat} {xs : List Val} {cx : Cx}
theorem recv_append (e : h[n]? = some (.lst xs)) : recvE cx "append" (.loc n) h = some (methB "list.append" (.loc n)) := by
  simp [recvE, insOf_lst e, bm, e]
theorem recv_pop (e : h[n]? = some (.lst xs)) : recvE cx "pop" (.loc n) h = some (methB "list.pop" (.loc n)) := by
  simp [recvE, insOf_lst e, bm, e]
theorem recv_clear (e : h[n]? = some (.lst xs)) : recvE cx "clear" (.loc n) h = some (methB "list.clear" (.loc n)) := by
  simp [recvE, insOf_lst e, bm, e]
theorem meth_append (e : h[n]? = some (.lst xs)) (v : Val) (hl : xs.length < lim) : methB "list.append" (.loc n) [v] h = .ok .non (h.set n (.lst (xs ++ [v]))) := by
  simp [methB, bAppend, chL, e, hl]
theorem meth_clear (e : h[n]? = some (.lst xs)) : methB "list.clear" (.loc n) [] h = .ok .non (h.set n (.lst [])) := by
  simp [methB, bClearL, chL, e]
theorem seqIx {i n : Nat} (h : i < n) : seqIndex? (i : Int) n = some i := by
  unfold seqIndex?
  simp
  omega
theorem chL_lst {f : List Val → Option (Val × List Val)} {v : Val} {ys : List Val} (e : h[n]? = some (.lst xs)) (k : f xs = some (v, ys)) : chL (.loc n) h f = .ok v (h.set n (.lst ys)) := by
  unfold chL
  dsimp only
  rw [e]
  dsimp only
  rw [k]
theorem meth_pop (e : h[n]? = some (.lst xs)) {i : Nat} (hi : i < xs.length) (hz : i < 2 ^ 62) : methB "list.pop" (.loc n) [.int i] h = .ok xs[i] (h.set n (.lst (xs.eraseIdx i))) := by
  have c : -(2 ^ 63 : Int) ≤ (i : Int) ∧ (i : Int) < 2 ^ 63 := ⟨Int.le_trans (by decide) (Int.natCast_nonneg i), Int.lt_of_lt_of_le (Int.ofNat_lt.mpr hz) (by decide)⟩
  have q : methB "list.pop" (.loc n) [.int i] h = bPop (.loc n) [.int i] h := by simp [methB]
  rw [q]
  unfold bPop
  refine chL_lst e ?_
  rw [if_pos c, seqIx hi, Option.bind_some, List.getElem?_eq_getElem hi, Option.map_some]
theorem biE_list (e : h[n]? = some (.lst xs)) : biE cx "list" [.loc n] h = .ok (.tl xs) h := by
  simp [biE, biV, b1, bList, seqOf_lst e, ofOpt]
theorem rng1E_nat {n : Nat} (hn : n < 2 ^ 61) : rng1E (.int n) = some ⟨rngV 0 n, []⟩ := by
  have : big (n : Int) = true := by
    unfold big
    rw [Bool.and_eq_true, decide_eq_true_eq, decide_eq_true_eq]
    constructor <;> omega
  simp [rng1E, this]
theorem rngV_len (a : Int) (n : Nat) : (rngV a n).length = n := by simp [rngV]
end
theorem Bx.all {vs : List Val} (hb : ∀ v ∈ vs, Bx v) {i : Nat} (hi : i < vs.length) : Bx vs[i] := hb _ (List.getElem_mem hi)
theorem perm_erase {α : Type} : ∀ {l : List α} {i : Nat} (hi : i < l.length), (l[i] :: l.eraseIdx i).Perm l
  | a :: l, 0, _ => .refl _
  | a :: l, i + 1, hi => by
    have hi' : i < l.length := Nat.lt_of_succ_lt_succ hi
    have := perm_erase (l := l) (i := i) hi'
    simp only [List.getElem_cons_succ, List.eraseIdx_cons_succ]
    exact (List.Perm.swap a l[i] _).trans (this.cons a)
section
variable {P : Pg}
/-- the list in a drawn order -/
theorem mixed_ok (hd : Has P "_law_draw" lw_draw) (hf : P.fn "" "_law_mixed" = some lw_mixed) {d b s n : Nat} {vs : List Val} {h : Heap} (B : Bag b s h) (hn : h[n]? = some (.lst vs)) (hnb : n ≠ b) (hz : vs.length ≤ 100000) (hb : ∀ v ∈ vs, Bx v) :
    Ok (run P (d + 2) "" "_law_mixed" [.loc b, .loc n] h) fun v h' => ∃ f us, v = .loc f ∧ h.length ≤ f ∧ h'[f]? = some (.lst us) ∧ us.Perm vs ∧ Gr b s h h' := by
  have hlim : 100000 < lim := by unfold lim; rw [sizeLine_eq]; omega
  refine ok_run hf rfl ?_
  show Ok (evB (cxD P (d + 1)) lw_mixed.body [some (.loc b), some (.loc n), none, none, none] h) _
  unfold lw_mixed
  dsimp only
  have e1 : (h ++ [.lst vs] ++ [.lst []])[n]? = some (.lst vs) := get_push (get_push hn _) _
  have e2 : (h ++ [.lst vs] ++ [.lst []])[h.length]? = some (.lst vs) := get_push (get_new _) _
  have e3 : (h ++ [Obj.lst vs] ++ [.lst []])[h.length + 1]? = some (.lst []) := by
    have := get_new (h := h ++ [Obj.lst vs]) (.lst [])
    rwa [List.length_append] at this
  simp -implicitDefEqProofs only [okb_cons, okb_nil, okst_set, okst_ret, ok_bi, okr_cons, okr_nil, ok_v, List.getElem?_cons_zero, List.getElem?_cons_succ, biE_list hn, ok_ok, box_tl, List.set_cons_succ, List.set_cons_zero, ok_lst, oki_nil, List.length_nil, Nat.zero_le, true_and, okst_for, oks_rng1, biE_len e1, List.length_append, List.length_cons, Nat.zero_add, rng1E_nat (show vs.length < 2 ^ 61 by omega), ok_some]
  refine ok_loopS (fun dn e g => (∃ x, e = [some (.loc b), some (.loc n), some (.loc h.length), some (.loc (h.length + 1)), x]) ∧ Gr b s h g ∧ ∃ left found, g[h.length]? = some (.lst left) ∧ g[h.length + 1]? = some (.lst found) ∧ (found ++ left).Perm vs ∧ found.length = dn.length) (fun _ _ _ _ _ _ => rfl) ?_ ?_ _ [] _ _ rfl ⟨⟨_, rfl⟩, (Gr.push B _).pushed _, vs, [], e2, e3, .refl _, rfl⟩
  · rintro dn y r e g hw ⟨⟨x, rfl⟩, G, left, found, hl, hfo, hp, hlen⟩
    have hleft : 0 < left.length := by
      have q1 := hp.length_eq
      have q2 := congrArg List.length hw
      rw [show (Walk.items ⟨rngV 0 vs.length, []⟩) = rngV 0 vs.length from rfl, rngV_len, List.length_append, List.length_cons] at q2
      rw [List.length_append] at q1
      omega
    have hll : left.length ≤ vs.length := by
      have q1 := hp.length_eq
      rw [List.length_append] at q1
      omega
    simp -implicitDefEqProofs only [asg, List.set_cons_succ, List.set_cons_zero, okb_cons, okb_nil, okst_ex, ok_meth, ok_v, List.getElem?_cons_zero, List.getElem?_cons_succ, recv_append hfo, oki_cons, oki_nil, recv_pop hl, ok_call, ok_bi, okr_cons, okr_nil, biE_len hl, ok_ok, box_loc, box_int, callG_has hd]
    refine (draw_ok hd.fn G.bag (by omega) (by omega)).mono fun v g1 ⟨⟨k, ek, k0, k1⟩, G1⟩ => ?_
    subst ek
    have l1 := G1.keep _ _ (by have := B.lt; omega) hl
    have f1 := G1.keep _ _ (by have := B.lt; omega) hfo
    obtain ⟨j, rfl⟩ : ∃ j : Nat, k = j := ⟨k.toNat, by omega⟩
    have hj : j < left.length := by omega
    have bx : Bx left[j] := hb _ (hp.subset (List.mem_append_right _ (List.getElem_mem hj)))
    simp -implicitDefEqProofs only [box_int, meth_pop l1 hj (by omega), ok_ok, ok_box bx]
    have f2 : (g1.set h.length (.lst (left.eraseIdx j)))[h.length + 1]? = some (.lst found) := by
      rw [List.getElem?_set_ne (by omega)]; exact f1
    have q1 := hp.length_eq
    rw [List.length_append] at q1
    simp -implicitDefEqProofs only [meth_append f2 left[j] (by omega), ok_ok]
    refine ⟨⟨_, rfl⟩, ((G.trans G1).write B (Nat.le_refl _) _).write B (Nat.le_succ _) _, left.eraseIdx j, found ++ [left[j]], ?_, ?_, ?_, ?_⟩
    · rw [List.getElem?_set_ne (by omega), List.getElem?_set_self (List.getElem?_eq_some_iff.mp l1).1]
    · rw [List.getElem?_set_self (by rw [List.length_set]; exact (List.getElem?_eq_some_iff.mp f1).1)]
    · rw [List.append_assoc]
      exact ((perm_erase hj).append_left found).trans hp
    · rw [List.length_append, List.length_append, hlen]; rfl
  · rintro e g ⟨⟨x, rfl⟩, G, left, found, hl, hfo, hp, hlen⟩
    have hlen : found.length = vs.length := by rw [hlen]; exact rngV_len 0 vs.length
    have hn : left = [] := by
      have q1 := hp.length_eq
      rw [List.length_append, hlen] at q1
      exact List.eq_nil_of_length_eq_zero (by omega)
    subst hn
    rw [List.append_nil] at hp
    dsimp only
    simp -implicitDefEqProofs only [ok_v, List.getElem?_cons_zero, List.getElem?_cons_succ, retP_rt]
    exact ⟨_, found, rfl, Nat.le_succ _, hfo, hp, G⟩
end
end Sc
end
section
set_option Elab.async false
set_option linter.all false
set_option maxRecDepth 100000
set_option maxHeartbeats 1000000
set_option autoImplicit false
/-! Values that are equal; situations by their numbers. -/
namespace Sc
open PySem

/-- nothing has changed, things have come -/
structure Kp (h h' : Heap) : Prop where
  len : h.length ≤ h'.length
  keep : ∀ (i : Nat) (o : Obj), h[i]? = some o → h'[i]? = some o
theorem Kp.refl (h : Heap) : Kp h h := ⟨Nat.le_refl _, fun _ _ e => e⟩
theorem Kp.trans {h h1 h2 : Heap} (x : Kp h h1) (y : Kp h1 h2) : Kp h h2 := ⟨Nat.le_trans x.len y.len, fun i o e => y.keep i o (x.keep i o e)⟩
theorem Kp.push (h : Heap) (o : List Obj) : Kp h (h ++ o) := ⟨by rw [List.length_append]; omega, fun i u e => get_push e o⟩
theorem Kp.gr {b s : Nat} {h h' : Heap} (B : Bag b s h) (k : Kp h h') : Gr b s h h' := by
  refine ⟨?_, k.len, fun i o _ e => k.keep i o e⟩
  obtain ⟨zs, p, q, r, t, hb, hs, x⟩ := B
  exact ⟨zs, p, q, r, t, k.keep _ _ hb, k.keep _ _ hs, x⟩
theorem Kp.bag {b s : Nat} {h h' : Heap} (k : Kp h h') (B : Bag b s h) : Bag b s h' := (k.gr B).bag

/-! ### equality -/
theorem pyEq_str (h : Heap) (x y : Str) : pyEq h (.str x) (.str y) = some (x == y) := id rfl
def tieS (i : Nat) : Str := (["new", "new", "new", "known", "known", "out", "out", "in", "in", "both", "both"] : List Str).getD i ""
def partS (i : Nat) : Str := (["none", "caller", "callee", "caller", "callee", "caller", "callee", "caller", "callee", "caller", "callee"] : List Str).getD i ""
/-- the i-th situation -/
def sv (i : Nat) : Val := .tup [.str (tieS i), .str (partS i)]
def S (l : List Nat) : List Val := l.map sv
def all11 : List Nat := [0, 1, 2, 3, 4, 5, 6, 7, 8, 9, 10]
def In11 (l : List Nat) : Prop := ∀ i ∈ l, i < 11
theorem S_nil : S [] = [] := rfl
theorem S_cons (i : Nat) (l : List Nat) : S (i :: l) = sv i :: S l := id rfl
theorem S_len (l : List Nat) : (S l).length = l.length := by simp [S]
theorem S_app (l m : List Nat) : S l ++ S m = S (l ++ m) := by simp [S]
theorem py_sv (h : Heap) (i : Nat) : py h (sv i) = some (.tuple [.str (tieS i), .str (partS i)]) := id rfl
def pd (i : Nat) : PyData := .tuple [.str (tieS i), .str (partS i)]
theorem pd_eqv : ∀ i, i < 11 → ∀ j, j < 11 → (pd i).eqv (pd j) = decide (i = j) := by decide +kernel
theorem optAll_S (h : Heap) : ∀ l : List Nat, optAll (py h) (S l) = some (l.map pd)
  | [] => rfl
  | i :: l => by
    rw [S_cons]
    unfold optAll
    rw [optAll_S h l, py_sv]
    rfl
theorem any_pd {i : Nat} (hi : i < 11) : ∀ {l : List Nat}, In11 l → ((l.map pd).any fun e => e.eqv (pd i)) = l.contains i
  | [], _ => rfl
  | j :: l, hl => by
    rw [List.map_cons, List.any_cons, any_pd hi fun k hk => hl k (List.mem_cons_of_mem _ hk), pd_eqv j (hl j (List.mem_cons_self ..)) i hi, List.contains_cons]
    congr 1
    by_cases e : i = j
    · subst e; simp
    · have e' : ¬ j = i := fun z => e z.symm
      simp [e, e']
theorem anyEq_S (h : Heap) {i : Nat} {l : List Nat} (hi : i < 11) (hl : In11 l) : anyEq h (sv i) (S l) = some (l.contains i) := by
  unfold anyEq
  rw [py_sv, optAll_S]
  exact congrArg some (any_pd hi hl)
theorem eqvAll_pd : ∀ {l m : List Nat}, In11 l → In11 m → PyData.eqvAll (l.map pd) (m.map pd) = decide (l = m)
  | [], [], _, _ => rfl
  | [], _ :: _, _, _ => rfl
  | _ :: _, [], _, _ => rfl
  | i :: l, j :: m, hl, hm => by
    have e : PyData.eqvAll ((i :: l).map pd) ((j :: m).map pd) = ((pd i).eqv (pd j) && PyData.eqvAll (l.map pd) (m.map pd)) := by
      rw [List.map_cons, List.map_cons]; simp only [PyData.eqvAll]
    rw [e, eqvAll_pd (fun k hk => hl k (List.mem_cons_of_mem _ hk)) (fun k hk => hm k (List.mem_cons_of_mem _ hk)), pd_eqv i (hl i (List.mem_cons_self ..)) j (hm j (List.mem_cons_self ..))]
    by_cases e1 : i = j <;> by_cases e2 : l = m <;> simp [e1, e2]
/-- a list, or a tuple, of these -/
inductive Row (h : Heap) : Val → List Val → Prop
  | tup (vs : List Val) : Row h (.tup vs) vs
  | tuq (vs : List Val) : Row h (.tuq vs) vs
  | loc {n : Nat} {vs : List Val} : h[n]? = some (.lst vs) → Row h (.loc n) vs
theorem Row.kp {h h' : Heap} {w : Val} {vs : List Val} (r : Row h w vs) (k : Kp h h') : Row h' w vs := by
  cases r with
  | tup => exact .tup _
  | tuq => exact .tuq _
  | loc e => exact .loc (k.keep _ _ e)
theorem optAll_toPy (h : Heap) (n : Nat) : ∀ l : List Nat, optAll (toPy h (n + 3)) (S l) = some (l.map pd)
  | [] => rfl
  | i :: l => by
    rw [S_cons]
    unfold optAll
    rw [optAll_toPy h n l]
    rfl
theorem pyEq_locs (h : Heap) {n m : Nat} {l k : List Nat} (hn : h[n]? = some (.lst (S l))) (hm : h[m]? = some (.lst (S k))) (hl : In11 l) (hk : In11 k) : pyEq h (.loc n) (.loc m) = some (decide (l = k)) := by
  have e1 : py h (.loc n) = some (.list (l.map pd)) := by
    show (match h[n]? with | some (.lst vs) => (optAll (toPy h 8) vs).map PyData.list | _ => none) = _
    rw [hn]
    show (optAll (toPy h 8) (S l)).map PyData.list = _
    rw [optAll_toPy h 5 l]; rfl
  have e2 : py h (.loc m) = some (.list (k.map pd)) := by
    show (match h[m]? with | some (.lst vs) => (optAll (toPy h 8) vs).map PyData.list | _ => none) = _
    rw [hm]
    show (optAll (toPy h 8) (S k)).map PyData.list = _
    rw [optAll_toPy h 5 k]; rfl
  unfold pyEq
  rw [e1, e2]
  show some (PyData.eqv (.list (l.map pd)) (.list (k.map pd))) = _
  have e3 : PyData.eqv (.list (l.map pd)) (.list (k.map pd)) = PyData.eqvAll (l.map pd) (k.map pd) := by simp only [PyData.eqv]
  rw [e3, eqvAll_pd hl hk]
theorem pyEq_tl (h : Heap) {m : Nat} {l k : List Nat} (hm : h[m]? = some (.lst (S k))) (hl : In11 l) (hk : In11 k) : pyEq h (.tl (S l)) (.loc m) = some (decide (l = k)) := by
  have e1 : py h (.tl (S l)) = some (.list (l.map pd)) := by
    show (optAll (toPy h 8) (S l)).map PyData.list = _
    rw [optAll_toPy h 5 l]; rfl
  have e2 : py h (.loc m) = some (.list (k.map pd)) := by
    show (match h[m]? with | some (.lst vs) => (optAll (toPy h 8) vs).map PyData.list | _ => none) = _
    rw [hm]
    show (optAll (toPy h 8) (S k)).map PyData.list = _
    rw [optAll_toPy h 5 k]; rfl
  unfold pyEq
  rw [e1, e2]
  show some (PyData.eqv (.list (l.map pd)) (.list (k.map pd))) = _
  have e3 : PyData.eqv (.list (l.map pd)) (.list (k.map pd)) = PyData.eqvAll (l.map pd) (k.map pd) := by simp only [PyData.eqv]
  rw [e3, eqvAll_pd hl hk]
theorem pyEq_tls (h : Heap) {l k : List Nat} (hl : In11 l) (hk : In11 k) : pyEq h (.tl (S l)) (.tl (S k)) = some (decide (l = k)) := by
  have e1 : ∀ l, py h (.tl (S l)) = some (.list (l.map pd)) := fun l => by
    show (optAll (toPy h 8) (S l)).map PyData.list = _
    rw [optAll_toPy h 5 l]; rfl
  unfold pyEq
  rw [e1, e1]
  show some (PyData.eqv (.list (l.map pd)) (.list (k.map pd))) = _
  have e3 : PyData.eqv (.list (l.map pd)) (.list (k.map pd)) = PyData.eqvAll (l.map pd) (k.map pd) := by simp only [PyData.eqv]
  rw [e3, eqvAll_pd hl hk]
theorem pyEq_sv (h : Heap) {i j : Nat} (hi : i < 11) (hj : j < 11) : pyEq h (sv i) (sv j) = some (decide (i = j)) := by
  unfold pyEq
  rw [py_sv, py_sv]
  exact congrArg some (pd_eqv i hi j hj)
/-- x in a row -/
theorem isIn_row (h : Heap) {i : Nat} {w : Val} {l : List Nat} (r : Row h w (S l)) (hi : i < 11) (hl : In11 l) : isIn (sv i) w h = some (l.contains i) := by
  cases r with
  | tup => exact anyEq_S h hi hl
  | tuq => exact anyEq_S h hi hl
  | loc e =>
    rename_i n
    show (match h[n]? with
    | some (.lst vs) => anyEq h (sv i) vs
    | some (.fz vs) => anyEq h (sv i) vs
    | some (.dct kvs) => if (keyOf (sv i)).isSome then some (kvs.any fun p => Val.eqb p.1 (sv i)) else none
    | _ => none) = _
    rw [e]
    exact anyEq_S h hi hl
theorem isIn_tl (h : Heap) {i : Nat} {l : List Nat} (hi : i < 11) (hl : In11 l) : isIn (sv i) (.tl (S l)) h = some (l.contains i) := anyEq_S h hi hl
theorem Bx_sv (i : Nat) : Bx (sv i) := fun _ => rfl
theorem Bx_S {l : List Nat} : ∀ v ∈ S l, Bx v := fun v hv => by
  obtain ⟨i, _, rfl⟩ := List.mem_map.mp hv
  exact Bx_sv i
end Sc
end
section
set_option Elab.async false
set_option linter.all false
set_option maxRecDepth 100000
set_option maxHeartbeats 1000000
set_option autoImplicit false
/-! Rules. -/
namespace Sc
open PySem K31

theorem ok_if {α : Type} (c : Prop) [Decidable c] (a b : R α) (P : α → Heap → Prop) : Ok (if c then a else b) P = if c then Ok a P else Ok b P := by split <;> rfl
theorem Ok.toEq {α : Type} {r : R α} {x : α} {h : Heap} (k : Ok r fun a g => a = x ∧ g = h) : r = .ok x h := by
  obtain ⟨a, g, e, e1, e2⟩ := k.eq
  rw [e, e1, e2]
theorem flat_filter (p : Nat → Bool) (g : Val → List Val) : ∀ {l : List Nat}, (∀ i ∈ l, g (sv i) = if p i = true then [sv i] else []) → (S l).flatMap g = S (l.filter p)
  | [], _ => rfl
  | i :: l, hg => by
    rw [S_cons, List.flatMap_cons, hg i (List.mem_cons_self ..), flat_filter p g fun j hj => hg j (List.mem_cons_of_mem _ hj), List.filter_cons]
    by_cases c : p i = true
    · rw [if_pos c, if_pos c, S_cons]; rfl
    · rw [if_neg c, if_neg c]; rfl
theorem flat_mapS (p : Nat → Val) (g : Val → List Val) : ∀ {l : List Nat}, (∀ i ∈ l, g (sv i) = [p i]) → (S l).flatMap g = l.map p
  | [], _ => rfl
  | i :: l, hg => by
    rw [S_cons, List.flatMap_cons, hg i (List.mem_cons_self ..), flat_mapS p g fun j hj => hg j (List.mem_cons_of_mem _ hj)]
    rfl
/-- [x for x in .. if p] over situations -/
theorem ok_filter {w : Walk} {f : Val → Heap → R (List Val)} {h : Heap} {l : List Nat} {Q : List Val → Heap → Prop} (p : Nat → Bool) (hi : w.items = S l) (hst : w.stays h = true) (hf : ∀ i ∈ l, Ok (f (sv i) h) fun a g => a = (if p i = true then [sv i] else []) ∧ g = h) (k : Q (S (l.filter p)) h) : Ok (loopL w f w.items h) Q := by
  rw [hi]
  have e : loopL w f (S l) h = .ok ((S l).flatMap fun x => match f x h with | .ok a _ => a | _ => []) h := by
    refine loopL_pure _ hst _ fun x hx => ?_
    obtain ⟨i, hi, rfl⟩ := List.mem_map.mp hx
    rw [(hf i hi).toEq]
  rw [e, flat_filter p _ fun i hi => by rw [(hf i hi).toEq]]
  exact k
theorem ok_mapS {w : Walk} {f : Val → Heap → R (List Val)} {h : Heap} {l : List Nat} {Q : List Val → Heap → Prop} (p : Nat → Val) (hi : w.items = S l) (hst : w.stays h = true) (hf : ∀ i ∈ l, Ok (f (sv i) h) fun a g => a = [p i] ∧ g = h) (k : Q (l.map p) h) : Ok (loopL w f w.items h) Q := by
  rw [hi]
  have e : loopL w f (S l) h = .ok ((S l).flatMap fun x => match f x h with | .ok a _ => a | _ => []) h := by
    refine loopL_pure _ hst _ fun x hx => ?_
    obtain ⟨i, hi, rfl⟩ := List.mem_map.mp hx
    rw [(hf i hi).toEq]
  rw [e, flat_mapS p _ fun i hi => by rw [(hf i hi).toEq]]
  exact k
theorem sam_sv (i : Nat) : Val.sam (sv i) (sv i) = true := by simp [sv, Val.sam, Val.same]
theorem same_S : ∀ l : List Nat, Val.same (S l) (S l) = true
  | [] => rfl
  | i :: l => by rw [S_cons]; simp only [Val.same, sam_sv, same_S l, Bool.and_self]
theorem row_it {h : Heap} {w : Val} {l : List Nat} (r : Row h w (S l)) : ∃ k, itE w h = some ⟨S l, k⟩ ∧ (Walk.mk (S l) k).stays h = true := by
  cases r with
  | tup => exact ⟨[], rfl, rfl⟩
  | tuq => exact ⟨[], rfl, rfl⟩
  | loc e =>
    rename_i n
    refine ⟨[(n, S l)], ?_, ?_⟩
    · show (listOf h (.loc n)).map _ = _
      rw [listOf_lst e]; rfl
    · show ((match listOf h (.loc n) with | some ys => Val.same (S l) ys | none => false) && true) = true
      rw [listOf_lst e]
      simp only [same_S, Bool.and_self]
theorem row_seq {h : Heap} {w : Val} {vs : List Val} (r : Row h w vs) : seqOf h w = some vs := by
  cases r with
  | tup => rfl
  | tuq => rfl
  | loc e => exact seqOf_lst e

def cRule : ClsI := { props := [], attrs := ["own_kept"], meths := ["__init__", "situations", "__len__", "__contains__", "lets", "__call__", "calls", "is_over", "__and__", "__or__", "__invert__", "same", "within", "text", "first_not_let", "kept_by"], cms := ["new", "once", "each_way", "free", "read"], sups := ["Rule"], exc := false, fields := [] }
/-- the text has rules -/
structure RP (P : Pg) : Prop where
  cls : P.cls "Rule" = some cRule
  sit : P.con "SITUATIONS" = some (.tup (S all11))
  is_row : Has P "is_row" ir_is_row
  is_sit : Has P "is_situation" ir_is_situation
  init : P.fn "Rule" "__init__" = some ir_RuleX_initX
  sits : P.fn "Rule" "situations" = some ir_Rule_situations
  len : P.fn "Rule" "__len__" = some ir_RuleX_lenX
  cont : P.fn "Rule" "__contains__" = some ir_RuleX_containsX
  and_ : P.fn "Rule" "__and__" = some ir_RuleX_andX
  or_ : P.fn "Rule" "__or__" = some ir_RuleX_orX
  inv : P.fn "Rule" "__invert__" = some ir_RuleX_invertX
  same : P.fn "Rule" "same" = some ir_Rule_same
  within : P.fn "Rule" "within" = some ir_Rule_within
  new : P.fn "Rule" "new" = some ir_Rule_new
  once : P.fn "Rule" "once" = some ir_Rule_once
  each : P.fn "Rule" "each_way" = some ir_Rule_each_way
  free : P.fn "Rule" "free" = some ir_Rule_free
  kinds : ["NoneType", "bool", "int", "str", "tuple", "list", "dict", "Rule"].all P.kinds.contains = true
  nocls : ["NoneType", "bool", "int", "str", "tuple", "list", "dict"].all (fun k => (P.cls k).isNone) = true
def RuleAt (h : Heap) (r : Nat) (l : List Nat) : Prop := h[r]? = some (.ins "Rule" [("own_kept", .tuq (S l))])
theorem RuleAt.kp {h h' : Heap} {r : Nat} {l : List Nat} (a : RuleAt h r l) (k : Kp h h') : RuleAt h' r l := k.keep _ _ a
theorem RuleAt.gr {b s : Nat} {h h' : Heap} {r : Nat} {l : List Nat} (a : RuleAt h r l) (k : Gr b s h h') (hb : r ≠ b) : RuleAt h' r l := k.keep _ _ hb a
section
variable {P : Pg} {h : Heap} {d : Nat}
theorem attr_kept (p : RP P) {r : Nat} {l : List Nat} (a : RuleAt h r l) : attrE (cxD P d) "own_kept" (.loc r) h = .ok (.tuq (S l)) h := by
  unfold attrE
  rw [insOf_ins a]
  dsimp only
  rw [p.cls]
  simp [cRule, ofOpt]
theorem recv_rule (p : RP P) {r : Nat} {l : List Nat} (a : RuleAt h r l) {m : String} (hm : cRule.meths.contains m = true) (hn : m ≠ "own_kept") : recvE (cxD P d) m (.loc r) h = some fun vs h1 => run P d "Rule" m (.loc r :: vs) h1 := by
  unfold recvE
  dsimp only
  rw [insOf_ins a]
  dsimp only
  rw [p.cls]
  dsimp only
  have e : List.lookup m [("own_kept", Val.tuq (S l))] = none := by
    rw [List.lookup_cons, beq_eq_false_iff_ne.mpr hn]; rfl
  rw [hm, e]
  rfl
theorem callM_rule (p : RP P) {m : String} (hm : cRule.meths.contains m = true) (vs : List Val) : callM (cxD P d) "Rule" m vs h = run P d "Rule" m vs h := by
  have q : dun (cxD P d) "Rule" m = true := by
    unfold dun
    rw [show (cxD P d).cls "Rule" = some cRule from p.cls]
    show (!cRule.exc && cRule.meths.contains m) = true
    rw [hm]; rfl
  unfold callM
  rw [if_pos q]
theorem kind_mem (p : RP P) {k : String} (hk : k ∈ ["NoneType", "bool", "int", "str", "tuple", "list", "dict", "Rule"]) : P.kinds.contains k = true := List.all_eq_true.mp p.kinds k hk
theorem isa_base (p : RP P) {k t : String} (hk : k ∈ ["NoneType", "bool", "int", "str", "tuple", "list", "dict"]) : isa (cxD P d) k t = (k == t || (k == "bool" && t == "int")) := by
  unfold isa
  rw [show (cxD P d).cls k = none from Option.isNone_iff_eq_none.mp (List.all_eq_true.mp p.nocls k hk)]
  exact Bool.or_false _
/-- isinstance of a plain value -/
theorem isE_base (p : RP P) {k : String} {x : Val} {ts : List String} (hx : kindOf h x = some k) (hi : insOf h x = none) (hk : k ∈ ["NoneType", "bool", "int", "str", "tuple", "list", "dict"]) (ht : ∀ t ∈ ts, t ∈ ["NoneType", "bool", "int", "str", "tuple", "list", "dict", "Rule"]) : isE (cxD P d) ts x h = .ok (.bl (ts.any fun t => k == t || (k == "bool" && t == "int"))) h := by
  have e1 : ts.all (cxD P d).kinds.contains = true := List.all_eq_true.mpr fun t h => kind_mem p (ht t h)
  have e2 : (cxD P d).kinds.contains k = true := kind_mem p (List.mem_append_left ["Rule"] hk)
  have e3 : (isa (cxD P d) k) = fun t => (k == t || (k == "bool" && t == "int")) := funext fun t => isa_base p hk
  have e4 : insOk (cxD P d) h x = true := by unfold insOk; rw [hi]
  unfold isE
  rw [hx]
  dsimp only
  rw [if_pos (by rw [e1, e2, e4]; rfl), e3]
end
end Sc
end
section
set_option Elab.async false
set_option linter.all false
set_option maxRecDepth 100000
set_option maxHeartbeats 1000000
set_option autoImplicit false
/-! Rules: what their methods do. -/
namespace Sc
open PySem K31

theorem row_ins {h : Heap} {w : Val} {vs : List Val} (r : Row h w vs) : insOf h w = none := by
  cases r with
  | tup => rfl
  | tuq => rfl
  | loc e => exact insOf_lst e
section
variable {cx : Cx} {h : Heap}
theorem cmpE_eq (x y : Val) : cmpE cx .eq x y h = ofOpt ((pyEq h x y).map .bl) h := id rfl
theorem cmpE_ne (x y : Val) : cmpE cx .ne x y h = ofOpt (((pyEq h x y).map (!·)).map .bl) h := id rfl
theorem cmpE_in {x y : Val} (hy : insOf h y = none) : cmpE cx .in_ x y h = ofOpt ((isIn x y h).map .bl) h := by
  unfold cmpE; rw [hy]; rfl
theorem cmpE_nin {x y : Val} (hy : insOf h y = none) : cmpE cx .nin x y h = ofOpt (((isIn x y h).map (!·)).map .bl) h := by
  unfold cmpE; rw [hy]; rfl
theorem allBls_map {α : Type} (f : α → Bool) : ∀ l : List α, allBls (l.map fun j => Val.bl (f j)) = some (l.map f)
  | [] => rfl
  | a :: l => by
    rw [List.map_cons]
    unfold allBls
    rw [allBls_map f l]; rfl
theorem biE_any {α : Type} (f : α → Bool) (l : List α) : biE cx "any" [.tl (l.map fun j => Val.bl (f j))] h = .ok (.bl (l.any f)) h := by
  have e : bAny (.tl (l.map fun j => Val.bl (f j))) h = some (.bl (l.any f)) := by
    show ((allBls (l.map fun j => Val.bl (f j)))).map _ = _
    rw [allBls_map]; simp
  simp [biE, biV, b1, e, ofOpt]
theorem biE_all {α : Type} (f : α → Bool) (l : List α) : biE cx "all" [.tl (l.map fun j => Val.bl (f j))] h = .ok (.bl (l.all f)) h := by
  have e : bAll (.tl (l.map fun j => Val.bl (f j))) h = some (.bl (l.all f)) := by
    show ((allBls (l.map fun j => Val.bl (f j)))).map _ = _
    rw [allBls_map]; simp
  simp [biE, biV, b1, e, ofOpt]
theorem biE_tuple (vs : List Val) : biE cx "tuple" [.tl vs] h = .ok (.tuq vs) h := by simp [biE, biV, b1, bTuple, listOf, ofOpt]
theorem biE_listq (vs : List Val) : biE cx "list" [.tuq vs] h = .ok (.tl vs) h := by simp [biE, biV, b1, bList, seqOf, ofOpt]
theorem biE_listt (vs : List Val) : biE cx "list" [.tup vs] h = .ok (.tl vs) h := by simp [biE, biV, b1, bList, seqOf, ofOpt]
theorem biE_lenq (vs : List Val) : biE cx "len" [.tuq vs] h = .ok (.int vs.length) h := by simp [biE, insOf, bLen, seqOf, ofOpt]
theorem itE_tup (vs : List Val) : itE (.tup vs) h = some ⟨vs, []⟩ := id rfl
theorem itE_tuq (vs : List Val) : itE (.tuq vs) h = some ⟨vs, []⟩ := id rfl
end
theorem in11 : In11 all11 := by unfold In11 all11; decide
theorem In11.filter {l : List Nat} (h : In11 l) (p : Nat → Bool) : In11 (l.filter p) := fun i hi => h i (List.mem_filter.mp hi).1
theorem len_all : (S all11).length = 11 := rfl
theorem len_filter (p : Nat → Bool) : (S (all11.filter p)).length ≤ lim := by
  rw [S_len]
  have h1 := List.length_filter_le p all11
  have h2 : all11.length = 11 := rfl
  have h3 : 11 ≤ lim := by unfold lim; rw [sizeLine_eq]; omega
  omega
theorem any_all (i : Nat) (hi : i < 11) : (all11.any fun j => decide (i = j)) = true := by
  rw [List.any_eq_true]
  refine ⟨i, ?_, by simp⟩
  revert i
  decide
section
variable {P : Pg} {h : Heap} {d : Nat}
theorem is_row_ok (p : RP P) {w : Val} {vs : List Val} (r : Row h w vs) : Ok (run P (d + 1) "" "is_row" [w] h) fun v g => v = .bl true ∧ g = h := by
  refine ok_run p.is_row.fn rfl ?_
  show Ok (evB (cxD P d) ir_is_row.body [some w] h) _
  unfold ir_is_row
  dsimp only
  have e : isE (cxD P d) ["list", "tuple"] w h = .ok (.bl true) h := by
    cases r with
    | tup vs => rw [isE_base p (k := "tuple") rfl rfl (by simp) (by simp)]; rfl
    | tuq vs => rw [isE_base p (k := "tuple") rfl rfl (by simp) (by simp)]; rfl
    | loc hn =>
      rename_i n
      have hk : kindOf h (.loc n) = some "list" := by simp [kindOf, hn]
      rw [isE_base p hk (insOf_lst hn) (by simp) (by simp)]; rfl
  simp -implicitDefEqProofs only [okb_cons, okst_ret, ok_isi, ok_v, List.getElem?_cons_zero, e, ok_ok, retP_rt, and_self]
theorem isE_tup (p : RP P) (vs : List Val) : isE (cxD P d) ["tuple"] (.tup vs) h = .ok (.bl true) h := by
  rw [isE_base p (k := "tuple") rfl rfl (by simp) (by simp)]; rfl
theorem is_sit_ok (p : RP P) {i : Nat} (hi : i < 11) : Ok (run P (d + 1) "" "is_situation" [sv i] h) fun v g => v = .bl true ∧ g = h := by
  refine ok_run p.is_sit.fn rfl ?_
  show Ok (evB (cxD P d) ir_is_situation.body [some (sv i), none] h) _
  unfold ir_is_situation
  dsimp only
  have e : isE (cxD P d) ["tuple"] (sv i) h = .ok (.bl true) h := isE_tup p _
  simp -implicitDefEqProofs only [okb_cons, okst_ret, ok_and, ok_isi, ok_v, List.getElem?_cons_zero, e, ok_ok, truth_bl, ok_some, if_true, ok_bi, okr_cons, okr_nil, ok_lc1, oks_it, ok_glob, p.sit, ok_some, itE_tup]
  refine ok_mapS (w := ⟨S all11, []⟩) (l := all11) (fun j => .bl (decide (i = j))) rfl rfl (fun j hj => ?_) ?_
  · simp -implicitDefEqProofs only [Tg.slots, wipeE, asg, List.set_cons_succ, List.set_cons_zero, ok_bind, okt_nil, if_true, ok_cmp, ok_v, List.getElem?_cons_zero, List.getElem?_cons_succ, cmpE_eq, pyEq_sv h hi (in11 j hj), some_map, ok_some, box_bl, ok_ok, and_self]
  · have h3 : (all11.map fun j => Val.bl (decide (i = j))).length ≤ lim := by
      rw [List.length_map]; unfold lim; rw [sizeLine_eq]; decide
    refine ⟨h3, ?_⟩
    simp -implicitDefEqProofs only [biE_any, any_all i hi, ok_ok, retP_rt, and_self]
/-- Rule.__init__ -/
theorem init_ok (p : RP P) {r : Nat} {w : Val} {m : List Nat} (hr : h[r]? = some (.ins "Rule" [])) (rw_ : Row h w (S m)) (hm : In11 m) (hz : m.length ≤ 100000) : Ok (run P (d + 2) "Rule" "__init__" [.loc r, w] h) fun v g => v = .non ∧ g = h.set r (.ins "Rule" [("own_kept", .tuq (S (all11.filter m.contains)))]) := by
  refine ok_run p.init rfl ?_
  show Ok (evB (cxD P (d + 1)) ir_RuleX_initX.body [some (.loc r), some w, none] h) _
  unfold ir_RuleX_initX
  dsimp only
  rw [okb_cons, okst_ifs]
  have hlim : 100000 < lim := by unfold lim; rw [sizeLine_eq]; omega
  have cond : Ok (test (cxD P (d + 1)) (.or (.not (.call "is_row" (.cons (.v 1) .nil))) (.not (.bi "all" (.cons (.lc (.call "is_situation" (.cons (.v 2) .nil)) (.gen (.v 2) (.it (.v 1)) .nil .nil)) .nil)))) [some (.loc r), some w, none] h) fun c g => c = false ∧ g = h := by
    have bw : ∀ (Q : Val → Heap → Prop), Ok (box w h) Q = Q w h := fun Q => by cases rw_ <;> rfl
    simp -implicitDefEqProofs only [ok_test, ok_or, ok_not, ok_call, oki_cons, oki_nil, ok_v, List.getElem?_cons_zero, List.getElem?_cons_succ, bw, callG_has p.is_row]
    refine (is_row_ok p rw_).mono fun v g ⟨e1, e2⟩ => ?_
    subst e1; have e2 := e2.symm; subst e2
    obtain ⟨kp, ei, es⟩ := row_it rw_
    simp -implicitDefEqProofs only [truth_bl, ok_some, Bool.not_true, Bool.false_eq_true, if_false, ok_bi, okr_cons, okr_nil, ok_lc1, oks_it, ok_v, List.getElem?_cons_zero, List.getElem?_cons_succ, ei]
    refine ok_mapS (l := m) (fun _ => .bl true) rfl es (fun j hj => ?_) ?_
    · simp -implicitDefEqProofs only [Tg.slots, wipeE, asg, List.set_cons_succ, List.set_cons_zero, ok_bind, okt_nil, if_true, ok_call, oki_cons, oki_nil, ok_v, List.getElem?_cons_zero, List.getElem?_cons_succ, ok_box (Bx_sv j), callG_has p.is_sit]
      refine (is_sit_ok p (hm j hj)).mono fun v g' ⟨e1, e2⟩ => ?_
      subst e1; have e2 := e2.symm; subst e2
      simp -implicitDefEqProofs only [box_bl, ok_ok, and_self]
    · refine ⟨by rw [List.length_map]; omega, ?_⟩
      have ea : (m.map fun _ => Val.bl true) = m.map fun j => Val.bl ((fun _ => true) j) := rfl
      have eb : (m.all fun _ => true) = true := List.all_eq_true.mpr fun _ _ => rfl
      rw [ea]
      simp -implicitDefEqProofs only [biE_all, eb, ok_ok, truth_bl, ok_some, Bool.not_true, and_self]
  refine cond.mono fun c g ⟨e1, e2⟩ => ?_
  subst e1; have e2 := e2.symm; subst e2
  rw [if_neg Bool.false_ne_true, okb_nil]
  dsimp only
  simp -implicitDefEqProofs only [okb_cons, okb_nil, okst_setA, ok_bi, okr_cons, okr_nil, ok_lc1, oks_it, ok_glob, p.sit, ok_some, itE_tup]
  refine ok_filter (w := ⟨S all11, []⟩) (l := all11) m.contains rfl rfl (fun j hj => ?_) ?_
  · simp -implicitDefEqProofs only [Tg.slots, wipeE, asg, List.set_cons_succ, List.set_cons_zero, ok_bind, okt_cons, okt_nil, ok_if, ok_cmp, ok_v, List.getElem?_cons_zero, List.getElem?_cons_succ, cmpE_in (row_ins rw_), isIn_row h rw_ (in11 j hj) hm, some_map, ok_some, truth_bl]
    cases hc : m.contains j with
    | true => simp -implicitDefEqProofs only [if_true, ok_v, List.getElem?_cons_zero, List.getElem?_cons_succ, ok_box (Bx_sv j), ok_ok, and_self]
    | false => simp -implicitDefEqProofs only [Bool.false_eq_true, if_false, ok_ok, and_self]
  · refine ⟨len_filter _, ?_⟩
    have es : setAE (cxD P (d + 1)) (.loc r) "own_kept" (.tuq (S (all11.filter m.contains))) h = some (h.set r (.ins "Rule" [("own_kept", .tuq (S (all11.filter m.contains)))])) := by
      unfold setAE
      dsimp only
      rw [hr]
      dsimp only
      rw [p.cls]
      rfl
    simp -implicitDefEqProofs only [biE_tuple, ok_ok, box_tuq, ok_v, List.getElem?_cons_zero, es, retP_nx, and_self]
/-- Rule(w) -/
theorem mk_ok (p : RP P) {w : Val} {m : List Nat} (r : Row h w (S m)) (hm : In11 m) (hz : m.length ≤ 100000) : Ok (callG (cxD P (d + 2)) "Rule" [w] h) fun v g => v = .loc h.length ∧ Kp h g ∧ RuleAt g h.length (all11.filter m.contains) := by
  unfold callG
  rw [show (cxD P (d + 2)).cls "Rule" = some cRule from p.cls]
  dsimp only
  unfold make
  rw [show (cxD P (d + 2)).cls "Rule" = some cRule from p.cls]
  dsimp only
  rw [if_neg (show ¬ cRule.exc = true by decide), ok_bind]
  have k0 := Kp.push h [.ins "Rule" []]
  refine (init_ok (d := d) p (get_new _) (r.kp k0) hm hz).mono fun v g ⟨e1, e2⟩ => ?_
  subst e1 e2
  refine ⟨rfl, ⟨?_, fun i o e => ?_⟩, ?_⟩
  · rw [List.length_set, List.length_append]; omega
  · have : h.length ≠ i := fun z => by
      have := (List.getElem?_eq_some_iff.mp e).1
      omega
    rw [List.getElem?_set_ne this]
    exact get_push e _
  · unfold RuleAt
    rw [List.getElem?_set_self (by rw [List.length_append, List.length_singleton]; omega)]

/-! ### the methods -/
theorem kept_len (l : List Nat) (hz : l.length ≤ 100000) : (S l).length ≤ lim := by
  rw [S_len]
  have : 100000 < lim := by unfold lim; rw [sizeLine_eq]; omega
  omega
/-- r.situations() -/
theorem sits_ok (p : RP P) {r : Nat} {l : List Nat} (a : RuleAt h r l) : Ok (run P (d + 1) "Rule" "situations" [.loc r] h) fun v g => v = .tl (S l) ∧ g = h := by
  refine ok_run p.sits rfl ?_
  show Ok (evB (cxD P d) ir_Rule_situations.body [some (.loc r)] h) _
  unfold ir_Rule_situations
  dsimp only
  simp -implicitDefEqProofs only [okb_cons, okst_ret, ok_bi, okr_cons, okr_nil, ok_attr, ok_v, List.getElem?_cons_zero, attr_kept p a, ok_ok, biE_listq, retP_rt, and_self]
theorem rlen_ok (p : RP P) {r : Nat} {l : List Nat} (a : RuleAt h r l) : Ok (run P (d + 1) "Rule" "__len__" [.loc r] h) fun v g => v = .int l.length ∧ g = h := by
  refine ok_run p.len rfl ?_
  show Ok (evB (cxD P d) ir_RuleX_lenX.body [some (.loc r)] h) _
  unfold ir_RuleX_lenX
  dsimp only
  simp -implicitDefEqProofs only [okb_cons, okst_ret, ok_bi, okr_cons, okr_nil, ok_attr, ok_v, List.getElem?_cons_zero, attr_kept p a, ok_ok, biE_lenq, S_len, retP_rt, and_self]
/-- situation in r -/
theorem cont_ok (p : RP P) {r i : Nat} {l : List Nat} (a : RuleAt h r l) (hi : i < 11) (hl : In11 l) (hz : l.length ≤ 100000) : Ok (run P (d + 1) "Rule" "__contains__" [.loc r, sv i] h) fun v g => v = .bl (l.contains i) ∧ g = h := by
  refine ok_run p.cont rfl ?_
  show Ok (evB (cxD P d) ir_RuleX_containsX.body [some (.loc r), some (sv i), none] h) _
  unfold ir_RuleX_containsX
  dsimp only
  have e : isE (cxD P d) ["tuple"] (sv i) h = .ok (.bl true) h := isE_tup p _
  simp -implicitDefEqProofs only [okb_cons, okst_ret, ok_and, ok_isi, ok_v, List.getElem?_cons_zero, List.getElem?_cons_succ, e, ok_ok, truth_bl, ok_some, if_true, ok_bi, okr_cons, okr_nil, ok_lc1, oks_it, ok_attr, attr_kept p a, itE_tuq]
  refine ok_mapS (w := ⟨S l, []⟩) (l := l) (fun j => .bl (decide (i = j))) rfl rfl (fun j hj => ?_) ?_
  · simp -implicitDefEqProofs only [Tg.slots, wipeE, asg, List.set_cons_succ, List.set_cons_zero, ok_bind, okt_nil, if_true, ok_cmp, ok_v, List.getElem?_cons_zero, List.getElem?_cons_succ, cmpE_eq, pyEq_sv h hi (hl j hj), some_map, ok_some, box_bl, ok_ok, and_self]
  · have h3 : (l.map fun j => Val.bl (decide (i = j))).length ≤ lim := by
      rw [List.length_map, ← S_len]; exact kept_len l hz
    have e : (l.any fun j => decide (i = j)) = l.contains i := by
      rw [Bool.eq_iff_iff, List.any_eq_true, List.contains_iff_mem]
      constructor
      · rintro ⟨j, hj, e⟩
        rw [of_decide_eq_true e]; exact hj
      · exact fun hm => ⟨i, hm, by simp⟩
    refine ⟨h3, ?_⟩
    simp -implicitDefEqProofs only [biE_any, e, ok_ok, retP_rt, and_self]
/-- what is no tuple is in no rule -/
theorem cont_no (p : RP P) {r : Nat} {l : List Nat} {x : Val} {k : String} (a : RuleAt h r l) (hk : kindOf h x = some k) (hi : insOf h x = none) (hm : k ∈ ["NoneType", "bool", "int", "str", "list", "dict"]) : Ok (run P (d + 1) "Rule" "__contains__" [.loc r, x] h) fun v g => v = .bl false ∧ g = h := by
  refine ok_run p.cont rfl ?_
  show Ok (evB (cxD P d) ir_RuleX_containsX.body [some (.loc r), some x, none] h) _
  unfold ir_RuleX_containsX
  dsimp only
  have hm2 : k ∈ ["NoneType", "bool", "int", "str", "tuple", "list", "dict"] := by
    simp only [List.mem_cons, List.not_mem_nil, or_false] at hm ⊢
    rcases hm with e | e | e | e | e | e <;> simp [e]
  have e : isE (cxD P d) ["tuple"] x h = .ok (.bl false) h := by
    rw [isE_base p hk hi hm2 (by simp)]
    simp only [List.mem_cons, List.not_mem_nil, or_false] at hm
    rcases hm with e | e | e | e | e | e <;> (subst e; rfl)
  simp -implicitDefEqProofs only [okb_cons, okst_ret, ok_and, ok_isi, ok_v, List.getElem?_cons_zero, List.getElem?_cons_succ, e, ok_ok, truth_bl, ok_some, Bool.false_eq_true, if_false, retP_rt, and_self]
/-- r & q, r | q, ~r -/
theorem and_ok (p : RP P) {r q : Nat} {l m : List Nat} (a : RuleAt h r l) (b : RuleAt h q m) (hl : In11 l) (hm : In11 m) (hz : l.length ≤ 100000) : Ok (run P (d + 3) "Rule" "__and__" [.loc r, .loc q] h) fun v g => ∃ n, v = .loc n ∧ h.length ≤ n ∧ Kp h g ∧ RuleAt g n (all11.filter (l.filter m.contains).contains) := by
  refine ok_run p.and_ rfl ?_
  show Ok (evB (cxD P (d + 2)) ir_RuleX_andX.body [some (.loc r), some (.loc q), none] h) _
  unfold ir_RuleX_andX
  dsimp only
  simp -implicitDefEqProofs only [okb_cons, okst_ret, ok_call, oki_cons, oki_nil, ok_lc1, oks_it, ok_attr, ok_v, List.getElem?_cons_zero, List.getElem?_cons_succ, attr_kept p a, ok_ok, itE_tuq, ok_some]
  refine ok_filter (w := ⟨S l, []⟩) (l := l) m.contains rfl rfl (fun j hj => ?_) ?_
  · have row : Row h (.tuq (S m)) (S m) := .tuq _
    simp -implicitDefEqProofs only [Tg.slots, wipeE, asg, List.set_cons_succ, List.set_cons_zero, ok_bind, okt_cons, okt_nil, ok_if, ok_cmp, ok_attr, ok_v, List.getElem?_cons_zero, List.getElem?_cons_succ, attr_kept p b, ok_ok, cmpE_in (row_ins row), isIn_row h row (hl j hj) hm, some_map, ok_some, truth_bl]
    cases hc : m.contains j with
    | true => simp -implicitDefEqProofs only [if_true, ok_v, List.getElem?_cons_zero, List.getElem?_cons_succ, ok_box (Bx_sv j), ok_ok, and_self]
    | false => simp -implicitDefEqProofs only [Bool.false_eq_true, if_false, ok_ok, and_self]
  · have hz2 : (l.filter m.contains).length ≤ 100000 := Nat.le_trans (List.length_filter_le _ _) hz
    refine ⟨kept_len _ hz2, ?_⟩
    simp -implicitDefEqProofs only [box_tl]
    refine (mk_ok p (.loc (get_new _)) (hl.filter _) hz2).mono fun v g ⟨e1, k, c⟩ => ?_
    subst e1
    exact ⟨_, rfl, by rw [List.length_append]; omega, (Kp.push h _).trans k, c⟩
theorem or_ok (p : RP P) {r q : Nat} {l m : List Nat} (a : RuleAt h r l) (b : RuleAt h q m) (hl : In11 l) (hm : In11 m) (hz : l.length ≤ 50000) (hz2 : m.length ≤ 50000) : Ok (run P (d + 3) "Rule" "__or__" [.loc r, .loc q] h) fun v g => ∃ n, v = .loc n ∧ h.length ≤ n ∧ Kp h g ∧ RuleAt g n (all11.filter (l ++ m).contains) := by
  refine ok_run p.or_ rfl ?_
  show Ok (evB (cxD P (d + 2)) ir_RuleX_orX.body [some (.loc r), some (.loc q)] h) _
  unfold ir_RuleX_orX
  dsimp only
  have sq : ∀ vs, seqOf h (.tuq vs) = some vs := fun _ => rfl
  have hz3 : (l ++ m).length ≤ 100000 := by rw [List.length_append]; omega
  simp -implicitDefEqProofs only [okb_cons, okst_ret, ok_call, oki_cons, oki_star, oki_nil, ok_lst, ok_attr, ok_v, List.getElem?_cons_zero, List.getElem?_cons_succ, attr_kept p a, attr_kept p b, ok_ok, sq, List.append_nil, S_app, box_tl]
  refine ⟨kept_len _ hz3, ?_⟩
  refine (mk_ok p (.loc (get_new _)) (fun i hi => (List.mem_append.mp hi).elim (hl i) (hm i)) hz3).mono fun v g ⟨e1, k, c⟩ => ?_
  subst e1
  exact ⟨_, rfl, by rw [List.length_append]; omega, (Kp.push h _).trans k, c⟩
theorem inv_ok (p : RP P) {r : Nat} {l : List Nat} (a : RuleAt h r l) (hl : In11 l) : Ok (run P (d + 3) "Rule" "__invert__" [.loc r] h) fun v g => ∃ n, v = .loc n ∧ h.length ≤ n ∧ Kp h g ∧ RuleAt g n (all11.filter (all11.filter fun i => !l.contains i).contains) := by
  refine ok_run p.inv rfl ?_
  show Ok (evB (cxD P (d + 2)) ir_RuleX_invertX.body [some (.loc r), none] h) _
  unfold ir_RuleX_invertX
  dsimp only
  simp -implicitDefEqProofs only [okb_cons, okst_ret, ok_call, oki_cons, oki_nil, ok_lc1, oks_it, ok_glob, p.sit, ok_some, itE_tup]
  refine ok_filter (w := ⟨S all11, []⟩) (l := all11) (fun i => !l.contains i) rfl rfl (fun j hj => ?_) ?_
  · have row : Row h (.tuq (S l)) (S l) := .tuq _
    simp -implicitDefEqProofs only [Tg.slots, wipeE, asg, List.set_cons_succ, List.set_cons_zero, ok_bind, okt_cons, okt_nil, ok_if, ok_cmp, ok_attr, ok_v, List.getElem?_cons_zero, List.getElem?_cons_succ, attr_kept p a, ok_ok, cmpE_nin (row_ins row), isIn_row h row (in11 j hj) hl, some_map, ok_some, truth_bl]
    cases hc : l.contains j with
    | true => simp -implicitDefEqProofs only [Bool.not_true, Bool.false_eq_true, if_false, ok_ok, and_self]
    | false => simp -implicitDefEqProofs only [Bool.not_false, if_true, ok_v, List.getElem?_cons_zero, List.getElem?_cons_succ, ok_box (Bx_sv j), ok_ok, and_self]
  · refine ⟨len_filter _, ?_⟩
    simp -implicitDefEqProofs only [box_tl]
    refine (mk_ok p (.loc (get_new _)) (in11.filter _) (Nat.le_trans (List.length_filter_le _ _) (by decide))).mono fun v g ⟨e1, k, c⟩ => ?_
    subst e1
    exact ⟨_, rfl, by rw [List.length_append]; omega, (Kp.push h _).trans k, c⟩
/-- r.same(q), r.within(q) -/
theorem same_ok (p : RP P) {r q : Nat} {l m : List Nat} (a : RuleAt h r l) (b : RuleAt h q m) (hl : In11 l) (hm : In11 m) : Ok (run P (d + 2) "Rule" "same" [.loc r, .loc q] h) fun v g => v = .bl (decide (l = m)) ∧ g = h := by
  refine ok_run p.same rfl ?_
  show Ok (evB (cxD P (d + 1)) ir_Rule_same.body [some (.loc r), some (.loc q)] h) _
  unfold ir_Rule_same
  dsimp only
  simp -implicitDefEqProofs only [okb_cons, okst_ret, ok_cmp, ok_meth, ok_v, List.getElem?_cons_zero, List.getElem?_cons_succ, recv_rule p a (show cRule.meths.contains "situations" = true by decide) (show "situations" ≠ "own_kept" by decide), oki_nil]
  refine (sits_ok p a).mono fun v g ⟨e1, e2⟩ => ?_
  subst e1; have e2 := e2.symm; subst e2
  simp -implicitDefEqProofs only [recv_rule p b (show cRule.meths.contains "situations" = true by decide) (show "situations" ≠ "own_kept" by decide)]
  refine (sits_ok p b).mono fun v g ⟨e1, e2⟩ => ?_
  subst e1; have e2 := e2.symm; subst e2
  simp -implicitDefEqProofs only [cmpE_eq, pyEq_tls h hl hm, some_map, ok_some, retP_rt, and_self]
theorem within_ok (p : RP P) {r q : Nat} {l m : List Nat} (a : RuleAt h r l) (b : RuleAt h q m) (hl : In11 l) (hm : In11 m) (hz : l.length ≤ 100000) : Ok (run P (d + 2) "Rule" "within" [.loc r, .loc q] h) fun v g => v = .bl (l.all m.contains) ∧ g = h := by
  refine ok_run p.within rfl ?_
  show Ok (evB (cxD P (d + 1)) ir_Rule_within.body [some (.loc r), some (.loc q), none] h) _
  unfold ir_Rule_within
  dsimp only
  simp -implicitDefEqProofs only [okb_cons, okst_ret, ok_bi, okr_cons, okr_nil, ok_lc1, oks_it, ok_attr, ok_v, List.getElem?_cons_zero, List.getElem?_cons_succ, attr_kept p a, ok_ok, itE_tuq, ok_some]
  refine ok_mapS (w := ⟨S l, []⟩) (l := l) (fun j => .bl (m.contains j)) rfl rfl (fun j hj => ?_) ?_
  · simp -implicitDefEqProofs only [Tg.slots, wipeE, asg, List.set_cons_succ, List.set_cons_zero, ok_bind, okt_nil, if_true, ok_cmp, ok_meth, ok_v, List.getElem?_cons_zero, List.getElem?_cons_succ, recv_rule p b (show cRule.meths.contains "situations" = true by decide) (show "situations" ≠ "own_kept" by decide), oki_nil]
    refine (sits_ok p b).mono fun v g ⟨e1, e2⟩ => ?_
    subst e1; have e2 := e2.symm; subst e2
    have ei : insOf h (.tl (S m)) = none := rfl
    simp -implicitDefEqProofs only [cmpE_in ei, isIn_tl h (hl j hj) hm, some_map, ok_some, box_bl, ok_ok, and_self]
  · refine ⟨by rw [List.length_map, ← S_len]; exact kept_len l hz, ?_⟩
    simp -implicitDefEqProofs only [biE_all, ok_ok, retP_rt, and_self]
    try exact ⟨rfl, rfl⟩
end
end Sc
end
section
set_option Elab.async false
set_option linter.all false
set_option maxRecDepth 100000
set_option maxHeartbeats 1000000
set_option autoImplicit false
/-! The law's own functions over rules. -/
namespace Sc
open PySem K31

/-! ### lists of situations -/
abbrev Sb (l : List Nat) : Prop := l.Sublist all11
theorem nd11 : all11.Nodup := by unfold all11; decide
theorem Sb.in11 {l : List Nat} (h : Sb l) : In11 l := fun i hi => Sc.in11 i (h.subset hi)
theorem Sb.len {l : List Nat} (h : Sb l) : l.length ≤ 11 := h.length_le
theorem Sb.filter {l : List Nat} (h : Sb l) (p : Nat → Bool) : Sb (l.filter p) := List.filter_sublist.trans h
theorem canon {l m : List Nat} (s : l.Sublist m) (nd : m.Nodup) : m.filter l.contains = l := by
  induction s with
  | slnil => rfl
  | @cons l m a s ih =>
    have ⟨h1, h2⟩ := List.nodup_cons.mp nd
    have ha : l.contains a = false := by
      rw [Bool.eq_false_iff]
      intro z
      exact h1 (s.subset (by simpa using z))
    rw [List.filter_cons, ha, if_neg Bool.false_ne_true]
    exact ih h2
  | @cons_cons l m a s ih =>
    have ⟨h1, h2⟩ := List.nodup_cons.mp nd
    rw [List.filter_cons, show (a :: l).contains a = true by simp, if_pos rfl]
    congr 1
    rw [← ih h2]
    apply List.filter_congr
    intro x hx
    have : x ≠ a := fun z => h1 (z ▸ hx)
    rw [ih h2]
    simp [this]
theorem Sb.canon {l : List Nat} (h : Sb l) : all11.filter l.contains = l := Sc.canon h nd11
theorem Sb.mem {l m : List Nat} (h : Sb l) (e : ∀ x, x ∈ m ↔ x ∈ l) : all11.filter m.contains = l := by
  refine Eq.trans ?_ h.canon
  apply List.filter_congr
  intro x _
  rw [Bool.eq_iff_iff]
  simpa using e x
theorem Sb.sub_filter {l : List Nat} (h : Sb l) : l = all11.filter l.contains := h.canon.symm
theorem ac (i : Nat) : all11.contains i = decide (i < 11) := by
  rw [Bool.eq_iff_iff]
  simp only [List.contains_iff_mem, decide_eq_true_eq]
  constructor
  · exact in11 i
  · intro h; revert i; decide
theorem perm_map {α β : Type} (f : α → β) : ∀ {us : List β} {l : List α}, us.Perm (l.map f) → ∃ l' : List α, l'.Perm l ∧ us = l'.map f
  | [], l, h => by
    have := h.length_eq
    rw [List.length_nil, List.length_map] at this
    exact ⟨[], by rw [List.eq_nil_of_length_eq_zero this.symm], rfl⟩
  | u :: us, l, h => by
    obtain ⟨a, ha, rfl⟩ := List.mem_map.mp (h.subset (List.mem_cons_self ..))
    obtain ⟨s, t, rfl⟩ := List.append_of_mem ha
    have h2 : (f a :: us).Perm (f a :: (s ++ t).map f) := h.trans (by
      rw [List.map_append, List.map_cons, List.map_append]
      exact List.perm_middle)
    obtain ⟨l', hp, rfl⟩ := perm_map f (List.Perm.cons_inv h2)
    exact ⟨a :: l', (hp.cons a).trans List.perm_middle.symm, rfl⟩

/-! ### loops over what stays -/
section
variable {cx : Cx} {h : Heap} {f : Val → Env → Heap → R Fl} {its : List Val} {e : Env}
theorem stays0 : (Walk.mk its []).stays h = true := rfl
theorem okl_nil (P : Fl → Heap → Prop) : Ok (loopS ⟨its, []⟩ f [] e h) P = P (.nx e) h := by
  rw [loopS, if_pos stays0]; rfl
theorem okl_cons (x : Val) (r : List Val) (P : Fl → Heap → Prop) : Ok (loopS ⟨its, []⟩ f (x :: r) e h) P = Ok (f x e h) fun fl h1 => match fl with | .nx e1 => Ok (loopS ⟨its, []⟩ f r e1 h1) P | .bk e1 => P (.nx e1) h1 | .rt v => P (.rt v) h1 := by
  rw [loopS, if_pos stays0, ok_bind]; congr 1; funext fl h1; cases fl <;> rfl
theorem bin_lst {n : Nat} {xs ys : List Val} (hn : h[n]? = some (.lst xs)) (hz : xs.length + ys.length ≤ lim) : binE cx .add (.loc n) (.tl ys) h = .ok (.tl (xs ++ ys)) h := by
  have e : bin .add (.loc n) (.tl ys) h = some (.tl (xs ++ ys)) := by
    show (match lstOf h (.loc n), lstOf h (.tl ys) with
      | some xs, some ys => if xs.length + ys.length ≤ lim then some (Val.tl (xs ++ ys)) else none
      | _, _ => none) = _
    rw [lstOf_lst hn]
    show (if xs.length + ys.length ≤ lim then some (Val.tl (xs ++ ys)) else none) = _
    rw [if_pos hz]
  unfold binE
  rw [insOf_lst hn]
  show ofOpt (bin .add (.loc n) (.tl ys) h) h = _
  rw [e]; rfl
theorem lim_big : 100000 < lim := by unfold lim; rw [sizeLine_eq]; omega
theorem pyEq_bl (a b : Bool) : pyEq h (.bl a) (.bl b) = some (a == b) := id rfl
theorem itE_loc {n : Nat} {vs : List Val} (hn : h[n]? = some (.lst vs)) : itE (.loc n) h = some ⟨vs, [(n, vs)]⟩ := by
  show (listOf h (.loc n)).map _ = _
  rw [listOf_lst hn]; rfl
theorem stays_loc {n : Nat} {vs : List Val} (hn : h[n]? = some (.lst vs)) (hs : Val.same vs vs = true) : (Walk.mk vs [(n, vs)]).stays h = true := by
  show ((match listOf h (.loc n) with | some ys => Val.same vs ys | none => false) && true) = true
  rw [listOf_lst hn]
  simp only [hs, Bool.and_self]
theorem same_ints : ∀ l : List Int, Val.same (l.map Val.int) (l.map Val.int) = true
  | [] => rfl
  | i :: l => by rw [List.map_cons]; simp only [Val.same, Val.sam, same_ints l, beq_self_eq_true, Bool.and_self]
end

/-- the law's own defs -/
structure LP (P : Pg) : Prop where
  draw : Has P "_law_draw" lw_draw
  mixed : Has P "_law_mixed" lw_mixed
  sits : Has P "_law_situations" ir_law_situations
  kept : Has P "_law_kept" ir_law_kept
  made : Has P "_law_made_rule" ir_law_made_rule
  asked : Has P "_law_asked" ir_law_asked
  named : Has P "_law_named_right" ir_law_named_right
  two : Has P "_law_two_right" ir_law_two_right
section
variable {P : Pg} {h : Heap} {d : Nat}
theorem lsits_ok (L : LP P) : Ok (run P (d + 1) "" "_law_situations" [] h) fun v g => ∃ n, v = .loc n ∧ h.length ≤ n ∧ Kp h g ∧ g[n]? = some (.lst (S all11)) := by
  refine ok_run L.sits.fn rfl ?_
  show Ok (evB (cxD P d) ir_law_situations.body [none, none] h) _
  unfold ir_law_situations
  dsimp only
  have hz : ∀ k, k ≤ 100000 → k ≤ lim := fun k hk => by have := lim_big; omega
  have it : ∀ (vs : List Val) (h : Heap), itE (.tl vs) h = some ⟨vs, []⟩ := fun _ _ => rfl
  have l1 : 1 ≤ lim := hz _ (by decide)
  have l2 : 2 ≤ lim := hz _ (by decide)
  have l5 : 5 ≤ lim := hz _ (by decide)
  have step : ∀ (h : Heap) (n : Nat) (xs : List Val) (x : Option Val) (t : Str), h[n]? = some (.lst xs) → xs.length ≤ 100 → Ok (match asg (.v 1) (.str t) [some (.loc n), x] with
      | some e1 => evB (cxD P d) [.set 0 (.bin .add (.v 0) (.lst (.cons (.tup (.cons (.v 1) (.cons (.con (.str "caller")) .nil))) (.cons (.tup (.cons (.v 1) (.cons (.con (.str "callee")) .nil))) .nil))))] e1 h
      | none => .no) fun fl g => ∃ n', fl = .nx [some (.loc n'), some (.str t)] ∧ Kp h g ∧ h.length ≤ n' ∧ g[n']? = some (.lst (xs ++ [.tup [.str t, .str "caller"], .tup [.str t, .str "callee"]])) := by
    intro h n xs x t hn hl
    simp -implicitDefEqProofs only [ok_ok, ok_no, ok_bind, ok_nox, ok_some, ok_none, ok_v, ok_con, ok_glob, ok_bin, ok_neg, ok_inv, ok_not, ok_and, ok_or, ok_cmp, ok_cmp2, ok_ite, ok_lst, ok_tup, ok_dct, ok_sub, ok_slc, ok_attr, ok_call, ok_callv, ok_meth, ok_repl, ok_bi, ok_isi, ok_fstr, ok_lc1, oki_nil, oki_cons, oki_star, okr_nil, okr_cons, oko_none, oko_some, oks_it, oks_rng1, oks_rng2, oks_enum, oks_zip, okt_nil, okt_cons, ok_test, okb_nil, okb_cons, okst_set, okst_sets, okst_setI, okst_setA, okst_aug, okst_ex, okst_ret, okst_ifs, okst_for, okst_while, okst_brk, okst_pass, box_non, box_bl, box_int, box_str, box_glb, box_tup, box_tuq, box_loc, box_tl, List.getElem?_cons_zero, List.getElem?_cons_succ, List.set_cons_zero, List.set_cons_succ, some_map, some_bind, truth_bl, ok_if, retP_rt, retP_nx, decide_true, decide_false, Bool.false_eq_true, if_true, if_false, Bool.not_true, Bool.not_false, cmpE_eq, cmpE_ne, pyEq_int, asg, l2, List.length_cons, List.length_nil, Nat.reduceAdd, true_and, bin_lst hn (ys := [Val.tup [.str t, .str "caller"], .tup [.str t, .str "callee"]]) (hz _ (by simp; omega)), List.cons_append, List.nil_append]
    exact ⟨_, rfl, Kp.push h _, Nat.le_refl _, get_new _⟩
  simp -implicitDefEqProofs only [okb_cons, okst_set, ok_lst, oki_cons, oki_nil, ok_tup, ok_con, box_str, box_tup, l1, l2, List.length_cons, List.length_nil, Nat.zero_add, Nat.reduceAdd, true_and, box_tl, List.set_cons_zero, okst_for, oks_it, l5, it, ok_some, okl_cons, okl_nil]
  refine (step _ _ _ none "new" (get_new _) (by decide)).mono fun fl g1 ⟨n1, e, k1, g1', c⟩ => ?_
  subst e
  refine (step _ _ _ _ "known" c (by decide)).mono fun fl g2 ⟨n2, e, k2, _, c⟩ => ?_
  subst e
  refine (step _ _ _ _ "out" c (by decide)).mono fun fl g3 ⟨n3, e, k3, _, c⟩ => ?_
  subst e
  refine (step _ _ _ _ "in" c (by decide)).mono fun fl g4 ⟨n4, e, k4, _, c⟩ => ?_
  subst e
  refine (step _ _ _ _ "both" c (by decide)).mono fun fl g5 ⟨n5, e, k5, q5, c⟩ => ?_
  subst e
  have kk := (Kp.push h [.lst [.tup [.str "new", .str "none"]]]).trans (k1.trans (k2.trans (k3.trans k4)))
  simp -implicitDefEqProofs only [ok_ok, ok_no, ok_bind, ok_nox, ok_some, ok_none, ok_v, ok_con, ok_glob, ok_bin, ok_neg, ok_inv, ok_not, ok_and, ok_or, ok_cmp, ok_cmp2, ok_ite, ok_lst, ok_tup, ok_dct, ok_sub, ok_slc, ok_attr, ok_call, ok_callv, ok_meth, ok_repl, ok_bi, ok_isi, ok_fstr, ok_lc1, oki_nil, oki_cons, oki_star, okr_nil, okr_cons, oko_none, oko_some, oks_it, oks_rng1, oks_rng2, oks_enum, oks_zip, okt_nil, okt_cons, ok_test, okb_nil, okb_cons, okst_set, okst_sets, okst_setI, okst_setA, okst_aug, okst_ex, okst_ret, okst_ifs, okst_for, okst_while, okst_brk, okst_pass, box_non, box_bl, box_int, box_str, box_glb, box_tup, box_tuq, box_loc, box_tl, List.getElem?_cons_zero, List.getElem?_cons_succ, List.set_cons_zero, List.set_cons_succ, some_map, some_bind, truth_bl, ok_if, retP_rt, retP_nx, decide_true, decide_false, Bool.false_eq_true, if_true, if_false, Bool.not_true, Bool.not_false, cmpE_eq, cmpE_ne, pyEq_int]
  exact ⟨n5, rfl, Nat.le_trans kk.len q5, kk.trans k5, c⟩
/-! ### asking a rule -/
theorem biE_listsv {cx : Cx} (i : Nat) : biE cx "list" [sv i] h = .ok (.tl [.str (tieS i), .str (partS i)]) h := biE_listt _
theorem in_rule (p : RP P) {r i : Nat} {l : List Nat} {Q : Val → Heap → Prop} (a : RuleAt h r l) (hi : i < 11) (hl : Sb l) (k : Q (.bl (l.contains i)) h) : Ok (cmpE (cxD P (d + 1)) .in_ (sv i) (.loc r) h) Q := by
  unfold cmpE
  rw [insOf_ins a]
  show Ok ((inE (cxD P (d + 1)) "Rule" (.loc r) (sv i) h).bind fun b h1 => .ok (.bl b) h1) Q
  unfold inE
  rw [ok_bind, ok_bind, ok_box (Bx_sv i), ok_bind, callM_rule p (by decide)]
  have hz : l.length ≤ 100000 := by have := hl.len; omega
  refine (cont_ok p a hi hl.in11 hz).mono fun v g ⟨e1, e2⟩ => ?_
  subst e1; have e2 := e2.symm; subst e2
  exact k
theorem in_rule_no (p : RP P) {r : Nat} {l : List Nat} {x : Val} {ks : String} {Q : Val → Heap → Prop} (a : RuleAt h r l) (hb : Bx x) (hk : kindOf h x = some ks) (hi : insOf h x = none) (hm : ks ∈ ["NoneType", "bool", "int", "str", "list", "dict"]) (k : Q (.bl false) h) : Ok (cmpE (cxD P (d + 1)) .in_ x (.loc r) h) Q := by
  unfold cmpE
  rw [insOf_ins a]
  show Ok ((inE (cxD P (d + 1)) "Rule" (.loc r) x h).bind fun b h1 => .ok (.bl b) h1) Q
  unfold inE
  rw [ok_bind, ok_bind, ok_box hb, ok_bind, callM_rule p (by decide)]
  refine (cont_no p a hk hi hm).mono fun v g ⟨e1, e2⟩ => ?_
  subst e1; have e2 := e2.symm; subst e2
  exact k
theorem in_rule_tl (p : RP P) {r : Nat} {l : List Nat} {xs : List Val} {Q : Val → Heap → Prop} (a : RuleAt h r l) (k : ∀ g, Kp h g → Q (.bl false) g) : Ok (cmpE (cxD P (d + 1)) .in_ (.tl xs) (.loc r) h) Q := by
  unfold cmpE
  rw [insOf_ins a]
  show Ok ((inE (cxD P (d + 1)) "Rule" (.loc r) (.tl xs) h).bind fun b h1 => .ok (.bl b) h1) Q
  unfold inE
  have kp := Kp.push h [.lst xs]
  have hn := get_new (h := h) (.lst xs)
  rw [ok_bind, ok_bind, box_tl, ok_bind, callM_rule p (by decide)]
  refine (cont_no p (a.kp kp) (k := "list") (by simp [kindOf]) (insOf_lst hn) (by simp)).mono fun v g ⟨e1, e2⟩ => ?_
  subst e1; have e2 := e2.symm; subst e2
  exact k _ kp
theorem biE_lenr (p : RP P) {r : Nat} {l : List Nat} {Q : Val → Heap → Prop} (a : RuleAt h r l) (hl : Sb l) (k : Q (.int l.length) h) : Ok (biE (cxD P (d + 1)) "len" [.loc r] h) Q := by
  have e : biE (cxD P (d + 1)) "len" [.loc r] h = (callM (cxD P (d + 1)) "Rule" "__len__" [.loc r] h).bind fun r h1 => match r with
        | .int n => if 0 ≤ n ∧ n < 2 ^ 63 then .ok (.int n) h1 else .no
        | _ => .no := by
    simp [biE, insOf_ins a] <;> rfl
  rw [e, ok_bind, callM_rule p (by decide)]
  refine (rlen_ok p a).mono fun v g ⟨e1, e2⟩ => ?_
  subst e1; have e2 := e2.symm; subst e2
  dsimp only
  have := hl.len
  rw [if_pos ⟨by omega, by have : (l.length : Int) ≤ 11 := by omega
                           exact Int.lt_of_le_of_lt this (by decide)⟩]
  exact k
theorem asked_ok (p : RP P) (L : LP P) {b s r k : Nat} {l : List Nat} (B : Bag b s h) (a : RuleAt h r l) (hk : h[k]? = some (.lst (S l))) (hl : Sb l) (hrb : r ≠ b) (hkb : k ≠ b) : Ok (run P (d + 3) "" "_law_asked" [.loc b, .loc r, .loc k] h) fun v g => v = .bl true ∧ Gr b s h g := by
  refine ok_run L.asked.fn rfl ?_
  show Ok (evB (cxD P (d + 2)) ir_law_asked.body [some (.loc b), some (.loc r), some (.loc k), none, none, none] h) _
  unfold ir_law_asked
  dsimp only
  have l4 : 4 ≤ lim := by have := lim_big; omega
  have l2 : 2 ≤ lim := by have := lim_big; omega
  rw [okb_cons, okst_for]
  simp -implicitDefEqProofs only [oks_it, ok_call, oki_cons, oki_nil, ok_v, List.getElem?_cons_zero, List.getElem?_cons_succ, ok_lst, ok_con, box_int, box_loc, box_tl, List.length_cons, List.length_nil, Nat.zero_add, Nat.reduceAdd, l4, true_and, callG_has L.mixed]
  refine (mixed_ok L.draw L.mixed.fn (d := d) (B.push _) (get_new _) (by have := B.lt; omega) (by decide) (by intro v hv; simp only [List.mem_cons, List.not_mem_nil, or_false] at hv; rcases hv with e | e | e | e <;> (subst e; exact fun _ => rfl))).mono fun v g0 ⟨f, us, ev, hf, hfu, hp, G0⟩ => ?_
  subst ev
  have G := (Gr.push B [.lst [.int 0, .int 1, .int 2, .int 0]]).trans G0
  have hlt := B.lt
  have hfl : h.length ≤ f := by rw [List.length_append] at hf; omega
  obtain ⟨zs, hz, rfl⟩ := perm_map Val.int (l := [0, 1, 2, 0]) hp
  rw [itE_loc hfu]
  simp -implicitDefEqProofs only [ok_some]
  refine ok_loopS (fun dn e g => (∃ x3 x4 x5, e = [some (.loc b), some (.loc r), some (.loc k), x3, x4, x5]) ∧ Gr b s h g ∧ g[f]? = some (.lst (zs.map Val.int))) (fun _ _ _ _ _ i => stays_loc i.2.2 (same_ints _)) ?_ ?_ _ [] _ _ rfl ⟨⟨none, none, none, rfl⟩, G, hfu⟩
  · rintro dn x rest e g hw ⟨⟨x3, x4, x5, rfl⟩, G, hfg⟩
    have hx : x ∈ zs.map Val.int := by
      have : x ∈ (Walk.mk (zs.map Val.int) [(f, zs.map Val.int)]).items := by rw [hw]; simp
      exact this
    obtain ⟨z, hzm, rfl⟩ := List.mem_map.mp hx
    have hz3 : z = 0 ∨ z = 1 ∨ z = 2 := by
      have := hz.subset hzm
      simp only [List.mem_cons, List.not_mem_nil, or_false] at this
      omega
    have ag := a.gr G hrb
    have kg := G.keep _ _ hkb hk
    have hfb : f ≠ b := by omega
    have sit : ∀ (h : Heap) (Q : Val → Heap → Prop), Q (sv 0) h → Ok (evE (cxD P (d + 2)) (.tup (.cons (.con (.str "new")) (.cons (.con (.str "none")) .nil))) [some (.loc b), some (.loc r), some (.loc k), some (.int 0), x4, x5] h) Q := fun h Q q => by
      simp -implicitDefEqProofs only [ok_ok, ok_no, ok_bind, ok_nox, ok_some, ok_none, ok_v, ok_con, ok_glob, ok_bin, ok_neg, ok_inv, ok_not, ok_and, ok_or, ok_cmp, ok_cmp2, ok_ite, ok_lst, ok_tup, ok_dct, ok_sub, ok_slc, ok_attr, ok_call, ok_callv, ok_meth, ok_repl, ok_bi, ok_isi, ok_fstr, ok_lc1, oki_nil, oki_cons, oki_star, okr_nil, okr_cons, oko_none, oko_some, oks_it, oks_rng1, oks_rng2, oks_enum, oks_zip, okt_nil, okt_cons, ok_test, okb_nil, okb_cons, okst_set, okst_sets, okst_setI, okst_setA, okst_aug, okst_ex, okst_ret, okst_ifs, okst_for, okst_while, okst_brk, okst_pass, box_non, box_bl, box_int, box_str, box_glb, box_tup, box_tuq, box_loc, box_tl, List.getElem?_cons_zero, List.getElem?_cons_succ, List.set_cons_zero, List.set_cons_succ, some_map, some_bind, truth_bl, ok_if, retP_rt, retP_nx, decide_true, decide_false, Bool.false_eq_true, if_true, if_false, Bool.not_true, Bool.not_false, cmpE_eq, cmpE_ne, pyEq_int, l2, List.length_cons, List.length_nil, Nat.zero_add, Nat.reduceAdd, true_and]
      exact q
    rcases hz3 with rfl | rfl | rfl
    · simp -implicitDefEqProofs only [asg, List.set_cons_succ, List.set_cons_zero, okb_cons, okb_nil, okst_ifs, ok_test, ok_cmp, ok_v, ok_con, List.getElem?_cons_zero, List.getElem?_cons_succ, cmpE_eq, pyEq_int, some_map, ok_some, truth_bl, decide_true, if_true, okst_set, ok_meth, recv_rule p ag (show cRule.meths.contains "situations" = true by decide) (show "situations" ≠ "own_kept" by decide), oki_nil]
      refine (sits_ok p ag).mono fun v g' ⟨e1, e2⟩ => ?_
      subst e1; have e2 := e2.symm; subst e2
      have kp := Kp.push g [.lst (S l)]
      have hn := get_new (h := g) (.lst (S l))
      simp -implicitDefEqProofs only [box_tl, List.set_cons_succ, List.set_cons_zero, okst_ifs, ok_test, ok_cmp, ok_v, List.getElem?_cons_zero, List.getElem?_cons_succ, cmpE_ne, pyEq_locs _ hn (kp.keep _ _ kg) hl.in11 hl.in11, decide_true, some_map, Bool.not_true, ok_some, truth_bl, Bool.false_eq_true, if_false, okb_nil, okb_cons, okst_ex, ok_meth, recv_append hn, oki_cons, oki_nil, ok_tup, ok_con, box_str, box_tup, l2, List.length_cons, List.length_nil, Nat.zero_add, Nat.reduceAdd, true_and, meth_append hn _ (show (S l).length < lim by rw [S_len]; have := hl.len; have := lim_big; omega), ok_ok, ok_and, pyEq_int, cmpE_eq, show decide ((0 : Int) = 1) = false by decide, show decide ((0 : Int) = 2) = false by decide]
      refine ⟨⟨_, _, _, rfl⟩, (G.pushed _).write B G.len _, ?_⟩
      rw [List.getElem?_set_ne (by have := (List.getElem?_eq_some_iff.mp hfg).1; omega)]
      exact get_push hfg _
    · simp -implicitDefEqProofs only [asg, List.set_cons_succ, List.set_cons_zero, okb_cons, okb_nil, okst_ifs, ok_test, ok_cmp, ok_and, ok_v, ok_con, List.getElem?_cons_zero, List.getElem?_cons_succ, cmpE_eq, cmpE_ne, pyEq_int, some_map, ok_some, truth_bl, decide_true, if_true, show decide ((1 : Int) = 0) = false by decide, show decide ((1 : Int) = 2) = false by decide, Bool.false_eq_true, if_false, ok_bi, okr_cons, okr_nil]
      refine biE_lenr p ag hl ?_
      simp -implicitDefEqProofs only [ok_ok, ok_no, ok_bind, ok_nox, ok_some, ok_none, ok_v, ok_con, ok_glob, ok_bin, ok_neg, ok_inv, ok_not, ok_and, ok_or, ok_cmp, ok_cmp2, ok_ite, ok_lst, ok_tup, ok_dct, ok_sub, ok_slc, ok_attr, ok_call, ok_callv, ok_meth, ok_repl, ok_bi, ok_isi, ok_fstr, ok_lc1, oki_nil, oki_cons, oki_star, okr_nil, okr_cons, oko_none, oko_some, oks_it, oks_rng1, oks_rng2, oks_enum, oks_zip, okt_nil, okt_cons, ok_test, okb_nil, okb_cons, okst_set, okst_sets, okst_setI, okst_setA, okst_aug, okst_ex, okst_ret, okst_ifs, okst_for, okst_while, okst_brk, okst_pass, box_non, box_bl, box_int, box_str, box_glb, box_tup, box_tuq, box_loc, box_tl, List.getElem?_cons_zero, List.getElem?_cons_succ, List.set_cons_zero, List.set_cons_succ, some_map, some_bind, truth_bl, ok_if, retP_rt, retP_nx, decide_true, decide_false, Bool.false_eq_true, if_true, if_false, Bool.not_true, Bool.not_false, cmpE_eq, cmpE_ne, pyEq_int, biE_len kg, S_len, show decide ((1 : Int) = 2) = false by decide]
      exact ⟨⟨_, _, _, rfl⟩, G, hfg⟩
    · simp -implicitDefEqProofs only [asg, List.set_cons_succ, List.set_cons_zero, okb_cons, okb_nil, okst_ifs, ok_test, ok_cmp, ok_and, ok_v, ok_con, List.getElem?_cons_zero, List.getElem?_cons_succ, cmpE_eq, cmpE_ne, pyEq_int, some_map, ok_some, truth_bl, decide_true, if_true, show decide ((2 : Int) = 0) = false by decide, show decide ((2 : Int) = 1) = false by decide, Bool.false_eq_true, if_false, okst_for, oks_it, ok_call, oki_nil, callG_has L.sits]
      refine (lsits_ok L).mono fun v g1 ⟨n2, e, hn2, kp, c⟩ => ?_
      subst e
      have G1 := G.trans (kp.gr G.bag)
      have a1 := ag.kp kp
      have k1 := kp.keep _ _ kg
      have f1 := kp.keep _ _ hfg
      rw [itE_loc c]
      simp -implicitDefEqProofs only [ok_some]
      refine ok_loopS (fun dn e g2 => (∃ x5, e = [some (.loc b), some (.loc r), some (.loc k), some (.int 2), x4, x5]) ∧ Kp g1 g2) (fun _ _ _ _ _ i => stays_loc (i.2.keep _ _ c) (same_S _)) ?_ ?_ _ [] _ _ rfl ⟨⟨x5, rfl⟩, Kp.refl _⟩
      · rintro dn x rest e g2 hw ⟨⟨x5, rfl⟩, kq⟩
        have hx : x ∈ S all11 := by
          have : x ∈ (Walk.mk (S all11) [(n2, S all11)]).items := by rw [hw]; simp
          exact this
        obtain ⟨i, hi, rfl⟩ := List.mem_map.mp hx
        have hi := in11 i hi
        have a2 := a1.kp kq
        have k2 := kq.keep _ _ k1
        simp -implicitDefEqProofs only [asg, List.set_cons_succ, List.set_cons_zero, okb_cons, okb_nil, okst_ifs, ok_test, ok_or, ok_cmp, ok_v, List.getElem?_cons_zero, List.getElem?_cons_succ]
        refine in_rule p a2 hi hl ?_
        have row : Row g2 (.loc k) (S l) := .loc k2
        simp -implicitDefEqProofs only [cmpE_in (row_ins row), isIn_row g2 row hi hl.in11, some_map, ok_some, cmpE_ne, pyEq_bl, beq_self_eq_true, Bool.not_true, truth_bl, Bool.false_eq_true, if_false, ok_bi, okr_cons, okr_nil, ok_v, List.getElem?_cons_zero, List.getElem?_cons_succ, biE_listsv, ok_ok, ok_cmp]
        refine in_rule_tl p a2 fun g3 k3 => ?_
        simp -implicitDefEqProofs only [truth_bl, ok_some, Bool.false_eq_true, if_false, okb_nil]
        exact ⟨⟨_, rfl⟩, kq.trans k3⟩
      · rintro e g2 ⟨⟨x5, rfl⟩, kq⟩
        exact ⟨⟨_, _, _, rfl⟩, G1.trans (kq.gr G1.bag), kq.keep _ _ f1⟩
  · rintro e g ⟨⟨x3, x4, x5, rfl⟩, G, hfg⟩
    simp -implicitDefEqProofs only [ok_ok, ok_no, ok_bind, ok_nox, ok_some, ok_none, ok_v, ok_con, ok_glob, ok_bin, ok_neg, ok_inv, ok_not, ok_and, ok_or, ok_cmp, ok_cmp2, ok_ite, ok_lst, ok_tup, ok_dct, ok_sub, ok_slc, ok_attr, ok_call, ok_callv, ok_meth, ok_repl, ok_bi, ok_isi, ok_fstr, ok_lc1, oki_nil, oki_cons, oki_star, okr_nil, okr_cons, oko_none, oko_some, oks_it, oks_rng1, oks_rng2, oks_enum, oks_zip, okt_nil, okt_cons, ok_test, okb_nil, okb_cons, okst_set, okst_sets, okst_setI, okst_setA, okst_aug, okst_ex, okst_ret, okst_ifs, okst_for, okst_while, okst_brk, okst_pass, box_non, box_bl, box_int, box_str, box_glb, box_tup, box_tuq, box_loc, box_tl, List.getElem?_cons_zero, List.getElem?_cons_succ, List.set_cons_zero, List.set_cons_succ, some_map, some_bind, truth_bl, ok_if, retP_rt, retP_nx, decide_true, decide_false, Bool.false_eq_true, if_true, if_false, Bool.not_true, Bool.not_false, cmpE_eq, cmpE_ne, pyEq_int]
    exact ⟨trivial, G⟩
end
end Sc
end
section
set_option Elab.async false
set_option linter.all false
set_option maxRecDepth 100000
set_option maxHeartbeats 1000000
set_option autoImplicit false
/-! Named rules; drawn lists. -/
namespace Sc
open PySem K31

def tNK : List Str := ["new", "known"]
def tNKI : List Str := ["new", "known", "in"]
def tOB : List Str := ["out", "both"]
section
variable {P : Pg} {h : Heap} {d : Nat}
theorem mk_sb (p : RP P) {w : Val} {l m : List Nat} (r : Row h w (S m)) (hm : In11 m) (hz : m.length ≤ 100000) (hl : Sb l) (e : ∀ x, x ∈ m ↔ x ∈ l) : Ok (callG (cxD P (d + 2)) "Rule" [w] h) fun v g => ∃ n, v = .loc n ∧ h.length ≤ n ∧ Kp h g ∧ RuleAt g n l := by
  refine (mk_ok p r hm hz).mono fun v g ⟨e1, k, c⟩ => ?_
  rw [hl.mem e] at c
  exact ⟨_, e1, Nat.le_refl _, k, c⟩
theorem callee_rule (p : RP P) : calleeE (cxD P d) (.glb "Rule") h = some (callG (cxD P d) "Rule") := by
  unfold calleeE
  dsimp only
  rw [if_pos (by rw [p.cls]; simp)]
theorem anyEq_strs (x : Str) : ∀ zs : List Str, anyEq h (.str x) (zs.map Val.str) = some (zs.any (· == x)) := by
  intro zs
  have e : ∀ zs : List Str, optAll (py h) (zs.map Val.str) = some (zs.map PyData.str) := by
    intro zs
    induction zs with
    | nil => rfl
    | cons z zs ih =>
      rw [List.map_cons]
      unfold optAll
      rw [ih]; rfl
  unfold anyEq
  rw [e]
  show some ((zs.map PyData.str).any fun e => e.eqv (.str x)) = _
  rw [List.any_map]
  refine congrArg some (congrArg (List.any zs) ?_)
  funext z
  show PyData.eqv (.str z) (.str x) = _
  simp only [PyData.eqv]
theorem sub_tie (i : Nat) : subV (sv i) (.int 0) h = some (.str (tieS i)) := id rfl
theorem sub_part (i : Nat) : subV (sv i) (.int 1) h = some (.str (partS i)) := id rfl
/-- a classmethod that makes a rule of a filter -/
theorem named_ok (p : RP P) {m : String} {f : FnI} {c : Ex} (pr : Nat → Bool) (hf : P.fn "Rule" m = some f) (hp : f.params = ["cls"]) (he : startE f [.glb "Rule"] = [some (.glb "Rule"), none]) (hb : f.body = [.ret (.callv (.v 0) (.cons (.lc (.v 1) (.gen (.v 1) (.it (.glob "SITUATIONS")) (.cons c .nil) .nil)) .nil))])
    (hc : ∀ i, i < 11 → ∀ h Q, Q (.bl (pr i)) h → Ok (evE (cxD P (d + 2)) c [some (.glb "Rule"), some (sv i)] h) Q) : Ok (run P (d + 3) "Rule" m [.glb "Rule"] h) fun v g => ∃ n, v = .loc n ∧ h.length ≤ n ∧ Kp h g ∧ RuleAt g n (all11.filter pr) := by
  refine ok_run hf (by rw [hp]; rfl) ?_
  rw [he, hb]
  simp -implicitDefEqProofs only [okb_cons, okst_ret, ok_callv, ok_v, List.getElem?_cons_zero, callee_rule p, oki_cons, oki_nil, ok_lc1, oks_it, ok_glob, p.sit, ok_some, itE_tup]
  refine ok_filter (w := ⟨S all11, []⟩) (l := all11) pr rfl rfl (fun j hj => ?_) ?_
  · simp -implicitDefEqProofs only [Tg.slots, wipeE, asg, List.set_cons_succ, List.set_cons_zero, ok_bind, okt_cons, okt_nil, ok_if]
    refine hc j (in11 j hj) h _ ?_
    simp -implicitDefEqProofs only [truth_bl, ok_some]
    cases hpr : pr j with
    | true => simp -implicitDefEqProofs only [if_true, ok_v, List.getElem?_cons_zero, List.getElem?_cons_succ, ok_box (Bx_sv j), ok_ok, and_self]
    | false => simp -implicitDefEqProofs only [Bool.false_eq_true, if_false, ok_ok, and_self]
  · refine ⟨len_filter _, ?_⟩
    simp -implicitDefEqProofs only [box_tl]
    refine (mk_sb (l := all11.filter pr) p (.loc (get_new _)) (in11.filter _) (Nat.le_trans (List.length_filter_le _ _) (by decide)) (List.filter_sublist) fun _ => Iff.rfl).mono fun v g ⟨n, e1, hn, k, cc⟩ => ?_
    subst e1
    rw [List.length_append] at hn
    exact ⟨n, rfl, by omega, (Kp.push h _).trans k, cc⟩
theorem new_ok (p : RP P) : Ok (run P (d + 3) "Rule" "new" [.glb "Rule"] h) fun v g => ∃ n, v = .loc n ∧ h.length ≤ n ∧ Kp h g ∧ RuleAt g n (all11.filter fun i => tieS i == "new") := by
  refine named_ok p _ p.new rfl rfl rfl fun i hi h Q q => ?_
  simp -implicitDefEqProofs only [ok_ok, ok_no, ok_bind, ok_nox, ok_some, ok_none, ok_v, ok_con, ok_glob, ok_bin, ok_neg, ok_inv, ok_not, ok_and, ok_or, ok_cmp, ok_cmp2, ok_ite, ok_lst, ok_tup, ok_dct, ok_sub, ok_slc, ok_attr, ok_call, ok_callv, ok_meth, ok_repl, ok_bi, ok_isi, ok_fstr, ok_lc1, oki_nil, oki_cons, oki_star, okr_nil, okr_cons, oko_none, oko_some, oks_it, oks_rng1, oks_rng2, oks_enum, oks_zip, okt_nil, okt_cons, ok_test, okb_nil, okb_cons, okst_set, okst_sets, okst_setI, okst_setA, okst_aug, okst_ex, okst_ret, okst_ifs, okst_for, okst_while, okst_brk, okst_pass, box_non, box_bl, box_int, box_str, box_glb, box_tup, box_tuq, box_loc, box_tl, List.getElem?_cons_zero, List.getElem?_cons_succ, List.set_cons_zero, List.set_cons_succ, some_map, some_bind, truth_bl, ok_if, retP_rt, retP_nx, decide_true, decide_false, Bool.false_eq_true, if_true, if_false, Bool.not_true, Bool.not_false, cmpE_eq, cmpE_ne, pyEq_int, sub_tie, pyEq_str]
  exact q
theorem once_ok (p : RP P) : Ok (run P (d + 3) "Rule" "once" [.glb "Rule"] h) fun v g => ∃ n, v = .loc n ∧ h.length ≤ n ∧ Kp h g ∧ RuleAt g n (all11.filter fun i => tNK.any (· == tieS i)) := by
  refine named_ok p _ p.once rfl rfl rfl fun i hi h Q q => ?_
  have l2 : 2 ≤ lim := by have := lim_big; omega
  have e : isIn (.str (tieS i)) (.tup [.str "new", .str "known"]) h = some (tNK.any (· == tieS i)) := anyEq_strs (h := h) (tieS i) tNK
  have ei : insOf h (.tup [.str "new", .str "known"]) = none := rfl
  simp -implicitDefEqProofs only [ok_ok, ok_no, ok_bind, ok_nox, ok_some, ok_none, ok_v, ok_con, ok_glob, ok_bin, ok_neg, ok_inv, ok_not, ok_and, ok_or, ok_cmp, ok_cmp2, ok_ite, ok_lst, ok_tup, ok_dct, ok_sub, ok_slc, ok_attr, ok_call, ok_callv, ok_meth, ok_repl, ok_bi, ok_isi, ok_fstr, ok_lc1, oki_nil, oki_cons, oki_star, okr_nil, okr_cons, oko_none, oko_some, oks_it, oks_rng1, oks_rng2, oks_enum, oks_zip, okt_nil, okt_cons, ok_test, okb_nil, okb_cons, okst_set, okst_sets, okst_setI, okst_setA, okst_aug, okst_ex, okst_ret, okst_ifs, okst_for, okst_while, okst_brk, okst_pass, box_non, box_bl, box_int, box_str, box_glb, box_tup, box_tuq, box_loc, box_tl, List.getElem?_cons_zero, List.getElem?_cons_succ, List.set_cons_zero, List.set_cons_succ, some_map, some_bind, truth_bl, ok_if, retP_rt, retP_nx, decide_true, decide_false, Bool.false_eq_true, if_true, if_false, Bool.not_true, Bool.not_false, cmpE_eq, cmpE_ne, pyEq_int, sub_tie, l2, List.length_cons, List.length_nil, Nat.zero_add, Nat.reduceAdd, true_and, cmpE_in ei, e]
  exact q
theorem each_ok (p : RP P) : Ok (run P (d + 3) "Rule" "each_way" [.glb "Rule"] h) fun v g => ∃ n, v = .loc n ∧ h.length ≤ n ∧ Kp h g ∧ RuleAt g n (all11.filter fun i => tNKI.any (· == tieS i)) := by
  refine named_ok p _ p.each rfl rfl rfl fun i hi h Q q => ?_
  have l3 : 3 ≤ lim := by have := lim_big; omega
  have e : isIn (.str (tieS i)) (.tup [.str "new", .str "known", .str "in"]) h = some (tNKI.any (· == tieS i)) := anyEq_strs (h := h) (tieS i) tNKI
  have ei : insOf h (.tup [.str "new", .str "known", .str "in"]) = none := rfl
  simp -implicitDefEqProofs only [ok_ok, ok_no, ok_bind, ok_nox, ok_some, ok_none, ok_v, ok_con, ok_glob, ok_bin, ok_neg, ok_inv, ok_not, ok_and, ok_or, ok_cmp, ok_cmp2, ok_ite, ok_lst, ok_tup, ok_dct, ok_sub, ok_slc, ok_attr, ok_call, ok_callv, ok_meth, ok_repl, ok_bi, ok_isi, ok_fstr, ok_lc1, oki_nil, oki_cons, oki_star, okr_nil, okr_cons, oko_none, oko_some, oks_it, oks_rng1, oks_rng2, oks_enum, oks_zip, okt_nil, okt_cons, ok_test, okb_nil, okb_cons, okst_set, okst_sets, okst_setI, okst_setA, okst_aug, okst_ex, okst_ret, okst_ifs, okst_for, okst_while, okst_brk, okst_pass, box_non, box_bl, box_int, box_str, box_glb, box_tup, box_tuq, box_loc, box_tl, List.getElem?_cons_zero, List.getElem?_cons_succ, List.set_cons_zero, List.set_cons_succ, some_map, some_bind, truth_bl, ok_if, retP_rt, retP_nx, decide_true, decide_false, Bool.false_eq_true, if_true, if_false, Bool.not_true, Bool.not_false, cmpE_eq, cmpE_ne, pyEq_int, sub_tie, l3, List.length_cons, List.length_nil, Nat.zero_add, Nat.reduceAdd, true_and, cmpE_in ei, e]
  exact q
theorem free_ok (p : RP P) : Ok (run P (d + 3) "Rule" "free" [.glb "Rule"] h) fun v g => ∃ n, v = .loc n ∧ h.length ≤ n ∧ Kp h g ∧ RuleAt g n all11 := by
  refine ok_run p.free rfl ?_
  show Ok (evB (cxD P (d + 2)) ir_Rule_free.body [some (.glb "Rule")] h) _
  unfold ir_Rule_free
  dsimp only
  simp -implicitDefEqProofs only [okb_cons, okst_ret, ok_callv, ok_v, List.getElem?_cons_zero, callee_rule p, oki_cons, oki_nil, ok_glob, p.sit, ok_some, box_tup]
  refine (mk_sb (l := all11) p (.tup _) in11 (by decide) (List.Sublist.refl _) fun _ => Iff.rfl).mono fun v g q => ?_
  simp -implicitDefEqProofs only [retP_rt]
  exact q
theorem recv_cm (p : RP P) {m : String} (hm : cRule.cms.contains m = true) : recvE (cxD P d) m (.glb "Rule") h = some fun vs h1 => run P d "Rule" m (.glb "Rule" :: vs) h1 := by
  unfold recvE
  dsimp only
  rw [p.cls]
  dsimp only
  rw [if_neg (show ¬ cRule.exc = true by decide), if_pos hm]
/-- operators on rules -/
theorem band_ok (p : RP P) {r q : Nat} {l m : List Nat} (a : RuleAt h r l) (b : RuleAt h q m) (hl : Sb l) (hm : Sb m) : Ok (binE (cxD P (d + 3)) .band (.loc r) (.loc q) h) fun v g => ∃ n, v = .loc n ∧ h.length ≤ n ∧ Kp h g ∧ RuleAt g n (l.filter m.contains) := by
  have hk : kindOf h (.loc q) = some "Rule" := by simp [kindOf, show h[q]? = _ from b]
  unfold binE
  rw [insOf_ins a]
  show Ok (if kindOf h (.loc q) = some "Rule" then callM (cxD P (d + 3)) "Rule" "__and__" [.loc r, .loc q] h else .no) _
  rw [if_pos hk, callM_rule p (by decide)]
  refine (and_ok p a b hl.in11 hm.in11 (by have := hl.len; omega)).mono fun v g ⟨n, e, hn, k, c⟩ => ⟨n, e, hn, k, ?_⟩
  rw [(hl.filter m.contains).canon] at c
  exact c
theorem bor_ok (p : RP P) {r q : Nat} {l m : List Nat} (a : RuleAt h r l) (b : RuleAt h q m) (hl : Sb l) (hm : Sb m) : Ok (binE (cxD P (d + 3)) .bor (.loc r) (.loc q) h) fun v g => ∃ n, v = .loc n ∧ h.length ≤ n ∧ Kp h g ∧ RuleAt g n (all11.filter fun i => l.contains i || m.contains i) := by
  have hk : kindOf h (.loc q) = some "Rule" := by simp [kindOf, show h[q]? = _ from b]
  unfold binE
  rw [insOf_ins a]
  show Ok (if kindOf h (.loc q) = some "Rule" then callM (cxD P (d + 3)) "Rule" "__or__" [.loc r, .loc q] h else .no) _
  rw [if_pos hk, callM_rule p (by decide)]
  refine (or_ok p a b hl.in11 hm.in11 (by have := hl.len; omega) (by have := hm.len; omega)).mono fun v g ⟨n, e, hn, k, c⟩ => ⟨n, e, hn, k, ?_⟩
  have e : (fun i => l.contains i || m.contains i) = (l ++ m).contains := by
    funext i
    rw [Bool.eq_iff_iff]
    simp
  rw [e]
  exact c
theorem binv_ok (p : RP P) {r : Nat} {l : List Nat} (a : RuleAt h r l) (hl : Sb l) : Ok (callM (cxD P (d + 3)) "Rule" "__invert__" [.loc r] h) fun v g => ∃ n, v = .loc n ∧ h.length ≤ n ∧ Kp h g ∧ RuleAt g n (all11.filter fun i => !l.contains i) := by
  rw [callM_rule p (by decide)]
  refine (inv_ok p a hl.in11).mono fun v g ⟨n, e, hn, k, c⟩ => ⟨n, e, hn, k, ?_⟩
  rw [Sb.canon (l := all11.filter fun i => !l.contains i) List.filter_sublist] at c
  exact c
/-! ### drawn lists -/
theorem ok_drawn {w : Walk} {f : Val → Heap → R (List Val)} (I : Heap → Prop) (hst : ∀ g, I g → w.stays g = true) : ∀ (l : List Nat) (h : Heap), I h → (∀ i ∈ l, ∀ g, I g → Ok (f (sv i) g) fun a g' => (a = [] ∨ a = [sv i]) ∧ I g') → Ok (loopL w f (S l) h) fun b g => ∃ l', b = S l' ∧ l'.Sublist l ∧ I g
  | [], h, i0, _ => by
    show Ok (loopL w f [] h) _
    rw [loopL, if_pos (hst h i0)]
    exact ⟨[], rfl, .slnil, i0⟩
  | j :: l, h, i0, hf => by
    rw [S_cons, loopL, if_pos (hst h i0), ok_bind]
    refine (hf j (List.mem_cons_self ..) h i0).mono fun a g ⟨ha, ig⟩ => ?_
    rw [ok_bind]
    refine (ok_drawn I hst l g ig fun i hi => hf i (List.mem_cons_of_mem _ hi)).mono fun b g2 ⟨l', eb, hs, i2⟩ => ?_
    subst eb
    rw [ok_ok]
    rcases ha with rfl | rfl
    · exact ⟨l', rfl, hs.cons _, i2⟩
    · exact ⟨j :: l', rfl, hs.cons_cons _, i2⟩
theorem drawn_elt {cx : Cx} {t : Ex} {e1 : Env} {g : Heap} {i j : Nat} {I : Heap → Prop} (ht : Ok (evE cx t e1 g) fun x g' => ∃ c : Bool, x = .bl c ∧ I g') (hel : e1[j]? = some (some (sv i))) :
    Ok ((evT cx (.cons t .nil) e1 g).bind fun b h3 => if b = true then (evE cx (.v j) e1 h3).bind fun v h1 => (box v h1).bind fun v h2 => .ok [v] h2 else .ok [] h3) fun a g' => (a = [] ∨ a = [sv i]) ∧ I g' := by
  rw [ok_bind, okt_cons]
  refine ht.mono fun x g' ⟨c, e, ig⟩ => ?_
  subst e
  cases c with
  | true =>
    simp -implicitDefEqProofs only [truth_bl, ok_some, if_true, okt_nil, ok_bind, ok_v, hel, ok_box (Bx_sv i), ok_ok]
    exact ⟨.inr trivial, ig⟩
  | false =>
    simp -implicitDefEqProofs only [truth_bl, ok_some, Bool.false_eq_true, if_false, ok_ok]
    exact ⟨.inl trivial, ig⟩
/-- a list, numbered or not -/
inductive LstV (h0 g : Heap) : Val → List Val → Prop
  | tl (vs : List Val) : LstV h0 g (.tl vs) vs
  | loc {n : Nat} {vs : List Val} : h0.length ≤ n → g[n]? = some (.lst vs) → LstV h0 g (.loc n) vs
theorem LstV.box {h0 g : Heap} {v : Val} {vs : List Val} (k : h0.length ≤ g.length) (r : LstV h0 g v vs) : Ok (box v g) fun x g' => ∃ n, x = .loc n ∧ h0.length ≤ n ∧ Kp g g' ∧ g'[n]? = some (.lst vs) := by
  cases r with
  | tl => rw [box_tl]; exact ⟨_, rfl, k, Kp.push g _, get_new _⟩
  | loc hn e => rw [box_loc]; exact ⟨_, rfl, hn, Kp.refl g, e⟩
theorem kept_ok (L : LP P) {b s : Nat} (B : Bag b s h) : Ok (run P (d + 2) "" "_law_kept" [.loc b] h) fun v g => ∃ l, Sb l ∧ LstV h g v (S l) ∧ Gr b s h g := by
  refine ok_run L.kept.fn rfl ?_
  show Ok (evB (cxD P (d + 1)) ir_law_kept.body [some (.loc b), none, none, none, none] h) _
  unfold ir_law_kept
  dsimp only
  have l2 : 2 ≤ lim := by have := lim_big; omega
  rw [okb_cons]
  simp -implicitDefEqProofs only [okst_set, ok_call, oki_nil, callG_has L.sits]
  refine (lsits_ok L).mono fun v g1 ⟨n, e, hn, kp, c⟩ => ?_
  subst e
  have G1 := kp.gr B
  have hnb : n ≠ b := by have := B.lt; omega
  simp -implicitDefEqProofs only [box_loc, List.set_cons_succ, List.set_cons_zero]
  rw [okb_cons]
  simp -implicitDefEqProofs only [okst_set, ok_call, oki_nil, oki_cons, ok_v, ok_con, List.getElem?_cons_zero, box_loc, box_int, callG_has L.draw]
  refine (draw_ok L.draw.fn (kp.bag B) (by decide) (by decide)).mono fun v g2 ⟨⟨k, ek, k0, k1⟩, G2⟩ => ?_
  subst ek
  have c2 := G2.keep _ _ hnb c
  have G := G1.trans G2
  simp -implicitDefEqProofs only [box_int, List.set_cons_succ, List.set_cons_zero]
  have it := itE_loc c2
  have row : Row g2 (.loc n) (S all11) := .loc c2
  have fl : ∀ (t : Ex) (pr : Nat → Bool), (∀ i, i < 11 → ∀ Q : Val → Heap → Prop, Q (.bl (pr i)) g2 → Ok (evE (cxD P (d + 1)) t [some (.loc b), some (.loc n), some (.int k), some (sv i), none] g2) Q) → Ok (evE (cxD P (d + 1)) (.lc (.v 3) (.gen (.v 3) (.it (.v 1)) (.cons t .nil) .nil)) [some (.loc b), some (.loc n), some (.int k), none, none] g2) fun v g => v = .tl (S (all11.filter pr)) ∧ g = g2 := by
    intro t pr ht
    simp -implicitDefEqProofs only [ok_lc1, oks_it, ok_v, List.getElem?_cons_zero, List.getElem?_cons_succ, it, ok_some]
    refine ok_filter (w := ⟨S all11, [(n, S all11)]⟩) (l := all11) pr rfl (stays_loc c2 (same_S _)) (fun j hj => ?_) ?_
    · simp -implicitDefEqProofs only [Tg.slots, wipeE, asg, List.set_cons_succ, List.set_cons_zero, ok_bind, okt_cons, okt_nil, ok_if]
      refine ht j (in11 j hj) _ ?_
      simp -implicitDefEqProofs only [truth_bl, ok_some]
      cases hpr : pr j with
      | true => simp -implicitDefEqProofs only [if_true, ok_v, List.getElem?_cons_zero, List.getElem?_cons_succ, ok_box (Bx_sv j), ok_ok, and_self]
      | false => simp -implicitDefEqProofs only [Bool.false_eq_true, if_false, ok_ok, and_self]
    · exact ⟨len_filter _, rfl, rfl⟩
  have done : ∀ pr : Nat → Bool, ∃ l, Sb l ∧ LstV h g2 (.tl (S (all11.filter pr))) (S l) ∧ Gr b s h g2 := fun pr => ⟨_, List.filter_sublist, .tl _, G⟩
  have ei : ∀ vs, insOf g2 (.tl vs) = none := fun _ => rfl
  have i1 : ∀ x : Str, isIn (.str x) (.tl [.str "new", .str "known"]) g2 = some (tNK.any (· == x)) := fun x => anyEq_strs (h := g2) x tNK
  have i2 : ∀ x : Str, isIn (.str x) (.tl [.str "out", .str "both"]) g2 = some (tOB.any (· == x)) := fun x => anyEq_strs (h := g2) x tOB
  rw [okb_cons, okst_ifs]
  simp -implicitDefEqProofs only [ok_test, ok_cmp, ok_v, ok_con, List.getElem?_cons_zero, List.getElem?_cons_succ, cmpE_eq, pyEq_int, some_map, ok_some, truth_bl]
  by_cases q0 : k = 0
  · simp -implicitDefEqProofs only [q0, decide_true, if_true, okb_cons, okst_ret]
    subst q0
    refine (fl _ (fun i => tieS i == "new") fun i hi Q q => ?_).mono fun v g ⟨e1, e2⟩ => ?_
    · simp -implicitDefEqProofs only [ok_ok, ok_no, ok_bind, ok_nox, ok_some, ok_none, ok_v, ok_con, ok_glob, ok_bin, ok_neg, ok_inv, ok_not, ok_and, ok_or, ok_cmp, ok_cmp2, ok_ite, ok_lst, ok_tup, ok_dct, ok_sub, ok_slc, ok_attr, ok_call, ok_callv, ok_meth, ok_repl, ok_bi, ok_isi, ok_fstr, ok_lc1, oki_nil, oki_cons, oki_star, okr_nil, okr_cons, oko_none, oko_some, oks_it, oks_rng1, oks_rng2, oks_enum, oks_zip, okt_nil, okt_cons, ok_test, okb_nil, okb_cons, okst_set, okst_sets, okst_setI, okst_setA, okst_aug, okst_ex, okst_ret, okst_ifs, okst_for, okst_while, okst_brk, okst_pass, box_non, box_bl, box_int, box_str, box_glb, box_tup, box_tuq, box_loc, box_tl, List.getElem?_cons_zero, List.getElem?_cons_succ, List.set_cons_zero, List.set_cons_succ, some_map, some_bind, truth_bl, ok_if, retP_rt, retP_nx, decide_true, decide_false, Bool.false_eq_true, if_true, if_false, Bool.not_true, Bool.not_false, cmpE_eq, cmpE_ne, pyEq_int, sub_tie, pyEq_str]; exact q
    · subst e1 e2; exact done _
  simp -implicitDefEqProofs only [q0, decide_false, Bool.false_eq_true, if_false, okb_nil]
  rw [okb_cons, okst_ifs]
  simp -implicitDefEqProofs only [ok_test, ok_cmp, ok_v, ok_con, List.getElem?_cons_zero, List.getElem?_cons_succ, cmpE_eq, pyEq_int, some_map, ok_some, truth_bl]
  by_cases q1 : k = 1
  · simp -implicitDefEqProofs only [q1, decide_true, if_true, okb_cons, okst_ret]
    subst q1
    refine (fl _ (fun i => tNK.any (· == tieS i)) fun i hi Q q => ?_).mono fun v g ⟨e1, e2⟩ => ?_
    · simp -implicitDefEqProofs only [ok_ok, ok_no, ok_bind, ok_nox, ok_some, ok_none, ok_v, ok_con, ok_glob, ok_bin, ok_neg, ok_inv, ok_not, ok_and, ok_or, ok_cmp, ok_cmp2, ok_ite, ok_lst, ok_tup, ok_dct, ok_sub, ok_slc, ok_attr, ok_call, ok_callv, ok_meth, ok_repl, ok_bi, ok_isi, ok_fstr, ok_lc1, oki_nil, oki_cons, oki_star, okr_nil, okr_cons, oko_none, oko_some, oks_it, oks_rng1, oks_rng2, oks_enum, oks_zip, okt_nil, okt_cons, ok_test, okb_nil, okb_cons, okst_set, okst_sets, okst_setI, okst_setA, okst_aug, okst_ex, okst_ret, okst_ifs, okst_for, okst_while, okst_brk, okst_pass, box_non, box_bl, box_int, box_str, box_glb, box_tup, box_tuq, box_loc, box_tl, List.getElem?_cons_zero, List.getElem?_cons_succ, List.set_cons_zero, List.set_cons_succ, some_map, some_bind, truth_bl, ok_if, retP_rt, retP_nx, decide_true, decide_false, Bool.false_eq_true, if_true, if_false, Bool.not_true, Bool.not_false, cmpE_eq, cmpE_ne, pyEq_int, sub_tie, l2, List.length_cons, List.length_nil, Nat.zero_add, Nat.reduceAdd, true_and, cmpE_in (ei _), i1]; exact q
    · subst e1 e2; exact done _
  simp -implicitDefEqProofs only [q1, decide_false, Bool.false_eq_true, if_false, okb_nil]
  rw [okb_cons, okst_ifs]
  simp -implicitDefEqProofs only [ok_test, ok_cmp, ok_v, ok_con, List.getElem?_cons_zero, List.getElem?_cons_succ, cmpE_eq, pyEq_int, some_map, ok_some, truth_bl]
  by_cases q2 : k = 2
  · simp -implicitDefEqProofs only [q2, decide_true, if_true, okb_cons, okst_ret]
    subst q2
    refine (fl _ (fun i => !(tOB.any (· == tieS i))) fun i hi Q q => ?_).mono fun v g ⟨e1, e2⟩ => ?_
    · simp -implicitDefEqProofs only [ok_ok, ok_no, ok_bind, ok_nox, ok_some, ok_none, ok_v, ok_con, ok_glob, ok_bin, ok_neg, ok_inv, ok_not, ok_and, ok_or, ok_cmp, ok_cmp2, ok_ite, ok_lst, ok_tup, ok_dct, ok_sub, ok_slc, ok_attr, ok_call, ok_callv, ok_meth, ok_repl, ok_bi, ok_isi, ok_fstr, ok_lc1, oki_nil, oki_cons, oki_star, okr_nil, okr_cons, oko_none, oko_some, oks_it, oks_rng1, oks_rng2, oks_enum, oks_zip, okt_nil, okt_cons, ok_test, okb_nil, okb_cons, okst_set, okst_sets, okst_setI, okst_setA, okst_aug, okst_ex, okst_ret, okst_ifs, okst_for, okst_while, okst_brk, okst_pass, box_non, box_bl, box_int, box_str, box_glb, box_tup, box_tuq, box_loc, box_tl, List.getElem?_cons_zero, List.getElem?_cons_succ, List.set_cons_zero, List.set_cons_succ, some_map, some_bind, truth_bl, ok_if, retP_rt, retP_nx, decide_true, decide_false, Bool.false_eq_true, if_true, if_false, Bool.not_true, Bool.not_false, cmpE_eq, cmpE_ne, pyEq_int, sub_tie, l2, List.length_cons, List.length_nil, Nat.zero_add, Nat.reduceAdd, true_and, cmpE_nin (ei _), i2]; exact q
    · subst e1 e2; exact done _
  simp -implicitDefEqProofs only [q2, decide_false, Bool.false_eq_true, if_false, okb_nil]
  rw [okb_cons, okst_ifs]
  simp -implicitDefEqProofs only [ok_test, ok_cmp, ok_v, ok_con, List.getElem?_cons_zero, List.getElem?_cons_succ, cmpE_eq, pyEq_int, some_map, ok_some, truth_bl]
  by_cases q3 : k = 3
  · simp -implicitDefEqProofs only [q3, decide_true, if_true, okb_cons, okst_ret, ok_v, List.getElem?_cons_zero, List.getElem?_cons_succ, retP_rt]
    exact ⟨all11, .refl _, .loc hn c2, G⟩
  simp -implicitDefEqProofs only [q3, decide_false, Bool.false_eq_true, if_false, okb_nil]
  simp -implicitDefEqProofs only [okb_cons, okst_set, okst_ret, ok_bin, ok_con, ok_bi, okr_cons, okr_nil, ok_cmp, ok_v, List.getElem?_cons_zero, List.getElem?_cons_succ, cmpE_int, cmp_gt, some_map, ok_some, biE_intb, ok_ok, binE_int, bin_add, box_int, List.set_cons_succ, List.set_cons_zero, ok_lc1, oks_it, it]
  have sh : ∀ c : Bool, 0 < (2 : Int) + (if c = true then 1 else 0) ∧ (2 : Int) + (if c = true then 1 else 0) < 1073741824 := fun c => by cases c <;> decide
  refine (ok_drawn (w := ⟨S all11, [(n, S all11)]⟩) (fun g => Gr b s h g ∧ g[n]? = some (.lst (S all11))) (fun g i => stays_loc i.2 (same_S _)) all11 g2 ⟨G, c2⟩ fun i hi g ⟨Gg, cg⟩ => ?_).mono fun vs g ⟨l', e, hs, Gg, _⟩ => ?_
  · have hi := in11 i hi
    have e0 : subV (.loc n) (.int 0) g = some (sv 0) := by
      rw [subV_lst cg]; rfl
    have dr : ∀ (Q : Val → Heap → Prop) (c : Int), 0 < c → c < 1073741824 → (∀ k g', Gr b s h g' ∧ g'[n]? = some (.lst (S all11)) → Q (.int k) g') → Ok (run P (d + 1) "" "_law_draw" [.loc b, .int c] g) Q := fun Q c h0 h1 q =>
      (draw_ok L.draw.fn Gg.bag h0 h1).mono fun v g' ⟨⟨k, ek, _⟩, G3⟩ => by
        subst ek
        exact q _ _ ⟨Gg.trans G3, G3.keep _ _ hnb cg⟩
    simp -implicitDefEqProofs only [Tg.slots, wipeE, asg, List.set_cons_succ, List.set_cons_zero]
    refine drawn_elt (I := fun g => Gr b s h g ∧ g[n]? = some (.lst (S all11))) ?_ rfl
    have other : Ok (evE (cxD P (d + 1)) (.cmp .eq (.call "_law_draw" (.cons (.v 0) (.cons (.v 4) .nil))) (.con (.int 0))) [some (.loc b), some (.loc n), some (.int k), some (sv i), some (.int (2 + if decide (5 < k) = true then 1 else 0))] g) fun x g' => ∃ c : Bool, x = .bl c ∧ Gr b s h g' ∧ g'[n]? = some (.lst (S all11)) := by
      simp -implicitDefEqProofs only [ok_cmp, ok_call, oki_cons, oki_nil, ok_v, ok_con, List.getElem?_cons_zero, List.getElem?_cons_succ, box_loc, box_int, callG_has L.draw]
      refine dr _ _ (sh _).1 (sh _).2 fun z g' q => ?_
      simp -implicitDefEqProofs only [cmpE_eq, pyEq_int, some_map, ok_some]
      exact ⟨_, rfl, q⟩
    rw [ok_or, ok_and]
    simp -implicitDefEqProofs only [ok_cmp, ok_sub, ok_v, ok_con, List.getElem?_cons_zero, List.getElem?_cons_succ, e0, ok_some, cmpE_eq, pyEq_sv g hi (show 0 < 11 by decide), some_map, truth_bl, cmpE_int, cmp_lt]
    have other2 := other
    simp -implicitDefEqProofs only [ok_cmp, ok_con, cmpE_eq] at other2
    by_cases z0 : i = 0
    · simp -implicitDefEqProofs only [z0, decide_true, if_true, truth_bl, ok_some]
      by_cases z7 : k < 7
      · simp -implicitDefEqProofs only [z7, decide_true, if_true]
        exact ⟨true, rfl, Gg, cg⟩
      · simp -implicitDefEqProofs only [z7, decide_false, Bool.false_eq_true, if_false]
        rw [z0] at other2
        exact other2
    · simp -implicitDefEqProofs only [z0, decide_false, Bool.false_eq_true, if_false, truth_bl, ok_some]
      exact other2
  · subst e
    refine ⟨?_, l', hs, .tl _, Gg⟩
    rw [S_len]
    have := hs.length_le
    have h11 : all11.length = 11 := rfl
    have := lim_big
    omega
end
end Sc
end
section
set_option Elab.async false
set_option linter.all false
set_option maxRecDepth 100000
set_option maxHeartbeats 1000000
set_option autoImplicit false
/-! Two rules beside each other. -/
namespace Sc
open PySem K31

theorem all_self (l m : List Nat) : l.all m.contains = decide (l.filter m.contains = l) := by
  rw [Bool.eq_iff_iff, decide_eq_true_eq, List.filter_eq_self, List.all_eq_true]
theorem filt_contains (pr : Nat → Bool) {i : Nat} (hi : i ∈ all11) : (all11.filter pr).contains i = pr i := by
  rw [Bool.eq_iff_iff, List.contains_iff_mem, List.mem_filter]
  exact ⟨fun h => h.2, fun h => ⟨hi, h⟩⟩
theorem inv_inv {l : List Nat} (hl : Sb l) : (all11.filter fun i => !(all11.filter fun i => !l.contains i).contains i) = l := by
  refine Eq.trans ?_ hl.canon
  apply List.filter_congr
  intro x hx
  rw [filt_contains _ hx, Bool.not_not]
theorem sub_contains {l m : List Nat} (hl : Sb l) {i : Nat} : (l.filter m.contains).contains i = (l.contains i && m.contains i) := by
  rw [Bool.eq_iff_iff, List.contains_iff_mem, List.mem_filter]
  simp
theorem de_morgan {l m : List Nat} (hl : Sb l) : (all11.filter fun i => !(l.filter m.contains).contains i) = all11.filter fun i => (all11.filter fun i => !l.contains i).contains i || (all11.filter fun i => !m.contains i).contains i := by
  apply List.filter_congr
  intro x hx
  rw [filt_contains _ hx, filt_contains _ hx, sub_contains hl, Bool.not_and]
theorem all_and {l m : List Nat} : (l.filter m.contains).all l.contains = true := by
  rw [List.all_eq_true]
  intro x hx
  rw [List.contains_iff_mem]
  exact (List.mem_filter.mp hx).1
theorem all_or {l m : List Nat} (hl : Sb l) : l.all (all11.filter fun i => l.contains i || m.contains i).contains = true := by
  rw [List.all_eq_true]
  intro x hx
  rw [filt_contains _ (hl.subset hx)]
  simp [hx]
section
variable {P : Pg} {h : Heap} {d : Nat}
/-- [x for x in a list if ..] of situations, the list numbered -/
theorem filt_loc {e : Env} {n i j : Nat} {l : List Nat} {t : Ex} (pr : Nat → Bool) (hc : h[n]? = some (.lst (S l))) (hi : e[i]? = some (some (.loc n))) (hl : Sb l) (hj : (wipeE e [j]).length > j)
    (ht : ∀ k, k < 11 → ∀ Q : Val → Heap → Prop, Q (.bl (pr k)) h → Ok (evE (cxD P d) t ((wipeE e [j]).set j (some (sv k))) h) Q) : Ok (evE (cxD P d) (.lc (.v j) (.gen (.v j) (.it (.v i)) (.cons t .nil) .nil)) e h) fun v g => v = .tl (S (l.filter pr)) ∧ g = h := by
  simp -implicitDefEqProofs only [ok_lc1, oks_it, ok_v, hi, itE_loc hc, ok_some, Tg.slots]
  refine ok_filter (w := ⟨S l, [(n, S l)]⟩) (l := l) pr rfl (stays_loc hc (same_S _)) (fun k hk => ?_) ?_
  · have hw : ((wipeE e [j]).set j (some (sv k)))[j]? = some (some (sv k)) := List.getElem?_set_self hj
    simp -implicitDefEqProofs only [asg, ok_bind, okt_cons, okt_nil, ok_if]
    refine ht k (hl.in11 k hk) _ ?_
    simp -implicitDefEqProofs only [truth_bl, ok_some]
    cases hpr : pr k with
    | true => simp -implicitDefEqProofs only [if_true, ok_v, hw, ok_box (Bx_sv k), ok_ok, and_self]
    | false => simp -implicitDefEqProofs only [Bool.false_eq_true, if_false, ok_ok, and_self]
  · refine ⟨?_, rfl, rfl⟩
    rw [S_len]
    have := (hl.filter pr).len
    have := lim_big
    omega
theorem in_loc {n i : Nat} {l : List Nat} {cx : Cx} (hc : h[n]? = some (.lst (S l))) (hi : i < 11) (hl : Sb l) : cmpE cx .in_ (sv i) (.loc n) h = .ok (.bl (l.contains i)) h := by
  have row : Row h (.loc n) (S l) := .loc hc
  rw [cmpE_in (row_ins row), isIn_row h row hi hl.in11]; rfl
theorem nin_loc {n i : Nat} {l : List Nat} {cx : Cx} (hc : h[n]? = some (.lst (S l))) (hi : i < 11) (hl : Sb l) : cmpE cx .nin (sv i) (.loc n) h = .ok (.bl (!l.contains i)) h := by
  have row : Row h (.loc n) (S l) := .loc hc
  rw [cmpE_nin (row_ins row), isIn_row h row hi hl.in11]; rfl
theorem two_ok (p : RP P) (L : LP P) {b s r q k k' : Nat} {l m : List Nat} (B : Bag b s h) (a : RuleAt h r l) (a' : RuleAt h q m) (hk : h[k]? = some (.lst (S l))) (hk' : h[k']? = some (.lst (S m))) (hl : Sb l) (hm : Sb m) (hrb : r ≠ b) (hqb : q ≠ b) (hkb : k ≠ b) (hkb' : k' ≠ b) : Ok (run P (d + 4) "" "_law_two_right" [.loc b, .loc r, .loc q, .loc k, .loc k'] h) fun v g => v = .bl true ∧ Gr b s h g := by
  refine ok_run L.two.fn rfl ?_
  show Ok (evB (cxD P (d + 3)) ir_law_two_right.body [some (.loc b), some (.loc r), some (.loc q), some (.loc k), some (.loc k'), none, none, none, none] h) _
  unfold ir_law_two_right
  dsimp only
  have hlt := B.lt
  -- situations
  rw [okb_cons]
  simp -implicitDefEqProofs only [okst_set, ok_call, oki_nil, callG_has L.sits]
  refine (lsits_ok L).mono fun v g1 ⟨n5, e, hn5, kp1, c5⟩ => ?_
  subst e
  simp -implicitDefEqProofs only [box_loc, List.set_cons_succ, List.set_cons_zero]
  have G1 := kp1.gr B
  have k1 := kp1.keep _ _ hk
  have k1' := kp1.keep _ _ hk'
  -- common
  rw [okb_cons, okst_set]
  refine (filt_loc (l := l) m.contains k1 rfl hl (by simp [wipeE]) fun i hi Q qq => ?_).mono fun v g ⟨e1, e2⟩ => ?_
  · simp -implicitDefEqProofs only [wipeE, List.set_cons_succ, List.set_cons_zero, ok_cmp, ok_v, List.getElem?_cons_zero, List.getElem?_cons_succ, in_loc k1' hi hm, ok_ok]
    exact qq
  subst e1; have e2 := e2.symm; subst e2
  have kp2 := Kp.push g1 [.lst (S (l.filter m.contains))]
  have c6 := get_new (h := g1) (.lst (S (l.filter m.contains)))
  simp -implicitDefEqProofs only [box_tl, List.set_cons_succ, List.set_cons_zero]
  generalize hg2 : g1 ++ [Obj.lst (S (l.filter m.contains))] = g2 at kp2 c6
  have hn6 : h.length ≤ g1.length := kp1.len
  generalize g1.length = n6 at c6 hn6
  have k2 := kp2.keep _ _ k1
  have k2' := kp2.keep _ _ k1'
  have c5' := kp2.keep _ _ c5
  -- either
  rw [okb_cons, okst_set]
  refine (filt_loc (l := all11) (fun i => l.contains i || m.contains i) c5' rfl (List.Sublist.refl _) (by simp [wipeE]) fun i hi Q qq => ?_).mono fun v g ⟨e1, e2⟩ => ?_
  · simp -implicitDefEqProofs only [wipeE, List.set_cons_succ, List.set_cons_zero, ok_or, ok_cmp, ok_v, List.getElem?_cons_zero, List.getElem?_cons_succ, in_loc k2 hi hl, in_loc k2' hi hm, ok_ok, truth_bl, ok_some]
    cases hcl : l.contains i with
    | true => rw [hcl, Bool.true_or] at qq; simp -implicitDefEqProofs only [if_true]; exact qq
    | false => rw [hcl, Bool.false_or] at qq; simp -implicitDefEqProofs only [Bool.false_eq_true, if_false]; exact qq
  subst e1; have e2 := e2.symm; subst e2
  have kp3 := Kp.push g2 [.lst (S (all11.filter fun i => l.contains i || m.contains i))]
  have c8 := get_new (h := g2) (.lst (S (all11.filter fun i => l.contains i || m.contains i)))
  simp -implicitDefEqProofs only [box_tl, List.set_cons_succ, List.set_cons_zero]
  have hn8 : h.length ≤ g2.length := Nat.le_trans kp1.len kp2.len
  have kp13 := kp1.trans (kp2.trans kp3)
  have c6' := kp3.keep _ _ c6
  have c5'' := kp3.keep _ _ c5'
  generalize hg3 : g2 ++ [Obj.lst (S (all11.filter fun i => l.contains i || m.contains i))] = g3 at kp3 c8 kp13 c6' c5''
  generalize g2.length = n8 at c8 hn8
  have G3 := kp13.gr B
  -- what stays through everything
  have sA : ∀ g, Gr b s h g → RuleAt g r l := fun g G => a.gr G hrb
  have sA' : ∀ g, Gr b s h g → RuleAt g q m := fun g G => a'.gr G hqb
  have sK : ∀ g, Gr b s h g → g[k]? = some (.lst (S l)) := fun g G => G.keep _ _ hkb hk
  have sK' : ∀ g, Gr b s h g → g[k']? = some (.lst (S m)) := fun g G => G.keep _ _ hkb' hk'
  -- and, or
  rw [okb_cons, okst_ifs]
  have A : Ok (test (cxD P (d + 3)) (.or (.not (.call "_law_asked" (.cons (.v 0) (.cons (.bin .band (.v 1) (.v 2)) (.cons (.v 6) .nil))))) (.not (.call "_law_asked" (.cons (.v 0) (.cons (.bin .bor (.v 1) (.v 2)) (.cons (.v 8) .nil)))))) [some (.loc b), some (.loc r), some (.loc q), some (.loc k), some (.loc k'), some (.loc n5), some (.loc n6), none, some (.loc n8)] g3) fun c g => c = false ∧ Gr b s g3 g := by
    simp -implicitDefEqProofs only [ok_test, ok_or, ok_not, ok_call, oki_cons, oki_nil, ok_bin, ok_v, List.getElem?_cons_zero, List.getElem?_cons_succ, box_loc]
    refine (band_ok p (sA _ G3) (sA' _ G3) hl hm).mono fun v g4 ⟨n, e, hn, kp4, ca⟩ => ?_
    subst e
    have G4 := kp4.gr G3.bag
    simp -implicitDefEqProofs only [box_loc, callG_has L.asked]
    refine (asked_ok p L G4.bag ca (kp4.keep _ _ c6') (hl.filter _) (by have := G3.len; omega) (by omega)).mono fun v g5 ⟨e, G5⟩ => ?_
    subst e
    have G35 := G4.trans G5
    simp -implicitDefEqProofs only [truth_bl, ok_some, Bool.not_true, Bool.false_eq_true, if_false, ok_not, ok_call, oki_cons, oki_nil, ok_bin, ok_v, List.getElem?_cons_zero, List.getElem?_cons_succ, box_loc]
    have Gh := G3.trans G35
    refine (bor_ok p (sA _ Gh) (sA' _ Gh) hl hm).mono fun v g6 ⟨n', e, hn', kp6, co⟩ => ?_
    subst e
    have G6 := kp6.gr Gh.bag
    simp -implicitDefEqProofs only [box_loc, callG_has L.asked]
    refine (asked_ok p L G6.bag co (kp6.keep _ _ (G35.keep _ _ (by omega) c8)) List.filter_sublist (by have := Gh.len; omega) (by omega)).mono fun v g7 ⟨e, G7⟩ => ?_
    subst e
    simp -implicitDefEqProofs only [truth_bl, ok_some, Bool.not_true]
    exact ⟨trivial, G35.trans (G6.trans G7)⟩
  refine A.mono fun c g4 ⟨e, G34⟩ => ?_
  subst e
  have G4 := G3.trans G34
  have c5 := G34.keep _ _ (by omega) c5''
  have c6 := G34.keep _ _ (by omega) c6'
  rw [if_neg Bool.false_ne_true, okb_nil]
  dsimp only
  clear A
  -- not
  rw [okb_cons, okst_ifs]
  have A : Ok (test (cxD P (d + 3)) (.not (.call "_law_asked" (.cons (.v 0) (.cons (.inv (.v 1)) (.cons (.lc (.v 7) (.gen (.v 7) (.it (.v 5)) (.cons (.cmp .nin (.v 7) (.v 3)) .nil) .nil)) .nil))))) [some (.loc b), some (.loc r), some (.loc q), some (.loc k), some (.loc k'), some (.loc n5), some (.loc n6), none, some (.loc n8)] g4) fun c g => c = false ∧ Gr b s g4 g := by
    simp -implicitDefEqProofs only [ok_test, ok_not, ok_call, oki_cons, oki_nil, ok_inv, ok_v, List.getElem?_cons_zero, List.getElem?_cons_succ, box_loc, insOf_ins (sA _ G4)]
    refine (binv_ok p (sA _ G4) hl).mono fun v g5 ⟨n, e, hn, kp5, ca⟩ => ?_
    subst e
    have G5 := kp5.gr G4.bag
    simp -implicitDefEqProofs only [box_loc]
    refine (filt_loc (l := all11) (fun i => !l.contains i) (kp5.keep _ _ c5) rfl (List.Sublist.refl _) (by simp [wipeE]) fun i hi Q qq => ?_).mono fun v g ⟨e1, e2⟩ => ?_
    · simp -implicitDefEqProofs only [wipeE, List.set_cons_succ, List.set_cons_zero, ok_cmp, ok_v, List.getElem?_cons_zero, List.getElem?_cons_succ, nin_loc (kp5.keep _ _ (sK _ G4)) hi hl, ok_ok]
      exact qq
    subst e1; have e2 := e2.symm; subst e2
    have kp6 := Kp.push g5 [.lst (S (all11.filter fun i => !l.contains i))]
    simp -implicitDefEqProofs only [box_tl, callG_has L.asked]
    have G6 := G5.trans (kp6.gr G5.bag)
    refine (asked_ok p L G6.bag (ca.kp kp6) (get_new _) List.filter_sublist (by have := G4.len; omega) (by have := G5.len; have := G4.len; omega)).mono fun v g7 ⟨e, G7⟩ => ?_
    subst e
    simp -implicitDefEqProofs only [truth_bl, ok_some, Bool.not_true]
    exact ⟨trivial, G6.trans G7⟩
  refine A.mono fun c g5 ⟨e, G45⟩ => ?_
  subst e
  have G5 := G4.trans G45
  have c6 := G45.keep _ _ (by omega) c6
  rw [if_neg Bool.false_ne_true, okb_nil]
  dsimp only
  clear A
  -- within, same
  rw [okb_cons, okst_ifs]
  have rc : ∀ (g : Heap) (n : Nat) (x : List Nat) (mm : String), RuleAt g n x → cRule.meths.contains mm = true → mm ≠ "own_kept" → recvE (cxD P (d + 3)) mm (.loc n) g = some fun vs h1 => run P (d + 3) "Rule" mm (.loc n :: vs) h1 := fun g n x mm ax h1 h2 => recv_rule p ax h1 h2
  have A : Ok (test (cxD P (d + 3)) (.or (.cmp .ne (.meth (.v 1) "within" (.cons (.v 2) .nil)) (.cmp .eq (.v 6) (.v 3))) (.cmp .ne (.meth (.v 1) "same" (.cons (.v 2) .nil)) (.cmp .eq (.v 3) (.v 4)))) [some (.loc b), some (.loc r), some (.loc q), some (.loc k), some (.loc k'), some (.loc n5), some (.loc n6), none, some (.loc n8)] g5) fun c g => c = false ∧ g = g5 := by
    simp -implicitDefEqProofs only [ok_test, ok_or, ok_cmp, ok_meth, ok_v, List.getElem?_cons_zero, List.getElem?_cons_succ, rc _ _ _ "within" (sA _ G5) (by decide) (by decide), oki_cons, oki_nil, box_loc]
    refine (within_ok p (sA _ G5) (sA' _ G5) hl.in11 hm.in11 (by have := hl.len; omega)).mono fun v g ⟨e1, e2⟩ => ?_
    subst e1; have e2 := e2.symm; subst e2
    simp -implicitDefEqProofs only [cmpE_eq, pyEq_locs _ c6 (sK _ G5) (hl.filter m.contains).in11 hl.in11, some_map, ok_some, cmpE_ne, pyEq_bl, all_self, beq_self_eq_true, Bool.not_true, truth_bl, Bool.false_eq_true, if_false, ok_cmp, ok_meth, ok_v, List.getElem?_cons_zero, List.getElem?_cons_succ, rc _ _ _ "same" (sA _ G5) (by decide) (by decide), oki_cons, oki_nil, box_loc]
    refine (same_ok p (sA _ G5) (sA' _ G5) hl.in11 hm.in11).mono fun v g ⟨e1, e2⟩ => ?_
    subst e1; have e2 := e2.symm; subst e2
    simp -implicitDefEqProofs only [cmpE_eq, pyEq_locs _ (sK _ G5) (sK' _ G5) hl.in11 hm.in11, some_map, ok_some, cmpE_ne, pyEq_bl, beq_self_eq_true, Bool.not_true, truth_bl, and_self]
  refine A.mono fun c g ⟨e, e2⟩ => ?_
  subst e; have e2 := e2.symm; subst e2
  rw [if_neg Bool.false_ne_true, okb_nil]
  dsimp only
  clear A
  -- not not; de Morgan
  rw [okb_cons, okst_ifs]
  have A : Ok (test (cxD P (d + 3)) (.or (.not (.meth (.inv (.inv (.v 1))) "same" (.cons (.v 1) .nil))) (.not (.meth (.inv (.bin .band (.v 1) (.v 2))) "same" (.cons (.bin .bor (.inv (.v 1)) (.inv (.v 2))) .nil)))) [some (.loc b), some (.loc r), some (.loc q), some (.loc k), some (.loc k'), some (.loc n5), some (.loc n6), none, some (.loc n8)] g5) fun c g => c = false ∧ Kp g5 g := by
    simp -implicitDefEqProofs only [ok_test, ok_or, ok_not, ok_meth, ok_inv, ok_v, List.getElem?_cons_zero, List.getElem?_cons_succ, insOf_ins (sA _ G5)]
    refine (binv_ok p (sA _ G5) hl).mono fun v g6 ⟨n, e, hn, kp6, ca⟩ => ?_
    subst e
    simp -implicitDefEqProofs only [insOf_ins ca]
    refine (binv_ok p ca List.filter_sublist).mono fun v g7 ⟨n', e, hn', kp7, cb⟩ => ?_
    subst e
    rw [inv_inv hl] at cb
    have kk := kp6.trans kp7
    have Gk := G5.trans (kk.gr G5.bag)
    simp -implicitDefEqProofs only [rc _ _ _ "same" cb (by decide) (by decide), oki_cons, oki_nil, ok_v, List.getElem?_cons_zero, List.getElem?_cons_succ, box_loc]
    refine (same_ok p cb (sA _ Gk) hl.in11 hl.in11).mono fun v g ⟨e1, e2⟩ => ?_
    subst e1; have e2 := e2.symm; subst e2
    simp -implicitDefEqProofs only [decide_true, truth_bl, ok_some, Bool.not_true, Bool.false_eq_true, if_false, ok_not, ok_meth, ok_inv, ok_bin, ok_v, List.getElem?_cons_zero, List.getElem?_cons_succ]
    refine (band_ok p (sA _ Gk) (sA' _ Gk) hl hm).mono fun v g8 ⟨n1, e, hn1, kp8, cc⟩ => ?_
    subst e
    simp -implicitDefEqProofs only [insOf_ins cc]
    refine (binv_ok p cc (hl.filter _)).mono fun v g9 ⟨n2, e, hn2, kp9, cd⟩ => ?_
    subst e
    have k9 := kp8.trans kp9
    have Gk9 := Gk.trans (k9.gr Gk.bag)
    simp -implicitDefEqProofs only [rc _ _ _ "same" cd (by decide) (by decide), oki_cons, oki_nil, ok_bin, ok_inv, ok_v, List.getElem?_cons_zero, List.getElem?_cons_succ, insOf_ins (sA _ Gk9)]
    refine (binv_ok p (sA _ Gk9) hl).mono fun v g10 ⟨n3, e, hn3, kp10, ce⟩ => ?_
    subst e
    have Gk10 := Gk9.trans (kp10.gr Gk9.bag)
    simp -implicitDefEqProofs only [insOf_ins (sA' _ Gk10)]
    refine (binv_ok p (sA' _ Gk10) hm).mono fun v g11 ⟨n4, e, hn4, kp11, cf⟩ => ?_
    subst e
    refine (bor_ok p (ce.kp kp11) cf List.filter_sublist List.filter_sublist).mono fun v g12 ⟨n5, e, hn5, kp12, cg⟩ => ?_
    subst e
    simp -implicitDefEqProofs only [box_loc]
    refine (same_ok p (cd.kp (kp10.trans (kp11.trans kp12))) cg (in11.filter _) (in11.filter _)).mono fun v g ⟨e1, e2⟩ => ?_
    subst e1; have e2 := e2.symm; subst e2
    rw [← de_morgan hl]
    simp -implicitDefEqProofs only [decide_true, truth_bl, ok_some, Bool.not_true]
    exact ⟨trivial, kk.trans (k9.trans (kp10.trans (kp11.trans kp12)))⟩
  refine A.mono fun c g6 ⟨e, kp6⟩ => ?_
  subst e
  have G6 := G5.trans (kp6.gr G5.bag)
  rw [if_neg Bool.false_ne_true, okb_nil]
  dsimp only
  clear A
  rw [okb_cons, okst_ifs]
  have A : Ok (test (cxD P (d + 3)) (.or (.not (.meth (.bin .band (.v 1) (.v 2)) "within" (.cons (.v 1) .nil))) (.not (.meth (.v 1) "within" (.cons (.bin .bor (.v 1) (.v 2)) .nil)))) [some (.loc b), some (.loc r), some (.loc q), some (.loc k), some (.loc k'), some (.loc n5), some (.loc n6), none, some (.loc n8)] g6) fun c g => c = false ∧ Kp g6 g := by
    simp -implicitDefEqProofs only [ok_test, ok_or, ok_not, ok_meth, ok_bin, ok_v, List.getElem?_cons_zero, List.getElem?_cons_succ]
    refine (band_ok p (sA _ G6) (sA' _ G6) hl hm).mono fun v g7 ⟨n, e, hn, kp7, ca⟩ => ?_
    subst e
    have G7 := G6.trans (kp7.gr G6.bag)
    simp -implicitDefEqProofs only [rc _ _ _ "within" ca (by decide) (by decide), oki_cons, oki_nil, ok_v, List.getElem?_cons_zero, List.getElem?_cons_succ, box_loc]
    refine (within_ok p ca (sA _ G7) (hl.filter _).in11 hl.in11 (by have := (hl.filter m.contains).len; omega)).mono fun v g ⟨e1, e2⟩ => ?_
    subst e1; have e2 := e2.symm; subst e2
    simp -implicitDefEqProofs only [all_and, truth_bl, ok_some, Bool.not_true, Bool.false_eq_true, if_false, ok_not, ok_meth, ok_bin, ok_v, List.getElem?_cons_zero, List.getElem?_cons_succ, rc _ _ _ "within" (sA _ G7) (by decide) (by decide), oki_cons, oki_nil]
    refine (bor_ok p (sA _ G7) (sA' _ G7) hl hm).mono fun v g8 ⟨n', e, hn', kp8, co⟩ => ?_
    subst e
    have G8 := G7.trans (kp8.gr G7.bag)
    simp -implicitDefEqProofs only [box_loc]
    refine (within_ok p (sA _ G8) co hl.in11 (in11.filter _) (by have := hl.len; omega)).mono fun v g ⟨e1, e2⟩ => ?_
    subst e1; have e2 := e2.symm; subst e2
    simp -implicitDefEqProofs only [all_or hl, truth_bl, ok_some, Bool.not_true]
    exact ⟨trivial, kp7.trans kp8⟩
  refine A.mono fun c g7 ⟨e, kp7⟩ => ?_
  subst e
  have G7 := G6.trans (kp7.gr G6.bag)
  rw [if_neg Bool.false_ne_true, okb_nil]
  dsimp only
  clear A
  simp -implicitDefEqProofs only [okb_cons, okst_ret, ok_and, ok_call, oki_cons, oki_nil, ok_v, List.getElem?_cons_zero, List.getElem?_cons_succ, box_loc, callG_has L.asked]
  refine (asked_ok p L G7.bag (sA _ G7) (sK _ G7) hl hrb hkb).mono fun v g8 ⟨e, G78⟩ => ?_
  subst e
  have G8 := G7.trans G78
  simp -implicitDefEqProofs only [truth_bl, ok_some, if_true, ok_call, oki_cons, oki_nil, ok_v, List.getElem?_cons_zero, List.getElem?_cons_succ, box_loc, callG_has L.asked]
  refine (asked_ok p L G8.bag (sA' _ G8) (sK' _ G8) hm hqb hkb').mono fun v g9 ⟨e, G89⟩ => ?_
  subst e
  exact ⟨rfl, G8.trans G89⟩
end
end Sc
end
section
set_option Elab.async false
set_option linter.all false
set_option maxRecDepth 100000
set_option maxHeartbeats 1000000
set_option autoImplicit false
/-! The named rules, asked. -/
namespace Sc
open PySem K31

mutual
theorem sam_self : ∀ v : Val, Val.plain v = true → Val.sam v v = true
  | .non, _ => rfl
  | .bl _, _ => by simp [Val.sam]
  | .int _, _ => by simp [Val.sam]
  | .str _, _ => by simp [Val.sam]
  | .glb _, _ => by simp [Val.sam]
  | .loc _, _ => by simp [Val.sam]
  | .tup a, h => by
    simp only [Val.plain] at h
    simp only [Val.sam]; exact same_self a h
  | .tuq a, h => by
    simp only [Val.plain] at h
    simp only [Val.sam]; exact same_self a h
  | .tl _, h => by simp [Val.plain] at h
  | .ts _, h => by simp [Val.plain] at h
  | .itr _, h => by simp [Val.plain] at h
  | .xc _ _, h => by simp [Val.plain] at h
theorem same_self : ∀ vs : List Val, Val.plains vs = true → Val.same vs vs = true
  | [], _ => rfl
  | v :: vs, h => by
    simp only [Val.plains, Bool.and_eq_true] at h
    simp only [Val.same, Bool.and_eq_true]
    exact ⟨sam_self v h.1, same_self vs h.2⟩
end
theorem plains_of : ∀ {vs : List Val}, (∀ v ∈ vs, Val.plain v = true) → Val.plains vs = true
  | [], _ => rfl
  | v :: vs, h => by
    simp only [Val.plains, Bool.and_eq_true]
    exact ⟨h v (List.mem_cons_self ..), plains_of fun w hw => h w (List.mem_cons_of_mem _ hw)⟩
section
variable {P : Pg} {h : Heap} {d : Nat}
theorem in_strs {t : Nat} {zs : List Str} {x : Str} {cx : Cx} (ht : h[t]? = some (.lst (zs.map Val.str))) : cmpE cx .in_ (.str x) (.loc t) h = .ok (.bl (zs.any (· == x))) h := by
  have e : isIn (.str x) (.loc t) h = some (zs.any (· == x)) := by
    show (match h[t]? with
    | some (.lst vs) => anyEq h (.str x) vs
    | some (.fz vs) => anyEq h (.str x) vs
    | some (.dct kvs) => if (keyOf (.str x)).isSome then some (kvs.any fun p => Val.eqb p.1 (.str x)) else none
    | _ => none) = _
    rw [ht]
    exact anyEq_strs x zs
  rw [cmpE_in (insOf_lst ht), e]; rfl
/-- a rule and its ties -/
def Due (b : Nat) (g : Heap) (x : Val) : Prop := ∃ (r t : Nat) (zs : List Str), x = .tup [.loc r, .loc t] ∧ r ≠ b ∧ t ≠ b ∧ RuleAt g r (all11.filter fun i => zs.any (· == tieS i)) ∧ g[t]? = some (.lst (zs.map Val.str))
theorem Due.gr {b s : Nat} {g g' : Heap} {x : Val} (a : Due b g x) (G : Gr b s g g') : Due b g' x := by
  obtain ⟨r, t, zs, e, h1, h2, h3, h4⟩ := a
  exact ⟨r, t, zs, e, h1, h2, h3.gr G h1, G.keep _ _ h2 h4⟩
theorem filt_new : (all11.filter fun i => tieS i == "new") = all11.filter fun i => (["new"] : List Str).any (· == tieS i) := by decide +kernel
theorem filt_free : all11 = all11.filter fun i => (["new", "known", "out", "in", "both"] : List Str).any (· == tieS i) := by decide +kernel
theorem Kp.due {b : Nat} {g g' : Heap} {x : Val} (k : Kp g g') (a : Due b g x) : Due b g' x := by
  obtain ⟨r, t, zs, e, h1, h2, h3, h4⟩ := a
  exact ⟨r, t, zs, e, h1, h2, h3.kp k, k.keep _ _ h4⟩
theorem named_right_ok (p : RP P) (L : LP P) {b s : Nat} (B : Bag b s h) : Ok (run P (d + 4) "" "_law_named_right" [.loc b] h) fun v g => v = .bl true ∧ Gr b s h g := by
  refine ok_run L.named.fn rfl ?_
  show Ok (evB (cxD P (d + 3)) ir_law_named_right.body [some (.loc b), none, none, none, none, none] h) _
  unfold ir_law_named_right
  dsimp only
  have hlt := B.lt
  have z : ∀ k, k ≤ 100 → k ≤ lim := fun k hk => by have := lim_big; omega
  have l1 := z 1 (by decide)
  have l2 := z 2 (by decide)
  have l3 := z 3 (by decide)
  have l5 := z 5 (by decide)
  rw [okb_cons]
  simp -implicitDefEqProofs only [okst_set, ok_call, oki_nil, callG_has L.sits]
  refine (lsits_ok L).mono fun v g1 ⟨n1, e, hn1, kp1, c1⟩ => ?_
  subst e
  simp -implicitDefEqProofs only [box_loc, List.set_cons_succ, List.set_cons_zero]
  rw [okb_cons]
  simp -implicitDefEqProofs only [okst_set, ok_lst, ok_tup, oki_cons, oki_nil, ok_meth, ok_con, recv_cm p (show cRule.cms.contains "new" = true by decide)]
  refine (new_ok p).mono fun v g2 ⟨r1, e, hr1, kp2, a1⟩ => ?_
  subst e
  have kp3 := Kp.push g2 [.lst [.str "new"]]
  have t1 := get_new (h := g2) (.lst [.str "new"])
  simp -implicitDefEqProofs only [box_loc, box_str, l1, l2, List.length_cons, List.length_nil, Nat.zero_add, Nat.reduceAdd, true_and, box_tl, box_tup, recv_cm p (show cRule.cms.contains "once" = true by decide)]
  refine (once_ok p).mono fun v g4 ⟨r2, e, hr2, kp4, a2⟩ => ?_
  subst e
  have kp5 := Kp.push g4 [.lst [.str "new", .str "known"]]
  have t2 := get_new (h := g4) (.lst [.str "new", .str "known"])
  simp -implicitDefEqProofs only [box_loc, box_str, l1, l2, List.length_cons, List.length_nil, Nat.zero_add, Nat.reduceAdd, true_and, box_tl, box_tup, recv_cm p (show cRule.cms.contains "each_way" = true by decide)]
  refine (each_ok p).mono fun v g6 ⟨r3, e, hr3, kp6, a3⟩ => ?_
  subst e
  have kp7 := Kp.push g6 [.lst [.str "new", .str "known", .str "in"]]
  have t3 := get_new (h := g6) (.lst [.str "new", .str "known", .str "in"])
  simp -implicitDefEqProofs only [box_loc, box_str, l2, l3, List.length_cons, List.length_nil, Nat.zero_add, Nat.reduceAdd, true_and, box_tl, box_tup, List.set_cons_succ, List.set_cons_zero]
  have b2 : b < g1.length := Nat.lt_of_lt_of_le hlt kp1.len
  have b3 : b < g2.length := Nat.lt_of_lt_of_le b2 kp2.len
  have b4 : b < g4.length := Nat.lt_of_lt_of_le (Nat.lt_of_lt_of_le b3 kp3.len) kp4.len
  have b6 : b < g6.length := Nat.lt_of_lt_of_le (Nat.lt_of_lt_of_le b4 kp5.len) kp6.len
  have D1 : Due b (g2 ++ [.lst [.str "new"]]) (.tup [.loc r1, .loc g2.length]) := ⟨r1, _, ["new"], rfl, by omega, by omega, by rw [← filt_new]; exact a1.kp kp3, t1⟩
  have D2 : Due b (g4 ++ [.lst [.str "new", .str "known"]]) (.tup [.loc r2, .loc g4.length]) := ⟨r2, _, tNK, rfl, by rw [List.length_append] at hr2; omega, by omega, a2.kp kp5, t2⟩
  have D3 : Due b (g6 ++ [.lst [.str "new", .str "known", .str "in"]]) (.tup [.loc r3, .loc g6.length]) := ⟨r3, _, tNKI, rfl, by rw [List.length_append] at hr3; omega, by omega, a3.kp kp7, t3⟩
  have k46 := kp4.trans kp5
  have k67 := kp6.trans kp7
  have D1' := (k46.trans k67).due D1
  have D2' := k67.due D2
  have k17 := kp1.trans (kp2.trans (kp3.trans (k46.trans k67)))
  generalize hg7 : g6 ++ [Obj.lst [.str "new", .str "known", .str "in"]] = g7 at D1' D2' D3 k17
  have b7 : b < g7.length := Nat.lt_of_lt_of_le hlt k17.len
  have c7 : g7[n1]? = some (.lst (S all11)) := (kp2.trans (kp3.trans (k46.trans k67))).keep _ _ c1 |> fun z => by rw [← hg7]; exact z
  have kp8 := Kp.push g7 [.lst [.tup [.loc r1, .loc g2.length], .tup [.loc r2, .loc g4.length], .tup [.loc r3, .loc g6.length]]]
  have cl := get_new (h := g7) (.lst [.tup [.loc r1, .loc g2.length], .tup [.loc r2, .loc g4.length], .tup [.loc r3, .loc g6.length]])
  generalize hx1 : Val.tup [.loc r1, .loc g2.length] = x1 at *
  generalize hx2 : Val.tup [.loc r2, .loc g4.length] = x2 at *
  generalize hx3 : Val.tup [.loc r3, .loc g6.length] = x3 at *
  generalize hg8 : g7 ++ [Obj.lst [x1, x2, x3]] = g8 at kp8 cl
  have k18 := k17.trans kp8
  have b8 : b < g8.length := Nat.lt_of_lt_of_le hlt k18.len
  have nl : b ≠ g7.length ∧ h.length ≤ g7.length := ⟨by omega, k17.len⟩
  generalize g7.length = nl' at cl nl
  -- append
  rw [okb_cons]
  simp -implicitDefEqProofs only [okst_ex, ok_meth, ok_v, List.getElem?_cons_zero, List.getElem?_cons_succ, recv_append cl, oki_cons, oki_nil, ok_tup, ok_con, recv_cm p (show cRule.cms.contains "free" = true by decide)]
  refine (free_ok p).mono fun v g9 ⟨r4, e, hr4, kp9, a4⟩ => ?_
  subst e
  have kp10 := Kp.push g9 [.lst [.str "new", .str "known", .str "out", .str "in", .str "both"]]
  have t4 := get_new (h := g9) (.lst [.str "new", .str "known", .str "out", .str "in", .str "both"])
  have k810 := kp9.trans kp10
  have cl10 := k810.keep _ _ cl
  have l3' : 3 < lim := by have := lim_big; omega
  simp -implicitDefEqProofs only [box_loc, box_str, ok_lst, oki_cons, oki_nil, ok_con, l2, l5, List.length_cons, List.length_nil, Nat.zero_add, Nat.reduceAdd, true_and, box_tl, box_tup, meth_append cl10 _ (show [x1, x2, x3].length < lim from l3'), ok_ok, List.cons_append, List.nil_append]
  have b9 : b < g9.length := Nat.lt_of_lt_of_le b8 kp9.len
  have D4 : Due b (g9 ++ [.lst [.str "new", .str "known", .str "out", .str "in", .str "both"]]) (.tup [.loc r4, .loc g9.length]) := ⟨r4, _, ["new", "known", "out", "in", "both"], rfl, by omega, by omega, by rw [← filt_free]; exact a4.kp kp10, t4⟩
  have k810' : Kp g7 (g9 ++ [.lst [.str "new", .str "known", .str "out", .str "in", .str "both"]]) := kp8.trans k810
  have D1'' := k810'.due D1'
  have D2'' := k810'.due D2'
  have D3'' := k810'.due D3
  have c10 := k810'.keep _ _ c7
  have G10 := (k17.trans k810').gr B
  generalize hx4 : Val.tup [.loc r4, .loc g9.length] = x4 at *
  generalize hg10 : g9 ++ [Obj.lst [.str "new", .str "known", .str "out", .str "in", .str "both"]] = g10 at *
  -- the list of due rules is written
  have wr : ∀ x, Due b g10 x → Due b (g10.set nl' (.lst [x1, x2, x3, x4])) x := by
    rintro x ⟨r, t, zs, e, h1, h2, h3, h4⟩
    refine ⟨r, t, zs, e, h1, h2, ?_, ?_⟩
    · unfold RuleAt
      rw [List.getElem?_set_ne (fun z => by rw [z] at cl10; rw [show g10[r]? = _ from h3] at cl10; cases cl10)]; exact h3
    · rw [List.getElem?_set_ne (fun z => ?_)]
      · exact h4
      · rw [z, h4] at cl10
        have : (zs.map Val.str) = [x1, x2, x3] := by injection cl10 with q; injection q
        have hh : (zs.map Val.str)[0]? = some x1 := by rw [this]; rfl
        rw [List.getElem?_map] at hh
        cases hz : zs[0]? with
        | none => rw [hz] at hh; cases hh
        | some w => rw [hz] at hh; rw [← hx1] at hh; cases hh
  have cn1 : nl' ≠ n1 := fun z => by
    rw [z, c10] at cl10
    have : S all11 = [x1, x2, x3] := by injection cl10 with q; injection q
    have := congrArg List.length this
    exact absurd this (by rw [len_all]; simp)
  have G11 := G10.write B (show h.length ≤ nl' from nl.2) (.lst [x1, x2, x3, x4])
  have c11 : (g10.set nl' (.lst [x1, x2, x3, x4]))[n1]? = some (.lst (S all11)) := by rw [List.getElem?_set_ne cn1]; exact c10
  have cl11 : (g10.set nl' (.lst [x1, x2, x3, x4]))[nl']? = some (.lst [x1, x2, x3, x4]) := List.getElem?_set_self (List.getElem?_eq_some_iff.mp cl10).1
  have E1 := wr _ D1''
  have E2 := wr _ D2''
  have E3 := wr _ D3''
  have E4 := wr _ D4
  generalize g10.set nl' (.lst [x1, x2, x3, x4]) = g11 at *
  have all4 : ∀ x ∈ [x1, x2, x3, x4], Due b g11 x ∧ Val.plain x = true ∧ Bx x := fun x hx => by
    simp only [List.mem_cons, List.not_mem_nil, or_false] at hx
    rcases hx with rfl | rfl | rfl | rfl
    · exact ⟨E1, by rw [← hx1]; rfl, by rw [← hx1]; exact fun _ => rfl⟩
    · exact ⟨E2, by rw [← hx2]; rfl, by rw [← hx2]; exact fun _ => rfl⟩
    · exact ⟨E3, by rw [← hx3]; rfl, by rw [← hx3]; exact fun _ => rfl⟩
    · exact ⟨E4, by rw [← hx4]; rfl, by rw [← hx4]; exact fun _ => rfl⟩
  rw [okb_cons, okst_for]
  simp -implicitDefEqProofs only [oks_it, ok_call, oki_cons, oki_nil, ok_v, List.getElem?_cons_zero, List.getElem?_cons_succ, box_loc, callG_has L.mixed]
  refine (mixed_ok L.draw L.mixed.fn (d := d + 1) G11.bag cl11 (Ne.symm nl.1) (by simp) (fun x hx => (all4 x hx).2.2)).mono fun v g12 ⟨f, us, ev, hf, hfu, hp, G12⟩ => ?_
  subst ev
  have hfb : f ≠ b := by have := G11.bag.lt; omega
  rw [itE_loc hfu]
  simp -implicitDefEqProofs only [ok_some]
  have n1b : n1 ≠ b := by omega
  refine ok_loopS (fun dn e g => (∃ y3 y4 y5, e = [some (.loc b), some (.loc n1), some (.loc nl'), y3, y4, y5]) ∧ Gr b s g11 g ∧ g[f]? = some (.lst us)) (fun _ _ _ _ _ i => stays_loc i.2.2 (same_self _ (plains_of fun x hx => (all4 x (hp.subset hx)).2.1))) ?_ ?_ _ [] _ _ rfl ⟨⟨none, none, none, rfl⟩, G12, hfu⟩
  · rintro dn x rest e g hw ⟨⟨y3, y4, y5, rfl⟩, G, hfg⟩
    have hx : x ∈ us := by
      have : x ∈ (Walk.mk us [(f, us)]).items := by rw [hw]; simp
      exact this
    obtain ⟨r, t, zs, rfl, hr, ht, ar, at_⟩ := ((all4 x (hp.subset hx)).1).gr G
    have cg := G.keep _ _ n1b c11
    simp -implicitDefEqProofs only [asg, asgs, List.set_cons_succ, List.set_cons_zero, okb_cons, okb_nil, okst_ifs, ok_test, ok_not, ok_call, oki_cons, oki_nil, ok_v, List.getElem?_cons_zero, List.getElem?_cons_succ, box_loc]
    refine (filt_loc (l := all11) (fun i => zs.any (· == tieS i)) cg rfl (List.Sublist.refl _) (by simp [wipeE]) fun i hi Q qq => ?_).mono fun v g' ⟨e1, e2⟩ => ?_
    · simp -implicitDefEqProofs only [wipeE, List.set_cons_succ, List.set_cons_zero, ok_cmp, ok_sub, ok_con, ok_v, List.getElem?_cons_zero, List.getElem?_cons_succ, sub_tie, ok_some, in_strs at_, ok_ok]
      exact qq
    subst e1; have e2 := e2.symm; subst e2
    have kq := Kp.push g [.lst (S (all11.filter fun i => zs.any (· == tieS i)))]
    simp -implicitDefEqProofs only [box_tl, callG_has L.asked]
    have Gq := G.trans (kq.gr G.bag)
    refine (asked_ok p L Gq.bag (ar.kp kq) (get_new _) List.filter_sublist hr (by have := G.bag.lt; omega)).mono fun v g3 ⟨e, G3⟩ => ?_
    subst e
    simp -implicitDefEqProofs only [truth_bl, ok_some, Bool.not_true, Bool.false_eq_true, if_false]
    exact ⟨⟨_, _, _, rfl⟩, Gq.trans G3, G3.keep _ _ hfb (kq.keep _ _ hfg)⟩
  · rintro e g ⟨⟨y3, y4, y5, rfl⟩, G, hfg⟩
    simp -implicitDefEqProofs only [ok_ok, ok_no, ok_bind, ok_nox, ok_some, ok_none, ok_v, ok_con, ok_glob, ok_bin, ok_neg, ok_inv, ok_not, ok_and, ok_or, ok_cmp, ok_cmp2, ok_ite, ok_lst, ok_tup, ok_dct, ok_sub, ok_slc, ok_attr, ok_call, ok_callv, ok_meth, ok_repl, ok_bi, ok_isi, ok_fstr, ok_lc1, oki_nil, oki_cons, oki_star, okr_nil, okr_cons, oko_none, oko_some, oks_it, oks_rng1, oks_rng2, oks_enum, oks_zip, okt_nil, okt_cons, ok_test, okb_nil, okb_cons, okst_set, okst_sets, okst_setI, okst_setA, okst_aug, okst_ex, okst_ret, okst_ifs, okst_for, okst_while, okst_brk, okst_pass, box_non, box_bl, box_int, box_str, box_glb, box_tup, box_tuq, box_loc, box_tl, List.getElem?_cons_zero, List.getElem?_cons_succ, List.set_cons_zero, List.set_cons_succ, some_map, some_bind, truth_bl, ok_if, retP_rt, retP_nx, decide_true, decide_false, Bool.false_eq_true, if_true, if_false, Bool.not_true, Bool.not_false, cmpE_eq, cmpE_ne, pyEq_int]
    exact ⟨trivial, G11.trans G⟩
end
end Sc
end
section
set_option Elab.async false
set_option linter.all false
set_option maxRecDepth 100000
set_option maxHeartbeats 1000000
set_option autoImplicit false
/-! The text of a rule. -/
namespace Sc
open PySem K31 Builtin.Str

def tl (x : Str) : List Nat := x.cps.toList
theorem tl_ext {x y : Str} (h : tl x = tl y) : x = y := by
  cases x; cases y
  simp only [tl] at h
  congr
  exact Array.toList_inj.mp h
theorem tl_app (x y : Str) : tl (x ++ y) = tl x ++ tl y := by
  show (x.cps ++ y.cps).toList = _
  simp [tl]
theorem occ_no {x y : Str} {c : Nat} (hy : c ∈ tl y) (hx : c ∉ tl x) (n : Nat) : occurrences x y 0 x.length n = [] := by
  refine PySem.W.occ_nil_of_no x y n fun i _ => ?_
  rw [Bool.eq_false_iff]
  intro hs
  have e : x.cps.extract i (i + y.length) = y.cps := by
    unfold subAt at hs
    exact eq_of_beq hs
  apply hx
  have : c ∈ (x.cps.extract i (i + y.length)).toList := by rw [e]; exact hy
  rw [Array.toList_extract] at this
  exact List.mem_of_mem_drop (List.mem_of_mem_take this)
theorem join_eq (sep : Str) (l : List Str) : Txt.join sep l = Str.join sep l := StrLaws.glued_eq_join sep l
theorem join_cons (sep x : Str) {l : List Str} (h : l ≠ []) : Txt.join sep (x :: l) = x ++ sep ++ Txt.join sep l := by
  rw [join_eq, join_eq]
  cases l with
  | nil => exact absurd rfl h
  | cons y r => rfl
theorem mem_join {sep : Str} {c : Nat} (hs : c ∉ tl sep) : ∀ {l : List Str}, (∀ x ∈ l, c ∉ tl x) → c ∉ tl (Txt.join sep l)
  | [], _ => by
    rw [join_eq]
    show c ∉ tl Str.empty
    exact List.not_mem_nil
  | [x], h => by
    rw [join_eq]
    exact h x (List.mem_cons_self ..)
  | x :: y :: r, h => by
    rw [join_cons sep x (List.cons_ne_nil _ _), tl_app, tl_app]
    have h1 := h x (List.mem_cons_self ..)
    have h2 := mem_join hs (l := y :: r) fun z hz => h z (List.mem_cons_of_mem _ hz)
    simp only [List.mem_append, not_or]
    exact ⟨⟨h1, hs⟩, h2⟩
/-- a word of the text, the text's tokens -/
def W (i : Nat) : Str := tieS i ++ " and " ++ partS i
def toks : List Nat → List Str
  | [] => ["never"]
  | i :: l => tieS i :: "and" :: partS i :: "or" :: toks l
theorem toks_ne (l : List Nat) : toks l ≠ [] := by cases l <;> exact List.cons_ne_nil _ _
def nev : List Str := ["never"]
theorem words_ne (l : List Nat) : l.map W ++ nev ≠ [] := by cases l <;> exact List.cons_ne_nil _ _
theorem text_eq : ∀ l : List Nat, Txt.join " or " (l.map W ++ nev) = Txt.join " " (toks l)
  | [] => by rw [join_eq, join_eq]; rfl
  | i :: l => by
    rw [List.map_cons, List.cons_append, join_cons _ _ (words_ne l), text_eq l]
    show _ = Txt.join " " (tieS i :: "and" :: partS i :: "or" :: toks l)
    rw [join_cons _ _ (List.cons_ne_nil _ _), join_cons _ _ (List.cons_ne_nil _ _), join_cons _ _ (List.cons_ne_nil _ _), join_cons _ _ (toks_ne l)]
    apply tl_ext
    unfold W
    simp only [tl_app, List.append_assoc]
    rfl
theorem tok_chars : ∀ i, i < 11 → ∀ c ∈ [32, 40, 41], c ∉ tl (tieS i) ∧ c ∉ tl (partS i) := by decide +kernel
theorem and_chars : ∀ c ∈ [32, 40, 41], c ∉ tl ("and" : Str) ∧ c ∉ tl ("or" : Str) ∧ c ∉ tl ("never" : Str) := by decide +kernel
theorem toks_chars {c : Nat} (hc : c ∈ [32, 40, 41]) : ∀ {l : List Nat}, In11 l → ∀ x ∈ toks l, c ∉ tl x
  | [], _, x, hx => by
    have e : x = "never" := by simpa [toks] using hx
    rw [e]
    exact (and_chars c hc).2.2
  | i :: l, hl, x, hx => by
    have h := tok_chars i (hl i (List.mem_cons_self ..)) c hc
    simp only [toks, List.mem_cons] at hx
    rcases hx with rfl | rfl | rfl | rfl | hx
    · exact h.1
    · exact (and_chars c hc).1
    · exact h.2
    · exact (and_chars c hc).2.1
    · exact toks_chars hc (fun j hj => hl j (List.mem_cons_of_mem _ hj)) x hx
/-- the text of the situations, in this order -/
def T (l : List Nat) : Str := Txt.join " " (toks l)
theorem T_no {c : Nat} (hc : c ∈ [40, 41]) {l : List Nat} (hl : In11 l) : c ∉ tl (T l) := by
  refine mem_join ?_ (toks_chars (by simp at hc ⊢; omega) hl)
  revert c
  decide +kernel
theorem T_split {l : List Nat} (hl : In11 l) : Txt.split (T l) " " = toks l :=
  TL.split_join (y := " ") (s := 32) (S := []) (by decide +kernel) (by decide +kernel) (toks_ne l) fun p hp => toks_chars (by simp) hl p hp
theorem W_len : ∀ i, i < 11 → (W i).length ≤ 20 := by decide +kernel
theorem tok_len : ∀ i, i < 11 → (tieS i).length ≤ 10 ∧ (partS i).length ≤ 10 := by decide +kernel
theorem toks_count (l : List Nat) : (toks l).length = 4 * l.length + 1 := by
  induction l with
  | nil => rfl
  | cons i l ih => simp only [toks, List.length_cons, ih]; omega
theorem toks_sum : ∀ {l : List Nat}, In11 l → ((toks l).map (·.length)).sum ≤ 40 * l.length + 10
  | [], _ => by decide +kernel
  | i :: l, hl => by
    have h := tok_len i (hl i (List.mem_cons_self ..))
    have ih := toks_sum (l := l) fun j hj => hl j (List.mem_cons_of_mem _ hj)
    have e1 : ("and" : Str).length = 3 := by decide +kernel
    have e2 : ("or" : Str).length = 2 := by decide +kernel
    simp only [toks, List.map_cons, List.sum_cons, List.length_cons, e1, e2]
    omega
theorem T_len {l : List Nat} (hl : In11 l) (h11 : l.length ≤ 11) : (T l).length ≤ 1000 := by
  have h1 := StrLaws.join_length_le " " (toks l)
  have h2 := toks_sum hl
  have h3 := toks_count l
  have e : (" " : Str).length = 1 := by decide +kernel
  rw [e] at h1
  unfold T
  rw [join_eq]
  omega
end Sc
end
section
set_option Elab.async false
set_option linter.all false
set_option maxRecDepth 100000
set_option maxHeartbeats 1000000
set_option autoImplicit false
/-! A rule read from its text. -/
namespace Sc
open PySem K31

def TPs : List Str := ["new", "known", "out", "in", "both", "none", "caller", "callee"]
def tiesL : List Str := ["new", "known", "out", "in", "both"]
def partsL : List Str := ["none", "caller", "callee"]
def mean (x : Str) : List Nat := all11.filter fun i => [tieS i, partS i].any (· == x)
theorem tp_facts : ∀ x ∈ TPs, (x == ("any" : Str)) = false ∧ (x == ("never" : Str)) = false ∧ (tiesL.any (· == x) || partsL.any (· == x)) = true ∧ (x == ("not" : Str)) = false ∧ (x == ("(" : Str)) = false := by decide +kernel
theorem nv_facts : (("never" : Str) == ("any" : Str)) = false ∧ (("never" : Str) == ("not" : Str)) = false ∧ (("never" : Str) == ("(" : Str)) = false ∧ mean "never" = [] := by decide +kernel
theorem tp_sit : ∀ i, i < 11 → tieS i ∈ TPs ∧ partS i ∈ TPs ∧ (mean (tieS i)).filter (mean (partS i)).contains = [i] := by decide +kernel
theorem mean_sb (x : Str) : Sb (mean x) := List.filter_sublist
structure RR (P : Pg) : Prop where
  wo : Has P "words_of" ir_words_of
  wr : Has P "written" ir_written
  me : Has P "meant" ir_meant
  r1 : Has P "read_one" ir_read_one
  rb : Has P "read_both" ir_read_both
  re : Has P "read_either" ir_read_either
  rd : P.fn "Rule" "read" = some ir_Rule_read
  ties : P.con "TIES" = some (.tup (tiesL.map Val.str))
  parts : P.con "PARTS" = some (.tup (partsL.map Val.str))
section
variable {cx : Cx} {h : Heap}
theorem cmpE_isn (n : Nat) : cmpE cx .isn (.loc n) .non h = .ok (.bl true) h := id rfl
theorem cmpE_is (n : Nat) : cmpE cx .is_ (.loc n) .non h = .ok (.bl false) h := id rfl
theorem in_tstrs (x : Str) (zs : List Str) : cmpE cx .in_ (.str x) (.tup (zs.map Val.str)) h = .ok (.bl (zs.any (· == x))) h := by
  have ei : insOf h (.tup (zs.map Val.str)) = none := rfl
  rw [cmpE_in ei, show isIn (.str x) (.tup (zs.map Val.str)) h = some (zs.any (· == x)) from anyEq_strs x zs]; rfl
theorem in_sv (x : Str) (i : Nat) : cmpE cx .in_ (.str x) (sv i) h = .ok (.bl ([tieS i, partS i].any (· == x))) h := in_tstrs x [tieS i, partS i]
theorem sub_tok {w a : Nat} {ws : List Val} {x : Val} (hw : h[w]? = some (.lst ws)) (ha : ws[a]? = some x) : subV (.loc w) (.int (a : Nat)) h = some x := by
  rw [subV_lst hw]
  show (L2.ixN ws.length (a : Int)).bind _ = _
  rw [ixN_nat (List.getElem?_eq_some_iff.mp ha).1, some_bind, ha]
theorem okw {t : Env → Heap → R Bool} {f : Env → Heap → R Fl} {n : Nat} {e : Env} (P : Fl → Heap → Prop) : Ok (loopW t f (n + 1) e h) P = Ok (t e h) fun b h1 => if b = true then Ok (f e h1) fun fl h2 => match fl with | .nx e1 => Ok (loopW t f n e1 h2) P | .bk e1 => P (.nx e1) h2 | .rt v => P (.rt v) h2 else P (.nx e) h1 := by
  rw [loopW, ok_bind]; congr 1; funext b h1
  cases b with
  | false => rfl
  | true =>
    simp only [if_true, ok_bind]
    congr 1; funext fl h2; cases fl <;> rfl
theorem wm2 : whileMost = 999998 + 1 + 1 := rfl
end
section
variable {P : Pg} {h : Heap} {d : Nat}
theorem meant_ok (p : RP P) (q : RR P) {x : Str} (hx : x ∈ TPs ∨ x = "never") : Ok (run P (d + 1) "" "meant" [.str x] h) fun v g => v = .tl (S (mean x)) ∧ g = h := by
  refine ok_run q.me.fn rfl ?_
  show Ok (evB (cxD P d) ir_meant.body [some (.str x), none] h) _
  unfold ir_meant
  dsimp only
  rcases hx with hx | rfl
  · obtain ⟨f1, f2, f3, _, _⟩ := tp_facts x hx
    rw [okb_cons, okst_ifs]
    simp -implicitDefEqProofs only [ok_test, ok_cmp, ok_v, ok_con, List.getElem?_cons_zero, cmpE_eq, pyEq_str, f1, some_map, ok_some, truth_bl, Bool.false_eq_true, if_false, okb_nil]
    rw [okb_cons, okst_ifs]
    simp -implicitDefEqProofs only [ok_test, ok_cmp, ok_v, ok_con, List.getElem?_cons_zero, cmpE_eq, pyEq_str, f2, some_map, ok_some, truth_bl, Bool.false_eq_true, if_false, okb_nil]
    rw [okb_cons, okst_ifs]
    have cond : Ok (test (cxD P d) (.or (.cmp .in_ (.v 0) (.glob "TIES")) (.cmp .in_ (.v 0) (.glob "PARTS"))) [some (.str x), none] h) fun c g => c = true ∧ g = h := by
      simp -implicitDefEqProofs only [ok_test, ok_or, ok_cmp, ok_v, ok_glob, List.getElem?_cons_zero, q.ties, q.parts, ok_some, in_tstrs, ok_ok, truth_bl]
      cases ht : tiesL.any (· == x) with
      | true => simp -implicitDefEqProofs only [if_true, truth_bl, ok_some, and_self]
      | false =>
        rw [ht, Bool.false_or] at f3
        simp -implicitDefEqProofs only [Bool.false_eq_true, if_false, f3, truth_bl, ok_some, and_self]
    refine cond.mono fun c g ⟨e1, e2⟩ => ?_
    subst e1; have e2 := e2.symm; subst e2
    rw [if_pos rfl]
    simp -implicitDefEqProofs only [okb_cons, okst_ret, ok_lc1, oks_it, ok_glob, p.sit, ok_some, itE_tup]
    refine ok_filter (w := ⟨S all11, []⟩) (l := all11) (fun i => [tieS i, partS i].any (· == x)) rfl rfl (fun j hj => ?_) ⟨len_filter _, rfl, rfl⟩
    simp -implicitDefEqProofs only [Tg.slots, wipeE, asg, List.set_cons_succ, List.set_cons_zero, ok_bind, okt_cons, okt_nil, ok_if, ok_cmp, ok_v, List.getElem?_cons_zero, List.getElem?_cons_succ, in_sv, ok_ok, truth_bl, ok_some]
    cases hc : [tieS j, partS j].any (· == x) with
    | true => simp -implicitDefEqProofs only [if_true, ok_v, List.getElem?_cons_zero, List.getElem?_cons_succ, ok_box (Bx_sv j), ok_ok, and_self]
    | false => simp -implicitDefEqProofs only [Bool.false_eq_true, if_false, ok_ok, and_self]
  · obtain ⟨f1, _, _, f4⟩ := nv_facts
    rw [okb_cons, okst_ifs]
    simp -implicitDefEqProofs only [ok_test, ok_cmp, ok_v, ok_con, List.getElem?_cons_zero, cmpE_eq, pyEq_str, f1, some_map, ok_some, truth_bl, Bool.false_eq_true, if_false, okb_nil]
    rw [okb_cons, okst_ifs]
    simp -implicitDefEqProofs only [ok_test, ok_cmp, ok_v, ok_con, List.getElem?_cons_zero, cmpE_eq, pyEq_str, beq_self_eq_true, some_map, ok_some, truth_bl, if_true, okb_cons, okst_ret, ok_lst, oki_nil, List.length_nil, Nat.zero_le, true_and, retP_rt]
    rw [f4]
    exact ⟨by first | trivial | rfl, by first | trivial | rfl⟩
theorem one_ok (p : RP P) (q : RR P) {w a : Nat} {ws : List Val} {x : Str} {dp : Int} (hw : h[w]? = some (.lst ws)) (ha : ws[a]? = some (.str x)) (hx : x ∈ TPs ∨ x = "never") : Ok (run P (d + 2) "" "read_one" [.loc w, .int (a : Nat), .int dp] h) fun v g => ∃ n, v = .tup [.loc n, .int ((a + 1 : Nat) : Int)] ∧ Kp h g ∧ h.length ≤ n ∧ g[n]? = some (.lst (S (mean x))) := by
  refine ok_run q.r1.fn rfl ?_
  show Ok (evB (cxD P (d + 1)) ir_read_one.body [some (.loc w), some (.int (a : Nat)), some (.int dp), none, none, none] h) _
  unfold ir_read_one
  dsimp only
  have hal : a < ws.length := (List.getElem?_eq_some_iff.mp ha).1
  have f45 : (x == ("not" : Str)) = false ∧ (x == ("(" : Str)) = false := by
    rcases hx with hx | rfl
    · exact ⟨(tp_facts x hx).2.2.2.1, (tp_facts x hx).2.2.2.2⟩
    · exact ⟨nv_facts.2.1, nv_facts.2.2.1⟩
  have lt : decide ((a : Int) < (ws.length : Int)) = true := decide_eq_true (by omega)
  have ne : decide ((a : Int) = (ws.length : Int)) = false := decide_eq_false (by omega)
  have l2 : 2 ≤ lim := by have := lim_big; omega
  rw [okb_cons]
  simp -implicitDefEqProofs only [okst_set, ok_con, box_bl, List.set_cons_succ, List.set_cons_zero]
  rw [okb_cons, okst_while, wm2, okw]
  simp -implicitDefEqProofs only [ok_test, ok_and, ok_cmp, ok_v, ok_con, ok_bi, okr_cons, okr_nil, ok_sub, List.getElem?_cons_zero, List.getElem?_cons_succ, biE_len hw, ok_ok, cmpE_int, cmp_lt, lt, some_map, ok_some, truth_bl, if_true, sub_tok hw ha, cmpE_eq, pyEq_str, f45.1, Bool.false_eq_true, if_false]
  rw [okb_cons, okst_ifs]
  simp -implicitDefEqProofs only [ok_test, ok_cmp, ok_v, ok_bi, okr_cons, okr_nil, List.getElem?_cons_zero, List.getElem?_cons_succ, biE_len hw, ok_ok, cmpE_eq, pyEq_int, ne, some_map, ok_some, truth_bl, Bool.false_eq_true, if_false, okb_nil]
  rw [okb_cons, okst_ifs]
  simp -implicitDefEqProofs only [ok_test, ok_cmp, ok_v, ok_con, ok_sub, List.getElem?_cons_zero, List.getElem?_cons_succ, sub_tok hw ha, ok_some, cmpE_eq, pyEq_str, f45.2, some_map, truth_bl, Bool.false_eq_true, if_false, okb_cons, okb_nil, okst_set, ok_call, oki_cons, oki_nil, box_str, callG_has q.me]
  refine (meant_ok p q hx).mono fun v g ⟨e1, e2⟩ => ?_
  subst e1; have e2 := e2.symm; subst e2
  simp -implicitDefEqProofs only [box_tl, List.set_cons_succ, List.set_cons_zero, okst_ifs, ok_test, ok_and, ok_cmp, ok_v, ok_con, List.getElem?_cons_zero, List.getElem?_cons_succ, cmpE_isn, ok_ok, truth_bl, ok_some, if_true, Bool.false_eq_true, if_false, okb_nil, okst_ret, ok_tup, oki_cons, oki_nil, ok_bin, binE_int, bin_add, box_loc, box_int, List.length_cons, List.length_nil, Nat.zero_add, Nat.reduceAdd, l2, true_and, retP_rt]
  exact ⟨_, rfl, Kp.push h _, Nat.le_refl _, get_new _⟩
theorem both_sit (p : RP P) (q : RR P) {w a i : Nat} {ws : List Val} {dp : Int} (hi : i < 11) (hw : h[w]? = some (.lst ws)) (h0 : ws[a]? = some (.str (tieS i))) (h1 : ws[a + 1]? = some (.str "and")) (h2 : ws[a + 2]? = some (.str (partS i))) (h3 : ws[a + 3]? = some (.str "or")) : Ok (run P (d + 3) "" "read_both" [.loc w, .int (a : Nat), .int dp] h) fun v g => ∃ n, v = .tup [.loc n, .int ((a + 3 : Nat) : Int)] ∧ Kp h g ∧ h.length ≤ n ∧ g[n]? = some (.lst (S [i])) := by
  refine ok_run q.rb.fn rfl ?_
  show Ok (evB (cxD P (d + 2)) ir_read_both.body [some (.loc w), some (.int (a : Nat)), some (.int dp), none, none, none] h) _
  unfold ir_read_both
  dsimp only
  have l2 : 2 ≤ lim := by have := lim_big; omega
  have hal : a + 3 < ws.length := (List.getElem?_eq_some_iff.mp h3).1
  obtain ⟨t1, t2, t3⟩ := tp_sit i hi
  have lt1 : decide (((a + 1 : Nat) : Int) < (ws.length : Int)) = true := decide_eq_true (by omega)
  have lt3 : decide (((a + 2 + 1 : Nat) : Int) < (ws.length : Int)) = true := decide_eq_true (by omega)
  have ao : (("or" : Str) == ("and" : Str)) = false := by decide +kernel
  rw [okb_cons]
  simp -implicitDefEqProofs only [okst_sets, ok_call, oki_cons, oki_nil, ok_v, List.getElem?_cons_zero, List.getElem?_cons_succ, box_loc, box_int, callG_has q.r1]
  refine (one_ok p q hw h0 (.inl t1)).mono fun v g1 ⟨n1, e, kp1, hn1, c1⟩ => ?_
  subst e
  have hw1 := kp1.keep _ _ hw
  simp -implicitDefEqProofs only [asg, asgs, List.set_cons_succ, List.set_cons_zero]
  rw [okb_cons, okst_while, wm2, okw]
  have e2 : ((a + 1 : Nat) : Int) + 1 = ((a + 2 : Nat) : Int) := by omega
  simp -implicitDefEqProofs only [ok_test, ok_and, ok_cmp, ok_v, ok_con, ok_bi, okr_cons, okr_nil, ok_sub, List.getElem?_cons_zero, List.getElem?_cons_succ, cmpE_isn, biE_len hw1, ok_ok, cmpE_int, cmp_lt, lt1, some_map, ok_some, truth_bl, if_true, sub_tok hw1 h1, cmpE_eq, pyEq_str, beq_self_eq_true, okb_cons, okb_nil, okst_sets, ok_call, oki_cons, oki_nil, ok_bin, binE_int, bin_add, box_loc, box_int, callG_has q.r1, e2]
  refine (one_ok p q hw1 h2 (.inl t2)).mono fun v g2 ⟨n2, e, kp2, hn2, c2⟩ => ?_
  subst e
  have hw2 := kp2.keep _ _ hw1
  have c1' := kp2.keep _ _ c1
  simp -implicitDefEqProofs only [asg, asgs, List.set_cons_succ, List.set_cons_zero, okst_set, ok_ite, ok_cmp, ok_v, ok_con, List.getElem?_cons_zero, List.getElem?_cons_succ, cmpE_is, ok_ok, truth_bl, ok_some, Bool.false_eq_true, if_false]
  refine (filt_loc (l := mean (tieS i)) (mean (partS i)).contains c1' rfl (mean_sb _) (by simp [wipeE]) fun j hj Q qq => ?_).mono fun v g ⟨e1, e2⟩ => ?_
  · simp -implicitDefEqProofs only [wipeE, List.set_cons_succ, List.set_cons_zero, ok_cmp, ok_v, List.getElem?_cons_zero, List.getElem?_cons_succ, in_loc c2 hj (mean_sb _), ok_ok]
    exact qq
  subst e1; have e2 := e2.symm; subst e2
  have kp3 := Kp.push g2 [.lst (S ((mean (tieS i)).filter (mean (partS i)).contains))]
  have c3 := get_new (h := g2) (.lst (S ((mean (tieS i)).filter (mean (partS i)).contains)))
  have hw3 := kp3.keep _ _ hw2
  simp -implicitDefEqProofs only [box_tl, List.set_cons_succ, List.set_cons_zero]
  rw [okw]
  simp -implicitDefEqProofs only [ok_test, ok_and, ok_cmp, ok_v, ok_con, ok_bi, okr_cons, okr_nil, ok_sub, List.getElem?_cons_zero, List.getElem?_cons_succ, cmpE_isn, biE_len hw3, ok_ok, cmpE_int, cmp_lt, lt3, some_map, ok_some, truth_bl, if_true, sub_tok hw3 h3, cmpE_eq, pyEq_str, ao, Bool.false_eq_true, if_false, okb_cons, okst_ret, ok_tup, oki_cons, oki_nil, box_loc, box_int, List.length_cons, List.length_nil, Nat.zero_add, Nat.reduceAdd, l2, true_and, retP_rt]
  rw [t3] at c3 kp3 ⊢
  exact ⟨_, rfl, kp1.trans (kp2.trans kp3), Nat.le_trans kp1.len kp2.len, c3⟩
theorem both_nev (p : RP P) (q : RR P) {w a : Nat} {ws : List Val} {dp : Int} (hw : h[w]? = some (.lst ws)) (h0 : ws[a]? = some (.str "never")) (hl : ws.length = a + 1) : Ok (run P (d + 3) "" "read_both" [.loc w, .int (a : Nat), .int dp] h) fun v g => ∃ n, v = .tup [.loc n, .int ((a + 1 : Nat) : Int)] ∧ Kp h g ∧ h.length ≤ n ∧ g[n]? = some (.lst (S [])) := by
  refine ok_run q.rb.fn rfl ?_
  show Ok (evB (cxD P (d + 2)) ir_read_both.body [some (.loc w), some (.int (a : Nat)), some (.int dp), none, none, none] h) _
  unfold ir_read_both
  dsimp only
  have l2 : 2 ≤ lim := by have := lim_big; omega
  have nl : decide (((a + 1 : Nat) : Int) < (ws.length : Int)) = false := decide_eq_false (by omega)
  rw [okb_cons]
  simp -implicitDefEqProofs only [okst_sets, ok_call, oki_cons, oki_nil, ok_v, List.getElem?_cons_zero, List.getElem?_cons_succ, box_loc, box_int, callG_has q.r1]
  refine (one_ok p q hw h0 (.inr rfl)).mono fun v g1 ⟨n1, e, kp1, hn1, c1⟩ => ?_
  subst e
  have hw1 := kp1.keep _ _ hw
  simp -implicitDefEqProofs only [asg, asgs, List.set_cons_succ, List.set_cons_zero]
  rw [okb_cons, okst_while, wm2, okw]
  simp -implicitDefEqProofs only [ok_test, ok_and, ok_cmp, ok_v, ok_con, ok_bi, okr_cons, okr_nil, ok_sub, List.getElem?_cons_zero, List.getElem?_cons_succ, cmpE_isn, biE_len hw1, ok_ok, cmpE_int, cmp_lt, nl, some_map, ok_some, truth_bl, if_true, Bool.false_eq_true, if_false, okb_cons, okst_ret, ok_tup, oki_cons, oki_nil, box_loc, box_int, List.length_cons, List.length_nil, Nat.zero_add, Nat.reduceAdd, l2, true_and, retP_rt]
  rw [nv_facts.2.2.2] at c1
  exact ⟨_, rfl, kp1, hn1, c1⟩

theorem tok_at : ∀ {l : List Nat} {k i : Nat}, l[k]? = some i → (toks l)[4 * k]? = some (tieS i) ∧ (toks l)[4 * k + 1]? = some "and" ∧ (toks l)[4 * k + 2]? = some (partS i) ∧ (toks l)[4 * k + 3]? = some "or"
  | [], _, _, h => by simp at h
  | j :: l, 0, i, h => by
    cases (Option.some.inj (by simpa using h) : j = i)
    exact ⟨rfl, rfl, rfl, rfl⟩
  | j :: l, k + 1, i, h => by
    obtain ⟨h1, h2, h3, h4⟩ := tok_at (l := l) (k := k) (i := i) (by simpa using h)
    have e : 4 * (k + 1) = 4 * k + 1 + 1 + 1 + 1 := by omega
    rw [e]
    exact ⟨h1, h2, h3, h4⟩
theorem tok_end : ∀ l : List Nat, (toks l)[4 * l.length]? = some "never"
  | [] => rfl
  | j :: l => by
    have e : 4 * (j :: l).length = 4 * l.length + 1 + 1 + 1 + 1 := by simp only [List.length_cons]; omega
    rw [e]
    exact tok_end l
def pos (L k : Nat) : Nat := if k ≤ L then 4 * k - 1 else 4 * L + 1
theorem either_ok (p : RP P) (q : RR P) {w : Nat} {l : List Nat} {dp : Int} (hl : In11 l) (hz : l.length ≤ 100) (hw : h[w]? = some (.lst ((toks l).map Val.str))) : Ok (run P (d + 4) "" "read_either" [.loc w, .int 0, .int dp] h) fun v g => ∃ n, v = .tup [.loc n, .int ((4 * l.length + 1 : Nat) : Int)] ∧ Kp h g ∧ g[n]? = some (.lst (S l)) := by
  refine ok_run q.re.fn rfl ?_
  show Ok (evB (cxD P (d + 3)) ir_read_either.body [some (.loc w), some (.int 0), some (.int dp), none, none] h) _
  unfold ir_read_either
  dsimp only
  have l2 : 2 ≤ lim := by have := lim_big; omega
  have wl : ((toks l).map Val.str).length = 4 * l.length + 1 := by rw [List.length_map, toks_count]
  have get : ∀ {a : Nat} {x : Str}, (toks l)[a]? = some x → ((toks l).map Val.str)[a]? = some (.str x) := fun e => by rw [List.getElem?_map, e]; rfl
  -- one text behind another
  have item : ∀ (k : Nat) (g : Heap), k ≤ l.length → g[w]? = some (.lst ((toks l).map Val.str)) → Ok (run P (d + 3) "" "read_both" [.loc w, .int ((4 * k : Nat) : Int), .int dp] g) fun v g' => ∃ n, v = .tup [.loc n, .int ((pos l.length (k + 1) : Nat) : Int)] ∧ Kp g g' ∧ g.length ≤ n ∧ g'[n]? = some (.lst (S ((l.drop k).take 1))) := by
    intro k g hk hg
    by_cases hlt : k < l.length
    · have e : l[k]? = some l[k] := List.getElem?_eq_getElem hlt
      obtain ⟨h1, h2, h3, h4⟩ := tok_at e
      refine (both_sit p q (hl _ (List.getElem_mem hlt)) hg (get h1) (get h2) (get h3) (get h4)).mono fun v g' ⟨n, ev, kp, hn, c⟩ => ⟨n, ?_, kp, hn, ?_⟩
      · rw [ev]
        have : pos l.length (k + 1) = 4 * k + 3 := by unfold pos; rw [if_pos (by omega)]; omega
        rw [this]
      · rw [c, List.drop_eq_getElem_cons hlt]; rfl
    · have e : k = l.length := by omega
      subst e
      refine (both_nev p q hg (get (tok_end l)) wl).mono fun v g' ⟨n, ev, kp, hn, c⟩ => ⟨n, ?_, kp, hn, ?_⟩
      · rw [ev]
        have : pos l.length (l.length + 1) = 4 * l.length + 1 := by unfold pos; rw [if_neg (by omega)]
        rw [this]
      · rw [c, List.drop_length]; rfl
  have i0 := fun g => item 0 g (Nat.zero_le _)
  rw [okb_cons]
  simp -implicitDefEqProofs only [okst_sets, ok_call, oki_cons, oki_nil, ok_v, List.getElem?_cons_zero, List.getElem?_cons_succ, box_loc, box_int, callG_has q.rb]
  refine (i0 h hw).mono fun v g1 ⟨n1, e, kp1, hn1, c1⟩ => ?_
  subst e
  simp -implicitDefEqProofs only [asg, asgs, List.set_cons_succ, List.set_cons_zero]
  rw [okb_cons, okst_while]
  refine ok_loopW (fun m e g => ∃ (k n : Nat) (x : Option Val), m = l.length + 1 - k ∧ 1 ≤ k ∧ k ≤ l.length + 1 ∧ e = [some (.loc w), some (.int ((pos l.length k : Nat) : Int)), some (.int dp), some (.loc n), x] ∧ Kp h g ∧ g[n]? = some (.lst (S (l.take k)))) ?_ whileMost (l.length + 1 - 1) _ _ (by unfold whileMost; omega) ⟨1, n1, none, rfl, Nat.le_refl _, by omega, rfl, kp1, by simpa using c1⟩
  rintro m e g ⟨k, n, x, rfl, hk1, hk2, rfl, kp, c⟩
  have hwg := kp.keep _ _ hw
  by_cases hk : k ≤ l.length
  · have hp : pos l.length k = 4 * (k - 1) + 3 := by unfold pos; rw [if_pos hk]; omega
    have hlt : k - 1 < l.length := by omega
    have tor := get (tok_at (List.getElem?_eq_getElem hlt)).2.2.2
    rw [← hp] at tor
    have lt1 : decide (((pos l.length k : Nat) : Int) < (((toks l).map Val.str).length : Int)) = true := decide_eq_true (by rw [wl, hp]; omega)
    have e4 : ((pos l.length k : Nat) : Int) + 1 = ((4 * k : Nat) : Int) := by rw [hp]; omega
    simp -implicitDefEqProofs only [ok_test, ok_and, ok_cmp, ok_v, ok_con, ok_bi, okr_cons, okr_nil, ok_sub, List.getElem?_cons_zero, List.getElem?_cons_succ, cmpE_isn, biE_len hwg, ok_ok, cmpE_int, cmp_lt, lt1, some_map, ok_some, truth_bl, if_true, sub_tok hwg tor, cmpE_eq, pyEq_str, beq_self_eq_true, okb_cons, okb_nil, okst_sets, ok_call, oki_cons, oki_nil, ok_bin, binE_int, bin_add, box_loc, box_int, callG_has q.rb, e4]
    refine (item k g hk hwg).mono fun v g2 ⟨n2, e, kp2, hn2, c2⟩ => ?_
    subst e
    have c' := kp2.keep _ _ c
    have hz2 : (S (l.take k ++ (l.drop k).take 1)).length ≤ lim := by
      rw [S_len, List.length_append, List.length_take, List.length_take]
      have := lim_big
      omega
    simp -implicitDefEqProofs only [asg, asgs, List.set_cons_succ, List.set_cons_zero, okst_set, ok_ite, ok_cmp, ok_v, ok_con, List.getElem?_cons_zero, List.getElem?_cons_succ, cmpE_is, ok_ok, truth_bl, ok_some, Bool.false_eq_true, if_false, ok_lst, oki_star, oki_nil, seqOf_lst c', seqOf_lst c2, List.append_nil, S_app, hz2, true_and, box_tl]
    have kp3 := Kp.push g2 [.lst (S (l.take k ++ (l.drop k).take 1))]
    refine ⟨l.length + 1 - (k + 1), by omega, k + 1, g2.length, _, rfl, by omega, by omega, rfl, kp.trans (kp2.trans kp3), ?_⟩
    rw [get_new]
    have : l.take (k + 1) = l.take k ++ (l.drop k).take 1 := by rw [List.take_add]
    rw [this]
  · have ek : k = l.length + 1 := by omega
    subst ek
    have hp : pos l.length (l.length + 1) = 4 * l.length + 1 := by unfold pos; rw [if_neg (by omega)]
    have nl : decide (((pos l.length (l.length + 1) : Nat) : Int) < (((toks l).map Val.str).length : Int)) = false := decide_eq_false (by rw [wl, hp]; omega)
    simp -implicitDefEqProofs only [ok_test, ok_and, ok_cmp, ok_v, ok_con, ok_bi, okr_cons, okr_nil, ok_sub, List.getElem?_cons_zero, List.getElem?_cons_succ, cmpE_isn, biE_len hwg, ok_ok, cmpE_int, cmp_lt, nl, some_map, ok_some, truth_bl, if_true, Bool.false_eq_true, if_false, okb_cons, okst_ret, ok_tup, oki_cons, oki_nil, box_loc, box_int, List.length_cons, List.length_nil, Nat.zero_add, Nat.reduceAdd, l2, true_and, retP_rt]
    rw [hp]
    rw [List.take_of_length_le (by omega)] at c
    exact ⟨n, rfl, kp, c⟩
/-- replace of what is not there -/
theorem repl_no {x y z : Str} {c : Nat} (hy : c ∈ tl y) (hx : c ∉ tl x) : mReplace x y z = some (.str x) := by
  unfold mReplace
  rw [occ_no hy hx]; rfl
theorem br : 40 ∈ tl ("(" : Str) ∧ 41 ∈ tl (")" : Str) ∧ 40 ∈ tl ("( " : Str) ∧ 41 ∈ tl (" )" : Str) := by decide +kernel
theorem allStrs_map : ∀ l : List Str, allStrs (l.map Val.str) = some l
  | [] => rfl
  | x :: l => by
    rw [List.map_cons]
    unfold allStrs
    rw [allStrs_map l]; rfl
theorem join_lst {cx : Cx} {n : Nat} {l : List Str} {x : Str} (hn : h[n]? = some (.lst (l.map Val.str))) (hz : (l.map fun y : Str => y.length).sum + l.length * x.length ≤ 16777216) : methB "str.join" (.str x) [.loc n] h = .ok (.str (Txt.join x l)) h := by
  have e : mJoin (.str x) [.loc n] h = some (.str (Txt.join x l)) := by
    show (match (seqOf h (.loc n)).bind allStrs with
    | some ys => if (ys.map fun y : Str => y.length).sum + ys.length * x.length ≤ 16777216 then some (Val.str (Txt.join x ys)) else none
    | none => none) = _
    rw [seqOf_lst hn, some_bind, allStrs_map]
    dsimp only
    rw [if_pos hz]
  have q : methB "str.join" (.str x) [.loc n] h = ofOpt (mJoin (.str x) [.loc n] h) h := by simp [methB]
  rw [q, e]; rfl
theorem recv_str {cx : Cx} {x : Str} : recvE cx "join" (.str x) h = some (methB "str.join" (.str x)) ∧ recvE cx "split" (.str x) h = some (methB "str.split" (.str x)) := by
  constructor <;> simp [recvE, insOf, bm]
theorem split_str {x y : Str} (hy : (y.length == 0) = false) (hz : x.length + 2 ≤ lim) : methB "str.split" (.str x) [.str y] h = .ok (.tl ((Txt.split x y).map Val.str)) h := by
  have e : mSplit (.str x) [.str y] h = some (.tl ((Txt.split x y).map Val.str)) := by
    show (if (y.length == 0) = false ∧ x.length + 2 ≤ lim then some (Val.tl ((Txt.split x y).map Val.str)) else none) = _
    rw [if_pos ⟨hy, hz⟩]
  have q : methB "str.split" (.str x) [.str y] h = ofOpt (mSplit (.str x) [.str y] h) h := by simp [methB]
  rw [q, e]; rfl
/-- Rule.read of such a text -/
theorem read_ok (p : RP P) (q : RR P) {js l : List Nat} (hl : Sb l) (hp : js.Perm l) : Ok (run P (d + 5) "Rule" "read" [.glb "Rule", .str (T js)] h) fun v g => ∃ n, v = .loc n ∧ h.length ≤ n ∧ Kp h g ∧ RuleAt g n l := by
  have hj : In11 js := fun i hi => hl.in11 i (hp.subset hi)
  have hj11 : js.length ≤ 11 := by rw [hp.length_eq]; exact hl.len
  have tl1 := T_len hj hj11
  have lb := lim_big
  refine ok_run q.rd rfl ?_
  show Ok (evB (cxD P (d + 4)) ir_Rule_read.body [some (.glb "Rule"), some (.str (T js)), none, none, none] h) _
  unfold ir_Rule_read
  dsimp only
  have ei : isE (cxD P (d + 4)) ["str"] (.str (T js)) h = .ok (.bl true) h := by
    rw [isE_base p (k := "str") rfl rfl (by simp) (by simp)]; rfl
  rw [okb_cons, okst_ifs]
  simp -implicitDefEqProofs only [ok_test, ok_not, ok_isi, ok_v, List.getElem?_cons_zero, List.getElem?_cons_succ, ei, ok_ok, truth_bl, ok_some, Bool.not_true, Bool.false_eq_true, if_false, okb_nil]
  have n40 := T_no (c := 40) (by simp) hj
  have n41 := T_no (c := 41) (by simp) hj
  have sp : ((" " : Str).length == 0) = false := by decide +kernel
  have ws : ∀ g : Heap, Ok (run P (d + 4) "" "words_of" [.str (T js)] g) fun v g' => v = .tl ((toks js).map Val.str) ∧ g' = g := fun g => by
    refine ok_run q.wo.fn rfl ?_
    show Ok (evB (cxD P (d + 3)) ir_words_of.body [some (.str (T js))] g) _
    unfold ir_words_of
    dsimp only
    simp -implicitDefEqProofs only [okb_cons, okst_ret, ok_meth, ok_repl, ok_v, List.getElem?_cons_zero, repl_no br.1 n40, repl_no br.2.1 n41, ok_some, recv_str.2, oki_cons, oki_nil, ok_con, box_str, split_str sp (show (T js).length + 2 ≤ lim by omega), T_split hj, ok_ok, retP_rt, and_self]
  rw [okb_cons]
  simp -implicitDefEqProofs only [okst_set, ok_call, oki_cons, oki_nil, ok_v, List.getElem?_cons_zero, List.getElem?_cons_succ, box_str, callG_has q.wo]
  refine (ws h).mono fun v g ⟨e1, e2⟩ => ?_
  subst e1; have e2 := e2.symm; subst e2
  have kp1 := Kp.push h [.lst ((toks js).map Val.str)]
  have c1 := get_new (h := h) (.lst ((toks js).map Val.str))
  simp -implicitDefEqProofs only [box_tl, List.set_cons_succ, List.set_cons_zero]
  rw [okb_cons]
  simp -implicitDefEqProofs only [okst_sets, ok_call, oki_cons, oki_nil, ok_v, ok_con, List.getElem?_cons_zero, List.getElem?_cons_succ, box_loc, box_int, callG_has q.re]
  refine (either_ok p q hj (by omega) c1).mono fun v g2 ⟨n2, e, kp2, c2⟩ => ?_
  subst e
  have cw := kp2.keep _ _ c1
  have wl : ((toks js).map Val.str).length = 4 * js.length + 1 := by rw [List.length_map, toks_count]
  have el : decide (((4 * js.length + 1 : Nat) : Int) = (((toks js).map Val.str).length : Int)) = true := decide_eq_true (by rw [wl])
  have wr : Ok (run P (d + 4) "" "written" [.loc h.length] g2) fun v g' => v = .str (T js) ∧ g' = g2 := by
    refine ok_run q.wr.fn rfl ?_
    show Ok (evB (cxD P (d + 3)) ir_written.body [some (.loc h.length)] g2) _
    unfold ir_written
    dsimp only
    have s1 := toks_sum hj
    have s2 := toks_count js
    have s3 : (" " : Str).length = 1 := by decide +kernel
    have hz : ((toks js).map fun y : Str => y.length).sum + (toks js).length * (" " : Str).length ≤ 16777216 := by rw [s3]; omega
    have ej : Txt.join " " (toks js) = T js := rfl
    simp -implicitDefEqProofs only [okb_cons, okst_ret, ok_repl, ok_meth, ok_con, recv_str.1, oki_cons, oki_nil, ok_v, List.getElem?_cons_zero, box_loc, join_lst (cx := cxD P (d + 3)) cw hz, ok_ok, ej, repl_no br.2.2.1 n40, repl_no br.2.2.2 n41, ok_some, retP_rt, and_self]
  simp -implicitDefEqProofs only [asg, asgs, List.set_cons_succ, List.set_cons_zero]
  rw [okb_cons, okst_ifs]
  simp -implicitDefEqProofs only [ok_test, ok_or, ok_cmp, ok_v, ok_con, ok_bi, okr_cons, okr_nil, List.getElem?_cons_zero, List.getElem?_cons_succ, cmpE_is, ok_ok, truth_bl, ok_some, Bool.false_eq_true, if_false, biE_len cw, cmpE_ne, pyEq_int, el, some_map, Bool.not_true, ok_call, oki_cons, oki_nil, box_loc, callG_has q.wr]
  refine wr.mono fun v g ⟨e1, e2⟩ => ?_
  subst e1; have e2 := e2.symm; subst e2
  simp -implicitDefEqProofs only [cmpE_ne, pyEq_str, beq_self_eq_true, some_map, Bool.not_true, ok_some, truth_bl, Bool.false_eq_true, if_false, okb_nil, okb_cons, okst_ret, ok_callv, ok_v, List.getElem?_cons_zero, List.getElem?_cons_succ, callee_rule p, oki_cons, oki_nil, box_loc]
  refine (mk_sb (l := l) p (.loc c2) hj (by omega) hl fun x => hp.mem_iff).mono fun v g3 ⟨n3, e, hn3, kp3, c3⟩ => ?_
  subst e
  simp -implicitDefEqProofs only [retP_rt]
  have kk := kp1.trans kp2
  exact ⟨n3, rfl, Nat.le_trans kk.len hn3, kk.trans kp3, c3⟩
end
end Sc
end
section
set_option Elab.async false
set_option linter.all false
set_option maxRecDepth 100000
set_option maxHeartbeats 1000000
set_option autoImplicit false
/-! A rule made in one of the five ways. -/
namespace Sc
open PySem K31

theorem Sb.ext {l m : List Nat} (hl : Sb l) (hm : Sb m) (e : ∀ x, x ∈ l ↔ x ∈ m) : l = m := by
  rw [← hl.canon, ← hm.canon]
  apply List.filter_congr
  intro x _
  rw [Bool.eq_iff_iff, List.contains_iff_mem, List.contains_iff_mem]
  exact e x
theorem cut_take {α : Type} (xs : List α) (k : Nat) : cut xs none (some (k : Int)) = xs.take k := by
  unfold cut
  rw [HT.sIx_none, HT.sIx_nat]
  dsimp only
  rw [List.drop_zero, Nat.sub_zero]
  by_cases h : k ≤ xs.length
  · rw [Nat.min_eq_left h]
  · rw [Nat.min_eq_right (by omega), List.take_of_length_le (Nat.le_refl _), List.take_of_length_le (by omega)]
theorem S_take (l : List Nat) (k : Nat) : (S l).take k = S (l.take k) := by simp [S, List.map_take]
theorem cutV_loc {h : Heap} {n : Nat} {l : List Nat} (hn : h[n]? = some (.lst (S l))) (k : Nat) : cutV (.loc n) none (some (k : Int)) h = some (.tl (S (l.take k))) := by
  show (listOf h (.loc n)).map (fun vs => Val.tl (cut vs none (some (k : Int)))) = _
  rw [listOf_lst hn]
  show some (Val.tl (cut (S l) none (some (k : Int)))) = _
  rw [cut_take, S_take]
theorem take_sb {l : List Nat} (hl : Sb l) (k : Nat) : Sb (l.take k) := (List.take_sublist k l).trans hl
theorem w_len : ∀ i, i < 11 → (tieS i).length + (" and " : Str).length ≤ 100 ∧ (tieS i ++ " and ").length + (partS i).length ≤ 100 := by decide +kernel
section
variable {cx : Cx} {h : Heap}
theorem bin_str {x y : Str} (hz : x.length + y.length ≤ lim) : binE cx .add (.str x) (.str y) h = .ok (.str (x ++ y)) h := by
  have e : bin .add (.str x) (.str y) h = some (.str (x ++ y)) := by
    show (if x.length + y.length ≤ lim then some (Val.str (x ++ y)) else none) = _
    rw [if_pos hz]
  show ofOpt (bin .add (.str x) (.str y) h) h = _
  rw [e]; rfl
theorem bin_w1 {i : Nat} (hi : i < 11) : binE cx .add (.str (tieS i)) (.str " and ") h = .ok (.str (tieS i ++ " and ")) h := bin_str (by have := (w_len i hi).1; have := lim_big; omega)
theorem bin_w2 {i : Nat} (hi : i < 11) : binE cx .add (.str (tieS i ++ " and ")) (.str (partS i)) h = .ok (.str (W i)) h := bin_str (by have := (w_len i hi).2; have := lim_big; omega)
end
theorem words_map (js : List Nat) : (js.map fun i => Val.str (W i)) ++ [.str "never"] = (js.map W ++ nev).map Val.str := by simp [nev]
theorem words_sum : ∀ {js : List Nat}, In11 js → ((js.map W ++ nev).map fun y : Str => y.length).sum ≤ 20 * js.length + 5
  | [], _ => by show (("never" : Str).length + 0 : Nat) ≤ _; decide +kernel
  | j :: js, hj => by
    have ih := words_sum (js := js) fun i hi => hj i (List.mem_cons_of_mem _ hi)
    have := W_len j (hj j (List.mem_cons_self ..))
    rw [List.map_cons, List.cons_append, List.map_cons, List.sum_cons, List.length_cons]
    omega
/-- as ok_drawn, with those that must stay -/
theorem ok_drawnM {w : Walk} {f : Val → Heap → R (List Val)} (I : Heap → Prop) (must : Nat → Prop) (hst : ∀ g, I g → w.stays g = true) : ∀ (l : List Nat) (h : Heap), I h → (∀ i ∈ l, ∀ g, I g → Ok (f (sv i) g) fun a g' => ((a = [] ∧ ¬ must i) ∨ a = [sv i]) ∧ I g') → Ok (loopL w f (S l) h) fun b g => ∃ l', b = S l' ∧ l'.Sublist l ∧ (∀ i ∈ l, must i → i ∈ l') ∧ I g
  | [], h, i0, _ => by
    show Ok (loopL w f [] h) _
    rw [loopL, if_pos (hst h i0)]
    exact ⟨[], rfl, .slnil, fun _ hi _ => hi, i0⟩
  | j :: l, h, i0, hf => by
    rw [S_cons, loopL, if_pos (hst h i0), ok_bind]
    refine (hf j (List.mem_cons_self ..) h i0).mono fun a g ⟨ha, ig⟩ => ?_
    rw [ok_bind]
    refine (ok_drawnM I must hst l g ig fun i hi => hf i (List.mem_cons_of_mem _ hi)).mono fun b g2 ⟨l', eb, hs, hm, i2⟩ => ?_
    subst eb
    rw [ok_ok]
    rcases ha with ⟨rfl, hn⟩ | rfl
    · refine ⟨l', rfl, hs.cons _, fun i hi mi => ?_, i2⟩
      rcases List.mem_cons.mp hi with rfl | hi
      · exact absurd mi hn
      · exact hm i hi mi
    · refine ⟨j :: l', rfl, hs.cons_cons _, fun i hi mi => ?_, i2⟩
      rcases List.mem_cons.mp hi with rfl | hi
      · exact List.mem_cons_self ..
      · exact List.mem_cons_of_mem _ (hm i hi mi)
section
variable {P : Pg} {h : Heap} {d : Nat}
theorem made_ok (p : RP P) (L : LP P) (q : RR P) {b s k : Nat} {l : List Nat} (B : Bag b s h) (hk : h[k]? = some (.lst (S l))) (hl : Sb l) (hkb : k ≠ b) : Ok (run P (d + 6) "" "_law_made_rule" [.loc b, .loc k] h) fun v g => ∃ n, v = .loc n ∧ h.length ≤ n ∧ Gr b s h g ∧ RuleAt g n l := by
  refine ok_run L.made.fn rfl ?_
  show Ok (evB (cxD P (d + 5)) ir_law_made_rule.body [some (.loc b), some (.loc k), none, none, none, none, none, none] h) _
  unfold ir_law_made_rule
  dsimp only
  have hlt := B.lt
  have lb := lim_big
  have h11 := hl.len
  rw [okb_cons]
  simp -implicitDefEqProofs only [okst_set, ok_call, oki_nil, callG_has L.sits]
  refine (lsits_ok L).mono fun v g1 ⟨n2, e, hn2, kp1, c2⟩ => ?_
  subst e
  have G1 := kp1.gr B
  simp -implicitDefEqProofs only [box_loc, List.set_cons_succ, List.set_cons_zero]
  rw [okb_cons]
  simp -implicitDefEqProofs only [okst_set, ok_call, oki_nil, oki_cons, ok_v, ok_con, List.getElem?_cons_zero, box_loc, box_int, callG_has L.draw]
  refine (draw_ok L.draw.fn G1.bag (by decide) (by decide)).mono fun v g2 ⟨⟨c, ec, c0, c1⟩, G2⟩ => ?_
  subst ec
  simp -implicitDefEqProofs only [box_int, List.set_cons_succ, List.set_cons_zero]
  have G12 := G1.trans G2
  have hk2 := G12.keep _ _ hkb hk
  have c22 := G2.keep _ _ (by omega) c2
  rw [okb_cons]
  simp -implicitDefEqProofs only [okst_set, ok_lc1, oks_it, ok_call, oki_cons, oki_nil, ok_v, List.getElem?_cons_zero, List.getElem?_cons_succ, box_loc, callG_has L.mixed]
  refine (mixed_ok L.draw L.mixed.fn G12.bag hk2 hkb (by rw [S_len]; omega) Bx_S).mono fun v g3 ⟨f, us, e, hf, cf, hp, G3⟩ => ?_
  subst e
  obtain ⟨js, hj, rfl⟩ := perm_map sv (l := l) hp
  have hj11 : In11 js := fun i hi => hl.in11 i (hj.subset hi)
  have hjl : js.length = l.length := hj.length_eq
  simp -implicitDefEqProofs only [itE_loc cf, ok_some, Tg.slots]
  refine ok_mapS (w := ⟨S js, [(f, S js)]⟩) (l := js) (fun i => .str (W i)) rfl (stays_loc cf (same_S _)) (fun i hi => ?_) ?_
  · have hi := hj11 i hi
    simp -implicitDefEqProofs only [wipeE, asg, List.set_cons_succ, List.set_cons_zero, ok_bind, okt_nil, ok_if, if_true, ok_bin, ok_sub, ok_v, ok_con, List.getElem?_cons_zero, List.getElem?_cons_succ, sub_tie, sub_part, ok_some, bin_w1 hi, bin_w2 hi, ok_ok, box_str, and_self]
  refine ⟨by rw [List.length_map]; omega, ?_⟩
  simp -implicitDefEqProofs only [box_tl, List.set_cons_succ, List.set_cons_zero]
  have G13 := G12.trans G3
  have kp4 := Kp.push g3 [.lst (js.map fun i => Val.str (W i))]
  have c4 := get_new (h := g3) (.lst (js.map fun i => Val.str (W i)))
  have n4 : h.length ≤ g3.length := G13.len
  generalize g3 ++ [Obj.lst (js.map fun i => Val.str (W i))] = g4 at kp4 c4
  generalize g3.length = n4' at c4 n4
  have G4 := G13.trans (kp4.gr G13.bag)
  have hk4 := kp4.keep _ _ (G3.keep _ _ hkb hk2)
  have c24 := kp4.keep _ _ (G3.keep _ _ (by omega) c22)
  rw [okb_cons, okst_ifs]
  simp -implicitDefEqProofs only [ok_test, ok_cmp, ok_v, ok_con, List.getElem?_cons_zero, List.getElem?_cons_succ, cmpE_eq, pyEq_int, some_map, ok_some, truth_bl]
  by_cases q0 : c = 0
  · have l1 : 1 ≤ lim := by omega
    have hz1 : (js.map fun i => Val.str (W i)).length + [Val.str "never"].length ≤ lim := by rw [List.length_map, List.length_cons, List.length_nil]; omega
    have hz2 : ((js.map W ++ nev).map fun y : Str => y.length).sum + (js.map W ++ nev).length * (" or " : Str).length ≤ 16777216 := by
      have a1 := words_sum hj11
      have a2 : (" or " : Str).length = 4 := by decide +kernel
      have a3 : (js.map W ++ nev).length = js.length + 1 := by rw [List.length_append, List.length_map]; rfl
      rw [a2, a3]; omega
    have c5 := get_new (h := g4) (.lst ((js.map W ++ nev).map Val.str))
    have kp5 := Kp.push g4 [.lst ((js.map W ++ nev).map Val.str)]
    have ej : Txt.join " or " (js.map W ++ nev) = T js := text_eq js
    simp -implicitDefEqProofs only [q0, decide_true, if_true, okb_cons, okst_ret, ok_meth, ok_con, recv_cm p (m := "read") (by decide), oki_cons, oki_nil, recv_str.1, ok_bin, ok_v, List.getElem?_cons_zero, List.getElem?_cons_succ, ok_lst, box_str, List.length_cons, List.length_nil, Nat.zero_add, l1, true_and, bin_lst c4 hz1, words_map, ok_ok, box_tl, join_lst (cx := cxD P (d + 5)) c5 hz2, ej]
    refine (read_ok p q hl hj).mono fun v g5 ⟨n, e, hn, kp6, cc⟩ => ?_
    subst e
    simp -implicitDefEqProofs only [retP_rt]
    exact ⟨n, rfl, Nat.le_trans G4.len (Nat.le_trans kp5.len hn), G4.trans ((kp5.trans kp6).gr G4.bag), cc⟩
  simp -implicitDefEqProofs only [q0, decide_false, Bool.false_eq_true, if_false, okb_nil]
  rw [okb_cons, okst_ifs]
  simp -implicitDefEqProofs only [ok_test, ok_cmp, ok_v, ok_con, List.getElem?_cons_zero, List.getElem?_cons_succ, cmpE_eq, pyEq_int, some_map, ok_some, truth_bl]
  by_cases q1 : c = 1
  · simp -implicitDefEqProofs only [q1, decide_true, if_true, okb_cons, okst_ret, ok_inv, ok_call, oki_cons, oki_nil]
    refine (filt_loc (l := all11) (fun i => !l.contains i) c24 rfl (List.Sublist.refl _) (by simp [wipeE]) fun i hi Q qq => ?_).mono fun v g ⟨e1, e2⟩ => ?_
    · simp -implicitDefEqProofs only [wipeE, List.set_cons_succ, List.set_cons_zero, ok_cmp, ok_v, List.getElem?_cons_zero, List.getElem?_cons_succ, nin_loc hk4 hi hl, ok_ok]
      exact qq
    subst e1; have e2 := e2.symm; subst e2
    have kp5 := Kp.push g4 [.lst (S (all11.filter fun i => !l.contains i))]
    simp -implicitDefEqProofs only [box_tl]
    refine (mk_sb (l := all11.filter fun i => !l.contains i) p (.loc (get_new _)) (in11.filter _) (Nat.le_trans (List.filter_sublist (p := fun i => !l.contains i) (l := all11)).length_le (by decide)) List.filter_sublist fun x => Iff.rfl).mono fun v g5 ⟨n, e, hn, kp6, cc⟩ => ?_
    subst e
    simp -implicitDefEqProofs only [insOf_ins cc]
    refine (binv_ok p cc List.filter_sublist).mono fun v g6 ⟨n', e, hn', kp7, cb⟩ => ?_
    subst e
    rw [inv_inv hl] at cb
    simp -implicitDefEqProofs only [retP_rt]
    have kk := kp5.trans (kp6.trans kp7)
    exact ⟨n', rfl, Nat.le_trans G4.len (Nat.le_trans (Nat.le_trans kp5.len kp6.len) hn'), G4.trans (kk.gr G4.bag), cb⟩
  simp -implicitDefEqProofs only [q1, decide_false, Bool.false_eq_true, if_false, okb_nil]
  -- some
  rw [okb_cons]
  have hz3 : (0 : Int) < ((S l).length : Int) + 1 ∧ ((S l).length : Int) + 1 < 1073741824 := by rw [S_len]; omega
  simp -implicitDefEqProofs only [okst_set, ok_slc, oko_none, oko_some, ok_call, oki_cons, oki_nil, ok_v, ok_con, ok_bin, ok_bi, okr_cons, okr_nil, List.getElem?_cons_zero, List.getElem?_cons_succ, biE_len hk4, ok_ok, binE_int, bin_add, ok_some, box_loc, box_int, callG_has L.draw]
  refine (draw_ok L.draw.fn G4.bag hz3.1 hz3.2).mono fun v g5 ⟨⟨t, et, t0, t1⟩, G5⟩ => ?_
  subst et
  obtain ⟨t, rfl⟩ : ∃ t' : Nat, t = t' := ⟨t.toNat, by omega⟩
  have hk5 := G5.keep _ _ hkb hk4
  have c25 := G5.keep _ _ (by omega) c24
  simp -implicitDefEqProofs only [optInt, cutV_loc hk5, ok_some, box_tl, List.set_cons_succ, List.set_cons_zero]
  have st := take_sb hl t
  have G15 := G4.trans G5
  have kp6 := Kp.push g5 [.lst (S (l.take t))]
  have c6 := get_new (h := g5) (.lst (S (l.take t)))
  have n6 : h.length ≤ g5.length := G15.len
  generalize g5 ++ [Obj.lst (S (l.take t))] = g6 at kp6 c6
  generalize g5.length = n6' at c6 n6
  have G6 := G15.trans (kp6.gr G15.bag)
  have hk6 := kp6.keep _ _ hk5
  have c26 := kp6.keep _ _ c25
  rw [okb_cons, okst_ifs]
  simp -implicitDefEqProofs only [ok_test, ok_cmp, ok_v, ok_con, List.getElem?_cons_zero, List.getElem?_cons_succ, cmpE_eq, pyEq_int, some_map, ok_some, truth_bl]
  by_cases q2 : c = 2
  · simp -implicitDefEqProofs only [q2, decide_true, if_true, okb_cons, okst_ret, ok_bin, ok_call, oki_cons, oki_nil, ok_v, List.getElem?_cons_zero, List.getElem?_cons_succ, box_loc]
    refine (mk_sb (l := l.take t) p (.loc c6) st.in11 (by have := st.len; omega) st fun x => Iff.rfl).mono fun v g7 ⟨n, e, hn, kp7, cc⟩ => ?_
    subst e
    refine (filt_loc (l := l) (fun i => !(l.take t).contains i) (kp7.keep _ _ hk6) rfl hl (by simp [wipeE]) fun i hi Q qq => ?_).mono fun v g ⟨e1, e2⟩ => ?_
    · simp -implicitDefEqProofs only [wipeE, List.set_cons_succ, List.set_cons_zero, ok_cmp, ok_v, List.getElem?_cons_zero, List.getElem?_cons_succ, nin_loc (kp7.keep _ _ c6) hi st, ok_ok]
      exact qq
    subst e1; have e2 := e2.symm; subst e2
    have kp8 := Kp.push g7 [.lst (S (l.filter fun i => !(l.take t).contains i))]
    simp -implicitDefEqProofs only [box_tl]
    refine (mk_sb (l := l.filter fun i => !(l.take t).contains i) p (.loc (get_new _)) (hl.filter _).in11 (by have := (hl.filter fun i => !(l.take t).contains i).len; omega) (hl.filter _) fun x => Iff.rfl).mono fun v g9 ⟨n', e, hn', kp9, cd⟩ => ?_
    subst e
    have k79 := kp8.trans kp9
    refine (bor_ok p (cc.kp k79) cd st (hl.filter _)).mono fun v g10 ⟨n'', e, hn'', kp10, ce⟩ => ?_
    subst e
    simp -implicitDefEqProofs only [retP_rt]
    have el : (all11.filter fun i => (l.take t).contains i || (l.filter fun i => !(l.take t).contains i).contains i) = l := by
      refine Sb.ext List.filter_sublist hl fun x => ?_
      rw [List.mem_filter, Bool.or_eq_true, List.contains_iff_mem, List.contains_iff_mem, List.mem_filter, Bool.not_eq_true']
      constructor
      · rintro ⟨_, h | h⟩
        · exact List.mem_of_mem_take h
        · exact h.1
      · intro hx
        refine ⟨hl.subset hx, ?_⟩
        by_cases hc : (l.take t).contains x = true
        · exact .inl (List.contains_iff_mem.mp hc)
        · exact .inr ⟨hx, Bool.eq_false_iff.mpr hc⟩
    rw [el] at ce
    have kk := kp7.trans (k79.trans kp10)
    exact ⟨n'', rfl, Nat.le_trans G6.len (Nat.le_trans (kp7.trans k79).len hn''), G6.trans (kk.gr G6.bag), ce⟩
  simp -implicitDefEqProofs only [q2, decide_false, Bool.false_eq_true, if_false, okb_nil]
  rw [okb_cons, okst_ifs]
  simp -implicitDefEqProofs only [ok_test, ok_cmp, ok_v, ok_con, List.getElem?_cons_zero, List.getElem?_cons_succ, cmpE_eq, pyEq_int, some_map, ok_some, truth_bl]
  by_cases q3 : c = 3
  · simp -implicitDefEqProofs only [q3, decide_true, if_true]
    rw [okb_cons]
    simp -implicitDefEqProofs only [okst_set, ok_lc1, oks_it, ok_v, List.getElem?_cons_zero, List.getElem?_cons_succ, itE_loc c26, ok_some, Tg.slots]
    refine (ok_drawnM (w := ⟨S all11, [(n2, S all11)]⟩) (fun g => Gr b s h g ∧ g[n2]? = some (.lst (S all11)) ∧ g[k]? = some (.lst (S l))) (fun i => i ∈ l) (fun g i => stays_loc i.2.1 (same_S _)) all11 g6 ⟨G6, c26, hk6⟩ fun i hi g ⟨Gg, cg, kg⟩ => ?_).mono fun vs g7 ⟨mo, e, hs, hm, G7, c27, hk7⟩ => ?_
    · have hi := in11 i hi
      simp -implicitDefEqProofs only [wipeE, asg, List.set_cons_succ, List.set_cons_zero, ok_bind, okt_cons, okt_nil, ok_if, ok_or, ok_cmp, ok_v, List.getElem?_cons_zero, List.getElem?_cons_succ, in_loc kg hi hl, ok_ok, truth_bl, ok_some]
      cases hc : l.contains i with
      | true =>
        simp -implicitDefEqProofs only [if_true, truth_bl, ok_some, ok_v, List.getElem?_cons_zero, List.getElem?_cons_succ, ok_box (Bx_sv i), ok_ok]
        exact ⟨.inr trivial, Gg, cg, kg⟩
      | false =>
        have hni : ¬ i ∈ l := fun hx => by rw [List.contains_iff_mem.mpr hx] at hc; cases hc
        simp -implicitDefEqProofs only [Bool.false_eq_true, if_false, ok_cmp, ok_call, oki_cons, oki_nil, ok_v, ok_con, List.getElem?_cons_zero, box_loc, box_int, callG_has L.draw]
        refine (draw_ok L.draw.fn Gg.bag (by decide) (by decide)).mono fun v g' ⟨⟨z, ez, _⟩, Gz⟩ => ?_
        subst ez
        have post : Gr b s h g' ∧ g'[n2]? = some (.lst (S all11)) ∧ g'[k]? = some (.lst (S l)) := ⟨Gg.trans Gz, Gz.keep _ _ (by omega) cg, Gz.keep _ _ hkb kg⟩
        simp -implicitDefEqProofs only [cmpE_eq, pyEq_int, some_map, ok_some, truth_bl]
        by_cases hz : z = 0
        · simp -implicitDefEqProofs only [hz, decide_true, if_true, ok_v, List.getElem?_cons_zero, List.getElem?_cons_succ, ok_box (Bx_sv i), ok_ok]
          exact ⟨.inr trivial, post⟩
        · simp -implicitDefEqProofs only [hz, decide_false, Bool.false_eq_true, if_false, ok_ok]
          exact ⟨.inl ⟨trivial, hni⟩, post⟩
    · subst e
      have sm : Sb mo := hs
      have hlm : ∀ x ∈ l, x ∈ mo := fun x hx => hm x (hl.subset hx) hx
      refine ⟨by rw [S_len]; have := sm.len; omega, ?_⟩
      simp -implicitDefEqProofs only [box_tl, List.set_cons_succ, List.set_cons_zero, okb_cons, okst_ret]
      have kp8 := Kp.push g7 [.lst (S mo)]
      have c8 := get_new (h := g7) (.lst (S mo))
      have n8 : h.length ≤ g7.length := G7.len
      generalize g7 ++ [Obj.lst (S mo)] = g8 at kp8 c8
      generalize g7.length = n8' at c8 n8
      have G8 := G7.trans (kp8.gr G7.bag)
      simp -implicitDefEqProofs only [ok_bin, ok_call, oki_cons, oki_nil, ok_v, List.getElem?_cons_zero, List.getElem?_cons_succ, box_loc]
      refine (mk_sb (l := mo) p (.loc c8) sm.in11 (by have := sm.len; omega) sm fun x => Iff.rfl).mono fun v g9 ⟨n, e, hn, kp9, cc⟩ => ?_
      subst e
      have k89 := kp8.trans kp9
      refine (filt_loc (l := all11) (fun i => !mo.contains i) (k89.keep _ _ c27) rfl (List.Sublist.refl _) (by simp [wipeE]) fun i hi Q qq => ?_).mono fun v g ⟨e1, e2⟩ => ?_
      · simp -implicitDefEqProofs only [wipeE, List.set_cons_succ, List.set_cons_zero, ok_cmp, ok_v, List.getElem?_cons_zero, List.getElem?_cons_succ, nin_loc (kp9.keep _ _ c8) hi sm, ok_ok]
        exact qq
      subst e1; have e2 := e2.symm; subst e2
      have f11 := (List.filter_sublist (p := fun i => !mo.contains i) (l := all11)).length_le
      have e11 : all11.length = 11 := rfl
      have hz4 : (S l).length + (S (all11.filter fun i => !mo.contains i)).length ≤ lim := by
        rw [S_len, S_len]
        omega
      simp -implicitDefEqProofs only [bin_lst (k89.keep _ _ hk7) hz4, ok_ok, S_app, box_tl]
      have i11 : In11 (l ++ all11.filter fun i => !mo.contains i) := fun i hi => by
        rcases List.mem_append.mp hi with h | h
        · exact hl.in11 i h
        · exact in11 i (List.mem_filter.mp h).1
      have kp10 := Kp.push g9 [.lst (S (l ++ all11.filter fun i => !mo.contains i))]
      refine (mk_sb (l := all11.filter fun i => l.contains i || !mo.contains i) p (.loc (get_new _)) i11 (by rw [List.length_append]; omega) List.filter_sublist fun x => ?_).mono fun v g11 ⟨n', e, hn', kp11, cd⟩ => ?_
      · rw [List.mem_append, List.mem_filter, List.mem_filter, Bool.or_eq_true, List.contains_iff_mem]
        constructor
        · rintro (h | h)
          · exact ⟨hl.subset h, .inl h⟩
          · exact ⟨h.1, .inr h.2⟩
        · rintro ⟨h, h' | h'⟩
          · exact .inl h'
          · exact .inr ⟨h, h'⟩
      subst e
      have k911 := kp10.trans kp11
      refine (band_ok p (cc.kp k911) cd sm List.filter_sublist).mono fun v g12 ⟨n'', e, hn'', kp12, ce⟩ => ?_
      subst e
      simp -implicitDefEqProofs only [retP_rt]
      have el : mo.filter (all11.filter fun i => l.contains i || !mo.contains i).contains = l := by
        refine Sb.ext (sm.filter _) hl fun x => ?_
        rw [List.mem_filter, List.contains_iff_mem, List.mem_filter, Bool.or_eq_true, List.contains_iff_mem, Bool.not_eq_true']
        constructor
        · rintro ⟨h, _, h' | h'⟩
          · exact h'
          · rw [List.contains_iff_mem.mpr h] at h'; cases h'
        · intro hx
          exact ⟨hlm x hx, hl.subset hx, .inl hx⟩
      rw [el] at ce
      have kk := kp8.trans (kp9.trans (k911.trans kp12))
      exact ⟨n'', rfl, Nat.le_trans G7.len (Nat.le_trans (kp8.trans (kp9.trans k911)).len hn''), G7.trans (kk.gr G7.bag), ce⟩
  simp -implicitDefEqProofs only [q3, decide_false, Bool.false_eq_true, if_false, okb_nil]
  have e2 : (2 : Int) = ((2 : Nat) : Int) := rfl
  have t2 := take_sb hl 2
  have hz5 : (S l).length + (S (l.take 2)).length ≤ lim := by rw [S_len, S_len]; have := t2.len; omega
  simp -implicitDefEqProofs only [okb_cons, okst_ret, ok_call, oki_cons, oki_nil, ok_v, ok_con, ok_bin, ok_slc, oko_none, oko_some, List.getElem?_cons_zero, List.getElem?_cons_succ, optInt, box_loc]
  rw [e2]
  simp -implicitDefEqProofs only [cutV_loc hk6, ok_some, bin_lst hk6 hz5, ok_ok, S_app, box_tl, callG_has L.mixed]
  have kp7 := Kp.push g6 [.lst (S (l ++ l.take 2))]
  have G7 := G6.trans (kp7.gr G6.bag)
  refine (mixed_ok L.draw L.mixed.fn G7.bag (get_new _) (by have := G6.len; omega) (by rw [S_len, List.length_append]; have := t2.len; omega) Bx_S).mono fun v g8 ⟨f8, us, e, hf8, cf8, hp8, G8⟩ => ?_
  subst e
  obtain ⟨ks, hks, rfl⟩ := perm_map sv (l := l ++ l.take 2) hp8
  have hm : ∀ x, x ∈ ks ↔ x ∈ l := fun x => by
    rw [hks.mem_iff, List.mem_append]
    exact ⟨fun h => h.elim id List.mem_of_mem_take, .inl⟩
  simp -implicitDefEqProofs only [box_loc]
  refine (mk_sb (l := l) p (.loc cf8) (fun i hi => hl.in11 i ((hm i).mp hi)) (by rw [hks.length_eq, List.length_append]; have := t2.len; omega) hl hm).mono fun v g9 ⟨n, e, hn, kp9, cc⟩ => ?_
  subst e
  simp -implicitDefEqProofs only [retP_rt]
  have G18 := G7.trans G8
  exact ⟨n, rfl, Nat.le_trans G18.len hn, G18.trans (kp9.gr G18.bag), cc⟩
end
end Sc
end
section
set_option Elab.async false
set_option linter.all false
set_option maxRecDepth 100000
set_option maxHeartbeats 1000000
set_option autoImplicit false
/-! What the law's own text leans on. -/
namespace Sc
open PySem K31

section
variable {w : Walk} {f : Val → Heap → R (List Val)} {h : Heap} {cx : Cx}
theorem okL_nil (hs : w.stays h = true) (P : List Val → Heap → Prop) : Ok (loopL w f [] h) P = P [] h := by
  rw [loopL, if_pos hs]; rfl
theorem okL_cons (hs : w.stays h = true) (x : Val) (r : List Val) (P : List Val → Heap → Prop) : Ok (loopL w f (x :: r) h) P = Ok (f x h) fun a h1 => Ok (loopL w f r h1) fun b h2 => P (a ++ b) h2 := by
  rw [loopL, if_pos hs, ok_bind]; congr 1; funext a h1; rw [ok_bind]; rfl
theorem biE_listf {n : Nat} {xs : List Val} (e : h[n]? = some (.fz xs)) : biE cx "list" [.loc n] h = .ok (.tl xs) h := by
  simp [biE, biV, b1, bList, seqOf_fz e, ofOpt]
theorem biE_tuplel {n : Nat} {xs : List Val} (e : h[n]? = some (.lst xs)) : biE cx "tuple" [.loc n] h = .ok (.tuq xs) h := by
  simp [biE, biV, b1, bTuple, listOf_lst e, ofOpt]
theorem rng3 : rng1E (.int 3) = some ⟨[.int 0, .int 1, .int 2], []⟩ := by
  have := rng1E_nat (n := 3) (by decide)
  exact this
theorem itE_tl (vs : List Val) : itE (.tl vs) h = some ⟨vs, []⟩ := id rfl
theorem kind_loc_lst {n : Nat} {xs : List Val} (e : h[n]? = some (.lst xs)) : kindOf h (.loc n) = some "list" := by simp only [kindOf, e]
theorem kind_loc_dct {n : Nat} {xs : List (Val × Val)} (e : h[n]? = some (.dct xs)) : kindOf h (.loc n) = some "dict" := by simp only [kindOf, e]
end
/-- three lots and the rules of them -/
structure Three (b nl nr : Nat) (kk rr : Nat → Nat) (ll : Nat → List Nat) (h : Heap) : Prop where
  nb : nl ≠ b
  rb : nr ≠ b
  lots : h[nl]? = some (.lst [.loc (kk 0), .loc (kk 1), .loc (kk 2)])
  rules : h[nr]? = some (.lst [.loc (rr 0), .loc (rr 1), .loc (rr 2)])
  each : ∀ i, i < 3 → kk i ≠ b ∧ rr i ≠ b ∧ h[kk i]? = some (.lst (S (ll i))) ∧ RuleAt h (rr i) (ll i) ∧ Sb (ll i)
section
variable {b s nl nr : Nat} {kk rr : Nat → Nat} {ll : Nat → List Nat} {h g : Heap}
theorem Three.gr (t : Three b nl nr kk rr ll h) (G : Gr b s h g) : Three b nl nr kk rr ll g :=
  ⟨t.nb, t.rb, G.keep _ _ t.nb t.lots, G.keep _ _ t.rb t.rules, fun i hi => let ⟨a, c, d, e, f⟩ := t.each i hi; ⟨a, c, G.keep _ _ a d, e.gr G c, f⟩⟩
theorem sub3 (f : Nat → Nat) {n : Nat} (e : h[n]? = some (.lst [.loc (f 0), .loc (f 1), .loc (f 2)])) : ∀ {i : Nat}, i < 3 → subV (.loc n) (.int (i : Nat)) h = some (.loc (f i)) := by
  intro i hi
  rw [subV_lst e]
  match i, hi with
  | 0, _ => rfl
  | 1, _ => rfl
  | 2, _ => rfl
end
/-- three numbered lists of situations -/
structure Lots (b nl : Nat) (kk : Nat → Nat) (ll : Nat → List Nat) (h : Heap) : Prop where
  nb : nl ≠ b
  lots : h[nl]? = some (.lst [.loc (kk 0), .loc (kk 1), .loc (kk 2)])
  each : ∀ i, i < 3 → kk i ≠ b ∧ h[kk i]? = some (.lst (S (ll i))) ∧ Sb (ll i)
theorem Lots.gr {b s nl : Nat} {kk : Nat → Nat} {ll : Nat → List Nat} {h g : Heap} (t : Lots b nl kk ll h) (G : Gr b s h g) : Lots b nl kk ll g :=
  ⟨t.nb, G.keep _ _ t.nb t.lots, fun i hi => let ⟨a, d, f⟩ := t.each i hi; ⟨a, G.keep _ _ a d, f⟩⟩
def f3 {α : Type} (x y z : α) : Nat → α
  | 0 => x
  | 1 => y
  | _ => z
section
variable {P : Pg} {h : Heap} {d : Nat}
theorem keptb_ok (L : LP P) {b s : Nat} (B : Bag b s h) {Q : Val → Heap → Prop} (k : ∀ n l g, h.length ≤ n → Sb l → g[n]? = some (.lst (S l)) → Gr b s h g → Q (.loc n) g) : Ok (run P (d + 2) "" "_law_kept" [.loc b] h) fun v g => Ok (box v g) Q := by
  refine (kept_ok L B).mono fun v g ⟨l, hl, lv, G⟩ => ?_
  refine (lv.box G.len).mono fun x g' ⟨n, e, hn, kp, c⟩ => ?_
  subst e
  exact k n l g' hn hl c (G.trans (kp.gr G.bag))
/-- a tuple that is no situation is in no rule -/
theorem cont_tup (p : RP P) {r : Nat} {l : List Nat} {vs : List Val} {D : PyData} (a : RuleAt h r l) (hl : Sb l) (hD : py h (.tup vs) = some D) (hn : ∀ j, j < 11 → D.eqv (pd j) = false) : Ok (run P (d + 1) "Rule" "__contains__" [.loc r, .tup vs] h) fun v g => v = .bl false ∧ g = h := by
  refine ok_run p.cont rfl ?_
  show Ok (evB (cxD P d) ir_RuleX_containsX.body [some (.loc r), some (.tup vs), none] h) _
  unfold ir_RuleX_containsX
  dsimp only
  have e : isE (cxD P d) ["tuple"] (.tup vs) h = .ok (.bl true) h := isE_tup p _
  simp -implicitDefEqProofs only [okb_cons, okst_ret, ok_and, ok_isi, ok_v, List.getElem?_cons_zero, List.getElem?_cons_succ, e, ok_ok, truth_bl, ok_some, if_true, ok_bi, okr_cons, okr_nil, ok_lc1, oks_it, ok_attr, attr_kept p a, itE_tuq]
  refine ok_mapS (w := ⟨S l, []⟩) (l := l) (fun j => .bl false) rfl rfl (fun j hj => ?_) ?_
  · have ee : pyEq h (.tup vs) (sv j) = some false := by
      unfold pyEq
      rw [hD, show py h (sv j) = some (pd j) from rfl]
      show some (D.eqv (pd j)) = _
      rw [hn j (hl.in11 j hj)]
    simp -implicitDefEqProofs only [Tg.slots, wipeE, asg, List.set_cons_succ, List.set_cons_zero, ok_bind, okt_nil, if_true, ok_cmp, ok_v, List.getElem?_cons_zero, List.getElem?_cons_succ, cmpE_eq, ee, some_map, ok_some, box_bl, ok_ok, and_self]
  · have h3 : (l.map fun _ => Val.bl false).length ≤ lim := by
      rw [List.length_map]; have := hl.len; have := lim_big; omega
    have e : (l.any fun _ => false) = false := by
      rw [Bool.eq_false_iff]
      intro hx
      rw [List.any_eq_true] at hx
      obtain ⟨_, _, q⟩ := hx
      cases q
    refine ⟨h3, ?_⟩
    simp -implicitDefEqProofs only [biE_any (fun _ : Nat => false), e, ok_ok, retP_rt, and_self]
def Odd (g : Heap) (x : Val) : Prop := Bx x ∧ ((∃ ks, kindOf g x = some ks ∧ insOf g x = none ∧ ks ∈ ["NoneType", "bool", "int", "str", "list", "dict"]) ∨ ∃ vs D, x = .tup vs ∧ py g x = some D ∧ ∀ j, j < 11 → D.eqv (pd j) = false)
theorem in_odd (p : RP P) {r : Nat} {l : List Nat} {x : Val} {Q : Val → Heap → Prop} (o : Odd h x) (a : RuleAt h r l) (hl : Sb l) (k : Q (.bl false) h) : Ok (cmpE (cxD P (d + 1)) .in_ x (.loc r) h) Q := by
  obtain ⟨bx, ⟨ks, h1, h2, h3⟩ | ⟨vs, D, rfl, hD, hn⟩⟩ := o
  · exact in_rule_no p a bx h1 h2 h3 k
  · unfold cmpE
    rw [insOf_ins a]
    show Ok ((inE (cxD P (d + 1)) "Rule" (.loc r) (.tup vs) h).bind fun b h1 => .ok (.bl b) h1) Q
    unfold inE
    rw [ok_bind, ok_bind, ok_box bx, ok_bind, callM_rule p (by decide)]
    refine (cont_tup p a hl hD hn).mono fun v g ⟨e1, e2⟩ => ?_
    subst e1; have e2 := e2.symm; subst e2
    exact k
end
theorem odd_d : ∀ D ∈ [PyData.tuple [.str "new"], PyData.tuple [.str "new", .str "none", .str "none"], PyData.tuple [.str "none", .str "new"], PyData.tuple [.str "known", .str "none"], PyData.tuple [.str "new", .list []], PyData.tuple [.list [], .str "none"]], ∀ j, j < 11 → D.eqv (pd j) = false := by decide +kernel
theorem Bx_tup (vs : List Val) : Bx (.tup vs) := fun _ => rfl
theorem odd_all {g : Heap} {n m a c : Nat} (hn : g[n]? = some (.lst [])) (hm : g[m]? = some (.dct [])) (ha : g[a]? = some (.lst [])) (hc : g[c]? = some (.lst [])) : ∀ x ∈ [Val.str "new", .non, .int 3, .loc n, .tup [.str "new"], .tup [.str "new", .str "none", .str "none"], .tup [.str "none", .str "new"], .tup [.str "known", .str "none"], .loc m, .bl true, .tup [.str "new", .loc a], .tup [.loc c, .str "none"]], Odd g x := by
  intro x hx
  simp only [List.mem_cons, List.not_mem_nil, or_false] at hx
  have T1 : ∀ {vs : List Val} {D : PyData}, py g (.tup vs) = some D → D ∈ [PyData.tuple [.str "new"], PyData.tuple [.str "new", .str "none", .str "none"], PyData.tuple [.str "none", .str "new"], PyData.tuple [.str "known", .str "none"], PyData.tuple [.str "new", .list []], PyData.tuple [.list [], .str "none"]] → Odd g (.tup vs) := fun e hD => ⟨Bx_tup _, .inr ⟨_, _, rfl, e, odd_d _ hD⟩⟩
  have ta : toPy g 8 (.loc a) = some (.list []) := by simp [toPy, ha, optAll]
  have tc : toPy g 8 (.loc c) = some (.list []) := by simp [toPy, hc, optAll]
  rcases hx with rfl | rfl | rfl | rfl | rfl | rfl | rfl | rfl | rfl | rfl | rfl | rfl
  · exact ⟨fun _ => rfl, .inl ⟨"str", rfl, rfl, by simp⟩⟩
  · exact ⟨fun _ => rfl, .inl ⟨"NoneType", rfl, rfl, by simp⟩⟩
  · exact ⟨fun _ => rfl, .inl ⟨"int", rfl, rfl, by simp⟩⟩
  · exact ⟨fun _ => rfl, .inl ⟨"list", kind_loc_lst hn, insOf_lst hn, by simp⟩⟩
  · exact T1 (D := PyData.tuple [.str "new"]) rfl (by simp)
  · exact T1 (D := PyData.tuple [.str "new", .str "none", .str "none"]) rfl (by simp)
  · exact T1 (D := PyData.tuple [.str "none", .str "new"]) rfl (by simp)
  · exact T1 (D := PyData.tuple [.str "known", .str "none"]) rfl (by simp)
  · exact ⟨fun _ => rfl, .inl ⟨"dict", kind_loc_dct hm, insOf_dct hm, by simp⟩⟩
  · exact ⟨fun _ => rfl, .inl ⟨"bool", rfl, rfl, by simp⟩⟩
  · refine T1 (D := PyData.tuple [.str "new", .list []]) ?_ (by simp)
    show (optAll (toPy g 8) [.str "new", .loc a]).map PyData.tuple = _
    simp only [optAll, ta]; rfl
  · refine T1 (D := PyData.tuple [.list [], .str "none"]) ?_ (by simp)
    show (optAll (toPy g 8) [.loc c, .str "none"]).map PyData.tuple = _
    simp only [optAll, tc]; rfl
end Sc
end
section
set_option Elab.async false
set_option linter.all false
set_option maxRecDepth 100000
set_option maxHeartbeats 1000000
set_option autoImplicit false
/-! The parts of the law's own text. -/
namespace Sc
open PySem K31

def l1st : St := ir_law.body.getD 4 .pass
section
variable {P : Pg} {h : Heap} {d : Nat} {b s nl nr : Nat} {kk rr : Nat → Nat} {ll : Nat → List Nat}
theorem two_lists {v w : Val} {i : Int} (h : Heap) (h0 : 0 ≤ i) (h1 : i < 2) : ∃ u, subV (.tl [v, w]) (.int i) h = some u ∧ (u = v ∨ u = w) := by
  have : i = 0 ∨ i = 1 := by omega
  rcases this with rfl | rfl
  · exact ⟨v, rfl, .inl rfl⟩
  · exact ⟨w, rfl, .inr rfl⟩
/-- the body of the first loop -/
theorem loop1_body (p : RP P) (L : LP P) {i : Nat} (hi : i < 3) (B : Bag b s h) (t : Three b nl nr kk rr ll h) (x0 x4 x6 x7 x8 x9 x10 x11 x12 : Option Val) : Ok (evB (cxD P (d + 6)) [.ifs (.not (.call "_law_asked" (.cons (.v 1) (.cons (.sub (.v 5) (.v 3)) (.cons (.sub (.v 2) (.v 3)) .nil))))) [.ret (.con (.bl false))] [],
    .set 7 (.call "_law_mixed" (.cons (.v 1) (.cons (.bin .add (.sub (.v 2) (.v 3)) (.slc (.sub (.v 2) (.v 3)) .none (.some (.con (.int 2))))) .nil))),
    .set 8 (.bi "list" (.cons (.v 7) .nil)),
    .set 9 (.call "Rule" (.cons (.sub (.lst (.cons (.v 7) (.cons (.bi "tuple" (.cons (.v 7) .nil)) .nil))) (.call "_law_draw" (.cons (.v 1) (.cons (.con (.int 2)) .nil)))) .nil)),
    .ifs (.cmp .ne (.v 7) (.v 8)) [.ret (.con (.bl false))] [],
    .ex (.meth (.v 7) "clear" .nil),
    .ifs (.not (.call "_law_asked" (.cons (.v 1) (.cons (.v 9) (.cons (.sub (.v 2) (.v 3)) .nil))))) [.ret (.con (.bl false))] []]
    [x0, some (.loc b), some (.loc nl), some (.int (i : Nat)), x4, some (.loc nr), x6, x7, x8, x9, x10, x11, x12] h) fun fl g => (∃ x7 x8 x9, fl = .nx [x0, some (.loc b), some (.loc nl), some (.int (i : Nat)), x4, some (.loc nr), x6, x7, x8, x9, x10, x11, x12]) ∧ Gr b s h g := by
  have lb := lim_big
  have l2 : 2 ≤ lim := by omega
  have hlt := B.lt
  obtain ⟨hkb, hrb, hk, a, hl⟩ := t.each i hi
  have h11 := hl.len
  rw [okb_cons, okst_ifs]
  simp -implicitDefEqProofs only [ok_test, ok_not, ok_call, oki_cons, oki_nil, ok_v, ok_sub, List.getElem?_cons_zero, List.getElem?_cons_succ, box_loc, sub3 rr t.rules hi, sub3 kk t.lots hi, ok_some, callG_has L.asked]
  refine (asked_ok p L B a hk hl hrb hkb).mono fun v g1 ⟨e, G1⟩ => ?_
  subst e
  simp -implicitDefEqProofs only [truth_bl, ok_some, Bool.not_true, Bool.false_eq_true, if_false, okb_nil]
  have t1 := t.gr G1
  have hk1 := G1.keep _ _ hkb hk
  rw [okb_cons]
  have e2 : (2 : Int) = ((2 : Nat) : Int) := rfl
  have tk := take_sb hl 2
  have hz5 : (S (ll i)).length + (S ((ll i).take 2)).length ≤ lim := by rw [S_len, S_len]; have := tk.len; omega
  simp -implicitDefEqProofs only [okst_set, ok_call, oki_cons, oki_nil, ok_v, ok_con, ok_bin, ok_sub, ok_slc, oko_none, oko_some, List.getElem?_cons_zero, List.getElem?_cons_succ, optInt, box_loc, sub3 kk t1.lots hi, ok_some]
  rw [e2]
  simp -implicitDefEqProofs only [cutV_loc hk1, ok_some, bin_lst hk1 hz5, ok_ok, S_app, box_tl, callG_has L.mixed]
  have kp2 := Kp.push g1 [.lst (S (ll i ++ (ll i).take 2))]
  have G2 := G1.trans (kp2.gr G1.bag)
  refine (mixed_ok L.draw L.mixed.fn G2.bag (get_new _) (by have := G1.len; omega) (by rw [S_len, List.length_append]; have := tk.len; omega) Bx_S).mono fun v g3 ⟨f, us, e, hf, cf, hp, G3⟩ => ?_
  subst e
  obtain ⟨ks, hks, rfl⟩ := perm_map sv (l := ll i ++ (ll i).take 2) hp
  change g3[f]? = some (.lst (S ks)) at cf
  have hm : ∀ x, x ∈ ks ↔ x ∈ ll i := fun x => by
    rw [hks.mem_iff, List.mem_append]
    exact ⟨fun h => h.elim id List.mem_of_mem_take, .inl⟩
  have ki : In11 ks := fun i hi => hl.in11 i ((hm i).mp hi)
  have kl : ks.length ≤ 100000 := by rw [hks.length_eq, List.length_append]; have := tk.len; omega
  have G13 := G2.trans G3
  have hfl : h.length ≤ f := Nat.le_trans G2.len hf
  have hfb : f ≠ b := by omega
  simp -implicitDefEqProofs only [box_loc, List.set_cons_succ, List.set_cons_zero]
  -- list
  rw [okb_cons]
  simp -implicitDefEqProofs only [okst_set, ok_bi, okr_cons, okr_nil, ok_v, List.getElem?_cons_zero, List.getElem?_cons_succ, biE_list cf, ok_ok, box_tl, List.set_cons_succ, List.set_cons_zero]
  have kp4 := Kp.push g3 [.lst (S ks)]
  have c8 := get_new (h := g3) (.lst (S ks))
  have cf4 := kp4.keep _ _ cf
  have n8 : h.length ≤ g3.length := G13.len
  generalize g3 ++ [Obj.lst (S ks)] = g4 at kp4 c8 cf4
  generalize g3.length = n8' at c8 n8
  have G4 := G13.trans (kp4.gr G13.bag)
  -- Rule
  rw [okb_cons]
  simp -implicitDefEqProofs only [okst_set, ok_call, oki_cons, oki_nil, ok_sub, ok_lst, ok_bi, okr_cons, okr_nil, ok_v, ok_con, List.getElem?_cons_zero, List.getElem?_cons_succ, biE_tuplel cf4, ok_ok, box_loc, box_int, box_tuq, List.length_cons, List.length_nil, Nat.zero_add, Nat.reduceAdd, l2, true_and, callG_has L.draw]
  refine (draw_ok L.draw.fn G4.bag (by decide) (by decide)).mono fun v g5 ⟨⟨z, ez, z0, z1⟩, G5⟩ => ?_
  subst ez
  have cf5 := G5.keep _ _ hfb cf4
  have c85 := G5.keep _ _ (by omega) c8
  have G15 := G4.trans G5
  obtain ⟨u, eu, hu⟩ := two_lists (v := .loc f) (w := .tuq (S ks)) g5 z0 z1
  have bu : Bx u := by rcases hu with rfl | rfl <;> exact fun _ => rfl
  have ru : Row g5 u (S ks) := by
    rcases hu with rfl | rfl
    · exact .loc cf5
    · exact .tuq _
  simp -implicitDefEqProofs only [eu, ok_some, ok_box bu]
  refine (mk_sb (l := ll i) p ru ki kl hl hm).mono fun v g6 ⟨n, e, hn, kp6, cc⟩ => ?_
  subst e
  have cf6 := kp6.keep _ _ cf5
  have c86 := kp6.keep _ _ c85
  have G6 := G15.trans (kp6.gr G15.bag)
  simp -implicitDefEqProofs only [box_loc, List.set_cons_succ, List.set_cons_zero]
  rw [okb_cons, okst_ifs]
  simp -implicitDefEqProofs only [ok_test, ok_cmp, ok_v, List.getElem?_cons_zero, List.getElem?_cons_succ, cmpE_ne, pyEq_locs _ cf6 c86 ki ki, decide_true, some_map, Bool.not_true, ok_some, truth_bl, Bool.false_eq_true, if_false, okb_nil]
  rw [okb_cons]
  simp -implicitDefEqProofs only [okst_ex, ok_meth, ok_v, List.getElem?_cons_zero, List.getElem?_cons_succ, recv_clear cf6, oki_nil, meth_clear cf6, ok_ok]
  have nf : n ≠ f := fun q => by
    have := (List.getElem?_eq_some_iff.mp cf5).1
    omega
  have G7 := G6.write B (show h.length ≤ f from hfl) (.lst [])
  have cc7 : RuleAt (g6.set f (.lst [])) n (ll i) := by
    unfold RuleAt
    rw [List.getElem?_set_ne (Ne.symm nf)]; exact cc
  generalize g6.set f (.lst []) = g7 at G7 cc7
  have t7 := t.gr G7
  have hk7 := G7.keep _ _ hkb hk
  have n5 : b < g5.length := Nat.lt_of_lt_of_le hlt G15.len
  rw [okb_cons, okst_ifs]
  simp -implicitDefEqProofs only [ok_test, ok_not, ok_call, oki_cons, oki_nil, ok_v, ok_sub, List.getElem?_cons_zero, List.getElem?_cons_succ, box_loc, sub3 kk t7.lots hi, ok_some, callG_has L.asked]
  refine (asked_ok p L G7.bag cc7 hk7 hl (by omega) hkb).mono fun v g8 ⟨e, G8⟩ => ?_
  subst e
  simp -implicitDefEqProofs only [truth_bl, ok_some, Bool.not_true, Bool.false_eq_true, if_false, okb_nil]
  exact ⟨⟨_, _, _, rfl⟩, G7.trans G8⟩
theorem loop1 (p : RP P) (L : LP P) (B : Bag b s h) (t : Three b nl nr kk rr ll h) {x0 x3 x4 x6 x7 x8 x9 x10 x11 x12 : Option Val} : Ok (evS (cxD P (d + 6)) (ir_law.body.getD 4 .pass) [x0, some (.loc b), some (.loc nl), x3, x4, some (.loc nr), x6, x7, x8, x9, x10, x11, x12] h) fun fl g => (∃ x3 x7 x8 x9, fl = .nx [x0, some (.loc b), some (.loc nl), x3, x4, some (.loc nr), x6, x7, x8, x9, x10, x11, x12]) ∧ Gr b s h g := by
  show Ok (evS (cxD P (d + 6)) (.for_ (.v 3) (.it (.call "_law_mixed" (.cons (.v 1) (.cons (.lst (.cons (.con (.int 0)) (.cons (.con (.int 1)) (.cons (.con (.int 2)) (.cons (.con (.int 0)) .nil))))) .nil)))) _) _ h) _
  have l4 : 4 ≤ lim := by have := lim_big; omega
  rw [okst_for]
  simp -implicitDefEqProofs only [oks_it, ok_call, oki_cons, oki_nil, ok_v, List.getElem?_cons_zero, List.getElem?_cons_succ, ok_lst, ok_con, box_int, box_loc, box_tl, List.length_cons, List.length_nil, Nat.zero_add, Nat.reduceAdd, l4, true_and, callG_has L.mixed]
  refine (mixed_ok L.draw L.mixed.fn (B.push _) (get_new _) (by have := B.lt; omega) (by decide) (by intro v hv; simp only [List.mem_cons, List.not_mem_nil, or_false] at hv; rcases hv with e | e | e | e <;> (subst e; exact fun _ => rfl))).mono fun v g0 ⟨f, us, ev, hf, hfu, hp, G0⟩ => ?_
  subst ev
  have G := (Gr.push B [.lst [.int 0, .int 1, .int 2, .int 0]]).trans G0
  have hlt := B.lt
  have hfl : h.length ≤ f := by rw [List.length_append] at hf; omega
  have hfb : f ≠ b := by omega
  obtain ⟨zs, hz, rfl⟩ := perm_map Val.int (l := [0, 1, 2, 0]) hp
  rw [itE_loc hfu]
  simp -implicitDefEqProofs only [ok_some]
  refine ok_loopS (fun dn e g => (∃ x3 x7 x8 x9, e = [x0, some (.loc b), some (.loc nl), x3, x4, some (.loc nr), x6, x7, x8, x9, x10, x11, x12]) ∧ Gr b s h g ∧ g[f]? = some (.lst (zs.map Val.int))) (fun _ _ _ _ _ i => stays_loc i.2.2 (same_ints _)) ?_ ?_ _ [] _ _ rfl ⟨⟨_, _, _, _, rfl⟩, G, hfu⟩
  · rintro dn x rest e g hw ⟨⟨x3, x7, x8, x9, rfl⟩, G, hfg⟩
    have hx : x ∈ zs.map Val.int := by
      have : x ∈ (Walk.mk (zs.map Val.int) [(f, zs.map Val.int)]).items := by rw [hw]; simp
      exact this
    obtain ⟨z, hzm, rfl⟩ := List.mem_map.mp hx
    obtain ⟨i, rfl, hi⟩ : ∃ i : Nat, z = (i : Int) ∧ i < 3 := by
      have := hz.subset hzm
      simp only [List.mem_cons, List.not_mem_nil, or_false] at this
      exact ⟨z.toNat, by omega, by omega⟩
    simp -implicitDefEqProofs only [asg, List.set_cons_succ, List.set_cons_zero]
    refine (loop1_body p L hi G.bag (t.gr G) x0 x4 x6 x7 x8 x9 x10 x11 x12).mono fun fl g' ⟨⟨y7, y8, y9, e⟩, G'⟩ => ?_
    subst e
    exact ⟨⟨_, _, _, _, rfl⟩, G.trans G', G'.keep _ _ hfb hfg⟩
  · rintro e g ⟨⟨x3, x7, x8, x9, rfl⟩, G, hfg⟩
    exact ⟨⟨_, _, _, _, rfl⟩, G⟩
theorem pair_mem {x : Val} (hx : x ∈ [Val.tup [.int 0, .int 1], .tup [.int 1, .int 0], .tup [.int 2, .int 0], .tup [.int 1, .int 1]]) : ∃ i j : Nat, x = .tup [.int (i : Nat), .int (j : Nat)] ∧ i < 3 ∧ j < 3 := by
  simp only [List.mem_cons, List.not_mem_nil, or_false] at hx
  rcases hx with rfl | rfl | rfl | rfl
  · exact ⟨0, 1, rfl, by decide, by decide⟩
  · exact ⟨1, 0, rfl, by decide, by decide⟩
  · exact ⟨2, 0, rfl, by decide, by decide⟩
  · exact ⟨1, 1, rfl, by decide, by decide⟩
theorem pair_bx {x : Val} (hx : x ∈ [Val.tup [.int 0, .int 1], .tup [.int 1, .int 0], .tup [.int 2, .int 0], .tup [.int 1, .int 1]]) : Bx x := by
  obtain ⟨i, j, rfl, _, _⟩ := pair_mem hx
  exact fun _ => rfl
theorem pair_plain {us : List Val} (hp : us.Perm [Val.tup [.int 0, .int 1], .tup [.int 1, .int 0], .tup [.int 2, .int 0], .tup [.int 1, .int 1]]) : Val.same us us = true := same_self _ (plains_of fun x hx => by
  obtain ⟨i, j, rfl, _, _⟩ := pair_mem (hp.subset hx)
  rfl)
theorem loop2 (p : RP P) (L : LP P) (B : Bag b s h) (t : Three b nl nr kk rr ll h) {x0 x3 x4 x6 x7 x8 x9 x10 x11 x12 : Option Val} : Ok (evS (cxD P (d + 6)) (ir_law.body.getD 5 .pass) [x0, some (.loc b), some (.loc nl), x3, x4, some (.loc nr), x6, x7, x8, x9, x10, x11, x12] h) fun fl g => (∃ x4 x10, fl = .nx [x0, some (.loc b), some (.loc nl), x3, x4, some (.loc nr), x6, x7, x8, x9, x10, x11, x12]) ∧ Gr b s h g := by
  show Ok (evS (cxD P (d + 6)) (.for_ (.vs [(.v 4), (.v 10)]) (.it (.call "_law_mixed" (.cons (.v 1) (.cons (.lst (.cons (.tup (.cons (.con (.int 0)) (.cons (.con (.int 1)) .nil))) (.cons (.tup (.cons (.con (.int 1)) (.cons (.con (.int 0)) .nil))) (.cons (.tup (.cons (.con (.int 2)) (.cons (.con (.int 0)) .nil))) (.cons (.tup (.cons (.con (.int 1)) (.cons (.con (.int 1)) .nil))) .nil))))) .nil)))) [.ifs (.not (.call "_law_two_right" (.cons (.v 1) (.cons (.sub (.v 5) (.v 4)) (.cons (.sub (.v 5) (.v 10)) (.cons (.sub (.v 2) (.v 4)) (.cons (.sub (.v 2) (.v 10)) .nil))))))) [.ret (.con (.bl false))] []]) _ h) _
  have l4 : 4 ≤ lim := by have := lim_big; omega
  have l2 : 2 ≤ lim := by have := lim_big; omega
  rw [okst_for]
  simp -implicitDefEqProofs only [oks_it, ok_call, oki_cons, oki_nil, ok_v, List.getElem?_cons_zero, List.getElem?_cons_succ, ok_lst, ok_tup, ok_con, box_int, box_loc, box_tl, box_tup, List.length_cons, List.length_nil, Nat.zero_add, Nat.reduceAdd, l4, l2, true_and, callG_has L.mixed]
  refine (mixed_ok L.draw L.mixed.fn (B.push _) (get_new _) (by have := B.lt; omega) (by simp) (fun v hv => pair_bx hv)).mono fun v g0 ⟨f, us, ev, hf, hfu, hp, G0⟩ => ?_
  subst ev
  have G := (Gr.push B _).trans G0
  have hlt := B.lt
  have hfl : h.length ≤ f := by rw [List.length_append] at hf; omega
  have hfb : f ≠ b := by omega
  rw [itE_loc hfu]
  simp -implicitDefEqProofs only [ok_some]
  refine ok_loopS (fun dn e g => (∃ x4 x10, e = [x0, some (.loc b), some (.loc nl), x3, x4, some (.loc nr), x6, x7, x8, x9, x10, x11, x12]) ∧ Gr b s h g ∧ g[f]? = some (.lst us)) (fun _ _ _ _ _ i => stays_loc i.2.2 (pair_plain hp)) ?_ ?_ _ [] _ _ rfl ⟨⟨_, _, rfl⟩, G, hfu⟩
  · rintro dn x rest e g hw ⟨⟨x4, x10, rfl⟩, G, hfg⟩
    have hx : x ∈ us := by
      have : x ∈ (Walk.mk us [(f, us)]).items := by rw [hw]; simp
      exact this
    obtain ⟨i, j, rfl, hi, hj⟩ := pair_mem (hp.subset hx)
    have tg := t.gr G
    obtain ⟨hkb, hrb, hk, a, hl⟩ := tg.each i hi
    obtain ⟨hkb', hrb', hk', a', hl'⟩ := tg.each j hj
    simp -implicitDefEqProofs only [asg, asgs, List.set_cons_succ, List.set_cons_zero, okb_cons, okb_nil, okst_ifs, ok_test, ok_not, ok_call, oki_cons, oki_nil, ok_v, ok_sub, List.getElem?_cons_zero, List.getElem?_cons_succ, sub3 rr tg.rules hi, sub3 kk tg.lots hi, sub3 rr tg.rules hj, sub3 kk tg.lots hj, ok_some, box_loc, callG_has L.two]
    refine (two_ok p L G.bag a a' hk hk' hl hl' hrb hrb' hkb hkb').mono fun v g' ⟨e, G'⟩ => ?_
    subst e
    simp -implicitDefEqProofs only [truth_bl, ok_some, Bool.not_true, Bool.false_eq_true, if_false]
    exact ⟨⟨_, _, rfl⟩, G.trans G', G'.keep _ _ hfb hfg⟩
  · rintro e g ⟨⟨x4, x10, rfl⟩, G, hfg⟩
    exact ⟨⟨_, _, rfl⟩, G⟩
end
end Sc
end
section
set_option Elab.async false
set_option linter.all false
set_option maxRecDepth 100000
set_option maxHeartbeats 1000000
set_option autoImplicit false
/-! The law, whole. -/
namespace Sc
open PySem K31

section
variable {P : Pg} {h : Heap} {d : Nat} {b s nl nr : Nat} {kk rr : Nat → Nat} {ll : Nat → List Nat}
/-- strange values are in no rule -/
theorem strange (p : RP P) (B : Bag b s h) (t : Three b nl nr kk rr ll h) {x0 x3 x4 x6 x7 x8 x9 x10 x11 x12 : Option Val} : Ok (evB (cxD P (d + 6)) [ir_law.body.getD 6 .pass, ir_law.body.getD 7 .pass] [x0, some (.loc b), some (.loc nl), x3, x4, some (.loc nr), x6, x7, x8, x9, x10, x11, x12] h) fun fl g => (∃ x11 x12, fl = .nx [x0, some (.loc b), some (.loc nl), x3, x4, some (.loc nr), x6, x7, x8, x9, x10, x11, x12]) ∧ Gr b s h g := by
  have lb := lim_big
  have z : ∀ k, k ≤ 100 → k ≤ lim := fun k hk => by omega
  have l0 := z 0 (by decide)
  have l1 := z 1 (by decide)
  have l2 := z 2 (by decide)
  have l3 := z 3 (by decide)
  have l10 := z 10 (by decide)
  show Ok (evB (cxD P (d + 6)) [.set 11 (.lst (.cons (.con (.str "new")) (.cons (.con .non) (.cons (.con (.int 3)) (.cons (.lst .nil) (.cons (.tup (.cons (.con (.str "new")) .nil)) (.cons (.tup (.cons (.con (.str "new")) (.cons (.con (.str "none")) (.cons (.con (.str "none")) .nil)))) (.cons (.tup (.cons (.con (.str "none")) (.cons (.con (.str "new")) .nil))) (.cons (.tup (.cons (.con (.str "known")) (.cons (.con (.str "none")) .nil))) (.cons (.dct .nil .nil) (.cons (.con (.bl true)) .nil))))))))))),
    .for_ (.v 12) (.it (.bin .add (.v 11) (.lst (.cons (.tup (.cons (.con (.str "new")) (.cons (.lst .nil) .nil))) (.cons (.tup (.cons (.lst .nil) (.cons (.con (.str "none")) .nil))) .nil))))) [.ifs (.or (.cmp .in_ (.v 12) (.sub (.v 5) (.con (.int 0)))) (.cmp .in_ (.v 12) (.meth (.con (.glb "Rule")) "free" .nil))) [.ret (.con (.bl false))] []]] _ h) _
  rw [okb_cons]
  simp -implicitDefEqProofs only [okst_set, ok_lst, ok_tup, ok_con, ok_dct, oki_cons, oki_nil, box_str, box_non, box_int, box_tl, box_tup, box_loc, box_bl, List.length_cons, List.length_nil, Nat.zero_add, Nat.reduceAdd, l0, l1, l2, l3, l10, true_and, List.set_cons_succ, List.set_cons_zero, List.zip_nil_left, List.foldl_nil]
  have kp1 := Kp.push h [.lst []]
  have c1 := get_new (h := h) (.lst [])
  generalize h ++ [Obj.lst []] = g1 at kp1 c1
  generalize h.length = n1 at c1
  have kp2 := Kp.push g1 [.dct []]
  have c2 := get_new (h := g1) (.dct [])
  generalize g1 ++ [Obj.dct []] = g2 at kp2 c2
  generalize g1.length = n2 at c2
  have k2 := kp1.trans kp2
  have c12 := kp2.keep _ _ c1
  generalize hv : [Val.str "new", .non, .int 3, .loc n1, .tup [.str "new"], .tup [.str "new", .str "none", .str "none"], .tup [.str "none", .str "new"], .tup [.str "known", .str "none"], .loc n2, .bl true] = vs
  have hvl : vs.length = 10 := by rw [← hv]; rfl
  have kp3 := Kp.push g2 [.lst vs]
  have c3 := get_new (h := g2) (.lst vs)
  generalize g2 ++ [Obj.lst vs] = g3 at kp3 c3
  generalize g2.length = n3 at c3
  rw [okb_cons, okst_for]
  have kp4 := Kp.push g3 [.lst []]
  have c4 := get_new (h := g3) (.lst [])
  have c34 := kp4.keep _ _ c3
  simp -implicitDefEqProofs only [oks_it, ok_bin, ok_v, List.getElem?_cons_zero, List.getElem?_cons_succ, ok_lst, ok_tup, ok_con, oki_cons, oki_nil, box_str, box_tl, box_tup, List.length_cons, List.length_nil, Nat.zero_add, Nat.reduceAdd, l0, l2, true_and]
  generalize g3 ++ [Obj.lst []] = g4 at kp4 c4 c34
  generalize g3.length = n4 at c4
  have kp5 := Kp.push g4 [.lst []]
  have c5 := get_new (h := g4) (.lst [])
  have c35 := kp5.keep _ _ c34
  have c45 := kp5.keep _ _ c4
  generalize g4 ++ [Obj.lst []] = g5 at kp5 c5 c35 c45
  generalize g4.length = n5 at c5
  have hz : vs.length + [Val.tup [.str "new", .loc n4], .tup [.loc n5, .str "none"]].length ≤ lim := by rw [hvl, List.length_cons, List.length_cons, List.length_nil]; omega
  simp -implicitDefEqProofs only [bin_lst c35 hz, ok_ok, itE_tl, ok_some]
  have k25 := kp3.trans (kp4.trans kp5)
  have kk5 := k2.trans k25
  have o : ∀ x ∈ vs ++ [Val.tup [.str "new", .loc n4], .tup [.loc n5, .str "none"]], ∀ g, Kp g5 g → Odd g x := fun x hx g kp => by
    rw [← hv] at hx
    exact odd_all (kp.keep _ _ (k25.keep _ _ c12)) (kp.keep _ _ (k25.keep _ _ c2)) (kp.keep _ _ c45) (kp.keep _ _ c5) x hx
  generalize vs ++ [Val.tup [.str "new", .loc n4], .tup [.loc n5, .str "none"]] = us at o
  refine ok_loopS (w := ⟨us, []⟩) (fun dn e g => (∃ x12, e = [x0, some (.loc b), some (.loc nl), x3, x4, some (.loc nr), x6, x7, x8, x9, x10, some (.loc n3), x12]) ∧ Kp g5 g) (fun _ _ _ _ _ i => rfl) ?_ ?_ _ [] _ _ rfl ⟨⟨_, rfl⟩, Kp.refl _⟩
  · rintro dn x rest e g hw ⟨⟨x12, rfl⟩, kp⟩
    have hx : x ∈ us := by
      have : x ∈ (Walk.mk us []).items := by rw [hw]; simp
      exact this
    have tg := t.gr ((kk5.trans kp).gr B)
    obtain ⟨hkb, hrb, hk, a, hl⟩ := tg.each 0 (by decide)
    have z0 : (0 : Int) = ((0 : Nat) : Int) := rfl
    have es := sub3 rr tg.rules (show 0 < 3 by decide)
    rw [← z0] at es
    simp -implicitDefEqProofs only [asg, List.set_cons_succ, List.set_cons_zero, okb_cons, okb_nil, okst_ifs, ok_test, ok_or, ok_cmp, ok_v, ok_con, ok_sub, List.getElem?_cons_zero, List.getElem?_cons_succ, es, ok_some]
    refine in_odd p (o x hx g kp) a hl ?_
    simp -implicitDefEqProofs only [truth_bl, ok_some, Bool.false_eq_true, if_false, ok_cmp, ok_v, ok_con, ok_meth, List.getElem?_cons_zero, List.getElem?_cons_succ, recv_cm p (show cRule.cms.contains "free" = true by decide), oki_nil]
    refine (free_ok p).mono fun v g6 ⟨n, e, hn, kp6, c⟩ => ?_
    subst e
    refine in_odd p (o x hx g6 (kp.trans kp6)) c (List.Sublist.refl _) ?_
    simp -implicitDefEqProofs only [truth_bl, ok_some, Bool.false_eq_true, if_false]
    exact ⟨⟨_, rfl⟩, kp.trans kp6⟩
  · rintro e g ⟨⟨x12, rfl⟩, kp⟩
    simp -implicitDefEqProofs only [okb_nil]
    exact ⟨⟨_, _, rfl⟩, (kk5.trans kp).gr B⟩
/-- the last line -/
theorem last (p : RP P) (L : LP P) (B : Bag b s h) {x0 x2 x3 x4 x5 x6 x7 x8 x9 x10 x11 x12 : Option Val} : Ok (evB (cxD P (d + 6)) [ir_law.body.getD 8 .pass] [x0, some (.loc b), x2, x3, x4, x5, x6, x7, x8, x9, x10, x11, x12] h) (RetP fun v g => v = .bl true) := by
  have lb := lim_big
  have l0 : 0 ≤ lim := by omega
  show Ok (evB (cxD P (d + 6)) [.ret (.and (.call "_law_named_right" (.cons (.v 1) .nil)) (.and (.cmp .eq (.bi "len" (.cons (.call "Rule" (.cons (.lst .nil) .nil)) .nil)) (.con (.int 0))) (.cmp .eq (.meth (.call "Rule" (.cons (.tup .nil) .nil)) "situations" .nil) (.lst .nil))))] _ h) _
  simp -implicitDefEqProofs only [okb_cons, okst_ret, ok_and, ok_call, oki_cons, oki_nil, ok_v, List.getElem?_cons_zero, List.getElem?_cons_succ, box_loc, callG_has L.named]
  refine (named_right_ok p L B).mono fun v g1 ⟨e, G1⟩ => ?_
  subst e
  simp -implicitDefEqProofs only [truth_bl, ok_some, if_true, ok_and, ok_cmp, ok_bi, okr_cons, okr_nil, ok_call, oki_cons, oki_nil, ok_lst, List.length_nil, l0, true_and, box_tl]
  have i0 : In11 [] := fun _ hi => absurd hi List.not_mem_nil
  have s0 : Sb [] := List.nil_sublist _
  refine (mk_sb (l := []) (m := []) p (.loc (get_new _)) i0 (by decide) s0 fun x => Iff.rfl).mono fun v g2 ⟨n, e, hn, kp, c⟩ => ?_
  subst e
  refine biE_lenr p c s0 ?_
  have e0 : decide ((([] : List Nat).length : Int) = 0) = true := by decide
  have lv0 : ([] : List Val).length ≤ lim := l0
  simp -implicitDefEqProofs only [ok_con, cmpE_eq, pyEq_int, e0, lv0, some_map, ok_some, truth_bl, if_true, ok_cmp, ok_meth, ok_call, oki_cons, oki_nil, ok_tup, l0, true_and, box_tup]
  refine (mk_sb (l := []) (m := []) p (.tup _) i0 (by decide) s0 fun x => Iff.rfl).mono fun v g3 ⟨n, e, hn, kp, c⟩ => ?_
  subst e
  simp -implicitDefEqProofs only [recv_rule p c (show cRule.meths.contains "situations" = true by decide) (show "situations" ≠ "own_kept" by decide), oki_nil]
  refine (sits_ok p c).mono fun v g ⟨e1, e2⟩ => ?_
  subst e1; have e2 := e2.symm; subst e2
  have ee : pyEq g3 (.tl (S [])) (.tl []) = some true := pyEq_tls g3 i0 i0
  simp -implicitDefEqProofs only [ok_lst, oki_nil, List.length_nil, l0, true_and, cmpE_eq, ee, some_map, ok_some, retP_rt]
end
end Sc
end
section
set_option Elab.async false
set_option linter.all false
set_option maxRecDepth 100000
set_option maxHeartbeats 1000000
set_option autoImplicit false
/-! The law from its first line. -/
namespace Sc
open PySem K31

section
variable {P : Pg} {d : Nat}
theorem ix31 : ixOf 3 1 = some 1 := by decide
theorem law_rest (p : RP P) (L : LP P) (q : RR P) {b s : Nat} {h : Heap} (B : Bag b s h) : Ok (evB (cxD P (d + 6)) (ir_law.body.getD 1 .pass :: ir_law.body.getD 2 .pass :: ir_law.body.getD 3 .pass :: ir_law.body.getD 4 .pass :: ir_law.body.getD 5 .pass :: ir_law.body.getD 6 .pass :: ir_law.body.getD 7 .pass :: [ir_law.body.getD 8 .pass]) [some (.loc 0), some (.loc b), none, none, none, none, none, none, none, none, none, none, none] h) (RetP fun v g => v = .bl true) := by
  have lb := lim_big
  have hlt := B.lt
  -- lots
  rw [okb_cons]
  have s1 : ir_law.body.getD 1 .pass = .set 2 (.lc (.call "_law_kept" (.cons (.v 1) .nil)) (.gen (.v 3) (.rng1 (.con (.int 3))) .nil .nil)) := rfl
  rw [s1]
  have l3 : 3 ≤ lim := by omega
  simp -implicitDefEqProofs only [okst_set, ok_lc1, oks_rng1, ok_con, rng3, ok_some, Tg.slots, wipeE]
  rw [okL_cons rfl]
  simp -implicitDefEqProofs only [asg, List.set_cons_succ, List.set_cons_zero, ok_bind, okt_nil, if_true, ok_call, oki_cons, oki_nil, ok_v, List.getElem?_cons_zero, List.getElem?_cons_succ, box_loc, callG_has L.kept]
  refine keptb_ok L B fun k0 a0 g0 h0 sb0 c0 G0 => ?_
  rw [ok_ok, okL_cons rfl]
  simp -implicitDefEqProofs only [asg, List.set_cons_succ, List.set_cons_zero, ok_bind, okt_nil, if_true, ok_call, oki_cons, oki_nil, ok_v, List.getElem?_cons_zero, List.getElem?_cons_succ, box_loc, callG_has L.kept]
  refine keptb_ok L G0.bag fun k1 a1 g1 h1 sb1 c1 G1 => ?_
  rw [ok_ok, okL_cons rfl]
  simp -implicitDefEqProofs only [asg, List.set_cons_succ, List.set_cons_zero, ok_bind, okt_nil, if_true, ok_call, oki_cons, oki_nil, ok_v, List.getElem?_cons_zero, List.getElem?_cons_succ, box_loc, callG_has L.kept]
  refine keptb_ok L G1.bag fun k2 a2 g2 h2 sb2 c2 G2 => ?_
  rw [ok_ok, okL_nil rfl]
  have G01 := G0.trans G1
  have G02 := G01.trans G2
  have b0 := G0.len
  have b1 := G01.len
  have b2 := G02.len
  have c0' := G2.keep _ _ (by omega) (G1.keep _ _ (by omega) c0)
  have c1' := G2.keep _ _ (by omega) c1
  simp -implicitDefEqProofs only [List.append_nil, List.cons_append, List.nil_append, List.length_cons, List.length_nil, Nat.zero_add, Nat.reduceAdd, l3, true_and, box_tl, List.set_cons_succ, List.set_cons_zero]
  have kp3 := Kp.push g2 [.lst [.loc k0, .loc k1, .loc k2]]
  have cn := get_new (h := g2) (.lst [.loc k0, .loc k1, .loc k2])
  have T0 : Lots b g2.length (f3 k0 k1 k2) (f3 a0 a1 a2) (g2 ++ [.lst [.loc k0, .loc k1, .loc k2]]) := by
    refine ⟨by omega, cn, fun i hi => ?_⟩
    match i, hi with
    | 0, _ => exact ⟨by show k0 ≠ b; omega, kp3.keep _ _ c0', sb0⟩
    | 1, _ => exact ⟨by show k1 ≠ b; omega, kp3.keep _ _ c1', sb1⟩
    | 2, _ => exact ⟨by show k2 ≠ b; omega, kp3.keep _ _ c2, sb2⟩
  have G3 := G02.trans (kp3.gr G02.bag)
  have q0 := (List.getElem?_eq_some_iff.mp c0').1
  have q1 := (List.getElem?_eq_some_iff.mp c1').1
  have q2 := (List.getElem?_eq_some_iff.mp c2).1
  have hn : h.length ≤ g2.length := b2
  generalize g2 ++ [Obj.lst [.loc k0, .loc k1, .loc k2]] = g3 at T0 G3 cn
  generalize g2.length = nl at T0 q0 q1 q2 hn cn
  have B3 := G3.bag
  have n3 := G3.len
  have n3' := B3.lt
  -- perhaps another second lot
  rw [okb_cons]
  have A : Ok (evS (cxD P (d + 6)) (ir_law.body.getD 2 .pass) [some (.loc 0), some (.loc b), some (.loc nl), none, none, none, none, none, none, none, none, none, none] g3) fun fl g => fl = .nx [some (.loc 0), some (.loc b), some (.loc nl), none, none, none, none, none, none, none, none, none, none] ∧ Bag b s g ∧ ∃ kk ll, Lots b nl kk ll g := by
    have s2 : ir_law.body.getD 2 .pass = .ifs (.cmp .eq (.call "_law_draw" (.cons (.v 1) (.cons (.con (.int 3)) .nil))) (.con (.int 0))) [.setI (.v 2) (.con (.int 1)) (.lc (.v 4) (.gen (.v 4) (.it (.sub (.v 2) (.con (.int 0)))) (.cons (.cmp .gt (.call "_law_draw" (.cons (.v 1) (.cons (.con (.int 4)) .nil))) (.con (.int 0))) .nil) .nil))] [] := rfl
    rw [s2, okst_ifs]
    simp -implicitDefEqProofs only [ok_test, ok_cmp, ok_call, oki_cons, oki_nil, ok_v, ok_con, List.getElem?_cons_zero, List.getElem?_cons_succ, box_loc, box_int, callG_has L.draw]
    refine (draw_ok L.draw.fn B3 (by decide) (by decide)).mono fun v g4 ⟨⟨z, ez, _⟩, G4⟩ => ?_
    subst ez
    have T4 := T0.gr G4
    simp -implicitDefEqProofs only [cmpE_eq, pyEq_int, some_map, ok_some, truth_bl]
    by_cases hz : z = 0
    · simp -implicitDefEqProofs only [hz, decide_true, if_true]
      have z0 : (0 : Int) = ((0 : Nat) : Int) := rfl
      have es := sub3 (f3 k0 k1 k2) T4.lots (show 0 < 3 by decide)
      rw [← z0] at es
      have k0e := (T4.each 0 (by decide)).2.1
      rw [okb_cons]
      simp -implicitDefEqProofs only [okst_setI, ok_lc1, oks_it, ok_sub, ok_v, ok_con, List.getElem?_cons_zero, List.getElem?_cons_succ, es, ok_some, itE_loc k0e, Tg.slots, wipeE]
      have k0b : f3 k0 k1 k2 0 ≠ b := (T4.each 0 (by decide)).1
      refine (ok_drawn (w := ⟨S (f3 a0 a1 a2 0), [(f3 k0 k1 k2 0, S (f3 a0 a1 a2 0))]⟩) (fun g => Gr b s g4 g) (fun g i => stays_loc (i.keep _ _ k0b k0e) (same_S _)) (f3 a0 a1 a2 0) g4 (Gr.refl G4.bag) fun i hi g Gg => ?_).mono fun vs g5 ⟨l', e, hs, G5⟩ => ?_
      · simp -implicitDefEqProofs only [asg, List.set_cons_succ, List.set_cons_zero]
        refine drawn_elt (I := fun g => Gr b s g4 g) ?_ rfl
        simp -implicitDefEqProofs only [ok_cmp, ok_call, oki_cons, oki_nil, ok_v, ok_con, List.getElem?_cons_zero, List.getElem?_cons_succ, box_loc, box_int, callG_has L.draw]
        refine (draw_ok L.draw.fn Gg.bag (by decide) (by decide)).mono fun v g' ⟨⟨y, ey, _⟩, G'⟩ => ?_
        subst ey
        simp -implicitDefEqProofs only [cmpE_int, cmp_gt, some_map, ok_some]
        exact ⟨_, rfl, Gg.trans G'⟩
      · subst e
        have sl : Sb l' := hs.trans sb0
        refine ⟨by rw [S_len]; have := sl.len; omega, ?_⟩
        have kp6 := Kp.push g5 [.lst (S l')]
        have c6 := get_new (h := g5) (.lst (S l'))
        have T6 := (T4.gr G5).gr (kp6.gr G5.bag)
        have B6 := (kp6.gr G5.bag).bag
        have n5 : nl < g5.length := (List.getElem?_eq_some_iff.mp (T4.gr G5).lots).1
        have n5' := G5.bag.lt
        have n5s := B6.lts
        have T5 := T4.gr G5
        have u0 := (List.getElem?_eq_some_iff.mp (T5.each 0 (by decide)).2.1).1
        have u2 := (List.getElem?_eq_some_iff.mp (T5.each 2 (by decide)).2.1).1
        simp -implicitDefEqProofs only [box_tl, ok_v, ok_con, List.getElem?_cons_zero, List.getElem?_cons_succ, setIE_lst T6.lots, List.length_cons, List.length_nil, Nat.zero_add, Nat.reduceAdd, ix31, some_map, okb_nil, List.set_cons_succ, List.set_cons_zero]
        have v0 : f3 k0 k1 k2 0 ≠ nl := by show k0 ≠ nl; omega
        have v2 : f3 k0 k1 k2 2 ≠ nl := by show k2 ≠ nl; omega
        refine ⟨trivial, B6.set T6.nb ?_ _, f3 k0 g5.length k2, f3 a0 l' a2, T6.nb, List.getElem?_set_self (List.getElem?_eq_some_iff.mp T6.lots).1, fun i hi => ?_⟩
        · intro q
          obtain ⟨zs, _, _, _, _, _, hs', _⟩ := B6
          rw [← q, T6.lots] at hs'
          have h2 := hs'
          injection h2 with h2
          injection h2 with h2
          cases zs with
          | nil => cases h2
          | cons z r => rw [List.map_cons] at h2; injection h2 with h3; cases h3
        · match i, hi with
          | 0, _ => exact ⟨(T6.each 0 (by decide)).1, by rw [List.getElem?_set_ne (show nl ≠ f3 k0 g5.length k2 0 from Ne.symm v0)]; exact (T6.each 0 (by decide)).2.1, sb0⟩
          | 1, _ => exact ⟨by show g5.length ≠ b; omega, by rw [List.getElem?_set_ne (show nl ≠ f3 k0 g5.length k2 1 from Nat.ne_of_lt n5)]; exact c6, sl⟩
          | 2, _ => exact ⟨(T6.each 2 (by decide)).1, by rw [List.getElem?_set_ne (show nl ≠ f3 k0 g5.length k2 2 from Ne.symm v2)]; exact (T6.each 2 (by decide)).2.1, sb2⟩
    · simp -implicitDefEqProofs only [hz, decide_false, Bool.false_eq_true, if_false, okb_nil, true_and]
      exact ⟨G4.bag, _, _, T4⟩
  refine A.mono fun fl g4 ⟨e, B4, kk, ll, T4⟩ => ?_
  subst e
  clear A
  dsimp only
  -- rules
  rw [okb_cons]
  have s3 : ir_law.body.getD 3 .pass = .set 5 (.lc (.call "_law_made_rule" (.cons (.v 1) (.cons (.v 6) .nil))) (.gen (.v 6) (.it (.v 2)) .nil .nil)) := rfl
  rw [s3]
  have hlt4 := B4.lt
  have sm : Val.same [.loc (kk 0), .loc (kk 1), .loc (kk 2)] [.loc (kk 0), .loc (kk 1), .loc (kk 2)] = true := same_self _ rfl
  obtain ⟨kb0, kc0, ks0⟩ := T4.each 0 (by decide)
  simp -implicitDefEqProofs only [okst_set, ok_lc1, oks_it, ok_v, List.getElem?_cons_zero, List.getElem?_cons_succ, itE_loc T4.lots, ok_some, Tg.slots, wipeE]
  rw [okL_cons (stays_loc T4.lots sm)]
  simp -implicitDefEqProofs only [asg, List.set_cons_succ, List.set_cons_zero, ok_bind, okt_nil, if_true, ok_call, oki_cons, oki_nil, ok_v, List.getElem?_cons_zero, List.getElem?_cons_succ, box_loc, callG_has L.made]
  refine (made_ok p L q B4 kc0 ks0 kb0).mono fun v g5 ⟨r0, e, hr0, G5, ra0⟩ => ?_
  subst e
  have T5 := T4.gr G5
  obtain ⟨kb1, kc1, ks1⟩ := T5.each 1 (by decide)
  simp -implicitDefEqProofs only [box_loc, ok_ok]
  rw [okL_cons (stays_loc T5.lots sm)]
  simp -implicitDefEqProofs only [asg, List.set_cons_succ, List.set_cons_zero, ok_bind, okt_nil, if_true, ok_call, oki_cons, oki_nil, ok_v, List.getElem?_cons_zero, List.getElem?_cons_succ, box_loc, callG_has L.made]
  refine (made_ok p L q G5.bag kc1 ks1 kb1).mono fun v g6 ⟨r1, e, hr1, G6, ra1⟩ => ?_
  subst e
  have T6 := T5.gr G6
  obtain ⟨kb2, kc2, ks2⟩ := T6.each 2 (by decide)
  simp -implicitDefEqProofs only [box_loc, ok_ok]
  rw [okL_cons (stays_loc T6.lots sm)]
  simp -implicitDefEqProofs only [asg, List.set_cons_succ, List.set_cons_zero, ok_bind, okt_nil, if_true, ok_call, oki_cons, oki_nil, ok_v, List.getElem?_cons_zero, List.getElem?_cons_succ, box_loc, callG_has L.made]
  refine (made_ok p L q G6.bag kc2 ks2 kb2).mono fun v g7 ⟨r2, e, hr2, G7, ra2⟩ => ?_
  subst e
  have T7 := T6.gr G7
  simp -implicitDefEqProofs only [box_loc, ok_ok]
  rw [okL_nil (stays_loc T7.lots sm)]
  have m5 := G5.len
  have m6 := G6.len
  have m7 := G7.len
  simp -implicitDefEqProofs only [List.append_nil, List.cons_append, List.nil_append, List.length_cons, List.length_nil, Nat.zero_add, Nat.reduceAdd, l3, true_and, box_tl, List.set_cons_succ, List.set_cons_zero]
  have kp8 := Kp.push g7 [.lst [.loc r0, .loc r1, .loc r2]]
  have G8 := kp8.gr G7.bag
  have T8 : Three b nl g7.length kk (f3 r0 r1 r2) ll (g7 ++ [.lst [.loc r0, .loc r1, .loc r2]]) := by
    have T8 := T7.gr G8
    refine ⟨T8.nb, by omega, T8.lots, get_new _, fun i hi => ?_⟩
    obtain ⟨x1, x2, x3⟩ := T8.each i hi
    match i, hi with
    | 0, _ => exact ⟨x1, by show r0 ≠ b; omega, x2, (ra0.gr (G6.trans G7) (by omega)).kp kp8, x3⟩
    | 1, _ => exact ⟨x1, by show r1 ≠ b; omega, x2, (ra1.gr G7 (by omega)).kp kp8, x3⟩
    | 2, _ => exact ⟨x1, by show r2 ≠ b; omega, x2, ra2.kp kp8, x3⟩
  have B8 := G8.bag
  generalize g7 ++ [Obj.lst [.loc r0, .loc r1, .loc r2]] = g8 at T8 B8
  generalize g7.length = nr at T8
  -- loops
  rw [okb_cons]
  refine (loop1 p L B8 T8).mono fun fl g9 ⟨⟨y3, y7, y8, y9, e⟩, G9⟩ => ?_
  subst e
  dsimp only
  rw [okb_cons]
  refine (loop2 p L G9.bag (T8.gr G9)).mono fun fl g10 ⟨⟨y4, y10, e⟩, G10⟩ => ?_
  subst e
  dsimp only
  have G810 := G9.trans G10
  have St := strange (d := d) (x0 := some (.loc 0)) (x3 := y3) (x4 := y4) (x6 := none) (x7 := y7) (x8 := y8) (x9 := y9) (x10 := y10) (x11 := none) (x12 := none) p G10.bag (T8.gr G810)
  rw [okb_cons] at St
  rw [okb_cons]
  refine St.mono fun fl g11 k => ?_
  cases fl with
  | rt v => obtain ⟨⟨_, _, e⟩, _⟩ := k; cases e
  | bk v => obtain ⟨⟨_, _, e⟩, _⟩ := k; cases e
  | nx e1 =>
    dsimp only at k ⊢
    rw [okb_cons] at k ⊢
    refine k.mono fun fl g12 k => ?_
    cases fl with
    | rt v => obtain ⟨⟨_, _, e⟩, _⟩ := k; cases e
    | bk v => obtain ⟨⟨_, _, e⟩, _⟩ := k; cases e
    | nx e1 =>
      dsimp only at k ⊢
      rw [okb_nil] at k
      obtain ⟨⟨_, _, e⟩, G⟩ := k
      cases e
      exact last p L G.bag
theorem law_whole (p : RP P) (L : LP P) (q : RR P) (hb : Has P "_law_bag" ir_law_bag) (hf : P.fn "" "law" = some ir_law) (zs : List Int) : Ok (run P (d + 7) "" "law" [.loc 0] [.fz (zs.map Val.int)]) fun v g => v = .bl true := by
  refine ok_run hf rfl ?_
  show Ok (evB (cxD P (d + 6)) (ir_law.body.getD 0 .pass :: ir_law.body.getD 1 .pass :: ir_law.body.getD 2 .pass :: ir_law.body.getD 3 .pass :: ir_law.body.getD 4 .pass :: ir_law.body.getD 5 .pass :: ir_law.body.getD 6 .pass :: ir_law.body.getD 7 .pass :: [ir_law.body.getD 8 .pass]) [some (.loc 0), none, none, none, none, none, none, none, none, none, none, none, none] [.fz (zs.map Val.int)]) _
  have lb := lim_big
  have l5 : 5 ≤ lim := by omega
  have bag : ∀ h : Heap, h[0]? = some (.fz (zs.map Val.int)) → Ok (run P (d + 6) "" "_law_bag" [.loc 0] h) fun v g => v = .tl [.loc h.length, .int 0, .int 0, .int 17, .int 0] ∧ g = h ++ [.lst (zs.map Val.int)] := fun h h0 => by
    refine ok_run hb.fn rfl ?_
    show Ok (evB (cxD P (d + 5)) ir_law_bag.body [some (.loc 0)] h) _
    unfold ir_law_bag
    dsimp only
    simp -implicitDefEqProofs only [okb_cons, okst_ret, ok_lst, oki_cons, oki_nil, ok_bi, okr_cons, okr_nil, ok_v, ok_con, List.getElem?_cons_zero, biE_listf h0, ok_ok, box_tl, box_int, List.length_cons, List.length_nil, Nat.zero_add, Nat.reduceAdd, l5, true_and, retP_rt, and_self]
  rw [okb_cons]
  have s0 : ir_law.body.getD 0 .pass = .set 1 (.call "_law_bag" (.cons (.v 0) .nil)) := rfl
  rw [s0]
  simp -implicitDefEqProofs only [okst_set, ok_call, oki_cons, oki_nil, ok_v, List.getElem?_cons_zero, box_loc, callG_has hb]
  refine (bag _ rfl).mono fun v g ⟨e1, e2⟩ => ?_
  subst e1; subst e2
  simp -implicitDefEqProofs only [box_tl, List.set_cons_succ, List.set_cons_zero]
  have B : Bag 2 1 ([Obj.fz (zs.map Val.int)] ++ [Obj.lst (zs.map Val.int)] ++ [Obj.lst [.loc ([Obj.fz (zs.map Val.int)] : Heap).length, .int 0, .int 0, .int 17, .int 0]]) := ⟨zs, 0, 0, 17, 0, rfl, rfl, by decide, by decide⟩
  have eb : ([Obj.fz (zs.map Val.int)] ++ [Obj.lst (zs.map Val.int)] : Heap).length = 2 := rfl
  rw [eb]
  generalize [Obj.fz (zs.map Val.int)] ++ [Obj.lst (zs.map Val.int)] ++ [Obj.lst [.loc ([Obj.fz (zs.map Val.int)] : Heap).length, .int 0, .int 0, .int 17, .int 0]] = h at B
  exact law_rest p L q B
end
end Sc
end
section
set_option Elab.async false
set_option linter.all false
set_option maxRecDepth 100000
set_option maxHeartbeats 0
set_option autoImplicit false
namespace Sc
open PySem PySem.Spec PyProof.Rows L2
namespace K31
def T : Tb := ⟨fnT, conT, clsT, ["NoneType", "bool", "int", "str", "tuple", "list", "dict", "Rule"]⟩
abbrev pw : Program := PySem.Challenge.pw_suncalls_k31_rules_and_situations
abbrev rw : PySem.W.OpenLaw := PySem.Challenge.rw_suncalls_k31_rules_and_situations
def top (i : Nat) : Stmt := pw.main.body.getD i (.Pass ⟨0, 0, 0, 0⟩)
def cbody : Stmt → List Stmt
  | .ClassDef _ _ _ b _ _ _ _ _ _ _ => b
  | _ => []
def mth (i j : Nat) : Stmt := (cbody (top i)).getD j (.Pass ⟨0, 0, 0, 0⟩)
def mkD (C m : String) (ir : FnI) (qual : String) (st : Stmt) : DefE := ⟨C, m, ir, Str.ofString m, Str.ofString qual, L2.defArgs st, L2.defBody st, L2.defScope st⟩
def ds : List DefE := [
  mkD "" "_wall" ir_wall "_wall" (top 0),
  mkD "" "is_row" ir_is_row "is_row" (top 6),
  mkD "" "is_situation" ir_is_situation "is_situation" (top 12),
  mkD "" "words_of" ir_words_of "words_of" (top 13),
  mkD "" "written" ir_written "written" (top 14),
  mkD "" "meant" ir_meant "meant" (top 15),
  mkD "" "read_one" ir_read_one "read_one" (top 16),
  mkD "" "read_both" ir_read_both "read_both" (top 17),
  mkD "" "read_either" ir_read_either "read_either" (top 18),
  mkD "Rule" "__init__" ir_RuleX_initX "Rule.__init__" (mth 19 0),
  mkD "Rule" "new" ir_Rule_new "Rule.new" (mth 19 1),
  mkD "Rule" "once" ir_Rule_once "Rule.once" (mth 19 2),
  mkD "Rule" "each_way" ir_Rule_each_way "Rule.each_way" (mth 19 3),
  mkD "Rule" "free" ir_Rule_free "Rule.free" (mth 19 4),
  mkD "Rule" "read" ir_Rule_read "Rule.read" (mth 19 5),
  mkD "Rule" "situations" ir_Rule_situations "Rule.situations" (mth 19 6),
  mkD "Rule" "__len__" ir_RuleX_lenX "Rule.__len__" (mth 19 7),
  mkD "Rule" "__contains__" ir_RuleX_containsX "Rule.__contains__" (mth 19 8),
  mkD "Rule" "lets" ir_Rule_lets "Rule.lets" (mth 19 9),
  mkD "Rule" "__call__" ir_RuleX_callX "Rule.__call__" (mth 19 10),
  mkD "Rule" "calls" ir_Rule_calls "Rule.calls" (mth 19 11),
  mkD "Rule" "is_over" ir_Rule_is_over "Rule.is_over" (mth 19 12),
  mkD "Rule" "__and__" ir_RuleX_andX "Rule.__and__" (mth 19 13),
  mkD "Rule" "__or__" ir_RuleX_orX "Rule.__or__" (mth 19 14),
  mkD "Rule" "__invert__" ir_RuleX_invertX "Rule.__invert__" (mth 19 15),
  mkD "Rule" "same" ir_Rule_same "Rule.same" (mth 19 16),
  mkD "Rule" "within" ir_Rule_within "Rule.within" (mth 19 17),
  mkD "Rule" "text" ir_Rule_text "Rule.text" (mth 19 18),
  mkD "Rule" "first_not_let" ir_Rule_first_not_let "Rule.first_not_let" (mth 19 19),
  mkD "Rule" "kept_by" ir_Rule_kept_by "Rule.kept_by" (mth 19 20),
  mkD "" "_law_bag" ir_law_bag "_law_bag" (top 21),
  mkD "" "_law_draw" ir_law_draw "_law_draw" (top 22),
  mkD "" "_law_mixed" ir_law_mixed "_law_mixed" (top 23),
  mkD "" "_law_situations" ir_law_situations "_law_situations" (top 24),
  mkD "" "_law_kept" ir_law_kept "_law_kept" (top 25),
  mkD "" "_law_made_rule" ir_law_made_rule "_law_made_rule" (top 26),
  mkD "" "_law_asked" ir_law_asked "_law_asked" (top 27),
  mkD "" "_law_named_right" ir_law_named_right "_law_named_right" (top 28),
  mkD "" "_law_two_right" ir_law_two_right "_law_two_right" (top 29),
  mkD "" "law" ir_law "law" (top 30)]
def lawAt : Nat := 30
def loose : List Str := ["_wall", "CallError", "BadText", "BadRule", "is_row", "TIES", "PARTS", "SITUATIONS", "DEEPEST", "is_situation", "words_of", "written", "meant", "read_one", "read_both", "read_either", "Rule", "_law_bag", "_law_draw", "_law_mixed", "_law_situations", "_law_kept", "_law_made_rule", "_law_asked", "_law_named_right", "_law_two_right"]
def hop : Nat := 5
def steps : Nat := 6000
def depth : Nat := 30

theorem chk : (ds.all fun d => defOk T.pg d) = true := by decide +kernel
theorem tbl : T.fns = ds.map fun d => ((d.C, d.m), d.ir) := rfl
theorem head_run (w : World) : HandSHeadRun.RunEq (PySem.W.OpenLaw.row rw) (PySem.W.view (PySem.W.OpenLaw.row rw).prog [30]) (hookS hop T ds) (obT hop T ds) steps loose w := by
  intro os
  kernel_rfl
end K31
end Sc
end
section
set_option Elab.async false
set_option linter.all false
set_option maxRecDepth 100000
set_option maxHeartbeats 0
set_option autoImplicit false
namespace Sc
namespace K31
theorem has_rp : RP T.pg := ⟨by rfl, by rfl, ⟨by rfl, by rfl, by rfl⟩, ⟨by rfl, by rfl, by rfl⟩, by rfl, by rfl, by rfl, by rfl, by rfl, by rfl, by rfl, by rfl, by rfl, by rfl, by rfl, by rfl, by rfl, by rfl, by rfl⟩
theorem has_lp : LP T.pg := ⟨⟨by rfl, by rfl, by rfl⟩, ⟨by rfl, by rfl, by rfl⟩, ⟨by rfl, by rfl, by rfl⟩, ⟨by rfl, by rfl, by rfl⟩, ⟨by rfl, by rfl, by rfl⟩, ⟨by rfl, by rfl, by rfl⟩, ⟨by rfl, by rfl, by rfl⟩, ⟨by rfl, by rfl, by rfl⟩⟩
theorem has_rr : RR T.pg := ⟨⟨by rfl, by rfl, by rfl⟩, ⟨by rfl, by rfl, by rfl⟩, ⟨by rfl, by rfl, by rfl⟩, ⟨by rfl, by rfl, by rfl⟩, ⟨by rfl, by rfl, by rfl⟩, ⟨by rfl, by rfl, by rfl⟩, by rfl, by rfl, by rfl⟩
theorem law_ok : ∀ zs : List Int, zs.length ≤ 63 → ∃ g, run T.pg (depth + 1) "" "law" [.loc 0] [.fz (zs.map Val.int)] = .ok (.bl true) g := fun zs _ => by
  have k := law_whole (P := T.pg) (d := 24) has_rp has_lp has_rr ⟨by rfl, by rfl, by rfl⟩ (by rfl) zs
  cases e : run T.pg (24 + 7) "" "law" [.loc 0] [.fz (zs.map Val.int)] with
  | ok v g => rw [e] at k; have k : v = .bl true := k; subst k; exact ⟨g, e⟩
  | ex v g => rw [e] at k; exact absurd k id
  | no => rw [e] at k; exact absurd k id
end K31
end Sc
open PySem PySem.W PySem.Calls PyProof.Rows
theorem PySem.Challenge.cw_suncalls_k31_rules_and_situations_holds : PySem.Challenge.rw_suncalls_k31_rules_and_situations.Holds := by
  w_on; o_law
  refine HandSHeadRun.head_any (r := OpenLaw.row Sc.K31.rw) (q := view (OpenLaw.row Sc.K31.rw).prog [30]) (H := Sc.hookS Sc.K31.hop Sc.K31.T Sc.K31.ds) (ob := Sc.obT Sc.K31.hop Sc.K31.T Sc.K31.ds) (M := Sc.K31.steps) (loose := Sc.K31.loose) (d := HandSHeadRun.topDef (OpenLaw.row Sc.K31.rw).prog 30) (kwd := []) (Sc.obT_eq _ _ _)
    (by kernel_rfl) (fun s => by kernel_rfl) Sc.K31.head_run (by kernel_rfl) (by kernel_rfl) (by kernel_rfl) (by rfl) (by first | assumption | decide +kernel) (by decide +kernel) ⟨rfl, rfl, rfl, rfl, rfl, by decide +kernel⟩ ?hw ?hc
  case hw => w_witness2
  case hc => exact Sc.law_walk (D := Sc.K31.depth) (dl := Sc.K31.mkD "" "law" Sc.K31.ir_law "law" (Sc.K31.top 30)) rfl (by kernel_rfl) ⟨rfl, by decide, by decide⟩ (by kernel_rfl) Sc.K31.chk Sc.K31.tbl (by simp [Sc.K31.ds]) rfl rfl rfl (by rfl) Sc.K31.law_ok
end
