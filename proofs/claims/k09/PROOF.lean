import PyProof.Rows.All
import Wide.All
import OpenK.AllK
import Wide.FinOn
import HandS.ForMost
import HandS.Deep
import KE.SortData
import PyProof.ReprReads
import PyProof.StrBlock2
import HandS.Lambda
import HandS.TupSets
import HandS.Strs
import HandS.Exc
import HandS.TupAny
import HandS.TupLe
import HandS.Text
import PyProof.StrOps2
import PyProof.P3In
import HandS.SetBool
import HandS.SetFor
import HandS.Dict
import PyProof.Rows.InDataRows
import HandS.ListItems
import HandS.Remove
import HandS.More
import HandS.Flow
import HandS.ExcOwn
import KE.GoesEnum
import KE.GoesMore
import HandS.Zip0
import HandS.Zip
import HandS.Iter
import HandS.TryOnly
import HandS.Style
import HandS.DictComp
import HandS.AnyAll
import HandS.GenList
import PyProof.TupleOfGen
import HandS.Conv
import HandS.Defaults
import HandS.Head2
import HandS.HeadHook4
import HandS.EndBits
import PySem.Challenge.RW_whatwould_k09_whole_what_apart_says_of_a
set_option Elab.async false
set_option linter.all false
set_option autoImplicit false
set_option maxRecDepth 100000
set_option maxHeartbeats 0
/-! EvA: an evaluator over pure data for a part of Python (own work). -/
namespace EV
open PySem (Str PyData)

inductive O2 where | add | sub | mul | mod | fdiv | pow
  deriving DecidableEq, Repr
inductive Cp where | eq | ne | lt | le | gt | ge | isin | notin | is_ | isnot
  deriving DecidableEq, Repr
inductive Bf where | len | tuple | list | sorted | int | max | min | sum | repr | abs | str
  deriving DecidableEq, Repr
inductive Mt where | append | remove | pop | extend
  deriving DecidableEq, Repr
inductive Ty where | int | bool | str | tuple | list | dict
  deriving DecidableEq, Repr
inductive Gk where | list | tuple | all | any | sset
  deriving DecidableEq, Repr

mutual
inductive Tg where
  | n (i : Nat)
  | t (ts : Tgs)
  deriving Repr
inductive Tgs where
  | nil
  | cons (t : Tg) (ts : Tgs)
  deriving Repr
end

mutual
inductive E where
  | var (i : Nat)
  | int (i : Int)
  | str (s : Str)
  | bool (b : Bool)
  | none
  | con (k : Nat)
  | tup (es : Es)
  | lst (es : Es)
  | dict (kvs : Kvs)
  | bin (o : O2) (a b : E)
  | cmp (o : Cp) (a b : E)
  | cmp2 (o p : Cp) (a b c : E)
  | and (a b : E)
  | or (a b : E)
  | not (a : E)
  | neg (a : E)
  | ite (c a b : E)
  | idx (a b : E)
  | slc (a : E) (lo hi : Eo)
  | call (f : Nat) (es : Es)
  | calll (f : Nat) (es : Es) (ps : List Nat) (caps : List Nat) (body : E)
  | callv (i : Nat) (es : Es)
  | bf (b : Bf) (es : Es)
  | isi (a : E) (t : Ty)
  | mt (m : Mt) (o : E) (es : Es)
  | set0
  | sadd (o a : E)
  | sset (a : E)
  | gen (k : Gk) (s : Sr) (t : Tg) (own : List Nat) (ifs : Es) (elt : E)
  | dgen (s : Sr) (t : Tg) (own : List Nat) (ifs : Es) (ke ve : E)
  deriving Repr
inductive Es where
  | nil
  | cons (e : E) (es : Es)
  deriving Repr
inductive Kvs where
  | nil
  | cons (k v : E) (r : Kvs)
  deriving Repr
inductive Eo where
  | none
  | some (e : E)
  deriving Repr
inductive Sr where
  | e (a : E)
  | rng1 (a : E)
  | rng2 (a b : E)
  | enum (a : E)
  | zip (a b : E)
  deriving Repr
end

mutual
inductive S where
  | set (i : Nat) (e : E)
  | unp (t : Tg) (e : E)
  | par (is : List Nat) (es : Es)
  | seti (o i e : E)
  | expr (e : E)
  | ret (e : E)
  | ite (c : E) (a b : Ss)
  | forr (t : Tg) (s : Sr) (b : Ss)
  | while (c : E) (b : Ss)
  | brk
  | cont
  | pass
  | never
  deriving Repr
inductive Ss where
  | nil
  | cons (s : S) (ss : Ss)
  deriving Repr
end

/-- pure data; loc: a place of the store; fn: an own def; clo: a lambda with what it captured -/
inductive D where
  | none
  | bool (b : Bool)
  | int (i : Int)
  | str (s : Str)
  | tup (ds : List D)
  | loc (n : Nat)
  | fn (k : Nat)
  | clo (ps : List Nat) (body : E) (w : List (Option D))

abbrev Env := List (Option D)
/-- what stands at a place: a list, a list that is only read (the script), a dict -/
inductive O where
  | lst (xs : List D)
  | ro (xs : List D)
  | dct (kvs : List (D × D))
  | tset (ks : List (List Int))
  | iset (ks : List Int)

abbrev Sto := List O
def Sto.get (s : Sto) (n : Nat) : Option O := s[n]?
def Sto.put (s : Sto) (n : Nat) (o : O) : Sto := s.set n o
def Sto.push (s : Sto) (o : O) : Sto := s ++ [o]
def Sto.nxt (s : Sto) : Nat := s.length

/-- what an evaluation tells -/
inductive R (α : Type) where
  | ok (a : α) (s : Sto)
  | bad
def R.bind {α β : Type} : R α → (α → Sto → R β) → R β
  | .ok a s, f => f a s
  | .bad, _ => .bad
def R.ofO {α : Type} (o : Option α) (s : Sto) : R α := match o with
  | some a => .ok a s
  | none => .bad
/-- an exception: which class of one's own, its fields -/
structure Xc where
  k : Nat
  fs : List (Str × D)
/-- what running tells: a value, an exception, or nothing -/
inductive M (α : Type) where
  | ok (a : α) (s : Sto)
  | exc (x : Xc) (s : Sto)
  | bad
def M.bind {α β : Type} : M α → (α → Sto → M β) → M β
  | .ok a s, f => f a s
  | .exc x s, _ => .exc x s
  | .bad, _ => .bad
def R.up {α : Type} : R α → M α
  | .ok a s => .ok a s
  | .bad => .bad
/-- no exception comes out -/
def M.calm {α : Type} : M α → M α
  | .ok a s => .ok a s
  | _ => .bad
def M.ofO {α : Type} (o : Option α) (s : Sto) : M α := match o with
  | some a => .ok a s
  | none => .bad

/-! ### data read -/
/-- the items of a list or a tuple -/
def D.items (s : Sto) : D → Option (List D)
  | .tup ds => some ds
  | .loc k => match s.get k with
    | some (.lst xs) => some xs
    | some (.ro xs) => some xs
    | _ => Option.none
  | _ => Option.none
/-- data, lists of the store told as lists; n: so deep at most -/
def D.read (s : Sto) : Nat → D → Option PyData
  | 0, _ => Option.none
  | n + 1, d => match d with
    | .none => some .none
    | .bool b => some (.bool b)
    | .int i => some (.int i)
    | .str z => some (.str z)
    | .tup ds => (ds.mapM (D.read s n)).map .tuple
    | .loc k => match s.get k with
      | some (.lst xs) => (xs.mapM (D.read s n)).map .list
      | some (.ro xs) => (xs.mapM (D.read s n)).map .list
      | _ => Option.none
    | _ => Option.none
def deep : Nat := 20
def D.rd (s : Sto) (d : D) : Option PyData := match D.read s deep d with
  | some p => if PySem.SeqAt.shaped p then some p else Option.none
  | Option.none => Option.none
def inLine (n : Nat) : Bool := decide (n ≤ PySem.sizeLine)

def D.truth (s : Sto) : D → Option Bool
  | .none => some false
  | .bool b => some b
  | .int i => some (i != 0)
  | .str x => if inLine x.length then some (x.length != 0) else Option.none
  | .tup ds => some (!ds.isEmpty)
  | .loc k => match s.get k with
    | some (.lst xs) => some (!xs.isEmpty)
    | some (.ro xs) => some (!xs.isEmpty)
    | some (.dct kvs) => some (!kvs.isEmpty)
    | _ => Option.none
  | _ => Option.none

def mkList (xs : List D) (s : Sto) : R D := if inLine xs.length then .ok (.loc s.nxt) (s.push (.lst xs)) else .bad
def mkTup (xs : List D) (s : Sto) : R D := if inLine xs.length then .ok (.tup xs) s else .bad

def small (i : Int) : Bool := decide (-(2 ^ 64) < i ∧ i < 2 ^ 64)
def o2 (o : O2) (x y : D) (s : Sto) : R D := match o, x, y with
  | .add, .int i, .int j => .ok (.int (i + j)) s
  | .add, .str a, .str b => if inLine (a.length + b.length) then .ok (.str (a ++ b)) s else .bad
  | .add, .tup xs, .tup ys => mkTup (xs ++ ys) s
  | .add, .loc k, .loc l => match s.get k, s.get l with
    | some (.lst xs), some (.lst ys) => mkList (xs ++ ys) s
    | _, _ => .bad
  | .sub, .int i, .int j => .ok (.int (i - j)) s
  | .mul, .int i, .int j => if small i || small j then .ok (.int (i * j)) s else .bad
  | .mul, .str x, .int n => if 0 ≤ n ∧ n < 1073741824 ∧ x.length * n.toNat ≤ PySem.sizeLine ∧ x.length < 1073741824 then .ok (.str (PySem.Txt.mul x n)) s else .bad
  | .mod, .int i, .int j => if j = 0 then .bad else .ok (.int (i.fmod j)) s
  | .fdiv, .int i, .int j => if j ≠ 0 ∧ j.natAbs < 1073741824 then .ok (.int (i.fdiv j)) s else .bad
  | .pow, .int i, .int j => if 0 ≤ j ∧ j ≤ 1000000 ∧ i.natAbs < 2 ^ 64 then .ok (.int (i ^ j.toNat)) s else .bad
  | _, _, _ => .bad

def eqD (x y : D) (s : Sto) : Option Bool := match x.rd s, y.rd s with
  | some p, some q => some (PyData.eqv p q)
  | _, _ => none
/-- a key of a dict: an int or a text -/
def D.key : D → Option L2.Key
  | .int i => some (.inl i)
  | .str x => some (.inr x)
  | _ => Option.none
def keyD (k : L2.Key) : D := match k with
  | .inl i => .int i
  | .inr x => .str x
def D.same : D → D → Bool
  | .int i, .int j => decide (i = j)
  | .str x, .str y => decide (x = y)
  | _, _ => false
def lookD (k : D) : List (D × D) → Option D
  | [] => none
  | (q, v) :: r => if D.same q k then some v else lookD k r
def putD (k v : D) (kvs : List (D × D)) : List (D × D) := if kvs.any (fun p => D.same p.1 k) then kvs.map (fun p => if D.same p.1 k then (p.1, v) else p) else kvs ++ [(k, v)]
/-- tuples of whole numbers -/
def D.ints : List D → Option (List Int)
  | [] => some []
  | .int i :: r => (D.ints r).map (i :: ·)
  | _ :: _ => Option.none
def D.tk : D → Option (List Int)
  | .tup ds => D.ints ds
  | _ => Option.none
def isIn (x y : D) (s : Sto) : Option Bool := match y with
  | .str z => match x with
    | .str a => if a.length = 1 then some (decide (a.cps.getD 0 0 ∈ z.cps.toList)) else none
    | _ => none
  | .tup ds => match x.rd s, (D.tup ds).rd s with
    | some p, some (.tuple qs) => some (qs.any fun z => PyData.eqv z p)
    | _, _ => none
  | .loc k => match s.get k with
    | some (.dct kvs) => match x.key with
      | some _ => some (lookD x kvs).isSome
      | none => none
    | some (.tset ks) => x.tk.map fun k => decide (k ∈ ks)
    | _ => match x.rd s, (D.loc k).rd s with
      | some p, some (.list qs) => some (qs.any fun z => PyData.eqv z p)
      | _, _ => none
  | _ => none
def lexLt : List Int → List Int → Bool
  | [], [] => false
  | [], _ :: _ => true
  | _ :: _, [] => false
  | x :: xs, y :: ys => if x = y then lexLt xs ys else decide (x < y)
def ordD (o : Cp) (x y : D) : Option Bool := match x, y with
  | .int i, .int j => match o with
    | .lt => some (decide (i < j))
    | .le => some (decide (i ≤ j))
    | .gt => some (decide (j < i))
    | .ge => some (decide (j ≤ i))
    | _ => none
  | .tup xs, .tup ys => match D.ints xs, D.ints ys with
    | some a, some b => match o with
      | .lt => some (lexLt a b)
      | .le => some (!lexLt b a)
      | .gt => some (lexLt b a)
      | .ge => some (!lexLt a b)
      | _ => none
    | _, _ => none
  | _, _ => none
def D.isN : D → Bool
  | .none => true
  | _ => false
def cpO (o : Cp) (x y : D) (s : Sto) : Option Bool := match o with
  | .eq => eqD x y s
  | .ne => (eqD x y s).map (!·)
  | .isin => isIn x y s
  | .notin => (isIn x y s).map (!·)
  | .is_ => match y with
    | .none => some x.isN
    | _ => none
  | .isnot => match y with
    | .none => some (!x.isN)
    | _ => none
  | o => ordD o x y
def cp (o : Cp) (x y : D) (s : Sto) : R D := match cpO o x y s with
  | some b => .ok (.bool b) s
  | none => .bad

def atI (xs : List D) (i : Int) : Option D := L2.atI xs i
def ix (x y : D) (s : Sto) : R D := match x, y with
  | .tup ds, .int i => .ofO (atI ds i) s
  | .str z, .int i => if inLine z.length then .ofO ((L2.atI z.cps.toList i).map fun c => .str ⟨#[c]⟩) s else .bad
  | .loc k, y => match s.get k, y with
    | some (.lst xs), .int i => .ofO (atI xs i) s
    | some (.ro xs), .int i => .ofO (atI xs i) s
    | some (.dct kvs), y => match y.key with
      | some _ => .ofO (lookD y kvs) s
      | none => .bad
    | _, _ => .bad
  | _, _ => .bad
def cut (xs : List D) (lo hi : Option Int) : List D := (xs.drop (HT.sIx xs.length 0 lo)).take (HT.sIx xs.length xs.length hi - HT.sIx xs.length 0 lo)
def slice (x : D) (lo hi : Option Int) (s : Sto) : R D := match x with
  | .tup ds => .ok (.tup (cut ds lo hi)) s
  | .loc k => match s.get k with
    | some (.lst xs) => mkList (cut xs lo hi) s
    | some (.ro xs) => mkList (cut xs lo hi) s
    | _ => .bad
  | _ => .bad
def D.isTy (s : Sto) : D → Option Ty
  | .bool _ => some .bool
  | .int _ => some .int
  | .str _ => some .str
  | .tup _ => some .tuple
  | .loc k => match s.get k with
    | some (.lst _) => some .list
    | some (.ro _) => some .list
    | some (.dct _) => some .dict
    | _ => Option.none
  | _ => Option.none
def isi (x : D) (t : Ty) (s : Sto) : R D := match x with
  | .none => .ok (.bool false) s
  | x => match x.isTy s with
    | some u => .ok (.bool (decide (u = t) || (decide (u = .bool) && decide (t = .int)))) s
    | none => .bad

/-- sorted: the data with what it reads as -/
def sortD (xs : List D) (s : Sto) : Option (List D) := match xs.mapM fun d => (d.rd s).map fun p => (d, p) with
  | some ps => if (ps.all fun p => ps.all fun q => PySem.W.alike p.2 q.2) && ((ps.all fun p => match p.2 with
      | .tuple (_ :: _) => true
      | _ => false) || (ps.all fun p => match p.2 with
      | .int _ => true
      | .str _ => true
      | _ => false)) && inLine ps.length then some ((ps.mergeSort fun a b => !PySem.W.dataLt b.2 a.2).map (·.1)) else none
  | none => none
def best (p : Int → Int → Bool) : List Int → Option Int
  | [] => none
  | x :: r => some (r.foldl (fun a y => if p y a then y else a) x)
/-- whole numbers, ascending -/
def sortI (ns : List Int) : List Int := ns.mergeSort fun a b => decide (a ≤ b)
/-- sorted(set(x)), x of whole numbers -/
def ssetD (x : D) (s : Sto) : R D := match x.items s with
  | some ys => match D.ints ys with
    | some ns => if ns.length ≤ 900 ∧ ns.eraseDups.length ≤ 60 then mkList ((sortI ns.eraseDups).map .int) s else .bad
    | none => .bad
  | none => .bad
def bf (b : Bf) (xs : List D) (s : Sto) : R D := match b, xs with
  | .len, [.str x] => if inLine x.length then .ok (.int x.length) s else .bad
  | .len, [.tup ds] => .ok (.int ds.length) s
  | .len, [.loc k] => match s.get k with
    | some (.lst ys) => .ok (.int ys.length) s
    | some (.ro ys) => .ok (.int ys.length) s
    | _ => .bad
  | .tuple, [x] => match x.items s with
    | some ys => .ok (.tup ys) s
    | none => .bad
  | .list, [x] => match x.items s with
    | some ys => mkList ys s
    | none => .bad
  | .sorted, [.loc k] => match s.get k with
    | some (.lst ys) => match sortD ys s with
      | some zs => mkList zs s
      | none => .bad
    | some (.dct kvs) => match sortD (kvs.map (·.1)) s with
      | some zs => mkList zs s
      | none => .bad
    | _ => .bad
  | .sorted, [.tup ds] => match sortD ds s with
      | some zs => mkList zs s
      | none => .bad
  | .int, [.int i] => .ok (.int i) s
  | .repr, [x] => match x.rd s with
    | some p => if p.showable && inLine p.shown.length then .ok (.str p.shown) s else .bad
    | none => .bad
  | .max, [.int i, .int j] => .ok (.int (if j > i then j else i)) s
  | .min, [.int i, .int j] => .ok (.int (if j < i then j else i)) s
  | .max, [.loc k] => match s.get k with
    | some (.lst ys) => .ofO ((D.ints ys).bind fun ns => (best (fun a b => decide (b < a)) ns).map .int) s
    | _ => .bad
  | .min, [.loc k] => match s.get k with
    | some (.lst ys) => .ofO ((D.ints ys).bind fun ns => (best (fun a b => decide (a < b)) ns).map .int) s
    | _ => .bad
  | _, _ => .bad
def mt (m : Mt) (x : D) (xs : List D) (s : Sto) : R D := match x with
  | .loc k => match s.get k with
    | some (.lst ys) => match m, xs with
      | .append, [d] => if ys.length < PySem.sizeLine then .ok .none (s.put k (.lst (ys ++ [d]))) else .bad
      | .pop, [] => match ys[ys.length - 1]? with
        | some d => .ok d (s.put k (.lst ys.dropLast))
        | none => .bad
      | .extend, [.loc l] => match s.get l with
        | some (.lst zs) => if k ≠ l ∧ ys.length + zs.length ≤ PySem.sizeLine then .ok .none (s.put k (.lst (ys ++ zs))) else .bad
        | _ => .bad
      | .remove, [.int i] => match D.ints ys with
        | some ns => if i ∈ ns then .ok .none (s.put k (.lst ((ns.erase i).map .int))) else .bad
        | none => .bad
      | _, _ => .bad
    | _ => .bad
  | _ => .bad
/-- set(), of tuples of whole numbers -/
def freshSet (s : Sto) : R D := .ok (.loc s.nxt) (s.push (.tset []))
def isSet (d : D) (s : Sto) : M Unit := match d with
  | .loc k => match s.get k with
    | some (.tset _) => .ok () s
    | _ => .bad
  | _ => .bad
def addSet (x d : D) (s : Sto) : R D := match x with
  | .loc k => match s.get k with
    | some (.tset ks) => match d.tk with
      | some q => if ks.length < 60 then .ok .none (s.put k (.tset (if q ∈ ks then ks else q :: ks))) else .bad
      | none => .bad
    | _ => .bad
  | _ => .bad
def setIt (o i v : D) (s : Sto) : R Unit := match o with
  | .loc k => match s.get k with
    | some (.lst xs) => match i with
      | .int n => match L2.ixN xs.length n with
        | some j => .ok () (s.put k (.lst (xs.set j v)))
        | none => .bad
      | _ => .bad
    | some (.dct kvs) => match i.key with
      | some _ => if kvs.length < PySem.sizeLine then .ok () (s.put k (.dct (putD i v kvs))) else .bad
      | none => .bad
    | _ => .bad
  | _ => .bad

mutual
def Tg.slots : Tg → List Nat
  | .n i => [i]
  | .t ts => Tgs.slots ts
def Tgs.slots : Tgs → List Nat
  | .nil => []
  | .cons t ts => Tg.slots t ++ Tgs.slots ts
end
mutual
/-- a target: the slots that it sets -/
def asg : Tg → D → Env → Option Env
  | .n i, d, ρ => some (ρ.set i (some d))
  | .t ts, .tup ds, ρ => asgs ts ds ρ
  | .t _, _, _ => none
def asgs : Tgs → List D → Env → Option Env
  | .nil, [], ρ => some ρ
  | .cons t ts, d :: ds, ρ => match asg t d ρ with
    | some ρ' => asgs ts ds ρ'
    | none => none
  | _, _, _ => none
end
/-- a, b = e: e a tuple or a list -/
def unp (t : Tg) (d : D) (ρ : Env) (s : Sto) : Option Env := match d with
  | .loc k => match t, s.get k with
    | .t ts, some (.lst xs) => asgs ts xs ρ
    | _, _ => none
  | d => asg t d ρ
/-- slots forgotten -/
def wipe (ρ : Env) : List Nat → Env
  | [] => ρ
  | v :: vs => (wipe ρ vs).set v none
/-- the slots that are kept -/
def keepOnly (ρ : Env) (caps : List Nat) : Env := (List.range ρ.length).map fun i => if i ∈ caps then (ρ[i]?).join else none
def D.isClo : D → Bool
  | .clo _ _ _ => true
  | _ => false
def D.isFn : D → Bool
  | .clo _ _ _ => true
  | .fn _ => true
  | _ => false
/-- what a walk goes through; a list's place with its items -/
abbrev Walk := List D × Option (Nat × List D)
def walkOf (x : D) (s : Sto) : Option Walk := match x with
  | .tup ds => some (ds, none)
  | .str z => some (z.cps.toList.map fun c => .str ⟨#[c]⟩, none)
  | .loc k => match s.get k with
    | some (.lst xs) => some (xs, some (k, xs))
    | some (.ro xs) => some (xs, some (k, xs))
    | _ => none
  | _ => none
def rngOk (i : Int) : Bool := Nat.ble i.natAbs 4611686018427387903
theorem rngOk_iff {i : Int} : rngOk i = true ↔ -(2 ^ 62) < i ∧ i < 2 ^ 62 := by
  unfold rngOk
  rw [Nat.ble_eq]
  omega
theorem rngOk_of {i : Int} (h : rngOk i = true) : -(2 ^ 62) ≤ i ∧ i < 2 ^ 62 := by
  have := rngOk_iff.mp h
  omega
def rngs (lo : Int) (n : Nat) : List D := (List.range n).map fun (k : Nat) => D.int (lo + (k : Int))
def enums (xs : List D) : List D := xs.zipIdx.map fun p => D.tup [.int (p.2 : Nat), p.1]
mutual
def D.eqb : D → D → Bool
  | .none, .none => true
  | .bool a, .bool b => a == b
  | .int a, .int b => decide (a = b)
  | .str a, .str b => decide (a = b)
  | .tup a, .tup b => D.eqbs a b
  | .loc a, .loc b => decide (a = b)
  | .fn a, .fn b => decide (a = b)
  | _, _ => false
def D.eqbs : List D → List D → Bool
  | [], [] => true
  | x :: xs, y :: ys => D.eqb x y && D.eqbs xs ys
  | _, _ => false
end
/-- the list that is walked stands as it was -/
def still (g : Option (Nat × List D)) (s : Sto) : Bool := match g with
  | none => true
  | some (k, xs) => match s.get k with
    | some (.lst ys) => D.eqbs xs ys
    | some (.ro ys) => D.eqbs xs ys
    | _ => false

/-- where a statement ends -/
inductive Fl where
  | nx (ρ : Env)
  | bk (ρ : Env)
  | ct (ρ : Env)
  | rt (d : D)

abbrev Cf := D → List D → Sto → M D
def tru (d : D) (s : Sto) : M Bool := .ofO (d.truth s) s
def negM (d : D) (s : Sto) : R D := match d with
  | .int i => .ok (.int (-i)) s
  | _ => .bad
def cpB (o : Cp) (x y : D) (s : Sto) : M Bool := .ofO (cpO o x y s) s
def bound (d : D) (s : Sto) : M (Option Int) := match d with
  | .int i => .ok (some i) s
  | _ => .bad
def isLst (d : D) (s : Sto) : M Unit := match d with
  | .loc k => match s.get k with
    | some (.lst _) => .ok () s
    | _ => .bad
  | _ => .bad
def getV (ρ : Env) (i : Nat) (s : Sto) : M D := match (ρ[i]?).join with
  | some d => if d.isClo then .bad else .ok d s
  | none => .bad
def getF (ρ : Env) (i : Nat) (s : Sto) : M D := match (ρ[i]?).join with
  | some d => if d.isFn then .ok d s else .bad
  | none => .bad
/-- a display's pairs are put into its new dict, at place n -/
def fillD (n : Nat) (kvs : List (D × D)) (s : Sto) : R D := match s.get n with
  | some (.dct []) => if kvs.all (fun p => p.1.key.isSome) && decide (kvs.length ≤ 15) then .ok (.loc n) (s.put n (.dct (kvs.foldl (fun a p => putD p.1 p.2 a) []))) else .bad
  | _ => .bad
def addK (k v : D) (n : Nat) (s : Sto) : M Unit := match s.get n with
  | some (.dct acc) => match k.key with
    | some _ => if acc.length < PySem.sizeLine then .ok () (s.put n (.dct (putD k v acc))) else .bad
    | none => .bad
  | _ => .bad
def addL (d : D) (n : Nat) (s : Sto) : M Unit := match s.get n with
  | some (.lst acc) => if acc.length < PySem.sizeLine then .ok () (s.put n (.lst (acc ++ [d]))) else .bad
  | _ => .bad
def addI (d : D) (n : Nat) (s : Sto) : M Unit := match s.get n with
  | some (.iset acc) => match d with
    | .int i => if acc.length < 60 then .ok () (s.put n (.iset (if i ∈ acc then acc else i :: acc))) else .bad
    | _ => .bad
  | _ => .bad
/-- what stands in the new set, ascending -/
def outI (n : Nat) (s : Sto) : R D := match s.get n with
  | some (.iset acc) => if acc.length < 64 then mkList ((sortI acc).map .int) s else .bad
  | _ => .bad
/-- what is no lambda -/
def noClo (ρ : Env) : Env := ρ.map fun o => match o with
  | some (.clo _ _ _) => none
  | o => o
def rng1 (d : D) (s : Sto) : M Walk := match d with
  | .int i => if rngOk i then .ok (rngs 0 i.toNat, none) s else .bad
  | _ => .bad
def rng2 (x y : D) (s : Sto) : M Walk := match x, y with
  | .int i, .int j => if rngOk i && rngOk j then .ok (rngs i (j - i).toNat, none) s else .bad
  | _, _ => .bad
def enumW (x : D) (s : Sto) : M Walk := match x with
  | .str _ => .bad
  | x => match walkOf x s with
    | some w => .ok (enums w.1, w.2) s
    | none => .bad
def zipW (x y : D) (s : Sto) : M Walk := match x, y with
  | .tup ds, .tup es => .ok ((ds.zip es).map fun p => D.tup [p.1, p.2], none) s
  | _, _ => .bad
/-- the walked list stands as it was -/
def stillM (g : Option (Nat × List D)) (s : Sto) : M Unit := if still g s then .ok () s else .bad
/-- the next item to the target -/
def turnM (t : Tg) (g : Option (Nat × List D)) (x : D) (ρ : Env) (s : Sto) : M Env := if still g s then .ofO (asg t x ρ) s else .bad

section
variable (con : List D) (cf : Cf)
/-- a comprehension's turns: the tests, then the element; the new list stands at n -/
def lcGo (tests : Env → Sto → M Bool) (elt : Env → Sto → M D) (t : Tg) (g : Option (Nat × List D)) (ρ : Env) (n : Nat) : List D → Sto → M Unit
  | [], s => stillM g s
  | x :: xs, s => (turnM t g x ρ s).bind fun ρ' s => (tests ρ' s).bind fun b s1 => if b then (elt ρ' s1).bind fun d s2 => (addL d n s2).bind fun _ s2 => lcGo tests elt t g ρ n xs s2 else lcGo tests elt t g ρ n xs s1
/-- tuple(..): the items so far -/
def tpGo (tests : Env → Sto → M Bool) (elt : Env → Sto → M D) (t : Tg) (g : Option (Nat × List D)) (ρ : Env) : List D → List D → Sto → M (List D)
  | [], acc, s => (stillM g s).bind fun _ s => .ok acc s
  | x :: xs, acc, s => (turnM t g x ρ s).bind fun ρ' s => (tests ρ' s).bind fun b s1 => if b then (elt ρ' s1).bind fun d s2 => tpGo tests elt t g ρ xs (acc ++ [d]) s2 else tpGo tests elt t g ρ xs acc s1
/-- all, any: stop: the answer that ends it -/
def abGo (stop : Bool) (tests : Env → Sto → M Bool) (elt : Env → Sto → M D) (t : Tg) (g : Option (Nat × List D)) (ρ : Env) : List D → Sto → M D
  | [], s => (stillM g s).bind fun _ s => .ok (.bool (!stop)) s
  | x :: xs, s => (turnM t g x ρ s).bind fun ρ' s => (tests ρ' s).bind fun b s1 => if b then (elt ρ' s1).bind fun d s2 => (tru d s2).bind fun c s2 => if c == stop then .ok (.bool stop) s2 else abGo stop tests elt t g ρ xs s2 else abGo stop tests elt t g ρ xs s1
/-- sorted({..}): the numbers stand at n, each once -/
def siGo (tests : Env → Sto → M Bool) (elt : Env → Sto → M D) (t : Tg) (g : Option (Nat × List D)) (ρ : Env) (n : Nat) : List D → Sto → M Unit
  | [], s => stillM g s
  | x :: xs, s => (turnM t g x ρ s).bind fun ρ' s => (tests ρ' s).bind fun b s1 => if b then (elt ρ' s1).bind fun d s2 => (addI d n s2).bind fun _ s2 => siGo tests elt t g ρ n xs s2 else siGo tests elt t g ρ n xs s1
def dcGo (tests : Env → Sto → M Bool) (ke ve : Env → Sto → M D) (t : Tg) (g : Option (Nat × List D)) (ρ : Env) (n : Nat) : List D → Sto → M Unit
  | [], s => stillM g s
  | x :: xs, s => (turnM t g x ρ s).bind fun ρ' s => (tests ρ' s).bind fun b s1 => if b then (ke ρ' s1).bind fun k s2 => (ve ρ' s2).bind fun v s3 => (addK k v n s3).bind fun _ s3 => dcGo tests ke ve t g ρ n xs s3 else dcGo tests ke ve t g ρ n xs s1
mutual
def evE : E → Env → Sto → M D
  | .var i, ρ, s => getV ρ i s
  | .int i, _, s => .ok (.int i) s
  | .str x, _, s => .ok (.str x) s
  | .bool b, _, s => .ok (.bool b) s
  | .none, _, s => .ok .none s
  | .con k, _, s => .ofO con[k]? s
  | .tup es, ρ, s => (evEs es ρ s).bind fun ds s1 => (mkTup ds s1).up
  | .lst es, ρ, s => (evEs es ρ s).bind fun ds s1 => (mkList ds s1).up
  | .dict kv, ρ, s => (evKV kv ρ (s.push (.dct []))).bind fun kvs s1 => (fillD s.nxt kvs s1).up
  | .bin o a b, ρ, s => (evE a ρ s).bind fun x s1 => (evE b ρ s1).bind fun y s2 => (o2 o x y s2).up
  | .cmp o a b, ρ, s => (evE a ρ s).bind fun x s1 => (evE b ρ s1).bind fun y s2 => (cp o x y s2).up
  | .cmp2 o p a b c, ρ, s => (evE a ρ s).bind fun x s1 => (evE b ρ s1).bind fun y s2 => (cpB o x y s2).bind fun t s2 => if t then (evE c ρ s2).bind fun z s3 => (cp p y z s3).up else .ok (.bool false) s2
  | .and a b, ρ, s => (evE a ρ s).bind fun x s1 => (tru x s1).bind fun t s1 => if t then evE b ρ s1 else .ok x s1
  | .or a b, ρ, s => (evE a ρ s).bind fun x s1 => (tru x s1).bind fun t s1 => if t then .ok x s1 else evE b ρ s1
  | .not a, ρ, s => (evE a ρ s).bind fun x s1 => (tru x s1).bind fun t s1 => .ok (.bool (!t)) s1
  | .neg a, ρ, s => (evE a ρ s).bind fun x s1 => (negM x s1).up
  | .ite c a b, ρ, s => (evE c ρ s).bind fun x s1 => (tru x s1).bind fun t s1 => if t then evE a ρ s1 else evE b ρ s1
  | .idx a b, ρ, s => (evE a ρ s).bind fun x s1 => (evE b ρ s1).bind fun y s2 => (ix x y s2).up
  | .slc a lo hi, ρ, s => (evE a ρ s).bind fun x s1 => (evEo lo ρ s1).bind fun l s2 => (evEo hi ρ s2).bind fun h s3 => (slice x l h s3).up
  | .call f es, ρ, s => (evEs es ρ s).bind fun ds s1 => cf (.fn f) ds s1
  | .calll f es ps caps body, ρ, s => (evEs es ρ s).bind fun ds s1 => cf (.fn f) (ds ++ [.clo ps body (keepOnly (noClo ρ) caps)]) s1
  | .callv i es, ρ, s => (getF ρ i s).bind fun d s => (evEs es ρ s).bind fun ds s1 => cf d ds s1
  | .bf b es, ρ, s => (evEs es ρ s).bind fun ds s1 => (bf b ds s1).up
  | .isi a t, ρ, s => (evE a ρ s).bind fun x s1 => (isi x t s1).up
  | .mt m o es, ρ, s => (evE o ρ s).bind fun x s1 => (isLst x s1).bind fun _ s1 => (evEs es ρ s1).bind fun ds s2 => (mt m x ds s2).up
  | .set0, _, s => (freshSet s).up
  | .sadd o a, ρ, s => (evE o ρ s).bind fun x s1 => (isSet x s1).bind fun _ s1 => (evE a ρ s1).bind fun d s2 => (addSet x d s2).up
  | .sset a, ρ, s => (evE a ρ s).bind fun x s1 => (ssetD x s1).up
  | .gen k sr t own ifs elt, ρ, s => (evSr sr ρ s).bind fun w s1 => match k with
    | .list => (lcGo (evIfs ifs) (evE elt) t w.2 (wipe (noClo ρ) own) s1.nxt w.1 (s1.push (.lst []))).calm.bind fun _ s2 => .ok (.loc s1.nxt) s2
    | .tuple => (tpGo (evIfs ifs) (evE elt) t w.2 (wipe (noClo ρ) own) w.1 [] s1).calm.bind fun ds s2 => (mkTup ds s2).up
    | .sset => (siGo (evIfs ifs) (evE elt) t w.2 (wipe (noClo ρ) own) s1.nxt w.1 (s1.push (.iset []))).calm.bind fun _ s2 => (outI s1.nxt s2).up
    | .all => (abGo false (evIfs ifs) (evE elt) t w.2 (wipe (noClo ρ) own) w.1 s1).calm
    | .any => (abGo true (evIfs ifs) (evE elt) t w.2 (wipe (noClo ρ) own) w.1 s1).calm
  | .dgen sr t own ifs ke ve, ρ, s => (evSr sr ρ s).bind fun w s1 => (dcGo (evIfs ifs) (evE ke) (evE ve) t w.2 (wipe (noClo ρ) own) s1.nxt w.1 (s1.push (.dct []))).calm.bind fun _ s2 => .ok (.loc s1.nxt) s2
def evEs : Es → Env → Sto → M (List D)
  | .nil, _, s => .ok [] s
  | .cons e es, ρ, s => (evE e ρ s).bind fun d s1 => (evEs es ρ s1).bind fun ds s2 => .ok (d :: ds) s2
def evKV : Kvs → Env → Sto → M (List (D × D))
  | .nil, _, s => .ok [] s
  | .cons k v r, ρ, s => (evE k ρ s).bind fun x s1 => (evE v ρ s1).bind fun y s2 => (evKV r ρ s2).bind fun q s3 => .ok ((x, y) :: q) s3
def evEo : Eo → Env → Sto → M (Option Int)
  | .none, _, s => .ok Option.none s
  | .some e, ρ, s => (evE e ρ s).bind fun d s1 => bound d s1
def evIfs : Es → Env → Sto → M Bool
  | .nil, _, s => .ok true s
  | .cons e es, ρ, s => (evE e ρ s).bind fun d s1 => (tru d s1).bind fun t s1 => if t then evIfs es ρ s1 else .ok false s1
def evSr : Sr → Env → Sto → M Walk
  | .e a, ρ, s => (evE a ρ s).bind fun x s1 => .ofO (walkOf x s1) s1
  | .rng1 a, ρ, s => (evE a ρ s).bind fun x s1 => rng1 x s1
  | .rng2 a b, ρ, s => (evE a ρ s).bind fun x s1 => (evE b ρ s1).bind fun y s2 => rng2 x y s2
  | .enum a, ρ, s => (evE a ρ s).bind fun x s1 => enumW x s1
  | .zip a b, ρ, s => (evE a ρ s).bind fun x s1 => (evE b ρ s1).bind fun y s2 => zipW x y s2
end

def forGo (body : Env → Sto → M Fl) (t : Tg) (g : Option (Nat × List D)) : List D → Env → Sto → M Fl
  | [], ρ, s => (stillM g s).bind fun _ s => .ok (.nx ρ) s
  | x :: xs, ρ, s => (turnM t g x ρ s).bind fun ρ' s => (body ρ' s).bind fun f s1 => match f with
    | .nx ρ2 => forGo body t g xs ρ2 s1
    | .ct ρ2 => forGo body t g xs ρ2 s1
    | .bk ρ2 => .ok (.nx ρ2) s1
    | .rt d => .ok (.rt d) s1
def whGo (test : Env → Sto → M Bool) (body : Env → Sto → M Fl) : Nat → Env → Sto → M Fl
  | 0, _, _ => .bad
  | n + 1, ρ, s => (test ρ s).bind fun b s1 => if b then (body ρ s1).bind fun f s2 => match f with
      | .nx ρ2 => whGo test body n ρ2 s2
      | .ct ρ2 => whGo test body n ρ2 s2
      | .bk ρ2 => .ok (.nx ρ2) s2
      | .rt d => .ok (.rt d) s2
    else .ok (.nx ρ) s1
def evT (c : E) (ρ : Env) (s : Sto) : M Bool := (evE con cf c ρ s).bind fun d s1 => tru d s1
/-- turns of a while at most -/
def turns : Nat := 1000000
def setAll : List Nat → List D → Env → Option Env
  | [], [], ρ => some ρ
  | i :: is, d :: ds, ρ => setAll is ds (ρ.set i (some d))
  | _, _, _ => none
mutual
def evS : S → Env → Sto → M Fl
  | .set i e, ρ, s => (evE con cf e ρ s).bind fun d s1 => .ok (.nx (ρ.set i (some d))) s1
  | .unp t e, ρ, s => (evE con cf e ρ s).bind fun d s1 => (M.ofO (unp t d ρ s1) s1).bind fun ρ' s1 => .ok (.nx ρ') s1
  | .par is es, ρ, s => (evEs con cf es ρ s).bind fun ds s1 => (M.ofO (setAll is ds ρ) s1).bind fun ρ' s1 => .ok (.nx ρ') s1
  | .seti o i e, ρ, s => (evE con cf e ρ s).bind fun v s1 => (evE con cf o ρ s1).bind fun x s2 => (evE con cf i ρ s2).bind fun y s3 => (setIt x y v s3).up.bind fun _ s4 => .ok (.nx ρ) s4
  | .expr e, ρ, s => (evE con cf e ρ s).bind fun _ s1 => .ok (.nx ρ) s1
  | .ret e, ρ, s => (evE con cf e ρ s).bind fun d s1 => .ok (.rt d) s1
  | .ite c a b, ρ, s => (evT con cf c ρ s).bind fun x s1 => if x then evSs a ρ s1 else evSs b ρ s1
  | .forr t sr b, ρ, s => (evSr con cf sr ρ s).bind fun w s1 => forGo (evSs b) t w.2 w.1 ρ s1
  | .while c b, ρ, s => whGo (evT con cf c) (evSs b) turns ρ s
  | .brk, ρ, s => .ok (.bk ρ) s
  | .cont, ρ, s => .ok (.ct ρ) s
  | .pass, ρ, s => .ok (.nx ρ) s
  | .never, _, _ => .bad
def evSs : Ss → Env → Sto → M Fl
  | .nil, ρ, s => .ok (.nx ρ) s
  | .cons st ss, ρ, s => (evS st ρ s).bind fun f s1 => match f with
    | .nx ρ' => evSs ss ρ' s1
    | f => .ok f s1
end
end

/-- a def: how many parameters, how many slots, its body -/
structure Fn where
  np : Nat
  ns : Nat
  body : Ss
def startE (ns : Nat) (ds : List D) : Env := ds.map some ++ List.replicate (ns - ds.length) none
def retM (fl : Fl) (s : Sto) : M D := match fl with
  | .rt d => .ok d s
  | .nx _ => .ok .none s
  | _ => .bad
/-- a call, so deep at most -/
def callN (con : List D) (fns : List Fn) : Nat → Cf
  | 0, _, _, _ => .bad
  | n + 1, .fn k, ds, s => match fns[k]? with
    | some f => if ds.length = f.np then (evSs con (callN con fns n) f.body (startE f.ns ds) s).bind retM else .bad
    | none => .bad
  | n + 1, .clo ps body w, ds, s => match setAll ps ds w with
    | some ρ => evE con (callN con fns n) body ρ s
    | none => .bad
  | _ + 1, _, _, _ => .bad
end EV
/-! EvB: from the model's syntax to the evaluator's (own work). -/
namespace EV
open PySem

/-- what a def's text is read by: the slots' names, the own defs, the module's constants, names that are taken -/
structure Cc where
  N : List Str
  fns : List Str
  cons : List Str
  /-- the lambdas' names by their places -/
  lam : Nat → Nat → Option Str
  /-- what stands ahead of the names of the code within the def -/
  ql : Str
/-- levels of generators within generators, at most -/
def top : Nat := 3

def slot (N : List Str) (x : Str) : Option Nat := let i := N.idxOf x; if i < N.length then some i else none
def visB (sc : Scope) (x : Str) : Bool := match sc.names.lookup x with
  | some .local => true
  | some .cell => true
  | some .free => true
  | _ => false
def locB (sc : Scope) (x : Str) : Bool := match sc.names.lookup x with
  | some .local => true
  | some .cell => true
  | _ => false
def gloB (sc : Scope) (x : Str) : Bool := match sc.names.lookup x with
  | some .globalImplicit => true
  | _ => false
def okName (x : Str) : Bool := x != ("__debug__" : Str) && x != ("__classdict__" : Str) && x != ("__name__" : Str)
/-- the scope that a comprehension's block runs in -/
abbrev relS := L2.relS
def dot0 : Str := ".0"
def ownNames (scope : Scope) : List Str := (scope.names.filter fun p => (decide (p.2 = .local) || decide (p.2 = .cell)) && p.1 != dot0).map (·.1)
/-- a block's own names with their places -/
def ownOf (N : List Str) (scope : Scope) : List (Str × Nat) := (ownNames scope).map fun x => (x, N.idxOf x)
/-- a block's scope is as the model's rules want it -/
def okBlk (N : List Str) (sc scope : Scope) : Bool := L2.blkC N sc scope (ownOf N scope)
def slots (N : List Str) (xs : List Str) : Option (List Nat) := xs.mapM (slot N)
def o2Of : Operator → Option O2
  | .Add => some .add
  | .Sub => some .sub
  | .Mult => some .mul
  | .Mod => some .mod
  | .FloorDiv => some .fdiv
  | .Pow => some .pow
  | _ => none
def cpOf : CmpOp → Option Cp
  | .Eq => some .eq
  | .NotEq => some .ne
  | .Lt => some .lt
  | .LtE => some .le
  | .Gt => some .gt
  | .GtE => some .ge
  | .In => some .isin
  | .NotIn => some .notin
  | .Is => some .is_
  | .IsNot => some .isnot
def bfNames : List (Str × Bf) := [("len", .len), ("tuple", .tuple), ("list", .list), ("sorted", .sorted), ("int", .int), ("max", .max), ("min", .min), ("sum", .sum), ("repr", .repr), ("abs", .abs), ("str", .str)]
def gkNames : List (Str × Gk) := [("tuple", .tuple), ("all", .all), ("any", .any)]
def mtNames : List (Str × Mt) := [("append", .append), ("remove", .remove), ("pop", .pop), ("extend", .extend)]
def tyNames : List (Str × Ty) := [("int", .int), ("bool", .bool), ("str", .str), ("tuple", .tuple), ("list", .list), ("dict", .dict)]
/-- sorted(set(a)) -/
def setArg : List Expr → Option Expr
  | [.Call (.Name g _) [a] [] _] => if g == ("set" : Str) then some a else none
  | _ => none
def esOf : List E → Es
  | [] => .nil
  | e :: r => .cons e (esOf r)
def kvsOf : List (E × E) → Kvs
  | [] => .nil
  | (k, v) :: r => .cons k v (kvsOf r)
def tgsOf : List Tg → Tgs
  | [] => .nil
  | e :: r => .cons e (tgsOf r)
def plainIdx : Expr → Bool
  | .Slice _ _ _ _ => false
  | _ => true
/-- what stands ahead of a method's name -/
def plainBase : Expr → Bool
  | .Name _ _ => true
  | .Subscript _ _ _ => true
  | _ => false
section
variable (C : Cc)
/-- sc: the scope as it is written -/
def cTg (sc : Scope) : Nat → Expr → Option Tg
  | 0, _ => none
  | n + 1, e => match e with
    | .Name x _ => if locB sc x && okName x then (slot C.N x).map .n else none
    | .Tuple ts _ _ => (ts.mapM (cTg sc n)).map fun r => .t (tgsOf r)
    | _ => none
def chain (f : E → E → E) : List E → Option E
  | [] => none
  | [a] => some a
  | a :: r => (chain f r).map (f a)
/-- a generator's text: no list is displayed as what it walks, no name of its own is captured -/
def genOk (scope : Scope) (it : Expr) : Bool := (match it with
  | .List _ _ => false
  | _ => true) && !scope.isCoroutine && decide (scope.names.lookup dot0 = some NameKind.local) && scope.names.all fun p => !decide (p.2 = .cell)
/-- a lambda's text -/
def lamOk (N : List Str) (sc lsc : Scope) (a : Arguments) : Bool :=
  decide (lsc.kind = .function) && !lsc.isCoroutine && !lsc.isGenerator && a.posonlyargs.isEmpty && a.vararg.isNone && a.kwonlyargs.isEmpty && a.kw_defaults.isEmpty && a.kwarg.isNone && a.defaults.isEmpty &&
  (lsc.names.all fun p => decide (lsc.names.lookup p.1 = some p.2)) &&
  (lsc.names.all fun p => (!decide (p.2 = .free) || (decide (sc.names.lookup p.1 = some .cell) || decide (sc.names.lookup p.1 = some .free))) && (!(decide (p.2 = .local) || decide (p.2 = .cell)) || decide (p.1 ∈ a.args.map (·.arg)))) &&
  ((a.args.map (·.arg)).all fun x => locB lsc x && okName x) && decide ((a.args.map (·.arg)).Nodup)
/-- isinstance(name, type) -/
def cIsi (sc : Scope) : List Expr → Option E
  | [.Name x _, .Name t _] => if okName x && visB sc x && gloB sc ("isinstance" : Str) && gloB sc t then (match slot C.N x, tyNames.lookup t with
    | some i, some t => some (.isi (.var i) t)
    | _, _ => none) else none
  | _ => none
/-- enumerate and zip go to tuples of targets -/
def tupOk (tg : Expr) : Sr → Bool
  | .enum _ => (match tg with
    | .Tuple _ _ _ => true
    | _ => false)
  | .zip _ _ => (match tg with
    | .Tuple _ _ _ => true
    | _ => false)
  | _ => true
mutual
/-- the text as the evaluator's; sc: the scope that it runs in -/
def cE : Nat → Nat → Scope → Expr → Option E
  | 0, _, _, _ => none
  | n + 1, lv, sc, e => match e with
    | .Name x _ => if !okName x then none else if visB sc x then (slot C.N x).map .var else if gloB sc x then
        (let i := C.cons.idxOf x; if i < C.cons.length then some (.con i) else none) else none
    | .Constant (.int i) _ _ => some (.int i)
    | .Constant (.str x) _ _ => some (.str x)
    | .Constant (.bool b) _ _ => some (.bool b)
    | .Constant .none _ _ => some .none
    | .Tuple es _ _ => (es.mapM (cE n lv sc)).map fun r => .tup (esOf r)
    | .List es _ => (es.mapM (cE n lv sc)).map fun r => .lst (esOf r)
    | .Dict ks vs _ => match ks.mapM (fun k => k.bind (cE n lv sc)), vs.mapM (cE n lv sc) with
      | some a, some b => if ks.length = vs.length ∧ 0 < ks.length ∧ ks.length ≤ 15 then some (.dict (kvsOf (a.zip b))) else none
      | _, _ => none
    | .BinOp a o b _ => match o2Of o, cE n lv sc a, cE n lv sc b with
      | some o, some a, some b => some (.bin o a b)
      | _, _, _ => none
    | .Compare a [o] [b] _ => if behindInMarks o b then none else match cpOf o, cE n lv sc a, cE n lv sc b with
      | some o, some a, some b => some (.cmp o a b)
      | _, _, _ => none
    | .Compare a [o, p] [b, c] _ => if lastMarks [o, p] [b, c] then none else match cpOf o, cpOf p, cE n lv sc a, cE n lv sc b, cE n lv sc c with
      | some o, some p, some a, some b, some c => some (.cmp2 o p a b c)
      | _, _, _, _, _ => none
    | .BoolOp .And vs _ => (vs.mapM (cE n lv sc)).bind (chain .and)
    | .BoolOp .Or vs _ => (vs.mapM (cE n lv sc)).bind (chain .or)
    | .UnaryOp .Not a _ => (cE n lv sc a).map .not
    | .UnaryOp .USub a _ => (cE n lv sc a).map .neg
    | .IfExp c a b _ => match cE n lv sc c, cE n lv sc a, cE n lv sc b with
      | some c, some a, some b => some (.ite c a b)
      | _, _, _ => none
    | .Subscript a (.Slice lo hi none _) _ => match cE n lv sc a, cEo n lv sc lo, cEo n lv sc hi with
      | some a, some lo, some hi => some (.slc a lo hi)
      | _, _, _ => none
    | .Subscript a b _ => if !plainIdx b then none else match cE n lv sc a, cE n lv sc b with
      | some a, some b => some (.idx a b)
      | _, _ => none
    | .Call (.Name f _) args [] _ => match args with
      | [.SetComp elt [⟨tg, it, ifs, 0⟩] scope _] => if gloB sc f && f == ("sorted" : Str) then cGen n lv sc scope (relS scope sc) .sset tg it ifs elt else none
      | [.GeneratorExp elt [⟨tg, it, ifs, 0⟩] scope gp] => if gloB sc f && (C.lam gp.line gp.col).isNone then (match gkNames.lookup f with
        | some k => cGen n lv sc scope scope k tg it ifs elt
        | none => none) else none
      | args => if f == ("isinstance" : Str) then cIsi C sc args else cCall n lv sc f args
    | .Call (.Attribute o m ap) args [] cp => if !plainBase o || !(ap.endLine == cp.line) || !decide (args.length < 20) then none else if m == ("add" : Str) then (match args with
      | [a] => (match cE n lv sc o, cE n lv sc a with
        | some o, some a => some (.sadd o a)
        | _, _ => none)
      | _ => none) else match mtNames.lookup m, cE n lv sc o, args.mapM (cE n lv sc) with
      | some m, some o, some es => some (.mt m o (esOf es))
      | _, _, _ => none
    | .ListComp elt [⟨tg, it, ifs, 0⟩] scope _ => cGen n lv sc scope (relS scope sc) .list tg it ifs elt
    | .DictComp k v [⟨tg, it, ifs, 0⟩] scope _ => match cSr n lv sc it, cTg C scope n tg, slots C.N (ownNames scope), ifs.mapM (cE n (lv - 1) (relS scope sc)), cE n (lv - 1) (relS scope sc) k, cE n (lv - 1) (relS scope sc) v with
      | some s, some t, some own, some ifs, some k, some v => if t.slots.all (fun i => decide (i ∈ own)) && okBlk C.N sc scope && tupOk tg s then some (.dgen s t own (esOf ifs) k v) else none
      | _, _, _, _, _, _ => none
    | _ => none
def cEo : Nat → Nat → Scope → Option Expr → Option Eo
  | _, _, _, none => some .none
  | 0, _, _, _ => none
  | n + 1, lv, sc, some e => (cE n lv sc e).map .some
def cGen : Nat → Nat → Scope → Scope → Scope → Gk → Expr → Expr → List Expr → Expr → Option E
  | 0, _, _, _, _, _, _, _, _, _ => none
  | n + 1, lv, sc, scope, inner, k, tg, it, ifs, elt => if !(genOk scope it && decide (0 < lv)) && !(decide (k = .list) || decide (k = .sset)) then none else match cSr n lv sc it, cTg C scope n tg, slots C.N (ownNames scope), ifs.mapM (cE n (lv - 1) inner), cE n (lv - 1) inner elt with
    | some s, some t, some own, some ifs, some elt => if t.slots.all (fun i => decide (i ∈ own)) && okBlk C.N sc scope && tupOk tg s then some (.gen k s t own (esOf ifs) elt) else none
    | _, _, _, _, _ => none
def cCall : Nat → Nat → Scope → Str → List Expr → Option E
  | 0, _, _, _, _ => none
  | n + 1, lv, sc, f, args => if !okName f then none else match setArg args with
   | some a => if f == ("sorted" : Str) && gloB sc f && gloB sc ("set" : Str) then (cE n lv sc a).map E.sset else none
   | none => if f == ("set" : Str) && gloB sc f && args.isEmpty then some .set0 else if visB sc f then (match slot C.N f, args.mapM (cE n lv sc) with
      | some i, some es => some (.callv i (esOf es))
      | _, _ => none) else if !gloB sc f then none else
    let i := C.fns.idxOf f
    if i < C.fns.length then (match args.getLast? with
      | some (.Lambda a b lsc lp) => if !(lamOk C.N sc lsc a && decide (lv = top) && decide (C.lam lp.line lp.col = some (C.ql ++ ("<lambda>" : Str)))) then none else (match args.dropLast.mapM (cE n lv sc), slots C.N (a.args.map (·.arg)), slots C.N ((lsc.names.filter fun p => decide (p.2 = .free)).map (·.1)), cE n 2 lsc b with
        | some es, some ps, some caps, some b => some (.calll i (esOf es) ps caps b)
        | _, _, _, _ => none)
      | _ => (args.mapM (cE n lv sc)).map fun es => .call i (esOf es)) else
    match bfNames.lookup f with
    | none => none
    | some b => if decide (b = .tuple) || decide (b = .list) then (match args with
      | [a] => (match cRng n lv sc a with
        | some s => some (.bf b (.cons (.gen .tuple s (.n 0) [] .nil (.var 0)) .nil))
        | none => (cE n lv sc a).map fun e => .bf b (.cons e .nil))
      | _ => none) else (args.mapM (cE n lv sc)).map fun es => .bf b (esOf es)
def cRng : Nat → Nat → Scope → Expr → Option Sr
  | 0, _, _, _ => none
  | n + 1, lv, sc, e => match e with
    | .Call (.Name f _) args [] _ => if f == ("range" : Str) && gloB sc f then (match args with
      | [a] => (cE n lv sc a).map .rng1
      | [a, b] => (match cE n lv sc a, cE n lv sc b with
        | some a, some b => some (.rng2 a b)
        | _, _ => none)
      | _ => none) else none
    | _ => none
def cSr : Nat → Nat → Scope → Expr → Option Sr
  | 0, _, _, _ => none
  | n + 1, lv, sc, e => match cRng n lv sc e with
    | some s => some s
    | none => match e with
      | .Call (.Name f p) args [] q => if f == ("enumerate" : Str) && gloB sc f then (match args with
          | [a] => (cE n lv sc a).map .enum
          | _ => none) else if f == ("zip" : Str) && gloB sc f then (match args with
          | [a, b] => (match cE n lv sc a, cE n lv sc b with
            | some a, some b => some (.zip a b)
            | _, _ => none)
          | _ => none) else (cE n lv sc (.Call (.Name f p) args [] q)).map .e
      | e => (cE n lv sc e).map .e
end
def blkK (sc : Scope) : ScopeKind := if sc.kind.isAnnotationScope then ScopeKind.function else sc.kind
/-- the names whose stores the compiler swaps, a, b = x, y; nothing where the model does not tell -/
def swapK (kd : Str → Option NameKind) (bk : ScopeKind) (ts vs : List Expr) : Option (Option (List Str)) :=
  if !(ts.length == 2 || ts.length == 3) || vs.length != ts.length || bk != .function then some none else
  if (vs.any fun | .Starred .. => true | _ => false) then some none else
  let line := (ts.head?.map (·.pos.line)).getD 0
  let names := ts.filterMap fun
    | .Name id pos => if kd id == some .local && pos.line == line then some id else none
    | _ => none
  if names.length != ts.length || names.eraseDups.length != names.length then some none else
  if vs.all (foldedForSure 8) then some none else
  if vs.all (constantsAlone 8) then none else some (some names)
def swapQ (sc : Scope) (ts vs : List Expr) : Option (Option (List Str)) := swapK (fun x => sc.names.lookup x) (blkK sc) ts vs
def isComp : Expr → Bool
  | .ListComp _ _ _ _ => true
  | .SetComp _ _ _ _ => true
  | .DictComp _ _ _ _ _ => true
  | _ => false
def ssOf : List S → Ss
  | [] => .nil
  | s :: r => .cons s (ssOf r)
def cS : Nat → Scope → Stmt → Option S
  | 0, _, _ => none
  | n + 1, sc, st => match st with
    | .Assign [.Name x _] v _ => if locB sc x && okName x then (match slot C.N x, cE C n top sc v with
        | some i, some e => some (.set i e)
        | _, _ => none) else none
    | .Assign [.Tuple ts k p] (.Tuple vs k2 p2) _ => match swapQ sc ts vs with
        | none => none
        | some (some _) => (match ts, vs with
          | [.Name x _, .Name y _], [a, b] => (match slot C.N x, slot C.N y, cE C n top sc a, cE C n top sc b with
            | some i, some j, some a, some b => some (.par [i, j] (.cons a (.cons b .nil)))
            | _, _, _, _ => none)
          | [.Name x _, .Name y _, .Name z _], [a, b, c] => (match slot C.N x, slot C.N y, slot C.N z, cE C n top sc a, cE C n top sc b, cE C n top sc c with
            | some i, some j, some l, some a, some b, some c => some (.par [i, j, l] (.cons a (.cons b (.cons c .nil))))
            | _, _, _, _, _, _ => none)
          | _, _ => none)
        | some none => (match cTg C sc n (.Tuple ts k p), cE C n top sc (.Tuple vs k2 p2) with
          | some t, some e => some (.unp t e)
          | _, _ => none)
    | .Assign [.Tuple ts k p] v _ => match cTg C sc n (.Tuple ts k p), cE C n top sc v with
        | some t, some e => some (.unp t e)
        | _, _ => none
    | .Assign [.Subscript o i _] v _ => if !plainIdx i then none else match cE C n top sc o, cE C n top sc i, cE C n top sc v with
        | some o, some i, some v => some (.seti o i v)
        | _, _, _ => none
    | .Expr v _ => if isComp v then none else (cE C n top sc v).map .expr
    | .Return (some v) _ => (cE C n top sc v).map .ret
    | .Return none _ => some (.ret .none)
    | .If c a b _ => match cE C n top sc c, a.mapM (cS n sc), b.mapM (cS n sc) with
        | some c, some a, some b => some (.ite c (ssOf a) (ssOf b))
        | _, _, _ => none
    | .For t it b [] _ => match cTg C sc n t, cSr C n top sc it, b.mapM (cS n sc) with
        | some t', some s, some b => if tupOk t s then some (.forr t' s (ssOf b)) else none
        | _, _, _ => none
    | .While c b [] _ => match cE C n top sc c, b.mapM (cS n sc) with
        | some c, some b => some (.while c (ssOf b))
        | _, _ => none
    | .Break _ => some .brk
    | .Continue _ => some .cont
    | .Pass _ => some .pass
    | .Raise _ _ _ => some .never
    | _ => none
end
def cBody (C : Cc) (sc : Scope) (b : List Stmt) : Option Ss := (b.mapM (cS C 40 sc)).map ssOf

/-! names of a def: the parameters, then all that it and its nested blocks have -/
mutual
def namesE : Nat → Expr → List Str
  | 0, _ => []
  | n + 1, e => match e with
    | .BoolOp _ vs _ => vs.flatMap (namesE n)
    | .BinOp a _ b _ => namesE n a ++ namesE n b
    | .UnaryOp _ a _ => namesE n a
    | .Lambda _ b sc _ => (sc.names.filter fun p => decide (p.2 = .local) || decide (p.2 = .cell)).map (·.1) ++ namesE n b
    | .IfExp a b c _ => namesE n a ++ namesE n b ++ namesE n c
    | .Dict ks vs _ => (ks.flatMap fun | some k => namesE n k | none => []) ++ vs.flatMap (namesE n)
    | .ListComp e gs sc _ => ownNames sc ++ namesE n e ++ gs.flatMap (namesC n)
    | .SetComp e gs sc _ => ownNames sc ++ namesE n e ++ gs.flatMap (namesC n)
    | .GeneratorExp e gs sc _ => ownNames sc ++ namesE n e ++ gs.flatMap (namesC n)
    | .DictComp k v gs sc _ => ownNames sc ++ namesE n k ++ namesE n v ++ gs.flatMap (namesC n)
    | .Compare a _ cs _ => namesE n a ++ cs.flatMap (namesE n)
    | .Call f as _ _ => namesE n f ++ as.flatMap (namesE n)
    | .Attribute o _ _ => namesE n o
    | .Subscript a b _ => namesE n a ++ namesE n b
    | .Slice a b _ _ => (match a with | some a => namesE n a | none => []) ++ (match b with | some b => namesE n b | none => [])
    | .List es _ => es.flatMap (namesE n)
    | .Tuple es _ _ => es.flatMap (namesE n)
    | _ => []
def namesC : Nat → Comprehension → List Str
  | 0, _ => []
  | n + 1, ⟨t, i, ifs, _⟩ => namesE n t ++ namesE n i ++ ifs.flatMap (namesE n)
end
def namesS : Nat → Stmt → List Str
  | 0, _ => []
  | n + 1, st => match st with
    | .Assign ts v _ => ts.flatMap (namesE n) ++ namesE n v
    | .Expr v _ => namesE n v
    | .Return (some v) _ => namesE n v
    | .If c a b _ => namesE n c ++ a.flatMap (namesS n) ++ b.flatMap (namesS n)
    | .For t i b _ _ => namesE n t ++ namesE n i ++ b.flatMap (namesS n)
    | .While c b _ _ => namesE n c ++ b.flatMap (namesS n)
    | _ => []
/-- all names of a def by slot -/
def allNames (a : Arguments) (sc : Scope) (b : List Stmt) : List Str :=
  ((a.args.map (·.arg)) ++ ((sc.names.filter fun p => decide (p.2 = .local) || decide (p.2 = .cell)).map (·.1)) ++ b.flatMap (namesS 60)).eraseDups
end EV
/-! EvC: how the evaluator's data lie in the model's state (own work). -/
namespace EV
open PySem PySem.Spec PyProof.Rows L2

/-- what is fixed through the law's run: the written part, where each own def stands, the code objects of the text and their tables, the name of each piece of code by its place, the module's constants -/
structure Pg where
  K : PySem.W.Frag
  fad : Nat → Addr
  tabs : List (Addr × Addr)
  nm : Nat → Nat → Option Str
  con : List D
  prog : Program
  w : World

mutual
inductive RV (G : Pg) (H : Hp) (β : List Addr) : D → V → Prop
  | none : RV G H β .none .non
  | bool (b : Bool) : RV G H β (.bool b) (.bl b)
  | int (i : Int) : RV G H β (.int i) (.int i)
  | str (x : Str) : RV G H β (.str x) (.str x)
  | tup {a : Addr} {vs : List V} {ds : List D} : SqT G.K H a vs → RVs G H β ds vs → RV G H β (.tup ds) (.ref a)
  | loc {n : Nat} {a : Addr} : β[n]? = some a → RV G H β (.loc n) (.ref a)
  | fn (k : Nat) : RV G H β (.fn k) (.ref (G.fad k))
inductive RVs (G : Pg) (H : Hp) (β : List Addr) : List D → List V → Prop
  | nil : RVs G H β [] []
  | cons {d : D} {v : V} {ds : List D} {vs : List V} : RV G H β d v → RVs G H β ds vs → RVs G H β (d :: ds) (v :: vs)
end

/-- the code object at c with the table P and the name q -/
def CodeX (c P : Addr) (q : Str) : HO := .ext fun h => PySem.W.CodeHd h c P ∧ h.CodeRec (.ref c) q

/-- the code object that runs: one of the program's, or one made since -/
def CodeV (base : Heap) (cv : Value) (H : Hp) : Prop := ∃ c P, cv = .ref c ∧ (∃ ps, H P = some (.tbl ps)) ∧ (PySem.W.CodeHd base c P ∨ ∃ q, H c = some (CodeX c P q))
structure Grow (H H' : Hp) (β β' : List Addr) : Prop where
  pre : β <+: β'
  tup : ∀ a xs, H a = some (.tup xs) → H' a = some (.tup xs)
  frz : ∀ a o u, H a = some (.frz o u) → H' a = some (.frz o u)
  ext : ∀ c P q, H c = some (CodeX c P q) → H' c = some (CodeX c P q)
  tbl : ∀ a ps, H a = some (.tbl ps) → ∃ ps', H' a = some (.tbl ps')
theorem Grow.refl {H : Hp} {β : List Addr} : Grow H H β β := ⟨List.prefix_rfl, fun _ _ h => h, fun _ _ _ h => h, fun _ _ _ h => h, fun _ ps h => ⟨ps, h⟩⟩
theorem Grow.trans {H H1 H2 : Hp} {β β1 β2 : List Addr} (a : Grow H H1 β β1) (b : Grow H1 H2 β1 β2) : Grow H H2 β β2 :=
  ⟨a.pre.trans b.pre, fun x xs h => b.tup x xs (a.tup x xs h), fun x o u h => b.frz x o u (a.frz x o u h), fun x P q h => b.ext x P q (a.ext x P q h), fun x ps h => by
    obtain ⟨ps1, h1⟩ := a.tbl x ps h
    exact b.tbl x ps1 h1⟩
theorem CodeV.grow {base : Heap} {cv : Value} {H H' : Hp} {β β' : List Addr} (g : Grow H H' β β') (h : CodeV base cv H) : CodeV base cv H' := by
  obtain ⟨c, P, e, ⟨ps, hP⟩, hc⟩ := h
  obtain ⟨ps', hP'⟩ := g.tbl P ps hP
  refine ⟨c, P, e, ⟨ps', hP'⟩, hc.imp (fun h => h) fun ⟨q, h⟩ => ⟨q, g.ext _ _ _ h⟩⟩
/-- which objects may be written -/
def Wr : HO → Prop
  | .lst _ => True
  | .dK _ => True
  | .dT _ => True
  | .set _ _ => True
  | _ => False
/-- a new object -/
theorem Grow.new {H : Hp} {β : List Addr} {a : Addr} {o : HO} (hn : H a = none) : Grow H (upd H a o) β β :=
  have ne : ∀ b u, H b = some u → b ≠ a := fun b u h e => by rw [e, hn] at h; cases h
  ⟨List.prefix_rfl, fun b xs h => by rw [upd_ne (ne b _ h)]; exact h, fun b o u h => by rw [upd_ne (ne b _ h)]; exact h, fun b P q h => by rw [upd_ne (ne b _ h)]; exact h, fun b ps h => ⟨ps, by rw [upd_ne (ne b _ h)]; exact h⟩⟩
/-- a writable object written -/
theorem Grow.wr {H : Hp} {β : List Addr} {a : Addr} {o u : HO} (hw : H a = some o) (w : Wr o) : Grow H (upd H a u) β β :=
  have ne : ∀ b u, H b = some u → ¬ Wr u → b ≠ a := fun b u h hn e => by rw [e, hw] at h; cases h; exact hn w
  ⟨List.prefix_rfl, fun b xs h => by rw [upd_ne (ne b _ h (fun z => z))]; exact h, fun b o u h => by rw [upd_ne (ne b _ h (fun z => z))]; exact h, fun b P q h => by rw [upd_ne (ne b _ h (fun z => z))]; exact h,
    fun b ps h => ⟨ps, by rw [upd_ne (ne b _ h (fun z => z))]; exact h⟩⟩
/-- a set written: no code object stands there -/
theorem Grow.wrx {H : Hp} {β : List Addr} {a : Addr} {φ : Heap → Prop} {u : HO} (hw : H a = some (.ext φ)) (nc : ∀ P q, H a ≠ some (CodeX a P q)) : Grow H (upd H a u) β β :=
  have ne : ∀ b u, H b = some u → (∀ φ, u ≠ .ext φ) → b ≠ a := fun b u h hn e => by rw [e, hw] at h; cases h; exact hn _ rfl
  ⟨List.prefix_rfl, fun b xs h => by rw [upd_ne (ne b _ h (fun φ z => by cases z))]; exact h, fun b o u h => by rw [upd_ne (ne b _ h (fun φ z => by cases z))]; exact h, fun b P q h => by rw [upd_ne (fun e => nc P q (by rw [← e]; exact h))]; exact h,
    fun b ps h => ⟨ps, by rw [upd_ne (ne b _ h (fun φ z => by cases z))]; exact h⟩⟩
theorem Grow.more {H H' : Hp} {β β' β'' : List Addr} (g : Grow H H' β β') (h : β' <+: β'') : Grow H H' β β'' := ⟨g.pre.trans h, g.tup, g.frz, g.ext, g.tbl⟩

theorem SqT.grow {K : PySem.W.Frag} {H H' : Hp} {β β' : List Addr} {a : Addr} {xs : List V} (g : Grow H H' β β') (h : SqT K H a xs) : SqT K H' a xs := by
  rcases h with (h | ⟨o, h⟩) | h
  · exact .inl (.inl (g.tup _ _ h))
  · exact .inl (.inr ⟨o, g.frz _ _ _ h⟩)
  · exact .inr h
theorem get_pre {α : Type} {l l' : List α} (h : l <+: l') {n : Nat} {a : α} (e : l[n]? = some a) : l'[n]? = some a := by
  obtain ⟨t, rfl⟩ := h
  have hl := (List.getElem?_eq_some_iff.mp e).1
  rw [List.getElem?_append_left hl]
  exact e
section
variable {G : Pg} {H H' : Hp} {β β' : List Addr}
mutual
theorem RV.grow (g : Grow H H' β β') : ∀ {d : D} {v : V}, RV G H β d v → RV G H' β' d v
  | _, _, .none => .none
  | _, _, .bool b => .bool b
  | _, _, .int i => .int i
  | _, _, .str x => .str x
  | _, _, .tup h r => .tup (SqT.grow g h) (RVs.grow g r)
  | _, _, .loc h => .loc (get_pre g.pre h)
  | _, _, .fn k => .fn k
theorem RVs.grow (g : Grow H H' β β') : ∀ {ds : List D} {vs : List V}, RVs G H β ds vs → RVs G H' β' ds vs
  | _, _, .nil => .nil
  | _, _, .cons h r => .cons (RV.grow g h) (RVs.grow g r)
end
theorem RVs.length : ∀ {ds : List D} {vs : List V}, RVs G H β ds vs → ds.length = vs.length
  | _, _, .nil => rfl
  | _, _, .cons _ r => congrArg (· + 1) (RVs.length r)
theorem RVs.append : ∀ {ds es : List D} {vs ws : List V}, RVs G H β ds vs → RVs G H β es ws → RVs G H β (ds ++ es) (vs ++ ws)
  | _, _, _, _, .nil, r => r
  | _, _, _, _, .cons h t, r => .cons h (RVs.append t r)
theorem RVs.get : ∀ {ds : List D} {vs : List V} {i : Nat} {d : D}, RVs G H β ds vs → ds[i]? = some d → ∃ v, vs[i]? = some v ∧ RV G H β d v
  | _, _, _, _, .nil, e => by simp at e
  | _, _, 0, _, .cons h _, e => by simp at e; subst e; exact ⟨_, rfl, h⟩
  | _, _, i + 1, _, .cons _ t, e => by
    obtain ⟨v, h1, h2⟩ := RVs.get (i := i) t (by simpa using e)
    exact ⟨v, by simpa using h1, h2⟩
theorem RVs.get' : ∀ {ds : List D} {vs : List V} {i : Nat} {v : V}, RVs G H β ds vs → vs[i]? = some v → ∃ d, ds[i]? = some d ∧ RV G H β d v
  | _, _, _, _, .nil, e => by simp at e
  | _, _, 0, _, .cons h _, e => by simp at e; subst e; exact ⟨_, rfl, h⟩
  | _, _, i + 1, _, .cons _ t, e => by
    obtain ⟨v, h1, h2⟩ := RVs.get' (i := i) t (by simpa using e)
    exact ⟨v, by simpa using h1, h2⟩
theorem RVs.take : ∀ {ds : List D} {vs : List V} (n : Nat), RVs G H β ds vs → RVs G H β (ds.take n) (vs.take n)
  | _, _, 0, _ => by simpa using RVs.nil
  | _, _, _ + 1, .nil => by simpa using RVs.nil
  | _, _, n + 1, .cons h t => by simpa using RVs.cons h (RVs.take n t)
theorem RVs.drop : ∀ {ds : List D} {vs : List V} (n : Nat), RVs G H β ds vs → RVs G H β (ds.drop n) (vs.drop n)
  | _, _, 0, r => by simpa using r
  | _, _, _ + 1, .nil => by simpa using RVs.nil
  | _, _, n + 1, .cons h t => by simpa using RVs.drop n t
theorem RVs.set : ∀ {ds : List D} {vs : List V} {d : D} {v : V} (n : Nat), RV G H β d v → RVs G H β ds vs → RVs G H β (ds.set n d) (vs.set n v)
  | _, _, _, _, _, _, .nil => by simpa using RVs.nil
  | _, _, _, _, 0, q, .cons h t => by simpa using RVs.cons q t
  | _, _, _, _, n + 1, q, .cons h t => by simpa using RVs.cons h (RVs.set n q t)
theorem RVs.dropLast {ds : List D} {vs : List V} (h : RVs G H β ds vs) : RVs G H β ds.dropLast vs.dropLast := by
  rw [List.dropLast_eq_take, List.dropLast_eq_take, h.length]
  exact h.take _
theorem RVs.ints : ∀ {ds : List D} {vs : List V} {ns : List Int}, RVs G H β ds vs → D.ints ds = some ns → vs = ns.map V.int
  | _, _, _, .nil, e => by cases e; rfl
  | _, _, ns, .cons (d := d) h t, e => by
    cases h with
    | int i =>
      simp only [D.ints] at e
      cases q : D.ints _ with
      | none => rw [q] at e; cases e
      | some ms =>
        rw [q] at e
        cases e
        rw [RVs.ints t q]
        rfl
    | _ => cases e
theorem RVs.ofInts : ∀ (ns : List Int), RVs G H β (ns.map .int) (ns.map V.int)
  | [] => .nil
  | n :: ns => .cons (.int n) (RVs.ofInts ns)
end

/-! ### the store -/
/-- a dict's entries -/
inductive RKs (G : Pg) (H : Hp) (β : List Addr) : List (D × D) → List (Key × V) → Prop
  | nil : RKs G H β [] []
  | cons {k : Key} {d : D} {v : V} {r : List (D × D)} {q : List (Key × V)} : RV G H β d v → RKs G H β r q → RKs G H β ((keyD k, d) :: r) ((k, v) :: q)
theorem RKs.grow {G : Pg} {H H' : Hp} {β β' : List Addr} (g : Grow H H' β β') : ∀ {r : List (D × D)} {q : List (Key × V)}, RKs G H β r q → RKs G H' β' r q
  | _, _, .nil => .nil
  | _, _, .cons h t => .cons (h.grow g) (t.grow g)
def RO (G : Pg) (H : Hp) (β : List Addr) (a : Addr) : O → Prop
  | .lst xs => ∃ vs, H a = some (.lst vs) ∧ RVs G H β xs vs
  | .ro xs => ∃ vs o, H a = some (.frz o (.lst vs)) ∧ RVs G H β xs vs
  | .dct kvs => ∃ q, H a = some (.dK q) ∧ RKs G H β kvs q
  | .iset ks => ∃ F c, H a = some (SetO G.w a F c) ∧ (∀ k, F k = true ↔ k ∈ ks) ∧ c = ks.length ∧ ks.Nodup
  | .tset ks => ∃ L, H a = some (SetTO G.prog G.w a L) ∧ (∀ p ∈ L, SqT G.K H p.1 (p.2.map V.int)) ∧ (L.map (·.2)).Perm ks
structure SR (G : Pg) (H : Hp) (β : List Addr) (S : Sto) : Prop where
  len : β.length = S.length
  nd : β.Nodup
  at_ : ∀ (n : Nat) (o : O), S.get n = some o → ∃ a, β[n]? = some a ∧ RO G H β a o
structure Tabs (G : Pg) (H : Hp) : Prop where
  base : ∀ p ∈ G.tabs, ∃ ps, H p.2 = some (.tbl ps)
  ok : ∀ P ps, H P = some (.tbl ps) → TriplesOk ps.toList ∧ ∀ (pos : Pos) (cv : Value), codeAmong pos ps.toList = some cv → ∃ c P' q, cv = .ref c ∧ H c = some (CodeX c P' q) ∧ (∀ n, G.nm pos.line pos.col = some n → q = n) ∧ ∃ ps', H P' = some (.tbl ps')
structure At (G : Pg) (H : Hp) (β : List Addr) (S : Sto) : Prop where
  sr : SR G H β S
  tb : Tabs G H

section
variable {G : Pg} {H H' : Hp} {β β' : List Addr} {S : Sto}
theorem nodup_at {l : List Addr} (h : l.Nodup) {i j : Nat} {a : Addr} (e1 : l[i]? = some a) (e2 : l[j]? = some a) : i = j := by
  obtain ⟨h1, q1⟩ := List.getElem?_eq_some_iff.mp e1
  obtain ⟨h2, q2⟩ := List.getElem?_eq_some_iff.mp e2
  exact (List.getElem_inj h).mp (q1.trans q2.symm)
/-- tables stay where no table and no code object is touched -/
theorem Tabs.keep (t : Tabs G H) (h1 : ∀ a ps, H' a = some (.tbl ps) → H a = some (.tbl ps)) (h2 : ∀ a ps, H a = some (.tbl ps) → H' a = some (.tbl ps)) (h3 : ∀ c P q, H c = some (CodeX c P q) → H' c = some (CodeX c P q)) : Tabs G H' := by
  refine ⟨fun p hp => ?_, fun P ps e => ?_⟩
  · obtain ⟨ps, e⟩ := t.base p hp
    exact ⟨ps, h2 _ _ e⟩
  · obtain ⟨q1, q2⟩ := t.ok P ps (h1 _ _ e)
    refine ⟨q1, fun pos cv hc => ?_⟩
    obtain ⟨c, P', q, e1, e2, e4, ps', e3⟩ := q2 pos cv hc
    exact ⟨c, P', q, e1, h3 _ _ _ e2, e4, ps', h2 _ _ e3⟩
theorem Tabs.new (t : Tabs G H) {a : Addr} {o : HO} (hn : H a = none) (ho : ∀ ps, o ≠ .tbl ps) : Tabs G (upd H a o) := by
  have ne : ∀ b u, H b = some u → b ≠ a := fun b u h e => by rw [e, hn] at h; cases h
  refine t.keep (fun b ps e => ?_) (fun b ps e => by rw [upd_ne (ne b _ e)]; exact e) (fun b P q e => by rw [upd_ne (ne b _ e)]; exact e)
  by_cases hb : b = a
  · rw [hb, upd_same] at e
    exact absurd (Option.some.inj e) (ho ps)
  · rw [upd_ne hb] at e
    exact e
theorem Tabs.wr (t : Tabs G H) {a : Addr} {o u : HO} (hw : H a = some o) (w : Wr o) (hu : ∀ ps, u ≠ .tbl ps) : Tabs G (upd H a u) := by
  have ne : ∀ b u, H b = some u → ¬ Wr u → b ≠ a := fun b u h hn e => by rw [e, hw] at h; cases h; exact hn w
  refine t.keep (fun b ps e => ?_) (fun b ps e => by rw [upd_ne (ne b _ e (fun z => z))]; exact e) (fun b P q e => by rw [upd_ne (ne b _ e (fun z => z))]; exact e)
  by_cases hb : b = a
  · rw [hb, upd_same] at e
    exact absurd (Option.some.inj e) (hu ps)
  · rw [upd_ne hb] at e
    exact e
theorem RO.new {a b : Addr} {o : HO} {u : O} (hn : H b = none) (hb : a ≠ b) (r : RO G H β a u) (g : Grow H (upd H b o) β β') : RO G (upd H b o) β' a u := by
  cases u with
  | lst xs =>
    obtain ⟨vs, h, r⟩ := r
    exact ⟨vs, by rw [upd_ne hb]; exact h, r.grow g⟩
  | ro xs =>
    obtain ⟨vs, o', h, r⟩ := r
    exact ⟨vs, o', by rw [upd_ne hb]; exact h, r.grow g⟩
  | dct kvs =>
    obtain ⟨q, h, r⟩ := r
    exact ⟨q, by rw [upd_ne hb]; exact h, r.grow g⟩
  | tset ks =>
    obtain ⟨L, h, r, p⟩ := r
    exact ⟨L, by rw [upd_ne hb]; exact h, fun q hq => SqT.grow g (r q hq), p⟩
  | iset ks =>
    obtain ⟨F, c, h, r⟩ := r
    exact ⟨F, c, by rw [upd_ne hb]; exact h, r⟩
/-- the tracked store with an object that is no place: a tuple -/
theorem At.tup (x : At G H β S) {p : Addr} {vs : List V} (hn : H p = none) (hβ : p ∉ β) : At G (upd H p (.tup vs)) β S := by
  refine ⟨⟨x.sr.len, x.sr.nd, fun n o e => ?_⟩, x.tb.new hn (fun ps z => by cases z)⟩
  obtain ⟨a, ha, r⟩ := x.sr.at_ n o e
  exact ⟨a, ha, r.new hn (fun z => hβ (by rw [← z]; exact List.mem_of_getElem? ha)) (Grow.new hn)⟩
theorem push_get {S : Sto} {u w : O} {n : Nat} (e : (S.push u).get n = some w) : S.get n = some w ∨ (n = S.length ∧ w = u) := by
  unfold Sto.push Sto.get at *
  by_cases hlt : n < List.length S
  · rw [List.getElem?_append_left hlt] at e
    exact .inl e
  · have := (List.getElem?_eq_some_iff.mp e).1
    have hn : n = List.length S := by simp at this; omega
    subst hn
    rw [List.getElem?_append_right (Nat.le_refl _)] at e
    simp at e
    exact .inr ⟨rfl, e.symm⟩
theorem put_get {S : Sto} {k n : Nat} {u w : O} (e : (S.put k u).get n = some w) : (k = n ∧ w = u) ∨ (k ≠ n ∧ S.get n = some w) := by
  unfold Sto.put Sto.get at *
  by_cases hk : k = n
  · subst hk
    have hlt : k < List.length S := by
      have := (List.getElem?_eq_some_iff.mp e).1
      simpa using this
    rw [List.getElem?_set_self hlt] at e
    exact .inl ⟨rfl, (Option.some.inj e).symm⟩
  · rw [List.getElem?_set_ne hk] at e
    exact .inr ⟨hk, e⟩
/-- a new place -/
theorem At.push (x : At G H β S) {p : Addr} {o : HO} {u : O} (hn0 : H p = none) (hβ : p ∉ β) (hu : RO G (upd H p o) (β ++ [p]) p u) (ho : ∀ ps, o ≠ .tbl ps) : At G (upd H p o) (β ++ [p]) (S.push u) := by
  have g : Grow H (upd H p o) β (β ++ [p]) := (Grow.new hn0).more (List.prefix_append _ _)
  refine ⟨⟨by simp [Sto.push, x.sr.len], ?_, fun n w e => ?_⟩, x.tb.new hn0 ho⟩
  · rw [List.nodup_append]
    exact ⟨x.sr.nd, by simp, fun a ha b hb => by simp at hb; subst hb; exact fun z => hβ (z ▸ ha)⟩
  · rcases push_get e with e' | ⟨hn, hw⟩
    · obtain ⟨a, ha, r⟩ := x.sr.at_ n w e'
      exact ⟨a, get_pre (List.prefix_append _ _) ha, r.new hn0 (fun z => hβ (by rw [← z]; exact List.mem_of_getElem? ha)) g⟩
    · subst hn
      subst hw
      refine ⟨p, ?_, hu⟩
      have hl : β.length = List.length S := x.sr.len
      rw [← hl, List.getElem?_append_right (Nat.le_refl _)]
      simp
/-- a place written -/
theorem At.putG (x : At G H β S) {k : Nat} {p : Addr} {u : HO} {w : O} (hk : β[k]? = some p) (g : Grow H (upd H p u) β β) (t : Tabs G (upd H p u)) (hu : RO G (upd H p u) β p w) : At G (upd H p u) β (S.put k w) := by
  refine ⟨⟨by simp [Sto.put, x.sr.len], x.sr.nd, fun n v e => ?_⟩, t⟩
  rcases put_get e with ⟨hkn, hv⟩ | ⟨hkn, e⟩
  · subst hkn
    subst hv
    exact ⟨p, hk, hu⟩
  · obtain ⟨a, ha, r⟩ := x.sr.at_ n v e
    have hap : a ≠ p := fun z => hkn (nodup_at x.sr.nd hk (z ▸ ha))
    refine ⟨a, ha, ?_⟩
    cases v with
    | lst xs =>
      obtain ⟨vs, h, r⟩ := r
      exact ⟨vs, by rw [upd_ne hap]; exact h, r.grow g⟩
    | ro xs =>
      obtain ⟨vs, o', h, r⟩ := r
      exact ⟨vs, o', by rw [upd_ne hap]; exact h, r.grow g⟩
    | dct kvs =>
      obtain ⟨q, h, r⟩ := r
      exact ⟨q, by rw [upd_ne hap]; exact h, r.grow g⟩
    | tset ks =>
      obtain ⟨L, h, r, p⟩ := r
      exact ⟨L, by rw [upd_ne hap]; exact h, fun q hq => SqT.grow g (r q hq), p⟩
    | iset ks =>
      obtain ⟨F, c, h, r⟩ := r
      exact ⟨F, c, by rw [upd_ne hap]; exact h, r⟩
theorem At.put (x : At G H β S) {k : Nat} {p : Addr} {o u : HO} {w : O} (hk : β[k]? = some p) (hw : H p = some o) (ww : Wr o) (hu : RO G (upd H p u) β p w) (ho : ∀ ps, u ≠ .tbl ps) : At G (upd H p u) β (S.put k w) :=
  x.putG hk (Grow.wr hw ww) (x.tb.wr hw ww ho) hu
/-- tables stay where a set is written -/
theorem Tabs.wrx (t : Tabs G H) {a : Addr} {φ : Heap → Prop} {u : HO} (hw : H a = some (.ext φ)) (nc : ∀ P q, H a ≠ some (CodeX a P q)) (hu : ∀ ps, u ≠ .tbl ps) : Tabs G (upd H a u) := by
  have ne : ∀ b u, H b = some u → (∀ φ, u ≠ .ext φ) → b ≠ a := fun b u h hn e => by rw [e, hw] at h; cases h; exact hn _ rfl
  refine t.keep (fun b ps e => ?_) (fun b ps e => by rw [upd_ne (ne b _ e (fun φ z => by cases z))]; exact e) (fun b P q e => by rw [upd_ne (fun z => nc P q (by rw [← z]; exact e))]; exact e)
  by_cases hb : b = a
  · rw [hb, upd_same] at e
    exact absurd (Option.some.inj e) (hu ps)
  · rw [upd_ne hb] at e
    exact e
/-- a set's place written -/
theorem At.putx (x : At G H β S) {k : Nat} {p : Addr} {φ : Heap → Prop} {u : HO} {w : O} (hk : β[k]? = some p) (hw : H p = some (.ext φ)) (nc : ∀ P q, H p ≠ some (CodeX p P q)) (hu : RO G (upd H p u) β p w) (ho : ∀ ps, u ≠ .tbl ps) : At G (upd H p u) β (S.put k w) :=
  x.putG hk (Grow.wrx hw nc) (x.tb.wrx hw nc ho) hu
/-- a tracked place is no free address -/
theorem At.there (x : At G H β S) {p : Addr} (h : p ∈ β) : ∃ o, H p = some o := by
  obtain ⟨n, hn, e⟩ := List.getElem_of_mem h
  have hlt : n < List.length S := by have hl : β.length = List.length S := x.sr.len; rw [← hl]; exact hn
  obtain ⟨o, ho⟩ : ∃ o, S.get n = some o := ⟨_, List.getElem?_eq_getElem hlt⟩
  obtain ⟨a, ha, r⟩ := x.sr.at_ n o ho
  have ea : a = p := by
    rw [List.getElem?_eq_getElem hn, e] at ha
    exact (Option.some.inj ha).symm
  subst ea
  cases o with
  | lst xs =>
    obtain ⟨vs, h, _⟩ := r
    exact ⟨_, h⟩
  | ro xs =>
    obtain ⟨vs, o, h, _⟩ := r
    exact ⟨_, h⟩
  | dct kvs =>
    obtain ⟨z, h, _⟩ := r
    exact ⟨_, h⟩
  | tset ks =>
    obtain ⟨z, h, _⟩ := r
    exact ⟨_, h⟩
  | iset ks =>
    obtain ⟨z, c, h, _⟩ := r
    exact ⟨_, h⟩
theorem At.fresh (x : At G H β S) {p : Addr} (h : H p = none) : p ∉ β := fun q => by
  obtain ⟨o, e⟩ := x.there q
  rw [h] at e
  cases e
/-- what a place has -/
theorem At.get (x : At G H β S) {k : Nat} {o : O} {v : V} (r : RV G H β (.loc k) v) (e : S.get k = some o) : ∃ a, v = .ref a ∧ β[k]? = some a ∧ RO G H β a o := by
  cases r with
  | loc h =>
    obtain ⟨a, ha, q⟩ := x.sr.at_ k o e
    rw [h] at ha
    cases ha
    exact ⟨_, rfl, h, q⟩
end
end EV
/-! EvD: how runs of the evaluator are held against runs of the model (own work). -/
namespace EV
open PySem PySem.Spec PyProof.Rows L2

/-! ### what is wanted of a run -/
def RW {α : Type} (r : M α) (Q : α → Sto → Prop) (W : Xc → Sto → Prop) : Prop := match r with
  | .ok a s => Q a s
  | .exc x s => W x s
  | .bad => False
theorem RW.mono {α : Type} {r : M α} {Q Q' : α → Sto → Prop} {W W' : Xc → Sto → Prop} (h : RW r Q W) (q : ∀ a s, Q a s → Q' a s) (w : ∀ x s, W x s → W' x s) : RW r Q' W' := by
  cases r with
  | ok a s => exact q _ _ h
  | exc x s => exact w _ _ h
  | bad => exact h
theorem RW.step {α γ : Type} {r : M α} {f : α → Sto → M γ} {Q : γ → Sto → Prop} {Q' : α → Sto → Prop} {W : Xc → Sto → Prop} (h : RW (r.bind f) Q W) (q : ∀ a s, RW (f a s) Q W → Q' a s) : RW r Q' W := by
  cases r with
  | ok a s => exact q _ _ h
  | exc x s => exact h
  | bad => exact h
theorem RW.up {α : Type} {r : R α} {Q : α → Sto → Prop} {W : Xc → Sto → Prop} (h : RW r.up Q W) : ∃ a s, r = .ok a s ∧ Q a s := by
  cases r with
  | ok a s => exact ⟨a, s, rfl, h⟩
  | bad => exact h.elim
theorem RW.ofO {α : Type} {o : Option α} {s : Sto} {Q : α → Sto → Prop} {W : Xc → Sto → Prop} (h : RW (M.ofO o s) Q W) : ∃ a, o = some a ∧ Q a s := by
  cases o with
  | some a => exact ⟨a, rfl, h⟩
  | none => exact h.elim
theorem RW.calm {α : Type} {r : M α} {Q : α → Sto → Prop} {W W' : Xc → Sto → Prop} (h : RW r.calm Q W) : RW r Q W' := by
  cases r with
  | ok a s => exact h
  | exc x s => exact h.elim
  | bad => exact h

section
variable (G : Pg)
/-- an exception, as a run of the model lets it out -/
def XR (cad : Nat → Addr) (H : Hp) (β : List Addr) (x : Xc) (c : Value) (d : Option Addr) : Prop := c = .ref (cad x.k) ∧ ∃ (a : Addr) (fs : List (Str × V)), d = some a ∧ H a = some (.xd fs) ∧ Paired (fun (p : Str × D) (q : Str × V) => p.1 = q.1 ∧ RV G H β p.2 q.2) x.fs fs
def KG {α ω : Type} (rel : Hp → List Addr → α → ω → Prop) (H : Hp) (β : List Addr) (k : ω → Hp → Prop) : α → Sto → Prop := fun a S => ∀ (w : ω) (H' : Hp) (β' : List Addr), Grow H H' β β' → At G H' β' S → rel H' β' a w → k w H'
def KX (cad : Nat → Addr) (H : Hp) (β : List Addr) (W : XK) : Xc → Sto → Prop := fun x S => ∀ (c : Value) (d : Option Addr) (H' : Hp) (β' : List Addr), Grow H H' β β' → At G H' β' S → XR G cad H' β' x c d → W c d H'
end
theorem RW.grow {G : Pg} {cad : Nat → Addr} {α ω : Type} {rel : Hp → List Addr → α → ω → Prop} {r : M α} {H H1 : Hp} {β β1 : List Addr} {k : ω → Hp → Prop} {W : XK} (g : Grow H H1 β β1) (h : RW r (KG G rel H β k) (KX G cad H β W)) :
    RW r (KG G rel H1 β1 k) (KX G cad H1 β1 W) := h.mono (fun _ _ q w H' β' g' => q w H' β' (g.trans g')) fun _ _ q c d H' β' g' => q c d H' β' (g.trans g')

/-! ### the names' values -/
/-- what holds of the program's own names through the whole law -/
structure Lam (G : Pg) (fnN conN : List Str) (h0 : Heap) (H0 : Hp) (fs : List Addr) (H : Hp) (β : List Addr) (ps : List Nat) (body : E) (w : Env) (f : Addr) (N : List Str) (n : Nat) (c P : Addr) (pm ctv : Value) (params : Arguments) (be : Expr) (scope : Scope) (q : Str) (cells : List (Str × Addr)) : Prop where
  nd : N.Nodup
  obj : h0.get? f = some (PySem.W.kla_obj "<lambda>" q params be scope cells pm c ctv)
  fre : H0 f = none
  nfs : f ∉ fs
  code : H c = some (CodeX c P q)
  tab : ∃ ps, H P = some (.tbl ps)
  comp : ∃ ql, cE ⟨N, fnN, conN, G.nm, ql⟩ n 2 scope be = some body
  par : slots N (params.args.map (·.arg)) = some ps
  ok : ∃ sc, lamOk N sc scope params = true
  len : w.length = N.length
  inj : ∀ x y a, (x, a) ∈ cells → (y, a) ∈ cells → x = y
  uni : ∀ x a b, (x, a) ∈ cells → (x, b) ∈ cells → a = b
  fr : ∀ x a, (x, a) ∈ cells → scope.names.lookup x = some .free
  cell : ∀ x a, (x, a) ∈ cells → H0 a = none ∧ ∃ v, h0.IsCell a v
  has : ∀ y ∈ scope.names, y.2 = .free → ∃ a, cells.lookup y.1 = some a
  cap : ∀ (i : Nat) (x : Str) (d : D), N[i]? = some x → w[i]? = some (some d) → scope.names.lookup x = some .free ∧ ∃ a u v, cells.lookup x = some a ∧ h0.IsCell a (some u) ∧ RelV v u ∧ RV G H β d v
/-- a lambda's object, where a def got it -/
def CloR (G : Pg) (fnN conN : List Str) (h0 : Heap) (H0 : Hp) (fs : List Addr) (H : Hp) (β : List Addr) : D → V → Prop
  | .clo ps body w, .ref f => ∃ N n c P pm ctv params be scope q cells, Lam G fnN conN h0 H0 fs H β ps body w f N n c P pm ctv params be scope q cells
  | _, _ => False
theorem CloR.grow {G : Pg} {fnN conN : List Str} {h0 : Heap} {H0 : Hp} {fs : List Addr} {H H' : Hp} {β β' : List Addr} {d : D} {v : V} (g : Grow H H' β β') (h : CloR G fnN conN h0 H0 fs H β d v) : CloR G fnN conN h0 H0 fs H' β' d v := by
  cases d <;> cases v <;> try exact h
  obtain ⟨N, n, c, P, pm, ctv, params, be, scope, q, cells, h⟩ := h
  refine ⟨N, n, c, P, pm, ctv, params, be, scope, q, cells, h.nd, h.obj, h.fre, h.nfs, g.ext _ _ _ h.code, ?_, h.comp, h.par, h.ok, h.len, h.inj, h.uni, h.fr, h.cell, h.has, fun i x d e1 e2 => ?_⟩
  · obtain ⟨ps, e⟩ := h.tab
    exact g.tbl _ _ e
  · obtain ⟨h1, a, u, v, e3, e4, e5, e6⟩ := h.cap i x d e1 e2
    exact ⟨h1, a, u, v, e3, e4, e5, e6.grow g⟩
/-- a value that a name may have -/
def RA (G : Pg) (fnN conN : List Str) (X : Cx) (H : Hp) (β : List Addr) (d : D) (v : V) : Prop := RV G H β d v ∨ (X.ex = [] ∧ CloR G fnN conN X.s_0.heap X.H_0 X.fs H β d v)
structure ER (G : Pg) (fnN conN : List Str) (X : Cx) (H : Hp) (β : List Addr) (ρ : Env) (σ : L2.St) : Prop where
  len : ρ.length = σ.length
  code : CodeV X.base X.env.code H
  at_ : ∀ (i : Nat) (d : D), ρ[i]? = some (some d) → ∃ v, σ[i]? = some (some v) ∧ RA G fnN conN X H β d v
theorem RA.grow {G : Pg} {fnN conN : List Str} {X : Cx} {H H' : Hp} {β β' : List Addr} {d : D} {v : V} (g : Grow H H' β β') (h : RA G fnN conN X H β d v) : RA G fnN conN X H' β' d v := h.elim (fun h => .inl (h.grow g)) fun h => .inr ⟨h.1, h.2.grow g⟩
theorem ER.grow {G : Pg} {fnN conN : List Str} {X : Cx} {H H' : Hp} {β β' : List Addr} {ρ : Env} {σ : L2.St} (g : Grow H H' β β') (h : ER G fnN conN X H β ρ σ) : ER G fnN conN X H' β' ρ σ :=
  ⟨h.len, h.code.grow g, fun i d e => by
    obtain ⟨v, e1, r⟩ := h.at_ i d e
    exact ⟨v, e1, r.grow g⟩⟩
theorem ER.set {G : Pg} {fnN conN : List Str} {X : Cx} {H : Hp} {β : List Addr} {ρ : Env} {σ : L2.St} {d : D} {v : V} (i : Nat) (h : ER G fnN conN X H β ρ σ) (r : RV G H β d v) : ER G fnN conN X H β (ρ.set i (some d)) (σ.set i (some v)) := by
  refine ⟨by simp [h.len], h.code, fun j d' e => ?_⟩
  by_cases hij : i = j
  · subst hij
    have hl : i < ρ.length := by have := (List.getElem?_eq_some_iff.mp e).1; simpa using this
    rw [List.getElem?_set_self hl] at e
    cases e
    exact ⟨v, List.getElem?_set_self (by rw [← h.len]; exact hl), .inl r⟩
  · rw [List.getElem?_set_ne hij] at e ⊢
    exact h.at_ j d' e
theorem wipe_len (ρ : Env) : ∀ vs : List Nat, (wipe ρ vs).length = ρ.length
  | [] => rfl
  | v :: vs => by unfold wipe; rw [List.length_set, wipe_len ρ vs]
theorem wipe_get (ρ : Env) (j : Nat) : ∀ vs : List Nat, (wipe ρ vs)[j]? = if j ∈ vs then (if j < ρ.length then some none else none) else ρ[j]?
  | [] => by simp [wipe]
  | v :: vs => by
    unfold wipe
    by_cases h : v = j
    · subst h
      by_cases hl : v < ρ.length
      · rw [List.getElem?_set_self (by rw [wipe_len]; exact hl)]
        simp [hl]
      · rw [List.getElem?_eq_none (by simp [wipe_len]; omega)]
        simp [hl]
    · rw [List.getElem?_set_ne h, wipe_get ρ j vs]
      have : j ≠ v := fun e => h e.symm
      simp [this]
theorem wipeS_get (σ : L2.St) (j : Nat) : ∀ vs : List Nat, (L2.wipe σ vs)[j]? = if j ∈ vs then (if j < σ.length then some none else none) else σ[j]?
  | [] => by simp [L2.wipe]
  | v :: vs => by
    unfold L2.wipe
    by_cases h : v = j
    · subst h
      by_cases hl : v < σ.length
      · rw [List.getElem?_set_self (by rw [L2.wipe_length]; exact hl)]
        simp [hl]
      · rw [List.getElem?_eq_none (by simp [L2.wipe_length]; omega)]
        simp [hl]
    · rw [List.getElem?_set_ne h, wipeS_get σ j vs]
      have : j ≠ v := fun e => h e.symm
      simp [this]

/-! ### readings -/
/-- what stands fixed about a law: the program's part, its own names, the classes' addresses -/
structure Lw where
  G : Pg
  fnN : List Str
  conN : List Str
  cad : Nat → Addr
abbrev Lw.C (L : Lw) (N : List Str) (ql : Str) : Cc := ⟨N, L.fnN, L.conN, L.G.nm, ql⟩
section
variable (L : Lw) (X : Cx) (W : WX)
/-- the reading that a run of the evaluator gives -/
def Of {α ω : Type} (rel : Hp → List Addr → α → ω → Prop) (ev : Env → Sto → M α) (σ : L2.St) (H : Hp) (k : ω → Hp → Prop) : Prop :=
  ∃ (ρ : Env) (S : Sto) (β : List Addr), ER L.G L.fnN L.conN X H β ρ σ ∧ At L.G H β S ∧ RW (ev ρ S) (KG L.G rel H β k) (KX L.G L.cad H β fun c d H' => W c d σ H')
abbrev OfE (ev : Env → Sto → M D) : TE := Of L X W (RV L.G) ev
abbrev OfT (ev : Env → Sto → M Bool) : TT := Of L X W (fun _ _ (a b : Bool) => a = b) ev
abbrev OfA (ev : Env → Sto → M (List D)) : TA := Of L X W (RVs L.G) ev
end
theorem _root_.L2.PE.imp {X : Cx} {e : Expr} {t t' : TE} (h : PE X e t) (i : ∀ σ H Q, t' σ H Q → t σ H Q) : PE X e t' := ⟨fun pins s σ H Q I q => h.run pins s σ H Q I (i _ _ _ q)⟩
theorem _root_.L2.PT.imp {X : Cx} {e : Expr} {t t' : TT} (h : PT X e t) (i : ∀ σ H Q, t' σ H Q → t σ H Q) : PT X e t' := ⟨fun pins s σ H Q I q => h.run pins s σ H Q I (i _ _ _ q)⟩
theorem _root_.L2.PW.imp {X : Cx} {e : Expr} {t t' : TT} (h : PW X e t) (i : ∀ σ H Q, t' σ H Q → t σ H Q) : PW X e t' := ⟨fun w pins s σ H Q I q => h.run w pins s σ H Q I (i _ _ _ q)⟩
theorem _root_.L2.PA.imp {X : Cx} {e : List Expr} {t t' : TA} (h : PA X e t) (i : ∀ σ H Q, t' σ H Q → t σ H Q) : PA X e t' := ⟨fun pos pins s σ H Q I q => h.run pos pins s σ H Q I (i _ _ _ q)⟩
theorem _root_.L2.PS.imp {X : Cx} {e : Stmt} {t t' : TS} (h : PS X e t) (i : ∀ D σ H, t' D σ H → t D σ H) : PS X e t' := ⟨fun pins s σ H D I q => h.run pins s σ H D I (i _ _ _ q)⟩
theorem _root_.L2.PSs.imp {X : Cx} {e : List Stmt} {t t' : TS} (h : PSs X e t) (i : ∀ D σ H, t' D σ H → t D σ H) : PSs X e t' := ⟨fun pins s σ H D I q => h.run pins s σ H D I (i _ _ _ q)⟩
theorem _root_.L2.PG.imp {X : Cx} {e : Expr} {t t' : TG} (h : PG X e t) (i : ∀ v σ H Q, t' v σ H Q → t v σ H Q) : PG X e t' := ⟨fun pins s σ H v u Q I r q => h.run pins s σ H v u Q I r (i _ _ _ _ q)⟩
theorem _root_.L2.PI.imp {X : Cx} {tg e : Expr} {t t' : TI} (h : PI X tg e t) (i : ∀ σ H Q, t' σ H Q → t σ H Q) : PI X tg e t' := ⟨fun pins s σ H Q I q => h.run pins s σ H Q I (i _ _ _ q)⟩
/-- a two-place operation by the evaluator's -/
def rF2 (L : Lw) (f : D → D → Sto → R D) : R2 := fun x y H Q => ∃ dx dy S β a S', RV L.G H β dx x ∧ RV L.G H β dy y ∧ At L.G H β S ∧ f dx dy S = .ok a S' ∧ KG L.G (RV L.G) H β Q a S'
def rF1 (L : Lw) (f : D → Sto → R D) : V → Hp → VK → Prop := fun x H Q => ∃ dx S β a S', RV L.G H β dx x ∧ At L.G H β S ∧ f dx S = .ok a S' ∧ KG L.G (RV L.G) H β Q a S'
def rFs (L : Lw) (f : List D → Sto → R D) : List V → Hp → VK → Prop := fun xs H Q => ∃ ds S β a S', RVs L.G H β ds xs ∧ At L.G H β S ∧ f ds S = .ok a S' ∧ KG L.G (RV L.G) H β Q a S'
theorem of_op {L : Lw} {X : Cx} {W : WX} {eva evb : Env → Sto → M D} {f : D → D → Sto → R D} {σ : L2.St} {H : Hp} {Q : VK} (h : OfE L X W (fun ρ s => (eva ρ s).bind fun x s1 => (evb ρ s1).bind fun y s2 => (f x y s2).up) σ H Q) :
    tOp (rF2 L f) (OfE L X W eva) (OfE L X W evb) σ H Q := by
  obtain ⟨ρ, S, β, er, at_, h⟩ := h
  refine ⟨ρ, S, β, er, at_, RW.step h fun x S1 h v H1 β1 g1 at1 rx => ?_⟩
  refine ⟨ρ, S1, β1, er.grow g1, at1, RW.step (RW.grow g1 h) fun y S2 h u H2 β2 g2 at2 ry => ?_⟩
  obtain ⟨a, S', e, q⟩ := RW.up (RW.grow g2 h)
  exact ⟨x, y, S2, β2, a, S', rx.grow g2, ry, at2, e, q⟩
theorem of_un {L : Lw} {X : Cx} {W : WX} {eva : Env → Sto → M D} {f : D → Sto → R D} {σ : L2.St} {H : Hp} {Q : VK} (h : OfE L X W (fun ρ s => (eva ρ s).bind fun x s1 => (f x s1).up) σ H Q) :
    tUn (rF1 L f) (OfE L X W eva) σ H Q := by
  obtain ⟨ρ, S, β, er, at_, h⟩ := h
  refine ⟨ρ, S, β, er, at_, RW.step h fun x S1 h v H1 β1 g1 at1 rx => ?_⟩
  obtain ⟨a, S', e, q⟩ := RW.up (RW.grow g1 h)
  exact ⟨x, S1, β1, a, S', rx, at1, e, q⟩
end EV
/-! EvP: the evaluator's operations are the model's (own work). -/
namespace EV
open PySem PySem.Spec PyProof.Rows L2

/-! ### data read -/
section
variable {G : Pg} {H : Hp} {β : List Addr} {S : Sto}
theorem RV.lstAt (at_ : At G H β S) {k : Nat} {v : V} {xs : List D} (r : RV G H β (.loc k) v) (e : S.get k = some (.lst xs)) : ∃ a vs, v = .ref a ∧ β[k]? = some a ∧ H a = some (.lst vs) ∧ RVs G H β xs vs := by
  obtain ⟨a, rfl, hb, vs, h, q⟩ := at_.get r e
  exact ⟨a, vs, rfl, hb, h, q⟩
theorem RV.roAt (at_ : At G H β S) {k : Nat} {v : V} {xs : List D} (r : RV G H β (.loc k) v) (e : S.get k = some (.ro xs)) : ∃ a vs o, v = .ref a ∧ β[k]? = some a ∧ H a = some (.frz o (.lst vs)) ∧ RVs G H β xs vs := by
  obtain ⟨a, rfl, hb, vs, o, h, q⟩ := at_.get r e
  exact ⟨a, vs, o, rfl, hb, h, q⟩
theorem RV.dctAt (at_ : At G H β S) {k : Nat} {v : V} {kvs : List (D × D)} (r : RV G H β (.loc k) v) (e : S.get k = some (.dct kvs)) : ∃ a q, v = .ref a ∧ β[k]? = some a ∧ H a = some (.dK q) ∧ RKs G H β kvs q := by
  obtain ⟨a, rfl, hb, vs, h, q⟩ := at_.get r e
  exact ⟨a, vs, rfl, hb, h, q⟩
/-- a list of either kind -/
theorem RV.seqAt (at_ : At G H β S) {k : Nat} {v : V} {xs : List D} (r : RV G H β (.loc k) v) (e : S.get k = some (.lst xs) ∨ S.get k = some (.ro xs)) : ∃ a vs, v = .ref a ∧ SqL G.K H a vs ∧ RVs G H β xs vs := by
  rcases e with e | e
  · obtain ⟨a, vs, h1, _, h2, h3⟩ := r.lstAt at_ e
    exact ⟨a, vs, h1, SqL.of h2, h3⟩
  · obtain ⟨a, vs, o, h1, _, h2, h3⟩ := r.roAt at_ e
    exact ⟨a, vs, h1, .inl (.inr ⟨o, h2⟩), h3⟩
theorem mapM_dp {f : D → Option PyData} (ih : ∀ d v p, RV G H β d v → f d = some p → Dp G.K H v p) : ∀ {ds : List D} {vs : List V} {ps : List PyData}, RVs G H β ds vs → ds.mapM f = some ps → DpAll G.K H vs ps
  | [], _, ps, .nil, e => by
    simp at e
    subst e
    exact .nil
  | d :: ds, _, ps, .cons r t, e => by
    simp only [List.mapM_cons, bind, Option.bind_eq_some_iff, pure, Option.some.injEq] at e
    obtain ⟨p, h1, qs, h2, rfl⟩ := e
    exact .cons (ih _ _ _ r h1) (mapM_dp ih t h2)
theorem RV.dp (at_ : At G H β S) : ∀ (n : Nat) (d : D) (v : V) (p : PyData), RV G H β d v → D.read S n d = some p → Dp G.K H v p
  | 0, _, _, _, _, e => by simp [D.read] at e
  | n + 1, d, v, p, r, e => by
    have ih := RV.dp at_ n
    cases d with
    | none => cases r; cases e; exact .non
    | bool b => cases r; cases e; exact .bl b
    | int i => cases r; cases e; exact .int i
    | str x => cases r; cases e; exact .str x
    | tup ds =>
      cases r with
      | tup hs rs =>
        simp only [D.read, Option.map_eq_some_iff] at e
        obtain ⟨ps, h1, rfl⟩ := e
        exact .tup hs (mapM_dp ih rs h1)
    | loc k =>
      simp only [D.read] at e
      split at e
      · rename_i xs hx
        obtain ⟨a, vs, rfl, hs, rs⟩ := r.seqAt at_ (.inl hx)
        simp only [Option.map_eq_some_iff] at e
        obtain ⟨ps, h1, rfl⟩ := e
        exact .lst hs (mapM_dp ih rs h1)
      · rename_i xs hx
        obtain ⟨a, vs, rfl, hs, rs⟩ := r.seqAt at_ (.inr hx)
        simp only [Option.map_eq_some_iff] at e
        obtain ⟨ps, h1, rfl⟩ := e
        exact .lst hs (mapM_dp ih rs h1)
      · cases e
    | fn k => simp [D.read] at e
    | clo ps b w => simp [D.read] at e
theorem RV.rd (at_ : At G H β S) {d : D} {v : V} {p : PyData} (r : RV G H β d v) (e : d.rd S = some p) : Dp G.K H v p ∧ SeqAt.shaped p = true := by
  unfold D.rd at e
  split at e
  · rename_i q hq
    split at e
    · rename_i hs
      cases e
      exact ⟨r.dp at_ _ _ _ _ hq, hs⟩
    · cases e
  · cases e
/-! ### what new things are -/
theorem kg_same {Q : VK} {d : D} {v : V} (at_ : At G H β S) (r : RV G H β d v) (h : KG G (RV G) H β Q d S) : Q v H := h v H β Grow.refl at_ r
theorem kg_tup {Q : VK} {ds : List D} {vs : List V} (at_ : At G H β S) (r : RVs G H β ds vs) (h : KG G (RV G) H β Q (.tup ds) S) : ∀ p, H p = none → Q (.ref p) (upd H p (.tup vs)) := fun p hp =>
  h (.ref p) _ β (Grow.new hp) (at_.tup hp (at_.fresh hp)) (.tup (SqT.of upd_same) (r.grow (Grow.new hp)))
theorem kg_new {Q : VK} {u : O} {o : HO} (at_ : At G H β S) (p : Addr) (hp : H p = none) (ho : ∀ ps, o ≠ .tbl ps) (hu : RO G (upd H p o) (β ++ [p]) p u) (h : KG G (RV G) H β Q (.loc S.nxt) (S.push u)) : Q (.ref p) (upd H p o) := by
  refine h (.ref p) _ (β ++ [p]) ((Grow.new hp).more (List.prefix_append _ _)) (at_.push hp (at_.fresh hp) hu ho) (.loc ?_)
  have hl : β.length = List.length S := at_.sr.len
  show (β ++ [p])[List.length S]? = some p
  rw [← hl, List.getElem?_append_right (Nat.le_refl _)]
  simp
theorem kg_lst {Q : VK} {ds : List D} {vs : List V} (at_ : At G H β S) (r : RVs G H β ds vs) (h : KG G (RV G) H β Q (.loc S.nxt) (S.push (.lst ds))) : ∀ p, H p = none → Q (.ref p) (upd H p (.lst vs)) := fun p hp =>
  kg_new at_ p hp (fun ps z => by cases z) (show RO G _ _ p (.lst ds) from ⟨vs, upd_same, r.grow ((Grow.new hp).more (List.prefix_append _ _))⟩) h
theorem if_ok {α : Type} {c : Prop} [Decidable c] {x a : α} {s s' : Sto} (h : (if c then R.ok x s else R.bad) = R.ok a s') : c ∧ a = x ∧ s' = s := by
  by_cases hc : c
  · rw [if_pos hc] at h
    cases h
    exact ⟨hc, rfl, rfl⟩
  · rw [if_neg hc] at h
    cases h
theorem inLine_iff {n : Nat} (h : inLine n = true) : n ≤ sizeLine := of_decide_eq_true h
theorem mkTup_ok {xs : List D} {a : D} {s s' : Sto} (h : mkTup xs s = .ok a s') : xs.length ≤ sizeLine ∧ a = .tup xs ∧ s' = s := by
  obtain ⟨h1, h2, h3⟩ := if_ok h
  exact ⟨inLine_iff h1, h2, h3⟩
theorem mkList_ok {xs : List D} {a : D} {s s' : Sto} (h : mkList xs s = .ok a s') : xs.length ≤ sizeLine ∧ a = .loc s.nxt ∧ s' = s.push (.lst xs) := by
  obtain ⟨h1, h2, h3⟩ := if_ok h
  exact ⟨inLine_iff h1, h2, h3⟩
end
/-! ### operators -/
section
variable {L : Lw} {X : Cx}
def opOf : O2 → Operator
  | .add => .Add
  | .sub => .Sub
  | .mul => .Mult
  | .mod => .Mod
  | .fdiv => .FloorDiv
  | .pow => .Pow
theorem o2Of_eq {op : Operator} {o : O2} (h : o2Of op = some o) : op = opOf o := by
  cases op <;> simp only [o2Of, Option.some.injEq, reduceCtorEq] at h <;> subst h <;> rfl
theorem small_iff {i : Int} (h : small i = true) : -(2 ^ 64) < i ∧ i < 2 ^ 64 := of_decide_eq_true h
theorem mulOk_of {x : Str} {n : Int} (h : 0 ≤ n ∧ n < 1073741824 ∧ x.length * n.toNat ≤ PySem.sizeLine ∧ x.length < 1073741824) : MulOk x n := by
  obtain ⟨h0, h1, h2, h3⟩ := h
  refine ⟨?_, fun h4 _ h5 => ?_, fun _ _ => ?_⟩
  · rw [decide_eq_false (by omega), decide_eq_false (by omega)]
    rfl
  · have h6 : (8589934592 : Int) ≤ (2 ^ 63 - 1) / n := Int.le_ediv_of_mul_le (by omega) (by omega)
    omega
  · exact decide_eq_false (by omega)
theorem op_o2 (hK : X.K = L.G.K) (o : O2) : OpR X (binaryOp (opOf o)) (rF2 L (o2 o)) := by
  intro pins s σ H x y v u Q I rx ry ⟨dx, dy, S, β, a, S', hx, hy, at_, e, q⟩
  cases o with
  | mul =>
    cases dx with
    | int i =>
      cases dy with
      | int j =>
        cases hx; cases hy
        obtain ⟨hz, rfl, rfl⟩ := if_ok e
        rw [Bool.or_eq_true] at hz
        exact op_mul pins s σ H _ _ v u Q I rx ry ⟨i, j, rfl, rfl, hz.elim (fun z => .inl (small_iff z)) (fun z => .inr (small_iff z)), kg_same at_ (.int _) q⟩
      | _ => cases e
    | str x =>
      cases dy with
      | int n =>
        cases hx; cases hy
        obtain ⟨hz, rfl, rfl⟩ := if_ok e
        obtain ⟨t, rfl⟩ := rx
        obtain ⟨t', rfl⟩ := ry
        exact PySem.SB.mul (mulOk_of hz) fun t' k => ⟨.str _, H, I.tok _, ⟨_, rfl⟩, kg_same at_ (.str _) q⟩
      | _ => cases e
    | _ => cases dy <;> cases e
  | add =>
    cases dx with
    | int i =>
      cases dy with
      | int j =>
        cases hx; cases hy; cases e
        exact op_add pins s σ H _ _ v u Q I rx ry ⟨i, j, rfl, rfl, kg_same at_ (.int _) q⟩
      | _ => cases e
    | str i =>
      cases dy with
      | str j =>
        cases hx; cases hy
        obtain ⟨hz, rfl, rfl⟩ := if_ok e
        exact op_add_str pins s σ H _ _ v u Q I rx ry ⟨i, j, rfl, rfl, inLine_iff hz, kg_same at_ (.str _) q⟩
      | _ => cases e
    | tup xs =>
      cases dy with
      | tup ys =>
        cases hx with
        | @tup a1 vs _ h1 r1 =>
          cases hy with
          | @tup a2 ws _ h2 r2 =>
            obtain ⟨hz, rfl, rfl⟩ := mkTup_ok e
            rw [List.length_append, r1.length, r2.length] at hz
            refine op_catA pins s σ H _ _ v u Q I rx ry ⟨a1, a2, vs, ws, rfl, rfl, hK ▸ h1, hK ▸ h2, hz, fun z => ?_, fun _ z => ?_, fun _ _ => kg_tup at_ (r1.append r2) q⟩
            · subst z
              cases r1
              exact kg_same at_ (.tup h2 r2) q
            · subst z
              cases r2
              exact kg_same at_ (.tup h1 (by simpa using r1)) q
      | _ => cases e
    | loc k =>
      cases dy with
      | loc l =>
        simp only [o2] at e
        split at e
        · rename_i xs ys h1 h2
          obtain ⟨hz, rfl, rfl⟩ := mkList_ok e
          obtain ⟨a1, vs, rfl, _, g1, r1⟩ := hx.lstAt at_ h1
          obtain ⟨a2, ws, rfl, _, g2, r2⟩ := hy.lstAt at_ h2
          rw [List.length_append, r1.length, r2.length] at hz
          exact op_cat pins s σ H _ _ v u Q I rx ry ⟨a1, a2, vs, ws, rfl, rfl, g1, g2, hz, kg_lst at_ (r1.append r2) q⟩
        · cases e
      | _ => cases e
    | _ => cases e
  | sub =>
    cases dx <;> cases dy <;> try (cases e; done)
    cases hx; cases hy; cases e
    exact op_sub pins s σ H _ _ v u Q I rx ry ⟨_, _, rfl, rfl, kg_same at_ (.int _) q⟩
  | mod =>
    cases dx <;> cases dy <;> try (cases e; done)
    cases hx; cases hy
    simp only [o2] at e
    split at e
    · cases e
    · rename_i hz
      cases e
      exact op_modN pins s σ H _ _ v u Q I rx ry ⟨_, _, rfl, rfl, hz, kg_same at_ (.int _) q⟩
  | fdiv =>
    cases dx <;> cases dy <;> try (cases e; done)
    cases hx; cases hy
    simp only [o2] at e
    split at e
    · rename_i hz
      cases e
      exact op_fdivN pins s σ H _ _ v u Q I rx ry ⟨_, _, rfl, rfl, hz, kg_same at_ (.int _) q⟩
    · cases e
  | pow =>
    cases dx <;> cases dy <;> try (cases e; done)
    cases hx; cases hy
    simp only [o2] at e
    split at e
    · rename_i hz
      cases e
      exact op_pow pins s σ H _ _ v u Q I rx ry ⟨_, _, rfl, rfl, hz, kg_same at_ (.int _) q⟩
    · cases e
end
end EV
/-! SetA: sets of tuples of whole numbers: add, in, set(); sets of whole numbers (own work). -/
namespace EV
open PySem PySem.Spec PyProof.Rows L2
section
variable {P : Program} {w : World} {A : Around} {E : Value → Shared → Prop} {s : Shared} {a : Addr} {L : List (Addr × List Int)} {es : Array (Int × Value)} {ep : Nat} {t : SetTable}
/-- the walk of a key through a table -/
abbrev wayN (P : Program) (w : World) (t : SetTable) (k : List Int) (c : Nat) : SetTable.Probe := nth t.mask (runAt t.mask (SetTable.bits (thash P w k) % (t.mask + 1)) (SetTable.bits (thash P w k))) c
theorem nth_dm {m : Nat} : ∀ (n : Nat) (p : SetTable.Probe), p.dummy = none → (nth m p n).dummy = none
  | 0, _, h => h
  | n + 1, p, h => nth_dm n (adv m p) (by
    unfold adv
    split <;> exact h)
/-- looked for without adding -/
theorem look_from (R : SetTR P w s.heap a L es ep t) {x : Addr} {k : List Int} (hx : IsT P w s.heap k x) (hu : A.units < cLine) {M : Nat} (hMf : M < 10 * SetTable.turns t.mask)
    (hM : way t.mask (thash P w k) M ∉ t.place.toList) (hMb : ∀ c, c < M → way t.mask (thash P w k) c ∈ t.place.toList) {Q : SetFound → Shared → Prop}
    (yes : ∀ i, k ∈ L.map (·.2) → Q (.there (some i)) s) (no : ∀ z b, k ∉ L.map (·.2) → Q (.free z b) s) :
    ∀ (f c : Nat) (from_ : Option SetTable.Probe), from_.getD (t.probeStart (thash P w k)) = wayN P w t k c → c ≤ M → M - c < f →
      (∀ (i : Nat) p, L[i]? = some p → p.2 = k → ∃ d, c ≤ d ∧ d < M ∧ t.place.toList[i]? = some (way t.mask (thash P w k) d)) →
      wpAny (model P w) A (setSearchFrom a (.ref x) (thash P w k) false f from_) Q E s
  | 0, c, from_, _, _, hf, _ => absurd hf (Nat.not_lt_zero _)
  | f + 1, c, from_, hst, hc, hf, hre => by
    obtain ⟨ob, hob, hex, hd⟩ := R.ob
    rw [setSearchFrom_succ]
    refine wpAny_bind (wpAny_setState_of hob hd R.fits ?_)
    dsimp only
    refine wp_if_neg R.gw ?_
    try refine wpAny_bind (wpAny_pure ?_)
    have hnd : (wayN P w t k c).dummy = none := nth_dm c _ rfl
    have sh : ∀ q, nth t.mask (wayN P w t k c) q = wayN P w t k (c + q) := fun q => (nth_add t.mask c _ q).symm
    have e1 : ∀ q, (nth t.mask (wayN P w t k c) q).j = way t.mask (thash P w k) (c + q) := fun q => congrArg SetTable.Probe.j (sh q)
    have eM : c + (M - c) = M := by omega
    have spec := go_spec t R.tab.ris R.tab.dm (fun i => (es[i]?.map (·.1)).getD 0) (thash P w k) (10 * SetTable.turns t.mask) (M - c) _ hnd (by omega)
      (fun q hq => by rw [e1]; exact hMb (c + q) (by omega)) (by rw [e1, eM]; exact hM)
    have hsh : ∀ (i : Nat) p, L[i]? = some p → (fun i => (es[i]?.map (·.1)).getD 0) i = thash P w p.2 := fun i p hp => by
      show (es[i]?.map (·.1)).getD 0 = thash P w p.2
      rw [R.entry hp] <;> rfl
    rcases spec with ⟨q, i, hq, hi, hh, hno, hpr⟩ | ⟨hno, hpr⟩
    · have hpr2 : t.probe (fun i => (es[i]?.map (·.1)).getD 0) (thash P w k) (from_.getD (t.probeStart (thash P w k))) = some (.candidate (way t.mask (thash P w k) (c + q)) i (wayN P w t k (c + (q + 1)))) := by
        rw [hst, ← e1, ← sh]
        exact hpr
      rw [hpr2]
      dsimp only
      rw [e1] at hi
      have hil : i < L.length := by
        have z1 : i < t.place.toList.length := (List.getElem?_eq_some_iff.mp hi).1
        have z2 := R.tab.sz
        rw [List.length_map] at z2
        rw [Array.length_toList] at z1
        omega
      have hp : L[i]? = some L[i] := List.getElem?_eq_getElem hil
      generalize hpe : L[i] = p at hp
      have pm : p ∈ L := List.mem_of_getElem? hp
      have hpt := R.tup p pm
      have tail : wpAny (model P w) A (searchRest a (.ref x) (thash P w k) false f es t (way t.mask (thash P w k) (c + q)) i (wayN P w t k (c + (q + 1)))) Q E s := by
        unfold searchRest
        rw [R.entry hp]
        dsimp only
        refine wpAny_bind (wpAny_holding (wpAny_eqBool_tuple hu hpt hx ?_))
        refine wpAny_bind (wpAny_setState_of hob hd R.fits ?_)
        dsimp only
        refine wp_if_neg (by simp) ?_
        try refine wpAny_bind (wpAny_pure ?_)
        rw [sameMem]
        dsimp only
        have hsl : t.slot (way t.mask (thash P w k) (c + q)) = .live i := slot_live R.tab.ris hi
        simp only [if_true, hsl, R.entry hp]
        refine wpAny_bind (wpAny_isSame_ref_self (wpAny_bind (wpAny_pure ?_)))
        simp only [if_true]
        by_cases hkk : p.2 = k
        · refine wp_if_pos (by simp [hkk]) ?_
          exact wpAny_pure (yes i (List.mem_map.mpr ⟨p, pm, hkk⟩))
        · refine wp_if_neg (by simp [hkk]) ?_
          refine look_from R hx hu hMf hM hMb yes no f (c + (q + 1)) _ rfl (by omega) (by omega) fun i0 p0 h0 hk0 => ?_
          obtain ⟨d, a1, a2, a3⟩ := hre i0 p0 h0 hk0
          refine ⟨d, ?_, a2, a3⟩
          rcases Nat.lt_or_ge d (c + q) with z | z
          · exfalso
            have ed : c + (d - c) = d := by omega
            refine hno (d - c) i0 (by omega) (by rw [e1, ed]; exact a3) ?_
            exact (hsh i0 p0 h0).trans (congrArg (thash P w) hk0)
          · rcases Nat.lt_or_ge (c + q) d with y | y
            · omega
            · exfalso
              have ec : d = c + q := Nat.le_antisymm y z
              rw [ec] at a3
              have s0 := slot_live R.tab.ris a3
              rw [hsl] at s0
              injection s0 with s0
              rw [← s0, hp] at h0
              exact hkk ((congrArg Prod.snd (Option.some.inj h0)).trans hk0)
      by_cases hl : t.led = true
      · refine wp_if_neg (by simp [hl]) ?_
        try refine wpAny_bind (wpAny_pure ?_)
        exact tail
      · refine wp_if_pos (by simp [hl]) ?_
        refine wpAny_bind (seen_tup hx (fun y hy => ?_) ?_)
        · obtain ⟨e, he, ee⟩ := List.mem_map.mp hy
          have he1 : e ∈ es ∧ e.1 = thash P w k := by simpa using he
          have he2 : e ∈ es.toList := by simpa using he1.1
          rw [R.rows] at he2
          obtain ⟨p2, hp2, e2⟩ := List.mem_map.mp he2
          exact ⟨p2.2, p2.1, by rw [← ee, ← e2], R.tup p2 hp2⟩
        · refine wp_if_neg (by decide) ?_
          try refine wpAny_bind (wpAny_pure ?_)
          exact tail
    · have hpr2 : t.probe (fun i => (es[i]?.map (·.1)).getD 0) (thash P w k) (from_.getD (t.probeStart (thash P w k))) = some (.empty (way t.mask (thash P w k) M) none) := by
        have e2 : way t.mask (thash P w k) M = (nth t.mask (wayN P w t k c) (M - c)).j := by rw [e1, eM]
        rw [hst, e2]
        exact hpr
      rw [hpr2]
      dsimp only
      refine wpAny_pure (no _ _ fun hm => ?_)
      obtain ⟨p0, h0, hk0⟩ := List.mem_map.mp hm
      obtain ⟨i0, hi0, e0⟩ := List.getElem_of_mem h0
      have h00 : L[i0]? = some p0 := by rw [List.getElem?_eq_getElem hi0, e0]
      obtain ⟨d, a1, a2, a3⟩ := hre i0 p0 h00 hk0
      have ed : c + (d - c) = d := by omega
      refine hno (d - c) i0 (by omega) (by rw [e1, ed]; exact a3) ?_
      exact (hsh i0 p0 h00).trans (congrArg (thash P w) hk0)
theorem look_at (R : SetTR P w s.heap a L es ep t) {x : Addr} {k : List Int} (hx : IsT P w s.heap k x) (hu : A.units < cLine) {Q : SetFound → Shared → Prop}
    (yes : ∀ i, k ∈ L.map (·.2) → Q (.there (some i)) s) (no : ∀ z b, k ∉ L.map (·.2) → Q (.free z b) s) : wpAny (model P w) A (setSearch a (.ref x) (thash P w k)) Q E s := by
  have hroom := R.room
  obtain ⟨M, hMf, hM, hMb⟩ := R.tab.first (by rw [List.length_map]; omega) (thash P w k)
  have hbig : M < 100000 := by
    have : 10 * SetTable.turns t.mask ≤ 1420 := by
      unfold SetTable.turns
      rcases R.tab.mok with e | e | e <;> omega
    omega
  unfold setSearch
  refine look_from R hx hu hMf hM hMb yes no 100000 0 none rfl (Nat.zero_le _) (by omega) fun i p hp hk => ?_
  have hi : (L.map fun p => thash P w p.2)[i]? = some (thash P w k) := by rw [List.getElem?_map, hp, ← hk] <;> rfl
  have hil : i < t.place.toList.length := by
    have z1 : i < L.length := (List.getElem?_eq_some_iff.mp hp).1
    have z2 := R.tab.sz
    rw [List.length_map] at z2
    rw [Array.length_toList]
    omega
  have hj := List.getElem?_eq_getElem hil
  obtain ⟨c, hc, e⟩ := R.tab.before hM hi hj
  exact ⟨c, Nat.zero_le _, hc, by rw [hj, e]⟩
theorem find_at (R : SetTR P w s.heap a L es ep t) {x : Addr} {k : List Int} (hx : IsT P w s.heap k x) (hu : A.units < cLine) {Q : Option Nat → Shared → Prop}
    (h : ∀ o : Option Nat, o.isSome = decide (k ∈ L.map (·.2)) → Q o s) : wpAny (model P w) A (setFind a (.ref x) (thash P w k)) Q E s := by
  obtain ⟨ob, hob, hex, hd⟩ := R.ob
  unfold setFind
  rw [show (100000 : Nat) = 99999 + 1 from rfl]
  unfold setFindIn
  refine wpAny_bind (wpAny_setState_of hob hd R.fits ?_)
  dsimp only
  refine wp_if_neg (by simp [byScan, Value.scannable]) ?_
  try refine wpAny_bind (wpAny_pure ?_)
  refine wpAny_bind (look_at R hx hu (fun i hm => ?_) fun z b hm => ?_)
  · exact wpAny_pure (h _ (by simpa using hm))
  · exact wpAny_pure (h _ (by simpa using hm))
theorem setTR_type (R : SetTR P w s.heap a L es ep t) : s.TypeIs (.ref a) "set" :=
  let ⟨o, ho, hc, _⟩ := R.ob; ⟨o, ho, hc.1⟩
/-- k in found -/
theorem has_at (R : SetTR P w s.heap a L es ep t) {x : Addr} {k : List Int} (hx : IsT P w s.heap k x) (hu : A.units + 8 < cLine) {Q : Bool → Shared → Prop}
    (h : Q (decide (k ∈ L.map (·.2))) { s with toks := s.toks + (k.length + 1) }) : wpAny (model P w) A (contains (.ref a) (.ref x)) Q E s := by
  unfold contains
  try with_reducible refine wpAny_holding ?_
  refine wpAny_bind (wpAny_specialOf (setTR_type R) F.slot_set_contains.lookup ?_)
  show wpAny _ _ (if (some (Value.builtin "set.__contains__") == some Value.none) = true then _ else _) Q E s
  rw [if_neg (by rw [beq_builtin_none]; exact Bool.false_ne_true)]
  refine wpAny_bind (wpAny_callSpecialUnlessNone?_slot (name := Str.ofString "__contains__") (setTR_type R) F.slot_set_contains
    (wpAny_call_entry F.slot_set_contains (setTR_type R) entry_set_contains ?_ (F.args_set_contains_2 _ _)))
  unfold Builtin.«frozenset.__contains__» Builtin.Frozenset.oneOther
  simp only [List.isEmpty_nil, bind_assoc]
  unfold Builtin.Frozenset.addrOf Builtin.Frozenset.withSetAsKey setContains
  refine wpAny_bind (wpAny_pure ?_)
  try dsimp only
  refine wpAny_bind (wpAny_pure ?_)
  try dsimp only
  refine wpAny_bind (wpAny_tryCatch ?_)
  refine wpAny_holding ?_
  refine wpAny_bind (wpAny_pyHash_tuple (by simp; omega) hx ?_)
  refine wpAny_bind (find_at (s := { s with toks := s.toks + (k.length + 1) }) R hx (by simp; omega) fun r hr => ?_)
  refine wpAny_pure ?_
  show wpAny _ _ (ret (Value.bool r.isSome)) _ _ _
  rw [hr]
  exact wpAny_pure ⟨_, rfl, wpAny_truthy_bool h⟩
/-- found.add(k) -/
theorem put_at (R : SetTR P w s.heap a L es ep t) {x : Addr} {k : List Int} (hx : IsT P w s.heap k x) (hu : A.units + 8 < cLine) (hfew : L.length + 1 < 64) {Q : Value → Shared → Prop}
    (h : ∀ h' L' es' ep' t', Heap.SameBut a s.heap h' → SetTR P w h' a L' es' ep' t' → (k ∈ L.map (·.2) → L' = L) → (k ∉ L.map (·.2) → L'.Perm ((x, k) :: L)) → Q .none { s with heap := h', toks := s.toks + (k.length + 1) }) :
    wpAny (model P w) A (call (.builtin "set.add") [.ref a, .ref x]) Q E s := by
  refine wpAny_call_entry F.slot_set_add (setTR_type R) F.entry_set_add ?_ (F.args_set_add_2 _ _)
  unfold Builtin.«set.add» Builtin.Frozenset.oneOther
  simp only [List.isEmpty_nil, bind_assoc]
  unfold Builtin.Frozenset.addrOf setAdd
  refine wpAny_bind (wpAny_pure ?_)
  try dsimp only
  refine wpAny_bind (wpAny_pure ?_)
  try dsimp only
  refine wpAny_bind ?_
  refine wpAny_holding ?_
  refine wpAny_bind (wpAny_pyHash_tuple (by simp; omega) hx ?_)
  refine add_at (s := { s with toks := s.toks + (k.length + 1) }) R hx (by simp; omega) hfew fun b h' L' es' ep' t' sb R2 c1 c2 => ?_
  show wpAny _ _ (ret Value.none) _ _ _
  exact wpAny_pure ⟨_, rfl, h h' L' es' ep' t' sb R2 c1 c2⟩
end
end EV
/-! SetB: sets as the rules want them; sorted({..}) of whole numbers (own work). -/
namespace EV
open PySem PySem.Spec PyProof.Rows L2
section
variable {X : Cx} {pins : List (Addr × Obj)} {σ : L2.St} {H : Hp} {s : Shared} {a : Addr}
/-- where a set stands no code object stands -/
theorem no_code (I : Inv X pins σ H s) {o : Obj} (ho : s.heap.get? a = some o) (hc : o.cls = .type "set") (P : Addr) (q : Str) : H a ≠ some (CodeX a P q) := fun e => by
  obtain ⟨⟨o', _, _, _, _, _, _, _, _, e1, e2, _⟩, _⟩ := (I.hok a _ e).1
  rw [ho] at e1
  cases e1
  rw [hc] at e2
  exact absurd (Value.type.inj e2) (by decide)
theorem no_codeI (I : Inv X pins σ H s) {S : Int → Bool} {n : Nat} (h : H a = some (SetO X.w a S n)) (P : Addr) (q : Str) : H a ≠ some (CodeX a P q) := by
  obtain ⟨o, _, _, _, ho, hc, _⟩ := setO_get I h
  exact no_code I ho hc.1 P q
theorem setT_get (I : Inv X pins σ H s) {L : List (Addr × List Int)} (h : H a = some (SetTO X.prog X.w a L)) (ht : ∀ p ∈ L, SqT X.K H p.1 (p.2.map V.int)) : ∃ es ep t, SetTR X.prog X.w s.heap a L es ep t :=
  SetT0.full (I.hok a _ h).1 fun p hp => L2.Inv.isT I (ht p hp)
/-- set(), of tuples -/
def rNewT (P : Program) (w : World) : List V → Hp → VK → Prop := fun xs H Q => xs = [] ∧ ∀ p, H p = none → Q (.ref p) (upd H p (SetTO P w p []))
theorem cr_newT : CallR X (.type "set") (rNewT X.prog X.w) := by
  intro pins s σ H xs us Q I r h
  obtain ⟨rfl, q⟩ := h
  cases r
  refine setR_new fun _ => ?_
  refine ⟨.ref _, upd H s.heap.objs.size (SetTO X.prog X.w s.heap.objs.size []), I.laid (t' := s.toks) (fun b u e => Heap.get?_push_of_some _ e) (Nat.le_refl _) (setTO_new (L2.SetTR.t0 (setTR_fresh (Heap.get?_push_size _ rfl)))), rfl, q _ (I.hok.fresh (Nat.le_refl _))⟩
/-- x in found -/
theorem set_in (I : Inv X pins σ H s) (hu : X.A.units + 8 < cLine) {L : List (Addr × List Int)} {b : Addr} {k : List Int} {op : CmpOp} {neg : Bool} (hop : (op = .In ∧ neg = false) ∨ (op = .NotIn ∧ neg = true)) (h : H a = some (SetTO X.prog X.w a L)) (ht : ∀ p ∈ L, SqT X.K H p.1 (p.2.map V.int))
    (hx : SqT X.K H b (k.map V.int)) {Q : VK} (q : Q (.bl (if neg then !decide (k ∈ L.map (·.2)) else decide (k ∈ L.map (·.2)))) H) : wpAny (model X.prog X.w) X.A (compareOp op (.ref b) (.ref a)) (EP X pins σ Q) X.xe s := by
  obtain ⟨es, ep, t, R⟩ := setT_get I h ht
  have hb := L2.Inv.isT I hx
  rcases hop with ⟨rfl, rfl⟩ | ⟨rfl, rfl⟩
  · show wpAny _ _ (do return Value.bool (← contains (.ref a) (.ref b))) _ _ s
    refine wpAny_bind (has_at R hb hu ?_)
    exact wpAny_pure ⟨.bl _, H, I.tok _, rfl, q⟩
  · show wpAny _ _ (do return Value.bool (!(← contains (.ref a) (.ref b)))) _ _ s
    refine wpAny_bind (has_at R hb hu ?_)
    exact wpAny_pure ⟨.bl _, H, I.tok _, rfl, q⟩
/-- found.add(x) -/
def rAddT (K : PySem.W.Frag) (P : Program) (w : World) : V → List V → Hp → VK → Prop := fun x ys H Q => ∃ (a b : Addr) (L : List (Addr × List Int)) (k : List Int), x = .ref a ∧ ys = [.ref b] ∧ H a = some (SetTO P w a L) ∧ (∀ p ∈ L, SqT K H p.1 (p.2.map V.int)) ∧ SqT K H b (k.map V.int) ∧ L.length + 1 < 64 ∧
  ∀ L', (k ∈ L.map (·.2) → L' = L) → (k ∉ L.map (·.2) → L'.Perm ((b, k) :: L)) → (∀ P' q, H a ≠ some (CodeX a P' q)) → Q .non (upd H a (SetTO P w a L'))
def tAddT (K : PySem.W.Frag) (P : Program) (w : World) (to te : TE) : TE := fun σ H Q => to σ H fun x H1 => (∃ (a : Addr) (L : List (Addr × List Int)), x = V.ref a ∧ H1 a = some (SetTO P w a L)) ∧ te σ H1 fun y H2 => rAddT K P w x [y] H2 Q
variable {o e : Expr} {to te : TE} {ap cp : Pos}
theorem pe_addT (hu : X.A.units + 8 < cLine) (ho : PE X o to) (he : PE X e te) (hbase : attributeBase o "add" X.env (eval o X.env) = eval o X.env) (hst : starEach [e] X.env = [(false, eval e X.env)]) (hall : (backTo cp (starEach [e] X.env)).all (fun x => !x.1) = true)
    (hline : (ap.endLine == cp.line) = true) : PE X (.Call (.Attribute o "add" ap) [e] [] cp) (tAddT X.K X.prog X.w to te) := by
  refine ⟨fun pins s σ H Q I h => ?_⟩
  refine wpAny_Call_method_late hbase (by rw [hall]; rfl) hline rfl (thn (ho.run pins s σ H _ I h) fun v s1 ⟨x, H1, I1, r1, ty, q1⟩ => ?_)
  obtain ⟨a, L, rfl, hka⟩ := ty
  cases r1
  obtain ⟨es, ep, t, ⟨ob, hob, hex, _⟩, _⟩ := L2.SetT0.ex (I1.hok a _ hka).1
  have tid : s1.TypeIs (.ref a) "set" := ⟨ob, hob, hex.1⟩
  refine ⟨"set", "set.add", F.plainAttrs_set, F.slot_set_add, F.type_set_add, tid, fun b eb => by cases eb; exact ⟨ob, hob, hex.2.1⟩, ?_⟩
  have hA := (pa_cons he pa_nil hst).run cp pins s1 σ H1 (fun us H2 => rAddT X.K X.prog X.w (.ref a) us H2 Q) I1 q1
  rw [hst] at hA ⊢
  refine Calls.callWith_builtin (by cases cp; rfl) (Calls.evalArgs_plain ?_)
  exact thn hA fun us s2 ⟨vs, H2, I2, r2, q2⟩ => by
    obtain ⟨a', b, L, k, e1, e2, hH, ht, hx, hl, q⟩ := q2
    cases e1
    subst e2
    rw [Vals.ref1 r2]
    obtain ⟨es, ep, t, R⟩ := setT_get I2 hH ht
    refine put_at R (L2.Inv.isT I2 hx) hu hl fun h' L' es' ep' t' sb R2 c1 c2 => ?_
    have hex2 : ∃ u, h'.get? a = some u := let ⟨o, ho, _⟩ := R2.ob; ⟨o, ho⟩
    obtain ⟨ob2, hob2, hex3, _⟩ := R.ob
    exact ⟨.non, _, I2.write (e := a) (t' := s2.toks + (k.length + 1)) (by rw [hH]; trivial) (.inl rfl) (fun b u hb hu => (sb.2 b hb).trans hu) hex2 (setTO_new R2.t0), rfl, q L' c1 c2 (no_code I2 hob2 hex3.1)⟩
end
end EV
/-! SetC: {elt for target in iter if ..} of whole numbers (own work). -/
namespace EV
open PySem PySem.Spec PyProof.Rows L2 PpSet
/-- the empty set's object -/
abbrev setOb (w : World) : Obj := { cls := .type "set", dict := none, data := .set #[] 0 (.fresh 0 0 (!w.params.followText "set-order")) }
section
variable {X : Cx}
/-- D: the new set; whole numbers are put in -/
def tSi (w : World) (wi : TI) (g : TG) (tt : TT) (te : TE) (vs : List Nat) : TE := fun σ H Q => wi σ H fun J H1 => ∀ D, H1 D = none → ∃ Z : Nat → Nat → Hp → Prop, (∃ m, Z 0 m (upd H1 D (SetO w D (fun _ => false) 0))) ∧ ∀ i m H, Z i m H →
  (J.stop i H ∧ Q (.ref D) H) ∨ (J.go i H ∧ ∃ Go : Hp → Prop, (∀ H', Go H' → ∃ m', m' < m ∧ Z (i + 1) m' H') ∧ ∀ x H', J.yld i H x H' → g x (L2.wipe σ vs) H' fun σ2 H2 => L2.wipe σ2 vs = L2.wipe σ vs ∧ tt σ2 H2 fun b H3 =>
    if b = true then te σ2 H3 fun y H4 => ∃ (k : Int) (S : Int → Bool) (n : Nat), y = .int k ∧ H4 D = some (SetO w D S n) ∧ n + 1 < scanBound ∧ ((∀ P q, H4 D ≠ some (CodeX D P q)) → Go (upd H4 D (SetO w D (fun j => S j || decide (j = k)) (if S k = true then n else n + 1)))) else Go H3)
theorem addI_at {pins : List (Addr × Obj)} {σ : L2.St} {H : Hp} {s : Shared} {E : Value → Shared → Prop} {D : Addr} {S : Int → Bool} {n : Nat} {k : Int} {u : Value} {Q : Value → Shared → Prop} (I : Inv X pins σ H s) (ru : RelV (.int k) u) (hD : H D = some (SetO X.w D S n)) (hn : n + 1 < scanBound)
    (h : ∀ s', Inv X pins σ (upd H D (SetO X.w D (fun j => S j || decide (j = k)) (if S k = true then n else n + 1))) s' → Q .none s') : wpAny (model X.prog X.w) X.A (call (.builtin "set.add") [.ref D, u]) Q E s := by
  obtain ⟨tk, rfl⟩ := ru
  refine setR_add (setO_get I hD) hn fun h' sb nw => ?_
  have ex : ∃ o, h'.get? D = some o := let ⟨o, _, _, _, ho, _⟩ := nw; ⟨o, ho⟩
  exact h _ (I.write (e := D) (t' := s.toks + 1) (by rw [hD]; trivial) (.inl rfl) (fun b o hb ho => (sb.2 b hb).trans ho) ex (setO_new nw))
theorem scI {pins : List (Addr × Obj)} {s : Shared} {σ : L2.St} {H : Hp} {Q : VK} {elt tg iter : Expr} {ifs : List Expr} {scope : Scope} {own : List (PySem.Str × Nat)} {pos pos' : Pos} {wi : TI} {g : TG} {tt : TT} {te : TE} {use : Option (Value → Sem Unit)} {Qf : Value → Shared → Prop}
    (hc : X.calm = true) (hN : X.N.Nodup) (I : Inv X pins σ H s) (hi : PI X tg iter wi) (ok : BlkOk X.N X.env.scope scope own)
    (hg : ∀ (s : Shared) (H : Hp) (C : Addr) (cl : List (PySem.Str × Addr)) (fp : List Addr), PG (X.blk s H scope (compEnvC scope cl C X.env) fp) tg g) (ht : ∀ (s : Shared) (H : Hp) (C : Addr) (cl : List (PySem.Str × Addr)) (fp : List Addr), PTs (X.blk s H scope (compEnvC scope cl C X.env) fp) ifs tt)
    (he : ∀ (s : Shared) (H : Hp) (C : Addr) (cl : List (PySem.Str × Addr)) (fp : List Addr), PE (X.blk s H scope (compEnvC scope cl C X.env) fp) elt te) (hs : ∀ x, foldedSetIterable iter X.env x = pure x) (h : tSi X.w wi g tt te (own.map (·.2)) σ H Q)
    (fin : ∀ D C s' m H', Inv X pins σ H' s' → Q (.ref D) H' → s'.heap.Ns C m → FpOk X pins H' C → compPost (model X.prog X.w) X.A X.xe use Qf (.ref D) C (.ok .next) s') :
    wpAny (model X.prog X.w) X.A (comprehension (.SetComp elt [⟨tg, iter, ifs, 0⟩] scope pos) scope X.env pos' (newSet (.type "set")) false (eval iter X.env) use) Qf X.xe s := by
  have fr : ∀ y ∈ scope.names, y.2 = .free → ∃ c, X.env.cells.lookup y.1 = some c := fun y hy e =>
    (ok.free y hy e).elim (fun z => I.ok.has _ (.inl z)) fun z => I.ok.has _ (.inr z)
  refine wpAny_comprehension_free (use := use) rfl hs (closure_ok fr) ok.kind (fun y hy e => by rw [ok.uniq y hy, e])
    (thn (hi.run pins s σ H _ I h) fun xv s1 hx => thn hx fun itv s2 h2 => ?_)
  obtain ⟨it, fp, tn, J, H2, rfl, I2, T, st2, f2, q⟩ := h2
  refine newSet_ok (newEnv_comp ?_)
  obtain ⟨D, hD⟩ : ∃ D, s2.heap.objs.size = D := ⟨_, rfl⟩
  rw [hD]
  have fD : H2 D = none := I2.hok.fresh (Nat.le_of_eq hD)
  obtain ⟨Z, ⟨m0, z0⟩, turn⟩ := q D fD
  obtain ⟨s3, es3⟩ : ∃ s3 : Shared, ({ s2 with heap := s2.heap.push (setOb X.w) } : Shared) = s3 := ⟨_, rfl⟩
  obtain ⟨H3, eH3⟩ : ∃ H3, upd H2 D (SetO X.w D (fun _ => false) 0) = H3 := ⟨_, rfl⟩
  have hp3 : s3.heap = s2.heap.push (setOb X.w) := by rw [← es3]
  have I3 : Inv X pins σ H3 s3 := by
    rw [← es3, ← eH3]
    refine I2.laid (t' := s2.toks) (fun b o e => Heap.get?_push_of_some _ e) (Nat.le_of_eq hD) ?_
    rw [← hD]
    exact setO_new (setR_fresh X.w)
  have low : ∀ b ∈ fp, b < s2.heap.objs.size := fun b hb => let ⟨o, e, _⟩ := T.obj _ _ st2 b hb; Heap.lt_size e
  have f3 : ∀ b ∈ fp, FpOk X pins H3 b ∧ b < s3.heap.objs.size := fun b hb => by
    have lt := low b hb
    refine ⟨⟨?_, (f2 b hb).2⟩, by rw [hp3, Heap.size_push]; exact Nat.lt_succ_of_lt lt⟩
    rw [← eH3, upd_ne (by rw [← hD]; exact Nat.ne_of_lt lt)]
    exact (f2 b hb).1
  have st3 : tn 0 s3.heap := T.keep _ _ _ st2 fun b _ o e => by rw [hp3]; exact Heap.get?_push_of_some _ e
  have I4 := block_start I3 ok hN f3
  have Pg := hg s3 H3 s3.heap.objs.size (cellsFrom (s3.heap.objs.size + 1) scope.names (cloFrom X.env.cells scope.names [])) fp
  have Pt := ht s3 H3 s3.heap.objs.size (cellsFrom (s3.heap.objs.size + 1) scope.names (cloFrom X.env.cells scope.names [])) fp
  have Pe := he s3 H3 s3.heap.objs.size (cellsFrom (s3.heap.objs.size + 1) scope.names (cloFrom X.env.cells scope.names [])) fp
  rw [eH3] at z0
  show codeAny _ _ (.compStart (.SetComp elt [⟨tg, iter, ifs, 0⟩] scope pos) 0 (.ref it) (.ref D) _) _ _
  rw [show (s2.heap.push (setOb X.w)) = s3.heap from hp3.symm]
  have es4 : ∀ hh : Heap, ({ s2 with heap := hh } : Shared) = { s3 with heap := hh } := fun hh => by rw [← es3]
  rw [es4]
  show codeAny _ _ (.compStart (.SetComp elt [⟨tg, iter, ifs, 0⟩] scope pos) 0 (.ref it) (.ref D) (compEnvC scope (cellsFrom (s3.heap.objs.size + 1) scope.names (cloFrom X.env.cells scope.names [])) s3.heap.objs.size X.env))
    (compPost _ _ X.xe use Qf (.ref D) s3.heap.objs.size) { s3 with heap := pushCells (s3.heap.push { cls := .type "dict", data := .dict #[] }) scope.names }
  have no3 : ∀ b ∈ fp, H3 b = none := fun b hb => (f3 b hb).1.1
  generalize hce : compEnvC scope (cellsFrom (s3.heap.objs.size + 1) scope.names (cloFrom X.env.cells scope.names [])) s3.heap.objs.size X.env = ce at I4 Pg Pt Pe ⊢
  have cL : ce.locals = s3.heap.objs.size := by subst hce; rfl
  generalize hs4 : ({ s3 with heap := pushCells (s3.heap.push { cls := .type "dict", data := .dict #[] }) scope.names } : Shared) = s4 at I4 ⊢
  have st4 : tn 0 s4.heap := T.keep _ _ _ st3 fun b _ o e => by rw [← hs4]; exact pushCells_keeps _ _ _ _ (Heap.get?_push_of_some _ e)
  have fpk : ∀ {σ' : L2.St} {H' : Hp} {s' : Shared}, Inv (X.blk s3 H3 scope ce fp) [] σ' H' s' → (∀ b ∈ fp, H' b = none) → ∀ b ∈ fp, FpOk (X.blk s3 H3 scope ce fp) [] H' b := fun {σ' H' s'} I' hn b hb =>
    ⟨hn b hb, (I'.ok.exf b hb).1, I'.ok.exfs b hb, .inl hb, fun x c e => (I'.ok.exf b hb).2 x c e, fun p hp => nomatch (show p ∈ ([] : List (Addr × Obj)) from hp)⟩
  have loop : codeAny (model X.prog X.w) X.A (.compLoop (.SetComp elt [⟨tg, iter, ifs, 0⟩] scope pos) 0 (.ref it) (.ref D) ce) (compPost (model X.prog X.w) X.A X.xe use Qf (.ref D) s3.heap.objs.size) s4 := by
    refine compLoopS_any (fun n s' => ∃ i H', Inv (X.blk s3 H3 scope ce fp) [] (L2.wipe σ (own.map (·.2))) H' s' ∧ tn i s'.heap ∧ (∀ b ∈ fp, H' b = none) ∧ Z i n H') ?_ m0 ⟨0, H3, I4, st4, no3, z0⟩
    rintro n t0 ⟨i, K0, L0, sti, ni, zi⟩
    rcases turn i n K0 zi with ⟨stop, qq⟩ | ⟨go, Go, hGo, step⟩
    · have td := T.done (X.blk s3 H3 scope ce fp) rfl rfl rfl hc i [] t0 _ K0 (fun _ _ => False) L0 (fpk L0 ni) sti stop
      refine thnF td fun r t1 ⟨hr, L1⟩ => ?_
      subst hr
      have back : Inv X pins σ K0 t1 := I3.call' (ch := fp) L1.os L1.base L1.hok L1.bare fun b hb => ⟨(f3 b hb).1.2.2.2.1, (f3 b hb).1.2.1, (f3 b hb).1.2.2.2.2.1, (f3 b hb).1.2.2.2.2.2⟩
      have nC : K0 s3.heap.objs.size = none := by
        have z : K0 ce.locals = none := L1.free
        rwa [cL] at z
      obtain ⟨m, hn, _⟩ := L1.loc
      have hn : t1.heap.Ns ce.locals m := hn
      rw [cL] at hn
      exact fin D s3.heap.objs.size t1 m K0 back qq hn (I3.fpOk (Nat.le_refl _) nC)
    · have ti := T.item (X.blk s3 H3 scope ce fp) rfl rfl rfl hc i [] t0 _ K0 (fun _ _ => False) L0 (fpk L0 ni) sti go
      refine thnF ti fun r t1 ⟨u, hr, h6⟩ => ?_
      subst hr
      refine thnF h6 fun _ t2 ⟨x, K2, L2', r2, y2, st2', n2⟩ => ?_
      have L2p := L2'.pinned (fpk L2' n2) (T.obj _ _ st2')
      refine thnF (Pg.run _ t2 _ K2 x u _ L2p r2 (step x K2 y2)) fun _ t3 ⟨σ3, K3, L3, hw3, q3⟩ => ?_
      refine thnF (Pt.run _ t3 σ3 K3 _ L3 q3) fun b t4 ⟨K4, L4, q4⟩ => ?_
      have ends : ∀ {s' : Shared} {H' : Hp}, Inv (X.blk s3 H3 scope ce fp) ([] ++ pinsAt fp t2.heap) σ3 H' s' → Go H' → ∃ m, m < n ∧ ∃ i H', Inv (X.blk s3 H3 scope ce fp) [] (L2.wipe σ (own.map (·.2))) H' s' ∧ tn i s'.heap ∧ (∀ b ∈ fp, H' b = none) ∧ Z i m H' := fun {s' H'} I' gn => by
        obtain ⟨m', hm, z'⟩ := hGo H' gn
        have pin' : ∀ b ∈ fp, ∀ o, t2.heap.get? b = some o → s'.heap.get? b = some o ∧ H' b = none := fun b hb o e =>
          have z := I'.pin (b, o) (List.mem_append_right _ (List.mem_append_right _ (mem_pinsAt hb e)))
          ⟨z.1, z.2.1⟩
        have hl : (L2.wipe σ (own.map (·.2))).length = σ3.length := by rw [← hw3, L2.wipe_length]
        refine ⟨m', hm, i + 1, H', (I'.unpinned (pins := [])).weak hl (fun j v e => ?_), T.keep _ _ _ st2' fun b hb o e => (pin' b hb o e).1, fun b hb => ?_, z'⟩
        · rw [← hw3] at e
          exact (wipe_some e).1
        · obtain ⟨o, e, _⟩ := T.obj _ _ st2' b hb
          exact (pin' b hb o e).2
      cases b with
      | false =>
        simp only [Bool.false_eq_true, if_false] at q4 ⊢
        exact ends L4 q4
      | true =>
        simp only [if_true] at q4 ⊢
        refine thnF (Pe.run _ t4 σ3 K4 _ L4 q4) fun z t5 ⟨yv, K5, L5, r5, k, S0, n0, ey, hD5, hn5, nx⟩ => ?_
        subst ey
        exact addI_at (X := X.blk s3 H3 scope ce fp) L5 r5 hD5 hn5 fun t6 L6 => ends L6 (nx (no_codeI (X := X.blk s3 H3 scope ce fp) L5 hD5))
  exact codeAny_compStart_set loop (T.self X.A 0 _ _ _ st4 loop)
theorem pe_si {elt tg iter : Expr} {ifs : List Expr} {scope : Scope} {own : List (PySem.Str × Nat)} {pos : Pos} {wi : TI} {g : TG} {tt : TT} {te : TE} (hc : X.calm = true) (hN : X.N.Nodup) (hi : PI X tg iter wi) (ok : BlkOk X.N X.env.scope scope own)
    (hg : ∀ (s : Shared) (H : Hp) (C : Addr) (cl : List (PySem.Str × Addr)) (fp : List Addr), PG (X.blk s H scope (compEnvC scope cl C X.env) fp) tg g) (ht : ∀ (s : Shared) (H : Hp) (C : Addr) (cl : List (PySem.Str × Addr)) (fp : List Addr), PTs (X.blk s H scope (compEnvC scope cl C X.env) fp) ifs tt)
    (he : ∀ (s : Shared) (H : Hp) (C : Addr) (cl : List (PySem.Str × Addr)) (fp : List Addr), PE (X.blk s H scope (compEnvC scope cl C X.env) fp) elt te) (hs : ∀ x, foldedSetIterable iter X.env x = pure x) :
    PE X (.SetComp elt [⟨tg, iter, ifs, 0⟩] scope pos) (tSi X.w wi g tt te (own.map (·.2))) := by
  refine ⟨fun pins s σ H Q I h => ?_⟩
  rw [PpSet.eval_SetComp]
  refine scI hc hN I hi ok hg ht he hs h fun D C s' m H' I' q hn f => ⟨m, hn, fun h'' sb => ?_⟩
  obtain ⟨f0, f1, f2, f3, f4, f5⟩ := f
  exact ⟨.ref D, H', I'.turned (t' := s'.toks) (fun b o hb e => (sb.2 b hb).trans e) f0 f1 f3 f4 f5, rfl, q⟩
end
end EV
/-! SetD: set(xs) of a list or a tuple of whole numbers; sorted of it (own work). -/
namespace EV
open PySem PySem.Spec PyProof.Rows L2
section
variable {P : Program} {w : World} {A : Around} {E : Value → Shared → Prop} {s : Shared}
theorem setOf_list {l : Addr} {items : Array Value} (ns : List Int) {Q : Value → Shared → Prop} (hh : A.handled = none) (hl : s.heap.IsList l items) (hit : IntsAre items.toList ns) (hb : ns.length + 1 < scanBound)
    (h : ∀ (h' : Heap) (tk c : Nat), SetR w h' s.heap.objs.size (fun j => decide (j ∈ ns)) c → c ≤ ns.length → (∀ b o, s.heap.get? b = some o → h'.get? b = some o) → Q (.ref s.heap.objs.size) { s with heap := h', toks := tk }) :
    wpAny (model P w) A (call (.type "set") [.ref l]) Q E s := by
  have sz : items.size = ns.length := by rw [← Array.length_toList]; exact IntsAre.length hit
  obtain ⟨c, tl, hmro⟩ := F.called_set.mro
  have made := F.called_set.made
  have subs := F.called_set.sub
  refine wpAny_call (codeAny_of_tree ?_)
  show wpAny _ _ (callAny (.type "set") ⟨[Value.ref l], []⟩) _ _ _
  refine wpAny_pure ⟨Code.quiet_builtin _ (by decide +kernel), codeAny_builtin F.entry_type_call ?_⟩
  rw [Around.under_plain (weight_type_call_type "set" [.ref l] []) rfl]
  have n1 := F.called_set.notType
  have n2 := F.called_set.canCreate
  have n3 := F.typeCall_set_1 (.ref l)
  repeat (any_goals (first | assumption | wp_step))
  refine codeAny_mono (code_set_led1 (.ref l) (E := E) (Q₁ := fun ob t => ob = .ref s.heap.objs.size ∧ t = { s with heap := s.heap.push (setOb w) }) ⟨rfl, rfl⟩) fun r t hr => ?_
  cases r with
  | error e => exact hr
  | ok fl =>
    cases fl with
    | ret ob =>
      obtain ⟨rfl, rfl⟩ := hr
      have hS : (s.heap.push (setOb w)).get? s.heap.objs.size = some (setOb w) := Heap.get?_push_size _ rfl
      have hT : Shared.TypeIs { s with heap := s.heap.push (setOb w) } (.ref s.heap.objs.size) "set" := ⟨_, hS, rfl⟩
      have i1 := F.called_set.init.lookup
      have i2 := F.called_set.init.bind (.ref s.heap.objs.size)
      repeat (any_goals (first | assumption | wp_step))
      refine codeAny_mono (codeAny_call_builtin (R := wants (fun r t2 => r = .none ∧ ∃ h' tk c, t2 = { s with heap := h', toks := tk } ∧ SetR w h' s.heap.objs.size (fun j => decide (j ∈ ns)) c ∧ c ≤ ns.length ∧
          (∀ b o, s.heap.get? b = some o → h'.get? b = some o)) E) F.called_set.init.plain F.entry_set_init (check_set_init_1 hT ?_)) fun r2 t2 hr2 => ?_
      · obtain ⟨ol, hol, hcl, nl, hdl⟩ := hl
        obtain ⟨ocls, odict, odata, oslots⟩ := ol
        simp only at hcl hdl
        subst hcl; subst hdl
        have hol2 : (s.heap.push (setOb w)).get? l = some { cls := .type "list", dict := odict, data := .seq items nl, slots := oslots } := Heap.get?_push_of_some _ hol
        have s1 := F.sub_list_set
        have s2 := F.sub_list_frozenset
        have nd : (Value.type "list" == Value.type "dict") = false := by decide
        have hl1 : (s.heap.push (setOb w)).IsList l items := ⟨_, hol2, rfl, nl, rfl⟩
        unfold Builtin.«set.__init__» noKeywords Builtin.Frozenset.updateFrom
        generalize hPI : pyIter = PI
        wp_walk
        subst hPI
        refine wpAny_pyIter_list hl1 ?_
        refine wpAny_bind (wpAny_runValue ?_)
        have lS : l < s.heap.objs.size := Heap.lt_size hol
        have h3 : A.in1.in1.in1.handled = none := by simp [hh]
        have z1 : (s.heap.push (setOb w)).objs.size = s.heap.objs.size + 1 := Heap.size_push ..
        have neI : l ≠ (s.heap.push (setOb w)).objs.size := by rw [Heap.size_push]; exact Nat.ne_of_lt (Nat.lt_succ_of_lt lS)
        have nS : s.heap.objs.size ∉ [(s.heap.push (setOb w)).objs.size, l] := by
          rw [Heap.size_push]; simp only [List.mem_cons, List.mem_singleton, List.not_mem_nil, or_false, not_or]
          exact ⟨Nat.ne_of_lt (Nat.lt_succ_self _), Nat.ne_of_gt lS⟩
        have vals : ∀ (i : Nat) (v : Value), items[i]? = some v → ∃ k t, ns[i]? = some k ∧ v = .int k t := fun i v hv => by
          have hi : i < ns.length := by rw [← sz]; exact (Array.getElem?_eq_some_iff.mp hv).1
          obtain ⟨tk, e⟩ := PyProof.Rows.IntsAre.int_at hit i v (by rw [Array.getElem?_toList]; exact hv)
          refine ⟨ns[i], tk, List.getElem?_eq_getElem hi, ?_⟩
          rw [e, List.getD_eq_getElem?_getD, List.getElem?_eq_getElem hi] <;> rfl
        refine set_update_ints ((Walks.list h3 _ l neI items).toS) s.heap.objs.size nS ns sz hb vals (items.size - 0) 0 _ (by omega) (Nat.zero_le _) ⟨⟨_, Heap.get?_push_size _ rfl, rfl, rfl⟩, (hl1.push _)⟩ ?z0 ?zR
        case z0 =>
          have hget : ((s.heap.push (setOb w)).push { cls := .type "list_iterator", data := .fields #[.ref l, .int 0 0] }).get? s.heap.objs.size = some (setOb w) := Heap.get?_push_of_some _ hS
          exact ⟨0, Nat.le_refl 0, setR_new_at hget⟩
        case zR =>
          intro s' c' hm hc' hS'
          obtain ⟨h', g2, d', tk', os'⟩ := s'
          obtain rfl : g2 = s.gens := hm.gens
          obtain rfl : d' = s.drawn := hm.drawn
          obtain rfl : os' = s.os := hm.os
          show wpAny _ _ _ _ _ _
          refine wpAny_pure ?_
          show wpAny _ _ (ret Value.none) _ _ _
          rw [sz] at hc'
          refine wpAny_pure ⟨rfl, h', tk', c', rfl, hS', hc', fun b o e => ?_⟩
          have b0 : b < s.heap.objs.size := Heap.lt_size e
          have b1 : b ≠ s.heap.objs.size := Nat.ne_of_lt b0
          have b2 : b ≠ (s.heap.push (setOb w)).objs.size := by rw [Heap.size_push]; exact Nat.ne_of_lt (Nat.lt_succ_of_lt b0)
          exact hm.heap b o (by simp only [List.mem_cons, List.mem_singleton, List.not_mem_nil, or_false, not_or]; exact ⟨b1, b2⟩) (Heap.get?_push_of_some _ (Heap.get?_push_of_some _ e))
      · cases r2 with
        | error e => exact hr2
        | ok fl2 =>
          cases fl2 with
          | ret r =>
            obtain ⟨rfl, h', tk, c', rfl, hS', hc', hk'⟩ := hr2
            repeat (any_goals (first | assumption | wp_step))
            exact h _ _ _ hS' hc' hk'
          | _ => exact hr2.elim
    | _ => exact hr.elim
end
theorem len_sub : ∀ {l U : List Int}, l.Nodup → (∀ x ∈ l, x ∈ U) → l.length ≤ U.length
  | [], U, _, _ => Nat.zero_le _
  | x :: r, U, h, hs => by
    have hx := hs x List.mem_cons_self
    have h1 : ∀ y ∈ r, y ∈ U.erase x := fun y hy => by
      have : y ≠ x := fun e => (List.nodup_cons.mp h).1 (e ▸ hy)
      exact (List.mem_erase_of_ne this).mpr (hs y (List.mem_cons_of_mem _ hy))
    have := len_sub (List.nodup_cons.mp h).2 h1
    rw [List.length_erase_of_mem hx] at this
    have : 0 < U.length := List.length_pos_of_mem hx
    simp only [List.length_cons]
    omega
theorem setR_dups {w : World} {h : Heap} {a : Addr} {ns : List Int} {c : Nat} (R : SetR w h a (fun j => decide (j ∈ ns)) c) : c ≤ ns.eraseDups.length := by
  obtain ⟨o, es, ep, t, _, _, _, _, nd, hm, _, _, hn, _⟩ := R
  have z := len_sub (U := ns.eraseDups) nd fun k hk => by
    rw [List.mem_eraseDups]
    exact of_decide_eq_true ((hm k).mpr hk)
  rw [List.length_map, Array.length_toList] at z
  omega
section
variable {X : Cx}
def rSetI (K : PySem.W.Frag) (w : World) : List V → Hp → VK → Prop := fun xs H Q => ∃ (l : Addr) (ns : List Int), xs = [.ref l] ∧ (SqL K H l (ns.map V.int) ∨ SqT K H l (ns.map V.int)) ∧ ns.length ≤ 900 ∧
  ∀ a c, H a = none → c ≤ ns.eraseDups.length → Q (.ref a) (upd H a (SetO w a (fun j => decide (j ∈ ns)) c))
theorem cr_setI (hc : X.calm = true) : CallR X (.type "set") (rSetI X.K X.w) := by
  intro pins s σ H xs us Q I r h
  obtain ⟨l, ns, rfl, hl, hz, q⟩ := h
  rw [Vals.ref1 r]
  have fr : H s.heap.objs.size = none := I.hok.fresh (Nat.le_refl _)
  have hb : ns.length + 1 < scanBound := by unfold scanBound; omega
  have done : ∀ (h' : Heap) (tk c : Nat), SetR X.w h' s.heap.objs.size (fun j => decide (j ∈ ns)) c → c ≤ ns.length → (∀ b o, s.heap.get? b = some o → h'.get? b = some o) → EP X pins σ Q (.ref s.heap.objs.size) { s with heap := h', toks := tk } := fun h' tk c R hcn k =>
    ⟨.ref s.heap.objs.size, upd H s.heap.objs.size (SetO X.w s.heap.objs.size (fun j => decide (j ∈ ns)) c), I.laid (t' := tk) k (Nat.le_refl _) (setO_new R), rfl, q _ c fr (setR_dups R)⟩
  rcases hl with hl | hl
  · obtain ⟨its, rv, pl, hz2⟩ := I.list hl
    exact setOf_list ns (I.ok.hd hc) pl.isList (by simpa using rv.ints) hb done
  · obtain ⟨its, rv, pt, _⟩ := I.tuple hl
    exact call_set_tupI ns (I.ok.hd hc) (show s.heap.IsTuple l its.toArray from pt) (by simpa using rv.ints) hb done
end
/-! ascending lists of unlike numbers -/
theorem asc_ext : ∀ {a b : List Int}, a.Pairwise (· < ·) → b.Pairwise (· < ·) → (∀ k, k ∈ a ↔ k ∈ b) → a = b
  | [], [], _, _, _ => rfl
  | [], y :: b, _, _, h => by have := (h y).mpr List.mem_cons_self; simp at this
  | x :: a, [], _, _, h => by have := (h x).mp List.mem_cons_self; simp at this
  | x :: a, y :: b, h1, h2, h => by
    obtain ⟨p1, q1⟩ := List.pairwise_cons.mp h1
    obtain ⟨p2, q2⟩ := List.pairwise_cons.mp h2
    have exy : x = y := by
      rcases List.mem_cons.mp ((h x).mp List.mem_cons_self) with e | e
      · exact e
      · rcases List.mem_cons.mp ((h y).mpr List.mem_cons_self) with e2 | e2
        · exact e2.symm
        · have z1 := p1 y e2
          have z2 := p2 x e
          omega
    subst exy
    congr 1
    refine asc_ext q1 q2 fun k => ⟨fun hk => ?_, fun hk => ?_⟩
    · rcases List.mem_cons.mp ((h k).mp (List.mem_cons_of_mem _ hk)) with e | e
      · have := p1 k hk; omega
      · exact e
    · rcases List.mem_cons.mp ((h k).mpr (List.mem_cons_of_mem _ hk)) with e | e
      · have := p2 k hk; omega
      · exact e
theorem sortI_perm (ns : List Int) : (sortI ns).Perm ns := List.mergeSort_perm _ _
theorem sortI_mem {ns : List Int} {k : Int} : k ∈ sortI ns ↔ k ∈ ns := (sortI_perm ns).mem_iff
theorem sortI_asc {ns : List Int} (h : ns.Nodup) : (sortI ns).Pairwise (· < ·) := by
  have s : (sortI ns).Pairwise (fun a b => decide (a ≤ b) = true) := List.pairwise_mergeSort (fun a b c h1 h2 => by simp at *; omega) (fun a b => by simp; omega) ns
  have n : (sortI ns).Nodup := (sortI_perm ns).nodup_iff.mpr h
  exact (s.and n).imp fun ⟨h1, h2⟩ => by
    have := of_decide_eq_true h1
    omega
end EV
/-! EvQ: comparisons of the evaluator are the model's (own work). -/
namespace EV
open PySem PySem.Spec PyProof.Rows L2

/-! ### the order of tuples of whole numbers -/
def lexF (r : Int → Int → Bool) (z : Nat → Nat → Bool) : List Int → List Int → Bool
  | [], ys => z 0 ys.length
  | x :: xs, [] => z (xs.length + 1) 0
  | x :: xs, y :: ys => if x = y then lexF r z xs ys else r x y
theorem lexAt_shift (e r : Nat → Bool) (z : Bool) : ∀ (k i : Nat), Ob.lexAt e r z (i + 1) k = Ob.lexAt (fun j => e (j + 1)) (fun j => r (j + 1)) z i k
  | 0, i => rfl
  | k + 1, i => by rw [Ob.lexAt_succ, Ob.lexAt_succ, lexAt_shift e r z k (i + 1)]
theorem lex_gen (r : Int → Int → Bool) (z : Nat → Nat → Bool) (hz : ∀ n m, z (n + 1) (m + 1) = z n m) : ∀ ns ms : List Int,
    Ob.lexAt (fun j => decide (ns.getD j 0 = ms.getD j 0)) (fun j => r (ns.getD j 0) (ms.getD j 0)) (z ns.length ms.length) 0 (min ns.length ms.length) = lexF r z ns ms
  | [], ms => by simp [lexF, Ob.lexAt_zero]
  | x :: xs, [] => by simp [lexF, Ob.lexAt_zero]
  | x :: xs, y :: ys => by
    have e : min (x :: xs).length (y :: ys).length = min xs.length ys.length + 1 := by simp [Nat.succ_min_succ]
    rw [e, Ob.lexAt_succ, lexAt_shift]
    have ih := lex_gen r z hz xs ys
    have hz' : z (x :: xs).length (y :: ys).length = z xs.length ys.length := hz _ _
    rw [hz']
    simp only [List.getD_cons_zero, List.getD_cons_succ, decide_eq_true_eq] at ih ⊢
    rw [ih]
    rfl
theorem lexF_le : ∀ ns ms : List Int, lexF (fun a b => decide (a ≤ b)) (fun n m => decide (n ≤ m)) ns ms = !lexLt ms ns
  | [], [] => rfl
  | [], _ :: _ => by simp [lexF, lexLt]
  | _ :: _, [] => by simp [lexF, lexLt]
  | x :: xs, y :: ys => by
    unfold lexF lexLt
    by_cases h : x = y
    · rw [if_pos h, if_pos h.symm]; exact lexF_le xs ys
    · rw [if_neg h, if_neg (Ne.symm h)]
      by_cases h1 : x ≤ y
      · rw [decide_eq_true h1, decide_eq_false (by omega)]; rfl
      · rw [decide_eq_false h1, decide_eq_true (by omega)]; rfl
theorem lexF_gt : ∀ ns ms : List Int, lexF (fun a b => decide (b < a)) (fun n m => decide (n > m)) ns ms = lexLt ms ns
  | [], [] => rfl
  | [], _ :: _ => by simp [lexF, lexLt]
  | _ :: _, [] => by simp [lexF, lexLt]
  | x :: xs, y :: ys => by
    unfold lexF lexLt
    by_cases h : x = y
    · rw [if_pos h, if_pos h.symm]; exact lexF_gt xs ys
    · rw [if_neg h, if_neg (Ne.symm h)]
theorem lexF_ge : ∀ ns ms : List Int, lexF (fun a b => decide (b ≤ a)) (fun n m => decide (n ≥ m)) ns ms = !lexLt ns ms
  | [], [] => rfl
  | [], _ :: _ => by simp [lexF, lexLt]
  | _ :: _, [] => by simp [lexF, lexLt]
  | x :: xs, y :: ys => by
    unfold lexF lexLt
    by_cases h : x = y
    · rw [if_pos h, if_pos h]; exact lexF_ge xs ys
    · rw [if_neg h, if_neg h]
      by_cases h1 : y ≤ x
      · rw [decide_eq_true h1, decide_eq_false (by omega)]; rfl
      · rw [decide_eq_false h1, decide_eq_true (by omega)]; rfl
theorem lexLt_eq : ∀ ns ms : List Int, HT.lexLt ns ms = lexLt ns ms
  | [], [] => rfl
  | [], _ :: _ => rfl
  | _ :: _, [] => rfl
  | x :: xs, y :: ys => by
    unfold HT.lexLt lexLt
    rw [lexLt_eq xs ys]
section
variable {X : Cx} {op : CmpOp} {r : Int → Int → Bool} {z : Nat → Nat → Bool}
theorem op_tupInts (hz : ∀ n m, z (n + 1) (m + 1) = z n m) (ho : ∀ v u, compareOp op v u = richCompare op v u)
    (hr : ∀ {A : Around} {s : Shared} (a b : Int) (t u : Tok), Ob.RcOp op A s (.int a t) (.int b u) (r a b))
    (R : ∀ {A : Around} {s : Shared} {l b : Addr} {items items2 : Array Value} {e r : Nat → Bool}, s.heap.IsTuple l items → s.heap.IsTuple b items2 → A.units < cLine →
      (∀ j (h1 : j < items.size) (h2 : j < items2.size), SeqAt.EqAt A.in1 s items[j] items2[j] (e j)) → (∀ j (h1 : j < items.size) (h2 : j < items2.size), e j = false → Ob.RcOp op A.in1 s items[j] items2[j] (r j)) →
      Ob.RcOp op A s (.ref l) (.ref b) (Ob.lexAt e r (z items.size items2.size) 0 (min items.size items2.size)))
    (hu : X.A.units < cLine) : OpR X (compareOp op) (fun x y H Q => ∃ (a b : Addr) (ns ms : List Int), x = .ref a ∧ y = .ref b ∧ SqT X.K H a (ns.map V.int) ∧ SqT X.K H b (ms.map V.int) ∧ Q (.bl (lexF r z ns ms)) H) := by
  intro pins s σ H x y v u Q I rx ry h
  obtain ⟨a, b, ns, ms, rfl, rfl, ha, hb, q⟩ := h
  cases rx
  cases ry
  obtain ⟨its, r1, p1, _⟩ := I.tuple ha
  obtain ⟨its2, r2, p2, _⟩ := I.tuple hb
  have i1 : IntsAre its ns := Vals.ints r1
  have i2 : IntsAre its2 ms := Vals.ints r2
  have e1 : its.toArray.size = ns.length := by rw [List.size_toArray]; exact i1.length
  have e2 : its2.toArray.size = ms.length := by rw [List.size_toArray]; exact i2.length
  have at1 : ∀ j (h1 : j < its.toArray.size), ∃ t, its.toArray[j] = .int (ns.getD j 0) t := fun j h1 => PyProof.Rows.IntsAre.int_at i1 _ _ (by simp at h1; simp [h1])
  have at2 : ∀ j (h1 : j < its2.toArray.size), ∃ t, its2.toArray[j] = .int (ms.getD j 0) t := fun j h1 => PyProof.Rows.IntsAre.int_at i2 _ _ (by simp at h1; simp [h1])
  have RR := R (A := X.A) (s := s) (e := fun j => decide (ns.getD j 0 = ms.getD j 0)) (r := fun j => r (ns.getD j 0) (ms.getD j 0)) p1 p2 hu (fun j h1 h2 => by
    obtain ⟨t, et⟩ := at1 j h1
    obtain ⟨t', et'⟩ := at2 j h2
    rw [et, et']
    have z : (ns.getD j 0 == ms.getD j 0) = decide (ns.getD j 0 = ms.getD j 0) := by
      by_cases q : ns.getD j 0 = ms.getD j 0
      · rw [decide_eq_true q]; exact beq_iff_eq.mpr q
      · rw [decide_eq_false q]; exact beq_eq_false_iff_ne.mpr q
    rw [← z]
    exact SeqAt.EqAt.int_int _ _ _ _) (fun j h1 h2 _ => by
    obtain ⟨t, et⟩ := at1 j h1
    obtain ⟨t', et'⟩ := at2 j h2
    rw [et, et']
    exact hr _ _ _ _)
  rw [e1, e2, lex_gen r z hz] at RR
  rw [ho]
  exact RR X.prog X.w X.xe (EP X pins σ Q) ⟨.bl _, H, I, rfl, q⟩
end

/-! ### keys of dicts -/
theorem key_of {d : D} {k : Key} {v : V} {G : Pg} {H : Hp} {β : List Addr} (h : d.key = some k) (r : RV G H β d v) : d = keyD k ∧ v = kV k := by
  cases d <;> simp only [D.key, Option.some.injEq, reduceCtorEq] at h
  · subst h; cases r; exact ⟨rfl, rfl⟩
  · subst h; cases r; exact ⟨rfl, rfl⟩
theorem same_key (j k : Key) : D.same (keyD j) (keyD k) = decide (j = k) := by
  cases j <;> cases k
  · rename_i a b
    by_cases h : a = b
    · subst h; simp [keyD, D.same]
    · rw [decide_eq_false (fun q => h (Sum.inl.inj q))]; simp [keyD, D.same, h]
  · simp [keyD, D.same]
  · simp [keyD, D.same]
  · rename_i a b
    by_cases h : a = b
    · subst h; simp [keyD, D.same]
    · rw [decide_eq_false (fun q => h (Sum.inr.inj q))]; simp [keyD, D.same, h]
section
variable {G : Pg} {H : Hp} {β : List Addr}
theorem RKs.look (k : Key) : ∀ {kvs : List (D × D)} {q : List (Key × V)}, RKs G H β kvs q → (lookD (keyD k) kvs = none ∧ valV q k = none) ∨ ∃ d v, lookD (keyD k) kvs = some d ∧ valV q k = some v ∧ RV G H β d v
  | _, _, .nil => .inl ⟨rfl, rfl⟩
  | _, _, .cons (k := j) (v := w) (q := t) r rs => by
    unfold lookD
    rw [same_key]
    by_cases h : j = k
    · rw [decide_eq_true h, if_pos rfl, valV_pos (p := (j, w)) h]
      exact .inr ⟨_, _, rfl, rfl, r⟩
    · rw [decide_eq_false h, if_neg Bool.false_ne_true, valV_neg (p := (j, w)) h]
      exact RKs.look k rs
theorem RKs.length : ∀ {kvs : List (D × D)} {q : List (Key × V)}, RKs G H β kvs q → kvs.length = q.length
  | _, _, .nil => rfl
  | _, _, .cons _ rs => congrArg (· + 1) (RKs.length rs)
theorem RKs.append : ∀ {kvs kvs' : List (D × D)} {q q' : List (Key × V)}, RKs G H β kvs q → RKs G H β kvs' q' → RKs G H β (kvs ++ kvs') (q ++ q')
  | _, _, _, _, .nil, r => r
  | _, _, _, _, .cons r rs, r' => .cons r (RKs.append rs r')
theorem RKs.any (k : Key) : ∀ {kvs : List (D × D)} {q : List (Key × V)}, RKs G H β kvs q → (kvs.any fun p => D.same p.1 (keyD k)) = (q.any fun p => decide (p.1 = k))
  | _, _, .nil => rfl
  | _, _, .cons r rs => by
    simp only [List.any_cons, same_key]
    rw [RKs.any k rs]
theorem RKs.mapK (k : Key) {d : D} {v : V} (r : RV G H β d v) : ∀ {kvs : List (D × D)} {q : List (Key × V)}, RKs G H β kvs q → RKs G H β (kvs.map fun p => if D.same p.1 (keyD k) then (p.1, d) else p) (q.map fun p => if p.1 = k then (p.1, v) else p)
  | _, _, .nil => .nil
  | _, _, .cons (k := j) r' rs => by
    simp only [List.map_cons, same_key]
    by_cases h : j = k
    · rw [if_pos h, if_pos (decide_eq_true h)]
      exact .cons r (RKs.mapK k r rs)
    · rw [if_neg h, if_neg (by simp [h])]
      exact .cons r' (RKs.mapK k r rs)
theorem RKs.put (k : Key) {d : D} {v : V} (r : RV G H β d v) {kvs : List (D × D)} {q : List (Key × V)} (h : RKs G H β kvs q) : RKs G H β (putD (keyD k) d kvs) (putK q k v) := by
  unfold putD putK
  rw [h.any k]
  split
  · exact h.mapK k r
  · exact h.append (.cons r .nil)
end

/-! ### comparisons -/
section
variable {L : Lw} {X : Cx}
def cmpOf : Cp → CmpOp
  | .eq => .Eq
  | .ne => .NotEq
  | .lt => .Lt
  | .le => .LtE
  | .gt => .Gt
  | .ge => .GtE
  | .isin => .In
  | .notin => .NotIn
  | .is_ => .Is
  | .isnot => .IsNot
theorem cpOf_eq {op : CmpOp} {o : Cp} (h : cpOf op = some o) : op = cmpOf o := by
  cases op <;> simp only [cpOf, Option.some.injEq, reduceCtorEq] at h <;> subst h <;> rfl
theorem cp_ok {o : Cp} {x y a : D} {s s' : Sto} (h : cp o x y s = .ok a s') : ∃ b, cpO o x y s = some b ∧ a = .bool b ∧ s' = s := by
  unfold cp at h
  cases e : cpO o x y s with
  | some b => rw [e] at h; cases h; exact ⟨b, rfl, rfl, rfl⟩
  | none => rw [e] at h; cases h
theorem eqD_ok {x y : D} {s : Sto} {b : Bool} (h : eqD x y s = some b) : ∃ p q, x.rd s = some p ∧ y.rd s = some q ∧ b = PyData.eqv p q := by
  unfold eqD at h
  split at h
  · rename_i p q h1 h2
    exact ⟨p, q, h1, h2, (Option.some.inj h).symm⟩
  · cases h
theorem RV.tk {G : Pg} {H : Hp} {β : List Addr} {d : D} {v : V} (r : RV G H β d v) {k : List Int} (h : d.tk = some k) : ∃ b, v = .ref b ∧ SqT G.K H b (k.map V.int) := by
  cases r with
  | tup h1 r1 =>
    have := r1.ints h
    subst this
    exact ⟨_, rfl, h1⟩
  | _ => cases h
theorem isIn_ok (hK : X.K = L.G.K) (hP : X.prog = L.G.prog) (hw : X.w = L.G.w) (hu : X.A.units + 65 < cLine) {op : CmpOp} {neg : Bool} (hop : (op = .In ∧ neg = false) ∨ (op = .NotIn ∧ neg = true))
    {pins : List (Addr × Obj)} {s : Shared} {σ : L2.St} {H : Hp} {x y : V} {v u : Value} {Q : VK} {dx dy : D} {S : Sto} {β : List Addr} {b : Bool} (I : Inv X pins σ H s) (rx : RelV x v) (ry : RelV y u)
    (hx : RV L.G H β dx x) (hy : RV L.G H β dy y) (at_ : At L.G H β S) (e : isIn dx dy S = some b) (q : Q (.bl (if neg then !b else b)) H) : wpAny (model X.prog X.w) X.A (compareOp op v u) (EP X pins σ Q) X.xe s := by
  cases dy with
  | str z =>
    cases dx with
    | str a =>
      by_cases hl : a.length = 1
      · simp only [isIn, if_pos hl] at e
        cases hx; cases hy
        have ea : a = ⟨#[a.cps.getD 0 0]⟩ := by
          obtain ⟨⟨l⟩⟩ := a
          cases l with
          | nil => cases hl
          | cons c r =>
            cases r with
            | nil => rfl
            | cons _ _ => cases hl
        have e' := Option.some.inj e
        rcases hop with ⟨rfl, rfl⟩ | ⟨rfl, rfl⟩
        · exact op_in_sign pins s σ H _ _ v u Q I rx ry ⟨_, z, congrArg V.str ea, rfl, by rw [e']; exact q⟩
        · exact op_notIn_sign pins s σ H _ _ v u Q I rx ry ⟨_, z, congrArg V.str ea, rfl, by rw [e']; exact q⟩
      · simp only [isIn, if_neg hl] at e
        cases e
    | _ => cases e
  | tup ds =>
    simp only [isIn] at e
    split at e
    · rename_i p qs h1 h2
      have e' := Option.some.inj e
      obtain ⟨d1, s1⟩ := hx.rd at_ h1
      obtain ⟨d2, s2⟩ := hy.rd at_ h2
      rw [← hK] at d1 d2
      obtain ⟨as, r1⟩ := Dp.reads I p x v d1 rx
      obtain ⟨bs, r2⟩ := Dp.reads I (.tuple qs) y u d2 ry
      rcases hop with ⟨rfl, rfl⟩ | ⟨rfl, rfl⟩
      · exact SeqAt.in_tuple_reads r2 r1 (SeqAt.canLay_of_shaped s2) (SeqAt.canLay_of_shaped s1) (room_in_shaped s1 hu) ⟨.bl _, H, I, rfl, by rw [e']; exact q⟩
      · exact SeqAt.notIn_tuple_reads r2 r1 (SeqAt.canLay_of_shaped s2) (SeqAt.canLay_of_shaped s1) (room_in_shaped s1 hu) ⟨.bl _, H, I, rfl, by rw [e']; exact q⟩
    · cases e
  | loc k =>
    simp only [isIn] at e
    split at e
    · rename_i kvs hk
      split at e
      · rename_i key hkey
        have e' := Option.some.inj e
        obtain ⟨rfl, rfl⟩ := key_of hkey hx
        obtain ⟨a, kq, rfl, hb, hH, rk⟩ := hy.dctAt at_ hk
        cases ry
        have hb' : b = (valV kq key).isSome := by
          rcases rk.look key with ⟨h1, h2⟩ | ⟨d, w, h1, h2, _⟩
          · rw [← e', h1, h2]; rfl
          · rw [← e', h1, h2]; rfl
        rcases hop with ⟨rfl, rfl⟩ | ⟨rfl, rfl⟩
        · exact d_in (A := X.A) (by omega) I (DGet.k hH) rx fun s' I' => ⟨.bl _, H, I', rfl, by rw [← hb']; exact q⟩
        · exact d_notIn (A := X.A) (by omega) I (DGet.k hH) rx fun s' I' => ⟨.bl _, H, I', rfl, by rw [← hb']; exact q⟩
      · cases e
    · rename_i ks hk
      rw [Option.map_eq_some_iff] at e
      obtain ⟨q0, ek, rfl⟩ := e
      obtain ⟨b, rfl, hb⟩ := hx.tk ek
      obtain ⟨a, rfl, _, Lx, hH, ht, pm⟩ := at_.get hy hk
      cases rx
      cases ry
      rw [← hK] at ht hb
      refine set_in (L := Lx) (k := q0) I (by omega) hop (by rw [hP, hw]; exact hH) ht hb ?_
      have em : decide (q0 ∈ Lx.map (·.2)) = decide (q0 ∈ ks) := by
        rw [decide_eq_decide]
        exact pm.mem_iff
      rw [em]
      exact q
    · split at e
      · rename_i p qs h1 h2
        have e' := Option.some.inj e
        obtain ⟨d1, s1⟩ := hx.rd at_ h1
        obtain ⟨d2, s2⟩ := hy.rd at_ h2
        rw [← hK] at d1 d2
        rcases hop with ⟨rfl, rfl⟩ | ⟨rfl, rfl⟩
        · exact op_inD hu pins s σ H x y v u Q I rx ry ⟨p, qs, d1, d2, s1, s2, by rw [e']; exact q⟩
        · exact op_notInD hu pins s σ H x y v u Q I rx ry ⟨p, qs, d1, d2, s1, s2, by rw [e']; exact q⟩
      · cases e
  | _ => cases e
theorem ordD_ok (hK : X.K = L.G.K) (hu : X.A.units + 65 < cLine) {o : Cp} (ho : o = .lt ∨ o = .le ∨ o = .gt ∨ o = .ge)
    {pins : List (Addr × Obj)} {s : Shared} {σ : L2.St} {H : Hp} {x y : V} {v u : Value} {Q : VK} {dx dy : D} {β : List Addr} {b : Bool} (I : Inv X pins σ H s) (rx : RelV x v) (ry : RelV y u)
    (hx : RV L.G H β dx x) (hy : RV L.G H β dy y) (e : ordD o dx dy = some b) (q : Q (.bl b) H) : wpAny (model X.prog X.w) X.A (compareOp (cmpOf o) v u) (EP X pins σ Q) X.xe s := by
  cases dx with
  | int i =>
    cases dy with
    | int j =>
      cases hx; cases hy
      rcases ho with rfl | rfl | rfl | rfl <;> (have e' := Option.some.inj e; subst e')
      · exact op_lt pins s σ H _ _ v u Q I rx ry ⟨i, j, rfl, rfl, q⟩
      · exact op_le pins s σ H _ _ v u Q I rx ry ⟨i, j, rfl, rfl, q⟩
      · exact op_gt pins s σ H _ _ v u Q I rx ry ⟨i, j, rfl, rfl, q⟩
      · exact op_ge pins s σ H _ _ v u Q I rx ry ⟨i, j, rfl, rfl, q⟩
    | _ => cases e
  | tup xs =>
    cases dy with
    | tup ys =>
      cases hx with
      | @tup a1 vs _ h1 r1 =>
        cases hy with
        | @tup a2 ws _ h2 r2 =>
          simp only [ordD] at e
          split at e
          · rename_i ns ms i1 i2
            have e1 := r1.ints i1
            have e2 := r2.ints i2
            subst e1
            subst e2
            rw [← hK] at h1 h2
            rcases ho with rfl | rfl | rfl | rfl <;> (have e' := Option.some.inj e; subst e')
            · exact op_ltT (by omega) pins s σ H _ _ v u Q I rx ry ⟨a1, a2, ns, ms, rfl, rfl, h1, h2, by rw [lexLt_eq]; exact q⟩
            · exact op_tupInts (z := fun n m => decide (n ≤ m)) (fun n m => by simp) (fun _ _ => rfl) Ob.RcOp.le_int Ob.RcOp.tuples_le (by omega) pins s σ H _ _ v u Q I rx ry ⟨a1, a2, ns, ms, rfl, rfl, h1, h2, by rw [lexF_le]; exact q⟩
            · exact op_tupInts (z := fun n m => decide (n > m)) (fun n m => by simp) (fun _ _ => rfl) Ob.RcOp.gt_int Ob.RcOp.tuples_gt (by omega) pins s σ H _ _ v u Q I rx ry ⟨a1, a2, ns, ms, rfl, rfl, h1, h2, by rw [lexF_gt]; exact q⟩
            · exact op_tupInts (z := fun n m => decide (n ≥ m)) (fun n m => by simp) (fun _ _ => rfl) Ob.RcOp.ge_int Ob.RcOp.tuples_ge (by omega) pins s σ H _ _ v u Q I rx ry ⟨a1, a2, ns, ms, rfl, rfl, h1, h2, by rw [lexF_ge]; exact q⟩
          · cases e
    | _ => cases e
  | _ => cases e
/-- whether a value is None -/
theorem RV.non_iff {G : Pg} {H : Hp} {β : List Addr} {d : D} {v : V} (r : RV G H β d v) : decide (v = .non) = d.isN := by
  cases r <;> simp [D.isN]
theorem op_cp (hK : X.K = L.G.K) (hP : X.prog = L.G.prog) (hw : X.w = L.G.w) (hu : X.A.units + 65 < cLine) (o : Cp) : OpR X (compareOp (cmpOf o)) (rF2 L (cp o)) := by
  intro pins s σ H x y v u Q I rx ry ⟨dx, dy, S, β, a, S', hx, hy, at_, e, q⟩
  obtain ⟨b, e0, rfl, rfl⟩ := cp_ok e
  clear e
  have e := e0
  clear e0
  have q : Q (.bl b) H := kg_same at_ (.bool b) q
  cases o with
  | eq =>
    obtain ⟨p, r, h1, h2, rfl⟩ := eqD_ok e
    obtain ⟨d1, s1⟩ := hx.rd at_ h1
    obtain ⟨d2, s2⟩ := hy.rd at_ h2
    rw [← hK] at d1 d2
    exact op_eqD (by omega) pins s σ H x y v u Q I rx ry ⟨p, r, d1, d2, s1, s2, q⟩
  | ne =>
    simp only [cpO, Option.map_eq_some_iff] at e
    obtain ⟨b', e, rfl⟩ := e
    obtain ⟨p, r, h1, h2, rfl⟩ := eqD_ok e
    obtain ⟨d1, s1⟩ := hx.rd at_ h1
    obtain ⟨d2, s2⟩ := hy.rd at_ h2
    rw [← hK] at d1 d2
    exact op_neD (by omega) pins s σ H x y v u Q I rx ry ⟨p, r, d1, d2, s1, s2, q⟩
  | isin => exact isIn_ok (L := L) (neg := false) hK hP hw hu (.inl ⟨rfl, rfl⟩) I rx ry hx hy at_ e q
  | notin =>
    simp only [cpO, Option.map_eq_some_iff] at e
    obtain ⟨b', e, rfl⟩ := e
    exact isIn_ok (L := L) (neg := true) hK hP hw hu (.inr ⟨rfl, rfl⟩) I rx ry hx hy at_ e q
  | is_ =>
    cases dy <;> simp only [cpO, Option.some.injEq, reduceCtorEq] at e
    cases hy
    exact op_isN pins s σ H x _ v u Q I rx ry ⟨rfl, by rw [hx.non_iff, e]; exact q⟩
  | isnot =>
    cases dy <;> simp only [cpO, Option.some.injEq, reduceCtorEq] at e
    cases hy
    refine op_notN pins s σ H x _ v u Q I rx ry ⟨rfl, ?_⟩
    rw [hx.non_iff, e]
    exact q
  | lt => exact ordD_ok (L := L) hK hu (.inl rfl) I rx ry hx hy e q
  | le => exact ordD_ok (L := L) hK hu (.inr (.inl rfl)) I rx ry hx hy e q
  | gt => exact ordD_ok (L := L) hK hu (.inr (.inr (.inl rfl))) I rx ry hx hy e q
  | ge => exact ordD_ok (L := L) hK hu (.inr (.inr (.inr rfl))) I rx ry hx hy e q
end
end EV
/-! EvR: subscripts, slices, truth, calls of built-ins (own work). -/
namespace EV
open PySem PySem.Spec PyProof.Rows L2

theorem ofO_ok {α : Type} {o : Option α} {s s' : Sto} {a : α} (h : R.ofO o s = .ok a s') : o = some a ∧ s' = s := by
  cases o with
  | some b => cases h; exact ⟨rfl, rfl⟩
  | none => cases h
theorem plain_of {b : Expr} (h : plainIdx b = true) : PlainIx b := fun o i => by
  cases b <;> first | rfl | cases h
theorem RVs.atI {G : Pg} {H : Hp} {β : List Addr} {ds : List D} {vs : List V} {i : Int} {d : D} (r : RVs G H β ds vs) (h : L2.atI ds i = some d) : ∃ v, L2.atI vs i = some v ∧ RV G H β d v := by
  unfold L2.atI at h ⊢
  rw [← r.length]
  simp only [Option.bind_eq_some_iff] at h
  obtain ⟨j, h1, h2⟩ := h
  obtain ⟨v, h3, h4⟩ := r.get h2
  exact ⟨v, by rw [h1]; exact h3, h4⟩
section
variable {L : Lw} {X : Cx}
theorem ix_ok (hK : X.K = L.G.K) (hu : X.A.units + 65 < cLine) : IxR X (rF2 L ix) := by
  intro value slice pins s σ H x y v u Q I rx ry ⟨dx, dy, S, β, a, S', hx, hy, at_, e, q⟩ hs
  cases dx with
  | tup ds =>
    cases dy with
    | int i =>
      cases hx with
      | @tup p vs _ h1 r1 =>
        cases hy
        obtain ⟨e1, rfl⟩ := ofO_ok e
        obtain ⟨w, h2, r2⟩ := r1.atI e1
        exact ix_tup value slice pins s σ H _ _ v u Q I rx ry ⟨p, vs, i, w, rfl, rfl, hK ▸ h1, h2, kg_same at_ r2 q⟩ hs
    | _ => cases e
  | str z =>
    cases dy with
    | int i =>
      cases hx; cases hy
      simp only [ix] at e
      by_cases hz : inLine z.length = true
      · rw [if_pos hz] at e
        obtain ⟨e1, rfl⟩ := ofO_ok e
        simp only [Option.map_eq_some_iff] at e1
        obtain ⟨c, h1, rfl⟩ := e1
        exact ix_str value slice pins s σ H _ _ v u Q I rx ry ⟨z, i, c, rfl, rfl, inLine_iff hz, h1, kg_same at_ (.str _) q⟩ hs
      · rw [if_neg hz] at e
        cases e
    | _ => cases e
  | loc k =>
    simp only [ix] at e
    split at e
    · rename_i xs i hk
      cases hy
      obtain ⟨p, vs, rfl, h1, r1⟩ := hx.seqAt at_ (.inl hk)
      obtain ⟨e1, rfl⟩ := ofO_ok e
      obtain ⟨w, h2, r2⟩ := r1.atI e1
      exact ix_list value slice pins s σ H _ _ v u Q I rx ry ⟨p, vs, i, w, rfl, rfl, hK ▸ h1, h2, kg_same at_ r2 q⟩ hs
    · rename_i xs i hk
      cases hy
      obtain ⟨p, vs, rfl, h1, r1⟩ := hx.seqAt at_ (.inr hk)
      obtain ⟨e1, rfl⟩ := ofO_ok e
      obtain ⟨w, h2, r2⟩ := r1.atI e1
      exact ix_list value slice pins s σ H _ _ v u Q I rx ry ⟨p, vs, i, w, rfl, rfl, hK ▸ h1, h2, kg_same at_ r2 q⟩ hs
    · rename_i kvs hk
      split at e
      · rename_i key hkey
        obtain ⟨rfl, rfl⟩ := key_of hkey hy
        obtain ⟨p, kq, rfl, hb, hH, rk⟩ := hx.dctAt at_ hk
        obtain ⟨e1, rfl⟩ := ofO_ok e
        rcases rk.look key with ⟨h1, _⟩ | ⟨d, w, h1, h2, r2⟩
        · rw [h1] at e1; cases e1
        · rw [h1] at e1
          cases e1
          cases rx
          have g : DGet H p (kV key) (some w) := by rw [← h2]; exact DGet.k hH
          exact tail_any (ops := [.ref p, u]) (dict_typeIs I g) PySem.F.slot_dict_getitem.lookup (d_getItem (by omega) I g ry fun w' s3 I3 rw' => ⟨w, H, I3, rw', kg_same at_ r2 q⟩) hs
      · cases e
    · cases e
  | _ => cases e
theorem cut_eq {G : Pg} {H : Hp} {β : List Addr} {ds : List D} {vs : List V} (r : RVs G H β ds vs) (lo hi : Option Int) : RVs G H β (cut ds lo hi) (cutV vs lo hi) := by
  unfold cut cutV
  rw [r.length]
  exact (r.drop _).take _
theorem cut_whole (ds : List D) (lo hi : Option Int) (h : HT.sIx ds.length 0 lo = 0 ∧ HT.sIx ds.length ds.length hi = ds.length) : cut ds lo hi = ds := by
  unfold cut
  rw [h.1, h.2]
  simp
theorem sl_ok (hK : X.K = L.G.K) : SlR X (fun x lo hi H Q => rF1 L (fun d s => slice d lo hi s) x H Q) := by
  intro pins s σ H x v vl vu lo hi sl Q I rx hs pl pu ⟨dx, S, β, a, S', hx, at_, e, q⟩
  cases dx with
  | tup ds =>
    cases hx with
    | @tup p vs _ h1 r1 =>
      cases e
      refine sl_tupA pins s σ H _ v vl vu lo hi sl Q I rx hs pl pu ⟨p, vs, rfl, hK ▸ h1, fun hw => ?_, fun hw => kg_tup at_ (cut_eq r1 lo hi) q⟩
      rw [← r1.length] at hw
      rw [cut_whole ds lo hi hw] at q
      exact kg_same at_ (.tup h1 r1) q
  | loc k =>
    simp only [slice] at e
    split at e
    · rename_i xs hk
      obtain ⟨p, vs, rfl, h1, r1⟩ := hx.seqAt at_ (.inl hk)
      obtain ⟨_, rfl, rfl⟩ := mkList_ok e
      exact sl_list pins s σ H _ v vl vu lo hi sl Q I rx hs pl pu ⟨p, vs, rfl, hK ▸ h1, kg_lst at_ (cut_eq r1 lo hi) q⟩
    · rename_i xs hk
      obtain ⟨p, vs, rfl, h1, r1⟩ := hx.seqAt at_ (.inr hk)
      obtain ⟨_, rfl, rfl⟩ := mkList_ok e
      exact sl_list pins s σ H _ v vl vu lo hi sl Q I rx hs pl pu ⟨p, vs, rfl, hK ▸ h1, kg_lst at_ (cut_eq r1 lo hi) q⟩
    · cases e
  | _ => cases e
/-- truth -/
theorem RV.tru {H : Hp} {β : List Addr} {S : Sto} (hK : X.K = L.G.K) (at_ : At L.G H β S) {d : D} {v : V} {b : Bool} (r : RV L.G H β d v) (e : d.truth S = some b) : TruV X.K v H b := by
  cases d with
  | none => cases r; cases e; rfl
  | bool c => cases r; cases e; rfl
  | int i => cases r; cases e; rfl
  | str z =>
    cases r
    simp only [D.truth] at e
    by_cases hz : inLine z.length = true
    · rw [if_pos hz] at e
      cases e
      refine ⟨inLine_iff hz, ?_⟩
      rw [Bool.eq_iff_iff]
      simp
    · rw [if_neg hz] at e
      cases e
  | tup ds =>
    cases r with
    | @tup p vs _ h1 r1 =>
      cases e
      refine .inr (.inl ⟨vs, hK ▸ h1, ?_⟩)
      cases r1 <;> rfl
  | loc k =>
    simp only [D.truth] at e
    split at e
    · rename_i xs hk
      obtain ⟨p, vs, rfl, h1, r1⟩ := r.seqAt at_ (.inl hk)
      cases e
      refine .inl ⟨vs, hK ▸ h1, ?_⟩
      cases r1 <;> rfl
    · rename_i xs hk
      obtain ⟨p, vs, rfl, h1, r1⟩ := r.seqAt at_ (.inr hk)
      cases e
      refine .inl ⟨vs, hK ▸ h1, ?_⟩
      cases r1 <;> rfl
    · rename_i kvs hk
      obtain ⟨p, kq, rfl, hb, hH, rk⟩ := r.dctAt at_ hk
      cases e
      refine .inr (.inr ⟨kq, hH, ?_⟩)
      cases rk <;> rfl
    · cases e
  | fn k => cases e
  | clo ps b w => cases e
theorem un_neg1 : UnR X (unaryOp .USub) (rF1 L negM) := by
  intro pins s σ H x v Q I rx ⟨dx, S, β, a, S', hx, at_, e, q⟩
  cases dx with
  | int i =>
    cases hx; cases e
    exact un_neg pins s σ H _ v Q I rx ⟨i, rfl, kg_same at_ (.int _) q⟩
  | _ => cases e
/-! o[i] = v -/
theorem set_ok (hu : X.A.units + 65 < cLine) : PSet X (fun o i v H Q => ∃ (d1 d2 d3 : D) (S S' : Sto) (β : List Addr), RV L.G H β d1 o ∧ RV L.G H β d2 i ∧ RV L.G H β d3 v ∧ At L.G H β S ∧ setIt d1 d2 d3 S = .ok () S' ∧
    ∀ H' β', Grow H H' β β' → At L.G H' β' S' → Q H') := by
  intro pins s σ H o i w ov iv u Q I ro ri rw ⟨d1, d2, d3, S, S', β, h1, h2, h3, at_, e, q⟩
  cases d1 with
  | loc k =>
    simp only [setIt] at e
    split at e
    · rename_i xs hk
      split at e
      · rename_i n
        split at e
        · rename_i j hj
          cases e
          cases h2
          obtain ⟨p, vs, rfl, hb, hH, r1⟩ := h1.lstAt at_ hk
          refine set_list pins s σ H _ _ w ov iv u Q I ro ri rw ⟨p, vs, n, j, rfl, rfl, hH, by rw [← r1.length]; exact hj, ?_⟩
          have g : Grow H (upd H p (.lst (vs.set j w))) β β := Grow.wr hH trivial
          exact q _ β g (at_.put hb hH trivial ⟨_, upd_same, (r1.set j h3).grow g⟩ (fun ps z => by cases z))
        · cases e
      · cases e
    · rename_i kvs hk
      split at e
      · rename_i key hkey
        by_cases hz : kvs.length < sizeLine
        · rw [if_pos hz] at e
          cases e
          obtain ⟨rfl, rfl⟩ := key_of hkey h2
          obtain ⟨p, kq, rfl, hb, hH, rk⟩ := h1.dctAt at_ hk
          cases ro
          have g : Grow H (upd H p (.dK (putK kq key w))) β β := Grow.wr hH trivial
          rw [rk.length] at hz
          exact d_setItem (by omega) I (DPut.k hH hz) ri rw fun s' I' => ⟨_, I', q _ β g (at_.put hb hH trivial ⟨_, upd_same, (rk.put key h3).grow g⟩ (fun ps z => by cases z))⟩
        · rw [if_neg hz] at e
          cases e
      · cases e
    · cases e
  | _ => cases e
end
end EV
/-! EvU: calls of built-in functions and methods (own work). -/
namespace EV
open PySem PySem.Spec PyProof.Rows L2 PySem.W

section
variable {L : Lw} {X : Cx}
/-! ### isinstance -/
def tyName : Ty → String
  | .int => "int"
  | .bool => "bool"
  | .str => "str"
  | .tuple => "tuple"
  | .list => "list"
  | .dict => "dict"
def tyAns (u t : Ty) : Bool := decide (u = t) || (decide (u = .bool) && decide (t = .int))
theorem kit_ans1 (K : Frag) (u t : Ty) : kitOne K (.type (tyName u)) (.type (tyName t)) = some (tyAns u t) := by cases u <;> cases t <;> rfl
theorem kit_none (K : Frag) (t : Ty) : kitOne K (.type "NoneType") (.type (tyName t)) = some false := by cases t <;> rfl
theorem isi_ok (hK : X.K = L.G.K) (t : Ty) : CallR X (.builtin "isinstance") (fun xs H Q => ∃ x, xs = [x, .ty (tyName t)] ∧ rF1 L (fun d s => isi d t s) x H Q) := by
  intro pins s σ H xs us Q I r ⟨x, ex, dx, S, β, a, S', hx, at_, e, q⟩
  subst ex
  obtain ⟨u, u2, rfl, ru, r2⟩ := r.two
  cases r2
  cases dx with
  | none =>
    cases hx; cases e
    exact isinst_ok I ru (.non) (kit_none _ t) fun tk => ⟨.bl false, H, I.tok _, rfl, kg_same at_ (.bool _) q⟩
  | bool b =>
    cases hx; cases e
    exact isinst_ok I ru (.bl b) (kit_ans1 _ .bool t) fun tk => ⟨.bl _, H, I.tok _, rfl, kg_same at_ (.bool _) q⟩
  | int b =>
    cases hx; cases e
    exact isinst_ok I ru (.int b) (kit_ans1 _ .int t) fun tk => ⟨.bl _, H, I.tok _, rfl, kg_same at_ (.bool _) q⟩
  | str b =>
    cases hx; cases e
    exact isinst_ok I ru (.str b) (kit_ans1 _ .str t) fun tk => ⟨.bl _, H, I.tok _, rfl, kg_same at_ (.bool _) q⟩
  | tup ds =>
    cases hx with
    | @tup p vs _ h1 r1 =>
      cases e
      cases ru
      obtain ⟨its, _, ⟨o, h1, h2, _⟩, _⟩ := I.tuple (hK ▸ h1)
      exact PySem.W.kia_one PySem.W.kitx_tuple I.kIn ⟨o, h1, h2⟩ (kit_ans1 _ .tuple t) (fun z => nomatch z) fun tk => ⟨.bl _, H, I.tok _, rfl, kg_same at_ (.bool _) q⟩
  | loc k =>
    simp only [isi, D.isTy] at e
    cases hk : S.get k with
    | none => rw [hk] at e; cases e
    | some o =>
      rw [hk] at e
      cases o with
      | lst xs =>
        cases e
        obtain ⟨p, vs, rfl, _, hH, _⟩ := hx.lstAt at_ hk
        exact isinst_ok I ru (.lst hH) (kit_ans1 _ .list t) fun tk => ⟨.bl _, H, I.tok _, rfl, kg_same at_ (.bool _) q⟩
      | ro xs =>
        cases e
        obtain ⟨p, vs, o, rfl, _, hH, _⟩ := hx.roAt at_ hk
        exact isinst_ok I ru (.frz hH) (kit_ans1 _ .list t) fun tk => ⟨.bl _, H, I.tok _, rfl, kg_same at_ (.bool _) q⟩
      | dct xs =>
        cases e
        obtain ⟨p, vs, rfl, _, hH, _⟩ := hx.dctAt at_ hk
        exact isinst_ok I ru (.dK hH) (kit_ans1 _ .dict t) fun tk => ⟨.bl _, H, I.tok _, rfl, kg_same at_ (.bool _) q⟩
      | tset ks => cases e
      | iset ks => cases e
  | fn k => cases e
  | clo _ _ _ => cases e
/-! ### sorted -/
theorem collect_tup {A : Around} {P : Program} {w : World} {E : Value → Shared → Prop} {s : Shared} {l : Addr} {vs : List Value} {Q : List Value → Shared → Prop} (hl : s.heap.IsTuple l vs.toArray)
    (h : Q vs { s with heap := (s.heap.push (seqObj "list" #[] 0)).update s.heap.objs.size (Obj.mapSeq (· ++ vs.toArray)) }) (hsz : vs.length ≤ sizeLine) :
    wpAny (model P w) A (collect (.ref l)) Q E s := by
  obtain ⟨o, ho, hc, n, hd⟩ := id hl
  unfold collect
  refine wpAny_bind (wpAny_runValue (codeAny_builtin entry_proto_collect' ?_))
  show wpAny _ _ (do again (.builtin "list.__iadd__" ⟨[← newList [], .ref l], []⟩)) _ _ s
  refine wpAny_bind (wpAny_newList (wpAny_pure ⟨Code.quiet_builtin _ (by decide +kernel), codeAny_builtin entry_list_iadd' ?_⟩))
  show wpAny _ _ (Builtin.List.listExtendWith (.ref s.heap.objs.size) (.ref l) (.ref s.heap.objs.size)) _ _ { s with heap := s.heap.push (seqObj "list" #[] 0) }
  unfold Builtin.List.listExtendWith
  have ho' : (s.heap.push (seqObj "list" #[] 0)).get? l = some o := Heap.get?_push_of_some _ ho
  refine wpAny_bind (wpAny_typeOf (T := "tuple") ⟨o, ho', hc⟩ ?_)
  have ht : (Value.type "tuple" == Value.type "tuple") = true := by rfl
  rw [if_pos (by rw [ht]; simp)]
  refine wpAny_bind (listItems_at ho' hd ?_)
  refine wpAny_bind (listItems_at (xs := #[]) (n := 0) (Heap.get?_push_size _ rfl) rfl ?_)
  rw [if_neg (by simp)]
  refine wpAny_bind (listUpdate_at (xs := #[]) (n := 0) (Heap.get?_push_size _ rfl) rfl ?_ (Nat.zero_le _) (by show (#[] ++ vs.toArray).size ≤ sizeLine + 1; simp only [Array.size_append, List.size_toArray, List.length_nil]; omega))
  refine wpAny_pure ?_
  show wpAny (model P w) A (do
      let o ← load s.heap.objs.size
      match o.data with
      | .seq xs _ => pure xs.toList
      | _ => unsupported "internal:collect") Q E { s with heap := (s.heap.push (seqObj "list" #[] 0)).update s.heap.objs.size (Obj.mapSeq (· ++ vs.toArray)) }
  refine wpAny_bind (wpAny_load (get?_update_seq (Heap.get?_push_size _ rfl) _) ?_)
  show wpAny _ _ (pure ((#[] : Array Value) ++ vs.toArray).toList) Q E _
  rw [show ((#[] : Array Value) ++ vs.toArray).toList = vs by simp]
  exact wpAny_pure h
/-- what is sorted: the data with what they read as, over the values -/
def Srt (G : Pg) (H : Hp) (β : List Addr) (v : Value) (p : D × PyData) : Prop := ∃ x, RelV x v ∧ RV G H β p.1 x
theorem srt_vals {G : Pg} {H : Hp} {β : List Addr} : ∀ {out : List Value} {ps : List (D × PyData)}, EachIs (Srt G H β) out ps → ∃ ys, Vals ys out ∧ RVs G H β (ps.map (·.1)) ys
  | _, _, .nil => ⟨[], .nil, .nil⟩
  | _, _, .cons ⟨x, h1, h2⟩ t => by
    obtain ⟨ys, h3, h4⟩ := srt_vals t
    exact ⟨x :: ys, .cons h1 h3, .cons h2 h4⟩
/-- the data read, one by one -/
theorem srt_each {H : Hp} {β : List Addr} {S : Sto} {pins : List (Addr × Obj)} {s : Shared} {σ : L2.St} (hK : X.K = L.G.K) (I : Inv X pins σ H s) (at_ : At L.G H β S) : ∀ {ds : List D} {vs : List V} {us : List Value} {ps : List (D × PyData)}, RVs L.G H β ds vs → Vals vs us →
    (ds.mapM fun d => (d.rd S).map fun p => (d, p)) = some ps → EachIs (Srt L.G H β) us ps ∧ EachIs (fun v b => ∃ as, Reads s.heap v b.2 as) us ps ∧ (∀ p ∈ ps, SeqAt.shaped p.2 = true) ∧ ps.length = ds.length
  | [], _, _, ps, .nil, .nil, e => by
    simp at e
    subst e
    exact ⟨.nil, .nil, by simp, rfl⟩
  | d :: ds, _, _, ps, .cons r t, .cons rv tv, e => by
    simp only [List.mapM_cons, bind, Option.bind_eq_some_iff, pure, Option.some.injEq, Option.map_eq_some_iff] at e
    obtain ⟨p, ⟨q, h1, rfl⟩, qs, h2, rfl⟩ := e
    obtain ⟨a1, a2, a3, a4⟩ := srt_each hK I at_ t tv h2
    obtain ⟨dp, sh⟩ := r.rd at_ h1
    obtain ⟨as, rd⟩ := Dp.reads I q _ _ (hK ▸ dp) rv
    refine ⟨.cons ⟨_, rv, r⟩ a1, .cons ⟨as, rd⟩ a2, fun p hp => ?_, by simp [a4]⟩
    rcases List.mem_cons.mp hp with rfl | hp
    · exact sh
    · exact a3 p hp
/-- sorted(v), v's items vs, told by collect -/
theorem sorted_core {pins : List (Addr × Obj)} {s : Shared} {σ : L2.St} {H : Hp} {β : List Addr} {S S' : Sto} {Q : VK} {v : Value} {ds zs : List D} {a : D} {vs : List V} (hK : X.K = L.G.K) (hu : X.A.units + 70 < cLine) (I : Inv X pins σ H s) (at_ : At L.G H β S)
    (r : RVs L.G H β ds vs) (hs : sortD ds S = some zs) (e : mkList zs S = .ok a S') (q : KG L.G (RV L.G) H β Q a S')
    (coll : ∀ (R : List Value → Shared → Prop) (E : Value → Shared → Prop), (∀ us h' tk, (∀ b o, s.heap.get? b = some o → h'.get? b = some o) → Vals vs us → R us { s with heap := h', toks := tk }) → wpAny (model X.prog X.w) X.A.in1 (collect v) R E s) :
    wpAny (model X.prog X.w) X.A (call (.builtin "sorted") [v]) (EP X pins σ Q) X.xe s := by
  unfold sortD at hs
  split at hs
  · rename_i ps hps
    split at hs
    · rename_i hc
      simp only [Bool.and_eq_true] at hc
      obtain ⟨⟨hal, hso⟩, hsz⟩ := hc
      cases hs
      have hlen : ps.length ≤ sizeLine := inLine_iff hsz
      refine Calls.call_function_entry PyProof.Rows.kind_sorted PyProof.Rows.plain_sorted PyProof.Rows.entry_sorted (PyProof.Rows.args_sorted1 _) ?_
      unfold Builtin.«sorted»
      refine wpAny_bind (m := checkCount "sorted" 1 1 _) (wpAny_pure ?_)
      refine wpAny_bind (coll _ _ fun us h' tk hk rv => ?_)
      obtain ⟨e1, e2, e3, e4⟩ := srt_each hK I at_ r rv hps
      have hul : us.length = ps.length := by rw [← rv.length, ← r.length, e4]
      have I1 : Inv X pins σ H { s with heap := h', toks := tk } := I.kept hk
      refine wpAny_bind (wpAny_newList ?_ (by omega))
      have hoL : (h'.push (seqObj "list" us.toArray 0)).get? h'.objs.size = some (seqObj "list" us.toArray 0) := Heap.get?_push_size _ rfl
      show wpAny _ _ _ _ _ { s with heap := h'.push (seqObj "list" us.toArray 0), toks := tk }
      have kp : ∀ b o, s.heap.get? b = some o → (sortingHeap (h'.push (seqObj "list" us.toArray 0)) h'.objs.size us).get? b = some o := fun b o eb => sortingHeap_old (Nat.ne_of_lt (Heap.lt_size (hk b o eb))) (Heap.get?_push_of_some _ (hk b o eb))
      have er' : EachIs (fun v (b : D × PyData) => ∃ as, Reads (sortingHeap (h'.push (seqObj "list" us.toArray 0)) h'.objs.size us) v b.2 as) us ps := e2.mono fun _ _ ⟨as, r⟩ => ⟨as, PyProof.Rows.Reads.keeps kp r⟩
      have hAA : AllAlike (ps.map fun p => p.2) := fun d hd d' hd' => by
        obtain ⟨p, hp, rfl⟩ := List.mem_map.mp hd
        obtain ⟨p', hp', rfl⟩ := List.mem_map.mp hd'
        exact List.all_eq_true.mp (List.all_eq_true.mp hal p hp) p' hp'
      have hSo : Sortable (ps.map fun p => p.2) := by
        rcases (Bool.or_eq_true _ _).mp hso with z | z
        · refine .inl fun d hd => ?_
          obtain ⟨p, hp, rfl⟩ := List.mem_map.mp hd
          have := List.all_eq_true.mp z p hp
          split at this
          · rename_i x r hx
            exact ⟨x, r, hx⟩
          · cases this
        · refine .inr fun d hd => ?_
          obtain ⟨p, hp, rfl⟩ := List.mem_map.mp hd
          have := List.all_eq_true.mp z p hp
          split at this
          · rename_i x hx; rw [hx]; exact ⟨(fun z => nomatch z), (fun _ z => nomatch z)⟩
          · rename_i x hx; rw [hx]; exact ⟨(fun z => nomatch z), (fun _ z => nomatch z)⟩
          · cases this
      refine wpAny_bind (wpAny_holding (wpAny_call_entry PyProof.Rows.slot_list_sort ⟨_, hoL, rfl⟩ PyProof.Rows.entry_list_sort
        (list_sort_vals (s := { s with heap := h'.push (seqObj "list" us.toArray 0), toks := tk }) (κ := dataKind (sortingHeap (h'.push (seqObj "list" us.toArray 0)) h'.objs.size us) (ps.map fun p => p.2)) hoL
          (SortsAt.data (s := { s with heap := sortingHeap (h'.push (seqObj "list" us.toArray 0)) h'.objs.size us, toks := tk }) (each_map (R := fun v d => ∃ as, Reads (sortingHeap (h'.push (seqObj "list" us.toArray 0)) h'.objs.size us) v d as) (fun p : D × PyData => p.2) er') hAA hSo ?_) (by omega) ⟨_, rfl, ?_⟩) (PyProof.Rows.args_list_sort _)))
      · intro d hd
        obtain ⟨p, hp, rfl⟩ := List.mem_map.mp hd
        have h64 : p.2.depth ≤ 64 := by
          have z := e3 p hp
          unfold SeqAt.shaped at z
          simp only [Bool.and_eq_true, decide_eq_true_eq] at z
          exact z.2
        show X.A.units + 1 + 1 + p.2.depth < cLine
        omega
      · obtain ⟨e', he'⟩ := PyProof.Rows.sortedHeap_at (vs := us) (out := (sortVals (dataKind (sortingHeap (h'.push (seqObj "list" us.toArray 0)) h'.objs.size us) (ps.map fun p => p.2)) false us us).toArray) hoL
        have out := sortVals_data (enc := fun p : D × PyData => p.2) false e1 er' hAA
        obtain ⟨ys, hv, hr⟩ := srt_vals out
        obtain ⟨hz, rfl, rfl⟩ := mkList_ok e
        have ezs : (ps.mergeSort (dataLe false fun p : D × PyData => p.2)).map (·.1) = (ps.mergeSort fun a b => !PySem.W.dataLt b.2 a.2).map (·.1) := rfl
        rw [ezs] at hr
        have hyl : ys.length ≤ sizeLine := by rw [← hr.length]; exact hz
        refine wpAny_pure ⟨_, rfl, .ref h'.objs.size, upd H h'.objs.size (.lst ys), I1.laid (t' := tk) (fun b u eb => ?_) (Nat.le_refl _) (show ObjOk X.prog X.w _ _ _ (.lst ys) from ⟨hyl, _, e', hv, he'⟩), rfl, kg_lst at_ hr q _ (I1.hok.fresh (Nat.le_refl _))⟩
        have eb' := Heap.get?_push_of_some (h := h') (seqObj "list" us.toArray 0) eb
        exact (PyProof.Rows.sortedHeap_old (Nat.ne_of_lt (Heap.lt_size eb)) (Heap.lt_size eb')).trans eb'
    · cases hs
  · cases hs
/-- sorted(x), x a list, a tuple, a dict -/
theorem keys_reads {G : Pg} {H : Hp} {β : List Addr} : ∀ {kvs : List (D × D)} {q : List (Key × V)}, RKs G H β kvs q → RVs G H β (kvs.map (·.1)) (q.map fun kv => kV kv.1)
  | _, _, .nil => .nil
  | _, _, .cons (k := k) _ rs => .cons (by cases k; exact .int _; exact .str _) (keys_reads rs)
theorem sorted_ok (hK : X.K = L.G.K) (hu : X.A.units + 70 < cLine) (hc : X.calm = true) : CallR X (.builtin "sorted") (rFs L (bf .sorted)) := by
  intro pins s σ H xs us Q I r ⟨dsx, S, β, a, S', hx, at_, e, q⟩
  cases hx with
  | nil => cases e
  | @cons dx x dr xr hx hr =>
    cases hr with
    | cons _ _ => cases dx <;> cases e
    | nil =>
      obtain ⟨u, rfl, ru⟩ := r.one
      cases dx with
      | tup ds =>
        simp only [bf] at e
        split at e
        · rename_i zs hs
          cases hx with
          | @tup p vs _ h1 r1 =>
            cases ru
            obtain ⟨its, rv, pl, hz⟩ := I.tuple (hK ▸ h1)
            refine sorted_core hK hu I at_ r1 hs e q fun R E hR => collect_tup pl ?_ (by rw [← rv.length]; exact hz)
            have hk : ∀ b o, s.heap.get? b = some o → ((s.heap.push (seqObj "list" #[] 0)).update s.heap.objs.size (Obj.mapSeq (· ++ its.toArray))).get? b = some o := fun b o eb =>
              (Heap.get?_update_other _ _ (Nat.ne_of_gt (Heap.lt_size eb))).trans (Heap.get?_push_of_some _ eb)
            exact hR _ _ s.toks hk rv
        · cases e
      | loc k =>
        simp only [bf] at e
        split at e
        · rename_i ys hk
          split at e
          · rename_i zs hs
            obtain ⟨p, vs, rfl, h1, r1⟩ := hx.seqAt at_ (.inl hk)
            cases ru
            obtain ⟨its, rv, pl, hz⟩ := I.list (hK ▸ h1)
            refine sorted_core hK hu I at_ r1 hs e q fun R E hR => collect_list pl.isList ?_ (by rw [← rv.length]; exact hz)
            have hk : ∀ b o, s.heap.get? b = some o → ((s.heap.push (seqObj "list" #[] 0)).update s.heap.objs.size (Obj.mapSeq (· ++ its.toArray))).get? b = some o := fun b o eb =>
              (Heap.get?_update_other _ _ (Nat.ne_of_gt (Heap.lt_size eb))).trans (Heap.get?_push_of_some _ eb)
            exact hR _ _ s.toks hk rv
          · cases e
        · rename_i kvs hk
          split at e
          · rename_i zs hs
            obtain ⟨p, kq, rfl, _, hH, rk⟩ := hx.dctAt at_ hk
            cases ru
            obtain ⟨z, lo, vs, rel, dd⟩ := dk_rd I.hok (.inl hH)
            obtain ⟨ep, hat⟩ := dd.dictAt
            have ek : (kq.map fun kv => kV kv.1) = vs.map fun p => kV p.1 := by
              have e := congrArg (List.map kV) rel.keys
              rw [List.map_map, List.map_map] at e
              exact e
            have gen : ∀ (R : List Value → Shared → Prop) (E : Value → Shared → Prop), (∀ us h' tk, (∀ b o, s.heap.get? b = some o → h'.get? b = some o) → Vals (vs.map fun p => kV p.1) us → R us { s with heap := h', toks := tk }) → wpAny (model X.prog X.w) X.A.in1 (collect (.ref p)) R E s := fun R E hR =>
              PySem.W.kdu_collect (A := X.A.in1) (PySem.W.kdl_dict (knd := mixKind X.prog X.w) (kvs := vs) (ep := ep) lo) (I.ok.hd hc) hat (by rw [← rel.length]; exact z) fun h' tk acc hk hacc =>
                hR acc.toList h' tk hk (keys_at (by rw [Array.length_toList]; exact hacc.1) fun j v e => hacc.2 j v (by rw [← Array.getElem?_toList]; exact e))
            exact sorted_core hK hu I at_ (keys_reads rk) hs e q (by rw [ek]; exact gen)
          · cases e
        · cases e
      | _ => cases e
end
end EV
/-! EvV: further built-in functions and methods (own work). -/
namespace EV
open PySem PySem.Spec PyProof.Rows L2

theorem best_in (p : Int → Int → Bool) : ∀ (r : List Int) (x : Int), r.foldl (fun a y => if p y a then y else a) x = x ∨ r.foldl (fun a y => if p y a then y else a) x ∈ r
  | [], x => .inl rfl
  | y :: r, x => by
    simp only [List.foldl_cons]
    rcases best_in p r (if p y x then y else x) with h | h
    · rw [h]
      split
      · exact .inr List.mem_cons_self
      · exact .inl rfl
    · exact .inr (List.mem_cons_of_mem _ h)
theorem best_max : ∀ (r : List Int) (x : Int), x ≤ r.foldl (fun a y => if decide (a < y) then y else a) x ∧ ∀ y ∈ r, y ≤ r.foldl (fun a y => if decide (a < y) then y else a) x
  | [], x => ⟨Int.le_refl _, by simp⟩
  | y :: r, x => by
    simp only [List.foldl_cons]
    obtain ⟨h1, h2⟩ := best_max r (if decide (x < y) then y else x)
    have h3 : x ≤ (if decide (x < y) then y else x) ∧ y ≤ (if decide (x < y) then y else x) := by
      by_cases h : x < y
      · rw [if_pos (by simpa using h)]; omega
      · rw [if_neg (by simpa using h)]; omega
    refine ⟨by omega, fun z hz => ?_⟩
    rcases List.mem_cons.mp hz with rfl | hz
    · omega
    · exact h2 z hz
theorem best_min : ∀ (r : List Int) (x : Int), r.foldl (fun a y => if decide (y < a) then y else a) x ≤ x ∧ ∀ y ∈ r, r.foldl (fun a y => if decide (y < a) then y else a) x ≤ y
  | [], x => ⟨Int.le_refl _, by simp⟩
  | y :: r, x => by
    simp only [List.foldl_cons]
    obtain ⟨h1, h2⟩ := best_min r (if decide (y < x) then y else x)
    have h3 : (if decide (y < x) then y else x) ≤ x ∧ (if decide (y < x) then y else x) ≤ y := by
      by_cases h : y < x
      · rw [if_pos (by simpa using h)]; omega
      · rw [if_neg (by simpa using h)]; omega
    refine ⟨by omega, fun z hz => ?_⟩
    rcases List.mem_cons.mp hz with rfl | hz
    · omega
    · exact h2 z hz
section
variable {L : Lw} {X : Cx}
theorem RVs.two {G : Pg} {H : Hp} {β : List Addr} {d e : D} {xs : List V} (h : RVs G H β [d, e] xs) : ∃ x y, xs = [x, y] ∧ RV G H β d x ∧ RV G H β e y := by
  cases h with
  | cons h t =>
    cases t with
    | cons h2 t2 =>
      cases t2
      exact ⟨_, _, rfl, h, h2⟩
theorem RVs.one {G : Pg} {H : Hp} {β : List Addr} {d : D} {xs : List V} (h : RVs G H β [d] xs) : ∃ x, xs = [x] ∧ RV G H β d x := by
  cases h with
  | cons r t => cases t; exact ⟨_, rfl, r⟩
theorem len_ok (hK : X.K = L.G.K) : CallR X (.builtin "len") (rFs L (bf .len)) := by
  intro pins s σ H xs us Q I r ⟨ds, S, β, a, S', hx, at_, e, q⟩
  match ds, e, hx with
  | [.str z], e, hh =>
    obtain ⟨x, rfl, hd⟩ := hh.one
    cases hd
    obtain ⟨hz, rfl, rfl⟩ := if_ok e
    exact call_len_str pins s σ H _ us Q I r ⟨z, rfl, inLine_iff hz, kg_same at_ (.int _) q⟩
  | [.tup ds], e, hh =>
    obtain ⟨x, rfl, hd⟩ := hh.one
    cases hd with
    | @tup p vs _ h1 r1 =>
      cases e
      exact call_len_seq pins s σ H _ us Q I r ⟨p, vs, rfl, .inr (hK ▸ h1), by rw [← r1.length]; exact kg_same at_ (.int _) q⟩
  | [.loc k], e, hh =>
    obtain ⟨x, rfl, hd⟩ := hh.one
    simp only [bf] at e
    split at e
    · rename_i ys hk
      cases e
      obtain ⟨p, vs, rfl, h1, r1⟩ := hd.seqAt at_ (.inl hk)
      exact call_len_seq pins s σ H _ us Q I r ⟨p, vs, rfl, .inl (hK ▸ h1), by rw [← r1.length]; exact kg_same at_ (.int _) q⟩
    · rename_i ys hk
      cases e
      obtain ⟨p, vs, rfl, h1, r1⟩ := hd.seqAt at_ (.inr hk)
      exact call_len_seq pins s σ H _ us Q I r ⟨p, vs, rfl, .inl (hK ▸ h1), by rw [← r1.length]; exact kg_same at_ (.int _) q⟩
    · cases e
/-- the items of a list or a tuple -/
theorem items_ok {S : Sto} {H : Hp} {β : List Addr} (at_ : At L.G H β S) {d : D} {v : V} {ys : List D} (r : RV L.G H β d v) (e : d.items S = some ys) :
    ∃ p vs, v = .ref p ∧ RVs L.G H β ys vs ∧ (SqL L.G.K H p vs ∨ (SqT L.G.K H p vs ∧ d = .tup ys)) := by
  cases d with
  | tup ds =>
    cases e
    cases r with
    | @tup p vs _ h1 r1 => exact ⟨p, vs, rfl, r1, .inr ⟨h1, rfl⟩⟩
  | loc k =>
    simp only [D.items] at e
    split at e
    · rename_i xs hk
      cases e
      obtain ⟨p, vs, rfl, h1, r1⟩ := r.seqAt at_ (.inl hk)
      exact ⟨p, vs, rfl, r1, .inl h1⟩
    · rename_i xs hk
      cases e
      obtain ⟨p, vs, rfl, h1, r1⟩ := r.seqAt at_ (.inr hk)
      exact ⟨p, vs, rfl, r1, .inl h1⟩
    · cases e
  | _ => cases e
theorem tuple_ok (hK : X.K = L.G.K) : CallR X (.type "tuple") (rFs L (bf .tuple)) := by
  intro pins s σ H xs us Q I r ⟨ds, S, β, a, S', hx, at_, e, q⟩
  match ds, e, hx with
  | [d], e, hh =>
    obtain ⟨x, rfl, hd⟩ := hh.one
    simp only [bf] at e
    split at e
    · rename_i ys hi
      cases e
      obtain ⟨p, vs, rfl, r1, h⟩ := items_ok at_ hd hi
      rcases h with h | ⟨h, rfl⟩
      · exact call_tuple_of pins s σ H _ us Q I r ⟨p, vs, rfl, .inl ⟨hK ▸ h, kg_tup at_ r1 q⟩⟩
      · exact call_tuple_of pins s σ H _ us Q I r ⟨p, vs, rfl, .inr ⟨hK ▸ h, kg_same at_ hd q⟩⟩
    · cases e
theorem list_ok (hK : X.K = L.G.K) : CallR X (.type "list") (rFs L (bf .list)) := by
  intro pins s σ H xs us Q I r ⟨ds, S, β, a, S', hx, at_, e, q⟩
  match ds, e, hx with
  | [d], e, hh =>
    obtain ⟨x, rfl, hd⟩ := hh.one
    simp only [bf] at e
    split at e
    · rename_i ys hi
      obtain ⟨_, rfl, rfl⟩ := mkList_ok e
      obtain ⟨p, vs, rfl, r1, h⟩ := items_ok at_ hd hi
      exact call_list_of pins s σ H _ us Q I r ⟨p, vs, rfl, hK ▸ h.imp id (·.1), kg_lst at_ r1 q⟩
    · cases e
theorem int_ok : CallR X (.type "int") (rFs L (bf .int)) := by
  intro pins s σ H xs us Q I r ⟨ds, S, β, a, S', hx, at_, e, q⟩
  match ds, e, hx with
  | [.int i], e, hh =>
    obtain ⟨x, rfl, hd⟩ := hh.one
    cases hd; cases e
    exact call_int1 pins s σ H _ us Q I r (.inl ⟨i, rfl, kg_same at_ (.int _) q⟩)
theorem best_at {S : Sto} {H : Hp} {β : List Addr} (at_ : At L.G H β S) {k : Nat} {v : V} {p : Int → Int → Bool} {a : D} {S' : Sto} (r : RV L.G H β (.loc k) v)
    (e : (match S.get k with | some (.lst ys) => R.ofO ((D.ints ys).bind fun ns => (best p ns).map .int) S | _ => .bad) = R.ok a S') : ∃ b ns x rr, v = .ref b ∧ SqL L.G.K H b (ns.map V.int) ∧ ns = x :: rr ∧ a = .int (rr.foldl (fun a y => if p y a then y else a) x) ∧ S' = S := by
  split at e
  · rename_i ys hk
    obtain ⟨b, vs, rfl, h1, r1⟩ := r.seqAt at_ (.inl hk)
    obtain ⟨e1, rfl⟩ := ofO_ok e
    simp only [Option.bind_eq_some_iff, Option.map_eq_some_iff] at e1
    obtain ⟨ns, h2, m, h3, rfl⟩ := e1
    cases ns with
    | nil => cases h3
    | cons x rr =>
      cases h3
      have := r1.ints h2
      subst this
      exact ⟨b, x :: rr, x, rr, rfl, h1, rfl, rfl, rfl⟩
  · cases e
theorem max_ok (hK : X.K = L.G.K) (hc : X.calm = true) : CallR X (.builtin "max") (rFs L (bf .max)) := by
  intro pins s σ H xs us Q I r ⟨ds, S, β, a, S', hx, at_, e, q⟩
  match ds, e, hx with
  | [.int i, .int j], e, hh =>
    cases e
    obtain ⟨x, y, rfl, hd1, hd2⟩ := hh.two
    cases hd1
    cases hd2
    exact call_max2 hc pins s σ H _ us Q I r ⟨i, j, rfl, kg_same at_ (.int _) q⟩
  | [.loc k], e, hh =>
    obtain ⟨x, rfl, hd⟩ := hh.one
    obtain ⟨b, ns, y, rr, rfl, h1, rfl, rfl, rfl⟩ := best_at at_ hd e
    refine cr_max hc pins s σ H _ us Q I r ⟨b, y :: rr, rfl, hK ▸ h1, by simp, fun m hm hy => ?_⟩
    have hb := best_max rr y
    have hi := best_in (fun a b => decide (b < a)) rr y
    have : m = rr.foldl (fun a y => if decide (a < y) then y else a) y := by
      have h1 : m ≤ rr.foldl (fun a y => if decide (a < y) then y else a) y := by
        rcases List.mem_cons.mp hm with rfl | hm
        · exact hb.1
        · exact hb.2 m hm
      have h2 := hy (rr.foldl (fun a y => if decide (a < y) then y else a) y) (by
        rcases hi with h | h
        · rw [h]; exact List.mem_cons_self
        · exact List.mem_cons_of_mem _ h)
      omega
    rw [this]
    exact kg_same at_ (.int _) q
theorem min_ok (hK : X.K = L.G.K) (hc : X.calm = true) : CallR X (.builtin "min") (rFs L (bf .min)) := by
  intro pins s σ H xs us Q I r ⟨ds, S, β, a, S', hx, at_, e, q⟩
  match ds, e, hx with
  | [.int i, .int j], e, hh =>
    cases e
    obtain ⟨x, y, rfl, hd1, hd2⟩ := hh.two
    cases hd1
    cases hd2
    exact call_min2 hc pins s σ H _ us Q I r ⟨i, j, rfl, kg_same at_ (.int _) q⟩
  | [.loc k], e, hh =>
    obtain ⟨x, rfl, hd⟩ := hh.one
    obtain ⟨b, ns, y, rr, rfl, h1, rfl, rfl, rfl⟩ := best_at at_ hd e
    refine cr_min hc pins s σ H _ us Q I r ⟨b, y :: rr, rfl, hK ▸ h1, by simp, fun m hm hy => ?_⟩
    have hb := best_min rr y
    have hi := best_in (fun a b => decide (a < b)) rr y
    have : m = rr.foldl (fun a y => if decide (y < a) then y else a) y := by
      have h1 : rr.foldl (fun a y => if decide (y < a) then y else a) y ≤ m := by
        rcases List.mem_cons.mp hm with rfl | hm
        · exact hb.1
        · exact hb.2 m hm
      have h2 := hy (rr.foldl (fun a y => if decide (y < a) then y else a) y) (by
        rcases hi with h | h
        · rw [h]; exact List.mem_cons_self
        · exact List.mem_cons_of_mem _ h)
      omega
    rw [this]
    exact kg_same at_ (.int _) q
/-! ### methods of lists -/
def mtId : Mt → String
  | .append => "list.append"
  | .remove => "list.remove"
  | .pop => "list.pop"
  | .extend => "list.extend"
/-- a list's method by the evaluator's -/
def rFm (L : Lw) (m : Mt) : V → List V → Hp → VK → Prop := fun x xs H Q => ∃ dx ds S β a S', RV L.G H β dx x ∧ RVs L.G H β ds xs ∧ At L.G H β S ∧ mt m dx ds S = .ok a S' ∧ KG L.G (RV L.G) H β Q a S'
theorem erase_at : ∀ (ns : List Int) (i : Int), i ∈ ns → ∃ j : Nat, ns[j]? = some i ∧ (∀ m : Nat, m < j → ns[m]? ≠ some i) ∧ ns.erase i = ns.eraseIdx j
  | [], i, h => by cases h
  | n :: ns, i, h => by
    by_cases e : n = i
    · subst e
      exact ⟨0, rfl, fun m hm => absurd hm (Nat.not_lt_zero _), by simp⟩
    · obtain ⟨j, h1, h2, h3⟩ := erase_at ns i ((List.mem_cons.mp h).resolve_left (fun z => e z.symm))
      refine ⟨j + 1, by simpa using h1, fun m hm => ?_, ?_⟩
      · cases m with
        | zero => simpa using e
        | succ m => simpa using h2 m (by omega)
      · rw [List.erase_cons_tail (by simpa using e), h3]
        rfl
theorem RVs.snoc {G : Pg} {H : Hp} {β : List Addr} {ds : List D} {vs : List V} {d : D} {v : V} (r : RVs G H β ds vs) (h : RV G H β d v) : RVs G H β (ds ++ [d]) (vs ++ [v]) := r.append (.cons h .nil)
theorem mt_ok (m : Mt) : MtM X (mtId m) (rFm L m) := by
  intro pins s σ H x xs v us Q I rx rxs ⟨dx, ds, S, β, a, S', hx, hd, at_, e, q⟩
  cases dx with
  | loc k =>
    simp only [mt] at e
    split at e
    · rename_i ys hk
      obtain ⟨p, vs, rfl, hb, hH, r1⟩ := hx.lstAt at_ hk
      split at e
      · rename_i d
        obtain ⟨y, rfl, hy⟩ := hd.one
        by_cases hz : ys.length < sizeLine
        · rw [if_pos hz] at e
          cases e
          have g : Grow H (upd H p (.lst (vs ++ [y]))) β β := Grow.wr hH trivial
          exact mt_append pins s σ H _ _ v us Q I rx rxs ⟨p, vs, y, rfl, rfl, hH, by rw [← r1.length]; exact hz, q _ _ β g (at_.put hb hH trivial ⟨_, upd_same, (r1.snoc hy).grow g⟩ (fun ps z => by cases z)) .none⟩
        · rw [if_neg hz] at e
          cases e
      · cases hd
        split at e
        · rename_i d hd
          cases e
          obtain ⟨w, h2, r2⟩ := r1.get hd
          have g : Grow H (upd H p (.lst vs.dropLast)) β β := Grow.wr hH trivial
          exact mt_pop pins s σ H _ _ v us Q I rx rxs ⟨p, vs, w, rfl, rfl, hH, by rw [← r1.length]; exact h2, q _ _ β g (at_.put hb hH trivial ⟨_, upd_same, r1.dropLast.grow g⟩ (fun ps z => by cases z)) (r2.grow g)⟩
        · cases e
      · rename_i l
        obtain ⟨y, rfl, hy⟩ := hd.one
        split at e
        · rename_i zs hz
          split at e
          · rename_i hc
            cases e
            obtain ⟨p2, ws, rfl, hb2, hH2, r2⟩ := hy.lstAt at_ hz
            have g : Grow H (upd H p (.lst (vs ++ ws))) β β := Grow.wr hH trivial
            exact L2.mt_extend pins s σ H _ _ v us Q I rx rxs ⟨p, p2, vs, ws, rfl, rfl, hH, hH2, by rw [← r1.length, ← r2.length]; exact hc.2, q _ _ β g (at_.put hb hH trivial ⟨_, upd_same, (r1.append r2).grow g⟩ (fun ps z => by cases z)) .none⟩
          · cases e
        · cases e
      · rename_i i
        obtain ⟨y, rfl, hy⟩ := hd.one
        cases hy
        split at e
        · rename_i ns hn
          split at e
          · rename_i hi
            cases e
            have := r1.ints hn
            subst this
            obtain ⟨j, h1, h2, h3⟩ := erase_at ns i hi
            have g : Grow H (upd H p (.lst ((ns.eraseIdx j).map V.int))) β β := Grow.wr hH trivial
            refine L2.mt_remove pins s σ H _ _ v us Q I rx rxs ⟨p, ns, i, j, rfl, rfl, hH, h1, h2, q _ _ β g (at_.put hb hH trivial ⟨_, upd_same, ?_⟩ (fun ps z => by cases z)) .none⟩
            rw [h3]
            exact RVs.ofInts _
          · cases e
        · cases e
      · cases e
    · cases e
  | _ => cases e
end
end EV
/-! EvE: the arms of the evaluator's expressions (own work). -/
namespace EV
open PySem PySem.Spec PyProof.Rows L2

/-- built-in names -/
def btNames : List Str := ["len", "tuple", "list", "sorted", "int", "max", "min", "sum", "repr", "abs", "str", "all", "any", "isinstance", "range", "enumerate", "zip", "bool", "dict", "set"]
/-- what holds of a context -/
structure Fa (L : Lw) (X : Cx) : Prop where
  K : X.K = L.G.K
  nd : X.N.Nodup
  calm : X.calm = true
  hu : X.A.units + 100 < cLine
  gu : X.A.guards = some []
  own : ∀ (i : Nat) (f : Str), L.fnN[i]? = some f → X.mg f = some (.ref (L.G.fad i)) ∧ PySem.W.keepIn X.K (.ref (L.G.fad i)) = true
  kp : ∀ k : Nat, PySem.W.keepIn X.K (.ref (L.G.fad k)) = true
  con : ∀ (i : Nat) (x : Str), L.conN[i]? = some x → ∃ d u v, L.G.con[i]? = some d ∧ X.mg x = some u ∧ RelV v u ∧ d.isClo = false ∧ ∀ H β, RV L.G H β d v
  bt : ∀ x ∈ btNames, X.mg x = none
  bm : ∃ P0, X.base.BuiltinsAt X.mg P0
  pg : X.prog = L.G.prog
  wd : X.w = L.G.w
section
variable {L : Lw} {X : Cx} {W : WX} {cf : Cf} {sc : Scope}
theorem vis_of {x : Str} (h : visB sc x = true) : Vis sc x := by
  unfold visB at h
  split at h
  · exact .inl (by assumption)
  · exact .inr (.inl (by assumption))
  · exact .inr (.inr (by assumption))
  · cases h
theorem loc_of {x : Str} (h : locB sc x = true) : Loc sc x := by
  unfold locB at h
  split at h
  · exact .inl (by assumption)
  · exact .inr (by assumption)
  · cases h
theorem glo_of {x : Str} (hs : X.env.scope = sc) (h : gloB sc x = true) : Gl X x := by
  unfold gloB at h
  split at h
  · show X.env.scope.names.lookup x = _
    rw [hs]
    assumption
  · cases h
theorem slot_of {N : List Str} {x : Str} {i : Nat} (h : slot N x = some i) : N[i]? = some x := by
  unfold slot at h
  simp only at h
  split at h
  · rename_i hl
    cases h
    rw [List.getElem?_eq_getElem hl]
    simp
  · cases h
theorem okName_of {x : Str} (h : okName x = true) : (x == ("__debug__" : Str)) = false ∧ (x == ("__classdict__" : Str)) = false ∧ x ≠ ("__name__" : Str) := by
  unfold okName at h
  simp only [Bool.and_eq_true, bne_iff_ne, ne_eq] at h
  exact ⟨beq_eq_false_iff_ne.mpr h.1.1, beq_eq_false_iff_ne.mpr h.1.2, h.2⟩
/-! ### leaves -/
theorem of_pure {ev : Env → Sto → M D} {d : D} {v : V} (hv : ∀ ρ s, ev ρ s = .ok d s) (r : ∀ H β, RV L.G H β d v) {σ : L2.St} {H : Hp} {Q : VK} (h : OfE L X W ev σ H Q) : Q v H := by
  obtain ⟨ρ, S, β, er, at_, h⟩ := h
  rw [hv] at h
  exact kg_same at_ (r H β) h
theorem arm_int {i : Int} {j pos} : PE X (.Constant (.int i) j pos) (OfE L X W (evE L.G.con cf (.int i))) := pe_int.imp fun _ _ _ h => of_pure (d := .int i) (fun _ _ => rfl) (fun _ _ => .int i) h
theorem arm_bool {i : Bool} {j pos} : PE X (.Constant (.bool i) j pos) (OfE L X W (evE L.G.con cf (.bool i))) := pe_bl.imp fun _ _ _ h => of_pure (d := .bool i) (fun _ _ => rfl) (fun _ _ => .bool i) h
theorem arm_str {i : Str} {j pos} : PE X (.Constant (.str i) j pos) (OfE L X W (evE L.G.con cf (.str i))) := pe_str.imp fun _ _ _ h => of_pure (d := .str i) (fun _ _ => rfl) (fun _ _ => .str i) h
theorem arm_none {j pos} : PE X (.Constant .none j pos) (OfE L X W (evE L.G.con cf .none)) := pe_non.imp fun _ _ _ h => of_pure (d := .none) (fun _ _ => rfl) (fun _ _ => .none) h
theorem arm_var {x : Str} {i : Nat} {pos : Pos} (hs : X.env.scope = sc) (ho : okName x = true) (hv : visB sc x = true) (hi : X.N[i]? = some x) : PE X (.Name x pos) (OfE L X W (evE L.G.con cf (.var i))) := by
  obtain ⟨h1, h2, _⟩ := okName_of ho
  refine (pe_var hi (by rw [hs]; exact vis_of hv) h1 h2).imp fun σ H Q h => ?_
  obtain ⟨ρ, S, β, er, at_, h⟩ := h
  unfold evE getV at h
  cases e : (ρ[i]?).join with
  | none => rw [e] at h; exact h.elim
  | some d =>
    rw [e] at h
    cases hc : d.isClo with
    | true => simp only [hc] at h; exact h.elim
    | false =>
      simp only [hc] at h
      have e' : ρ[i]? = some (some d) := by
        cases q : ρ[i]? with
        | none => rw [q] at e; cases e
        | some o => rw [q] at e; cases o with
          | none => cases e
          | some d' => cases e; rfl
      obtain ⟨v, e1, r⟩ := er.at_ i d e'
      rcases r with r | r
      · exact ⟨v, e1, kg_same at_ r h⟩
      · cases d with
        | clo _ _ _ => cases hc
        | _ => exact r.2.elim
theorem arm_con {x : Str} {i : Nat} {pos : Pos} (fa : Fa L X) (hs : X.env.scope = sc) (ho : okName x = true) (hg : gloB sc x = true) (hi : L.conN[i]? = some x) : PE X (.Name x pos) (OfE L X W (evE L.G.con cf (.con i))) := by
  obtain ⟨h1, h2, _⟩ := okName_of ho
  obtain ⟨d, u, v, e1, e2, r, _, rv⟩ := fa.con i x hi
  refine (pe_glob (glo_of hs hg) e2 r h1).imp fun σ H Q h => ?_
  exact of_pure (d := d) (fun ρ s => by unfold evE; rw [e1]; rfl) rv h

/-! ### compounds -/
variable {a b c : Expr} {A B C : E} {pos : Pos}
theorem arm_bin (fa : Fa L X) {o : O2} (ha : PE X a (OfE L X W (evE L.G.con cf A))) (hb : PE X b (OfE L X W (evE L.G.con cf B))) : PE X (.BinOp a (opOf o) b pos) (OfE L X W (evE L.G.con cf (.bin o A B))) :=
  (pe_op (op_o2 fa.K o) ha hb).imp fun _ _ _ h => of_op (f := o2 o) (by simpa only [evE] using h)
theorem arm_cmp (fa : Fa L X) {o : Cp} (ha : PE X a (OfE L X W (evE L.G.con cf A))) (hb : PE X b (OfE L X W (evE L.G.con cf B))) (hm : behindInMarks (cmpOf o) b = false) : PE X (.Compare a [cmpOf o] [b] pos) (OfE L X W (evE L.G.con cf (.cmp o A B))) :=
  (pe_cmpR (op_cp fa.K fa.pg fa.wd (by have := fa.hu; omega) o) ha hb hm).imp fun _ _ _ h => of_op (f := cp o) (by simpa only [evE] using h)
theorem M.assoc {α β γ : Type} (m : M α) (f : α → Sto → M β) (g : β → Sto → M γ) : (m.bind f).bind g = m.bind fun a s => (f a s).bind g := by cases m <;> rfl
theorem evT_eq (c : E) : evT L.G.con cf c = fun ρ s => (evE L.G.con cf c ρ s).bind fun d s1 => tru d s1 := rfl
theorem arm_cmpT (fa : Fa L X) {o : Cp} (ha : PE X a (OfE L X W (evE L.G.con cf A))) (hb : PE X b (OfE L X W (evE L.G.con cf B))) (hm : behindInMarks (cmpOf o) b = false) : PT X (.Compare a [cmpOf o] [b] pos) (OfT L X W (evT L.G.con cf (.cmp o A B))) := by
  refine (pt_cmpR (op_cp fa.K fa.pg fa.wd (by have := fa.hu; omega) o) ha hb hm).imp fun σ H Q h => ?_
  obtain ⟨ρ, S, β, er, at_, h⟩ := h
  simp only [evT, evE, M.assoc] at h
  refine ⟨ρ, S, β, er, at_, RW.step h fun x S1 h v H1 β1 g1 at1 rx => ?_⟩
  refine ⟨ρ, S1, β1, er.grow g1, at1, RW.step (RW.grow g1 h) fun y S2 h u H2 β2 g2 at2 ry => ?_⟩
  cases e : cp o x y S2 with
  | bad => rw [e] at h; exact h.elim
  | ok d S3 =>
    obtain ⟨b, _, rfl, rfl⟩ := cp_ok e
    rw [e] at h
    refine ⟨x, y, S3, β2, _, _, rx.grow g2, ry, at2, e, fun w H3 β3 g3 at3 r3 => ?_⟩
    cases r3
    exact ⟨b, rfl, RW.grow g2 h b H3 β3 g3 at3 rfl⟩
/-- a op b op' c -/
theorem of_chain (fa : Fa L X) {o p : Cp} {eva evb evc : Env → Sto → M D} {σ : L2.St} {H : Hp} {Q : VK}
    (h : OfE L X W (fun ρ s => (eva ρ s).bind fun x s1 => (evb ρ s1).bind fun y s2 => (cpB o x y s2).bind fun t s2 => if t then (evc ρ s2).bind fun z s3 => (cp p y z s3).up else .ok (.bool false) s2) σ H Q) :
    tChain (rF2 L (cp o)) (rF2 L (cp p)) (OfE L X W eva) (OfE L X W evb) (OfE L X W evc) σ H Q := by
  obtain ⟨ρ, S, β, er, at_, h⟩ := h
  refine ⟨ρ, S, β, er, at_, RW.step h fun x S1 h v H1 β1 g1 at1 rx => ?_⟩
  refine ⟨ρ, S1, β1, er.grow g1, at1, RW.step (RW.grow g1 h) fun y S2 h u H2 β2 g2 at2 ry => ?_⟩
  have h := RW.grow g2 h
  cases e : cpO o x y S2 with
  | none => unfold cpB at h; rw [e] at h; exact h.elim
  | some t =>
    unfold cpB at h
    rw [e] at h
    have h : RW (if t then (evc ρ S2).bind fun z s3 => (cp p y z s3).up else .ok (.bool false) S2) _ _ := h
    refine ⟨x, y, S2, β2, .bool t, S2, rx.grow g2, ry, at2, by unfold cp; rw [e], fun w H3 β3 g3 at3 r3 => ?_⟩
    cases r3
    refine ⟨t, rfl, ?_⟩
    cases t with
    | false =>
      simp only [Bool.false_eq_true, if_false] at h ⊢
      exact h (.bl false) H3 β3 g3 at3 (.bool false)
    | true =>
      simp only [if_true] at h ⊢
      have h := RW.grow g3 h
      refine ⟨ρ, S2, β3, (er.grow g1).grow (g2.trans g3), at3, RW.step h fun z S4 h u4 H4 β4 g4 at4 rz => ?_⟩
      obtain ⟨a, S', e', q⟩ := RW.up (RW.grow g4 h)
      exact ⟨y, z, S4, β4, a, S', (ry.grow g3).grow g4, rz, at4, e', q⟩
theorem arm_chain (fa : Fa L X) {o p : Cp} (ha : PE X a (OfE L X W (evE L.G.con cf A))) (hb : PE X b (OfE L X W (evE L.G.con cf B))) (hc : PE X c (OfE L X W (evE L.G.con cf C))) (hm : lastMarks [cmpOf o, cmpOf p] [b, c] = false) :
    PE X (.Compare a [cmpOf o, cmpOf p] [b, c] pos) (OfE L X W (evE L.G.con cf (.cmp2 o p A B C))) :=
  (pe_chain (op_cp fa.K fa.pg fa.wd (by have := fa.hu; omega) o) (op_cp fa.K fa.pg fa.wd (by have := fa.hu; omega) p) ha hb hc hm).imp fun _ _ _ h => of_chain fa (by simpa only [evE] using h)
theorem tChain_mono {r r' : R2} {ta tb tc : TE} : True := trivial
theorem arm_chainT (fa : Fa L X) {o p : Cp} (ha : PE X a (OfE L X W (evE L.G.con cf A))) (hb : PE X b (OfE L X W (evE L.G.con cf B))) (hc : PE X c (OfE L X W (evE L.G.con cf C))) (hm : lastMarks [cmpOf o, cmpOf p] [b, c] = false) :
    PT X (.Compare a [cmpOf o, cmpOf p] [b, c] pos) (OfT L X W (evT L.G.con cf (.cmp2 o p A B C))) := by
  refine (pt_chain (op_cp fa.K fa.pg fa.wd (by have := fa.hu; omega) o) (op_cp fa.K fa.pg fa.wd (by have := fa.hu; omega) p) ha hb hc hm).imp fun σ H Q h => ?_
  refine of_chain fa ?_
  obtain ⟨ρ, S, β, er, at_, h⟩ := h
  refine ⟨ρ, S, β, er, at_, ?_⟩
  -- the value is a bool
  unfold evT at h
  rw [show (fun ρ s => (evE L.G.con cf A ρ s).bind fun x s1 => (evE L.G.con cf B ρ s1).bind fun y s2 => (cpB o x y s2).bind fun t s2 => if t then (evE L.G.con cf C ρ s2).bind fun z s3 => (cp p y z s3).up else .ok (.bool false) s2) ρ S = evE L.G.con cf (.cmp2 o p A B C) ρ S by simp only [evE]]
  have hb : ∀ d s', evE L.G.con cf (.cmp2 o p A B C) ρ S = .ok d s' → ∃ t, d = .bool t := fun d s' e => by
    simp only [evE] at e
    cases e1 : evE L.G.con cf A ρ S <;> rw [e1] at e <;> try (cases e; done)
    simp only [M.bind] at e
    rename_i x s1
    cases e2 : evE L.G.con cf B ρ s1 <;> rw [e2] at e <;> try (cases e; done)
    simp only [M.bind] at e
    rename_i y s2
    cases e3 : cpO o x y s2 <;> (unfold cpB at e; rw [e3] at e) <;> try (cases e; done)
    rename_i t
    simp only [M.ofO, M.bind] at e
    cases t with
    | false => simp at e; exact ⟨false, e.1.symm⟩
    | true =>
      simp only [if_true] at e
      cases e4 : evE L.G.con cf C ρ s2 <;> rw [e4] at e <;> try (cases e; done)
      simp only [M.bind] at e
      rename_i z s3
      cases e5 : cp p y z s3 <;> rw [e5] at e <;> try (cases e; done)
      obtain ⟨b, _, rfl, rfl⟩ := cp_ok e5
      cases e
      exact ⟨b, rfl⟩
  cases e : evE L.G.con cf (.cmp2 o p A B C) ρ S with
  | bad => rw [e] at h; exact h.elim
  | exc x s => rw [e] at h; exact h
  | ok d s' =>
    obtain ⟨t, rfl⟩ := hb d s' e
    rw [e] at h
    have h : KG L.G _ H β Q t s' := h
    intro w H' β' g at' r
    cases r
    exact ⟨t, rfl, h t H' β' g at' rfl⟩
/-! truth -/
theorem tru_eq {d : D} {s : Sto} {b : Bool} (h : d.truth s = some b) : tru d s = .ok b s := by unfold tru; rw [h]; rfl
theorem of_truth (fa : Fa L X) {ev : Env → Sto → M D} {σ : L2.St} {H : Hp} {Q : Bool → Hp → Prop} (h : OfT L X W (fun ρ s => (ev ρ s).bind fun d s1 => tru d s1) σ H Q) : OfE L X W ev σ H fun x H' => ∃ k, TruV X.K x H' k ∧ Q k H' := by
  obtain ⟨ρ, S, β, er, at_, h⟩ := h
  refine ⟨ρ, S, β, er, at_, RW.step h fun x S1 h v H1 β1 g1 at1 rx => ?_⟩
  obtain ⟨k, e, q⟩ := RW.ofO (RW.grow g1 h)
  exact ⟨k, RV.tru fa.K at1 rx e, q k H1 β1 Grow.refl at1 rfl⟩
theorem arm_truth (fa : Fa L X) (ha : PE X a (OfE L X W (evE L.G.con cf A))) (he : ∀ whole, isTrue a X.env whole = (do let v ← whole; standAt a.pos; holding [v] (truthy v))) : PT X a (OfT L X W (evT L.G.con cf A)) :=
  (pt_truth ha he).imp fun _ _ _ h => of_truth fa h
theorem of_and (fa : Fa L X) {eva evb : Env → Sto → M D} {σ : L2.St} {H : Hp} {Q : VK} (h : OfE L X W (fun ρ s => (eva ρ s).bind fun x s1 => (tru x s1).bind fun t s1 => if t then evb ρ s1 else .ok x s1) σ H Q) : tAndT X.K (OfE L X W eva) (OfE L X W evb) σ H Q := by
  obtain ⟨ρ, S, β, er, at_, h⟩ := h
  refine ⟨ρ, S, β, er, at_, RW.step h fun x S1 h v H1 β1 g1 at1 rx => ?_⟩
  have h := RW.grow g1 h
  cases e : x.truth S1 with
  | none => unfold tru at h; rw [e] at h; exact h.elim
  | some k =>
    rw [tru_eq e] at h
    refine ⟨k, RV.tru fa.K at1 rx e, ?_⟩
    cases k with
    | true => exact ⟨ρ, S1, β1, er.grow g1, at1, h⟩
    | false => exact h v H1 β1 Grow.refl at1 rx
theorem of_or (fa : Fa L X) {eva evb : Env → Sto → M D} {σ : L2.St} {H : Hp} {Q : VK} (h : OfE L X W (fun ρ s => (eva ρ s).bind fun x s1 => (tru x s1).bind fun t s1 => if t then .ok x s1 else evb ρ s1) σ H Q) : tOrT X.K (OfE L X W eva) (OfE L X W evb) σ H Q := by
  obtain ⟨ρ, S, β, er, at_, h⟩ := h
  refine ⟨ρ, S, β, er, at_, RW.step h fun x S1 h v H1 β1 g1 at1 rx => ?_⟩
  have h := RW.grow g1 h
  cases e : x.truth S1 with
  | none => unfold tru at h; rw [e] at h; exact h.elim
  | some k =>
    rw [tru_eq e] at h
    refine ⟨k, RV.tru fa.K at1 rx e, ?_⟩
    cases k with
    | false => exact ⟨ρ, S1, β1, er.grow g1, at1, h⟩
    | true => exact h v H1 β1 Grow.refl at1 rx
theorem arm_not (fa : Fa L X) (ha : PE X a (OfE L X W (evE L.G.con cf A))) : PE X (.UnaryOp .Not a pos) (OfE L X W (evE L.G.con cf (.not A))) := by
  refine (pe_notT ha).imp fun σ H Q h => ?_
  obtain ⟨ρ, S, β, er, at_, h⟩ := h
  simp only [evE] at h
  refine ⟨ρ, S, β, er, at_, RW.step h fun x S1 h v H1 β1 g1 at1 rx => ?_⟩
  have h := RW.grow g1 h
  cases e : x.truth S1 with
  | none => unfold tru at h; rw [e] at h; exact h.elim
  | some k =>
    rw [tru_eq e] at h
    exact ⟨k, RV.tru fa.K at1 rx e, h (.bl (!k)) H1 β1 Grow.refl at1 (.bool _)⟩
theorem arm_neg (ha : PE X a (OfE L X W (evE L.G.con cf A))) : PE X (.UnaryOp .USub a pos) (OfE L X W (evE L.G.con cf (.neg A))) :=
  (pe_un un_neg1 ha).imp fun _ _ _ h => of_un (f := negM) (by simpa only [evE] using h)
/-! tests -/
theorem arm_notT (ha : PT X a (OfT L X W (evT L.G.con cf A))) : PT X (.UnaryOp .Not a pos) (OfT L X W (evT L.G.con cf (.not A))) := by
  refine (pt_not ha).imp fun σ H Q h => ?_
  obtain ⟨ρ, S, β, er, at_, h⟩ := h
  simp only [evT, evE, M.assoc] at h
  refine ⟨ρ, S, β, er, at_, ?_⟩
  unfold evT
  rw [← M.assoc] at h
  exact RW.step h fun k S1 h w H1 β1 g at1 e => by subst e; exact h (!k) H1 β1 g at1 rfl
/-- a test and what its value's truth is -/
theorem arm_ifE {ta tb : TE} (hc : PT X c (OfT L X W (evT L.G.con cf C))) (ha : PE X a (OfE L X W (evE L.G.con cf A))) (hb : PE X b (OfE L X W (evE L.G.con cf B))) : PE X (.IfExp c a b pos) (OfE L X W (evE L.G.con cf (.ite C A B))) := by
  refine (pe_ifExp hc ha hb).imp fun σ H Q h => ?_
  obtain ⟨ρ, S, β, er, at_, h⟩ := h
  simp only [evE] at h
  rw [← M.assoc] at h
  refine ⟨ρ, S, β, er, at_, RW.step h fun k S1 h w H1 β1 g at1 e => ?_⟩
  subst e
  have h := RW.grow g h
  cases k with
  | true => exact ⟨ρ, S1, β1, er.grow g, at1, h⟩
  | false => exact ⟨ρ, S1, β1, er.grow g, at1, h⟩
theorem pt_ifE {tc : TT} {ta tb : TT} (hc : PT X c tc) (ha : PT X a ta) (hb : PT X b tb) : PT X (.IfExp c a b pos) (fun σ H Q => tc σ H fun k H1 => if k = true then ta σ H1 Q else tb σ H1 Q) := by
  refine ⟨fun pins s σ H Q I h => ?_⟩
  show wpAny _ _ (do if ← isTrue c X.env (eval c X.env) then isTrue a X.env (eval a X.env) else isTrue b X.env (eval b X.env)) _ _ s
  refine wpAny_bind (thn (hc.run pins s σ H _ I h) fun k s1 ⟨H1, I1, q1⟩ => ?_)
  cases k with
  | true => exact ha.run pins s1 σ H1 Q I1 q1
  | false => exact hb.run pins s1 σ H1 Q I1 q1
theorem arm_ifT (hc : PT X c (OfT L X W (evT L.G.con cf C))) (ha : PT X a (OfT L X W (evT L.G.con cf A))) (hb : PT X b (OfT L X W (evT L.G.con cf B))) : PT X (.IfExp c a b pos) (OfT L X W (evT L.G.con cf (.ite C A B))) := by
  refine (pt_ifE hc ha hb).imp fun σ H Q h => ?_
  obtain ⟨ρ, S, β, er, at_, h⟩ := h
  simp only [evT, evE, M.assoc] at h
  rw [← M.assoc] at h
  refine ⟨ρ, S, β, er, at_, RW.step h fun k S1 h w H1 β1 g at1 e => ?_⟩
  subst e
  have h := RW.grow g h
  cases k with
  | true => exact ⟨ρ, S1, β1, er.grow g, at1, h⟩
  | false => exact ⟨ρ, S1, β1, er.grow g, at1, h⟩
/-- the false answer of a left side, once more -/
theorem arm_andT (ha : PT X a (OfT L X W (evT L.G.con cf A))) {rest : List Expr} (hb : PW X (.BoolOp .And (b :: rest) pos) (OfT L X W (evT L.G.con cf B))) : PW X (.BoolOp .And (a :: b :: rest) pos) (OfT L X W (evT L.G.con cf (.and A B))) := by
  refine (pw_and ha hb).imp fun σ H Q h => ?_
  obtain ⟨ρ, S, β, er, at_, h⟩ := h
  simp only [evT, evE, M.assoc] at h
  refine ⟨ρ, S, β, er, at_, ?_⟩
  unfold evT
  cases e0 : evE L.G.con cf A ρ S with
  | bad => rw [e0] at h; exact h.elim
  | exc x s => rw [e0] at h; exact h
  | ok x S1 =>
    rw [e0] at h
    simp only [M.bind] at h ⊢
    cases e : x.truth S1 with
    | none => unfold tru at h; rw [e] at h; exact h.elim
    | some k =>
      rw [tru_eq e] at h ⊢
      intro w H1 β1 g at1 ew
      subst ew
      cases k with
      | true => exact ⟨ρ, S1, β1, er.grow g, at1, RW.grow g h⟩
      | false =>
        simp only [M.bind, Bool.false_eq_true, if_false] at h ⊢
        rw [tru_eq e] at h
        exact h false H1 β1 g at1 rfl
theorem arm_orT (ha : PT X a (OfT L X W (evT L.G.con cf A))) {rest : List Expr} (hb : PW X (.BoolOp .Or (b :: rest) pos) (OfT L X W (evT L.G.con cf B))) : PW X (.BoolOp .Or (a :: b :: rest) pos) (OfT L X W (evT L.G.con cf (.or A B))) := by
  refine (pw_or ha hb).imp fun σ H Q h => ?_
  obtain ⟨ρ, S, β, er, at_, h⟩ := h
  simp only [evT, evE, M.assoc] at h
  refine ⟨ρ, S, β, er, at_, ?_⟩
  unfold evT
  cases e0 : evE L.G.con cf A ρ S with
  | bad => rw [e0] at h; exact h.elim
  | exc x s => rw [e0] at h; exact h
  | ok x S1 =>
    rw [e0] at h
    simp only [M.bind] at h ⊢
    cases e : x.truth S1 with
    | none => unfold tru at h; rw [e] at h; exact h.elim
    | some k =>
      rw [tru_eq e] at h ⊢
      intro w H1 β1 g at1 ew
      subst ew
      cases k with
      | false => exact ⟨ρ, S1, β1, er.grow g, at1, RW.grow g h⟩
      | true =>
        simp only [M.bind, if_true] at h ⊢
        rw [tru_eq e] at h
        exact h true H1 β1 g at1 rfl
end
end EV
/-! EvF: the arms of displays, subscripts, calls of built-ins (own work). -/
namespace EV
open PySem PySem.Spec PyProof.Rows L2
section
variable {L : Lw} {X : Cx} {W : WX} {cf : Cf} {sc : Scope}
theorem pe_bad {e : Expr} {t : TE} (h : ∀ σ H Q, t σ H Q → False) : PE X e t := ⟨fun _ _ σ H Q _ q => (h σ H Q q).elim⟩
/-- not a starred item -/
def NoStar (X : Cx) (e : Expr) : Prop := ∀ rest, starEach (e :: rest) X.env = (false, eval e X.env) :: starEach rest X.env
theorem star_of {C : Cc} {n lv : Nat} {e : Expr} {E : E} (h : cE C n lv sc e = some E) : NoStar X e := fun rest => by
  cases e with
  | Starred e p =>
    cases n <;> simp [cE] at h
  | _ => rfl
theorem arm_args {f : Expr → Option E} (hf : ∀ e E, f e = some E → PE X e (OfE L X W (evE L.G.con cf E)) ∧ NoStar X e) :
    ∀ (es : List Expr) (Es : List E), es.mapM f = some Es → PA X es (OfA L X W (evEs L.G.con cf (esOf Es))) ∧ (∀ pos, (backTo pos (starEach es X.env)).any (·.1) = false) ∧ (∀ pos, (backTo pos (starEach es X.env)).all (fun x => !x.1) = true)
  | [], Es, h => by
    simp at h
    subst h
    refine ⟨pa_nil.imp fun σ H Q h => ?_, fun _ => rfl, fun _ => rfl⟩
    obtain ⟨ρ, S, β, er, at_, h⟩ := h
    exact h [] H β Grow.refl at_ .nil
  | e :: es, Es, h => by
    simp only [List.mapM_cons, bind, Option.bind_eq_some_iff, pure, Option.some.injEq] at h
    obtain ⟨E1, h1, Er, h2, rfl⟩ := h
    obtain ⟨p1, st⟩ := hf e E1 h1
    obtain ⟨p2, q1, q2⟩ := arm_args hf es Er h2
    refine ⟨(pa_cons p1 p2 (st es)).imp fun σ H Q h => ?_, fun pos => ?_, fun pos => ?_⟩
    · obtain ⟨ρ, S, β, er, at_, h⟩ := h
      simp only [esOf, evEs] at h
      refine ⟨ρ, S, β, er, at_, RW.step h fun x S1 h v H1 β1 g1 at1 rx => ?_⟩
      refine ⟨ρ, S1, β1, er.grow g1, at1, RW.step (RW.grow g1 h) fun ds S2 h us H2 β2 g2 at2 rs => ?_⟩
      exact RW.grow g2 h (v :: us) H2 β2 Grow.refl at2 (.cons (rx.grow g2) rs)
    · rw [st es]
      show (false || (backTo pos (starEach es X.env)).any (·.1)) = false
      rw [q1]
      rfl
    · rw [st es]
      show (true && (backTo pos (starEach es X.env)).all (fun x => !x.1)) = true
      rw [q2]
      rfl
variable {es : List Expr} {Es : Es} {pos : Pos}
theorem arm_tup {k} (h : PA X es (OfA L X W (evEs L.G.con cf Es))) : PE X (.Tuple es k pos) (OfE L X W (evE L.G.con cf (.tup Es))) := by
  refine (pe_tup h).imp fun σ H Q h => ?_
  obtain ⟨ρ, S, β, er, at_, h⟩ := h
  simp only [evE] at h
  refine ⟨ρ, S, β, er, at_, RW.step h fun ds S1 h us H1 β1 g1 at1 rs => ?_⟩
  obtain ⟨a, S', e, q⟩ := RW.up (RW.grow g1 h)
  obtain ⟨hz, rfl, rfl⟩ := mkTup_ok e
  exact ⟨by rw [← rs.length]; exact hz, kg_tup at1 rs q⟩
theorem arm_lst (h : PA X es (OfA L X W (evEs L.G.con cf Es))) : PE X (.List es pos) (OfE L X W (evE L.G.con cf (.lst Es))) := by
  refine (pe_lst h).imp fun σ H Q h => ?_
  obtain ⟨ρ, S, β, er, at_, h⟩ := h
  simp only [evE] at h
  refine ⟨ρ, S, β, er, at_, RW.step h fun ds S1 h us H1 β1 g1 at1 rs => ?_⟩
  obtain ⟨a, S', e, q⟩ := RW.up (RW.grow g1 h)
  obtain ⟨hz, rfl, rfl⟩ := mkList_ok e
  exact ⟨by rw [← rs.length]; exact hz, kg_lst at1 rs q⟩
/-! subscripts -/
variable {a b : Expr} {A B : E}
theorem arm_idx (fa : Fa L X) (ha : PE X a (OfE L X W (evE L.G.con cf A))) (hb : PE X b (OfE L X W (evE L.G.con cf B))) (hp : plainIdx b = true) : PE X (.Subscript a b pos) (OfE L X W (evE L.G.con cf (.idx A B))) :=
  (pe_ix (ix_ok fa.K (by have := fa.hu; omega)) ha hb (plain_of hp)).imp fun _ _ _ h => of_op (f := ix) (by simpa only [evE] using h)
theorem arm_po {o : Option Expr} {O : Eo} (h : match o, O with | none, .none => True | some e, .some E => PE X e (OfE L X W (evE L.G.con cf E)) | _, _ => False) : PO X o (Of L X W (fun _ _ (a b : Option Int) => a = b) (evEo L.G.con cf O)) := by
  cases o with
  | none =>
    cases O with
    | none =>
      refine ⟨fun pins s σ H Q I h => po_none.run pins s σ H Q I ?_⟩
      obtain ⟨ρ, S, β, er, at_, h⟩ := h
      exact h none H β Grow.refl at_ rfl
    | some E => exact h.elim
  | some e =>
    cases O with
    | none => exact h.elim
    | some E =>
      refine ⟨fun pins s σ H Q I hq => (po_some h).run pins s σ H Q I ?_⟩
      obtain ⟨ρ, S, β, er, at_, hq⟩ := hq
      simp only [evEo] at hq
      refine ⟨ρ, S, β, er, at_, RW.step hq fun d S1 h v H1 β1 g1 at1 r => ?_⟩
      cases d with
      | int i =>
        cases r
        exact ⟨i, rfl, h (some i) H1 β1 g1 at1 rfl⟩
      | _ => exact h.elim
theorem arm_slc (fa : Fa L X) {lo hi : Option Expr} {Lo Hi : Eo} {p2 : Pos} (ha : PE X a (OfE L X W (evE L.G.con cf A))) (hl : PO X lo (Of L X W (fun _ _ (a b : Option Int) => a = b) (evEo L.G.con cf Lo))) (hh : PO X hi (Of L X W (fun _ _ (a b : Option Int) => a = b) (evEo L.G.con cf Hi))) :
    PE X (.Subscript a (.Slice lo hi none p2) pos) (OfE L X W (evE L.G.con cf (.slc A Lo Hi))) := by
  refine (pe_slice (sl_ok (L := L) fa.K) ha hl hh).imp fun σ H Q h => ?_
  obtain ⟨ρ, S, β, er, at_, h⟩ := h
  simp only [evE] at h
  refine ⟨ρ, S, β, er, at_, RW.step h fun x S1 h v H1 β1 g1 at1 rx => ?_⟩
  refine ⟨ρ, S1, β1, er.grow g1, at1, RW.step (RW.grow g1 h) fun l S2 h l' H2 β2 g2 at2 el => ?_⟩
  subst el
  refine ⟨ρ, S2, β2, (er.grow g1).grow g2, at2, RW.step (RW.grow g2 h) fun u S3 h u' H3 β3 g3 at3 eu => ?_⟩
  subst eu
  obtain ⟨a, S', e, q⟩ := RW.up (RW.grow g3 h)
  exact ⟨x, S3, β3, a, S', (rx.grow g2).grow g3, at3, e, q⟩
/-! built-ins -/
theorem bt_mem {x : Str} (h : x ∈ btNames) : x ≠ "__name__" ∧ (x == ("__debug__" : Str)) = false := by
  have : btNames.all (fun x => decide (x ≠ "__name__") && !(x == ("__debug__" : Str))) = true := by decide +kernel
  have := List.all_eq_true.mp this x h
  simp only [Bool.and_eq_true, decide_eq_true_eq, Bool.not_eq_true'] at this
  exact this
theorem of_args {f : List D → Sto → R D} {σ : L2.St} {H : Hp} {Q : VK} (h : OfE L X W (fun ρ s => (evEs L.G.con cf Es ρ s).bind fun ds s1 => (f ds s1).up) σ H Q) : tCB (rFs L f) (OfA L X W (evEs L.G.con cf Es)) σ H Q := by
  obtain ⟨ρ, S, β, er, at_, h⟩ := h
  refine ⟨ρ, S, β, er, at_, RW.step h fun ds S1 h us H1 β1 g1 at1 rs => ?_⟩
  obtain ⟨a, S', e, q⟩ := RW.up (RW.grow g1 h)
  exact ⟨ds, S1, β1, a, S', rs, at1, e, q⟩
def bfStr : Bf → Str
  | .len => "len"
  | .tuple => "tuple"
  | .list => "list"
  | .sorted => "sorted"
  | .int => "int"
  | .max => "max"
  | .min => "min"
  | .sum => "sum"
  | .repr => "repr"
  | .abs => "abs"
  | .str => "str"
theorem bfNames_eq {x : Str} {b : Bf} (h : bfNames.lookup x = some b) : x = bfStr b := by
  have := PySem.mem_of_lookup h
  simp only [bfNames, List.mem_cons, Prod.mk.injEq, List.not_mem_nil, or_false] at this
  rcases this with ⟨h1, h2⟩ | ⟨h1, h2⟩ | ⟨h1, h2⟩ | ⟨h1, h2⟩ | ⟨h1, h2⟩ | ⟨h1, h2⟩ | ⟨h1, h2⟩ | ⟨h1, h2⟩ | ⟨h1, h2⟩ | ⟨h1, h2⟩ | ⟨h1, h2⟩ <;> (subst h2; exact h1)
theorem bf_mem (b : Bf) : bfStr b ∈ btNames := by cases b <;> decide +kernel
end
end EV
/-! EvW: repr of data (own work). -/
namespace EV
open PySem PySem.Spec PyProof.Rows L2
section
variable {prog : Program} {w : World}
/-- repr of data that hold no dict -/
theorem repr_data {v : Value} {d : PyData} {as : List Addr} {A : Around} {E : Value → Shared → Prop} {s : Shared} {Q : Value → Shared → Prop} (r : Reads s.heap v d as) (hs : d.showable = true) (hn : d.hasDict = false) (hz : d.shown.length ≤ sizeLine) (hg : A.guards = some [])
    (hu : A.units + d.depth + 2 < cLine) (hQ : ∀ h' u tk, (∀ b o, s.heap.get? b = some o → h'.get? b = some o) → Q (.str d.shown u) { s with heap := h', toks := tk }) : wpAny (model prog w) A (call (.builtin "repr") [v]) Q E s := by
  have hsm : ∀ {as : List Addr}, d.hasDict = true → sysModules ∉ as := fun h => by rw [hn] at h; cases h
  cases r with
  | none => exact P.repr_of_none (hQ s.heap _ _ fun _ _ e => e)
  | bool b =>
    refine P.repr_of_bool ?_
    have h := hQ s.heap s.toks (s.toks + 1) fun _ _ e => e
    cases b <;> exact h
  | int i t => exact P.repr_of_int (by simpa [PyData.showable] using hs) (hQ s.heap _ _ fun _ _ e => e)
  | str x t => exact P.repr_of_str (hQ s.heap _ _ fun _ _ e => e) hz
  | @list a o vs n xs as h1 h2 h3 h4 =>
    have hz' : (listText (PyData.shownAll xs)).length ≤ sizeLine := by simpa only [PyData.shown] using hz
    obtain ⟨bs, hb, hk⟩ := ReprAllK.of_readsAll (prog := prog) (w := w) h4 (by simpa [PyData.showable] using hs) (fun hx hm => hsm (as := as) (by simpa [PyData.hasDict] using hx) hm) (fun t ht => Nat.le_trans (listText_mem_le ht) hz')
    have r : Reads s.heap (.ref a) (.list xs) _ := .list h1 h2 h3 h4
    have hna : a ∉ bs := not_mem_of_deeper r (by simp only [PyData.depth]; omega) hb
    simp only [PyData.depth] at hu
    simp only [PyData.shown] at hQ
    obtain ⟨l⟩ := vs
    refine call_repr_slot (by omega) ⟨o, h1, h2⟩ F.slot_list_repr.toG ?_
    cases l with
    | nil =>
      have h4' : ReadsAll s.heap [] xs _ := h4
      cases h4'
      simp only [PyData.shownAll, listText_nil] at hQ
      exact call_list_repr_empty ⟨o, h1, h2⟩ h1 h3 ⟨_, _, rfl, hQ s.heap _ _ fun _ _ e => e⟩
    | cons x l =>
      exact call_list_reprK h1 h2 h3 hna (by simpa using hk.length_eq) (fun i y e => hk.item i y (by simpa using e)) (show A.in1.guards = some [] from hg) (fun b _ => Clear.nil b) (by show A.units + 1 + _ < cLine; omega) (fun _ _ e => e) (fun h' u tk hk' => ⟨_, _, rfl, hQ h' u tk hk'⟩) hz'
  | @tuple a o vs n xs as h1 h2 h3 h4 =>
    have hz' : (tupleText (PyData.shownAll xs)).length ≤ sizeLine := by simpa only [PyData.shown] using hz
    obtain ⟨bs, hb, hk⟩ := ReprAllK.of_readsAll (prog := prog) (w := w) h4 (by simpa [PyData.showable] using hs) (fun hx => hsm (by simpa [PyData.hasDict] using hx)) (fun t ht => Nat.le_trans (tupleText_mem_le ht) hz')
    have r : Reads s.heap (.ref a) (.tuple xs) _ := .tuple h1 h2 h3 h4
    have hna : a ∉ bs := not_mem_of_deeper r (by simp only [PyData.depth]; omega) hb
    simp only [PyData.depth] at hu
    simp only [PyData.shown] at hQ
    refine call_repr_slot (by omega) ⟨o, h1, h2⟩ F.slot_tuple_repr ?_
    exact call_tuple_reprK h1 h2 h3 hna hk (show A.in1.guards = some [] from hg) (fun b _ => Clear.nil b) (by show A.units + 1 + _ < cLine; omega) (fun _ _ e => e) (fun h' u tk hk' => ⟨_, _, rfl, hQ h' u tk hk'⟩) hz'
  | dict => simp [PyData.hasDict] at hn
end
section
variable {L : Lw} {X : Cx}
theorem noDict_shaped {d : PyData} (h : SeqAt.shaped d = true) : d.hasDict = false := by
  cases e : d.hasDict with
  | false => rfl
  | true =>
    have z := PyData.hasDict_of_canLay d (SeqAt.canLay_of_shaped h)
    rw [e] at z
    cases z
theorem repr_ok (hK : X.K = L.G.K) (hu : X.A.units + 70 < cLine) (hg : X.A.guards = some []) : CallR X (.builtin "repr") (rFs L (bf .repr)) := by
  intro pins s σ H xs us Q I r ⟨ds, S, β, a, S', hx, at_, e, q⟩
  match ds, e, hx with
  | [d], e, hh =>
    obtain ⟨x, rfl, hd⟩ := hh.one
    simp only [bf] at e
    split at e
    · rename_i p hp
      obtain ⟨hc, rfl, rfl⟩ := if_ok e
      rw [Bool.and_eq_true] at hc
      obtain ⟨dp, sh⟩ := hd.rd at_ hp
      obtain ⟨u, rfl, ru⟩ := r.one
      obtain ⟨as, rd⟩ := Dp.reads I p x u (hK ▸ dp) ru
      have h64 : p.depth ≤ 64 := by
        have z := sh
        unfold SeqAt.shaped at z
        simp only [Bool.and_eq_true, decide_eq_true_eq] at z
        exact z.2
      exact repr_data rd hc.1 (noDict_shaped sh) (inLine_iff hc.2) hg (by omega) fun h' u tk hk => ⟨.str _, H, I.kept hk, ⟨_, rfl⟩, kg_same at_ (.str _) q⟩
    · cases e
end
end EV
/-! EvG: the arms of calls (own work). -/
namespace EV
open PySem PySem.Spec PyProof.Rows L2
section
variable {L : Lw} {X : Cx} {W : WX} {cf : Cf} {sc : Scope} {e : Expr} {es : List Expr} {Es : Es} {p pos : Pos}
theorem boot_abs1 : bootBuiltins "abs" = some (.builtin "abs") := by decide +kernel
theorem boot_sum1 : bootBuiltins "sum" = some (.builtin "sum") := by decide +kernel
theorem boot_str1 : bootBuiltins "str" = some (.type "str") := by decide +kernel
theorem none_ok {f : Value} {b : Bf} (h : ∀ xs s, bf b xs s = .bad) : CallR X f (rFs L (bf b)) := by
  intro pins s σ H xs us Q I r ⟨ds, S, β, a, S', hx, at_, e, q⟩
  rw [h] at e
  cases e
theorem arm_bf (fa : Fa L X) (hs : X.env.scope = sc) (b : Bf) (hg : gloB sc (bfStr b) = true) (ha : PA X (e :: es) (OfA L X W (evEs L.G.con cf Es))) (he : starEach (e :: es) X.env = (false, eval e X.env) :: starEach es X.env) (hpl : (backTo pos (starEach es X.env)).any (·.1) = false) :
    PE X (.Call (.Name (bfStr b) p) (e :: es) [] pos) (OfE L X W (evE L.G.con cf (.bf b Es))) := by
  have hgl := glo_of hs hg
  have hm := fa.bt _ (bf_mem b)
  have hu := fa.hu
  refine PE.imp (t := tCB (rFs L (bf b)) (OfA L X W (evEs L.G.con cf Es))) ?_ (fun _ _ _ h => of_args (f := bf b) (by simpa only [evE] using h))
  cases b with
  | len => exact pe_callB (len_ok fa.K) hgl hm boot_len ha (by decide) (by decide) he hpl
  | tuple => exact pe_callTy (tuple_ok fa.K) hgl hm boot_tuple ha (by decide) (by decide) he hpl
  | list => exact pe_callTy (list_ok fa.K) hgl hm boot_list ha (by decide) (by decide) he hpl
  | sorted => exact pe_callB (sorted_ok fa.K (by omega) fa.calm) hgl hm boot_sorted ha (by decide) (by decide) he hpl
  | int => exact pe_callTy int_ok hgl hm boot_int ha (by decide) (by decide) he hpl
  | max => exact pe_callB (max_ok fa.K fa.calm) hgl hm boot_max ha (by decide) (by decide) he hpl
  | min => exact pe_callB (min_ok fa.K fa.calm) hgl hm boot_min ha (by decide) (by decide) he hpl
  | sum => exact pe_callB (none_ok fun _ _ => rfl) hgl hm boot_sum1 ha (by decide) (by decide) he hpl
  | repr => exact pe_callB (repr_ok fa.K (by omega) fa.gu) hgl hm boot_repr ha (by decide) (by decide) he hpl
  | abs => exact pe_callB (none_ok fun _ _ => rfl) hgl hm boot_abs1 ha (by decide) (by decide) he hpl
  | str => exact pe_callTy (none_ok fun _ _ => rfl) hgl hm boot_str1 ha (by decide) (by decide) he hpl
/-- a built-in called with nothing: never -/
theorem bf_nil (b : Bf) (s : Sto) : bf b [] s = .bad := by cases b <;> rfl
theorem arm_bf0 (b : Bf) : PE X (.Call (.Name (bfStr b) p) [] [] pos) (OfE L X W (evE L.G.con cf (.bf b .nil))) := pe_bad fun σ H Q h => by
  obtain ⟨ρ, S, β, er, at_, h⟩ := h
  simp only [evE, evEs, M.bind, bf_nil] at h
  exact h
/-! isinstance -/
def tyStr (t : Ty) : Str := Str.ofString (tyName t)
theorem tyNames_eq {x : Str} {t : Ty} (h : tyNames.lookup x = some t) : x = tyStr t := by
  have := PySem.mem_of_lookup h
  simp only [tyNames, List.mem_cons, Prod.mk.injEq, List.not_mem_nil, or_false] at this
  rcases this with ⟨h1, h2⟩ | ⟨h1, h2⟩ | ⟨h1, h2⟩ | ⟨h1, h2⟩ | ⟨h1, h2⟩ | ⟨h1, h2⟩ <;> (subst h2; exact h1)
theorem ty_mem (t : Ty) : tyStr t ∈ btNames := by cases t <;> decide +kernel
theorem ty_boot (t : Ty) : bootBuiltins (tyStr t) = some (.type (tyName t)) := by cases t <;> decide +kernel
theorem arm_isi (fa : Fa L X) (hs : X.env.scope = sc) (t : Ty) {x : Str} {i : Nat} {px pt : Pos} (hg : gloB sc ("isinstance" : Str) = true) (hgt : gloB sc (tyStr t) = true) (hx : PE X (.Name x px) (OfE L X W (evE L.G.con cf (.var i)))) :
    PE X (.Call (.Name ("isinstance" : Str) p) [.Name x px, .Name (tyStr t) pt] [] pos) (OfE L X W (evE L.G.con cf (.isi (.var i) t))) := by
  have hgl := glo_of hs hg
  obtain ⟨n1, n2⟩ := bt_mem (ty_mem t)
  have ht : PE X (.Name (tyStr t) pt) (tC (.ty (tyName t))) := pe_bltn (glo_of hs hgt) (fa.bt _ (ty_mem t)) (ty_boot t) rfl n1 n2
  refine (pe_callB (isi_ok (L := L) fa.K t) hgl (fa.bt _ (by decide +kernel)) boot_isinstance (pa_cons hx (pa_cons ht pa_nil)) (by decide) (by decide)).imp fun σ H Q h => ?_
  obtain ⟨ρ, S, β, er, at_, h⟩ := h
  simp only [evE] at h
  refine ⟨ρ, S, β, er, at_, RW.step (by simpa only [evE] using h) fun d S1 h v H1 β1 g1 at1 rx => ?_⟩
  obtain ⟨a, S', e, q⟩ := RW.up (RW.grow g1 h)
  exact ⟨v, rfl, d, S1, β1, a, S', rx, at1, e, q⟩
/-! methods of lists -/
def mtStr : Mt → Str
  | .append => "append"
  | .remove => "remove"
  | .pop => "pop"
  | .extend => "extend"
theorem mtNames_eq {x : Str} {m : Mt} (h : mtNames.lookup x = some m) : x = mtStr m := by
  have := PySem.mem_of_lookup h
  simp only [mtNames, List.mem_cons, Prod.mk.injEq, List.not_mem_nil, or_false] at this
  rcases this with ⟨h1, h2⟩ | ⟨h1, h2⟩ | ⟨h1, h2⟩ | ⟨h1, h2⟩ <;> (subst h2; exact h1)
theorem mt_slot (m : Mt) : Slot "list" (mtStr m) (mtId m) := by
  cases m
  · exact PySem.F.slot_list_append
  · exact PySem.F.slot_list_remove
  · exact PySem.F.slot_list_pop
  · exact PySem.F.slot_list_extend
theorem mt_type (m : Mt) : typeOf (.builtin (mtId m)) = pure (.type "method_descriptor") := by
  cases m
  · exact PySem.F.type_list_append
  · exact PySem.F.type_list_remove
  · exact PySem.F.type_list_pop
  · exact PySem.F.type_list_extend
theorem base_of {o : Expr} {m : Str} (h : plainBase o = true) : attributeBase o m X.env (eval o X.env) = eval o X.env := by
  cases o <;> first | rfl | cases h
variable {o : Expr} {O : E} {ap : Pos}
theorem isLst_of {d : D} {s s' : Sto} {u : Unit} {H : Hp} {β : List Addr} {v : V} (hK : X.K = L.G.K) (at_ : At L.G H β s) (r : RV L.G H β d v) (h : isLst d s = .ok u s') : s' = s ∧ tyV X.K "list" v H := by
  unfold isLst at h
  split at h
  · split at h
    · rename_i k _ xs hk
      cases h
      obtain ⟨a, vs, rfl, h1, _⟩ := r.seqAt at_ (.inl hk)
      exact ⟨rfl, .inl ⟨rfl, vs, hK ▸ h1⟩⟩
    · cases h
  · cases h
theorem RW.unit {α : Type} {r : M Unit} {f : Unit → Sto → M α} {Q : α → Sto → Prop} {Wx : Xc → Sto → Prop} {s : Sto} (hr : ∀ x s', r ≠ .exc x s') (h : RW (r.bind f) Q Wx) : ∃ s', r = .ok () s' ∧ RW (f () s') Q Wx := by
  cases r with
  | ok a s => exact ⟨s, rfl, h⟩
  | exc x s => exact absurd rfl (hr x s)
  | bad => exact h.elim
theorem isLst_exc (d : D) (s : Sto) (x : Xc) (s' : Sto) : isLst d s ≠ .exc x s' := fun h => by
  unfold isLst at h
  split at h
  · split at h <;> cases h
  · cases h
theorem arm_mt (fa : Fa L X) (m : Mt) (hb : plainBase o = true) (hl : (ap.endLine == pos.line) = true) (ho : PE X o (OfE L X W (evE L.G.con cf O))) (ha : PA X (e :: es) (OfA L X W (evEs L.G.con cf Es))) (he : starEach (e :: es) X.env = (false, eval e X.env) :: starEach es X.env)
    (hpl : (backTo pos (starEach es X.env)).any (·.1) = false) (hall : (backTo pos (starEach (e :: es) X.env)).all (fun x => !x.1) = true) (hn : (e :: es).length < 20) : PE X (.Call (.Attribute o (mtStr m) ap) (e :: es) [] pos) (OfE L X W (evE L.G.con cf (.mt m O Es))) := by
  refine (pe_bm PySem.F.plainAttrs_list (mt_slot m) (mt_type m) (mt_ok (L := L) m) ho ha (base_of hb) ?_ hl he hpl).imp fun σ H Q h => ?_
  · rw [hall]
    show (true && true && decide (_ + 0 + 0 < 30)) = true
    rw [Bool.and_true, Bool.true_and]
    exact decide_eq_true (by omega)
  · obtain ⟨ρ, S, β, er, at_, h⟩ := h
    simp only [evE] at h
    refine ⟨ρ, S, β, er, at_, RW.step h fun x S1 h v H1 β1 g1 at1 rx => ?_⟩
    obtain ⟨s', e', hk⟩ := RW.unit (s := S1) (isLst_exc _ _) h
    clear h
    obtain ⟨rfl, ty⟩ := isLst_of fa.K at1 rx e'
    refine ⟨ty, ρ, s', β1, er.grow g1, at1, RW.step (RW.grow g1 hk) fun ds S2 h us H2 β2 g2 at2 rs => ?_⟩
    obtain ⟨a, S', e, q⟩ := RW.up (RW.grow g2 h)
    exact ⟨x, ds, S2, β2, a, S', rx.grow g2, rs, at2, e, q⟩
theorem arm_mt0 (fa : Fa L X) (m : Mt) (hb : plainBase o = true) (hl : (ap.endLine == pos.line) = true) (ho : PE X o (OfE L X W (evE L.G.con cf O))) : PE X (.Call (.Attribute o (mtStr m) ap) [] [] pos) (OfE L X W (evE L.G.con cf (.mt m O .nil))) := by
  refine (pe_bm0 PySem.F.plainAttrs_list (mt_slot m) (mt_type m) (mt_ok (L := L) m) ho (base_of hb) hl).imp fun σ H Q h => ?_
  obtain ⟨ρ, S, β, er, at_, h⟩ := h
  simp only [evE] at h
  refine ⟨ρ, S, β, er, at_, RW.step h fun x S1 h v H1 β1 g1 at1 rx => ?_⟩
  obtain ⟨s', e', hk⟩ := RW.unit (s := S1) (isLst_exc _ _) h
  clear h
  obtain ⟨rfl, ty⟩ := isLst_of fa.K at1 rx e'
  refine ⟨ty, ?_⟩
  simp only [evEs, M.bind] at hk
  obtain ⟨a, S', e, q⟩ := RW.up (RW.grow g1 hk)
  exact ⟨x, [], s', β1, a, S', rx, .nil, at1, e, q⟩
end
end EV
/-! EvH: the arms of calls of one's own defs and of lambdas got (own work). -/
namespace EV
open PySem PySem.Spec PyProof.Rows L2
/-- a value handed to a def, where the caller stands at the heap h -/
def RC (L : Lw) (h : Heap) (outer : List PySem.Env) (H : Hp) (β : List Addr) (d : D) (v : V) : Prop := RV L.G H β d v ∨ CloR L.G L.fnN L.conN h H (frs outer) H β d v
/-- what calls give: of defs, of lambdas -/
structure FnsOk (L : Lw) (cf : Cf) (P : Program) (w : World) (mg : Str → Option Value) (base : Heap) (A : Around) : Prop where
  fn : ∀ (k : Nat) (ds : List D) (vs : List V) (us : List Value) (S : Sto) (β : List Addr) (outer : List PySem.Env) (s : Shared) (H : Hp) (Q : VK) (E : XK), Env0 P w L.G.K mg base A outer s H → At L.G H β S → Paired (RC L s.heap outer H β) ds vs → Vals vs us →
    RW (cf (.fn k) ds S) (KG L.G (RV L.G) H β Q) (KX L.G L.cad H β E) → codeAny (model P w) A (.call (.ref (L.G.fad k)) ⟨us, []⟩) (CR (L2.CX P w) outer P w H s Q E) s
  clo : ∀ (ps : List Nat) (body : E) (ρ : Env) (f : Addr) (ds : List D) (vs : List V) (us : List Value) (S : Sto) (β : List Addr) (outer : List PySem.Env) (s : Shared) (H : Hp) (Q : VK) (E : XK), Env0 P w L.G.K mg base A outer s H → At L.G H β S → CloR L.G L.fnN L.conN s.heap H (frs outer) H β (.clo ps body ρ) (.ref f) → RVs L.G H β ds vs → Vals vs us →
    RW (cf (.clo ps body ρ) ds S) (KG L.G (RV L.G) H β Q) (KX L.G L.cad H β E) → codeAny (model P w) A (.call (.ref f) ⟨us, []⟩) (CR (L2.CX P w) outer P w H s Q E) s
section
variable {L : Lw} {X : Cx} {W : WX} {cf : Cf} {sc : Scope}
theorem call_end {pins : List (Addr × Obj)} {σ : L2.St} {H : Hp} {s : Shared} {Q : VK} {f : Addr} {us : List Value} (tk : Takes X W) (I : Inv X pins σ H s) (h : codeAny (model X.prog X.w) X.A (.call (.ref f) ⟨us, []⟩) (CR (L2.CX X.prog X.w) X.stack X.prog X.w H s Q fun c d H' => W c d σ H') s) :
    wpAny (model X.prog X.w) X.A (call (.ref f) us) (EP X pins σ Q) X.xe s := by
  refine wpAny_call (codeAny_mono h fun r s' hq => ?_)
  cases r with
  | error e => exact tk e s' (XE.of_call I (fun _ _ _ h => h) hq)
  | ok fl =>
    cases fl with
    | ret u => exact I.after hq
    | next => exact False.elim hq
    | brk => exact False.elim hq
    | cont => exact False.elim hq
theorem pair_of {h : Heap} {outer : List PySem.Env} {H : Hp} {β : List Addr} : ∀ {ds : List D} {vs : List V}, RVs L.G H β ds vs → Paired (RC L h outer H β) ds vs
  | _, _, .nil => .nil
  | _, _, .cons r t => .cons (.inl r) (pair_of t)
variable {e : Expr} {es : List Expr} {Es : Es} {p pos : Pos} {x : Str} {k : Nat}
theorem arm_call (fa : Fa L X) (hs : X.env.scope = sc) (ok : FnsOk L cf X.prog X.w X.mg X.base X.A) (tk : Takes X W) (hx : okName x = true) (hg : gloB sc x = true) (hk : L.fnN[k]? = some x) (ha : PA X (e :: es) (OfA L X W (evEs L.G.con cf Es)))
    (he : starEach (e :: es) X.env = (false, eval e X.env) :: starEach es X.env) (hpl : (backTo pos (starEach es X.env)).any (·.1) = false) : PE X (.Call (.Name x p) (e :: es) [] pos) (OfE L X W (evE L.G.con cf (.call k Es))) := by
  obtain ⟨h1, h2⟩ := fa.own k x hk
  refine ⟨fun pins s σ H Q I h => ?_⟩
  obtain ⟨ρ, S, β, er, at_, h⟩ := h
  simp only [evE] at h
  refine wpAny_Call_Name_kw (ld_glob I (glo_of hs hg) h1 ?_ (okName_of hx).1)
  refine PySem.W.callWith_K (h₀ := X.base) I.ok.mod.kin h2 (thn (ha.run pos pins s σ H (fun vs H1 => ∃ ds S1 β1, Grow H H1 β β1 ∧ At L.G H1 β1 S1 ∧ RVs L.G H1 β1 ds vs ∧ RW (cf (.fn k) ds S1) (KG L.G (RV L.G) H β Q) (KX L.G L.cad H β fun c d H' => W c d σ H')) I ?_) fun us s1 ⟨vs, H1, I1, r, ds, S1, β1, g, at1, rs, q⟩ => ⟨I1.kIn, ?_⟩) he hpl
  · exact ⟨ρ, S, β, er, at_, RW.step h fun ds S1 h vs H1 β1 g at1 rs => ⟨ds, S1, β1, g, at1, rs, h⟩⟩
  · exact call_end tk I1 (ok.fn k ds vs us S1 β1 X.stack s1 H1 Q _ (fa.K ▸ I1.env0) at1 (pair_of rs) r (RW.grow g q))
theorem arm_call0 (fa : Fa L X) (hs : X.env.scope = sc) (ok : FnsOk L cf X.prog X.w X.mg X.base X.A) (tk : Takes X W) (hx : okName x = true) (hg : gloB sc x = true) (hk : L.fnN[k]? = some x) : PE X (.Call (.Name x p) [] [] pos) (OfE L X W (evE L.G.con cf (.call k .nil))) := by
  obtain ⟨h1, h2⟩ := fa.own k x hk
  refine ⟨fun pins s σ H Q I h => ?_⟩
  obtain ⟨ρ, S, β, er, at_, h⟩ := h
  simp only [evE, evEs, M.bind] at h
  refine wpAny_Call_Name_kw (ld_glob I (glo_of hs hg) h1 ?_ (okName_of hx).1)
  exact PySem.W.callWith_K0 I.kIn h2 (call_end tk I (ok.fn k [] [] [] S β X.stack s H Q _ (fa.K ▸ I.env0) at_ .nil .nil h))
/-- a lambda, seen from the state at hand -/
theorem clo_now {pins : List (Addr × Obj)} {σ : L2.St} {H : Hp} {β : List Addr} {s : Shared} {ps : List Nat} {body : E} {ρ : Env} {f : Addr} (I : Inv X pins σ H s) (hex : X.ex = []) (h : CloR L.G L.fnN L.conN X.s_0.heap X.H_0 X.fs H β (.clo ps body ρ) (.ref f)) :
    CloR L.G L.fnN L.conN s.heap H (frs X.stack) H β (.clo ps body ρ) (.ref f) ∧ PySem.W.FnAt f s.heap := by
  obtain ⟨N, n, c, P, pm, ctv, params, be, scope, q, cells, h⟩ := h
  have nex : ∀ b : Addr, b ∉ X.ex := fun b z => by rw [hex] at z; cases z
  have hf := I.base.keep f _ h.obj h.fre h.nfs (nex f)
  have cellK : ∀ {c : Addr} {v : Option Value}, X.H_0 c = none → X.s_0.heap.IsCell c v → s.heap.IsCell c v := fun {c v} n ⟨o, ho, hd⟩ => by
    obtain ⟨sl, q⟩ := I.base.any ho n (nex c)
    exact ⟨_, q, hd⟩
  refine ⟨⟨N, n, c, P, pm, ctv, params, be, scope, q, cells, h.nd, hf, I.base.free f _ h.obj h.fre (nex f), fun z => ?_, h.code, h.tab, h.comp, h.par, h.ok, h.len, h.inj, h.uni, h.fr, fun x a e => ?_, h.has, fun i x d e1 e2 => ?_⟩, _, _, _, _, hf⟩
  · rcases List.mem_cons.mp (I.stkSub f z) with z | z
    · have := Heap.lt_size h.obj
      rw [z] at this
      exact Nat.lt_irrefl _ (Nat.lt_of_lt_of_le this I.ok.above)
    · exact h.nfs z
  · obtain ⟨h1, v, h2⟩ := h.cell x a e
    obtain ⟨o, ho, _⟩ := id h2
    exact ⟨I.base.free a o ho h1 (nex a), v, cellK h1 h2⟩
  · obtain ⟨h1, a, u, v, h2, h3, h4, h5⟩ := h.cap i x d e1 e2
    exact ⟨h1, a, u, v, h2, cellK (h.cell x a (PySem.mem_of_lookup h2)).1 h3, h4, h5⟩
theorem clo_of_isFn {d : D} (h : d.isFn = true) : (∃ k, d = .fn k) ∨ ∃ ps b w, d = .clo ps b w := by
  cases d with
  | fn k => exact .inl ⟨k, rfl⟩
  | clo ps b w => exact .inr ⟨ps, b, w, rfl⟩
  | _ => cases h
theorem getF_ok {ρ : Env} {i : Nat} {s : Sto} {α : Type} {f : D → Sto → M α} {Q : α → Sto → Prop} {Wx : Xc → Sto → Prop} (h : RW ((getF ρ i s).bind f) Q Wx) : ∃ d, ρ[i]? = some (some d) ∧ d.isFn = true ∧ RW (f d s) Q Wx := by
  unfold getF at h
  cases e : (ρ[i]?).join with
  | none => rw [e] at h; exact h.elim
  | some d =>
    rw [e] at h
    have e' : ρ[i]? = some (some d) := by
      cases q : ρ[i]? with
      | none => rw [q] at e; cases e
      | some o => rw [q] at e; cases o with
        | none => cases e
        | some d' => cases e; rfl
    cases hc : d.isFn with
    | false => simp only [hc] at h; exact h.elim
    | true => simp only [hc] at h; exact ⟨d, e', hc, h⟩
/-- a name that bears a def or a lambda, called -/
theorem arm_callv (fa : Fa L X) (hs : X.env.scope = sc) (ok : FnsOk L cf X.prog X.w X.mg X.base X.A) (tk : Takes X W) {i : Nat} (hx : okName x = true) (hv : visB sc x = true) (hi : X.N[i]? = some x) (ha : PA X (e :: es) (OfA L X W (evEs L.G.con cf Es)))
    (he : starEach (e :: es) X.env = (false, eval e X.env) :: starEach es X.env) (hpl : (backTo pos (starEach es X.env)).any (·.1) = false) : PE X (.Call (.Name x p) (e :: es) [] pos) (OfE L X W (evE L.G.con cf (.callv i Es))) := by
  obtain ⟨o1, o2, _⟩ := okName_of hx
  refine ⟨fun pins s σ H Q I h => ?_⟩
  obtain ⟨ρ, S, β, er, at_, h⟩ := h
  simp only [evE] at h
  obtain ⟨d, ed, hfn, h⟩ := getF_ok h
  obtain ⟨v, ev, rv⟩ := er.at_ i d ed
  have args : ∀ {s1 : Shared}, Inv X pins σ H s1 → wpAny (model X.prog X.w) X.A (spliced (backTo pos (starEach (e :: es) X.env))) (AP X pins σ fun vs H1 => ∃ ds S1 β1, Grow H H1 β β1 ∧ At L.G H1 β1 S1 ∧ RVs L.G H1 β1 ds vs ∧ RW (cf d ds S1) (KG L.G (RV L.G) H β Q) (KX L.G L.cad H β fun c d H' => W c d σ H')) X.xe s1 := fun {s1} I1 =>
    ha.run pos pins s1 σ H _ I1 ⟨ρ, S, β, er, at_, RW.step h fun ds S1 h vs H1 β1 g at1 rs => ⟨ds, S1, β1, g, at1, rs, h⟩⟩
  refine wpAny_Call_Name_kw (thn ((pe_var (pos := p) hi (by rw [hs]; exact vis_of hv) o1 o2).run pins s σ H (fun v' H1 => v' = v ∧ H1 = H) I ⟨v, ev, rfl, rfl⟩) fun u s1 ⟨v', H1, I1, r1, e1, e2⟩ => ?_)
  subst e1
  subst e2
  rcases clo_of_isFn hfn with ⟨k, rfl⟩ | ⟨ps, b, w, rfl⟩
  · rcases rv with rv | ⟨_, rv⟩
    · cases rv
      cases r1
      refine PySem.W.callWith_K (h₀ := X.base) I.ok.mod.kin (fa.kp k) (thn (args I1) fun us s2 ⟨vs, H2, I2, r, ds, S2, β2, g, at2, rs, q⟩ => ⟨I2.kIn, ?_⟩) he hpl
      exact call_end tk I2 (ok.fn k ds vs us S2 β2 X.stack s2 H2 Q _ (fa.K ▸ I2.env0) at2 (pair_of rs) r (RW.grow g q))
    · exact rv.elim
  · rcases rv with rv | ⟨hex, rv⟩
    · cases rv
    · cases v' with
      | ref f =>
        cases r1
        have c1 := (clo_now (L := L) I1 hex rv).2
        refine PySem.W.callWith_F c1 (thn (args I1) fun us s2 ⟨vs, H2, I2, r, ds, S2, β2, g, at2, rs, q⟩ => ?_) he hpl
        obtain ⟨c2, c3⟩ := clo_now (L := L) I2 hex (rv.grow g)
        exact ⟨c3, call_end tk I2 (ok.clo ps b w f ds vs us S2 β2 X.stack s2 H2 Q _ (fa.K ▸ I2.env0) at2 c2 rs r (RW.grow g q))⟩
      | _ => exact rv.elim
theorem arm_callv0 (fa : Fa L X) (hs : X.env.scope = sc) (ok : FnsOk L cf X.prog X.w X.mg X.base X.A) (tk : Takes X W) {i : Nat} (hx : okName x = true) (hv : visB sc x = true) (hi : X.N[i]? = some x) : PE X (.Call (.Name x p) [] [] pos) (OfE L X W (evE L.G.con cf (.callv i .nil))) := by
  obtain ⟨o1, o2, _⟩ := okName_of hx
  refine ⟨fun pins s σ H Q I h => ?_⟩
  obtain ⟨ρ, S, β, er, at_, h⟩ := h
  simp only [evE] at h
  obtain ⟨d, ed, hfn, h⟩ := getF_ok h
  simp only [evEs, M.bind] at h
  obtain ⟨v, ev, rv⟩ := er.at_ i d ed
  refine wpAny_Call_Name_kw (thn ((pe_var (pos := p) hi (by rw [hs]; exact vis_of hv) o1 o2).run pins s σ H (fun v' H1 => v' = v ∧ H1 = H) I ⟨v, ev, rfl, rfl⟩) fun u s1 ⟨v', H1, I1, r1, e1, e2⟩ => ?_)
  subst e1
  subst e2
  rcases clo_of_isFn hfn with ⟨k, rfl⟩ | ⟨ps, b, w, rfl⟩
  · rcases rv with rv | ⟨_, rv⟩
    · cases rv
      cases r1
      exact PySem.W.callWith_K0 I1.kIn (fa.kp k) (call_end tk I1 (ok.fn k [] [] [] S β X.stack s1 H1 Q _ (fa.K ▸ I1.env0) at_ .nil .nil h))
    · exact rv.elim
  · rcases rv with rv | ⟨hex, rv⟩
    · cases rv
    · cases v' with
      | ref f =>
        cases r1
        obtain ⟨c2, c1⟩ := clo_now (L := L) I1 hex rv
        exact PySem.W.callWith_F0 c1 (call_end tk I1 (ok.clo ps b w f [] [] [] S β X.stack s1 H1 Q _ (fa.K ▸ I1.env0) at_ c2 .nil .nil h))
      | _ => exact rv.elim
end
end EV
/-! EvI: enumerate over a tuple; what loops and comprehensions walk (own work). -/
namespace EV
open PySem PySem.Spec PyProof.Rows L2

/-! ### enumerate(tuple) -/
theorem meets_enumT (l : Addr) (items : Array Value) (n : Nat) (dct : Option Addr) (sl : Array (Option Value)) :
    Meets (Builtin.«enumerate.__new__» ⟨[.type "enumerate", .ref l], []⟩) (fun _ R s => s.heap.get? l = some { cls := .type "tuple", dict := dct, data := .seq items n, slots := sl } ∧
      R (.ok (.ret (.ref (s.heap.push { cls := .type "tuple_iterator", data := .fields #[.ref l, .int 0 0] }).objs.size)))
        { s with heap := (s.heap.push { cls := .type "tuple_iterator", data := .fields #[.ref l, .int 0 0] }).push { cls := .type "enumerate", data := .fields #[.none, .bool false, .ref s.heap.objs.size, rawInt 0, .none, .none] } }) :=
  .of_wp fun prog w A R s h => by
    obtain ⟨hp, g, d, tk, os⟩ := s; obtain ⟨hl, h⟩ := h
    have hsub := sub_enumerate
    have hL : Heap.IsTuple (Shared.heap ⟨hp, g, d, tk, os⟩) l items := ⟨_, hl, rfl, n, rfl⟩
    wp_walk using AutoSeq1.wpAny_loadPart' hl
    refine wpAny_stack_any fun st => wpAny_pure ?_
    split
    · rename_i c _ _ _ _ _
      cases (c == Value.type "enumerate")
      · wp_walk using AutoSeq1.wpAny_loadPart' hl, wpAny_pyIter_tuple hL
        exact ⟨_, rfl, h⟩
      · wp_walk using AutoSeq1.wpAny_loadPart' hl, wpAny_pyIter_tuple hL
        exact ⟨_, rfl, h⟩
    · wp_walk using AutoSeq1.wpAny_loadPart' hl, wpAny_pyIter_tuple hL
      exact ⟨_, rfl, h⟩
section
variable {prog : Program} {w : World} {A : Around} {E : Value → Shared → Prop} {s : Shared}
theorem call_enumT {l : Addr} {items : Array Value} {Q : Value → Shared → Prop} (hL : s.heap.IsTuple l items)
    (h : ∀ h', IsEnum h' (s.heap.objs.size + 1) s.heap.objs.size 0 .none → h'.IsTupleIter s.heap.objs.size l 0 → h'.objs.size = s.heap.objs.size + 2 →
      (∀ b o, s.heap.get? b = some o → h'.get? b = some o) → Q (.ref (s.heap.objs.size + 1)) { s with heap := h' }) :
    wpAny (model prog w) A (call (.type "enumerate") [.ref l]) Q E s := by
  obtain ⟨⟨c, dct, dt, sl⟩, hl, hc, n, hd⟩ := hL
  replace hc : c = .type "tuple" := hc
  replace hd : dt = .seq items n := hd
  subst hc hd
  refine callType_new F.called_enumerate (by decide) (F.typeCall_enumerate_1 _) (F.newCall_enumerate_1 _) (fun obj => F.args_object_init_2 obj _) F.entry_enumerate_new
    (meets_enumT l items n dct sl) ⟨hl, ?_⟩
  have hz : (s.heap.push { cls := .type "tuple_iterator", data := .fields #[.ref l, .int 0 0] }).objs.size = s.heap.objs.size + 1 := Heap.size_push ..
  show _ ∧ _
  rw [hz]
  have he : IsEnum ((s.heap.push { cls := .type "tuple_iterator", data := .fields #[.ref l, .int 0 0] }).push
      { cls := .type "enumerate", data := .fields #[.none, .bool false, .ref s.heap.objs.size, rawInt 0, .none, .none] }) (s.heap.objs.size + 1) s.heap.objs.size 0 .none := by
    have := Heap.get?_push_size (s.heap.push { cls := .type "tuple_iterator", data := .fields #[.ref l, .int 0 0] })
      (o := { cls := .type "enumerate", data := .fields #[.none, .bool false, .ref s.heap.objs.size, rawInt 0, .none, .none] }) rfl
    rw [hz] at this; exact this
  refine ⟨⟨_, he, rfl⟩, h _ he ⟨_, Heap.get?_push_of_some _ (Heap.get?_push_size _ rfl), rfl, rfl⟩ (by rw [Heap.size_push, hz]) fun b o x => Heap.get?_push_of_some _ (Heap.get?_push_of_some _ x)⟩
theorem draws_tup (hh : A.handled = none) (it a : Addr) (items : Array Value) (hne : it ≠ a) : Draws prog w A it [it, a] items.size (fun i v => items[i]? = some v) (fun i h => h.IsTupleIter it a i ∧ h.IsTuple a items) where
  live := fun i h st => let ⟨⟨o, e, _⟩, _⟩ := st; ⟨o, e⟩
  frame := fun i h h' st k => ⟨st.1.at fun o e => k it (by simp) o e, let ⟨o, e, r⟩ := st.2; ⟨o, k a (by simp) o e, r⟩⟩
  item := fun i s Q E hi st hQ => RZ.nextOf_tuple_item st.1 st.2 (Array.getElem?_eq_getElem hi) fun h' h1 h2 => hQ _ h' s.toks (Array.getElem?_eq_getElem hi) ⟨h1, let ⟨o, e, r⟩ := st.2; ⟨o, (h2.2 a (Ne.symm hne)).trans e, r⟩⟩ h2
  done := fun s Q E st hE => RZ.nextOf_tuple_end hh st.1 st.2 (Array.getElem?_eq_none (Nat.le_refl _)) hE
/-- the tuple at a, each item in a new pair -/
def IteT (K : PySem.W.Frag) (a : Addr) : It :=
  ⟨fun i H => ∃ (xs : List V) (x : V), SqT K H a xs ∧ xs[i]? = some x, fun i H v H' => ∃ T x, v = .ref T ∧ H T = none ∧ H' = upd H T (.tup [.int (i : Nat), x]) ∧ ∀ xs, SqT K H a xs → xs[i]? = some x, fun i H => ∃ xs : List V, SqT K H a xs ∧ xs.length = i⟩
theorem turn_enumT {P : Program} {w : World} {K : PySem.W.Frag} {elts : List Expr} {kk : Nat} {tpos : Pos} (a e it : Addr) :
    Turn P w K (.Tuple elts kk tpos) (IteT K a) [e, it] e (fun i h => (∃ old, IsEnum h e it ((i : Nat) : Int) old) ∧ h.IsTupleIter it a i ∧ e ≠ it ∧ e ≠ a ∧ it ≠ a) where
  mem := by simp
  obj := fun i h st b hb => by
    obtain ⟨⟨old, he⟩, ⟨o, ho, hc, hd⟩, _⟩ := st
    have e' : b = e ∨ b = it := by simpa using hb
    rcases e' with z | z
    · rw [z]; exact ⟨_, he, fun v q => nomatch q⟩
    · rw [z]; exact ⟨o, ho, fun v q => by rw [hd] at q; cases q⟩
  keep := fun i h h' st k => let ⟨⟨old, he⟩, hi, hne⟩ := st; ⟨⟨old, k e (by simp) _ he⟩, hi.at fun o q => k it (by simp) o q, hne⟩
  item := by
    intro X hP hw hK hc i pins s σ H E I hf st hg
    subst hP hw hK
    obtain ⟨⟨old, he⟩, hit, hne, hea, hita⟩ := st
    obtain ⟨xs, x, hq, hx⟩ := hg
    obtain ⟨its, rv, p, hz⟩ := I.tuple hq
    obtain ⟨u, hu, ru⟩ := rv.get hx
    have hel : e < s.heap.objs.size := Heap.lt_size he
    have hil : it < s.heap.objs.size := by obtain ⟨_, q, _⟩ := hit; exact Heap.lt_size q
    have hlt : i < its.toArray.size := by
      have := (List.getElem?_eq_some_iff.mp hu).1
      simpa using this
    refine wpAny_pyNext_enum_itemC (draws_tup (prog := X.prog) (w := X.w) (A := X.A.in1) (show X.A.in1.handled = none from I.ok.hd hc) it a its.toArray hita) he ⟨hit, p⟩ hlt hne (by simp [hne, hea]) fun x' h' tk hx' ho hst' hT hsz hk => ?_
    have ex : x' = u := by
      have h1 : its.toArray[i]? = some x' := hx'
      have h2 : its.toArray[i]? = some u := by simpa using hu
      rw [h1] at h2
      exact Option.some.inj h2
    subst ex
    obtain ⟨hit', _⟩ := hst'
    refine ⟨_, rfl, wpAny_letOwnedTupleGo_enum (s := { s with heap := h', toks := tk + 1 }) ho fun h'' he' sb => ?_⟩
    have hT2 : h''.get? s.heap.objs.size = some { cls := .type "tuple", data := .seq #[.int i tk, x'] } := (sb.2 _ (Nat.ne_of_gt hel)).trans hT
    have new : ObjOk X.prog X.w (upd H s.heap.objs.size (.tup [.int (i : Nat), x])) h'' s.heap.objs.size (.tup [.int (i : Nat), x]) :=
      ⟨by show 2 ≤ sizeLine; decide, [.int i tk, x'], .cons ⟨_, rfl⟩ (.cons ru .nil), ⟨_, hT2, rfl, _, rfl⟩⟩
    have I1 : Inv X pins σ (upd H s.heap.objs.size (.tup [.int (i : Nat), x])) { s with heap := h'', toks := tk + 1 } :=
      I.turnedNew (ch := [e, it]) (fun b ob hb q => (sb.2 b (fun z => hb (by simp [z]))).trans (hk b ob (fun z => hb (by simp [z])) (fun z => hb (by simp [z])) q)) hf (Nat.le_refl _) new
    refine ⟨.ref s.heap.objs.size, _, I1, rfl, ⟨_, x, rfl, I.hok.fresh (Nat.le_refl _), rfl, fun ys hy => by rw [I.tuple_inj hy hq]; exact hx⟩, ⟨⟨x', ?_⟩, hit'.at fun o q => (sb.2 it (Ne.symm hne)).trans q, hne, hea, hita⟩, fun b hb => ?_⟩
    · have e1 : ((i + 1 : Nat) : Int) = (i : Int) + 1 := by omega
      rw [e1]; exact he'
    · have hb' : b < s.heap.objs.size := by
        have e' : b = e ∨ b = it := by simpa using hb
        rcases e' with z | z
        · rw [z]; exact hel
        · rw [z]; exact hil
      rw [upd_ne (Nat.ne_of_lt hb')]
      exact (hf b hb).1
  done := by
    intro X hP hw hK hc i pins s σ H E I hf st hg
    subst hP hw hK
    obtain ⟨⟨old, he⟩, hit, hne, hea, hita⟩ := st
    obtain ⟨xs, hq, hx⟩ := hg
    obtain ⟨its, rv, p, hz⟩ := I.tuple hq
    obtain ⟨f0, f1, f2, f3, f4, f5⟩ := hf it (by simp)
    have hl := rv.length
    have e1 : its.toArray.size = i := by simp; omega
    have st' : s.heap.IsTupleIter it a its.toArray.size := by rw [e1]; exact hit
    refine wpAny_pyNext_enum_endD (draws_tup (prog := X.prog) (w := X.w) (A := X.A.in1) (show X.A.in1.handled = none from I.ok.hd hc) it a its.toArray hita) he ⟨st', p⟩ fun h' eb => ⟨rfl, I.turned (t' := s.toks) (fun b o hb q => eb b o hb q) f0 f1 f3 f4 f5⟩
  self := fun A i s Q E st h => let ⟨⟨_, he⟩, _⟩ := st; wpAny_pyIter_enum he h
end
end EV
/-! EvJ: what loops and comprehensions walk (own work). -/
namespace EV
open PySem PySem.Spec PyProof.Rows L2
mutual
theorem eqb_eq : ∀ (x y : D), D.eqb x y = true → x = y
  | .none, y, h => by cases y <;> first | rfl | (simp [D.eqb] at h)
  | .bool a, y, h => by
    cases y <;> simp [D.eqb] at h
    rw [h]
  | .int a, y, h => by
    cases y <;> simp [D.eqb] at h
    rw [h]
  | .str a, y, h => by
    cases y <;> simp [D.eqb] at h
    rw [h]
  | .tup a, y, h => by
    cases y <;> simp [D.eqb] at h
    rw [eqbs_eq _ _ h]
  | .loc a, y, h => by
    cases y <;> simp [D.eqb] at h
    rw [h]
  | .fn a, y, h => by
    cases y <;> simp [D.eqb] at h
    rw [h]
  | .clo _ _ _, y, h => by cases y <;> simp [D.eqb] at h
theorem eqbs_eq : ∀ (xs ys : List D), D.eqbs xs ys = true → xs = ys
  | [], ys, h => by cases ys <;> simp [D.eqbs] at h; rfl
  | x :: xs, ys, h => by
    cases ys <;> simp [D.eqbs] at h
    rw [eqb_eq _ _ h.1, eqbs_eq _ _ h.2]
end
/-- the walk w is what the iterator J yields, from (H, β) on -/
structure JR (L : Lw) (w : Walk) (J : It) (H : Hp) (β : List Addr) : Prop where
  go : ∀ (i : Nat) (d : D) (H1 : Hp) (β1 : List Addr) (S1 : Sto), w.1[i]? = some d → Grow H H1 β β1 → At L.G H1 β1 S1 → still w.2 S1 = true → J.go i H1 ∧ ∀ x H2, J.yld i H1 x H2 → Grow H1 H2 β1 β1 ∧ At L.G H2 β1 S1 ∧ RV L.G H2 β1 d x
  stop : ∀ (H1 : Hp) (β1 : List Addr) (S1 : Sto), Grow H H1 β β1 → At L.G H1 β1 S1 → still w.2 S1 = true → J.stop w.1.length H1
abbrev OfW (L : Lw) (X : Cx) (W : WX) (ev : Env → Sto → M Walk) : TI := Of L X W (fun H β w J => JR L w J H β) ev
section
variable {L : Lw} {H : Hp} {β : List Addr}
/-- the walked list as it stands -/
theorem still_at {k : Nat} {xs : List D} {a : Addr} {H1 : Hp} {β1 : List Addr} {S1 : Sto} (hb : β[k]? = some a) (g : Grow H H1 β β1) (at_ : At L.G H1 β1 S1) (hs : still (some (k, xs)) S1 = true) : ∃ vs, SqL L.G.K H1 a vs ∧ RVs L.G H1 β1 xs vs := by
  simp only [still] at hs
  have r : RV L.G H1 β1 (.loc k) (.ref a) := .loc (get_pre g.pre hb)
  split at hs
  · rename_i ys hk
    have e := eqbs_eq _ _ hs
    subst e
    obtain ⟨a', vs, e, h1, h2⟩ := r.seqAt at_ (.inl hk)
    cases e
    exact ⟨vs, h1, h2⟩
  · rename_i ys hk
    have e := eqbs_eq _ _ hs
    subst e
    obtain ⟨a', vs, e, h1, h2⟩ := r.seqAt at_ (.inr hk)
    cases e
    exact ⟨vs, h1, h2⟩
  · cases hs
theorem SqL.det {K : PySem.W.Frag} {X : Cx} {pins : List (Addr × Obj)} {σ : L2.St} {s : Shared} : True := trivial
theorem jr_list {k : Nat} {xs : List D} {a : Addr} (hb : β[k]? = some a) : JR L (xs, some (k, xs)) (Itl L.G.K a) H β where
  go := fun i d H1 β1 S1 hd g at_ hs => by
    obtain ⟨vs, h1, h2⟩ := still_at hb g at_ hs
    obtain ⟨v, h3, h4⟩ := h2.get hd
    refine ⟨⟨vs, v, h1, h3⟩, fun x H2 ⟨e, hx⟩ => ?_⟩
    subst e
    have := hx vs h1
    rw [h3] at this
    cases this
    exact ⟨Grow.refl, at_, h4⟩
  stop := fun H1 β1 S1 g at_ hs => by
    obtain ⟨vs, h1, h2⟩ := still_at hb g at_ hs
    exact ⟨vs, h1, Nat.le_of_eq h2.length.symm⟩
theorem jr_tup {ds : List D} {vs : List V} {a : Addr} (h : SqT L.G.K H a vs) (r : RVs L.G H β ds vs) : JR L (ds, none) (Itt L.G.K a) H β where
  go := fun i d H1 β1 S1 hd g at_ _ => by
    have r1 := r.grow g
    obtain ⟨v, h3, h4⟩ := r1.get hd
    refine ⟨⟨vs, v, SqT.grow g h, h3⟩, fun x H2 ⟨e, hx⟩ => ?_⟩
    subst e
    have := hx vs (SqT.grow g h)
    rw [h3] at this
    cases this
    exact ⟨Grow.refl, at_, h4⟩
  stop := fun H1 β1 S1 g at_ _ => ⟨vs, SqT.grow g h, Nat.le_of_eq r.length.symm⟩
theorem jr_str {z : Str} : JR L (z.cps.toList.map fun c => .str ⟨#[c]⟩, none) (Its z) H β where
  go := fun i d H1 β1 S1 hd g at_ _ => by
    simp only [List.getElem?_map, Option.map_eq_some_iff] at hd
    obtain ⟨c, h1, rfl⟩ := hd
    have h2 : z.cps[i]? = some c := by simpa using h1
    refine ⟨(Array.getElem?_eq_some_iff.mp h2).1, fun x H2 ⟨e, c', hc, hx⟩ => ?_⟩
    subst e
    rw [h2] at hc
    cases hc
    subst hx
    exact ⟨Grow.refl, at_, .str _⟩
  stop := fun H1 β1 S1 g at_ _ => by
    show z.cps.size ≤ (z.cps.toList.map _).length
    simp
theorem jr_rng {lo : Int} {n : Nat} : JR L (rngs lo n, none) (Itr lo n) H β where
  go := fun i d H1 β1 S1 hd g at_ _ => by
    have hlt : i < n := by
      have := (List.getElem?_eq_some_iff.mp hd).1
      simpa [rngs] using this
    refine ⟨hlt, fun x H2 ⟨e, hx⟩ => ?_⟩
    subst e
    subst hx
    have : d = .int (lo + (i : Int)) := by
      simp only [rngs, List.getElem?_map, Option.map_eq_some_iff] at hd
      obtain ⟨j, h1, rfl⟩ := hd
      rw [List.getElem?_range hlt] at h1
      cases h1
      rfl
    subst this
    exact ⟨Grow.refl, at_, .int _⟩
  stop := fun H1 β1 S1 g at_ _ => by
    show n ≤ (rngs lo n).length
    simp [rngs]
theorem enums_get {ds : List D} {i : Nat} {d : D} (h : (enums ds)[i]? = some d) : ∃ x, ds[i]? = some x ∧ d = .tup [.int (i : Nat), x] := by
  simp only [enums, List.getElem?_map, Option.map_eq_some_iff] at h
  obtain ⟨⟨x, j⟩, h1, rfl⟩ := h
  rw [List.getElem?_zipIdx] at h1
  simp only [Nat.zero_add, Option.map_eq_some_iff, Prod.mk.injEq] at h1
  obtain ⟨y, h2, rfl, rfl⟩ := h1
  exact ⟨y, h2, rfl⟩
theorem new_pair {H1 : Hp} {β1 : List Addr} {S1 : Sto} {T : Addr} {x y : D} {v u : V} (at_ : At L.G H1 β1 S1) (hT : H1 T = none) (rx : RV L.G H1 β1 x v) (ry : RV L.G H1 β1 y u) :
    Grow H1 (upd H1 T (.tup [v, u])) β1 β1 ∧ At L.G (upd H1 T (.tup [v, u])) β1 S1 ∧ RV L.G (upd H1 T (.tup [v, u])) β1 (.tup [x, y]) (.ref T) :=
  ⟨Grow.new hT, at_.tup hT (at_.fresh hT), .tup (SqT.of upd_same) (.cons (rx.grow (Grow.new hT)) (.cons (ry.grow (Grow.new hT)) .nil))⟩
theorem jr_enumL {k : Nat} {xs : List D} {a : Addr} (hb : β[k]? = some a) : JR L (enums xs, some (k, xs)) (Ite L.G.K a) H β where
  go := fun i d H1 β1 S1 hd g at_ hs => by
    obtain ⟨vs, h1, h2⟩ := still_at hb g at_ hs
    obtain ⟨y, hy, rfl⟩ := enums_get hd
    obtain ⟨v, h3, h4⟩ := h2.get hy
    refine ⟨⟨vs, v, h1, h3⟩, fun x H2 ⟨T, u, ex, hT, eH, hx⟩ => ?_⟩
    subst ex
    subst eH
    have := hx vs h1
    rw [h3] at this
    cases this
    exact new_pair at_ hT (.int _) h4
  stop := fun H1 β1 S1 g at_ hs => by
    obtain ⟨vs, h1, h2⟩ := still_at hb g at_ hs
    exact ⟨vs, h1, Nat.le_of_eq (by simp [enums, h2.length])⟩
theorem jr_enumT {ds : List D} {vs : List V} {a : Addr} (h : SqT L.G.K H a vs) (r : RVs L.G H β ds vs) : JR L (enums ds, none) (IteT L.G.K a) H β where
  go := fun i d H1 β1 S1 hd g at_ _ => by
    have r1 := r.grow g
    obtain ⟨y, hy, rfl⟩ := enums_get hd
    obtain ⟨v, h3, h4⟩ := r1.get hy
    refine ⟨⟨vs, v, SqT.grow g h, h3⟩, fun x H2 ⟨T, u, ex, hT, eH, hx⟩ => ?_⟩
    subst ex
    subst eH
    have := hx vs (SqT.grow g h)
    rw [h3] at this
    cases this
    exact new_pair at_ hT (.int _) h4
  stop := fun H1 β1 S1 g at_ _ => ⟨vs, SqT.grow g h, by simp [enums, r.length]⟩
theorem jr_zip {ds es : List D} {vs us : List V} {a b : Addr} (h : SqT L.G.K H a vs) (r : RVs L.G H β ds vs) (h' : SqT L.G.K H b us) (r' : RVs L.G H β es us) : JR L ((ds.zip es).map fun p => D.tup [p.1, p.2], none) (RZ.ItzT L.G.K a b) H β where
  go := fun i d H1 β1 S1 hd g at_ _ => by
    have r1 := r.grow g
    have r2 := r'.grow g
    simp only [List.getElem?_map, Option.map_eq_some_iff] at hd
    obtain ⟨⟨y, z⟩, h1, rfl⟩ := hd
    rw [List.getElem?_zip_eq_some] at h1
    obtain ⟨v, h3, h4⟩ := r1.get h1.1
    obtain ⟨u, h5, h6⟩ := r2.get h1.2
    refine ⟨⟨vs, us, v, u, SqT.grow g h, SqT.grow g h', h3, h5⟩, fun x H2 ⟨T, v', u', ex, hT, eH, hx, hy⟩ => ?_⟩
    subst ex
    subst eH
    have e1 := hx vs (SqT.grow g h)
    rw [h3] at e1
    cases e1
    have e2 := hy us (SqT.grow g h')
    rw [h5] at e2
    cases e2
    exact new_pair at_ hT h4 h6
  stop := fun H1 β1 S1 g at_ _ => by
    refine ⟨vs, us, SqT.grow g h, SqT.grow g h', ?_⟩
    simp only [List.length_map, List.length_zip, r.length, r'.length]
    omega
end
end EV
/-! EvK: iterables (own work). -/
namespace EV
open PySem PySem.Spec PyProof.Rows L2
section
variable {L : Lw} {X : Cx} {W : WX} {cf : Cf} {sc : Scope} {tg e e2 : Expr} {A B : E} {p pos : Pos}
/-- the iterator of a value that walkOf tells -/
theorem iter_of {pins : List (Addr × Obj)} {σ : L2.St} {H : Hp} {β : List Addr} {s : Shared} {S : Sto} {x : D} {v : V} {u : Value} {w : Walk} {R : It → Hp → Prop} (fa : Fa L X) (I : Inv X pins σ H s) (at_ : At L.G H β S) (rx : RV L.G H β x v) (ru : RelV v u) (hw : walkOf x S = some w)
    (q : ∀ J, JR L w J H β → R J H) : wpAny (model X.prog X.w) X.A (pyIter u) (PIE X pins σ tg R) X.xe s := by
  cases x with
  | tup ds =>
    cases hw
    cases rx with
    | @tup a vs _ h1 r1 =>
      cases ru
      obtain ⟨its, rv, pl, hz⟩ := I.tuple (fa.K ▸ h1)
      refine wpAny_pyIter_tuple (show s.heap.IsTuple a its.toArray from pl) ?_
      exact pi_one (tk := s.toks) I _ (turn_tuple a _) ⟨_, Heap.get?_push_size _ rfl, rfl, rfl⟩ (q _ (fa.K ▸ jr_tup h1 r1))
  | str z =>
    cases hw
    cases rx
    obtain ⟨t, rfl⟩ := ru
    cases ha : z.cps.all (· < 128)
    · exact wpAny_pyIter_wide ha (pi_one (tk := s.toks) I _ (turn_str _ z t "str_iterator" (.inr rfl)) ⟨_, Heap.get?_push_size _ rfl, rfl, rfl⟩ (q _ jr_str))
    · exact wpAny_pyIter_ascii ha (pi_one (tk := s.toks) I _ (turn_str _ z t "str_ascii_iterator" (.inl rfl)) ⟨_, Heap.get?_push_size _ rfl, rfl, rfl⟩ (q _ jr_str))
  | loc k =>
    have key : ∀ xs, (S.get k = some (.lst xs) ∨ S.get k = some (.ro xs)) → w = (xs, some (k, xs)) → wpAny (model X.prog X.w) X.A (pyIter u) (PIE X pins σ tg R) X.xe s := fun xs hk hw => by
      subst hw
      obtain ⟨a, vs, rfl, h1, r1⟩ := rx.seqAt at_ hk
      cases rx with
      | loc hb =>
        cases ru
        obtain ⟨its, rv, pl, hz⟩ := I.list (fa.K ▸ h1)
        refine wpAny_pyIter_list pl.isList ?_
        exact pi_one (tk := s.toks) I _ (turn_list a _) ⟨_, Heap.get?_push_size _ rfl, rfl, rfl⟩ (q _ (fa.K ▸ jr_list hb))
    simp only [walkOf] at hw
    split at hw
    · rename_i xs hk
      cases hw
      exact key xs (.inl hk) rfl
    · rename_i xs hk
      cases hw
      exact key xs (.inr hk) rfl
    · cases hw
  | _ => cases hw
theorem arm_srE (fa : Fa L X) (ha : PE X e (OfE L X W (evE L.G.con cf A))) : PI X tg e (OfW L X W (evSr L.G.con cf (.e A))) := by
  refine ⟨fun pins s σ H R I h => ?_⟩
  obtain ⟨ρ, S, β, er, at_, h⟩ := h
  simp only [evSr] at h
  refine thn (ha.run pins s σ H (fun v H1 => ∃ x S1 β1 w, At L.G H1 β1 S1 ∧ RV L.G H1 β1 x v ∧ walkOf x S1 = some w ∧ ∀ J, JR L w J H1 β1 → R J H1) I ⟨ρ, S, β, er, at_, RW.step h fun x S1 h v H1 β1 g at1 rx => ?_⟩) fun u s1 ⟨v, H1, I1, ru, x, S1, β1, w, at1, rx, hw, q⟩ => iter_of fa I1 at1 rx ru hw q
  obtain ⟨w, hw, q⟩ := RW.ofO (RW.grow g h)
  exact ⟨x, S1, β1, w, at1, rx, hw, fun J hj => q J H1 β1 Grow.refl at1 hj⟩
theorem arm_rng1 (fa : Fa L X) (hs : X.env.scope = sc) (hg : gloB sc ("range" : Str) = true) (st : NoStar X e) (ha : PE X e (OfE L X W (evE L.G.con cf A))) : PI X tg (.Call (.Name ("range" : Str) p) [e] [] pos) (OfW L X W (evSr L.G.con cf (.rng1 A))) := by
  refine (pi_range1 (glo_of hs hg) (fa.bt _ (by decide +kernel)) (pa_cons ha pa_nil (st _)) (st [])).imp fun σ H R h => ?_
  obtain ⟨ρ, S, β, er, at_, h⟩ := h
  simp only [evSr] at h
  refine ⟨ρ, S, β, er, at_, RW.step h fun x S1 h v H1 β1 g at1 rx => ?_⟩
  have h := RW.grow g h
  cases x with
  | int i =>
    simp only [rng1] at h
    cases rx
    by_cases hr : rngOk i = true
    · rw [if_pos hr] at h
      have := rngOk_of hr
      exact ⟨i, rfl, this.1, this.2, h _ H1 β1 Grow.refl at1 jr_rng⟩
    · rw [if_neg hr] at h
      exact h.elim
  | _ => exact h.elim
theorem arm_rng2 (fa : Fa L X) (hs : X.env.scope = sc) (hg : gloB sc ("range" : Str) = true) (st : NoStar X e) (st2 : NoStar X e2) (ha : PE X e (OfE L X W (evE L.G.con cf A))) (hb : PE X e2 (OfE L X W (evE L.G.con cf B))) : PI X tg (.Call (.Name ("range" : Str) p) [e, e2] [] pos) (OfW L X W (evSr L.G.con cf (.rng2 A B))) := by
  refine (pi_range2 (glo_of hs hg) (fa.bt _ (by decide +kernel)) (pa_cons ha (pa_cons hb pa_nil (st2 _)) (st _)) (by rw [st, st2]; rfl) (st2 [])).imp fun σ H R h => ?_
  obtain ⟨ρ, S, β, er, at_, h⟩ := h
  simp only [evSr] at h
  refine ⟨ρ, S, β, er, at_, RW.step h fun x S1 h v H1 β1 g at1 rx => ?_⟩
  refine ⟨ρ, S1, β1, er.grow g, at1, RW.step (RW.grow g h) fun y S2 h u H2 β2 g2 at2 ry => ?_⟩
  have h := RW.grow g2 h
  have key : ∀ i j, x = .int i → y = .int j → ∃ i j : Int, [v, u] = [.int i, .int j] ∧ (-(2 ^ 62) ≤ i ∧ i < 2 ^ 62 ∧ -(2 ^ 62) ≤ j ∧ j < 2 ^ 62) ∧ R (Itr i (j - i).toNat) H2 := fun i j ex ey => by
    subst ex
    subst ey
    simp only [rng2] at h
    cases rx
    cases ry
    by_cases hr : (rngOk i && rngOk j) = true
    · rw [if_pos hr] at h
      rw [Bool.and_eq_true] at hr
      have h1 := rngOk_of hr.1
      have h2 := rngOk_of hr.2
      exact ⟨i, j, rfl, ⟨h1.1, h1.2, h2.1, h2.2⟩, h _ H2 β2 Grow.refl at2 jr_rng⟩
    · rw [if_neg hr] at h
      exact h.elim
  cases x with
  | int i => cases y with
    | int j => exact key i j rfl rfl
    | _ => exact h.elim
  | _ => exact h.elim
variable {elts : List Expr} {kk : Nat} {tpos : Pos}
theorem arm_enum (fa : Fa L X) (hs : X.env.scope = sc) (hg : gloB sc ("enumerate" : Str) = true) (st : NoStar X e) (ha : PE X e (OfE L X W (evE L.G.con cf A))) : PI X (.Tuple elts kk tpos) (.Call (.Name ("enumerate" : Str) p) [e] [] pos) (OfW L X W (evSr L.G.con cf (.enum A))) := by
  refine ⟨fun pins s σ H R I h => ?_⟩
  obtain ⟨ρ, S, β, er, at_, h⟩ := h
  simp only [evSr] at h
  refine Call_ (ld_blt I (glo_of hs hg) (fa.bt _ (by decide +kernel)) boot_enumerate (PyProof.Rows.callWith_type1 (thn ((pa_cons ha pa_nil (st _)).run pos pins s σ H (fun vs H1 => ∃ v x S1 β1, vs = [v] ∧ At L.G H1 β1 S1 ∧ RV L.G H1 β1 x v ∧ RW (enumW x S1) (KG L.G (fun H β w J => JR L w J H β) H1 β1 R) fun _ _ => True) I ?_) fun us s1 ⟨vs, H1, I1, r1, q1⟩ => ?_) (st []) rfl))
  · exact ⟨ρ, S, β, er, at_, RW.step h fun x S1 h v H1 β1 g at1 rx => ⟨v, x, S1, β1, rfl, at1, rx, (RW.grow g h).mono (fun _ _ q => q) fun _ _ _ => trivial⟩⟩
  · obtain ⟨v, x, S1, β1, rfl, at1, rx, q⟩ := q1
    obtain ⟨u, rfl, ru⟩ := vals1 r1
    have fin2 : ∀ b : Addr, b ∈ [s1.heap.objs.size + 1, s1.heap.objs.size] → FpOk X pins H1 b := fun b hb => by
      have e' : b = s1.heap.objs.size + 1 ∨ b = s1.heap.objs.size := by simpa using hb
      have hle : s1.heap.objs.size ≤ b := by
        rcases e' with z | z
        · rw [z]; exact Nat.le_add_right _ _
        · rw [z]; exact Nat.le_refl _
      exact I1.fpOk hle (I1.hok.fresh hle)
    cases x with
    | tup ds =>
      cases rx with
      | @tup a vs _ h1 rr1 =>
        cases ru
        obtain ⟨its, rv, pl, hz⟩ := I1.tuple (fa.K ▸ h1)
        have hal : a < s1.heap.objs.size := by obtain ⟨o, ho, _⟩ := pl; exact Heap.lt_size ho
        refine call_enumT (show s1.heap.IsTuple a its.toArray from pl) fun h' he hit hsz hk => wpAny_pyIter_enum he ?_
        exact ⟨s1.heap.objs.size + 1, [s1.heap.objs.size + 1, s1.heap.objs.size], _, _, H1, rfl, I1.kept (t' := s1.toks) hk, turn_enumT a (s1.heap.objs.size + 1) s1.heap.objs.size, ⟨⟨.none, he⟩, hit, Nat.succ_ne_self _, Nat.ne_of_gt (Nat.lt_succ_of_lt hal), Nat.ne_of_gt hal⟩, fin2, q _ H1 β1 Grow.refl at1 (fa.K ▸ jr_enumT h1 rr1)⟩
    | loc k =>
      have key : ∀ xs, (S1.get k = some (.lst xs) ∨ S1.get k = some (.ro xs)) → (∀ J, JR L (enums xs, some (k, xs)) J H1 β1 → R J H1) → wpAny (model X.prog X.w) X.A (call (.type "enumerate") [u]) (fun v s2 => wpAny (model X.prog X.w) X.A (pyIter v) (PIE X pins σ (.Tuple elts kk tpos) R) X.xe s2) X.xe s1 := fun xs hk q => by
        obtain ⟨a, vs, rfl, h1, r1⟩ := rx.seqAt at1 hk
        cases rx with
        | loc hb =>
          cases ru
          obtain ⟨its, rv, pl, hz⟩ := I1.list (fa.K ▸ h1)
          refine call_enumerate_list pl.isList fun h' he hit hsz hk => wpAny_pyIter_enum he ?_
          exact ⟨s1.heap.objs.size + 1, [s1.heap.objs.size + 1, s1.heap.objs.size], _, _, H1, rfl, I1.kept (t' := s1.toks) hk, turn_enum a (s1.heap.objs.size + 1) s1.heap.objs.size, ⟨⟨.none, he⟩, hit, Nat.succ_ne_self _⟩, fin2, q _ (fa.K ▸ jr_enumL hb)⟩
      simp only [enumW, walkOf] at q
      cases hk : S1.get k with
      | none => rw [hk] at q; exact q.elim
      | some o =>
        rw [hk] at q
        cases o with
        | lst xs => exact key xs (.inl hk) fun J hj => q J H1 β1 Grow.refl at1 hj
        | ro xs => exact key xs (.inr hk) fun J hj => q J H1 β1 Grow.refl at1 hj
        | dct _ => exact q.elim
        | tset _ => exact q.elim
        | iset _ => exact q.elim
    | _ => exact q.elim
theorem arm_zip (fa : Fa L X) (hs : X.env.scope = sc) (hg : gloB sc ("zip" : Str) = true) (st : NoStar X e) (st2 : NoStar X e2) (ha : PE X e (OfE L X W (evE L.G.con cf A))) (hb : PE X e2 (OfE L X W (evE L.G.con cf B))) :
    PI X (.Tuple elts kk tpos) (.Call (.Name ("zip" : Str) p) [e, e2] [] pos) (OfW L X W (evSr L.G.con cf (.zip A B))) := by
  refine (RZ.pi_zipA (glo_of hs hg) (fa.bt _ (by decide +kernel)) (pa_cons ha (pa_cons hb pa_nil (st2 _)) (st _)) (st _) (by rw [st2]; rfl)).imp fun σ H R h => ?_
  obtain ⟨ρ, S, β, er, at_, h⟩ := h
  simp only [evSr] at h
  refine ⟨ρ, S, β, er, at_, RW.step h fun x S1 h v H1 β1 g at1 rx => ?_⟩
  refine ⟨ρ, S1, β1, er.grow g, at1, RW.step (RW.grow g h) fun y S2 h u H2 β2 g2 at2 ry => ?_⟩
  have h := RW.grow g2 h
  unfold zipW at h
  split at h
  · rename_i ds es
    have rx := rx.grow g2
    cases rx with
    | @tup a vs _ h1 r1 =>
      cases ry with
      | @tup b us _ h2 r2 =>
        exact ⟨a, b, vs, us, rfl, .inr ⟨fa.K ▸ h1, fa.K ▸ h2, h _ H2 β2 Grow.refl at2 (fa.K ▸ jr_zip h1 r1 h2 r2)⟩⟩
  · exact h.elim
end
end EV
/-! EvL: targets (own work). -/
namespace EV
open PySem PySem.Spec PyProof.Rows L2
/-- a relation of the names' values, kept by a store at a slot that is let -/
structure Sets (L : Lw) (P : Nat → Prop) (R : Hp → List Addr → Env → L2.St → Prop) : Prop where
  set : ∀ (H : Hp) (β : List Addr) (ρ : Env) (σ : L2.St) (d : D) (v : V) (i : Nat), P i → R H β ρ σ → RV L.G H β d v → R H β (ρ.set i (some d)) (σ.set i (some v))
def gOf (L : Lw) (P : Nat → Prop) (t : Tg) : TG := fun v σ H Q => ∃ R, Sets L P R ∧ ∃ d ρ ρ' S β, RV L.G H β d v ∧ R H β ρ σ ∧ At L.G H β S ∧ asg t d ρ = some ρ' ∧ ∀ σ', R H β ρ' σ' → Q σ' H
def gsOf (L : Lw) (P : Nat → Prop) (ts : Tgs) : TGs := fun vs σ H Q => ∃ R, Sets L P R ∧ ∃ ds ρ ρ' S β, RVs L.G H β ds vs ∧ R H β ρ σ ∧ At L.G H β S ∧ asgs ts ds ρ = some ρ' ∧ ∀ σ', R H β ρ' σ' → Q σ' H
section
variable {L : Lw} {X : Cx} {P : Nat → Prop} {C : Cc} {sc : Scope}
theorem arm_tgs {f : Expr → Option Tg} (hf : ∀ e t, f e = some t → (∀ i ∈ t.slots, P i) → PG X e (gOf L P t) ∧ ∀ rest, (assignEach (e :: rest) X.env) = (false, assign e X.env) :: assignEach rest X.env) : ∀ (es : List Expr) (ts : List Tg), es.mapM f = some ts → (∀ i ∈ (tgsOf ts).slots, P i) →
    PGs X es (gsOf L P (tgsOf ts)) ∧ (assignEach es X.env).length = es.length ∧ (assignEach es X.env).findIdx? (·.1) = none ∧ es.length = ts.length
  | [], ts, h, _ => by
    simp at h
    subst h
    refine ⟨⟨fun pins s σ H vs us Q I r hw => ?_⟩, rfl, rfl, rfl⟩
    obtain ⟨R, hR, ds, ρ, ρ', S, β, rv, er, at_, e, q⟩ := hw
    cases ds with
    | cons _ _ => cases e
    | nil =>
      cases rv
      cases e
      exact pgs_nil.run pins s σ H [] us Q I r ⟨rfl, q σ er⟩
  | e :: es, ts, h, hp => by
    simp only [List.mapM_cons, bind, Option.bind_eq_some_iff, pure, Option.some.injEq] at h
    obtain ⟨t1, h1, tr, h2, rfl⟩ := h
    obtain ⟨p1, st⟩ := hf e t1 h1 fun i hi => hp i (by simp only [tgsOf, Tgs.slots]; exact List.mem_append_left _ hi)
    obtain ⟨p2, q1, q2, q3⟩ := arm_tgs hf es tr h2 fun i hi => hp i (by simp only [tgsOf, Tgs.slots]; exact List.mem_append_right _ hi)
    refine ⟨⟨fun pins s σ H vs us Q I r hw => ?_⟩, ?_, ?_, by simp [q3]⟩
    · obtain ⟨R, hR, ds, ρ, ρ', S, β, rv, er, at_, ea, q⟩ := hw
      cases rv with
      | nil => cases ea
      | @cons d v dr vr rd rr =>
        simp only [tgsOf, asgs] at ea
        split at ea
        · rename_i ρ1 e1
          refine (pgs_cons p1 p2 (by rw [st]; rfl)).run pins s σ H _ us Q I r ⟨v, vr, rfl, R, hR, d, ρ, ρ1, S, β, rd, er, at_, e1, fun σ1 er1 => ?_⟩
          exact ⟨R, hR, dr, ρ1, ρ', S, β, rr, er1, at_, ea, q⟩
        · cases ea
    · rw [st]; simp [q1]
    · rw [st]
      simp only [List.findIdx?_cons, Bool.false_eq_true, if_false, q2]
      rfl
theorem tgsOf_len {ts : List Tg} {ds : List D} {ρ ρ' : Env} (h : asgs (tgsOf ts) ds ρ = some ρ') : ds.length = ts.length := by
  induction ts generalizing ds ρ with
  | nil => cases ds with
    | nil => rfl
    | cons _ _ => cases h
  | cons t ts ih => cases ds with
    | nil => cases h
    | cons d ds =>
      simp only [tgsOf, asgs] at h
      split at h
      · simp [ih h]
      · cases h
theorem arm_tg (K : X.K = L.G.K) (nd : X.N.Nodup) (calm : X.calm = true) (hN : X.N = C.N) (htg : ∀ x, locB sc x = true → Loc X.env.scope x ∧ (X.fn x = true ∨ X.env.scope.names.lookup x = some .local)) : ∀ (n : Nat) (e : Expr) (t : Tg), cTg C sc n e = some t → (∀ i ∈ t.slots, P i) → PG X e (gOf L P t) ∧ ∀ rest, (assignEach (e :: rest) X.env) = (false, assign e X.env) :: assignEach rest X.env
  | 0, e, t, h, _ => by cases h
  | n + 1, e, t, h, hp => by
    cases e with
    | Name x p =>
      refine ⟨?_, fun _ => rfl⟩
      simp only [cTg] at h
      split at h
      · rename_i hb
        rw [Bool.and_eq_true] at hb
        simp only [Option.map_eq_some_iff] at h
        obtain ⟨i, h1, rfl⟩ := h
        obtain ⟨l1, l2⟩ := htg x hb.1
        refine (pg_name nd (by rw [hN]; exact slot_of h1) l1 l2).imp fun v σ H Q h => ?_
        obtain ⟨R, hR, d, ρ, ρ', S, β, rv, er, at_, e, q⟩ := h
        cases e
        exact q _ (hR.set H β ρ σ d v i (hp i (by simp [Tg.slots])) er rv)
      · cases h
    | Tuple ts k p =>
      refine ⟨?_, fun _ => rfl⟩
      simp only [cTg, Option.map_eq_some_iff] at h
      obtain ⟨r, h1, rfl⟩ := h
      obtain ⟨p1, q1, q2, q3⟩ := arm_tgs (P := P) (fun e t he hp => arm_tg K nd calm hN htg n e t he hp) ts r h1 fun i hi => hp i (by simp only [Tg.slots]; exact hi)
      refine (pg_tup calm p1 q1 q2).imp fun v σ H Q h => ?_
      obtain ⟨R, hR, d, ρ, ρ', S, β, rv, er, at_, e, q⟩ := h
      cases d with
      | tup ds =>
        cases rv with
        | @tup a vs _ h1 r1 =>
          simp only [asg] at e
          exact ⟨a, vs, rfl, K ▸ h1, by rw [← r1.length, tgsOf_len e, q3], R, hR, ds, ρ, ρ', S, β, r1, er, at_, e, q⟩
      | _ => cases e
    | _ => cases h
theorem sets_er : Sets L P (ER L.G L.fnN L.conN X) := ⟨fun H β ρ σ d v i _ er r => er.set i r⟩
end
end EV
/-! EvM: list and dict comprehensions (own work). -/
namespace EV
open PySem PySem.Spec PyProof.Rows L2
/-! ### the names' values within a block: no lambda -/
structure ER0 (L : Lw) (ba : Heap) (cv : Value) (H : Hp) (β : List Addr) (ρ : Env) (σ : L2.St) : Prop where
  len : ρ.length = σ.length
  code : CodeV ba cv H
  at_ : ∀ (i : Nat) (d : D), ρ[i]? = some (some d) → ∃ v, σ[i]? = some (some v) ∧ RV L.G H β d v
section
variable {L : Lw} {ba : Heap} {cv : Value} {H H' : Hp} {β β' : List Addr} {ρ : Env} {σ : L2.St}
theorem ER0.er {X : Cx} (eb : X.base = ba) (ec : X.env.code = cv) (h : ER0 L ba cv H β ρ σ) : ER L.G L.fnN L.conN X H β ρ σ := ⟨h.len, eb ▸ ec ▸ h.code, fun i d e => let ⟨v, e1, r⟩ := h.at_ i d e; ⟨v, e1, .inl r⟩⟩
theorem ER0.grow (g : Grow H H' β β') (h : ER0 L ba cv H β ρ σ) : ER0 L ba cv H' β' ρ σ := ⟨h.len, h.code.grow g, fun i d e => let ⟨v, e1, r⟩ := h.at_ i d e; ⟨v, e1, r.grow g⟩⟩
theorem ER0.set {d : D} {v : V} (i : Nat) (h : ER0 L ba cv H β ρ σ) (r : RV L.G H β d v) : ER0 L ba cv H β (ρ.set i (some d)) (σ.set i (some v)) := by
  refine ⟨by simp [h.len], h.code, fun j d' e => ?_⟩
  by_cases hij : i = j
  · subst hij
    have hl : i < ρ.length := by have := (List.getElem?_eq_some_iff.mp e).1; simpa using this
    rw [List.getElem?_set_self hl] at e
    cases e
    exact ⟨v, List.getElem?_set_self (by rw [← h.len]; exact hl), r⟩
  · rw [List.getElem?_set_ne hij] at e ⊢
    exact h.at_ j d' e
theorem noClo_get {ρ : Env} {i : Nat} {d : D} (h : (noClo ρ)[i]? = some (some d)) : ρ[i]? = some (some d) ∧ d.isClo = false := by
  simp only [noClo, List.getElem?_map, Option.map_eq_some_iff] at h
  obtain ⟨o, h1, h2⟩ := h
  cases o with
  | none => cases h2
  | some d' =>
    cases d' <;> first
      | (cases h2; done)
      | (cases h2; exact ⟨h1, rfl⟩)
theorem er_block {X : Cx} (h : ER L.G L.fnN L.conN X H β ρ σ) (own : List Nat) : ER0 L X.base X.env.code H β (wipe (noClo ρ) own) (L2.wipe σ own) := by
  refine ⟨by rw [wipe_len, L2.wipe_length]; simp [noClo, h.len], h.code, fun i d e => ?_⟩
  rw [wipe_get] at e
  split at e
  · split at e <;> cases e
  · rename_i hi
    obtain ⟨e1, e2⟩ := noClo_get e
    obtain ⟨v, e3, r⟩ := h.at_ i d e1
    refine ⟨v, by rw [wipeS_get, if_neg hi]; exact e3, ?_⟩
    rcases r with r | ⟨_, r⟩
    · exact r
    · cases d with
      | clo _ _ _ => cases e2
      | _ => exact r.elim
theorem wipe_set {σ : L2.St} {i : Nat} {o : Option V} {vs : List Nat} (hi : i ∈ vs) : L2.wipe (σ.set i o) vs = L2.wipe σ vs := by
  apply List.ext_getElem?
  intro j
  rw [wipeS_get, wipeS_get]
  split
  · simp
  · rename_i hj
    have : i ≠ j := fun e => hj (e ▸ hi)
    rw [List.getElem?_set_ne this]
theorem wipe_wipe (σ : L2.St) (vs : List Nat) : L2.wipe (L2.wipe σ vs) vs = L2.wipe σ vs := by
  apply List.ext_getElem?
  intro j
  rw [wipeS_get, wipeS_get, L2.wipe_length]
  split <;> rfl
/-- what holds within a block's turn -/
def RB (L : Lw) (ba : Heap) (cv : Value) (σ0 : L2.St) (vs : List Nat) (H : Hp) (β : List Addr) (ρ : Env) (σ : L2.St) : Prop := ER0 L ba cv H β ρ σ ∧ L2.wipe σ vs = L2.wipe σ0 vs
theorem sets_rb (σ0 : L2.St) (vs : List Nat) : Sets L (· ∈ vs) (RB L ba cv σ0 vs) := ⟨fun H β ρ σ d v i hi h r => ⟨h.1.set i r, by rw [wipe_set hi]; exact h.2⟩⟩
end
/-- a reading within a block -/
def Of0 (L : Lw) (ba : Heap) (cv : Value) {α ω : Type} (rel : Hp → List Addr → α → ω → Prop) (ev : Env → Sto → M α) (σ : L2.St) (H : Hp) (k : ω → Hp → Prop) : Prop :=
  ∃ (ρ : Env) (S : Sto) (β : List Addr), ER0 L ba cv H β ρ σ ∧ At L.G H β S ∧ RW (ev ρ S) (KG L.G rel H β k) (fun _ _ => False)
theorem Of0.of {L : Lw} {X : Cx} {W : WX} {ba : Heap} {cv : Value} (eb : X.base = ba) (ec : X.env.code = cv) {α ω : Type} {rel : Hp → List Addr → α → ω → Prop} {ev : Env → Sto → M α} {σ : L2.St} {H : Hp} {k : ω → Hp → Prop} (h : Of0 L ba cv rel ev σ H k) : Of L X W rel ev σ H k := by
  obtain ⟨ρ, S, β, er, at_, h⟩ := h
  exact ⟨ρ, S, β, er.er eb ec, at_, h.mono (fun _ _ q => q) fun _ _ q => q.elim⟩
abbrev OfE0 (L : Lw) (ba : Heap) (cv : Value) (ev : Env → Sto → M D) : TE := Of0 L ba cv (RV L.G) ev
abbrev OfT0 (L : Lw) (ba : Heap) (cv : Value) (ev : Env → Sto → M Bool) : TT := Of0 L ba cv (fun _ _ (a b : Bool) => a = b) ev
section
variable {L : Lw} {X : Cx} {W : WX} {cf : Cf}
/-- tests, from the left -/
theorem tests_of {f : Expr → Option E} (hf : ∀ e E, f e = some E → PT X e (OfT L X W (evT L.G.con cf E))) : ∀ (ifs : List Expr) (Es : List E), ifs.mapM f = some Es → PTs X ifs (OfT L X W (evIfs L.G.con cf (esOf Es)))
  | [], Es, h => by
    simp at h
    subst h
    refine ⟨fun pins s σ H Q I h => pts_nil.run pins s σ H Q I ?_⟩
    obtain ⟨ρ, S, β, er, at_, h⟩ := h
    exact h true H β Grow.refl at_ rfl
  | e :: es, Es, h => by
    simp only [List.mapM_cons, bind, Option.bind_eq_some_iff, pure, Option.some.injEq] at h
    obtain ⟨E1, h1, Er, h2, rfl⟩ := h
    have p1 := hf e E1 h1
    have p2 := tests_of hf es Er h2
    refine ⟨fun pins s σ H Q I h => ?_⟩
    obtain ⟨ρ, S, β, er, at_, h⟩ := h
    simp only [esOf, evIfs] at h
    rw [← M.assoc] at h
    rw [List.forIn_cons]
    refine wpAny_bind ?_
    rw [if_pos rfl]
    refine wpAny_bind (thn (p1.run pins s σ H (fun b H1 => ∃ S1 β1, Grow H H1 β β1 ∧ At L.G H1 β1 S1 ∧ RW (if b then evIfs L.G.con cf (esOf Er) ρ S1 else .ok false S1) (KG L.G (fun _ _ (a b : Bool) => a = b) H1 β1 Q) (KX L.G L.cad H1 β1 fun c d H' => W c d σ H')) I ?_) fun b s1 ⟨H1, I1, S1, β1, g, at1, q⟩ => wpAny_pure ?_)
    · exact ⟨ρ, S, β, er, at_, RW.step h fun b S1 h w H1 β1 g at1 e => by subst e; exact ⟨S1, β1, g, at1, RW.grow g h⟩⟩
    · show wpAny _ _ (forIn es b _) _ _ _
      cases b with
      | true => exact p2.run pins s1 σ H1 Q I1 ⟨ρ, S1, β1, er.grow g, at1, q⟩
      | false =>
        have skip : ∀ l : List Expr, (forIn l false fun c r => if r = true then do let ok ← isTrue c X.env (eval c X.env); pure (ForInStep.yield ok) else pure (ForInStep.yield r)) = (pure false : Sem Bool) := by
          intro l
          induction l with
          | nil => rfl
          | cons c l ih =>
            rw [List.forIn_cons]
            show (forIn l false _ : Sem Bool) = _
            exact ih
        rw [skip]
        exact wpAny_pure ⟨H1, I1, q false H1 β1 Grow.refl at1 rfl⟩
/-- a turn begins -/
theorem turn_ok {t : Tg} {g : Option (Nat × List D)} {x : D} {ρ : Env} {s : Sto} {α : Type} {f : Env → Sto → M α} {Q : α → Sto → Prop} {Wx : Xc → Sto → Prop} (h : RW ((turnM t g x ρ s).bind f) Q Wx) : still g s = true ∧ ∃ ρ', asg t x ρ = some ρ' ∧ RW (f ρ' s) Q Wx := by
  unfold turnM at h
  by_cases hs : still g s = true
  · rw [if_pos hs] at h
    cases e : asg t x ρ with
    | none => rw [e] at h; exact h.elim
    | some ρ' => rw [e] at h; exact ⟨hs, ρ', rfl, h⟩
  · rw [if_neg hs] at h
    exact h.elim
theorem still_ok {g : Option (Nat × List D)} {s : Sto} {Q : Unit → Sto → Prop} {Wx : Xc → Sto → Prop} (h : RW (stillM g s) Q Wx) : still g s = true ∧ Q () s := by
  unfold stillM at h
  by_cases hs : still g s = true
  · rw [if_pos hs] at h
    exact ⟨hs, h⟩
  · rw [if_neg hs] at h
    exact h.elim
theorem addL_ok {d : D} {n : Nat} {s : Sto} {α : Type} {f : Unit → Sto → M α} {Q : α → Sto → Prop} {Wx : Xc → Sto → Prop} (h : RW ((addL d n s).bind f) Q Wx) : ∃ acc, s.get n = some (.lst acc) ∧ acc.length < sizeLine ∧ RW (f () (s.put n (.lst (acc ++ [d])))) Q Wx := by
  unfold addL at h
  split at h
  · rename_i acc hk
    by_cases hl : acc.length < sizeLine
    · rw [if_pos hl] at h
      exact ⟨acc, hk, hl, h⟩
    · rw [if_neg hl] at h
      exact h.elim
  · exact h.elim
/-- what a block's parts are -/
structure Blk (L : Lw) (X : Cx) (scope : Scope) (own : List (Str × Nat)) (tg : Expr) (ifs : List Expr) (t : Tg) (Ifs : Es) (cf : Cf) : Prop where
  ok : BlkOk X.N X.env.scope scope own
  tg : ∀ (s : Shared) (H : Hp) (C : Addr) (cl : List (Str × Addr)) (fp : List Addr), PG (X.blk s H scope (compEnvC scope cl C X.env) fp) tg (gOf L (· ∈ own.map (·.2)) t)
  ts : ∀ (s : Shared) (H : Hp) (C : Addr) (cl : List (Str × Addr)) (fp : List Addr), PTs (X.blk s H scope (compEnvC scope cl C X.env) fp) ifs (OfT0 L X.base X.env.code (evIfs L.G.con cf Ifs))
variable {scope : Scope} {own : List (Str × Nat)} {tg iter elt : Expr} {ifs : List Expr} {t : Tg} {Ifs : Es} {Sr : Sr} {Elt : E} {pos : Pos}
/-- the new list's place behind the walk's -/
theorem of_lc {σ : L2.St} {H : Hp} {Q : VK} (h : OfE L X W (evE L.G.con cf (.gen .list Sr t (own.map (·.2)) Ifs Elt)) σ H Q) :
    tLc (OfW L X W (evSr L.G.con cf Sr)) (gOf L (· ∈ own.map (·.2)) t) (OfT0 L X.base X.env.code (evIfs L.G.con cf Ifs)) (OfE0 L X.base X.env.code (evE L.G.con cf Elt)) (own.map (·.2)) σ H Q := by
  obtain ⟨ρ, S, β, er, at_, h⟩ := h
  simp only [evE] at h
  refine ⟨ρ, S, β, er, at_, RW.step h fun w S1 h J H1 β1 g1 at1 jr => ?_⟩
  intro D hD
  have h := RW.calm (W' := fun _ _ => False) (RW.step (Q' := fun (_ : Unit) S2 => KG L.G (RV L.G) H β Q (.loc S1.nxt) S2) h fun a s q => q)
  have er1 := er_block (er.grow g1) (own.map (·.2))
  have gD : Grow H1 (upd H1 D (.lst [])) β1 (β1 ++ [D]) := (Grow.new hD).more (List.prefix_append _ _)
  have atD := at1.push (o := .lst []) (u := .lst []) hD (at1.fresh hD) (show RO L.G _ _ D (.lst []) from ⟨[], upd_same, .nil⟩) (fun ps z => by cases z)
  have hDn : (β1 ++ [D])[S1.nxt]? = some D := by
    have hl : β1.length = List.length S1 := at1.sr.len
    show (β1 ++ [D])[List.length S1]? = some D
    rw [← hl, List.getElem?_append_right (Nat.le_refl _)]
    simp
  refine ⟨fun i m H' => m = w.1.length - i ∧ i ≤ w.1.length ∧ ∃ S' β', Grow (upd H1 D (.lst [])) H' (β1 ++ [D]) β' ∧ At L.G H' β' S' ∧ RW (lcGo (evIfs L.G.con cf Ifs) (evE L.G.con cf Elt) t w.2 (wipe (noClo ρ) (own.map (·.2))) S1.nxt (w.1.drop i) S') (fun (_ : Unit) S2 => KG L.G (RV L.G) H β Q (.loc S1.nxt) S2) (fun _ _ => False),
    ⟨w.1.length, by simp, Nat.zero_le _, _, _, Grow.refl, atD, by simpa using h⟩, ?_⟩
  rintro i m H' ⟨rfl, hi, S', β', g', at', hr⟩
  have gJ : Grow H1 H' β1 β' := gD.trans g'
  by_cases hlt : i < w.1.length
  · right
    have hx : w.1[i]? = some w.1[i] := List.getElem?_eq_getElem hlt
    rw [List.drop_eq_getElem_cons hlt] at hr
    simp only [lcGo] at hr
    obtain ⟨hs, ρ2, ha, hr⟩ := turn_ok hr
    obtain ⟨go, yl⟩ := jr.go i _ H' β' S' hx gJ at' hs
    refine ⟨go, fun H2 => ∃ S2 β2, Grow (upd H1 D (.lst [])) H2 (β1 ++ [D]) β2 ∧ At L.G H2 β2 S2 ∧ RW (lcGo (evIfs L.G.con cf Ifs) (evE L.G.con cf Elt) t w.2 (wipe (noClo ρ) (own.map (·.2))) S1.nxt (w.1.drop (i + 1)) S2) (fun (_ : Unit) S2 => KG L.G (RV L.G) H β Q (.loc S1.nxt) S2) (fun _ _ => False),
      fun H2 ⟨S2, β2, g2, at2, h2⟩ => ⟨w.1.length - (i + 1), by omega, rfl, hlt, S2, β2, g2, at2, h2⟩, fun x H2 hy => ?_⟩
    obtain ⟨gy, aty, rx⟩ := yl x H2 hy
    refine ⟨RB L X.base X.env.code σ (own.map (·.2)), sets_rb _ _, _, _, ρ2, S', β', rx, ⟨er1.grow (gJ.trans gy), wipe_wipe _ _⟩, aty, ha, fun σ2 hrb => ?_⟩
    refine ⟨hrb.2, ?_⟩
    refine ⟨ρ2, S', β', hrb.1, aty, RW.step hr fun b S3 hr b' H3 β3 g3 at3 eb => ?_⟩
    subst eb
    have g03 : Grow (upd H1 D (.lst [])) H3 (β1 ++ [D]) β3 := (g'.trans gy).trans g3
    cases b with
    | false => exact ⟨S3, β3, g03, at3, hr⟩
    | true =>
      simp only [if_true] at hr ⊢
      refine ⟨ρ2, S3, β3, hrb.1.grow g3, at3, RW.step hr fun d S4 hr v H4 β4 g4 at4 rv => ?_⟩
      obtain ⟨acc, hacc, hl, hr⟩ := addL_ok hr
      have g04 := g03.trans g4
      have hb4 : β4[S1.nxt]? = some D := get_pre g04.pre hDn
      obtain ⟨a, vs, ea, hba, hH, ra⟩ := (RV.loc hb4 : RV L.G H4 β4 (.loc S1.nxt) (.ref D)).lstAt at4 hacc
      cases ea
      refine ⟨vs, hH, by rw [← ra.length]; exact hl, ?_⟩
      have g5 : Grow H4 (upd H4 D (.lst (vs ++ [v]))) β4 β4 := Grow.wr hH trivial
      exact ⟨_, β4, g04.trans g5, at4.put hb4 hH trivial (show RO L.G _ _ D (.lst _) from ⟨_, upd_same, (ra.snoc rv).grow g5⟩) (fun ps z => by cases z), hr⟩
  · left
    have ei : i = w.1.length := by omega
    subst ei
    rw [List.drop_length] at hr
    obtain ⟨hs, q⟩ := still_ok hr
    exact ⟨jr.stop H' β' S' gJ at' hs, q (.ref D) H' β' (g1.trans gJ) at' (.loc (get_pre g'.pre hDn))⟩
theorem arm_lc (fa : Fa L X) (hi : PI X tg iter (OfW L X W (evSr L.G.con cf Sr))) (b : Blk L X scope own tg ifs t Ifs cf) (he : ∀ (s : Shared) (H : Hp) (C : Addr) (cl : List (Str × Addr)) (fp : List Addr), PE (X.blk s H scope (compEnvC scope cl C X.env) fp) elt (OfE0 L X.base X.env.code (evE L.G.con cf Elt)))
    (hs : ∀ x, foldedSetIterable iter X.env x = pure x) : PE X (.ListComp elt [⟨tg, iter, ifs, 0⟩] scope pos) (OfE L X W (evE L.G.con cf (.gen .list Sr t (own.map (·.2)) Ifs Elt))) :=
  (pe_lc fa.calm fa.nd hi b.ok b.tg b.ts he hs).imp fun _ _ _ h => of_lc h
theorem addK_ok {k v : D} {n : Nat} {s : Sto} {α : Type} {f : Unit → Sto → M α} {Q : α → Sto → Prop} {Wx : Xc → Sto → Prop} (h : RW ((addK k v n s).bind f) Q Wx) : ∃ acc key, s.get n = some (.dct acc) ∧ k.key = some key ∧ acc.length < sizeLine ∧ RW (f () (s.put n (.dct (putD k v acc)))) Q Wx := by
  unfold addK at h
  split at h
  · rename_i acc hk
    split at h
    · rename_i key hkey
      by_cases hl : acc.length < sizeLine
      · rw [if_pos hl] at h
        exact ⟨acc, key, hk, hkey, hl, h⟩
      · rw [if_neg hl] at h
        exact h.elim
    · exact h.elim
  · exact h.elim
variable {Ke Ve : E} {kx vx : Expr}
theorem of_dc {σ : L2.St} {H : Hp} {Q : VK} (h : OfE L X W (evE L.G.con cf (.dgen Sr t (own.map (·.2)) Ifs Ke Ve)) σ H Q) :
    tDc (OfW L X W (evSr L.G.con cf Sr)) (gOf L (· ∈ own.map (·.2)) t) (OfT0 L X.base X.env.code (evIfs L.G.con cf Ifs)) (OfE0 L X.base X.env.code (evE L.G.con cf Ke)) (OfE0 L X.base X.env.code (evE L.G.con cf Ve)) (own.map (·.2)) σ H Q := by
  obtain ⟨ρ, S, β, er, at_, h⟩ := h
  simp only [evE] at h
  refine ⟨ρ, S, β, er, at_, RW.step h fun w S1 h J H1 β1 g1 at1 jr => ?_⟩
  intro D hD
  have h := RW.calm (W' := fun _ _ => False) (RW.step (Q' := fun (_ : Unit) S2 => KG L.G (RV L.G) H β Q (.loc S1.nxt) S2) h fun a s q => q)
  have er1 := er_block (er.grow g1) (own.map (·.2))
  have gD : Grow H1 (upd H1 D (.dK [])) β1 (β1 ++ [D]) := (Grow.new hD).more (List.prefix_append _ _)
  have atD := at1.push (o := .dK []) (u := .dct []) hD (at1.fresh hD) (show RO L.G _ _ D (.dct []) from ⟨[], upd_same, .nil⟩) (fun ps z => by cases z)
  have hDn : (β1 ++ [D])[S1.nxt]? = some D := by
    have hl : β1.length = List.length S1 := at1.sr.len
    show (β1 ++ [D])[List.length S1]? = some D
    rw [← hl, List.getElem?_append_right (Nat.le_refl _)]
    simp
  refine ⟨fun i m H' => m = w.1.length - i ∧ i ≤ w.1.length ∧ ∃ S' β', Grow (upd H1 D (.dK [])) H' (β1 ++ [D]) β' ∧ At L.G H' β' S' ∧ RW (dcGo (evIfs L.G.con cf Ifs) (evE L.G.con cf Ke) (evE L.G.con cf Ve) t w.2 (wipe (noClo ρ) (own.map (·.2))) S1.nxt (w.1.drop i) S') (fun (_ : Unit) S2 => KG L.G (RV L.G) H β Q (.loc S1.nxt) S2) (fun _ _ => False),
    ⟨w.1.length, by simp, Nat.zero_le _, _, _, Grow.refl, atD, by simpa using h⟩, ?_⟩
  rintro i m H' ⟨rfl, hi, S', β', g', at', hr⟩
  have gJ : Grow H1 H' β1 β' := gD.trans g'
  by_cases hlt : i < w.1.length
  · right
    have hx : w.1[i]? = some w.1[i] := List.getElem?_eq_getElem hlt
    rw [List.drop_eq_getElem_cons hlt] at hr
    simp only [dcGo] at hr
    obtain ⟨hs, ρ2, ha, hr⟩ := turn_ok hr
    obtain ⟨go, yl⟩ := jr.go i _ H' β' S' hx gJ at' hs
    refine ⟨go, fun H2 => ∃ S2 β2, Grow (upd H1 D (.dK [])) H2 (β1 ++ [D]) β2 ∧ At L.G H2 β2 S2 ∧ RW (dcGo (evIfs L.G.con cf Ifs) (evE L.G.con cf Ke) (evE L.G.con cf Ve) t w.2 (wipe (noClo ρ) (own.map (·.2))) S1.nxt (w.1.drop (i + 1)) S2) (fun (_ : Unit) S2 => KG L.G (RV L.G) H β Q (.loc S1.nxt) S2) (fun _ _ => False),
      fun H2 ⟨S2, β2, g2, at2, h2⟩ => ⟨w.1.length - (i + 1), by omega, rfl, hlt, S2, β2, g2, at2, h2⟩, fun x H2 hy => ?_⟩
    obtain ⟨gy, aty, rx⟩ := yl x H2 hy
    refine ⟨RB L X.base X.env.code σ (own.map (·.2)), sets_rb _ _, _, _, ρ2, S', β', rx, ⟨er1.grow (gJ.trans gy), wipe_wipe _ _⟩, aty, ha, fun σ2 hrb => ?_⟩
    refine ⟨hrb.2, ?_⟩
    refine ⟨ρ2, S', β', hrb.1, aty, RW.step hr fun b S3 hr b' H3 β3 g3 at3 eb => ?_⟩
    subst eb
    have g03 : Grow (upd H1 D (.dK [])) H3 (β1 ++ [D]) β3 := (g'.trans gy).trans g3
    cases b with
    | false => exact ⟨S3, β3, g03, at3, hr⟩
    | true =>
      simp only [if_true] at hr ⊢
      refine ⟨ρ2, S3, β3, hrb.1.grow g3, at3, RW.step hr fun dk S4 hr vk H4 β4 g4 at4 rk => ?_⟩
      refine ⟨ρ2, S4, β4, (hrb.1.grow g3).grow g4, at4, RW.step hr fun d S5 hr v H5 β5 g5 at5 rv => ?_⟩
      obtain ⟨acc, key, hacc, hkey, hl, hr⟩ := addK_ok hr
      have g05 := (g03.trans g4).trans g5
      have hb5 : β5[S1.nxt]? = some D := get_pre g05.pre hDn
      obtain ⟨a, kq, ea, hba, hH, ra⟩ := (RV.loc hb5 : RV L.G H5 β5 (.loc S1.nxt) (.ref D)).dctAt at5 hacc
      cases ea
      obtain ⟨rfl, rfl⟩ := key_of hkey rk
      refine ⟨kq, key, rfl, hH, by rw [← ra.length]; exact hl, ?_⟩
      have g6 : Grow H5 (upd H5 D (.dK (putK kq key v))) β5 β5 := Grow.wr hH trivial
      exact ⟨_, β5, g05.trans g6, at5.put hb5 hH trivial (show RO L.G _ _ D (.dct _) from ⟨_, upd_same, (ra.put key rv).grow g6⟩) (fun ps z => by cases z), hr⟩
  · left
    have ei : i = w.1.length := by omega
    subst ei
    rw [List.drop_length] at hr
    obtain ⟨hs, q⟩ := still_ok hr
    exact ⟨jr.stop H' β' S' gJ at' hs, q (.ref D) H' β' (g1.trans gJ) at' (.loc (get_pre g'.pre hDn))⟩
theorem arm_dc (fa : Fa L X) (hi : PI X tg iter (OfW L X W (evSr L.G.con cf Sr))) (b : Blk L X scope own tg ifs t Ifs cf) (hk : ∀ (s : Shared) (H : Hp) (C : Addr) (cl : List (Str × Addr)) (fp : List Addr), PE (X.blk s H scope (compEnvC scope cl C X.env) fp) kx (OfE0 L X.base X.env.code (evE L.G.con cf Ke)))
    (he : ∀ (s : Shared) (H : Hp) (C : Addr) (cl : List (Str × Addr)) (fp : List Addr), PE (X.blk s H scope (compEnvC scope cl C X.env) fp) vx (OfE0 L X.base X.env.code (evE L.G.con cf Ve)))
    (hs : ∀ x, foldedSetIterable iter X.env x = pure x) : PE X (.DictComp kx vx [⟨tg, iter, ifs, 0⟩] scope pos) (OfE L X W (evE L.G.con cf (.dgen Sr t (own.map (·.2)) Ifs Ke Ve))) :=
  (pe_dc fa.calm fa.nd hi b.ok b.tg b.ts hk he hs).imp fun _ _ _ h => of_dc h
/-! ### name = [..], name = {..} on one line -/
/-- what is wanted of name = e -/
def sSet (L : Lw) (X : Cx) (W : WX) (i : Nat) (ev : Env → Sto → M D) : TS := tAsg (OfE L X W ev) (gName i)
theorem arm_setLc (fa : Fa L X) {i : Nat} {y : Str} {py spos : Pos} (hy : X.N[i]? = some y) (hyl : X.env.scope.names.lookup y = some .local) (hsw : swapsWith (.ListComp elt [⟨tg, iter, ifs, 0⟩] scope pos) (some (.Name y py)) spos.line X.env = pure true)
    (hi : PI X tg iter (OfW L X W (evSr L.G.con cf Sr))) (b : Blk L X scope own tg ifs t Ifs cf) (he : ∀ (s : Shared) (H : Hp) (C : Addr) (cl : List (Str × Addr)) (fp : List Addr), PE (X.blk s H scope (compEnvC scope cl C X.env) fp) elt (OfE0 L X.base X.env.code (evE L.G.con cf Elt)))
    (hs : ∀ x, foldedSetIterable iter X.env x = pure x) : PS X (.Assign [.Name y py] (.ListComp elt [⟨tg, iter, ifs, 0⟩] scope pos) spos) (sSet L X W i (evE L.G.con cf (.gen .list Sr t (own.map (·.2)) Ifs Elt))) :=
  (ps_setLc fa.calm fa.nd hy hyl hsw hi b.ok b.tg b.ts he hs).imp fun _ _ _ h => of_lc h
theorem ps_setDc {i : Nat} {y : Str} {py spos : Pos} {wi : TI} {g : TG} {tt : TT} {tk tv : TE} (hc : X.calm = true) (hN : X.N.Nodup) (hy : X.N[i]? = some y) (hyl : X.env.scope.names.lookup y = some .local)
    (hsw : swapsWith (.DictComp kx vx [⟨tg, iter, ifs, 0⟩] scope pos) (some (.Name y py)) spos.line X.env = pure true) (hi : PI X tg iter wi) (ok : BlkOk X.N X.env.scope scope own)
    (hg : ∀ (s : Shared) (H : Hp) (C : Addr) (cl : List (Str × Addr)) (fp : List Addr), PG (X.blk s H scope (compEnvC scope cl C X.env) fp) tg g) (ht : ∀ (s : Shared) (H : Hp) (C : Addr) (cl : List (Str × Addr)) (fp : List Addr), PTs (X.blk s H scope (compEnvC scope cl C X.env) fp) ifs tt)
    (hk : ∀ (s : Shared) (H : Hp) (C : Addr) (cl : List (Str × Addr)) (fp : List Addr), PE (X.blk s H scope (compEnvC scope cl C X.env) fp) kx tk)
    (he : ∀ (s : Shared) (H : Hp) (C : Addr) (cl : List (Str × Addr)) (fp : List Addr), PE (X.blk s H scope (compEnvC scope cl C X.env) fp) vx tv) (hs : ∀ x, foldedSetIterable iter X.env x = pure x) :
    PS X (.Assign [.Name y py] (.DictComp kx vx [⟨tg, iter, ifs, 0⟩] scope pos) spos) (tAsg (tDc wi g tt tk tv (own.map (·.2))) (gName i)) := by
  refine ⟨fun pins s σ H D I h => ?_⟩
  rw [exec_Assign_Name_used _ _ _ _ hsw]
  refine wpAny_bind (wpAny_standAt (wpAny_bind ?_))
  show wpAny _ X.A (do let _ ← comprehension (.DictComp kx vx [⟨tg, iter, ifs, 0⟩] scope pos) scope X.env (firstIterPos [⟨tg, iter, ifs, 0⟩] pos) newDict false (eval iter X.env) (some (assign (.Name y py) X.env))) _ _ s
  have h : tDc wi g tt tk tv (own.map (·.2)) σ H (fun x H1 => gName i x σ H1 D.nx) := h
  refine wpAny_bind (thn (dc_core (Qf := fun _ s' => SP X pins D .next s') hc hN I hi ok hg ht hk he hs h fun L C s' m H' I' q hn f => ?_) fun _ s' hq => wpAny_pure (wpAny_pure hq))
  show wpAny _ _ (assign (.Name y py) X.env (.ref L)) _ _ _
  refine wpAny_assign_Name (store_ok2 (v := V.ref L) I' hN hy (.inl hyl) rfl (fun s2 I2 ⟨a, sb, ha⟩ => ?_) (.inr hyl))
  obtain ⟨f0, f1, f2, f3, f4, f5⟩ := f
  have haC : C ≠ a := by
    rcases ha with z | z
    · rw [z]; exact f1
    · exact fun e => f4 y a z e.symm
  refine ⟨m, hn.sameBut sb haC, fun h3 sb3 => ?_⟩
  exact ⟨_, H', I2.turned (t' := s2.toks) (fun b o hb e => (sb3.2 b hb).trans e) f0 f1 f3 f4 f5, q⟩
theorem arm_setDc (fa : Fa L X) {i : Nat} {y : Str} {py spos : Pos} (hy : X.N[i]? = some y) (hyl : X.env.scope.names.lookup y = some .local) (hsw : swapsWith (.DictComp kx vx [⟨tg, iter, ifs, 0⟩] scope pos) (some (.Name y py)) spos.line X.env = pure true)
    (hi : PI X tg iter (OfW L X W (evSr L.G.con cf Sr))) (b : Blk L X scope own tg ifs t Ifs cf) (hk : ∀ (s : Shared) (H : Hp) (C : Addr) (cl : List (Str × Addr)) (fp : List Addr), PE (X.blk s H scope (compEnvC scope cl C X.env) fp) kx (OfE0 L X.base X.env.code (evE L.G.con cf Ke)))
    (he : ∀ (s : Shared) (H : Hp) (C : Addr) (cl : List (Str × Addr)) (fp : List Addr), PE (X.blk s H scope (compEnvC scope cl C X.env) fp) vx (OfE0 L X.base X.env.code (evE L.G.con cf Ve)))
    (hs : ∀ x, foldedSetIterable iter X.env x = pure x) : PS X (.Assign [.Name y py] (.DictComp kx vx [⟨tg, iter, ifs, 0⟩] scope pos) spos) (sSet L X W i (evE L.G.con cf (.dgen Sr t (own.map (·.2)) Ifs Ke Ve))) :=
  (ps_setDc fa.calm fa.nd hy hyl hsw hi b.ok b.tg b.ts hk he hs).imp fun _ _ _ h => of_dc h
end
end EV
/-! EvN: dict displays, statements (own work). -/
namespace EV
open PySem PySem.Spec PyProof.Rows L2
section
variable {L : Lw} {X : Cx} {W : WX} {cf : Cf} {sc : Scope}
/-! ### displays of dicts -/
abbrev RPs (L : Lw) (H : Hp) (β : List Addr) : List (D × D) → List (V × V) → Prop := Paired fun p q => RV L.G H β p.1 q.1 ∧ RV L.G H β p.2 q.2
def trsOf (L : Lw) (X : Cx) (W : WX) (cf : Cf) : List (E × E) → List (TE × TE)
  | [] => []
  | (k, v) :: r => (OfE L X W (evE L.G.con cf k), OfE L X W (evE L.G.con cf v)) :: trsOf L X W cf r
theorem of_pairs : ∀ (l : List (E × E)) {σ : L2.St} {H : Hp} {β : List Addr} {S : Sto} {ρ : Env} {Q : List (V × V) → Hp → Prop}, ER L.G L.fnN L.conN X H β ρ σ → At L.G H β S → RW (evKV L.G.con cf (kvsOf l) ρ S) (KG L.G (RPs L) H β Q) (KX L.G L.cad H β fun c d H' => W c d σ H') → tPairs (trsOf L X W cf l) σ H Q
  | [], σ, H, β, S, ρ, Q, er, at_, h => h [] H β Grow.refl at_ .nil
  | (k, v) :: r, σ, H, β, S, ρ, Q, er, at_, h => by
    simp only [kvsOf, evKV] at h
    refine ⟨ρ, S, β, er, at_, RW.step h fun x S1 h u H1 β1 g1 at1 rx => ?_⟩
    refine ⟨ρ, S1, β1, er.grow g1, at1, RW.step (RW.grow g1 h) fun y S2 h w H2 β2 g2 at2 ry => ?_⟩
    refine of_pairs r (er.grow (g1.trans g2)) at2 (RW.step (RW.grow g2 h) fun q S3 h ps H3 β3 g3 at3 rq => ?_)
    exact h _ H3 β3 g3 at3 (.cons ⟨rx.grow (g2.trans g3), ry.grow g3⟩ rq)
theorem fill_ok {H : Hp} {β : List Addr} : ∀ {kvs : List (D × D)} {ps : List (V × V)}, RPs L H β kvs ps → kvs.all (fun p => p.1.key.isSome) = true → ∃ kq : List (Key × V), ps = kq.map (fun kv => (kV kv.1, kv.2)) ∧ kq.length = kvs.length ∧
    ∀ (acc : List (D × D)) (aq : List (Key × V)), RKs L.G H β acc aq → RKs L.G H β (kvs.foldl (fun a p => putD p.1 p.2 a) acc) (mergeK aq kq)
  | _, _, .nil, _ => ⟨[], rfl, rfl, fun acc aq h => h⟩
  | (k, v) :: _, (w, u) :: _, .cons ⟨h1, h2⟩ t, ha => by
    simp only [List.all_cons, Bool.and_eq_true] at ha
    obtain ⟨kq, e1, e2, q⟩ := fill_ok t ha.2
    obtain ⟨key, hk⟩ := Option.isSome_iff_exists.mp ha.1
    obtain ⟨e3, e4⟩ := key_of hk h1
    simp only at e3 e4
    subst e3
    subst e4
    exact ⟨(key, u) :: kq, by rw [e1]; rfl, by simp [e2], fun acc aq h => q _ _ (h.put key h2)⟩
theorem of_disp {l : List (E × E)} {σ : L2.St} {H : Hp} {Q : VK} (h : OfE L X W (evE L.G.con cf (.dict (kvsOf l))) σ H Q) : tDisp (trsOf L X W cf l) σ H Q := by
  obtain ⟨ρ, S, β, er, at_, h⟩ := h
  simp only [evE] at h
  intro p hp
  have gD : Grow H (upd H p (.dK [])) β (β ++ [p]) := (Grow.new hp).more (List.prefix_append _ _)
  have atD := at_.push (o := .dK []) (u := .dct []) hp (at_.fresh hp) (show RO L.G _ _ p (.dct []) from ⟨[], upd_same, .nil⟩) (fun ps z => by cases z)
  have hpn : (β ++ [p])[S.nxt]? = some p := by
    have hl : β.length = List.length S := at_.sr.len
    show (β ++ [p])[List.length S]? = some p
    rw [← hl, List.getElem?_append_right (Nat.le_refl _)]
    simp
  refine of_pairs l (er.grow gD) atD (RW.step (RW.grow gD h) fun kvs S1 h ps H1 β1 g1 at1 rp => ?_)
  obtain ⟨a, S', e, q⟩ := RW.up (RW.grow g1 h)
  have hb1 : β1[S.nxt]? = some p := get_pre g1.pre hpn
  unfold fillD at e
  split at e
  · rename_i hk
    split at e
    · rename_i hc
      cases e
      rw [Bool.and_eq_true] at hc
      obtain ⟨kq, e1, e2, mk⟩ := fill_ok rp hc.1
      obtain ⟨p', q0, ep, hb, hH, rk⟩ := (RV.loc hb1 : RV L.G H1 β1 (.loc S.nxt) (.ref p)).dctAt at1 hk
      cases ep
      cases rk
      have g5 : Grow H1 (upd H1 p (.dK (mergeK [] kq))) β1 β1 := Grow.wr hH trivial
      refine ⟨hH, kq, e1, by rw [e2]; exact of_decide_eq_true hc.2, q _ _ β1 g5 (at1.put hb1 hH trivial (show RO L.G _ _ p (.dct _) from ⟨_, upd_same, (mk [] [] .nil).grow g5⟩) (fun ps z => by cases z)) (.loc hb1)⟩
    · cases e
  · cases e
theorem arm_disp {pos : Pos} {fk fv : Expr → Option E} (hf : ∀ e E, fk e = some E → PE X e (OfE L X W (evE L.G.con cf E))) : ∀ (ks : List (Option Expr)) (vs : List Expr) (a b : List E), ks.mapM (fun k => k.bind fk) = some a → vs.mapM fk = some b → ks.length = vs.length →
    PPs X pos ks vs (trsOf L X W cf (a.zip b)) ∧ ks.all (·.isSome) = true
  | [], [], a, b, h1, h2, _ => by
    simp at h1 h2
    subst h1
    subst h2
    exact ⟨pps_nil, rfl⟩
  | [], _ :: _, _, _, _, _, hl => by simp at hl
  | _ :: _, [], _, _, _, _, hl => by simp at hl
  | k :: ks, v :: vs, a, b, h1, h2, hl => by
    simp only [List.mapM_cons, bind, Option.bind_eq_some_iff, pure, Option.some.injEq] at h1 h2
    obtain ⟨A, ⟨k', rfl, q1⟩, ar, q2, rfl⟩ := h1
    obtain ⟨B, q3, br, q4, rfl⟩ := h2
    obtain ⟨p1, p2⟩ := arm_disp (fv := fv) hf ks vs ar br q2 q4 (by simpa using hl)
    exact ⟨pps_cons (hf _ _ q1) (hf _ _ q3) p1, by simpa using p2⟩
theorem arm_dict {pos : Pos} {f : Expr → Option E} (hf : ∀ e E, f e = some E → PE X e (OfE L X W (evE L.G.con cf E))) {ks : List (Option Expr)} {vs : List Expr} {a b : List E} (h1 : ks.mapM (fun k => k.bind f) = some a) (h2 : vs.mapM f = some b) (hl : ks.length = vs.length) (h0 : 0 < ks.length) (h15 : ks.length ≤ 15) :
    PE X (.Dict ks vs pos) (OfE L X W (evE L.G.con cf (.dict (kvsOf (a.zip b))))) := by
  obtain ⟨p1, p2⟩ := arm_disp (fv := f) (pos := pos) hf ks vs a b h1 h2 hl
  exact (pe_disp p1 p2 hl (by cases ks with | nil => simp at h0 | cons _ _ => simp) h15).imp fun _ _ _ h => of_disp h

/-! ### statements -/
/-- where a run of the evaluator's statements ends -/
def KS (L : Lw) (X : Cx) (H : Hp) (β : List Addr) (D : Ends) : Fl → Sto → Prop := fun fl S => ∀ (H' : Hp) (β' : List Addr), Grow H H' β β' → At L.G H' β' S → match fl with
  | .nx ρ => ∀ σ, ER L.G L.fnN L.conN X H' β' ρ σ → D.nx σ H'
  | .bk ρ => ∀ σ, ER L.G L.fnN L.conN X H' β' ρ σ → D.bk σ H'
  | .ct ρ => ∀ σ, ER L.G L.fnN L.conN X H' β' ρ σ → D.ct σ H'
  | .rt d => ∀ v, RV L.G H' β' d v → D.rt v H'
def OfS (L : Lw) (X : Cx) (W : WX) (ev : Env → Sto → M Fl) : TS := fun D σ H =>
  ∃ (ρ : Env) (S : Sto) (β : List Addr), ER L.G L.fnN L.conN X H β ρ σ ∧ At L.G H β S ∧ RW (ev ρ S) (KS L X H β D) (KX L.G L.cad H β fun c d H' => ∀ σ', W c d σ' H')
theorem growS {r : M Fl} {H H1 : Hp} {β β1 : List Addr} {D : Ends} {Wk : XK} (g : Grow H H1 β β1) (h : RW r (KS L X H β D) (KX L.G L.cad H β Wk)) : RW r (KS L X H1 β1 D) (KX L.G L.cad H1 β1 Wk) :=
  h.mono (fun _ _ q H' β' g' => q H' β' (g.trans g')) fun _ _ q c d H' β' g' => q c d H' β' (g.trans g')
theorem weakX {α : Type} {r : M α} {Q : α → Sto → Prop} {H : Hp} {β : List Addr} {σ : L2.St} (h : RW r Q (KX L.G L.cad H β fun c d H' => ∀ σ', W c d σ' H')) : RW r Q (KX L.G L.cad H β fun c d H' => W c d σ H') :=
  h.mono (fun _ _ q => q) fun _ _ q c d H' β' g a x => q c d H' β' g a x σ
theorem stepE {α ω : Type} {rel : Hp → List Addr → α → ω → Prop} {ev : Env → Sto → M α} {f : α → Sto → M Fl} {ρ : Env} {S : Sto} {σ : L2.St} {H : Hp} {β : List Addr} {D : Ends} {k : ω → Hp → Prop}
    (er : ER L.G L.fnN L.conN X H β ρ σ) (at_ : At L.G H β S) (h : RW ((ev ρ S).bind f) (KS L X H β D) (KX L.G L.cad H β fun c d H' => ∀ σ', W c d σ' H'))
    (q : ∀ a S1 H1 β1 w, Grow H H1 β β1 → At L.G H1 β1 S1 → rel H1 β1 a w → RW (f a S1) (KS L X H1 β1 D) (KX L.G L.cad H1 β1 fun c d H' => ∀ σ', W c d σ' H') → k w H1) : Of L X W rel ev σ H k :=
  ⟨ρ, S, β, er, at_, weakX (RW.step h fun a S1 h w H1 β1 g at1 r => q a S1 H1 β1 w g at1 r (growS g h))⟩
variable {e c : Expr} {Ex : E} {pos : Pos}
theorem arms_expr (ha : PE X e (OfE L X W (evE L.G.con cf Ex))) (hs : swapsWith e none pos.line X.env = pure false) : PS X (.Expr e pos) (OfS L X W (evS L.G.con cf (.expr Ex))) :=
  (ps_expr ha hs).imp fun D σ H h => by
    obtain ⟨ρ, S, β, er, at_, h⟩ := h
    simp only [evS] at h
    exact stepE er at_ h fun a S1 H1 β1 w g at1 r h => h H1 β1 Grow.refl at1 σ (er.grow g)
theorem arms_ret (ha : PE X e (OfE L X W (evE L.G.con cf Ex))) : PS X (.Return (some e) pos) (OfS L X W (evS L.G.con cf (.ret Ex))) :=
  (ps_ret ha).imp fun D σ H h => by
    obtain ⟨ρ, S, β, er, at_, h⟩ := h
    simp only [evS] at h
    exact stepE er at_ h fun a S1 H1 β1 w g at1 r h => h H1 β1 Grow.refl at1 w r
theorem arms_ret0 : PS X (.Return none pos) (OfS L X W (evS L.G.con cf (.ret .none))) :=
  ps_retN.imp fun D σ H h => by
    obtain ⟨ρ, S, β, er, at_, h⟩ := h
    simp only [evS, evE] at h
    exact h H β Grow.refl at_ .non .none
theorem arms_pass : PS X (.Pass pos) (OfS L X W (evS L.G.con cf .pass)) :=
  ps_pass.imp fun D σ H h => by
    obtain ⟨ρ, S, β, er, at_, h⟩ := h
    simp only [evS] at h
    exact h H β Grow.refl at_ σ er
theorem arms_brk : PS X (.Break pos) (OfS L X W (evS L.G.con cf .brk)) :=
  ps_break.imp fun D σ H h => by
    obtain ⟨ρ, S, β, er, at_, h⟩ := h
    simp only [evS] at h
    exact h H β Grow.refl at_ σ er
theorem arms_cont : PS X (.Continue pos) (OfS L X W (evS L.G.con cf .cont)) :=
  ps_continue.imp fun D σ H h => by
    obtain ⟨ρ, S, β, er, at_, h⟩ := h
    simp only [evS] at h
    exact h H β Grow.refl at_ σ er
theorem arms_never {st : Stmt} : PS X st (OfS L X W (evS L.G.con cf .never)) :=
  ps_never.imp fun D σ H h => by
    obtain ⟨ρ, S, β, er, at_, h⟩ := h
    simp only [evS] at h
    exact h.elim
theorem of_set {i : Nat} {D : Ends} {σ : L2.St} {H : Hp} (h : OfS L X W (evS L.G.con cf (.set i Ex)) D σ H) : sSet L X W i (evE L.G.con cf Ex) D σ H := by
  obtain ⟨ρ, S, β, er, at_, h⟩ := h
  simp only [evS] at h
  exact stepE er at_ h fun a S1 H1 β1 w g at1 r h => h H1 β1 Grow.refl at1 _ ((er.grow g).set i r)
theorem arms_set {i : Nat} {x : Str} {p : Pos} (fa : Fa L X) (hi : X.N[i]? = some x) (hx : Loc X.env.scope x) (hf : X.fn x = true ∨ X.env.scope.names.lookup x = some .local) (ha : PE X e (OfE L X W (evE L.G.con cf Ex))) (hs : swapsWith e (some (.Name x p)) pos.line X.env = pure false) :
    PS X (.Assign [.Name x p] e pos) (OfS L X W (evS L.G.con cf (.set i Ex))) := (ps_set fa.nd hi hx ha hs hf).imp fun D σ H h => of_set h
variable {A B : Ss} {a b : List Stmt}
theorem arms_if {Cx : E} (hc : PT X c (OfT L X W (evT L.G.con cf Cx))) (ha : PSs X a (OfS L X W (evSs L.G.con cf A))) (hb : PSs X b (OfS L X W (evSs L.G.con cf B))) : PS X (.If c a b pos) (OfS L X W (evS L.G.con cf (.ite Cx A B))) :=
  (ps_if hc ha hb).imp fun D σ H h => by
    obtain ⟨ρ, S, β, er, at_, h⟩ := h
    simp only [evS] at h
    refine stepE er at_ h fun x S1 H1 β1 w g at1 r h => ?_
    subst r
    cases x with
    | true => exact ⟨ρ, S1, β1, er.grow g, at1, h⟩
    | false => exact ⟨ρ, S1, β1, er.grow g, at1, h⟩
theorem arms_nil : PSs X [] (OfS L X W (evSs L.G.con cf .nil)) :=
  pss_nil.imp fun D σ H h => by
    obtain ⟨ρ, S, β, er, at_, h⟩ := h
    simp only [evSs] at h
    exact h H β Grow.refl at_ σ er
theorem arms_cons {st : Stmt} {St : S} (h1 : PS X st (OfS L X W (evS L.G.con cf St))) (h2 : PSs X a (OfS L X W (evSs L.G.con cf A))) : PSs X (st :: a) (OfS L X W (evSs L.G.con cf (.cons St A))) :=
  (pss_cons h1 h2).imp fun D σ H h => by
    obtain ⟨ρ, S, β, er, at_, h⟩ := h
    simp only [evSs] at h
    refine ⟨ρ, S, β, er, at_, RW.step h fun fl S1 h H1 β1 g at1 => ?_⟩
    have h := growS g h
    cases fl with
    | nx ρ' => exact fun σ' er' => ⟨ρ', S1, β1, er', at1, h⟩
    | bk ρ' => exact fun σ' er' => h H1 β1 Grow.refl at1 σ' er'
    | ct ρ' => exact fun σ' er' => h H1 β1 Grow.refl at1 σ' er'
    | rt d => exact fun v r => h H1 β1 Grow.refl at1 v r
/-- o[i] = v -/
theorem arms_seti {o i v : Expr} {O I V : E} {p : Pos} (fa : Fa L X) (ho : PE X o (OfE L X W (evE L.G.con cf O))) (hi : PE X i (OfE L X W (evE L.G.con cf I))) (hv : PE X v (OfE L X W (evE L.G.con cf V))) (hp : plainIdx i = true) (hs : swapsWithSole [.Subscript o i p] v pos.line X.env = pure false) :
    PS X (.Assign [.Subscript o i p] v pos) (OfS L X W (evS L.G.con cf (.seti O I V))) := by
  have hst : ∀ v, assign (.Subscript o i p) X.env v = (do
      let ov ← holding [v] (eval o X.env)
      let iv ← holding [v, ov] (eval i X.env)
      standAt p
      holding [v, ov, iv] (setItem ov iv v)
      release [v, ov, iv] []) := fun v => by cases i <;> first | rfl | cases hp
  refine (ps_asg hv (pg_sub ho hi (set_ok (L := L) (Nat.lt_of_le_of_lt (Nat.add_le_add_left (by decide) _) fa.hu)) hst) hs).imp fun D σ H h => ?_
  obtain ⟨ρ, S, β, er, at_, h⟩ := h
  simp only [evS] at h
  refine stepE er at_ h fun x S1 H1 β1 w1 g1 at1 r1 h => ?_
  refine stepE (er.grow g1) at1 h fun y S2 H2 β2 w2 g2 at2 r2 h => ?_
  refine stepE (er.grow (g1.trans g2)) at2 h fun z S3 H3 β3 w3 g3 at3 r3 h => ?_
  obtain ⟨u, S4, hu, q⟩ := RW.up (RW.step (Q' := fun (_ : Unit) S4 => KS L X H3 β3 D (.nx ρ) S4) h fun a s q => q)
  cases u
  exact ⟨y, z, x, S3, S4, β3, r2.grow g3, r3, r1.grow (g2.trans g3), at3, hu, fun H' β' g' at' => q H' β' g' at' σ (er.grow ((g1.trans (g2.trans g3)).trans g'))⟩
end
end EV
/-! EvO: unpacking, loops (own work). -/
namespace EV
open PySem PySem.Spec PyProof.Rows L2
section
variable {L : Lw} {X : Cx} {W : WX} {cf : Cf} {sc : Scope} {e c : Expr} {Ex : E} {pos : Pos}
/-! ### which stores are swapped -/
theorem swapQ_none {ts vs : List Expr} {k k2 : Nat} {p p2 : Pos} (hs : X.env.scope = sc) (h : swapQ sc ts vs = some none) : swappedStores [.Tuple ts k p] (.Tuple vs k2 p2) X.env = pure none := by
  subst hs
  have h : swapK X.env.kindOf X.env.blockKind ts vs = _ := h
  unfold swapK at h
  unfold swappedStores
  by_cases c1 : (!(ts.length == 2 || ts.length == 3) || vs.length != ts.length || X.env.blockKind != ScopeKind.function) = true
  · simp only [c1, if_true]
  · simp only [c1, if_false] at h ⊢
    split at h
    · rename_i c2
      exact if_pos c2
    · rename_i c2
      refine (if_neg c2).trans ?_
      split at h
      · rename_i c3
        exact if_pos c3
      · rename_i c3
        refine (if_neg c3).trans ?_
        split at h
        · rename_i c4
          exact if_pos c4
        · rename_i c4
          refine (if_neg c4).trans ?_
          by_cases c6 : vs.all (foldedForSure 8) = true
          · exact if_pos c6
          · have h := (if_neg c6).symm.trans h
            by_cases c5 : vs.all (constantsAlone 8) = true
            · have q := (if_pos c5).symm.trans h
              cases q
            · have q := (if_neg c5).symm.trans h
              cases q
theorem swapQ_some {ts vs : List Expr} {k k2 : Nat} {p p2 : Pos} {ns : List Str} (hs : X.env.scope = sc) (h : swapQ sc ts vs = some (some ns)) : swappedStores [.Tuple ts k p] (.Tuple vs k2 p2) X.env = pure (some ns) := by
  subst hs
  have h : swapK X.env.kindOf X.env.blockKind ts vs = _ := h
  unfold swapK at h
  unfold swappedStores
  by_cases c1 : (!(ts.length == 2 || ts.length == 3) || vs.length != ts.length || X.env.blockKind != ScopeKind.function) = true
  · simp only [c1, if_true] at h
    cases h
  · simp only [c1, if_false] at h ⊢
    split at h
    · cases h
    · rename_i c2
      refine (if_neg c2).trans ?_
      split at h
      · cases h
      · rename_i c3
        refine (if_neg c3).trans ?_
        split at h
        · cases h
        · rename_i c4
          refine (if_neg c4).trans ?_
          by_cases c6 : vs.all (foldedForSure 8) = true
          · have q := (if_pos c6).symm.trans h
            cases q
          · have h := (if_neg c6).symm.trans h
            refine (if_neg c6).trans ?_
            by_cases c5 : vs.all (constantsAlone 8) = true
            · have q := (if_pos c5).symm.trans h
              cases q
            · have q := (if_neg c5).symm.trans h
              refine (if_neg c5).trans ?_
              cases q
              rfl

/-! ### a, b = e -/
theorem arms_unp {C : Cc} {n : Nat} {ts : List Expr} {k : Nat} {p : Pos} {t : Tg} (fa : Fa L X) (hN : X.N = C.N) (htg : ∀ x, locB sc x = true → Loc X.env.scope x ∧ (X.fn x = true ∨ X.env.scope.names.lookup x = some .local)) (ht : cTg C sc n (.Tuple ts k p) = some t)
    (ha : PE X e (OfE L X W (evE L.G.con cf Ex))) (hw : swappedStores [.Tuple ts k p] e X.env = pure none) : PS X (.Assign [.Tuple ts k p] e pos) (OfS L X W (evS L.G.con cf (.unp t Ex))) := by
  cases n with
  | zero => cases ht
  | succ n =>
    simp only [cTg, Option.map_eq_some_iff] at ht
    obtain ⟨r, h1, rfl⟩ := ht
    obtain ⟨p1, q1, q2, q3⟩ := arm_tgs (P := fun _ => True) (X := X) (L := L) (fun e t he hp => arm_tg fa.K fa.nd fa.calm hN htg n e t he hp) ts r h1 fun i hi => trivial
    have pt := pg_tup (pos := p) (k := k) fa.calm p1 q1 q2
    have pl := pg_lst (pos := p) (k := k) fa.calm p1 q1 q2
    have hg : PG X (.Tuple ts k p) (fun v σ H Q => ∃ d ρ ρ' S β, RV L.G H β d v ∧ ER L.G L.fnN L.conN X H β ρ σ ∧ At L.G H β S ∧ unp (.t (tgsOf r)) d ρ S = some ρ' ∧ ∀ σ', ER L.G L.fnN L.conN X H β ρ' σ' → Q σ' H) := by
      refine ⟨fun pins s σ H v u Q I rv h => ?_⟩
      obtain ⟨d, ρ, ρ', S, β, rd, er, at_, e, q⟩ := h
      cases d with
      | tup ds =>
        simp only [unp, asg] at e
        cases rd with
        | @tup a vs _ h1 r1 => exact pt.run pins s σ H _ u Q I rv ⟨a, vs, rfl, fa.K ▸ h1, by rw [← r1.length, tgsOf_len e, q3], _, sets_er, ds, ρ, ρ', S, β, r1, er, at_, e, q⟩
      | loc k =>
        simp only [unp] at e
        split at e
        · rename_i hk he
          obtain ⟨a, vs, ev, hH, r1⟩ := rd.seqAt at_ (.inl he)
          subst ev
          cases hk
          exact pl.run pins s σ H _ u Q I rv ⟨a, vs, rfl, fa.K ▸ hH, by rw [← r1.length, tgsOf_len e, q3], _, sets_er, _, ρ, ρ', S, β, r1, er, at_, e, q⟩
        · cases e
      | _ => cases e
    refine (ps_asg ha hg (by cases e <;> rfl) hw (by rfl)).imp fun D σ H h => ?_
    obtain ⟨ρ, S, β, er, at_, h⟩ := h
    simp only [evS] at h
    refine stepE er at_ h fun x S1 H1 β1 w g at1 r1 h => ?_
    have ⟨ρ', hu, q⟩ := RW.ofO (RW.step (Q' := fun ρ' S2 => KS L X H1 β1 D (.nx ρ') S2) h fun a s q => q)
    exact ⟨x, ρ, ρ', S1, β1, r1, er.grow g, at1, hu, fun σ' er' => q H1 β1 Grow.refl at1 σ' er'⟩
/-! ### a, b = x, y, stored apart -/
theorem set2_of {i j : Nat} {Es : Es} {D : Ends} {σ : L2.St} {H : Hp} (h : OfS L X W (evS L.G.con cf (.par [i, j] Es)) D σ H) : tPar i j (OfA L X W (evEs L.G.con cf Es)) D σ H := by
  obtain ⟨ρ, S, β, er, at_, h⟩ := h
  simp only [evS] at h
  refine stepE er at_ h fun ds S1 H1 β1 vs g at1 r h => ?_
  obtain ⟨ρ', hu, q⟩ := RW.ofO (RW.step (Q' := fun ρ' S2 => KS L X H1 β1 D (.nx ρ') S2) h fun a s q => q)
  cases r with
  | nil => cases hu
  | cons r1 t => cases t with
    | nil => cases hu
    | cons r2 t => cases t with
      | nil =>
        cases hu
        exact ⟨_, _, rfl, q H1 β1 Grow.refl at1 _ (((er.grow g).set i r1).set j r2)⟩
      | cons _ _ => cases hu
theorem set3_of {i j l : Nat} {Es : Es} {D : Ends} {σ : L2.St} {H : Hp} (h : OfS L X W (evS L.G.con cf (.par [i, j, l] Es)) D σ H) : tPar3 i j l (OfA L X W (evEs L.G.con cf Es)) D σ H := by
  obtain ⟨ρ, S, β, er, at_, h⟩ := h
  simp only [evS] at h
  refine stepE er at_ h fun ds S1 H1 β1 vs g at1 r h => ?_
  obtain ⟨ρ', hu, q⟩ := RW.ofO (RW.step (Q' := fun ρ' S2 => KS L X H1 β1 D (.nx ρ') S2) h fun a s q => q)
  cases r with
  | nil => cases hu
  | cons r1 t => cases t with
    | nil => cases hu
    | cons r2 t => cases t with
      | nil => cases hu
      | cons r3 t => cases t with
        | nil =>
          cases hu
          exact ⟨_, _, _, rfl, q H1 β1 Grow.refl at1 _ ((((er.grow g).set i r1).set j r2).set l r3)⟩
        | cons _ _ => cases hu
/-! ### loops -/
variable {tg : Expr} {b : List Stmt} {B : Ss} {t : Tg} {Sr : Sr}
theorem arms_for (fa : Fa L X) (hp : PassesOwn (model X.prog X.w) X.A X.env X.xe) (hi : PI X tg e (OfW L X W (evSr L.G.con cf Sr))) (hg : PG X tg (gOf L (fun _ => True) t)) (hb : PSs X b (OfS L X W (evSs L.G.con cf B)))
    (hs : ∀ x, foldedSetIterable e X.env x = pure x) : PS X (.For tg e b [] pos) (OfS L X W (evS L.G.con cf (.forr t Sr B))) := by
  refine (ps_for hp fa.calm hi hg hb hs).imp fun D σ H h => ?_
  obtain ⟨ρ, S, β, er, at_, h⟩ := h
  simp only [evS] at h
  refine stepE er at_ h fun w S1 H1 β1 J g1 at1 jr h => ?_
  refine ⟨fun i m σ' H' => m = w.1.length - i ∧ i ≤ w.1.length ∧ ∃ ρ' S' β', Grow H1 H' β1 β' ∧ ER L.G L.fnN L.conN X H' β' ρ' σ' ∧ At L.G H' β' S' ∧ RW (forGo (evSs L.G.con cf B) t w.2 (w.1.drop i) ρ' S') (KS L X H' β' D) (KX L.G L.cad H' β' fun c d H' => ∀ σ', W c d σ' H'),
    ⟨w.1.length, by simp, Nat.zero_le _, ρ, S1, β1, Grow.refl, er.grow g1, at1, by simpa using h⟩, ?_⟩
  rintro i m σ' H' ⟨rfl, hi, ρ', S', β', g', er', at', hr⟩
  by_cases hlt : i < w.1.length
  · right
    have hx : w.1[i]? = some w.1[i] := List.getElem?_eq_getElem hlt
    rw [List.drop_eq_getElem_cons hlt] at hr
    simp only [forGo] at hr
    obtain ⟨hs, ρ2, ha, hr⟩ := turn_ok hr
    obtain ⟨go, yl⟩ := jr.go i _ H' β' S' hx g' at' hs
    refine ⟨go, fun σ2 H2 => ∃ ρ2 S2 β2, Grow H1 H2 β1 β2 ∧ ER L.G L.fnN L.conN X H2 β2 ρ2 σ2 ∧ At L.G H2 β2 S2 ∧ RW (forGo (evSs L.G.con cf B) t w.2 (w.1.drop (i + 1)) ρ2 S2) (KS L X H2 β2 D) (KX L.G L.cad H2 β2 fun c d H' => ∀ σ', W c d σ' H'),
      fun σ2 H2 ⟨ρ2, S2, β2, g2, er2, at2, h2⟩ => ⟨w.1.length - (i + 1), by omega, rfl, hlt, ρ2, S2, β2, g2, er2, at2, h2⟩, fun x H2 hy => ?_⟩
    obtain ⟨gy, aty, rx⟩ := yl x H2 hy
    refine ⟨_, sets_er, _, ρ', ρ2, S', β', rx, er'.grow gy, aty, ha, fun σ2 er2 => ?_⟩
    refine ⟨ρ2, S', β', er2, aty, RW.step (growS gy hr) fun fl S3 h3 H3 β3 g3 at3 => ?_⟩
    have h3 := growS g3 h3
    cases fl with
    | nx ρ3 => exact fun σ3 er3 => ⟨ρ3, S3, β3, (g'.trans gy).trans g3, er3, at3, h3⟩
    | ct ρ3 => exact fun σ3 er3 => ⟨ρ3, S3, β3, (g'.trans gy).trans g3, er3, at3, h3⟩
    | bk ρ3 => exact fun σ3 er3 => h3 H3 β3 Grow.refl at3 σ3 er3
    | rt d => exact fun v r => h3 H3 β3 Grow.refl at3 v r
  · left
    have ei : i = w.1.length := by omega
    subst ei
    rw [List.drop_length] at hr
    simp only [forGo] at hr
    obtain ⟨hs, q⟩ := still_ok (RW.step (Q' := fun (_ : Unit) S2 => KS L X H' β' D (.nx ρ') S2) hr fun a s q => q)
    exact ⟨jr.stop H' β' S' g' at' hs, q H' β' Grow.refl at' σ' er'⟩
theorem arms_while {Ct : E} (hp : PassesOwn (model X.prog X.w) X.A X.env X.xe) (hc : PT X c (OfT L X W (evT L.G.con cf Ct))) (hb : PSs X b (OfS L X W (evSs L.G.con cf B))) : PS X (.While c b [] pos) (OfS L X W (evS L.G.con cf (.while Ct B))) := by
  refine (ps_while hp hc hb).imp fun D σ H h => ?_
  obtain ⟨ρ, S, β, er, at_, h⟩ := h
  simp only [evS] at h
  refine ⟨fun m σ' H' => ∃ ρ' S' β', ER L.G L.fnN L.conN X H' β' ρ' σ' ∧ At L.G H' β' S' ∧ RW (whGo (evT L.G.con cf Ct) (evSs L.G.con cf B) m ρ' S') (KS L X H' β' D) (KX L.G L.cad H' β' fun c d H' => ∀ σ', W c d σ' H'), ⟨turns, ρ, S, β, er, at_, h⟩, ?_⟩
  rintro m σ' H' ⟨ρ', S', β', er', at', hr⟩
  cases m with
  | zero => exact hr.elim
  | succ m =>
    simp only [whGo] at hr
    refine stepE er' at' hr fun x S1 H1 β1 w g at1 r h1 => ?_
    subst r
    cases x with
    | false => exact h1 H1 β1 Grow.refl at1 σ' (er'.grow g)
    | true =>
      refine ⟨fun σ2 H2 => ∃ ρ2 S2 β2, ER L.G L.fnN L.conN X H2 β2 ρ2 σ2 ∧ At L.G H2 β2 S2 ∧ RW (whGo (evT L.G.con cf Ct) (evSs L.G.con cf B) m ρ2 S2) (KS L X H2 β2 D) (KX L.G L.cad H2 β2 fun c d H' => ∀ σ', W c d σ' H'), fun σ2 H2 h2 => ⟨m, Nat.lt_succ_self m, h2⟩, ?_⟩
      refine ⟨ρ', S1, β1, er'.grow g, at1, RW.step h1 fun fl S3 h3 H3 β3 g3 at3 => ?_⟩
      have h3 := growS g3 h3
      cases fl with
      | nx ρ3 => exact fun σ3 er3 => ⟨ρ3, S3, β3, er3, at3, h3⟩
      | ct ρ3 => exact fun σ3 er3 => ⟨ρ3, S3, β3, er3, at3, h3⟩
      | bk ρ3 => exact fun σ3 er3 => h3 H3 β3 Grow.refl at3 σ3 er3
      | rt d => exact fun v r => h3 H3 β3 Grow.refl at3 v r
end
end EV
/-! EvS: code objects of generators are made, or found in the table (own work; the two walks follow HandS.Lambda's and HandS.AnyAll's). -/
namespace EV
open PySem PySem.Spec PyProof.Rows L2
section
variable {X : Cx} {pins : List (Addr × Obj)} {σ : L2.St} {H : Hp} {s : Shared}
theorem code_ext {c P : Addr} {q : Str} {h1 h2 : Heap} (h : PySem.W.CodeHd h1 c P ∧ h1.CodeRec (.ref c) q) (k : ∀ o, h1.get? c = some o → h2.get? c = some o) : PySem.W.CodeHd h2 c P ∧ h2.CodeRec (.ref c) q := by
  obtain ⟨⟨o, vs, file, tf, flags, tg, inF, text, tt, e, r⟩, c', o', vs', t, e', g, r'⟩ := h
  cases e'
  exact ⟨⟨o, vs, file, tf, flags, tg, inF, text, tt, k _ e, r⟩, c, o', vs', t, rfl, k _ g, r'⟩
theorem inv_code {P c P' : Addr} {q : Str} {ps more : Array Value} {h' : Heap} {t' : Nat} (I : Inv X pins σ H s) (hP : H P = some (.tbl ps)) (k : ∀ b o, b ≠ P → s.heap.get? b = some o → h'.get? b = some o)
    (hm : h'.get? P = some { cls := .none, data := .fields (ps ++ more) }) (hc : s.heap.objs.size ≤ c) (hP' : s.heap.objs.size ≤ P') (hcP : c ≠ P') (ho : PySem.W.CodeHd h' c P' ∧ h'.CodeRec (.ref c) q) (ht : h'.get? P' = some { cls := .none, data := .fields #[] }) :
    Inv X pins σ (upd (upd (upd H P (.tbl (ps ++ more))) P' (.tbl #[])) c (CodeX c P' q)) { s with heap := h', toks := t' } := by
  have nC : H c = none := I.hok.fresh hc
  have nP' : H P' = none := I.hok.fresh hP'
  have nPc : P ≠ c := ne_of_none hP nC
  have nPP : P ≠ P' := ne_of_none hP nP'
  have at_ : ∀ b, b ≠ P → b ≠ P' → b ≠ c → upd (upd (upd H P (.tbl (ps ++ more))) P' (.tbl #[])) c (CodeX c P' q) b = H b := fun b h1 h2 h3 => by rw [upd_ne h3, upd_ne h2, upd_ne h1]
  have atP : upd (upd (upd H P (.tbl (ps ++ more))) P' (.tbl #[])) c (CodeX c P' q) P = some (.tbl (ps ++ more)) := by rw [upd_ne nPc, upd_ne nPP, upd_same]
  have atP' : upd (upd (upd H P (.tbl (ps ++ more))) P' (.tbl #[])) c (CodeX c P' q) P' = some (.tbl #[]) := by rw [upd_ne (Ne.symm hcP), upd_same]
  have nP : ∀ b u, H b = some u → (∀ q, u ≠ .tbl q) → b ≠ P := fun b u e q z => by
    rw [z, hP] at e
    exact q ps (Option.some.inj e).symm
  have nN : ∀ b, H b = none → b ≠ P := fun b e z => by
    rw [z, hP] at e
    cases e
  have lt' : ∀ b o, s.heap.get? b = some o → b ≠ c := fun b o e z => by
    rw [z] at e
    exact Nat.lt_irrefl _ (Nat.lt_of_lt_of_le (Heap.lt_size e) hc)
  have lt2 : ∀ b o, s.heap.get? b = some o → b ≠ P' := fun b o e z => by
    rw [z] at e
    exact Nat.lt_irrefl _ (Nat.lt_of_lt_of_le (Heap.lt_size e) hP')
  have sm : ∀ b u, H b = some u → b ≠ c := fun b u e => ne_of_none e nC
  have sm2 : ∀ b u, H b = some u → b ≠ P' := fun b u e => ne_of_none e nP'
  refine I.step (g' := s.gens) (d' := s.drawn) (ch := []) (fun b hb => absurd hb (by simp)) (fun b o _ _ _ e n => k b o (nN b n) e) (fun b o _ _ _ e n => ⟨o.slots, k b o (nN b n) e⟩)
    (fun b o _ e n => by rw [at_ b (nN b n) (lt2 b o e) (lt' b o e)]; exact n) (fun b o _ e => ?_) (fun b xs e => by rw [at_ b (nP b _ e (fun q z => by cases z)) (sm2 b _ e) (sm b _ e)]; exact e) (fun b o u e => by rw [at_ b (nP b _ e (fun q z => by cases z)) (sm2 b _ e) (sm b _ e)]; exact e) (fun b qs e => ?_) (fun m hn => ?_) (fun b u e => ?_) I.bare
  · by_cases hb : b = P
    · rw [hb]
      exact ⟨_, hm⟩
    · exact ⟨o, k b o hb e⟩
  · by_cases hb : b = P
    · rw [hb, hP] at e
      cases e
      rw [hb, atP]
      exact ⟨more, rfl⟩
    · rw [at_ b hb (sm2 b _ e) (sm b _ e), e]
      exact ⟨#[], by simp⟩
  · obtain ⟨ob, es, ep, ho, r⟩ := hn
    exact ⟨ob, es, ep, k _ ob (nN _ I.free) ho, r⟩
  · by_cases hb : b = c
    · rw [hb, upd_same] at e
      cases e
      rw [hb]
      obtain ⟨⟨oc, r1⟩, r2⟩ := id ho
      refine ⟨ho, ?_, fun h1 h2 φ st => code_ext φ st⟩
      obtain ⟨_, _, _, _, _, _, _, _, e1, _⟩ := r1
      exact ⟨_, e1⟩
    · by_cases hb3 : b = P'
      · rw [hb3, atP'] at e
        cases e
        rw [hb3]
        exact ht
      · by_cases hb2 : b = P
        · rw [hb2, atP] at e
          cases e
          rw [hb2]
          exact hm
        · rw [at_ b hb2 hb3 hb] at e
          refine (I.hok b u e).stay (fun d v hd q => k d v ?_ q) (fun d q => by rw [at_ d (nP d _ q (fun q z => by cases z)) (sm2 d _ q) (sm d _ q)]; exact q) fun d xs q => by rw [at_ d (nP d _ q (fun q z => by cases z)) (sm2 d _ q) (sm d _ q)]; exact q
          rcases hd with z | z
          · rw [z]
            exact hb2
          · exact nP d _ z (fun q z => by cases z)
theorem codeX_ne {c P : Addr} {q : Str} (ps : Array Value) : CodeX c P q ≠ .tbl ps := fun z => by
  unfold CodeX at z
  cases z
theorem grow_code {H : Hp} {β : List Addr} {P c P' : Addr} {q : Str} {ps more : Array Value} (hP : H P = some (.tbl ps)) (nC : H c = none) (nP' : H P' = none) : Grow H (upd (upd (upd H P (.tbl (ps ++ more))) P' (.tbl #[])) c (CodeX c P' q)) β β := by
  have at_ : ∀ b u, H b = some u → b ≠ P → upd (upd (upd H P (.tbl (ps ++ more))) P' (.tbl #[])) c (CodeX c P' q) b = H b := fun b u e h1 => by rw [upd_ne (ne_of_none e nC), upd_ne (ne_of_none e nP'), upd_ne h1]
  have nP : ∀ b u, H b = some u → (∀ q, u ≠ .tbl q) → b ≠ P := fun b u e q z => by
    rw [z, hP] at e
    exact q ps (Option.some.inj e).symm
  refine ⟨List.prefix_rfl, fun b xs e => by rw [at_ b _ e (nP b _ e fun q z => by cases z)]; exact e, fun b o u e => by rw [at_ b _ e (nP b _ e fun q z => by cases z)]; exact e, fun b P q e => by rw [at_ b _ e (nP b _ e fun q z => by cases z)]; exact e, fun b qs e => ?_⟩
  by_cases hb : b = P
  · subst hb
    exact ⟨_, by rw [upd_ne (ne_of_none hP nC), upd_ne (ne_of_none hP nP'), upd_same]⟩
  · exact ⟨qs, by rw [at_ b _ e hb]; exact e⟩
theorem among_old {pos p' : Pos} {c cv : Value} (l : List Value) (h : TriplesOk l) (hc : codeAmong p' l = some cv) : codeAmong p' (l ++ [rawInt pos.line, rawInt pos.col, c]) = some cv := by
  fun_induction TriplesOk l with
  | case1 => simp [codeAmong] at hc
  | case2 a t b u x rest ih =>
    simp only [List.cons_append, codeAmong] at hc ⊢
    split at hc
    · rename_i q
      rw [if_pos q]
      exact hc
    · rename_i q
      rw [if_neg q]
      exact ih h hc
  | case3 l h1 h2 => exact h.elim
theorem among_new {pos p' : Pos} {c cv : Value} (l : List Value) (h : TriplesOk l) (hn : codeAmong p' l = none) (hc : codeAmong p' (l ++ [rawInt pos.line, rawInt pos.col, c]) = some cv) : cv = c ∧ pos.line = p'.line ∧ pos.col = p'.col := by
  fun_induction TriplesOk l with
  | case1 =>
    simp only [List.nil_append, rawInt, codeAmong] at hc
    split at hc
    · rename_i q
      rw [Bool.and_eq_true] at q
      have q1 := beq_iff_eq.mp q.1
      have q2 := beq_iff_eq.mp q.2
      refine ⟨(Option.some.inj hc).symm, ?_, ?_⟩
      · omega
      · omega
    · cases hc
  | case2 a t b u x rest ih =>
    simp only [List.cons_append, codeAmong] at hc hn
    split at hn
    · cases hn
    · rename_i q
      rw [if_neg q] at hc
      exact ih h hn hc
  | case3 l h1 h2 => exact h.elim
/-- a new code object with its empty table, in a table -/
theorem At.code {G : Pg} {H : Hp} {β : List Addr} {S : Sto} (x : At G H β S) {P c P' : Addr} {q : Str} {ps : Array Value} {pos : Pos} (hP : H P = some (.tbl ps)) (nC : H c = none) (nP' : H P' = none) (hcP : c ≠ P') (hn : ∀ n, G.nm pos.line pos.col = some n → q = n) :
    At G (upd (upd (upd H P (.tbl (ps ++ #[rawInt pos.line, rawInt pos.col, .ref c]))) P' (.tbl #[])) c (CodeX c P' q)) β S := by
  have g : Grow H (upd (upd (upd H P (.tbl (ps ++ #[rawInt pos.line, rawInt pos.col, .ref c]))) P' (.tbl #[])) c (CodeX c P' q)) β β := grow_code hP nC nP'
  have sB : ∀ b u, H b = some u → (∀ q, u ≠ .tbl q) → upd (upd (upd H P (.tbl (ps ++ #[rawInt pos.line, rawInt pos.col, .ref c]))) P' (.tbl #[])) c (CodeX c P' q) b = some u := fun b u e n => by
    rw [upd_ne (ne_of_none e nC), upd_ne (ne_of_none e nP'), upd_ne (fun z => by rw [z, hP] at e; exact n ps (Option.some.inj e).symm)]
    exact e
  have atP : upd (upd (upd H P (.tbl (ps ++ #[rawInt pos.line, rawInt pos.col, .ref c]))) P' (.tbl #[])) c (CodeX c P' q) P = some (.tbl (ps ++ #[rawInt pos.line, rawInt pos.col, .ref c])) := by rw [upd_ne (ne_of_none hP nC), upd_ne (ne_of_none hP nP'), upd_same]
  have eL : (ps ++ #[rawInt pos.line, rawInt pos.col, Value.ref c]).toList = ps.toList ++ [rawInt pos.line, rawInt pos.col, .ref c] := by simp
  have pc : ∀ b, b ≠ P → b ≠ P' → ∀ qs, upd (upd (upd H P (.tbl (ps ++ #[rawInt pos.line, rawInt pos.col, .ref c]))) P' (.tbl #[])) c (CodeX c P' q) b = some (.tbl qs) → H b = some (.tbl qs) := fun b h1 h2 qs e => by
    by_cases hb : b = c
    · rw [hb, upd_same] at e
      exact absurd (Option.some.inj e) (codeX_ne qs)
    · rw [upd_ne hb, upd_ne h2, upd_ne h1] at e
      exact e
  refine ⟨⟨x.sr.len, x.sr.nd, fun n o e => ?_⟩, ⟨fun p hp => ?_, fun Q qs e => ?_⟩⟩
  · obtain ⟨a, ha, r⟩ := x.sr.at_ n o e
    refine ⟨a, ha, ?_⟩
    cases o with
    | lst xs =>
      obtain ⟨vs, h, r⟩ := r
      exact ⟨vs, sB _ _ h (fun q z => by cases z), r.grow g⟩
    | ro xs =>
      obtain ⟨vs, o', h, r⟩ := r
      exact ⟨vs, o', sB _ _ h (fun q z => by cases z), r.grow g⟩
    | dct kvs =>
      obtain ⟨q', h, r⟩ := r
      exact ⟨q', sB _ _ h (fun q z => by cases z), r.grow g⟩
    | tset ks =>
      obtain ⟨L, h, r, pm⟩ := r
      exact ⟨L, sB _ _ h (fun q z => by cases z), fun p hp => SqT.grow g (r p hp), pm⟩
    | iset ks =>
      obtain ⟨F, c, h, r⟩ := r
      exact ⟨F, c, sB _ _ h (fun q z => by cases z), r⟩
  · obtain ⟨qs, e⟩ := x.tb.base p hp
    exact g.tbl _ _ e
  · have old : ∀ (pos' : Pos) (cv : Value), (∃ c0 P0 q0, cv = Value.ref c0 ∧ H c0 = some (CodeX c0 P0 q0) ∧ (∀ n, G.nm pos'.line pos'.col = some n → q0 = n) ∧ ∃ ps', H P0 = some (.tbl ps')) →
        ∃ c0 P0 q0, cv = Value.ref c0 ∧ upd (upd (upd H P (.tbl (ps ++ #[rawInt pos.line, rawInt pos.col, .ref c]))) P' (.tbl #[])) c (CodeX c P' q) c0 = some (CodeX c0 P0 q0) ∧ (∀ n, G.nm pos'.line pos'.col = some n → q0 = n) ∧ ∃ ps', upd (upd (upd H P (.tbl (ps ++ #[rawInt pos.line, rawInt pos.col, .ref c]))) P' (.tbl #[])) c (CodeX c P' q) P0 = some (.tbl ps') := fun pos' cv ⟨c0, P0, q0, e1, e2, e3, ps', e4⟩ =>
      ⟨c0, P0, q0, e1, sB _ _ e2 (fun z => codeX_ne z), e3, g.tbl _ _ e4⟩
    by_cases h1 : Q = P
    · subst h1
      rw [atP] at e
      cases e
      obtain ⟨t1, t2⟩ := x.tb.ok _ _ hP
      refine ⟨by rw [eL]; exact PySem.TriplesOk_snoc _ _ _ _ t1, fun pos' cv hcv => ?_⟩
      rw [eL] at hcv
      cases hf : codeAmong pos' ps.toList with
      | some cv' =>
        have : cv = cv' := by
          have z := among_old _ t1 hf (pos := pos) (c := .ref c)
          rw [hcv] at z
          exact Option.some.inj z
        subst this
        exact old pos' cv (t2 pos' cv hf)
      | none =>
        obtain ⟨z1, z2, z3⟩ := among_new _ t1 hf hcv
        refine ⟨c, P', q, z1, upd_same, fun n hn' => hn n ?_, #[], by rw [upd_ne (Ne.symm hcP), upd_same]⟩
        rw [z2, z3]
        exact hn'
    · by_cases h2 : Q = P'
      · subst h2
        rw [upd_ne (Ne.symm hcP), upd_same] at e
        cases e
        exact ⟨True.intro, fun pos' cv hcv => by
          have z : codeAmong pos' [] = some cv := hcv
          simp [codeAmong] at z⟩
      · obtain ⟨t1, t2⟩ := x.tb.ok _ _ (pc Q h1 h2 qs e)
        exact ⟨t1, fun pos' cv hcv => old pos' cv (t2 pos' cv hcv)⟩
end
end EV
/-! EvX: a generator's frame begins, sleeps and wakes (own work; the walks follow HandS.Comp's and HandS.GenBody's). -/
namespace EV
open PySem PySem.Spec PyProof.Rows L2 GenW
abbrev gEnv (X : Cx) (scope : Scope) (C : Addr) (code : Value) : PySem.Env := genEnv scope (cloFrom X.env.cells scope.names []) C code builtinsNs X.env
/-- the context of a generator's frame -/
abbrev gx (X : Cx) (A : Around) (s : Shared) (H : Hp) (ce : PySem.Env) (fp : List Addr) (pn : List (Addr × Obj)) : Cx :=
  { X with A := A.deeper ce, s_0 := s, H_0 := H, env := ce, outer := X.stack, stack := ce :: X.stack, ex := fp, fn := fun _ => false, pn := pn, xe := fun _ _ => False }
section
variable {X : Cx} {pins : List (Addr × Obj)} {σ : L2.St} {H : Hp} {s : Shared}
theorem clo_lt {scope : Scope} {own : List (Str × Nat)} (I : Inv X pins σ H s) (ok : BlkOk X.N X.env.scope scope own) {y : Str} {c : Addr} (e : (cloFrom X.env.cells scope.names []).lookup y = some c) : c < s.heap.objs.size := by
  have hfree : ∀ y ∈ scope.names, y.2 = .free → ∃ c, X.env.cells.lookup y.1 = some c := fun y hy e => by
    rcases ok.free y hy e with k | k
    · exact I.ok.has _ (.inl k)
    · exact I.ok.has _ (.inr k)
  rcases cloFrom_mem (PySem.mem_of_lookup e) with hm | ⟨h1, h2⟩
  · cases hm
  · obtain ⟨c1, hc⟩ := hfree _ h1 rfl
    have hc : X.env.cells.lookup y = some c1 := hc
    have e2 : c = (X.env.cells.lookup y).getD 0 := h2
    rw [hc] at e2
    have e3 : c = c1 := e2
    subst e3
    obtain ⟨w, z⟩ := I.cell _ _ hc
    exact z.lt
theorem gen_start {A : Around} {scope : Scope} {own : List (Str × Nat)} {fp : List Addr} {code itv : Value} {h' : Heap} {g' : Array GenState} {d' : Drawn} {t' : Nat} (I : Inv X pins σ H s) (ok : BlkOk X.N X.env.scope scope own) (hN : X.N.Nodup) (hcell : ∀ y ∈ scope.names, y.2 ≠ .cell)
    (hfp : ∀ b ∈ fp, FpOk X pins H b ∧ b < s.heap.objs.size) (hd : A.handled = none) (hfr : A.frames = some X.stack) (hns : h'.Ns s.heap.objs.size (fun y => if y = (".0" : Str) then some itv else none))
    (kp : ∀ b o, s.heap.get? b = some o → h'.get? b = some o) (hg : AllBare g') :
    Inv (gx X A s H (gEnv X scope s.heap.objs.size code) fp []) [] (L2.wipe σ (own.map (·.2))) H { s with heap := h', gens := g', drawn := d', toks := t' } := by
  have hfree : ∀ y ∈ scope.names, y.2 = .free → ∃ c, X.env.cells.lookup y.1 = some c := fun y hy e => by
    rcases ok.free y hy e with k | k
    · exact I.ok.has _ (.inl k)
    · exact I.ok.has _ (.inr k)
  have cm : ∀ {y c}, (cloFrom X.env.cells scope.names []).lookup y = some c → X.env.cells.lookup y = some c ∧ c < s.heap.objs.size := fun {y c} e => by
    rcases cloFrom_mem (PySem.mem_of_lookup e) with hm | ⟨h1, h2⟩
    · cases hm
    · obtain ⟨c1, hc⟩ := hfree _ h1 rfl
      have hc : X.env.cells.lookup y = some c1 := hc
      have e2 : c = (X.env.cells.lookup y).getD 0 := h2
      rw [hc] at e2
      have e3 : c = c1 := e2
      subst e3
      obtain ⟨w, z⟩ := I.cell _ _ hc
      exact ⟨hc, z.lt⟩
  have look : ∀ {y}, scope.names.lookup y = some .free → ∃ c, (cloFrom X.env.cells scope.names []).lookup y = some c ∧ X.env.cells.lookup y = some c := fun {y} hl => by
    obtain ⟨c', e'⟩ := mem_lookup (cloFrom_has (cells := X.env.cells) (acc := []) (PySem.mem_of_lookup hl))
    exact ⟨c', e', (cm e').1⟩
  have noc : ∀ y, scope.names.lookup y ≠ some .cell := fun y e => hcell _ (PySem.mem_of_lookup e) rfl
  have okB : (gx X A s H (gEnv X scope s.heap.objs.size code) fp []).Ok := by
    refine ⟨I.ok.mod, ok.kind, I.ok.glob, rfl, Nat.le_refl _, fun y z c e1 e2 => ?_, fun y hy => ?_, fun y c z e => absurd z (by simp), fun _ => hd, Around.frames_deeper hfr, .inr ⟨rfl, rfl⟩, fun b hb => ⟨?_, fun y c e z => ?_⟩, I.bs, Nat.le_trans I.ok.bsz I.sz, fun b o e hb => ?_, fun b hb z => ?_, I.stack, I.stkFree⟩
    · exact I.ok.inj y z c (cm e1).1 (cm e2).1
    · rcases hy with hy | hy
      · exact absurd hy (noc y)
      · obtain ⟨c, h1, _⟩ := look hy
        exact ⟨c, h1⟩
    · exact Nat.ne_of_lt (hfp b hb).2
    · exact (hfp b hb).1.2.2.2.2.1 y c (cm e).1 z
    · rcases (hfp b hb).1.2.2.2.1 with z | z
      · exact I.ok.noex b o e z
      · exact absurd (Nat.lt_of_lt_of_le (Heap.lt_size e) (Nat.le_trans I.ok.bsz z)) (Nat.lt_irrefl _)
    · rcases List.mem_cons.mp (I.stkSub b z) with z | z
      · exact (hfp b hb).1.2.1 z
      · exact (hfp b hb).1.2.2.1 z
  refine ⟨okB, rfl, hg, Un.kept kp, ⟨_, hns, fun i y av e1 e2 e3 => ?_⟩, fun y c e => ?_, I.hok.fresh (Nat.le_refl _), fun y c e => I.freeC y c (cm e).1, fun p hp => absurd (show p ∈ ([] : List (Addr × Obj)) ++ [] from hp) (by simp), I.hok.kept kp, by rw [L2.wipe_length]; exact I.len⟩
  · obtain ⟨e2, hne⟩ := wipe_some e2
    have no : ∀ k, scope.names.lookup y = some k → ¬ (k = .local ∨ k = .cell) := fun k e hh => by
      rcases ok.own _ (PySem.mem_of_lookup e) hh with e' | e'
      · obtain ⟨p, hp, hpy⟩ := List.mem_map.mp e'
        have e3 := ok.ix p hp
        have : p.1 = y := hpy
        rw [this] at e3
        exact hne (List.mem_map.mpr ⟨p, hp, nodup_ix hN e3 e1⟩)
      · exact e' (List.mem_of_getElem? e1)
    have hfr : scope.names.lookup y = some .free := by
      have e3 : Vis scope y := e3
      rcases e3 with e3 | e3 | e3
      · exact absurd (.inl rfl) (no _ e3)
      · exact absurd (.inr rfl) (no _ e3)
      · exact e3
    obtain ⟨m, hn, hl⟩ := I.loc
    have hvis : Vis X.env.scope y := (ok.free _ (PySem.mem_of_lookup hfr) rfl).elim (fun k => .inr (.inl k)) (fun k => .inr (.inr k))
    obtain ⟨w, r, q⟩ := hl i y av e1 e2 hvis
    refine ⟨w, r, .inr ⟨.inr hfr, ?_⟩⟩
    obtain ⟨c, h1, h2⟩ := look hfr
    rcases q with ⟨k, _⟩ | ⟨_, c', e', z⟩
    · have k : X.env.scope.names.lookup y = some .local := k
      rcases ok.free _ (PySem.mem_of_lookup hfr) rfl with k' | k' <;> rw [show X.env.scope.names.lookup y = _ from k'] at k <;> cases k
    · rw [h2] at e'; cases e'
      exact ⟨c, h1, z.keeps kp⟩
  · obtain ⟨w, z⟩ := I.cell y c (cm e).1
    exact ⟨w, z.keeps kp⟩
/-- more is pinned in the context -/
theorem gen_pinned {A : Around} {ce : PySem.Env} {fp : List Addr} {H0 : Hp} {s0 : Shared} {pn pins2 : List (Addr × Obj)} (I : Inv (gx X A s0 H0 ce fp []) [] σ H s)
    (h : ∀ p ∈ pn ++ pins2, s.heap.get? p.1 = some p.2 ∧ H p.1 = none ∧ p.1 ≠ ce.locals ∧ p.1 ∉ frs X.stack ∧ ∀ v, p.2.data ≠ .cell v) : Inv (gx X A s0 H0 ce fp pn) pins2 σ H s :=
  ⟨⟨I.ok.mod, I.ok.kind, I.ok.glob, I.ok.blt, I.ok.above, I.ok.inj, I.ok.has, I.ok.cab, I.ok.hd, I.ok.frames, I.ok.stk, I.ok.exf, I.ok.bs, I.ok.bsz, I.ok.noex, I.ok.exfs, I.ok.funs, I.ok.frf⟩, I.os, I.bare, I.base, I.loc, I.cell, I.free, I.freeC, h, I.hok, I.len⟩
/-- the consumer's objects -/
def CsOk (Y : Cx) (cs : List Addr) : Prop := ∀ b ∈ cs, Y.s_0.heap.objs.size ≤ b ∧ b ≠ Y.env.locals ∧ (∀ x c, Y.env.cells.lookup x = some c → c ≠ b) ∧ ∀ p ∈ Y.pn, p.1 ≠ b
/-- while the generator sleeps its consumer writes its own objects alone -/
structure SleptC (cs : List Addr) (s s' : Shared) : Prop where
  os : s'.os = s.os
  bare : AllBare s'.gens
  keep : ∀ b o, b ∉ cs → s.heap.get? b = some o → s'.heap.get? b = some o
  own : ∀ b ∈ cs, ∃ o, s'.heap.get? b = some o ∧ ∀ v, o.data ≠ .cell v
theorem gen_woken {Y : Cx} {cs : List Addr} {h0 : Heap} {s' : Shared} (I : Inv Y (pinsAt cs h0) σ H s) (hc : CsOk Y cs) (h0c : ∀ b ∈ cs, ∃ o, h0.get? b = some o) (z : SleptC cs s s') : Inv Y (pinsAt cs s'.heap) σ H s' := by
  have pinC : ∀ b ∈ cs, H b = none ∧ b ≠ Y.env.locals ∧ b ∉ Y.fs := fun b hb => by
    obtain ⟨o, e⟩ := h0c b hb
    obtain ⟨_, h2, h3, h4, _⟩ := I.pin (b, o) (List.mem_append_right _ (mem_pinsAt hb e))
    exact ⟨h2, h3, h4⟩
  have I0 : Inv Y [] σ H s := I.pins_of fun p hp => by simp at hp
  obtain ⟨z1, z2, z3, z4⟩ := z
  obtain ⟨hh, g, d, t, o⟩ := s'
  have ho : o = s.os := z1
  subst ho
  have nt : ∀ b u, H b = some u → b ∉ cs := fun b u q hb => by rw [(pinC b hb).1] at q; cases q
  have J : Inv Y [] σ H { s with heap := hh, gens := g, drawn := d, toks := t } := by
    refine I0.step (g' := g) (t' := t) (d' := d) (ch := cs) (fun b hb => ?_)
      (fun b ob _ _ hc q _ => z3 b ob hc q) (fun b ob _ _ hc q _ => ⟨ob.slots, z3 b ob hc q⟩) (fun _ _ _ _ n => n) (fun b ob hc q => ⟨ob, z3 b ob hc q⟩)
      (fun _ _ q => q) (fun _ _ _ q => q) (fun b ps q => ⟨#[], by rw [q]; simp⟩) (fun m hm => ?_) (fun b u q => ?_) z2
    · obtain ⟨c1, c2, c3, c4⟩ := hc b hb
      exact ⟨.inr c1, c2, c3, fun p hp => c4 p (by simpa using hp)⟩
    · obtain ⟨ob, es, ep, ho, r⟩ := hm
      exact ⟨ob, es, ep, z3 _ ob (fun hb => (pinC _ hb).2.1 rfl) ho, r⟩
    · refine (I0.hok b u q).stay (fun c v hc y => z3 c v ?_ y) (fun _ y => y) fun _ _ y => y
      rcases hc with y | y
      · rw [y]; exact nt b u q
      · exact nt c _ y
  refine J.pins_of fun p hp => ?_
  obtain ⟨hb, e⟩ := of_pinsAt hp
  obtain ⟨o', e', hd⟩ := z4 p.1 hb
  have e'' : hh.get? p.1 = some o' := e'
  have e3 : hh.get? p.1 = some p.2 := e
  rw [e3] at e''
  cases e''
  obtain ⟨h1, h2, h3⟩ := pinC p.1 hb
  exact ⟨e3, h1, h2, h3, hd⟩
theorem over_loopG {A : Around} {elt tg iter : Expr} {ifs : List Expr} {scope : Scope} {pos : Pos} {it acc : Value} {env : PySem.Env} : A.over (.compLoop (.GeneratorExp elt [⟨tg, iter, ifs, 0⟩] scope pos) 0 it acc env) [] = A.deeper env := by
  first
    | rfl
    | (obtain ⟨hd, d, fr, gs, u⟩ := A; simp [Around.over, Around.deeper, marksOver, frameCount, unitsOf, envsOf, guardsOf, pushEnvs, pushGuards, Code.envs, Code.env?, Code.isFrame, Code.guards, Code.isGuard, Code.weight, Code.frames, Code.isCreation, Code.isCaller, Code.cUnits])
theorem over_startG {A : Around} {elt tg iter : Expr} {ifs : List Expr} {scope : Scope} {pos : Pos} {it acc : Value} {env : PySem.Env} : A.over (.compStart (.GeneratorExp elt [⟨tg, iter, ifs, 0⟩] scope pos) 0 it acc env) [] = A.deeper env := by
  first
    | rfl
    | (obtain ⟨hd, d, fr, gs, u⟩ := A; simp [Around.over, Around.deeper, marksOver, frameCount, unitsOf, envsOf, guardsOf, pushEnvs, pushGuards, Code.envs, Code.env?, Code.isFrame, Code.guards, Code.isGuard, Code.weight, Code.frames, Code.isCreation, Code.isCaller, Code.cUnits])
end
end EV
/-! EvY: a generator's run, against a consumer (own work; the walk follows PyProof.GenComp's). -/
namespace EV
open PySem PySem.Spec PyProof.Rows L2 GenW
/-- a consumer: what it wants of an item, with what it is told of its being woken; what it wants of the end -/
structure Con (τ : Type) where
  yd : τ → D → Sto → (τ → Prop) → Prop
  en : τ → Sto → Prop
def gDem {τ : Type} (C : Con τ) (tests : Env → Sto → M Bool) (elt : Env → Sto → M D) (t : Tg) (g : Option (Nat × List D)) (ρ : Env) : List D → τ → Sto → Prop
  | [], k, S => still g S = true ∧ C.en k S
  | x :: xs, k, S => still g S = true ∧ ∃ ρ', asg t x ρ = some ρ' ∧ RW (tests ρ' S) (fun b S1 => if b then RW (elt ρ' S1) (fun d S2 => C.yd k d S2 fun k' => gDem C tests elt t g ρ xs k' S2) (fun _ _ => False) else gDem C tests elt t g ρ xs k S1) (fun _ _ => False)
section
variable {L : Lw} {X : Cx} {cf : Cf} {A : Around} {sc : Shared} {H1 : Hp} {β1 : List Addr} {ce : PySem.Env} {fp : List Addr} {a : Addr} {go : Obj} {g : Nat} {cs : List Addr} {τ : Type} {C : Con τ}
/-- what the consumer may know of the state -/
structure GAt (L : Lw) (X : Cx) (sc : Shared) (H1 : Hp) (β1 : List Addr) (fp : List Addr) (a : Addr) (g : Nat) (s : Shared) (H : Hp) (β : List Addr) (S : Sto) : Prop where
  os : s.os = sc.os
  bare : AllBare s.gens
  gen : s.heap.IsGen a g
  lim : s.heap.NoLimit
  un : Un (frs X.stack) fp H1 H sc.heap s.heap
  hok : HOk X.prog X.w H s.heap
  at_ : At L.G H β S
  grow : Grow H1 H β1 β
/-- what the consumer holds of its own objects -/
structure CSt (L : Lw) (cs : List Addr) (CS : τ → Hp → List Addr → Heap → Prop) : Prop where
  keep : ∀ k H β h H' β' h', CS k H β h → Grow H H' β β' → (∀ b ∈ cs, ∀ o, h.get? b = some o → h'.get? b = some o) → CS k H' β' h'
def GFin (L : Lw) (X : Cx) (sc : Shared) (H1 : Hp) (β1 : List Addr) (fp : List Addr) (a : Addr) (g : Nat) (cs : List Addr) (C : Con τ) (CS : τ → Hp → List Addr → Heap → Prop) : Nat → Shared → Shared → Prop := fun n s₀ s1 =>
  (∀ b ∈ cs, ∀ o, s₀.heap.get? b = some o → s1.heap.get? b = some o) ∧ ∃ k S H β, GAt L X sc H1 β1 fp a g s1 H β S ∧ (∀ b ∈ cs, H b = none) ∧ CS k H β s1.heap ∧ C.en k S
def GEnd (L : Lw) (X : Cx) (sc : Shared) (H1 : Hp) (β1 : List Addr) (fp : List Addr) (a : Addr) (g : Nat) (cs : List Addr) (C : Con τ) (CS : τ → Hp → List Addr → Heap → Prop) : PySem.GenEnd := fun n s₀ r s1 =>
  ((r = .ok (.ret .none) ∨ r = .ok .next) ∧ GFin L X sc H1 β1 fp a g cs C CS n s₀ s1) ∨ ∃ e, r = .error e ∧ (fun (_ : Value) (_ : Shared) => False) e s1
def GYp (L : Lw) (X : Cx) (sc : Shared) (H1 : Hp) (β1 : List Addr) (fp : List Addr) (a : Addr) (g : Nat) (cs : List Addr) (C : Con τ) (CS : τ → Hp → List Addr → Heap → Prop) : Protocol := fun n s₀ u s kap =>
  (∀ b ∈ cs, ∀ o, s₀.heap.get? b = some o → s.heap.get? b = some o) ∧ ∃ k d v S H β K, GAt L X sc H1 β1 fp a g s H β S ∧ (∀ b ∈ cs, H b = none) ∧ CS k H β s.heap ∧ RelV v u ∧ RV L.G H β d v ∧ C.yd k d S K ∧ ∀ k' s', K k' → SleptC cs s s' → CS k' H β s'.heap → kap (.send .none) s'
variable {it : Addr} {tn : Nat → Heap → Prop} {J : It} {w : Walk} {own : List Nat} {σ : L2.St} {ρ : Env} {tg elt iter : Expr} {ifs : List Expr} {scope : Scope} {pos : Pos} {t : Tg} {Ifs : Es} {Elt : E} {CS : τ → Hp → List Addr → Heap → Prop}
theorem gat_of {pins : List (Addr × Obj)} {σ' : L2.St} {H : Hp} {s : Shared} {β : List Addr} {S : Sto} (hgo : ∀ h : Heap, h.get? a = some go → h.IsGen a g) (I : Inv (gx X A sc H1 ce fp [(a, go)]) pins σ' H s) (at_ : At L.G H β S) (gr : Grow H1 H β1 β) : GAt L X sc H1 β1 fp a g s H β S :=
  ⟨I.os, I.bare, hgo _ (I.pin (a, go) (List.mem_append_left _ (List.mem_singleton.mpr rfl))).1, I.nolimit, I.base, I.hok, at_, gr⟩
theorem pins_at {Y : Cx} {pins : List (Addr × Obj)} {σ' : L2.St} {H : Hp} {s : Shared} {h0 : Heap} (I : Inv Y pins σ' H s) (hp : ∀ p ∈ pinsAt cs h0, p ∈ pins) : ∀ b ∈ cs, ∀ o, h0.get? b = some o → s.heap.get? b = some o ∧ H b = none := fun b hb o e =>
  let z := I.pin (b, o) (List.mem_append_right _ (hp _ (mem_pinsAt hb e)))
  ⟨z.1, z.2.1⟩
theorem gen_loop (hc : X.calm = true) (T : Turn X.prog X.w X.K tg J fp it tn) (jr : JR L w J H1 β1) (pg : PG (gx X A sc H1 ce fp [(a, go)]) tg (gOf L (· ∈ own) t)) (pt : PTs (gx X A sc H1 ce fp [(a, go)]) ifs (OfT0 L X.base ce.code (evIfs L.G.con cf Ifs)))
    (pe : PE (gx X A sc H1 ce fp [(a, go)]) elt (OfE0 L X.base ce.code (evE L.G.con cf Elt))) (hgo : ∀ h : Heap, h.get? a = some go → h.IsGen a g) (hco : ce.scope.isCoroutine = false) (fpa : ∀ b ∈ fp, b ≠ a ∧ b ∉ cs) (hcs : CsOk (gx X A sc H1 ce fp [(a, go)]) cs)
    (hCS : CSt L cs CS) (er : ER0 L X.base ce.code H1 β1 ρ (L2.wipe σ own)) : ∀ (xs : List D) (i n : Nat) (s₀ s : Shared) (k : τ) (S : Sto) (H : Hp) (β : List Addr), w.1.drop i = xs → i ≤ w.1.length → xs.length ≤ n → Inv (gx X A sc H1 ce fp [(a, go)]) (pinsAt cs s₀.heap) (L2.wipe σ own) H s → tn i s.heap →
      (∀ b ∈ fp, H b = none) → (∀ b ∈ cs, ∃ o, s₀.heap.get? b = some o) → Grow H1 H β1 β → At L.G H β S → CS k H β s.heap → gDem C (evIfs L.G.con cf Ifs) (evE L.G.con cf Elt) t w.2 ρ xs k S →
      Seg (model X.prog X.w) A (GEnd L X sc H1 β1 fp a g cs C CS) (GYp L X sc H1 β1 fp a g cs C CS) n s₀ (.compLoop (.GeneratorExp elt [⟨tg, iter, ifs, 0⟩] scope pos) 0 (.ref it) .none ce)
        ((model X.prog X.w).den (.compLoop (.GeneratorExp elt [⟨tg, iter, ifs, 0⟩] scope pos) 0 (.ref it) .none ce)) [] s := by
  have stat : ∀ {pins : List (Addr × Obj)} {σ' : L2.St} {H' : Hp} {s' : Shared} {s₀ : Shared}, Inv (gx X A sc H1 ce fp [(a, go)]) pins σ' H' s' → (∀ p ∈ pins, p ∈ pinsAt cs s₀.heap) → (∀ b ∈ fp, H' b = none) → ∀ b ∈ fp, FpOk (gx X A sc H1 ce fp [(a, go)]) pins H' b := fun {pins σ' H' s' s₀} I' hp hn b hb =>
    ⟨hn b hb, (I'.ok.exf b hb).1, I'.ok.exfs b hb, .inl hb, fun x c e => (I'.ok.exf b hb).2 x c e, fun p hp' => by
      rcases List.mem_append.mp hp' with z | z
      · rw [List.mem_singleton.mp z]
        exact Ne.symm (fpa b hb).1
      · exact fun e => (fpa b hb).2 (e ▸ (of_pinsAt (hp p z)).1)⟩
  intro xs
  induction xs with
  | nil =>
    intro i n s₀ s k S H β hd hi hl I st nf hs0 gr at_ cst dem
    have ei : i = w.1.length := by
      have := congrArg List.length hd
      simp only [List.length_drop, List.length_nil] at this
      omega
    subst ei
    obtain ⟨hst, hen⟩ := dem
    show Seg _ A _ _ _ s₀ _ ((compTurn (.GeneratorExp elt [⟨tg, iter, ifs, 0⟩] scope pos) 0 (.ref it) .none ce).onRaise (leaving ce)) [] s
    rw [compTurn_gen, Sem.onRaise_eq_wrap]
    refine seg_bind_wrap (wpAny_standAt ?_)
    refine seg_bind_wrap ?_
    rw [over_loopG]
    refine thnF (T.done (gx X A sc H1 ce fp [(a, go)]) rfl rfl rfl hc _ _ s _ H (fun _ _ => False) I (stat I (fun p z => z) nf) st (jr.stop H β S gr at_ hst)) fun r s1 ⟨hr, I1⟩ => ?_
    subst hr
    have pk := pins_at (cs := cs) I1 (fun p z => z)
    refine seg_end (.ok .next) (.inl ⟨.inr rfl, fun b hb o e => (pk b hb o e).1, k, S, H, β, gat_of hgo I1 at_ gr, fun b hb => let ⟨o, e⟩ := hs0 b hb; (pk b hb o e).2, hCS.keep _ _ _ _ _ _ _ cst Grow.refl fun b hb o e => ?_, hen⟩)
    obtain ⟨o', e'⟩ := hs0 b hb
    have e2 := (pins_at (cs := cs) I (fun p z => z) b hb o' e').1
    rw [e] at e2
    cases e2
    exact (pk b hb o e').1
  | cons x xs ih =>
    intro i n s₀ s k S H β hd hi hl I st nf hs0 gr at_ cst dem
    have hlt : i < w.1.length := by
      have := congrArg List.length hd
      simp only [List.length_drop, List.length_cons] at this
      omega
    have hx : w.1[i]? = some x := by
      have := congrArg (·[0]?) hd
      simpa using this
    have hd' : w.1.drop (i + 1) = xs := by
      rw [← List.drop_drop, hd]
      rfl
    obtain ⟨m, rfl⟩ : ∃ m, n = m + 1 := ⟨n - 1, by simp only [List.length_cons] at hl; omega⟩
    obtain ⟨hst, ρ', ha, dem⟩ := dem
    obtain ⟨go', yl⟩ := jr.go i x H β S hx gr at_ hst
    show Seg _ A _ _ _ s₀ _ ((compTurn (.GeneratorExp elt [⟨tg, iter, ifs, 0⟩] scope pos) 0 (.ref it) .none ce).onRaise (leaving ce)) [] s
    rw [compTurn_gen, Sem.onRaise_eq_wrap]
    refine seg_bind_wrap (wpAny_standAt ?_)
    refine seg_bind_wrap ?_
    rw [over_loopG]
    refine thnF (T.item (gx X A sc H1 ce fp [(a, go)]) rfl rfl rfl hc _ _ s _ H (fun _ _ => False) I (stat I (fun p z => z) nf) st go') fun r s1 ⟨u, hr, h6⟩ => ?_
    subst hr
    refine seg_bind_wrap ?_
    rw [over_loopG]
    refine thnF h6 fun _ s7 ⟨v, H7, I7, r7, y7, st7, n7⟩ => ?_
    obtain ⟨gy, aty, rx⟩ := yl v H7 y7
    have I7' := I7.pinned (stat I7 (fun p z => z) n7) (T.obj _ _ st7)
    have cst7 : CS k H7 β s7.heap := hCS.keep _ _ _ _ _ _ _ cst gy fun b hb o e => by
      obtain ⟨o', e'⟩ := hs0 b hb
      have e2 := (pins_at (cs := cs) I (fun p z => z) b hb o' e').1
      rw [e] at e2
      cases e2
      exact (pins_at (cs := cs) I7 (fun p z => z) b hb o e').1
    have gr7 := gr.trans gy
    -- what stands at the consumer's addresses, later
    have later : ∀ {σ' : L2.St} {H' : Hp} {s' : Shared} {β' : List Addr}, Inv (gx X A sc H1 ce fp [(a, go)]) (pinsAt cs s₀.heap ++ pinsAt fp s7.heap) σ' H' s' → Grow H7 H' β β' → CS k H' β' s'.heap := fun {σ' H' s' β'} I' g' => hCS.keep _ _ _ _ _ _ _ cst7 g' fun b hb o e => by
      obtain ⟨o', e'⟩ := hs0 b hb
      have e2 := (pins_at (cs := cs) I7' (fun p z => List.mem_append_left _ z) b hb o' e').1
      rw [e] at e2
      cases e2
      exact (pins_at (cs := cs) I' (fun p z => List.mem_append_left _ z) b hb o e').1
    have fpl : ∀ {σ' : L2.St} {H' : Hp} {s' : Shared}, Inv (gx X A sc H1 ce fp [(a, go)]) (pinsAt cs s₀.heap ++ pinsAt fp s7.heap) σ' H' s' → tn (i + 1) s'.heap ∧ ∀ b ∈ fp, H' b = none := fun {σ' H' s'} I' => by
      have pin' : ∀ b ∈ fp, ∀ o, s7.heap.get? b = some o → s'.heap.get? b = some o ∧ H' b = none := fun b hb o e =>
        let z := I'.pin (b, o) (List.mem_append_right _ (List.mem_append_right _ (mem_pinsAt hb e)))
        ⟨z.1, z.2.1⟩
      refine ⟨T.keep _ _ _ st7 fun b hb o e => (pin' b hb o e).1, fun b hb => ?_⟩
      obtain ⟨o, e, _⟩ := T.obj _ _ st7 b hb
      exact (pin' b hb o e).2
    have fgt : ∀ {σ' : L2.St} {H' : Hp} {s' : Shared}, L2.wipe σ' own = L2.wipe σ own → Inv (gx X A sc H1 ce fp [(a, go)]) (pinsAt cs s₀.heap ++ pinsAt fp s7.heap) σ' H' s' → Inv (gx X A sc H1 ce fp [(a, go)]) (pinsAt cs s₀.heap) (L2.wipe σ own) H' s' := fun {σ' H' s'} hw I' => by
      have hl : (L2.wipe σ own).length = σ'.length := by rw [← hw, L2.wipe_length]
      refine (I'.unpinned (pins := pinsAt cs s₀.heap)).weak hl (fun j v e => ?_)
      rw [← hw] at e
      exact (wipe_some e).1
    refine seg_bind_wrap ?_
    rw [over_loopG]
    refine thnF (pg.run _ s7 _ H7 v u (fun σ8 H8 => H8 = H7 ∧ RB L X.base ce.code σ own H7 β ρ' σ8) I7' r7 ⟨RB L X.base ce.code σ own, sets_rb _ _, x, ρ, ρ', S, β, rx, ⟨er.grow gr7, wipe_wipe _ _⟩, aty, ha, fun σ8 hrb => ⟨rfl, hrb⟩⟩) fun _ s8 ⟨σ8, H8, I8, e8, hrb⟩ => ?_
    subst e8
    refine seg_bind_wrap ?_
    rw [over_loopG]
    refine thnF (pt.run _ s8 σ8 H8 (fun b H9 => ∃ S9 β9, Grow H8 H9 β β9 ∧ At L.G H9 β9 S9 ∧ (if b then RW (evE L.G.con cf Elt ρ' S9) (fun d S2 => C.yd k d S2 fun k' => gDem C (evIfs L.G.con cf Ifs) (evE L.G.con cf Elt) t w.2 ρ xs k' S2) (fun _ _ => False) else gDem C (evIfs L.G.con cf Ifs) (evE L.G.con cf Elt) t w.2 ρ xs k S9)) I8
      ⟨ρ', S, β, hrb.1, aty, dem.mono (fun b S9 q w H9 β9 g9 at9 e => by subst e; exact ⟨S9, β9, g9, at9, q⟩) fun _ _ z => z⟩) fun ok s9 ⟨H9, I9, S9, β9, g9, at9, q9⟩ => ?_
    cases ok with
    | false =>
      simp only [Bool.false_eq_true, if_false] at q9 ⊢
      exact seg_again rfl (ih (i + 1) (m + 1) s₀ s9 k S9 H9 β9 hd' hlt (by simp only [List.length_cons] at hl; omega) (fgt hrb.2 I9) (fpl I9).1 (fpl I9).2 hs0 (gr7.trans g9) at9 (later I9 g9) q9)
    | true =>
      simp only [if_true] at q9 ⊢
      have hy : ∀ v, yieldOut ce v = yieldValue v := fun v => by simp only [yieldOut, hco, Bool.false_eq_true, if_false]
      simp only [hy]
      rw [Sem.bind_eq_wrap', Sem.bind_eq_wrap', Sem.wrap_wrap, Sem.wrap_wrap]
      refine seg_wrap ?_
      rw [over_loopG]
      refine thnF (pe.run _ s9 σ8 H9 (fun y H10 => ∃ d S10 β10, Grow H9 H10 β9 β10 ∧ At L.G H10 β10 S10 ∧ RV L.G H10 β10 d y ∧ C.yd k d S10 fun k' => gDem C (evIfs L.G.con cf Ifs) (evE L.G.con cf Elt) t w.2 ρ xs k' S10) I9
        ⟨ρ', S9, β9, hrb.1.grow g9, at9, q9.mono (fun d S10 q y H10 β10 g10 at10 r => ⟨d, S10, β10, g10, at10, r, q⟩) fun _ _ z => z⟩) fun y s10 ⟨yv, H10, I10, r10, d, S10, β10, g10, at10, rd, hyd⟩ => ?_
      have I11 := fgt hrb.2 I10
      have pk := pins_at (cs := cs) I11 (fun p z => z)
      refine seg_at (seg_yield rfl rfl rfl ⟨fun b hb o e => (pk b hb o e).1, k, d, yv, S10, H10, β10, _, gat_of hgo I11 at10 ((gr7.trans g9).trans g10), fun b hb => let ⟨o, e⟩ := hs0 b hb; (pk b hb o e).2, later I10 (g9.trans g10), r10, rd, hyd, fun k' s' hk sl cst' => ?_⟩)
      exact seg_again rfl (ih (i + 1) m s' s' k' S10 H10 β10 hd' hlt (by simp only [List.length_cons] at hl; omega) (gen_woken I11 hcs hs0 sl) (T.keep _ _ _ (fpl I10).1 fun b hb o e => sl.keep b o (fpa b hb).2 e) (fpl I10).2 (fun b hb => let ⟨o, e, _⟩ := sl.own b hb; ⟨o, e⟩) ((gr7.trans g9).trans g10) at10 cst' hk)
/-- from its start -/
theorem gen_seg (hc : X.calm = true) (T : Turn X.prog X.w X.K tg J fp it tn) (jr : JR L w J H1 β1) (pg : PG (gx X A sc H1 ce fp [(a, go)]) tg (gOf L (· ∈ own) t)) (pt : PTs (gx X A sc H1 ce fp [(a, go)]) ifs (OfT0 L X.base ce.code (evIfs L.G.con cf Ifs)))
    (pe : PE (gx X A sc H1 ce fp [(a, go)]) elt (OfE0 L X.base ce.code (evE L.G.con cf Elt))) (hgo : ∀ h : Heap, h.get? a = some go → h.IsGen a g) (hco : ce.scope.isCoroutine = false) (fpa : ∀ b ∈ fp, b ≠ a ∧ b ∉ cs) (hcs : CsOk (gx X A sc H1 ce fp [(a, go)]) cs)
    (hCS : CSt L cs CS) (er : ER0 L X.base ce.code H1 β1 ρ (L2.wipe σ own)) (n : Nat) (s : Shared) (k : τ) (S : Sto) (hl : w.1.length ≤ n) (I : Inv (gx X A sc H1 ce fp [(a, go)]) (pinsAt cs s.heap) (L2.wipe σ own) H1 s) (st : tn 0 s.heap)
    (nf : ∀ b ∈ fp, H1 b = none) (hs0 : ∀ b ∈ cs, ∃ o, s.heap.get? b = some o) (at_ : At L.G H1 β1 S) (cst : CS k H1 β1 s.heap) (dem : gDem C (evIfs L.G.con cf Ifs) (evE L.G.con cf Elt) t w.2 ρ w.1 k S) :
    Seg (model X.prog X.w) A (GEnd L X sc H1 β1 fp a g cs C CS) (GYp L X sc H1 β1 fp a g cs C CS) n s (.compStart (.GeneratorExp elt [⟨tg, iter, ifs, 0⟩] scope pos) 0 (.ref it) .none ce)
      ((model X.prog X.w).den (.compStart (.GeneratorExp elt [⟨tg, iter, ifs, 0⟩] scope pos) 0 (.ref it) .none ce)) [] s := by
  have loop := gen_loop (iter := iter) (scope := scope) (pos := pos) hc T jr pg pt pe hgo hco fpa hcs hCS er w.1 0 n s s k S H1 β1 (List.drop_zero ..) (Nat.zero_le _) hl I st nf hs0 Grow.refl at_ cst dem
  show Seg _ A _ _ _ s _ ((compStart (.GeneratorExp elt [⟨tg, iter, ifs, 0⟩] scope pos) 0 (.ref it) .none ce).onRaise (leaving ce)) [] s
  unfold compStart
  rw [Sem.onRaise_eq_wrap]
  show Seg _ A _ _ _ s _ ((ask >>= _).wrap _ _ _ _) [] s
  refine seg_bind_wrap (wpAny_askSetting ?_)
  split
  · exact seg_again rfl loop
  · first
      | exact seg_bind_wrap (wpAny_rule (seg_bind_wrap (wpAny_standAt (seg_bind_wrap (T.self _ 0 s _ _ st (seg_again rfl loop))))))
      | (refine seg_bind_wrap (wpAny_rule ?_); show Seg _ A _ _ _ s _ ((standAt iter.pos >>= _).wrap _ _ _ _) [] s; exact seg_bind_wrap (wpAny_standAt (seg_bind_wrap (T.self _ 0 s _ _ st (seg_again rfl loop)))))
end
end EV
/-! EvZ: generators are made (own work). -/
namespace EV
open PySem PySem.Spec PyProof.Rows L2 GenW
theorem JR.grow {L : Lw} {w : Walk} {J : It} {H H' : Hp} {β β' : List Addr} (g : Grow H H' β β') (h : JR L w J H β) : JR L w J H' β' :=
  ⟨fun i d H1 β1 S1 e g1 a st => h.go i d H1 β1 S1 e (g.trans g1) a st, fun H1 β1 S1 g1 a st => h.stop H1 β1 S1 (g.trans g1) a st⟩
section
variable {L : Lw} {X : Cx} {W : WX} {cf : Cf} {pins : List (Addr × Obj)} {σ : L2.St} {H : Hp} {β : List Addr} {s : Shared} {S : Sto}
theorem codeHd_of (I : Inv X pins σ H s) {c P : Addr} (h : PySem.W.CodeHd X.base c P ∨ ∃ q, H c = some (CodeX c P q)) : PySem.W.CodeHd s.heap c P := by
  rcases h with h | ⟨q, h⟩
  · exact h.keeps I.bk
  · exact (I.hok c _ h).1.1
theorem gen_code {Q2 : Value → Addr → Shared → Prop} {E : Value → Shared → Prop} {pos : Pos} {qn : Str} {scope : Scope} (I : Inv X pins σ H s) (at_ : At L.G H β S) (cv : CodeV X.base X.env.code H) (hb : ∃ P0, X.base.BuiltinsAt X.mg P0) (hn : L.G.nm pos.line pos.col = none)
    (h : ∀ cd H' h' t', Inv X pins σ H' { s with heap := h', toks := t' } → Grow H H' β β → At L.G H' β S → CodeV X.base cd H' → (∀ b o, H b = none → s.heap.get? b = some o → h'.get? b = some o ∧ H' b = none) → s.heap.objs.size ≤ h'.objs.size → Q2 cd builtinsNs { s with heap := h', toks := t' }) :
    wpAny (model X.prog X.w) X.A (genexprCode X.env pos qn scope) (fun code s3 => wpAny (model X.prog X.w) X.A (builtinsFor X.env.globals X.env.builtins) (fun bi s4 => Q2 code bi s4) E s3) E s := by
  obtain ⟨c, P, hcode, ⟨ps, hP⟩, hc⟩ := cv
  have cd := codeHd_of I hc
  obtain ⟨ht, ha⟩ := at_.tb.ok P ps hP
  have hP2 : s.heap.get? P = some { cls := .none, data := .fields ps } := I.hok P _ hP
  have blt : ∀ {H' : Hp} {s' : Shared} {cd' : Value}, Inv X pins σ H' s' → Q2 cd' builtinsNs s' → wpAny (model X.prog X.w) X.A (builtinsFor X.env.globals X.env.builtins) (fun bi s4 => Q2 cd' bi s4) E s' := fun {H' s' cd'} I' q => by
    obtain ⟨P0, bm, ob, e1, e2, e3, e4, e5, e6, e7, e8⟩ := hb
    exact wpAny_builtinsFor (m := X.mg) (by rw [I'.ok.glob]; exact I'.mod.glob.keeps I'.bk) e1 e2 (I'.bk _ _ e5) e6 e7 e8 q
  cases hf : codeAmong pos ps.toList with
  | some cv' =>
    obtain ⟨c', P', q, rfl, e2, e3, ps', e4⟩ := ha pos cv' hf
    refine wpAny_genexprCode_hit hcode (cd.code hP2 ht) hf ?_
    exact blt I (h _ H s.heap s.toks I Grow.refl at_ ⟨c', P', rfl, ⟨ps', e4⟩, .inr ⟨q, e2⟩⟩ (fun b o e1 e2 => ⟨e2, e1⟩) (Nat.le_refl _))
  | none =>
    refine wpAny_genexprCodeX hcode (cd.code hP2 ht) (cd.tab hP2) hf fun c' h' tk hx hge hlt hco' hrec htab' hnew => ?_
    obtain ⟨P', hP', hc1, hc2⟩ := hnew
    have ch := PySem.W.CodeHd.of hc1 hc2
    have hne : c' ≠ P' := by
      obtain ⟨_, _, _, _, _, _, _, _, _, _, _, _, _, _, _, _, _, _, z⟩ := ch
      exact z
    have I' := inv_code (t' := tk) (q := qn) I hP (fun b o hb e => hx b o hb e) htab'.2 hge hP' hne ⟨ch, hrec⟩ hc2.2
    have nC : H c' = none := I.hok.fresh hge
    have nP' : H P' = none := I.hok.fresh hP'
    refine blt I' (h _ _ h' tk I' (grow_code hP nC nP') (at_.code hP nC nP' hne (fun n e => by rw [hn] at e; cases e)) ⟨c', P', rfl, ⟨#[], by rw [upd_ne (Ne.symm hne), upd_same]⟩, .inr ⟨qn, upd_same⟩⟩ (fun b o e1 e2 => ?_) (Nat.le_trans hge (Nat.le_of_lt hlt)))
    have hbP : b ≠ P := fun z => by rw [z, hP] at e1; cases e1
    have hlt' := Heap.lt_size e2
    have hbc : b ≠ c' := fun z => by rw [z] at hlt'; exact Nat.lt_irrefl _ (Nat.lt_of_lt_of_le hlt' hge)
    have hbP' : b ≠ P' := fun z => by rw [z] at hlt'; exact Nat.lt_irrefl _ (Nat.lt_of_lt_of_le hlt' hP')
    exact ⟨hx b o hbP e2, by rw [upd_ne hbc, upd_ne hbP', upd_ne hbP]; exact e1⟩
/-- a generator's parts -/
structure BlkG (L : Lw) (X : Cx) (scope : Scope) (own : List (Str × Nat)) (tg elt : Expr) (ifs : List Expr) (t : Tg) (Ifs : Es) (Elt : E) (cf : Cf) (r : Nat) : Prop where
  ok : BlkOk X.N X.env.scope scope own
  co : scope.isCoroutine = false
  dot : scope.names.lookup (".0" : Str) = some NameKind.local
  cell : ∀ y ∈ scope.names, y.2 ≠ .cell
  tg : ∀ (A : Around) (s : Shared) (H : Hp) (C : Addr) (code : Value) (fp : List Addr) (pn : List (Addr × Obj)), Room r (A.deeper (gEnv X scope C code)) → A.guards = some [] → PG (gx X A s H (gEnv X scope C code) fp pn) tg (gOf L (· ∈ own.map (·.2)) t)
  ts : ∀ (A : Around) (s : Shared) (H : Hp) (C : Addr) (code : Value) (fp : List Addr) (pn : List (Addr × Obj)), Room r (A.deeper (gEnv X scope C code)) → A.guards = some [] → PTs (gx X A s H (gEnv X scope C code) fp pn) ifs (OfT0 L X.base code (evIfs L.G.con cf Ifs))
  el : ∀ (A : Around) (s : Shared) (H : Hp) (C : Addr) (code : Value) (fp : List Addr) (pn : List (Addr × Obj)), Room r (A.deeper (gEnv X scope C code)) → A.guards = some [] → PE (gx X A s H (gEnv X scope C code) fp pn) elt (OfE0 L X.base code (evE L.G.con cf Elt))
/-- a generator that has not begun -/
def GenV (L : Lw) (X : Cx) (cf : Cf) (pins : List (Addr × Obj)) (σ : L2.St) (H : Hp) (β : List Addr) (r : Nat) (t : Tg) (own : List Nat) (Ifs : Es) (Elt : E) (ρ : Env) (w : Walk) (S1 : Sto) (a : Addr) (s5 : Shared) : Prop :=
  ∃ (g : Nat) (c : Code) (sc : Shared) (H1 : Hp) (β1 : List Addr) (fp : List Addr), Grow H H1 β β1 ∧ Inv X pins σ H1 sc ∧ At L.G H1 β1 S1 ∧ ExOk X pins fp ∧ sc.heap.objs.size ≤ a ∧ a < s5.heap.objs.size ∧ s5.heap.IsGen a g ∧ s5.gens[g]? = some (.fresh c) ∧ s5.os = sc.os ∧ AllBare s5.gens ∧ s5.heap.NoLimit ∧
    (∀ b o, sc.heap.get? b = some o → s5.heap.get? b = some o) ∧
    ∀ (τ : Type) (C : Con τ) (cs : List Addr) (CS : τ → Hp → List Addr → Heap → Prop) (A : Around) (s2 : Shared) (k : τ) (n : Nat), Room (r + 1) A → A.frames = some X.stack → A.guards = some [] → CSt L cs CS → (∀ b ∈ cs, s5.heap.objs.size ≤ b ∧ ∃ o, s2.heap.get? b = some o ∧ ∀ v, o.data ≠ .cell v) →
      (∀ b o, s5.heap.get? b = some o → s2.heap.get? b = some o) → s2.os = s5.os → AllBare s2.gens → CS k H1 β1 s2.heap → gDem C (evIfs L.G.con cf Ifs) (evE L.G.con cf Elt) t w.2 (wipe (noClo ρ) own) w.1 k S1 → w.1.length ≤ n →
      Seg (model X.prog X.w) A (GEnd L X sc H1 β1 fp a g cs C CS) (GYp L X sc H1 β1 fp a g cs C CS) n s2 c ((model X.prog X.w).den c) [] s2
variable {scope : Scope} {own : List (Str × Nat)} {tg iter elt : Expr} {ifs : List Expr} {t : Tg} {Ifs : Es} {Sr : Sr} {Elt : E} {pos : Pos} {ρ : Env} {r : Nat}
theorem gen_made {Q1 : Walk → Sto → Prop} {Q' : Value → Shared → Prop} (fa : Fa L X) (hb : ∃ P0, X.base.BuiltinsAt X.mg P0) (hn : L.G.nm pos.line pos.col = none) (hi : PI X tg iter (OfW L X W (evSr L.G.con cf Sr))) (b : BlkG L X scope own tg elt ifs t Ifs Elt cf r)
    (hs : ∀ x, genFold iter X.env x = pure x) (hroom : X.A.depth < recursionLimit) (I : Inv X pins σ H s) (er : ER L.G L.fnN L.conN X H β ρ σ) (at_ : At L.G H β S) (h : RW (evSr L.G.con cf Sr ρ S) Q1 (KX L.G L.cad H β fun c d H' => W c d σ H'))
    (hQ : ∀ w S1 a s5, Q1 w S1 → GenV L X cf pins σ H β r t (own.map (·.2)) Ifs Elt ρ w S1 a s5 → Q' (.ref a) s5) :
    wpAny (model X.prog X.w) X.A (eval (.GeneratorExp elt [⟨tg, iter, ifs, 0⟩] scope pos) X.env) Q' X.xe s := by
  have hfree : ∀ y ∈ scope.names, y.2 = .free → ∃ c, X.env.cells.lookup y.1 = some c := fun y hy e => by
    rcases b.ok.free y hy e with k | k
    · exact I.ok.has _ (.inl k)
    · exact I.ok.has _ (.inr k)
  refine wpAny_GeneratorExp_make b.co (closure_ok hfree) b.cell b.dot b.ok.kind hroom ?_ hs
  refine thn (hi.run pins s σ H (fun J H2 => ∃ w S1 β1, Q1 w S1 ∧ Grow H H2 β β1 ∧ At L.G H2 β1 S1 ∧ JR L w J H2 β1) I ⟨ρ, S, β, er, at_, h.mono (fun w S1 q J H2 β1 g1 at1 jr => ⟨w, S1, β1, q, g1, at1, jr⟩) fun _ _ z => z⟩) fun xv s1 h1 => thn h1 fun itv s2 h2 => ?_
  obtain ⟨it, fp, tn, J, H2, rfl, I2, T, st2, f2, w, S1, β1, q1, g1, at1, jr⟩ := h2
  refine ⟨I2.nolimit, ?_⟩
  refine gen_code I2 at1 (er.code.grow g1) hb hn fun cd H4 h4 t4 I4 g4 at4 cv4 kp4 sz4 => ?_
  intro h' hn' hs'
  have fp4 : ∀ x ∈ fp, FpOk X pins H4 x ∧ x < h4.objs.size := fun x hx => by
    obtain ⟨o, e, _⟩ := T.obj _ _ st2 x hx
    exact ⟨⟨(kp4 x o (f2 x hx).1 e).2, (f2 x hx).2⟩, Heap.lt_size (kp4 x o (f2 x hx).1 e).1⟩
  have st4 : tn 0 h4 := T.keep _ _ _ st2 fun x hx o e => (kp4 x o (f2 x hx).1 e).1
  have hsz : h'.objs.size = h4.objs.size + 1 := by rw [hs'.1]; exact Heap.size_push ..
  have keep' : ∀ b o, h4.get? b = some o → h'.get? b = some o := fun b o e => hs'.extBut b o (Nat.ne_of_lt (Heap.lt_size e)) (Heap.get?_push_of_some _ e)
  generalize hgo : ({ cls := .type "generator", data := .fields #[.int s2.gens.size 0, .str "<genexpr>" (t4 + 1), .str (X.env.qual ++ "<genexpr>") (t4 + 1 + 1)] } : Obj) = go
  have goC : ∀ h : Heap, h.get? h'.objs.size = some go → h.IsGen h'.objs.size s2.gens.size := fun h e => ⟨go, _, _, e, by rw [← hgo], by rw [← hgo], by rw [← hgo]⟩
  have god : ∀ v, go.data ≠ .cell v := fun v z => by rw [← hgo] at z; cases z
  have gop : (h'.push go).get? h'.objs.size = some go := by
    rw [← hgo]
    exact Heap.get?_push_size _ rfl
  have keep5 : ∀ b o, h4.get? b = some o → (h'.push go).get? b = some o := fun b o e => Heap.get?_push_of_some _ (keep' b o e)
  have sz5 : (h'.push go).objs.size = h'.objs.size + 1 := Heap.size_push ..
  refine hQ w S1 _ _ q1 ⟨s2.gens.size, _, { s2 with heap := h4, toks := t4 }, H4, β1, fp, g1.trans g4, I4, at4, fun x hx => ⟨(fp4 x hx).1.2.2.2.1, (fp4 x hx).1.2.1, (fp4 x hx).1.2.2.2.2.1, (fp4 x hx).1.2.2.2.2.2⟩, ?_, ?_, goC _ (by rw [← hgo]; exact Heap.get?_push_size _ rfl), Array.getElem?_push_size .., rfl, AllBare.push I2.bare rfl, ?_, ?_, ?_⟩
  · show h4.objs.size ≤ h'.objs.size
    omega
  · show h'.objs.size < (h'.push _).objs.size
    rw [Heap.size_push]
    exact Nat.lt_succ_self _
  · exact I4.nolimit.keeps fun b o e => Heap.get?_push_of_some _ (keep' b o e)
  · exact fun b o e => Heap.get?_push_of_some _ (keep' b o e)
  · intro τ C cs CS A s2' k n hrA hfrA hguA hCS hcs hk2 hos hba cst dem hl
    have hk2 : ∀ b o, (h'.push go).get? b = some o → s2'.heap.get? b = some o := hk2
    have hcs : ∀ b ∈ cs, (h'.push go).objs.size ≤ b ∧ ∃ o, s2'.heap.get? b = some o ∧ ∀ v, o.data ≠ .cell v := hcs
    have I5 := gen_start (A := A) (code := cd) (itv := .ref it) (h' := s2'.heap) (g' := s2'.gens) (d' := s2'.drawn) (t' := s2'.toks) I4 b.ok fa.nd b.cell fp4 hrA.hd hfrA
      (hn'.keeps fun b o e => hk2 b o (Heap.get?_push_of_some _ e)) (fun b o e => hk2 b o (keep5 b o e)) hba
    rw [GxR.sh_eta _ s2' hos] at I5
    have young : ∀ b, h4.objs.size < b → H4 b = none ∧ b ≠ h4.objs.size ∧ b ∉ frs X.stack := fun b hb => by
      refine ⟨I4.hok.fresh (Nat.le_of_lt hb), Nat.ne_of_gt hb, fun z => ?_⟩
      rcases List.mem_cons.mp (I4.stkSub b z) with z | z
      · have h1 := I4.lt
        have h1 : X.env.locals < h4.objs.size := h1
        rw [← z] at h1
        exact absurd (Nat.lt_trans hb h1) (Nat.lt_irrefl _)
      · exact I4.nofs (Nat.le_of_lt hb) z
    have hcl : ∀ b ∈ cs, h'.objs.size < b := fun b hb => by
      have := (hcs b hb).1
      rw [sz5] at this
      exact this
    have I6 := gen_pinned (pn := [(h'.objs.size, go)]) (pins2 := pinsAt cs s2'.heap) I5 fun p hp => by
      rcases List.mem_append.mp hp with z | z
      · rw [List.mem_singleton.mp z]
        obtain ⟨y1, y2, y3⟩ := young h'.objs.size (by omega)
        exact ⟨hk2 _ _ gop, y1, y2, y3, god⟩
      · obtain ⟨hb, e⟩ := of_pinsAt z
        obtain ⟨y1, y2, y3⟩ := young p.1 (by have := hcl p.1 hb; omega)
        obtain ⟨_, o, e', hd⟩ := hcs p.1 hb
        rw [e] at e'
        cases e'
        exact ⟨e, y1, y2, y3, hd⟩
    refine gen_seg (σ := σ) fa.calm T (jr.grow g4) (b.tg _ _ _ _ _ _ _ (hrA.deeper _) hguA) (b.ts _ _ _ _ _ _ _ (hrA.deeper _) hguA) (b.el _ _ _ _ _ _ _ (hrA.deeper _) hguA) goC b.co (fun x hx => ⟨?_, fun z => ?_⟩) (fun x hx => ⟨?_, ?_, fun y c e z => ?_, fun p hp z => ?_⟩) hCS
      ⟨(er_block (er.grow (g1.trans g4)) (own.map (·.2))).len, cv4, (er_block (er.grow (g1.trans g4)) (own.map (·.2))).at_⟩ n s2' k S1 hl I6 (T.keep _ _ _ st4 fun x hx o e => hk2 x o (keep5 x o e)) (fun x hx => (fp4 x hx).1.1) (fun x hx => let ⟨_, o, e, _⟩ := hcs x hx; ⟨o, e⟩) at4 cst dem
    · have h1 : x < h4.objs.size := (fp4 x hx).2
      exact Nat.ne_of_lt (Nat.lt_trans h1 (by omega))
    · have h1 : x < h4.objs.size := (fp4 x hx).2
      have h2 : h'.objs.size < x := hcl x z
      exact absurd (Nat.lt_trans h1 (Nat.lt_trans (by omega) h2)) (Nat.lt_irrefl _)
    · have h2 : h'.objs.size < x := hcl x hx
      show h4.objs.size ≤ x
      exact Nat.le_of_lt (Nat.lt_trans (by omega) h2)
    · have h2 : h'.objs.size < x := hcl x hx
      show x ≠ h4.objs.size
      exact Nat.ne_of_gt (Nat.lt_trans (by omega) h2)
    · have h1 : c < h4.objs.size := clo_lt I4 b.ok e
      have h2 : h'.objs.size < x := hcl x hx
      rw [z] at h1
      exact absurd (Nat.lt_trans h1 (Nat.lt_trans (by omega) h2)) (Nat.lt_irrefl _)
    · rw [List.mem_singleton.mp hp] at z
      have h2 : h'.objs.size < x := hcl x hx
      have z : h'.objs.size = x := z
      rw [z] at h2
      exact Nat.lt_irrefl _ h2
end
end EV
/-! EvAA: all, any of a generator (own work). -/
namespace EV
open PySem PySem.Spec PyProof.Rows L2 GenW
section
variable {L : Lw} {X : Cx} {W : WX} {cf : Cf} {pins : List (Addr × Obj)} {σ : L2.St} {H : Hp} {β : List Addr} {s : Shared} {S : Sto}
/-- a value's truth, with the state that it leaves -/
theorem tru_at {A : Around} {x : V} {v : Value} {k : Bool} {Q : Bool → Shared → Prop} {E : Value → Shared → Prop} (I : Inv X pins σ H s) (rx : RelV x v) (e : TruV X.K x H k) (q : ∀ tk, Q k { s with toks := tk }) : wpAny (model X.prog X.w) A (truthy v) Q E s := by
  have hl := line63
  have hs : sizeLine = 16777216 := sizeLine_eq
  cases x with
  | non =>
    cases rx
    cases (show k = false from e)
    exact truthy_none (q s.toks)
  | bl b =>
    cases rx
    cases (show k = b from e)
    exact wpAny_truthy_bool (q s.toks)
  | int i =>
    obtain ⟨t, rfl⟩ := rx
    cases (show k = (i != 0) from e)
    exact PySem.P.truthy_int (q s.toks)
  | str y =>
    obtain ⟨t, rfl⟩ := rx
    obtain ⟨hy, rfl⟩ : y.length ≤ sizeLine ∧ k = ((y.length : Int) != 0) := e
    exact PySem.P.truthy_str (by omega) (q _)
  | byt y =>
    obtain ⟨t, rfl⟩ := rx
    obtain ⟨hy, rfl⟩ : y.size ≤ sizeLine ∧ k = ((y.size : Int) != 0) := e
    exact PySem.W.truthy_bytes (by omega) (q _)
  | ref p =>
    cases rx
    have e : (∃ xs, SqL X.K H p xs ∧ k = !xs.isEmpty) ∨ (∃ xs, SqT X.K H p xs ∧ k = !xs.isEmpty) ∨ ∃ kvs, H p = some (.dK kvs) ∧ k = !kvs.isEmpty := e
    rcases e with ⟨xs, hx, rfl⟩ | ⟨xs, hx, rfl⟩ | ⟨kvs, hx, rfl⟩
    · obtain ⟨its, r, pl, hz⟩ := I.list hx
      have hlen := r.length
      exact wpAny_truthy_list pl.isList (by simp only [List.size_toArray]; omega) (by rw [isEmpty_of r]; exact q _)
    · obtain ⟨its, r, pl, hz⟩ := I.tuple hx
      have hlen := r.length
      exact truthy_tuple pl (by simp only [List.size_toArray]; omega) (by rw [isEmpty_of r]; exact q _)
    · obtain ⟨hz, hS, vs, r, m⟩ : kvs.length ≤ sizeLine ∧ (p == sysModules) = false ∧ ∃ vs, KV kvs vs ∧ s.heap.DictOf (mixKind X.prog X.w) p vs := I.hok p _ hx
      have hlen : kvs.length = vs.length := Paired.length r
      exact wpAny_truthy_dict hS m (by omega) (by rw [isEmpty_kv r]; exact q _)
  | _ => exact (show False from e).elim
/-- all, any: it ends at the first item whose truth is stop -/
def conAB (stop : Bool) (Q : D → Sto → Prop) : Con Unit where
  yd := fun _ d S K => ∃ c, d.truth S = some c ∧ if c == stop then Q (.bool stop) S else K ()
  en := fun _ S => Q (.bool (!stop)) S
variable {sc : Shared} {H1 : Hp} {β1 : List Addr} {fp : List Addr} {a : Addr} {g : Nat} {Qd : D → Sto → Prop} {stop : Bool}
/-- the caller's view of a state behind the generator -/
theorem inv_of_gat {s' : Shared} {H' : Hp} (I : Inv X pins σ H1 sc) (hex : ExOk X pins fp) (os : s'.os = sc.os) (bare : AllBare s'.gens) (un : Un (frs X.stack) fp H1 H' sc.heap s'.heap) (hok : HOk X.prog X.w H' s'.heap) : Inv X pins σ H' s' :=
  I.call' (ch := fp) os un hok bare hex
def csU : Unit → Hp → List Addr → Heap → Prop := fun _ _ _ _ => True
theorem csU_ok : CSt L [] csU := ⟨fun _ _ _ _ _ _ _ _ _ _ => trivial⟩
section
variable {A : Around} {R : Result → Shared → Prop} (stop) (loop : Code)
/-- how one turn of the loop goes on -/
def AbTurn (a : Addr) : Prop := ∀ (A : Around) (R : Result → Shared → Prop) (s : Shared),
  wpAny (model X.prog X.w) A.in1 (pyNext (.ref a)) (fun r s' => match r with
    | none => R (.ok (.ret (.bool (!stop)))) s'
    | some v => ∃ b, (∀ (Q : Bool → Shared → Prop) (E : Value → Shared → Prop), (∀ tk, Q b { s' with toks := tk }) → wpAny (model X.prog X.w) A.in1 (truthy v) Q E s') ∧ ∀ tk, if b == stop then R (.ok (.ret (.bool stop))) { s' with toks := tk } else codeAny (model X.prog X.w) A loop R { s' with toks := tk }) (fun e s' => R (.error e) s') s →
  codeAny (model X.prog X.w) A loop R s
end
theorem turn_all : AbTurn (X := X) false (.builtin "all.loop" ⟨[.ref a], []⟩) a := fun A R s h => by
  refine codeAny_builtin F.entry_all_loop ?_
  rw [Around.under_plainId F.plain_all_loop _]
  show wpAny _ A.in1 (pyNext (.ref a) >>= _) _ _ s
  refine wpAny_bind (wpAny_mono h (fun r s' q => ?_) fun _ _ e => e)
  cases r with
  | none => exact wpAny_bind (wpAny_rule (wpAny_pure q))
  | some v =>
    obtain ⟨b, ht, q⟩ := q
    refine wpAny_bind (wpAny_holding (ht _ _ fun tk => wpAny_bind (wpAny_letGo ?_)))
    have q := q tk
    cases b with
    | true => exact wpAny_pure ⟨plainId_quiet F.plain_all_loop _, q⟩
    | false => exact wpAny_bind (wpAny_rule (wpAny_pure q))
theorem turn_any : AbTurn (X := X) true (.builtin "any.loop" ⟨[.ref a], []⟩) a := fun A R s h => by
  refine codeAny_builtin F.entry_any_loop ?_
  rw [Around.under_plainId F.plain_any_loop _]
  show wpAny _ A.in1 (pyNext (.ref a) >>= _) _ _ s
  refine wpAny_bind (wpAny_mono h (fun r s' q => ?_) fun _ _ e => e)
  cases r with
  | none => exact wpAny_bind (wpAny_rule (wpAny_pure q))
  | some v =>
    obtain ⟨b, ht, q⟩ := q
    refine wpAny_bind (wpAny_holding (ht _ _ fun tk => wpAny_bind (wpAny_letGo ?_)))
    have q := q tk
    cases b with
    | true => exact wpAny_bind (wpAny_rule (wpAny_pure q))
    | false => exact wpAny_pure ⟨plainId_quiet F.plain_any_loop _, q⟩
theorem ab_loop {A : Around} {loop : Code} {R : Result → Shared → Prop} (hK : X.K = L.G.K) (tn : AbTurn (X := X) stop loop a) (hh : A.handled = none) (hd : A.depth < recursionLimit) (I : Inv X pins σ H1 sc) (hex : ExOk X pins fp)
    (hend : ∀ b s' H' β' S', Inv X pins σ H' s' → At L.G H' β' S' → Grow H1 H' β1 β' → Qd (.bool b) S' → R (.ok (.ret (.bool b))) s') :
    ∀ (n : Nat) (s : Shared), s.heap.IsGen a g → s.heap.NoLimit → (∃ gs, s.gens[g]? = some gs ∧ gs.Goes (model X.prog X.w) A.in1.in1 (GEnd L X sc H1 β1 fp a g [] (conAB stop Qd) csU) (GYp L X sc H1 β1 fp a g [] (conAB stop Qd) csU) n (.send .none) (s.setGen g .running)) →
      codeAny (model X.prog X.w) A loop R s := by
  intro n
  induction n with
  | zero =>
    intro s hg hl ⟨gs, hgs, hgo⟩
    refine tn A R s (next_genG (A := A.in1) (Er := fun _ _ => False) (F := GFin L X sc H1 β1 fp a g [] (conAB stop Qd) csU) hh hl hd hg hgs hgo (fun v s₁ gs' hbare hv => ?_) (fun s₁ hp h' hk => ?_) fun e s₁ he => he.elim)
    · obtain ⟨_, k, d, x, S, H, β, K, ga, _, _, rv, rd, ⟨c, hc, q⟩, kap⟩ := hv
      refine ⟨c, fun Q E hq => tru_at (inv_of_gat I hex ga.os (allBare_setGen ga.bare hbare) ga.un ga.hok) rv (rd.tru hK ga.at_ hc) hq, fun tk => ?_⟩
      split at q
      · rename_i hb
        rw [if_pos hb]
        exact hend _ _ H β S (inv_of_gat I hex ga.os (allBare_setGen ga.bare hbare) ga.un ga.hok) ga.at_ ga.grow q
      · exact (kap () s₁ q ⟨rfl, ga.bare, fun b o _ e => e, fun b hb => by cases hb⟩ trivial).elim
    · obtain ⟨_, k, S, H, β, ga, _, _, q⟩ := hp
      exact hend _ _ H β S (inv_of_gat I hex ga.os (allBare_setGen ga.bare rfl) (ga.un.trans (Un.kept hk)) (ga.hok.kept hk)) ga.at_ ga.grow q
  | succ m ih =>
    intro s hg hl ⟨gs, hgs, hgo⟩
    have hgl : g < s.gens.size := (Array.getElem?_eq_some_iff.mp hgs).1
    refine tn A R s (wpAny_gsz (n := g + 1) hgl (next_genG (A := A.in1) (Er := fun _ _ => False) (F := GFin L X sc H1 β1 fp a g [] (conAB stop Qd) csU) hh hl hd hg hgs hgo (fun v s₁ gs' hbare hv hsz => ?_) (fun s₁ hp h' hk _ => ?_) fun e s₁ he => he.elim))
    · obtain ⟨_, k, d, x, S, H, β, K, ga, _, _, rv, rd, ⟨c, hc, q⟩, kap⟩ := hv
      have IX : ∀ tk, Inv X pins σ H { s₁.setGen g gs' with toks := tk } := fun tk => inv_of_gat I hex ga.os (allBare_setGen ga.bare hbare) ga.un ga.hok
      refine ⟨c, fun Q E hq => tru_at (IX _) rv (rd.tru hK ga.at_ hc) hq, fun tk => ?_⟩
      split at q
      · rename_i hb
        rw [if_pos hb]
        exact hend _ _ H β S (IX tk) ga.at_ ga.grow q
      · rename_i hb
        rw [if_neg hb]
        have hsz1 : g < s₁.gens.size := by
          have q : (s₁.setGen g gs').gens.size = s₁.gens.size := setGen_size _ _ _
          have hsz' : g + 1 ≤ (s₁.setGen g gs').gens.size := hsz
          omega
        refine ih { s₁.setGen g gs' with toks := tk } ga.gen ga.lim ⟨gs', setGen_at hsz1, ?_⟩
        exact kap () _ q ⟨rfl, allBare_setGen (s := { s₁.setGen g gs' with toks := tk }) (allBare_setGen ga.bare hbare) rfl, fun b o _ e => e, fun b hb => by cases hb⟩ trivial
    · obtain ⟨_, k, S, H, β, ga, _, _, q⟩ := hp
      exact hend _ _ H β S (inv_of_gat I hex ga.os (allBare_setGen ga.bare rfl) (ga.un.trans (Un.kept hk)) (ga.hok.kept hk)) ga.at_ ga.grow q

variable {scope : Scope} {own : List (Str × Nat)} {tg iter elt : Expr} {ifs : List Expr} {t : Tg} {Ifs : Es} {Sr : Sr} {Elt : E} {pos p gp : Pos} {r : Nat} {sn : Scope}
theorem ab_dem {tests : Env → Sto → M Bool} {elt : Env → Sto → M D} {gg : Option (Nat × List D)} {ρ : Env} : ∀ (xs : List D) (S : Sto), RW (abGo stop tests elt t gg ρ xs S) Qd (fun _ _ => False) → gDem (conAB stop Qd) tests elt t gg ρ xs () S
  | [], S, h => by
    simp only [abGo] at h
    obtain ⟨h1, h2⟩ := still_ok (RW.step (Q' := fun (_ : Unit) S2 => Qd (.bool (!stop)) S2) h fun a s q => q)
    exact ⟨h1, h2⟩
  | x :: xs, S, h => by
    simp only [abGo] at h
    obtain ⟨h1, ρ', h2, h⟩ := turn_ok h
    refine ⟨h1, ρ', h2, RW.step h fun b S1 h => ?_⟩
    cases b with
    | false => exact ab_dem xs S1 h
    | true =>
      simp only [if_true] at h ⊢
      refine RW.step h fun d S2 h => ?_
      obtain ⟨c, hc, h⟩ := RW.ofO (RW.step (Q' := fun c S3 => RW (if (c == stop) = true then M.ok (D.bool stop) S3 else abGo stop tests elt t gg ρ xs S3) Qd fun _ _ => False) h fun a s q => q)
      refine ⟨c, hc, ?_⟩
      split
      · rename_i hb
        rw [if_pos hb] at h
        exact h
      · rename_i hb
        rw [if_neg hb] at h
        exact ab_dem xs S2 h
theorem ab_run {ρ : Env} {w : Walk} {S1 : Sto} {s5 : Shared} {Q : VK} {loop : Code} (fa : Fa L X) (hr : Room (r + 3) X.A) (tn : AbTurn (X := X) stop loop a) (gv : GenV L X cf pins σ H β r t (own.map (·.2)) Ifs Elt ρ w S1 a s5)
    (h : RW (abGo stop (evIfs L.G.con cf Ifs) (evE L.G.con cf Elt) t w.2 (wipe (noClo ρ) (own.map (·.2))) w.1 S1) (KG L.G (RV L.G) H β Q) (fun _ _ => False)) {R : Result → Shared → Prop} (hR : ∀ v s', EP X pins σ Q v s' → R (.ok (.ret v)) s') :
    codeAny (model X.prog X.w) X.A loop R s5 := by
  obtain ⟨g, c, sc, H1, β1, fp, g1, I1, at1, hex, ha1, ha2, hg, hgs, hos, hb, hl, hkp, wake⟩ := gv
  refine ab_loop (g := g) (fp := fp) (Qd := KG L.G (RV L.G) H β Q) fa.K tn (I1.ok.hd fa.calm) hr.depth I1 hex (fun b s' H' β' S' I' at' g' q => hR _ _ ⟨.bl b, H', I', rfl, q _ H' β' (g1.trans g') at' (.bool b)⟩) w.1.length s5 hg hl ⟨_, hgs, rfl, ?_⟩
  exact wake Unit _ [] csU X.A.in1.in1 _ () _ (Room.in1 (Room.in1 hr)) I1.ok.frames fa.gu csU_ok (fun b hb => by cases hb) (fun b o e => e) rfl (allBare_setGen hb rfl) trivial (ab_dem _ _ h) (Nat.le_refl _)
theorem arm_all (fa : Fa L X) (hs : X.env.scope = sn) (hg : gloB sn ("all" : Str) = true) (hr : Room (r + 3) X.A) (hn : L.G.nm gp.line gp.col = none) (hi : PI X tg iter (OfW L X W (evSr L.G.con cf Sr))) (b : BlkG L X scope own tg elt ifs t Ifs Elt cf r) (hf : ∀ x, genFold iter X.env x = pure x) :
    PE X (.Call (.Name ("all" : Str) p) [.GeneratorExp elt [⟨tg, iter, ifs, 0⟩] scope gp] [] pos) (OfE L X W (evE L.G.con cf (.gen .all Sr t (own.map (·.2)) Ifs Elt))) := by
  refine ⟨fun pins s σ H Q I h => ?_⟩
  obtain ⟨ρ, S, β, er, at_, h⟩ := h
  simp only [evE] at h
  refine wpAny_Call_Name_kw (ld_blt I (glo_of hs hg) (fa.bt _ (by decide +kernel)) (by decide +kernel : bootBuiltins ("all" : Str) = some (.builtin "all")) ?_)
  refine PyProof.Rows.callWith_builtin1 ?_ (by rfl) (by rfl)
  show wpAny _ _ (spliced ((false, eval (.GeneratorExp elt [⟨tg, iter, ifs, 0⟩] scope gp) X.env) :: backTo pos (starEach [] X.env))) _ _ s
  refine Calls.spliced_cons (gen_made (r := r) (Q1 := fun w S1 => RW (abGo false (evIfs L.G.con cf Ifs) (evE L.G.con cf Elt) t w.2 (wipe (noClo ρ) (own.map (·.2))) w.1 S1) (KG L.G (RV L.G) H β Q) (fun _ _ => False)) fa fa.bm hn hi b hf hr.depth I er at_ (RW.step h fun w S1 h => RW.calm h) fun w S1 a s5 q1 gv => ?_)
  refine Calls.spliced_nil ?_
  refine call_function_tree F.kind_all F.plain_all F.entry_all (F.args_all1 _) ?_
  unfold Builtin.«all»
  refine wpAny_bind (m := oneArg "all" _) (wpAny_pure ?_)
  have gv' := gv
  obtain ⟨g, c, sc, H1, β1, fp, g1, I1, at1, hex, ha1, ha2, hgen, hgs, hos, hb, hl, hkp, wake⟩ := gv
  refine wpAny_bind (wpAny_pyIter_gen hgen ?_)
  exact wpAny_pure ⟨plainId_quiet F.plain_all_loop _, ab_run fa hr turn_all gv' q1 fun v s' q => q⟩
theorem arm_any (fa : Fa L X) (hs : X.env.scope = sn) (hg : gloB sn ("any" : Str) = true) (hr : Room (r + 3) X.A) (hn : L.G.nm gp.line gp.col = none) (hi : PI X tg iter (OfW L X W (evSr L.G.con cf Sr))) (b : BlkG L X scope own tg elt ifs t Ifs Elt cf r) (hf : ∀ x, genFold iter X.env x = pure x) :
    PE X (.Call (.Name ("any" : Str) p) [.GeneratorExp elt [⟨tg, iter, ifs, 0⟩] scope gp] [] pos) (OfE L X W (evE L.G.con cf (.gen .any Sr t (own.map (·.2)) Ifs Elt))) := by
  refine ⟨fun pins s σ H Q I h => ?_⟩
  obtain ⟨ρ, S, β, er, at_, h⟩ := h
  simp only [evE] at h
  refine wpAny_Call_Name_kw (ld_blt I (glo_of hs hg) (fa.bt _ (by decide +kernel)) (by decide +kernel : bootBuiltins ("any" : Str) = some (.builtin "any")) ?_)
  refine PyProof.Rows.callWith_builtin1 ?_ (by rfl) (by rfl)
  show wpAny _ _ (spliced ((false, eval (.GeneratorExp elt [⟨tg, iter, ifs, 0⟩] scope gp) X.env) :: backTo pos (starEach [] X.env))) _ _ s
  refine Calls.spliced_cons (gen_made (r := r) (Q1 := fun w S1 => RW (abGo true (evIfs L.G.con cf Ifs) (evE L.G.con cf Elt) t w.2 (wipe (noClo ρ) (own.map (·.2))) w.1 S1) (KG L.G (RV L.G) H β Q) (fun _ _ => False)) fa fa.bm hn hi b hf hr.depth I er at_ (RW.step h fun w S1 h => RW.calm h) fun w S1 a s5 q1 gv => ?_)
  refine Calls.spliced_nil ?_
  refine call_function_tree F.kind_any F.plain_any F.entry_any (F.args_any1 _) ?_
  unfold Builtin.«any»
  refine wpAny_bind (m := oneArg "any" _) (wpAny_pure ?_)
  have gv' := gv
  obtain ⟨g, c, sc, H1, β1, fp, g1, I1, at1, hex, ha1, ha2, hgen, hgs, hos, hb, hl, hkp, wake⟩ := gv
  refine wpAny_bind (wpAny_pyIter_gen hgen ?_)
  exact wpAny_pure ⟨plainId_quiet F.plain_any_loop _, ab_run fa hr turn_any gv' q1 fun v s' q => q⟩
end
end EV
/-! EvAB: tuple of a generator (own work; the walk follows PyProof.CollectWalk's and TupleOfGen's). -/
namespace EV
open PySem PySem.Spec PyProof.Rows L2 GenW
section
variable {L : Lw} {X : Cx} {W : WX} {cf : Cf} {pins : List (Addr × Obj)} {σ : L2.St} {H : Hp} {β : List Addr} {s : Shared} {S : Sto}
def conTP (Q : List D → Sto → Prop) : Con (List D) where
  yd := fun acc d _ K => acc.length < sizeLine ∧ K (acc ++ [d])
  en := Q
def csT (L : Lw) (P : Addr) : List D → Hp → List Addr → Heap → Prop := fun acc H β h => ∃ us c vs, h.get? P = some (lstObj us c) ∧ Vals vs us.toList ∧ RVs L.G H β acc vs
theorem csT_ok {P : Addr} : CSt L [P] (csT L P) := ⟨fun k H β h H' β' h' ⟨us, c, vs, e, r, rs⟩ g kp => ⟨us, c, vs, kp P (List.mem_singleton.mpr rfl) _ e, r, rs.grow g⟩⟩
variable {sc : Shared} {H1 : Hp} {β1 : List Addr} {fp : List Addr} {a P : Addr} {g : Nat} {Qd : List D → Sto → Prop} {res : Value}
theorem tp_loop {A : Around} {R : Result → Shared → Prop} (hh : A.handled = none) (hd : A.depth < recursionLimit) (I : Inv X pins σ H1 sc) (hex : ExOk X pins fp) (hPa : P ≠ a) (hPc : P ≠ cStatics)
    (hend : ∀ acc us c vs s' H' β' S', Inv X pins σ H' s' → At L.G H' β' S' → Grow H1 H' β1 β' → s'.heap.get? P = some (lstObj us c) → Vals vs us.toList → RVs L.G H' β' acc vs → H' P = none → Qd acc S' → R (.ok (.ret res)) s') :
    ∀ (n : Nat) (s : Shared), s.heap.IsGen a g → s.heap.NoLimit → (∃ gs, s.gens[g]? = some gs ∧ gs.Goes (model X.prog X.w) A.in1.in1 (GEnd L X sc H1 β1 fp a g [P] (conTP Qd) (csT L P)) (GYp L X sc H1 β1 fp a g [P] (conTP Qd) (csT L P)) n (.send .none) (s.setGen g .running)) →
      codeAny (model X.prog X.w) A (.builtin "list.extend.loop" ⟨[.ref P, .ref a, res], []⟩) R s := by
  intro n
  induction n with
  | zero =>
    intro s hg hl ⟨gs, hgs, hgo⟩
    refine codeAny_builtin F.entry_extend_loop ?_
    rw [Around.under_plainId F.plain_extend_loop _]
    show wpAny _ A.in1 (pyNext (.ref a) >>= _) _ _ s
    refine wpAny_bind (next_genG (A := A.in1) (Er := fun _ _ => False) (F := GFin L X sc H1 β1 fp a g [P] (conTP Qd) (csT L P)) hh hl hd hg hgs hgo (fun v s₁ gs' hbare hv => ?_) (fun s₁ hp h' hk => ?_) fun e s₁ he => he.elim)
    · obtain ⟨_, k, d, x, S, H, β, K, ga, _, ⟨us, c, vs, e1, e2, e3⟩, rv, rd, ⟨_, hK⟩, kap⟩ := hv
      exact (kap _ { s₁ with heap := s₁.heap.update P (Obj.mapSeq (·.push v)) } hK ⟨rfl, ga.bare, fun b o hb e => (Heap.get?_update_other _ _ (fun z => hb (List.mem_singleton.mpr z.symm))).trans e, fun b hb => by
        rw [List.mem_singleton.mp hb]
        exact ⟨_, Heap.get?_update_self _ e1 rfl, fun v z => by cases z⟩⟩ ⟨_, _, vs ++ [x], Heap.get?_update_self _ e1 rfl, by simpa using e2.append (.cons rv .nil), e3.snoc rd⟩).elim
    · obtain ⟨_, acc, S, H, β, ga, hn, ⟨us, c, vs, e1, e2, e3⟩, q⟩ := hp
      exact wpAny_pure (hend acc us c vs _ H β S (inv_of_gat I hex ga.os (allBare_setGen ga.bare rfl) (ga.un.trans (Un.kept hk)) (ga.hok.kept hk)) ga.at_ ga.grow (hk _ _ e1) e2 e3 (hn P (List.mem_singleton.mpr rfl)) q)
  | succ m ih =>
    intro s hg hl ⟨gs, hgs, hgo⟩
    have hgl : g < s.gens.size := (Array.getElem?_eq_some_iff.mp hgs).1
    refine codeAny_builtin F.entry_extend_loop ?_
    rw [Around.under_plainId F.plain_extend_loop _]
    show wpAny _ A.in1 (pyNext (.ref a) >>= _) _ _ s
    refine wpAny_bind (wpAny_gsz (n := g + 1) hgl (next_genG (A := A.in1) (Er := fun _ _ => False) (F := GFin L X sc H1 β1 fp a g [P] (conTP Qd) (csT L P)) hh hl hd hg hgs hgo (fun v s₁ gs' hbare hv hsz => ?_) (fun s₁ hp h' hk _ => ?_) fun e s₁ he => he.elim))
    · obtain ⟨_, acc, d, x, S, H, β, K, ga, hn, ⟨us, c, vs, e1, e2, e3⟩, rv, rd, ⟨hlt, hK⟩, kap⟩ := hv
      have hus : us.size < sizeLine := by
        have q1 := e2.length
        have q2 := e3.length
        have q3 : us.toList.length = us.size := by simp
        omega
      have hsz1 : g < s₁.gens.size := by
        have q : (s₁.setGen g gs').gens.size = s₁.gens.size := setGen_size _ _ _
        have hsz' : g + 1 ≤ (s₁.setGen g gs').gens.size := hsz
        omega
      show wpAny _ A.in1 (updateSeq P (·.push v) >>= _) _ _ _
      refine wpAny_bind ?_
      refine wpAny_updateSeq e1 rfl (wpAny_pure ⟨plainId_quiet F.plain_extend_loop _, ?_⟩) (Nat.le_of_lt hus) (by show (us.push v).size ≤ sizeLine + 1; rw [Array.size_push]; omega)
      have keep3 : ∀ b o, b ≠ P → s₁.heap.get? b = some o → (s₁.heap.update P (Obj.mapSeq (·.push v))).get? b = some o := fun b o hb e => (Heap.get?_update_other _ _ (Ne.symm hb)).trans e
      refine ih { s₁.setGen g gs' with heap := s₁.heap.update P (Obj.mapSeq (·.push v)) } ?_ ?_ ⟨gs', setGen_at hsz1, ?_⟩
      · obtain ⟨o, nm, qn, ho, r⟩ := ga.gen
        exact ⟨o, nm, qn, keep3 a o (Ne.symm hPa) ho, r⟩
      · obtain ⟨mc, hns, hnn⟩ := ga.lim
        exact ⟨mc, hns.at' fun o e => keep3 _ o (Ne.symm hPc) e, hnn⟩
      · exact kap _ _ hK ⟨rfl, allBare_setGen (s := s₁.setGen g gs') (allBare_setGen ga.bare hbare) rfl, fun b o hb e => keep3 b o (fun z => hb (List.mem_singleton.mpr z)) e, fun b hb => by
          rw [List.mem_singleton.mp hb]
          exact ⟨_, Heap.get?_update_self _ e1 rfl, fun v z => by cases z⟩⟩ ⟨_, _, vs ++ [x], Heap.get?_update_self _ e1 rfl, by simpa using e2.append (.cons rv .nil), e3.snoc rd⟩
    · obtain ⟨_, acc, S, H, β, ga, hn, ⟨us, c, vs, e1, e2, e3⟩, q⟩ := hp
      exact wpAny_pure (hend acc us c vs _ H β S (inv_of_gat I hex ga.os (allBare_setGen ga.bare rfl) (ga.un.trans (Un.kept hk)) (ga.hok.kept hk)) ga.at_ ga.grow (hk _ _ e1) e2 e3 (hn P (List.mem_singleton.mpr rfl)) q)

theorem collect_goes {A : Around} {E : Value → Shared → Prop} {Q1 Q : List Value → Shared → Prop} (hg : s.heap.IsGen a g)
    (h : ∀ (h3 : Heap) (R : Result → Shared → Prop), (∀ b o, s.heap.get? b = some o → h3.get? b = some o) → (∃ c, h3.get? s.heap.objs.size = some (lstObj #[] c)) → (∀ s' us c, s'.heap.get? s.heap.objs.size = some (lstObj us c) → Q1 us.toList s' → R (.ok (.ret (.ref s.heap.objs.size))) s') →
      codeAny (model X.prog X.w) A (.builtin "list.extend.loop" ⟨[.ref s.heap.objs.size, .ref a, .ref s.heap.objs.size], []⟩) R { s with heap := h3 })
    (hQ : ∀ xs s', Q1 xs s' → Q xs s') : wpAny (model X.prog X.w) A (collect (.ref a)) Q E s := by
  have hSI : s.heap.objs.size ≠ a := by
    obtain ⟨o, nm, qn, ho, _⟩ := hg
    exact Nat.ne_of_gt (Heap.lt_size ho)
  unfold collect
  refine wpAny_bind (wpAny_runValue (codeAny_builtin F.entry_proto_collect ?_))
  rw [Around.under_plainId F.plain_proto_collect _]
  show wpAny _ A.in1 (newList [] >>= fun l => again (.builtin "list.__iadd__" ⟨[l, .ref a], []⟩)) _ _ s
  refine wpAny_bind (wpAny_newObj_type ?_)
  refine wpAny_pure ⟨plainId_quiet F.plain_list_iadd _, codeAny_builtin F.entry_list_iadd ?_⟩
  rw [Around.under_plainId F.plain_list_iadd _]
  have hg1 : (s.heap.push { cls := .type "list", data := .seq ([] : List Value).toArray }).IsGen a g := hg.keeps fun b o e => Heap.get?_push_of_some _ e
  show wpAny _ A.in1 (Builtin.List.listExtendWith (.ref s.heap.objs.size) (.ref a) (.ref s.heap.objs.size)) _ _ _
  unfold Builtin.List.listExtendWith
  refine wpAny_bind (wpAny_typeOf (Heap.IsGen.typeIs (s := { s with heap := _ }) hg1) ?_)
  have h1 : Builtin.List.listSameRef (.ref s.heap.objs.size) (.ref a) = false := by simp [Builtin.List.listSameRef, hSI]
  have h2 : (Value.type "generator" == Value.type "list") = false := by decide
  have h3 : (Value.type "generator" == Value.type "tuple") = false := by decide
  simp only [h1, h2, h3, Bool.or_false, Bool.false_eq_true, if_false]
  refine wpAny_bind (wpAny_pyIter_gen (s := { s with heap := _ }) hg1 ?_)
  refine wpAny_bind (wpAny_holding ?_)
  unfold Builtin.List.listLengthHint
  refine wpAny_bind (wpAny_specialOf (Heap.IsGen.typeIs (s := { s with heap := _ }) hg1) F.gen_no_len ?_)
  show wpAny _ A.in1 (specialOf (Value.ref a) (Str.ofString "__length_hint__") >>= _) _ _ _
  refine wpAny_bind (wpAny_specialOf (Heap.IsGen.typeIs (s := { s with heap := _ }) hg1) F.gen_no_hint ?_)
  refine wpAny_pure ?_
  show wpAny _ A.in1 (rule "list.extend.makes-room" >>= fun _ => Builtin.List.listTouch (.ref s.heap.objs.size) >>= fun _ =>
    again (.builtin "list.extend.loop" ⟨[.ref s.heap.objs.size, .ref a, .ref s.heap.objs.size], []⟩)) _ _ _
  refine wpAny_bind (wpAny_rule ?_)
  have hS₁ : (s.heap.push { cls := .type "list", data := .seq ([] : List Value).toArray }).get? s.heap.objs.size = some { cls := .type "list", data := .seq ([] : List Value).toArray } := Heap.get?_push_size _ rfl
  refine wpAny_bind ?_
  show wpAny _ A.in1 (updateSeq s.heap.objs.size (·.push .none) >>= fun _ => updateSeq s.heap.objs.size (·.pop)) _ _ _
  refine wpAny_bind (wpAny_updateSeq hS₁ rfl ?_)
  have hS₂ := Heap.get?_update_self (Obj.mapSeq (·.push Value.none)) hS₁ rfl
  refine wpAny_updateSeq hS₂ rfl ?_
  have hS₃ := Heap.get?_update_self (Obj.mapSeq (·.pop)) hS₂ rfl
  have oth : ∀ b o, s.heap.get? b = some o →
      (((s.heap.push { cls := .type "list", data := .seq ([] : List Value).toArray }).update s.heap.objs.size (Obj.mapSeq (·.push Value.none))).update s.heap.objs.size (Obj.mapSeq (·.pop))).get? b = some o := fun b o e =>
    have hb : s.heap.objs.size ≠ b := Nat.ne_of_gt (Heap.lt_size e)
    (Heap.get?_update_other _ _ hb).trans ((Heap.get?_update_other _ _ hb).trans (Heap.get?_push_of_some _ e))
  refine wpAny_pure ⟨plainId_quiet F.plain_extend_loop _, h _ _ oth ⟨_, hS₃⟩ fun s' us c hS' q => ?_⟩
  show wpAny _ A (load s.heap.objs.size >>= _) _ _ s'
  exact wpAny_bind (wpAny_load hS' (wpAny_pure (hQ _ _ q)))
theorem tuple_goes {A : Around} {E : Value → Shared → Prop} {Q1 : List Value → Shared → Prop} {Q : Value → Shared → Prop} (hg : s.heap.IsGen a g)
    (h : ∀ (h3 : Heap) (R : Result → Shared → Prop), (∀ b o, s.heap.get? b = some o → h3.get? b = some o) → (∃ c, h3.get? s.heap.objs.size = some (lstObj #[] c)) → (∀ s' us c, s'.heap.get? s.heap.objs.size = some (lstObj us c) → Q1 us.toList s' → R (.ok (.ret (.ref s.heap.objs.size))) s') →
      codeAny (model X.prog X.w) A.in1.in1 (.builtin "list.extend.loop" ⟨[.ref s.heap.objs.size, .ref a, .ref s.heap.objs.size], []⟩) R { s with heap := h3 })
    (hQ : ∀ xs s', Q1 xs s' → xs.length ≤ sizeLine ∧ Q (.ref s'.heap.objs.size) { s' with heap := s'.heap.push { cls := .type "tuple", data := .seq xs.toArray } }) : wpAny (model X.prog X.w) A (call (.type "tuple") [.ref a]) Q E s := by
  refine callType_codes (Q₁ := fun obj s₁ => s₁.TypeIs obj "tuple" ∧ Q obj s₁) F.called_tuple (F.typeCall_tuple_1 _) F.entry_object_init ?_ fun obj s₁ h₁ =>
    ⟨h₁.1, F.args_object_init_2 obj _, object_init_meets F.called_tuple.init.lookup F.called_tuple.made (by decide) X.prog X.w A.in1 _ s₁ ⟨h₁.1, rfl, h₁.2⟩⟩
  refine codeAny_of_tree ?_
  show wpAny _ A.in1.in1 (do checkBuiltinCall "tuple.__new__" ⟨[.type "tuple", .ref a], []⟩; again (.builtin "tuple.__new__" ⟨[.type "tuple", .ref a], []⟩)) _ _ s
  refine wpAny_bind (wpAny_of_eq (F.newCall_tuple_1 _) (wpAny_pure ⟨plainId_quiet F.plain_tuple_new _, codeAny_builtin F.entry_tuple_new ?_⟩))
  rw [Around.under_plainId F.plain_tuple_new _]
  have hsub := sub_tuple_self
  have hinit := init_tuple_lookup
  have hmh := madeHere_tuple
  have hTI := hg.typeIs
  wp_walk using wpAny_typeOf hTI, collect_goes hg h
  intro xs s' q1
  obtain ⟨hz, q⟩ := hQ xs s' q1
  show wpAny _ _ (Builtin.Tuple.tupleExact xs.toArray >>= fun v => ret v) _ _ _
  unfold Builtin.Tuple.tupleExact
  refine wpAny_bind (wpAny_newObj_type ?_ (by show xs.toArray.size ≤ sizeLine; simpa using hz))
  exact wpAny_pure ⟨⟨_, Heap.get?_push_size _ rfl, rfl⟩, q⟩


variable {scope : Scope} {own : List (Str × Nat)} {tg iter elt : Expr} {ifs : List Expr} {t : Tg} {Ifs : Es} {Sr : Sr} {Elt : E} {pos p gp : Pos} {r : Nat} {sn : Scope}
theorem RW.ex {α : Type} {r : M α} {Q : α → Sto → Prop} (h : RW r Q fun _ _ => False) : ∃ a s, Q a s := by
  cases r with
  | ok a s => exact ⟨a, s, h⟩
  | exc x s => exact h.elim
  | bad => exact h.elim
theorem tp_dem {tests : Env → Sto → M Bool} {elt : Env → Sto → M D} {gg : Option (Nat × List D)} {ρ : Env} (hQ : ∀ acc S, Qd acc S → acc.length ≤ sizeLine) : ∀ (xs acc : List D) (S : Sto), RW (tpGo tests elt t gg ρ xs acc S) Qd (fun _ _ => False) → gDem (conTP Qd) tests elt t gg ρ xs acc S ∧ acc.length ≤ sizeLine
  | [], acc, S, h => by
    simp only [tpGo] at h
    obtain ⟨h1, h2⟩ := still_ok (RW.step (Q' := fun (_ : Unit) S2 => Qd acc S2) h fun a s q => q)
    exact ⟨⟨h1, h2⟩, hQ _ _ h2⟩
  | x :: xs, acc, S, h => by
    simp only [tpGo] at h
    obtain ⟨h1, ρ', h2, h⟩ := turn_ok h
    have key : RW (tests ρ' S) (fun b S1 => (if b then RW (elt ρ' S1) (fun d S2 => (conTP Qd).yd acc d S2 fun k' => gDem (conTP Qd) tests elt t gg ρ xs k' S2) (fun _ _ => False) else gDem (conTP Qd) tests elt t gg ρ xs acc S1) ∧ acc.length ≤ sizeLine) (fun _ _ => False) := by
      refine RW.step h fun b S1 h => ?_
      cases b with
      | false => exact tp_dem hQ xs acc S1 h
      | true =>
        simp only [if_true] at h ⊢
        have h' : RW (elt ρ' S1) (fun d S2 => gDem (conTP Qd) tests elt t gg ρ xs (acc ++ [d]) S2 ∧ (acc ++ [d]).length ≤ sizeLine) (fun _ _ => False) := RW.step h fun d S2 h => tp_dem hQ xs (acc ++ [d]) S2 h
        refine ⟨h'.mono (fun d S2 q => ⟨?_, q.1⟩) fun _ _ z => z, ?_⟩
        · have := q.2
          simp only [List.length_append, List.length_cons, List.length_nil] at this
          omega
        · obtain ⟨d, S2, q⟩ := RW.ex h'
          have := q.2
          simp only [List.length_append, List.length_cons, List.length_nil] at this
          omega
    obtain ⟨_, _, q⟩ := RW.ex key
    exact ⟨⟨h1, ρ', h2, key.mono (fun _ _ q => q.1) fun _ _ z => z⟩, q.2⟩
theorem arm_tupG (fa : Fa L X) (hs : X.env.scope = sn) (hg : gloB sn ("tuple" : Str) = true) (hr : Room (r + 5) X.A) (hn : L.G.nm gp.line gp.col = none) (hi : PI X tg iter (OfW L X W (evSr L.G.con cf Sr))) (b : BlkG L X scope own tg elt ifs t Ifs Elt cf r) (hf : ∀ x, genFold iter X.env x = pure x) :
    PE X (.Call (.Name ("tuple" : Str) p) [.GeneratorExp elt [⟨tg, iter, ifs, 0⟩] scope gp] [] pos) (OfE L X W (evE L.G.con cf (.gen .tuple Sr t (own.map (·.2)) Ifs Elt))) := by
  refine ⟨fun pins s σ H Q I h => ?_⟩
  obtain ⟨ρ, S, β, er, at_, h⟩ := h
  simp only [evE] at h
  refine wpAny_Call_Name_kw (ld_blt I (glo_of hs hg) (fa.bt _ (by decide +kernel)) (by decide +kernel : bootBuiltins ("tuple" : Str) = some (.type "tuple")) ?_)
  refine PyProof.Rows.callWith_type1 ?_ (by rfl) (by rfl)
  show wpAny _ _ (spliced ((false, eval (.GeneratorExp elt [⟨tg, iter, ifs, 0⟩] scope gp) X.env) :: backTo pos (starEach [] X.env))) _ _ s
  refine Calls.spliced_cons (gen_made (r := r) (Q1 := fun w S1 => RW (tpGo (evIfs L.G.con cf Ifs) (evE L.G.con cf Elt) t w.2 (wipe (noClo ρ) (own.map (·.2))) w.1 [] S1) (fun ds S2 => ds.length ≤ sizeLine ∧ KG L.G (RV L.G) H β Q (.tup ds) S2) (fun _ _ => False)) fa fa.bm hn hi b hf hr.depth I er at_ (RW.step h fun w S1 h => ?_) fun w S1 a s5 q1 gv => ?_)
  · have h := RW.calm (W' := fun _ _ => False) (RW.step (Q' := fun (ds : List D) S2 => ds.length ≤ sizeLine ∧ KG L.G (RV L.G) H β Q (.tup ds) S2) h fun ds S2 q0 => by
      obtain ⟨a, S', e, q⟩ := RW.up q0
      obtain ⟨hz, e1, e2⟩ := mkTup_ok e
      subst e1
      subst e2
      exact ⟨hz, q⟩)
    exact h
  · refine Calls.spliced_nil ?_
    obtain ⟨g, c, sc, H1, β1, fp, g1, I1, at1, hex, ha1, ha2, hgen, hgs, hos, hb, hl, hkp, wake⟩ := gv
    refine tuple_goes (X := X) (g := g) (Q1 := fun xs s' => ∃ acc vs H' β' S', Inv X pins σ H' s' ∧ At L.G H' β' S' ∧ Grow H H' β β' ∧ Vals vs xs ∧ RVs L.G H' β' acc vs ∧ acc.length ≤ sizeLine ∧ KG L.G (RV L.G) H β Q (.tup acc) S') hgen (fun h3 R k3 hP hR => ?_) fun xs s' q => ?_
    · have hcl : cStatics < s5.heap.objs.size := let ⟨_, hn, _⟩ := hl; hn.lt
      refine tp_loop (L := L) (X := X) (pins := pins) (σ := σ) (sc := sc) (H1 := H1) (β1 := β1) (fp := fp) (g := g) (Qd := fun ds S2 => ds.length ≤ sizeLine ∧ KG L.G (RV L.G) H β Q (.tup ds) S2) (A := X.A.in1.in1) (I1.ok.hd fa.calm) hr.depth I1 hex (Nat.ne_of_gt ha2) (Nat.ne_of_gt hcl)
        (fun acc us c vs s' H' β' S' I' at' g' e r1 r2 _ q => hR s' us c e ⟨acc, vs, H', β', S', I', at', g1.trans g', r1, r2, q.1, q.2⟩) w.1.length { s5 with heap := h3 } (hgen.keeps k3) (hl.keeps k3) ⟨_, hgs, rfl, ?_⟩
      obtain ⟨cP, eP⟩ := hP
      exact wake (List D) _ [s5.heap.objs.size] (csT L s5.heap.objs.size) X.A.in1.in1.in1.in1 _ [] _ (Room.in1 (Room.in1 (Room.in1 (Room.in1 hr)))) I1.ok.frames fa.gu csT_ok (fun b hb => by
        rw [List.mem_singleton.mp hb]
        exact ⟨Nat.le_refl _, _, eP, fun v z => by cases z⟩) k3 rfl (allBare_setGen (s := { s5 with heap := h3 }) hb rfl) ⟨#[], cP, [], eP, .nil, .nil⟩ (tp_dem (fun acc S q => q.1) _ _ _ q1).1 (Nat.le_refl _)
    · obtain ⟨acc, vs, H', β', S', I', at', g', r1, r2, hz, q⟩ := q
      have e1 := r1.length
      have e2 := r2.length
      refine ⟨by omega, .ref s'.heap.objs.size, upd H' s'.heap.objs.size (.tup vs), I'.laid (t' := s'.toks) (o := .tup vs) (fun b u e => Heap.get?_push_of_some _ e) (Nat.le_refl _) ?_, rfl, ?_⟩
      · exact ⟨by omega, xs, r1, _, Heap.get?_push_size _ rfl, rfl, 0, rfl⟩
      · have hn : H' s'.heap.objs.size = none := I'.hok.fresh (Nat.le_refl _)
        have gn : Grow H' (upd H' s'.heap.objs.size (.tup vs)) β' β' := Grow.new hn
        exact q _ _ β' (g'.trans gn) (at'.tup hn (at'.fresh hn)) (.tup (SqT.of upd_same) (r2.grow gn))
end
end EV
/-! EvAC: lambdas are made and handed on (own work; the walk follows KE.KLam's and HandS.Lambda's). -/
namespace EV
open PySem PySem.Spec PyProof.Rows L2 GenW
section
variable {M : Model} {A : Around} {E : Value → Shared → Prop} {s : Shared} {name qual : Str} {params : Arguments} {body : Expr} {scope : Scope} {env : PySem.Env} {c P : Addr} {ps : Array Value} {pos : Pos} {firstLine : Nat} {mg : Str → Option Value}
  {clos : List (Str × Addr)} {Q : Value → Shared → Prop}
theorem lam_tail (hcl : closureFor scope env = pure clos) (hge0 : env.globals = mainGlobals) (hg : s.heap.Ns mainGlobals mg) (hcode : env.code = .ref c) (C : PySem.W.CodeHd s.heap c P) (hP : s.heap.get? P = some { cls := .none, data := .fields ps }) (ht : TriplesOk ps.toList)
    (hnf : codeAmong pos ps.toList = none) (hgP : mainGlobals ≠ P) (hb : s.heap.BuiltinsAt mg P)
    (h : ∀ c' ctv h' tk, Heap.ExtBut P s.heap h' → s.heap.objs.size ≤ c' → c' < h'.objs.size → h'.CodeRec (.ref c') qual → h'.get? P = some { cls := .none, data := .fields (ps ++ #[rawInt pos.line, rawInt pos.col, .ref c']) } → (∃ P', s.heap.objs.size ≤ P' ∧ h'.IsCode c' P' #[] ∧ h'.TableAt c' P' #[]) →
      Q (.ref h'.objs.size) { s with heap := h'.push (PySem.W.kla_obj name qual params body scope clos ((mg "__name__").getD .none) c' ctv), toks := tk }) :
    wpAny M A (makeFunction name qual params (.expr body) scope env [] [] [] pos firstLine) Q E s := by
  rw [makeFunction_eq]
  simp only [List.zip_nil_right, List.filterMap_nil, List.isEmpty_nil, if_true, pure_bind]
  obtain ⟨bm, ob, hbm, hne0, _, hneP, hbo, hcls, hdict, hdata⟩ := hb
  unfold makeTail
  rw [hcl, hge0]
  refine wpAny_bind (wpAny_pure ?_)
  cases clos with
  | nil =>
    simp only [List.isEmpty_nil, if_true]
    refine wpAny_bind (wpAny_pure ?_)
    refine wpAny_bind (wpAny_functionCodeX hcode (C.code hP ht) (C.tab hP) hnf fun c' h' tk hx hge hlt _ hrec htb hnew => ?_)
    have hg' := hg.extBut hx hgP
    refine wpAny_bind (wpAny_builtinsFor hg' hbm hne0 (hx _ _ hneP hbo) hcls hdict hdata ?_)
    refine wpAny_bind (wpAny_nsGet hg' ?_)
    exact wpAny_bind (wpAny_pure (wpAny_newObj_type (h c' .none h' tk hx hge hlt hrec htb.2 hnew) (by size_fits)))
  | cons q r =>
    simp only [List.isEmpty_cons, Bool.false_eq_true, if_false]
    refine wpAny_bind (wpAny_newTextTuple ?_)
    refine wpAny_bind (wpAny_functionCodeX hcode ((C.keeps fun b o e => Heap.get?_push_of_some _ e).code (Heap.get?_push_of_some _ hP) ht) ((C.keeps fun b o e => Heap.get?_push_of_some _ e).tab (Heap.get?_push_of_some _ hP)) hnf fun c' h' tk hx hge hlt _ hrec htb hnew => ?_)
    have hg' := (hg.push _).extBut hx hgP
    have hx' : Heap.ExtBut P s.heap h' := fun b o hb' e => hx b o hb' (Heap.get?_push_of_some _ e)
    have hsz : ∀ oT : Obj, s.heap.objs.size ≤ (s.heap.push oT).objs.size := fun oT => by rw [Heap.size_push]; omega
    have hge' : s.heap.objs.size ≤ c' := Nat.le_trans (hsz _) hge
    obtain ⟨P', hP', hn1, hn2⟩ := hnew
    refine wpAny_bind (wpAny_builtinsFor hg' hbm hne0 (hx' _ _ hneP hbo) hcls hdict hdata ?_)
    refine wpAny_bind (wpAny_nsGet hg' ?_)
    exact wpAny_bind (wpAny_pure (wpAny_newObj_type (h c' _ h' tk hx' hge' hlt hrec htb.2 ⟨P', Nat.le_trans (hsz _) hP', hn1, hn2⟩) (by size_fits)))
end
section
variable {L : Lw} {X : Cx} {W : WX} {cf : Cf} {pins : List (Addr × Obj)} {σ : L2.St} {H : Hp} {β : List Addr} {s : Shared} {S : Sto}
theorem lam_made {params : Arguments} {body : Expr} {scope : Scope} {pos : Pos} {E : Value → Shared → Prop} {Q : Value → Shared → Prop} (I : Inv X pins σ H s) (at_ : At L.G H β S) (cv : CodeV X.base X.env.code H) (hb : ∃ P0, X.base.BuiltinsAt X.mg P0)
    (hn : L.G.nm pos.line pos.col = some (X.env.qual ++ ("<lambda>" : Str))) (hdef : defaultsOf params X.env = ([], [])) (hfree : ∀ y ∈ scope.names, y.2 = .free → ∃ c, X.env.cells.lookup y.1 = some c)
    (h : ∀ (f c' P' : Addr) (pm ctv : Value) (H1 : Hp) (s' : Shared), Inv X pins σ H1 s' → Grow H H1 β β → At L.G H1 β S →
      s'.heap.get? f = some (PySem.W.kla_obj "<lambda>" (X.env.qual ++ ("<lambda>" : Str)) params body scope (cloFrom X.env.cells scope.names []) pm c' ctv) → H1 f = none → f ∉ frs X.stack → H1 c' = some (CodeX c' P' (X.env.qual ++ ("<lambda>" : Str))) → (∃ ps, H1 P' = some (.tbl ps)) → Q (.ref f) s') :
    wpAny (model X.prog X.w) X.A (eval (.Lambda params body scope pos) X.env) Q E s := by
  obtain ⟨c, P, hcode, ⟨ps, hP⟩, hc⟩ := cv
  have cd := codeHd_of I hc
  obtain ⟨ht, ha⟩ := at_.tb.ok P ps hP
  have hP' : s.heap.get? P = some { cls := .none, data := .fields ps } := I.hok P _ hP
  have bP : s.heap.BuiltinsAt X.mg P := by
    obtain ⟨P0, bm, ob, e1, e2, e3, e4, e5, e6, e7, e8⟩ := hb
    have e5' := I.bk _ _ e5
    refine ⟨bm, ob, e1, e2, e3, fun z => ?_, e5', e6, e7, e8⟩
    rw [z, hP'] at e5'
    cases e5'
    cases e8
  have gP : mainGlobals ≠ P := fun z => by
    obtain ⟨ob, es, ep, ho, hd, _⟩ := (I.mod.glob.keeps I.bk)
    rw [z, hP'] at ho
    cases ho
    cases hd
  have nofr : ∀ f, s.heap.objs.size ≤ f → f ∉ frs X.stack := fun f hf z => by
    rcases List.mem_cons.mp (I.stkSub _ z) with e | e
    · have h1 := I.lt
      rw [← e] at h1
      exact Nat.lt_irrefl _ (Nat.lt_of_lt_of_le h1 hf)
    · exact I.nofs hf e
  refine PySem.W.kla_eval hdef ?_
  cases hf : codeAmong pos ps.toList with
  | none =>
    refine lam_tail (mg := X.mg) (c := c) (P := P) (ps := ps) (closure_ok hfree) I.ok.glob (I.mod.glob.keeps I.bk) hcode cd hP' ht hf gP bP fun c' ctv h' tk hx hge hlt hrec htb hnew => ?_
    obtain ⟨P', hPn, hc1, hc2⟩ := hnew
    have ch := PySem.W.CodeHd.of hc1 hc2
    have hne : c' ≠ P' := by
      obtain ⟨_, _, _, _, _, _, _, _, _, _, _, _, _, _, _, _, _, _, z⟩ := ch
      exact z
    have nC : H c' = none := I.hok.fresh hge
    have nP' : H P' = none := I.hok.fresh hPn
    have hsz : s.heap.objs.size ≤ h'.objs.size := Nat.le_trans hge (Nat.le_of_lt hlt)
    have I1 := inv_code (t' := tk) (q := X.env.qual ++ ("<lambda>" : Str)) (more := #[rawInt pos.line, rawInt pos.col, .ref c']) (h' := h'.push (PySem.W.kla_obj "<lambda>" (X.env.qual ++ ("<lambda>" : Str)) params body scope (cloFrom X.env.cells scope.names []) ((X.mg "__name__").getD .none) c' ctv)) I hP
      (fun b o hb e => Heap.get?_push_of_some _ (hx b o hb e)) (Heap.get?_push_of_some _ htb) hge hPn hne ⟨ch.keeps fun b o e => Heap.get?_push_of_some _ e, hrec.keeps fun b o e => Heap.get?_push_of_some _ e⟩ (Heap.get?_push_of_some _ hc2.2)
    have at1 := at_.code (pos := pos) (q := X.env.qual ++ ("<lambda>" : Str)) hP nC nP' hne (fun n e => by rw [hn] at e; exact Option.some.inj e)
    refine h h'.objs.size c' P' ((X.mg "__name__").getD .none) ctv _ _ I1 (grow_code hP nC nP') at1 (Heap.get?_push_size _ rfl) ?_ (nofr _ hsz) upd_same ⟨#[], by rw [upd_ne (Ne.symm hne), upd_same]⟩
    have hP'lt : P' < h'.objs.size := Heap.lt_size hc2.2
    have hPlt : P < h'.objs.size := Heap.lt_size htb
    rw [upd_ne (Nat.ne_of_gt hlt), upd_ne (Nat.ne_of_gt hP'lt), upd_ne (Nat.ne_of_gt hPlt)]
    exact I.hok.fresh hsz
  | some cv' =>
    obtain ⟨c', P', q, e, hco, hq, hp'⟩ := ha pos cv' hf
    subst e
    have hq := hq _ hn
    subst hq
    refine PySem.W.kla_makeFunctionHit (mg := X.mg) (c := c) (P := P) (ps := ps) (closure_ok hfree) I.ok.glob (I.mod.glob.keeps I.bk) hcode cd hP' ht hf bP fun ctv h' tk hx hsz => ?_
    have I1 : Inv X pins σ H { s with heap := h'.push (PySem.W.kla_obj "<lambda>" (X.env.qual ++ ("<lambda>" : Str)) params body scope (cloFrom X.env.cells scope.names []) ((X.mg "__name__").getD .none) c' ctv), toks := tk } := I.kept fun b o e => Heap.get?_push_of_some _ (hx b o e)
    exact h h'.objs.size c' P' ((X.mg "__name__").getD .none) ctv H _ I1 Grow.refl at_ (Heap.get?_push_size _ rfl) (I.hok.fresh hsz) (nofr _ hsz) hco hp'
end
end EV
/-! EvAD: a def called with a lambda (own work). -/
namespace EV
open PySem PySem.Spec PyProof.Rows L2 GenW
theorem mapM_mem {α β : Type} {f : α → Option β} : ∀ {xs : List α} {ys : List β}, xs.mapM f = some ys → ∀ y ∈ ys, ∃ x ∈ xs, f x = some y
  | [], ys, h, y, hy => by
    simp at h
    subst h
    cases hy
  | x :: xs, ys, h, y, hy => by
    simp only [List.mapM_cons, bind, Option.bind_eq_some_iff, pure, Option.some.injEq] at h
    obtain ⟨z, h1, zs, h2, rfl⟩ := h
    rcases List.mem_cons.mp hy with e | e
    · subst e
      exact ⟨x, List.mem_cons_self, h1⟩
    · obtain ⟨x', hx, h3⟩ := mapM_mem h2 y e
      exact ⟨x', List.mem_cons_of_mem _ hx, h3⟩
/-- what lamOk tells -/
structure LamF (N : List Str) (sc lsc : Scope) (a : Arguments) : Prop where
  kind : lsc.kind = .function
  co : lsc.isCoroutine = false
  gen : lsc.isGenerator = false
  pos : a.posonlyargs = []
  va : a.vararg = none
  ko : a.kwonlyargs = []
  kd : a.kw_defaults = []
  kw : a.kwarg = none
  df : a.defaults = []
  uniq : ∀ y ∈ lsc.names, lsc.names.lookup y.1 = some y.2
  free : ∀ y ∈ lsc.names, y.2 = .free → sc.names.lookup y.1 = some .cell ∨ sc.names.lookup y.1 = some .free
  own : ∀ y ∈ lsc.names, y.2 = .local ∨ y.2 = .cell → y.1 ∈ a.args.map (·.arg)
  par : ∀ x ∈ a.args.map (·.arg), locB lsc x = true ∧ okName x = true
  nd : (a.args.map (·.arg)).Nodup
theorem lamF_of {N : List Str} {sc lsc : Scope} {a : Arguments} (h : lamOk N sc lsc a = true) : LamF N sc lsc a := by
  unfold lamOk at h
  simp only [Bool.and_eq_true, Bool.or_eq_true, Bool.not_eq_true', decide_eq_true_eq, decide_eq_false_iff_not, List.all_eq_true, List.isEmpty_iff, Option.isNone_iff_eq_none] at h
  obtain ⟨⟨⟨⟨⟨⟨⟨⟨⟨⟨⟨⟨h1, h2⟩, h3⟩, h4⟩, h5⟩, h6⟩, h7⟩, h8⟩, h9⟩, h10⟩, h11⟩, h12⟩, h13⟩ := h
  refine ⟨h1, h2, h3, h4, h5, h6, h7, h8, h9, h10, fun y hy e => ?_, fun y hy e => ?_, h12, h13⟩
  · rcases (h11 y hy).1 with z | z
    · exact absurd e z
    · exact z
  · rcases (h11 y hy).2 with z | z
    · exact absurd e (by simpa using z)
    · exact z
theorem defaults_of {N : List Str} {sc lsc : Scope} {a : Arguments} {env : PySem.Env} (F : LamF N sc lsc a) : defaultsOf a env = ([], []) := by
  obtain ⟨a1, a2, a3, a4, a5, a6, a7⟩ := a
  have h1 : a5 = [] := F.kd
  have h2 : a7 = [] := F.df
  have h3 : a4 = [] := F.ko
  subst h1
  subst h2
  subst h3
  rfl
theorem keep_get {ρ : Env} {caps : List Nat} {i : Nat} {d : D} (h : (keepOnly ρ caps)[i]? = some (some d)) : i ∈ caps ∧ ρ[i]? = some (some d) := by
  unfold keepOnly at h
  simp only [List.getElem?_map, Option.map_eq_some_iff] at h
  obtain ⟨j, h1, h2⟩ := h
  have hj : j = i := by
    by_cases hl : i < ρ.length
    · rw [List.getElem?_range hl] at h1
      exact (Option.some.inj h1).symm
    · rw [List.getElem?_eq_none (by simpa using hl)] at h1
      cases h1
  subst hj
  by_cases hc : j ∈ caps
  · rw [if_pos hc] at h2
    refine ⟨hc, ?_⟩
    cases e : ρ[j]? with
    | none => rw [e] at h2; cases h2
    | some o => rw [e] at h2; cases o with
      | none => cases h2
      | some d' => cases h2; rfl
  · rw [if_neg hc] at h2
    cases h2
section
variable {L : Lw} {X : Cx} {W : WX} {cf : Cf} {pins : List (Addr × Obj)} {σ : L2.St} {H : Hp} {β : List Addr} {s : Shared} {S : Sto}
theorem clo_made {ρ : Env} {n : Nat} {ql : Str} {params : Arguments} {be : Expr} {scope : Scope} {f c' P' : Addr} {pm ctv : Value} {q : Str} {ps caps : List Nat} {body : E} (fa : Fa L X) (I : Inv X pins σ H s) (er : ER L.G L.fnN L.conN X H β ρ σ)
    (ok : lamOk X.N X.env.scope scope params = true) (hps : slots X.N (params.args.map (·.arg)) = some ps) (hcap : slots X.N ((scope.names.filter fun p => decide (p.2 = .free)).map (·.1)) = some caps) (hE : cE (L.C X.N ql) n 2 scope be = some body)
    (he : s.heap.get? f = some (PySem.W.kla_obj "<lambda>" q params be scope (cloFrom X.env.cells scope.names []) pm c' ctv)) (hfn : H f = none) (hfr : f ∉ frs X.stack) (hco : H c' = some (CodeX c' P' q)) (hp : ∃ ps, H P' = some (.tbl ps)) :
    CloR L.G L.fnN L.conN s.heap H (frs X.stack) H β (.clo ps body (keepOnly (noClo ρ) caps)) (.ref f) := by
  have F := lamF_of ok
  have hfree : ∀ y ∈ scope.names, y.2 = .free → ∃ c, X.env.cells.lookup y.1 = some c := fun y hy e => by
    rcases F.free y hy e with k | k
    · exact I.ok.has _ (.inl k)
    · exact I.ok.has _ (.inr k)
  have cm : ∀ {y c}, (y, c) ∈ cloFrom X.env.cells scope.names [] → X.env.cells.lookup y = some c := fun {y c} e => by
    rcases cloFrom_mem e with hm | ⟨h1, h2⟩
    · cases hm
    · obtain ⟨c1, hc⟩ := hfree _ h1 rfl
      have hc : X.env.cells.lookup y = some c1 := hc
      have e2 : c = (X.env.cells.lookup y).getD 0 := h2
      rw [hc] at e2
      have e3 : c = c1 := e2
      rw [e3]
      exact hc
  refine ⟨X.N, n, c', P', pm, ctv, params, be, scope, q, _, fa.nd, he, hfn, hfr, hco, hp, ⟨ql, hE⟩, hps, ⟨X.env.scope, ok⟩, ?_, fun x y a e1 e2 => I.ok.inj x y a (cm e1) (cm e2), fun x a b e1 e2 => Option.some.inj ((cm e1).symm.trans (cm e2)), fun x a e => ?_, fun x a e => ⟨I.freeC x a (cm e), I.cell x a (cm e)⟩, fun y hy e => ?_, fun i x d e1 e2 => ?_⟩
  · simp only [keepOnly, List.length_map, List.length_range, noClo]
    rw [er.len, I.len]
  · rcases cloFrom_mem e with hm | ⟨h1, _⟩
    · cases hm
    · exact F.uniq _ h1
  · have hy : (y.1, NameKind.free) ∈ scope.names := by
      rw [← e]
      exact hy
    exact mem_lookup (cloFrom_has (cells := X.env.cells) (acc := []) hy)
  · obtain ⟨h1, h2⟩ := keep_get e2
    obtain ⟨h3, h4⟩ := noClo_get h2
    obtain ⟨y, hy, hs⟩ := mapM_mem hcap i h1
    have hs := slot_of hs
    rw [e1] at hs
    have hs : x = y := Option.some.inj hs
    subst hs
    obtain ⟨z, hz, hzx⟩ := List.mem_map.mp hy
    obtain ⟨hz1, hz2⟩ := List.mem_filter.mp hz
    have hz2 : z.2 = .free := of_decide_eq_true hz2
    have hlf : scope.names.lookup x = some .free := by
      rw [← hzx, F.uniq z hz1, hz2]
    refine ⟨hlf, ?_⟩
    obtain ⟨v, ev, ra⟩ := er.at_ i d h3
    have rv : RV L.G H β d v := by
      rcases ra with r | ⟨_, r⟩
      · exact r
      · cases d with
        | clo _ _ _ => cases h4
        | _ => exact r.elim
    obtain ⟨m, hn, hl⟩ := I.loc
    have hf2 := F.free z hz1 hz2
    rw [hzx] at hf2
    have hvis : Vis X.env.scope x := hf2.elim (fun k => .inr (.inl k)) (fun k => .inr (.inr k))
    obtain ⟨u, r, lk⟩ := hl i x v e1 ev hvis
    obtain ⟨c2, h5⟩ := mem_lookup (cloFrom_has (cells := X.env.cells) (acc := []) (PySem.mem_of_lookup hlf))
    refine ⟨c2, u, v, h5, ?_, r, rv⟩
    rcases lk with ⟨k, _⟩ | ⟨_, c3, e', zc⟩
    · have k : X.env.scope.names.lookup x = some .local := k
      rcases hf2 with k2 | k2 <;> rw [show X.env.scope.names.lookup x = _ from k2] at k <;> cases k
    · rw [cm (PySem.mem_of_lookup h5)] at e'
      cases e'
      exact zc
/-- arguments, then a lambda -/
theorem args_lam {f : Expr → Option E} (hf : ∀ e E, f e = some E → PE X e (OfE L X W (evE L.G.con cf E)) ∧ NoStar X e) {lam : Expr} {pos : Pos} {ρ : Env} {P : List D → Sto → Prop} : ∀ (es : List Expr) (Es : List E) (s : Shared) (H : Hp) (β : List Addr) (S : Sto) (Q : List Value → Shared → Prop), es.mapM f = some Es → Inv X pins σ H s → ER L.G L.fnN L.conN X H β ρ σ → At L.G H β S →
    RW (evEs L.G.con cf (esOf Es) ρ S) P (KX L.G L.cad H β fun c d H' => W c d σ H') →
    (∀ ds vs us S1 β1 H1 s1, Inv X pins σ H1 s1 → Grow H H1 β β1 → At L.G H1 β1 S1 → RVs L.G H1 β1 ds vs → Vals vs us → P ds S1 → wpAny (model X.prog X.w) X.A (spliced (backTo pos (starEach [lam] X.env))) (fun us2 s2 => Q (us ++ us2) s2) X.xe s1) →
    wpAny (model X.prog X.w) X.A (spliced (backTo pos (starEach (es ++ [lam]) X.env))) Q X.xe s
  | [], Es, s, H, β, S, Q, h, I, er, at_, hr, hl => by
    simp at h
    subst h
    exact hl [] [] [] S β H s I Grow.refl at_ .nil .nil hr
  | e :: es, Es, s, H, β, S, Q, h, I, er, at_, hr, hl => by
    simp only [List.mapM_cons, bind, Option.bind_eq_some_iff, pure, Option.some.injEq] at h
    obtain ⟨E1, h1, Er, h2, rfl⟩ := h
    obtain ⟨p1, st⟩ := hf e E1 h1
    simp only [esOf, evEs] at hr
    rw [List.cons_append, st]
    show wpAny _ _ (spliced ((false, eval e X.env) :: backTo pos (starEach (es ++ [lam]) X.env))) _ _ s
    refine Calls.spliced_cons (thn (p1.run pins s σ H (fun v H1 => ∃ d S1 β1, Grow H H1 β β1 ∧ At L.G H1 β1 S1 ∧ RV L.G H1 β1 d v ∧ RW ((evEs L.G.con cf (esOf Er) ρ S1).bind fun ds S2 => .ok (d :: ds) S2) P (KX L.G L.cad H1 β1 fun c d H' => W c d σ H')) I ⟨ρ, S, β, er, at_, RW.step hr fun d S1 hr v H1 β1 g at1 r => ⟨d, S1, β1, g, at1, r, hr.mono (fun _ _ q => q) fun _ _ q c d H' β' g' => q c d H' β' (g.trans g')⟩⟩) fun u s1 ⟨v, H1, I1, ru, d, S1, β1, g, at1, rd, hr⟩ => ?_)
    refine args_lam hf es Er s1 H1 β1 S1 (P := fun ds S2 => P (d :: ds) S2) (fun us s2 => Q (u :: us) s2) h2 I1 (er.grow g) at1 (RW.step hr fun ds S2 q => q) fun ds vs us S2 β2 H2 s2 I2 g2 at2 rs rv hP => ?_
    exact hl (d :: ds) (v :: vs) (u :: us) S2 β2 H2 s2 I2 (g.trans g2) at2 (.cons (rd.grow g2) rs) (.cons ru rv) hP

theorem plain_app {f : Expr → Option E} (hf : ∀ e E, f e = some E → NoStar X e) {lam : Expr} (hl : NoStar X lam) : ∀ (es : List Expr) (Es : List E), es.mapM f = some Es → ∀ pos, (backTo pos (starEach (es ++ [lam]) X.env)).any (·.1) = false
  | [], Es, h, pos => by
    rw [List.nil_append, hl]
    rfl
  | e :: es, Es, h, pos => by
    simp only [List.mapM_cons, bind, Option.bind_eq_some_iff, pure, Option.some.injEq] at h
    obtain ⟨E1, h1, Er, h2, rfl⟩ := h
    rw [List.cons_append, hf e E1 h1]
    show (false || (backTo pos (starEach (es ++ [lam]) X.env)).any (·.1)) = false
    rw [plain_app hf hl es Er h2 pos]
    rfl
theorem arm_calll {sc : Scope} {f : Expr → Option E} {x : Str} {p pos lp : Pos} {k n : Nat} {ql : Str} {params : Arguments} {be : Expr} {scope : Scope} {ps caps : List Nat} {body : E} {es : List Expr} {Es : List E} (fa : Fa L X) (hs : X.env.scope = sc) (ok : FnsOk L cf X.prog X.w X.mg X.base X.A) (tk : Takes X W) (hx : okName x = true) (hg : gloB sc x = true) (hk : L.fnN[k]? = some x)
    (hf : ∀ e E, f e = some E → PE X e (OfE L X W (evE L.G.con cf E)) ∧ NoStar X e) (hes : es.mapM f = some Es)
    (lok : lamOk X.N sc scope params = true) (hps : slots X.N (params.args.map (·.arg)) = some ps) (hcap : slots X.N ((scope.names.filter fun p => decide (p.2 = .free)).map (·.1)) = some caps) (hE : cE (L.C X.N ql) n 2 scope be = some body)
    (hn : L.G.nm lp.line lp.col = some (X.env.qual ++ ("<lambda>" : Str))) : PE X (.Call (.Name x p) (es ++ [.Lambda params be scope lp]) [] pos) (OfE L X W (evE L.G.con cf (.calll k (esOf Es) ps caps body))) := by
  subst hs
  have F := lamF_of lok
  obtain ⟨h1, h2⟩ := fa.own k x hk
  have lst : NoStar X (.Lambda params be scope lp) := fun _ => rfl
  refine ⟨fun pins s σ H Q I h => ?_⟩
  obtain ⟨ρ, S, β, er, at_, h⟩ := h
  simp only [evE] at h
  have hfree : ∀ y ∈ scope.names, y.2 = .free → ∃ c, X.env.cells.lookup y.1 = some c := fun y hy e => by
    rcases F.free y hy e with k | k
    · exact I.ok.has _ (.inl k)
    · exact I.ok.has _ (.inr k)
  have hdef : defaultsOf params X.env = ([], []) := defaults_of F
  have run : wpAny (model X.prog X.w) X.A (spliced (backTo pos (starEach (es ++ [.Lambda params be scope lp]) X.env))) (fun us s2 => X.K.In s2.heap ∧ wpAny (model X.prog X.w) X.A (call (.ref (L.G.fad k)) us) (EP X pins σ Q) X.xe s2) X.xe s := by
    refine args_lam hf es Es s H β S _ hes I er at_ (RW.step (Q' := fun ds S1 => RW (cf (.fn k) (ds ++ [.clo ps body (keepOnly (noClo ρ) caps)]) S1) (KG L.G (RV L.G) H β Q) (KX L.G L.cad H β fun c d H' => W c d σ H')) h fun _ _ q => q) fun ds vs us S1 β1 H1 s1 I1 g1 at1 rs rv hr => ?_
    refine Calls.spliced_cons (lam_made I1 at1 (er.code.grow g1) fa.bm hn hdef hfree fun f' c' P' pm ctv H2 s2 I2 g2 at2 he hfn hfr hco hp => ?_)
    refine Calls.spliced_nil ⟨I2.kIn, ?_⟩
    have clo := clo_made fa I2 (er.grow (g1.trans g2)) lok hps hcap hE he hfn hfr hco hp
    refine call_end tk I2 (ok.fn k (ds ++ [.clo ps body (keepOnly (noClo ρ) caps)]) (vs ++ [.ref f']) (us ++ [.ref f']) S1 β1 X.stack s2 H2 Q _ (fa.K ▸ I2.env0) at2 ?_ (rv.append (.cons (show L2.RelV (.ref f') (.ref f') from rfl) .nil)) (RW.grow (g1.trans g2) hr))
    exact Paired.snoc (pair_of (rs.grow g2)) (.inr clo)
  refine wpAny_Call_Name_kw (ld_glob I (glo_of rfl hg) h1 ?_ (okName_of hx).1)
  cases es with
  | nil => exact PySem.W.callWith_K (h₀ := X.base) I.ok.mod.kin h2 run (lst _) (by rfl)
  | cons e r =>
    have hst := hes
    simp only [List.mapM_cons, bind, Option.bind_eq_some_iff, pure, Option.some.injEq] at hst
    obtain ⟨E1, he1, Er, he2, _⟩ := hst
    exact PySem.W.callWith_K (h₀ := X.base) I.ok.mod.kin h2 run ((hf e E1 he1).2 _) (plain_app (fun e E h => (hf e E h).2) lst r Er he2 pos)
end
end EV
/-! EvAE: lambdas run (own work). -/
namespace EV
open PySem PySem.Spec PyProof.Rows L2 GenW
theorem zip_some : ∀ (ns : List Str) (us : List Value), us.length = ns.length → ∀ n ∈ ns, ((ns.zip us).lookup n).isNone = false
  | n :: ns, u :: us, hl, m, hm => by
    rw [List.zip_cons_cons, List.lookup_cons]
    cases hb : m == n with
    | true => rfl
    | false =>
      rcases List.mem_cons.mp hm with e | e
      · rw [e] at hb
        simp at hb
      · exact zip_some ns us (by simpa using hl) m e
  | _ :: _, [], hl, _, _ => by simp at hl
theorem fm_congr {α β : Type} {f g : α → Option β} : ∀ {l : List α}, (∀ x ∈ l, f x = g x) → l.filterMap f = l.filterMap g
  | [], _ => rfl
  | x :: l, h => by
    rw [List.filterMap_cons, List.filterMap_cons, h x List.mem_cons_self, fm_congr fun y hy => h y (List.mem_cons_of_mem _ hy)]
theorem zip_look : ∀ (ns : List Str) (us : List Value), ns.Nodup → us.length = ns.length → ns.filterMap (fun n => ((ns.zip us).lookup n).map (n, ·)) = ns.zip us
  | [], [], _, _ => rfl
  | n :: ns, u :: us, nd, hl => by
    have nd' := List.nodup_cons.mp nd
    rw [List.zip_cons_cons, List.filterMap_cons]
    simp only [List.lookup_cons, beq_self_eq_true, Option.map_some]
    congr 1
    have ih := zip_look ns us nd'.2 (by simpa using hl)
    refine Eq.trans (fm_congr fun m hm => ?_) ih
    have hne : (m == n) = false := by
      rw [beq_eq_false_iff_ne]
      exact fun e => nd'.1 (e ▸ hm)
    simp only [hne]
  | _ :: _, [], _, hl => by simp at hl
  | [], _ :: _, _, hl => by simp at hl
theorem bind_plain {fd : FuncData} {us : List Value} (h1 : fd.params.posonlyargs = []) (h2 : fd.params.vararg = none) (h3 : fd.params.kwonlyargs = []) (h5 : fd.params.kwarg = none) (hd : fd.defaults = .none) (hl : us.length = (fd.params.args.map (·.arg)).length) (nd : (fd.params.args.map (·.arg)).Nodup) :
    bindArgs fd ⟨us, []⟩ = pure ((fd.params.args.map (·.arg)).zip us) := by
  have hm : ((fd.params.args.map (·.arg)).filter fun n => (((fd.params.args.map (·.arg)).zip us).lookup n).isNone) = [] := by
    rw [List.filter_eq_nil_iff]
    intro n hn
    rw [zip_some _ _ hl n hn]
    decide
  unfold bindArgs
  simp only [h1, h2, h3, h5, hd, List.map_nil, List.nil_append, List.append_nil, List.forIn_nil, pure_bind]
  have hs : seqItems? Value.none = pure Option.none := rfl
  rw [hs]
  simp only [pure_bind, Option.getD_none, hl, Nat.lt_irrefl, decide_false, Bool.false_and, Option.isNone_none]
  have hm2 : List.filter (fun n => (List.lookup n ((List.map (fun x => x.arg) fd.params.args).zip us)).isNone) (List.take (List.map (fun x => x.arg) fd.params.args).length (List.map (fun x => x.arg) fd.params.args)) = [] := by
    rw [List.take_length]
    exact hm
  simp only [Bool.false_eq_true, if_false, List.length_nil, Nat.zero_sub, List.drop_nil, Nat.sub_zero, hm2, List.isEmpty_nil, Bool.not_true, pure_bind, List.zip_nil_right, List.forIn_nil]
  rw [zip_look _ us nd hl]
end EV
/-! EvAF: a lambda's frame (own work; the walk follows HandS.Comp's block_start and HandS.Lambda's lam_start2). -/
namespace EV
open PySem PySem.Spec PyProof.Rows L2 GenW
abbrev lEnv (q : Str) (scope : Scope) (C f c : Addr) (cells : List (Str × Addr)) : PySem.Env := newEnv scope C mainGlobals (cellsFrom (C + 1) scope.names cells) (q ++ ".<locals>.") (some f) (.ref c) none builtinsNs
/-- the context of a lambda's body -/
abbrev lx (P : Program) (w : World) (K : PySem.W.Frag) (mg : Str → Option Value) (base : Heap) (N : List Str) (A : Around) (outer : List PySem.Env) (s : Shared) (H : Hp) (E : XK) (ce : PySem.Env) : Cx where
  prog := P
  w := w
  K := K
  mg := mg
  base := base
  A := A.deeper ce
  N := N
  s_0 := s
  H_0 := H
  env := ce
  outer := outer
  stack := ce :: outer
  ex := []
  fn := fun x => ce.scope.names.lookup x == some .cell
  calm := true
  pn := []
  xe := fun e s' => wpAny (model P w) (A.deeper ce) (leaving ce e) (fun _ s'' => L2.CX P w outer H s E e s'') (fun e' s'' => L2.CX P w outer H s E e' s'') s'
/-- a value by place, chosen -/
theorem pick {α : Type} {n : Nat} {R : Nat → α → Prop} (h : ∀ i, i < n → ∃ o, R i o) : ∃ l : List α, l.length = n ∧ ∀ i o, l[i]? = some o → R i o := by
  induction n with
  | zero => exact ⟨[], rfl, fun i o e => by simp at e⟩
  | succ n ih =>
    obtain ⟨l, hl, hr⟩ := ih fun i hi => h i (Nat.lt_succ_of_lt hi)
    obtain ⟨o, ho⟩ := h n (Nat.lt_succ_self n)
    refine ⟨l ++ [o], by simp [hl], fun i o' e => ?_⟩
    by_cases hi : i < n
    · rw [List.getElem?_append_left (by rw [hl]; exact hi)] at e
      exact hr i o' e
    · rw [List.getElem?_append_right (by rw [hl]; omega), hl] at e
      have hz : i - n = 0 := by
        have := (List.getElem?_eq_some_iff.mp e).1
        simp at this
        exact this
      rw [hz] at e
      have ei : i = n := by omega
      subst ei
      cases e
      exact ho
section
variable {L : Lw} {P : Program} {w : World} {mg : Str → Option Value} {base : Heap} {A : Around} {outer : List PySem.Env} {s : Shared} {H : Hp} {β : List Addr}
variable {ps : List Nat} {body : E} {wv : Env} {f c Pt : Addr} {N : List Str} {n : Nat} {pm ctv : Value} {params : Arguments} {be : Expr} {scope : Scope} {q : Str} {cells : List (Str × Addr)}
theorem lam_start {sc : Scope} (lam : Lam L.G L.fnN L.conN s.heap H (frs outer) H β ps body wv f N n c Pt pm ctv params be scope q cells) (F : LamF N sc scope params) (hd : A.handled = none) (e0 : Env0 P w L.G.K mg base A outer s H) {Ek : XK} :
    ∃ σ : L2.St, (∀ (i : Nat) (d : D), wv[i]? = some (some d) → ∃ v, σ[i]? = some (some v) ∧ RV L.G H β d v) ∧ σ.length = N.length ∧
      Inv (lx P w L.G.K mg base N A outer s H Ek (lEnv q scope s.heap.objs.size f c cells)) [] σ H { s with heap := pushCells (s.heap.push { cls := .type "frame", data := .dict #[] }) scope.names } := by
  obtain ⟨σ, hσ, hR⟩ := pick (α := Option V) (n := N.length) (R := fun i o => match (wv[i]?).join with
      | some d => ∃ v, o = some v ∧ RV L.G H β d v ∧ ∀ x, N[i]? = some x → scope.names.lookup x = some .free ∧ ∃ a u, cells.lookup x = some a ∧ s.heap.IsCell a (some u) ∧ RelV v u
      | none => o = none) fun i hi => by
    cases e : (wv[i]?).join with
    | none => exact ⟨none, rfl⟩
    | some d =>
      have e' : wv[i]? = some (some d) := by
        cases q : wv[i]? with
        | none => rw [q] at e; cases e
        | some o => rw [q] at e; cases o with
          | none => cases e
          | some d' => cases e; rfl
      obtain ⟨h1, a, u, v, h2, h3, h4, h5⟩ := lam.cap i _ d (List.getElem?_eq_getElem hi) e'
      refine ⟨some v, v, rfl, h5, fun x hx => ?_⟩
      rw [List.getElem?_eq_getElem hi] at hx
      cases hx
      exact ⟨h1, a, u, h2, h3, h4⟩
  have acc : ∀ p ∈ cells, p.2 < s.heap.objs.size := fun p hp => by
    obtain ⟨_, v, o, ho, _⟩ := lam.cell p.1 p.2 hp
    exact Heap.lt_size ho
  have kp : ∀ b o, s.heap.get? b = some o → (pushCells (s.heap.push { cls := .type "frame", data := .dict #[] }) scope.names).get? b = some o := fun b o e => pushCells_keeps _ _ _ _ (Heap.get?_push_of_some _ e)
  have hcl : (lEnv q scope s.heap.objs.size f c cells).cells = cellsFrom (s.heap.push { cls := .type "frame", data := .dict #[] }).objs.size scope.names cells := by rw [Heap.size_push]; rfl
  have mem : ∀ {y a}, (lEnv q scope s.heap.objs.size f c cells).cells.lookup y = some a → (y, a) ∈ cells ∨ ((y, NameKind.cell) ∈ scope.names ∧ s.heap.objs.size + 1 ≤ a ∧ CellAt (pushCells (s.heap.push { cls := .type "frame", data := .dict #[] }) scope.names) a none) := fun {y a} e => by
    rw [hcl] at e
    rcases cells_mem (PySem.mem_of_lookup e) with hm | ⟨h1, h2, h3⟩
    · exact .inl hm
    · rw [Heap.size_push] at h2
      exact .inr ⟨h1, h2, h3⟩
  have look : ∀ {y}, scope.names.lookup y = some .free → ∃ a, (lEnv q scope s.heap.objs.size f c cells).cells.lookup y = some a ∧ (y, a) ∈ cells := fun {y} hl => by
    obtain ⟨a, ha⟩ := lam.has (y, .free) (PySem.mem_of_lookup hl) rfl
    obtain ⟨a', e'⟩ := mem_lookup (cells_acc (names := scope.names) (n := (s.heap.push { cls := .type "frame", data := .dict #[] }).objs.size) (PySem.mem_of_lookup ha))
    rw [← hcl] at e'
    refine ⟨a', e', ?_⟩
    rcases mem e' with z | ⟨z, _, _⟩
    · exact z
    · have := F.uniq _ z
      rw [hl] at this
      cases this
  refine ⟨σ, fun i d e => ?_, hσ, ?_⟩
  · have hi : i < N.length := by
      have := (List.getElem?_eq_some_iff.mp e).1
      rw [lam.len] at this
      exact this
    obtain ⟨o, ho⟩ : ∃ o, σ[i]? = some o := ⟨_, List.getElem?_eq_getElem (by rw [hσ]; exact hi)⟩
    have := hR i o ho
    rw [e] at this
    obtain ⟨v, rfl, h1, _⟩ := this
    exact ⟨v, ho, h1⟩
  · have noA : ∀ b : Addr, b ∉ (lx P w L.G.K mg base N A outer s H Ek (lEnv q scope s.heap.objs.size f c cells)).ex := fun b z => absurd (show b ∈ ([] : List Addr) from z) (by simp)
    refine ⟨⟨e0.mod, F.kind, rfl, rfl, Nat.le_refl _, fun y z a e1 e2 => ?_, fun y hy => ?_, fun y a z e => ?_, fun _ => hd, Around.frames_deeper e0.frames, .inr ⟨rfl, rfl⟩, fun b z => absurd z (noA b), e0.bs, e0.bsz, fun b _ _ => noA b, fun b z => absurd z (noA b), e0.funs, e0.frf⟩,
      rfl, e0.bare, Un.kept kp, ⟨fun _ => none, Heap.Ns.keeps (Heap.Ns.new ..) fun b o e => pushCells_keeps _ _ _ _ e, fun i y v e1 e2 e3 => ?_⟩, fun y a e => ?_, e0.hok.fresh (Nat.le_refl _), fun y a e => ?_, fun p hp => absurd (show p ∈ ([] : List (Addr × Obj)) ++ [] from hp) (by simp), e0.hok.kept kp, hσ⟩
    · have e1 : (lEnv q scope s.heap.objs.size f c cells).cells.lookup y = some a := e1
      have e2 : (lEnv q scope s.heap.objs.size f c cells).cells.lookup z = some a := e2
      rw [hcl] at e1 e2
      refine cells_inj (fun p hp => ?_) lam.inj (PySem.mem_of_lookup e1) (PySem.mem_of_lookup e2)
      rw [Heap.size_push]
      exact Nat.lt_succ_of_lt (acc p hp)
    · rcases hy with hy | hy
      · obtain ⟨a, hm⟩ := cells_has (n := (s.heap.push { cls := .type "frame", data := .dict #[] }).objs.size) (acc := cells) (PySem.mem_of_lookup hy)
        obtain ⟨a', e'⟩ := mem_lookup hm
        exact ⟨a', by show (lEnv q scope s.heap.objs.size f c cells).cells.lookup y = _; rw [hcl]; exact e'⟩
      · obtain ⟨a, h1, _⟩ := look hy
        exact ⟨a, h1⟩
    · have z : (scope.names.lookup y == some NameKind.cell) = true := z
      have z : scope.names.lookup y = some .cell := by simpa using z
      rcases mem e with hm | ⟨_, h2, _⟩
      · have q := lam.fr _ _ hm
        rw [z] at q
        cases q
      · exact Nat.le_of_succ_le h2
    · have h := hR i _ e2
      cases ew : (wv[i]?).join with
      | none => rw [ew] at h; cases h
      | some d =>
        rw [ew] at h
        obtain ⟨v', e4, _, h5⟩ := h
        cases e4
        obtain ⟨h6, a, u, h7, h8, h9⟩ := h5 y e1
        obtain ⟨a', h10, h11⟩ := look h6
        have := lam.uni _ _ _ h11 (PySem.mem_of_lookup h7)
        subst this
        exact ⟨u, h9, .inr ⟨.inr h6, a', h10, let ⟨o, ho, hd⟩ := h8; ⟨o, kp _ _ ho, hd⟩⟩⟩
    · rcases mem e with hm | ⟨_, _, z⟩
      · obtain ⟨_, v, o, ho, hd⟩ := lam.cell _ _ hm
        exact ⟨v, o, kp _ _ ho, hd⟩
      · exact ⟨_, z⟩
    · rcases mem e with hm | ⟨_, h2, _⟩
      · exact (lam.cell _ _ hm).1
      · exact e0.hok.fresh (Nat.le_of_succ_le h2)

theorem lam_binds {X : Cx} {pins : List (Addr × Obj)} {ba : Heap} {cv : Value} {M : Model} {A' : Around} {E' : Value → Shared → Prop} (hN : X.N.Nodup) (hfn : ∀ x, X.fn x = (X.env.scope.names.lookup x == some .cell)) (ff : Str × Value → PUnit → Sem (ForInStep PUnit)) (hf : ∀ n v u, ff (n, v) u = (do storeName X.env n v; pure (.yield ⟨⟩))) :
    ∀ (ns : List Str) (is : List Nat) (us : List Value) (vs : List V) (ds : List D) (s : Shared) (σ : L2.St) (ρ ρ' : Env) (Q : PUnit → Shared → Prop), ns.mapM (slot X.N) = some is → (∀ x ∈ ns, locB X.env.scope x = true) → Inv X pins σ H s → ER0 L ba cv H β ρ σ → Vals vs us → RVs L.G H β ds vs → setAll is ds ρ = some ρ' →
      (∀ s' σ', Inv X pins σ' H s' → ER0 L ba cv H β ρ' σ' → Q ⟨⟩ s') → wpAny M A' (forIn (ns.zip us) ⟨⟩ ff) Q E' s
  | [], is, us, vs, ds, s, σ, ρ, ρ', Q, hi, hl, I, er, rv, rs, hs, h => by
    simp at hi
    subst hi
    cases ds with
    | cons _ _ => cases hs
    | nil =>
      cases hs
      rw [List.zip_nil_left, List.forIn_nil]
      exact wpAny_pure (h s σ I er)
  | n :: ns, is, us, vs, ds, s, σ, ρ, ρ', Q, hi, hl, I, er, rv, rs, hs, h => by
    simp only [List.mapM_cons, bind, Option.bind_eq_some_iff, pure, Option.some.injEq] at hi
    obtain ⟨i, h1, ir, h2, rfl⟩ := hi
    cases ds with
    | nil => cases hs
    | cons d ds =>
      cases rs with
      | cons r rr =>
        cases rv with
        | cons q qq =>
          rw [List.zip_cons_cons, List.forIn_cons, hf]
          have lb := hl n List.mem_cons_self
          have hlc := loc_of lb
          refine wpAny_bind (wpAny_bind (store_ok I hN (slot_of h1) hlc q (fun s' I' => wpAny_pure ?_) ?_))
          · exact lam_binds hN hfn ff hf ns ir _ _ ds s' _ _ ρ' Q h2 (fun x hx => hl x (List.mem_cons_of_mem _ hx)) I' (er.set i r) qq rr hs h
          · rcases hlc with k | k
            · exact .inr k
            · refine .inl ?_
              rw [hfn, k]
              rfl
theorem mapM_len {α γ : Type} {f : α → Option γ} : ∀ {xs : List α} {ys : List γ}, xs.mapM f = some ys → ys.length = xs.length
  | [], ys, h => by
    simp at h
    subst h
    rfl
  | x :: xs, ys, h => by
    simp only [List.mapM_cons, bind, Option.bind_eq_some_iff, pure, Option.some.injEq] at h
    obtain ⟨z, h1, zs, h2, rfl⟩ := h
    simp [mapM_len h2]
theorem setAll_len : ∀ {is : List Nat} {ds : List D} {ρ ρ' : Env}, setAll is ds ρ = some ρ' → ds.length = is.length
  | [], [], _, _, _ => rfl
  | i :: is, d :: ds, ρ, ρ', h => by
    simp only [setAll] at h
    simp [setAll_len h]
  | [], _ :: _, _, _, h => by cases h
  | _ :: _, [], _, _, h => by cases h
theorem lam_run {cf : Cf} {S : Sto} {ds : List D} {vs : List V} {us : List Value} {ρ : Env} {sc : Scope} {Q : VK} {Ek : XK} {r : Nat} (lam : Lam L.G L.fnN L.conN s.heap H (frs outer) H β ps body wv f N n c Pt pm ctv params be scope q cells) (F : LamF N sc scope params) (hr : Room (r + 1) A) (e0 : Env0 P w L.G.K mg base A outer s H) (at_ : At L.G H β S)
    (rs : RVs L.G H β ds vs) (rv : Vals vs us) (hset : setAll ps ds wv = some ρ)
    (hbody : Room r (A.deeper (lEnv q scope s.heap.objs.size f c cells)) → PE (lx P w L.G.K mg base N A outer s H Ek (lEnv q scope s.heap.objs.size f c cells)) be (OfE L (lx P w L.G.K mg base N A outer s H Ek (lEnv q scope s.heap.objs.size f c cells)) (fun cls d _ H' => Ek cls d H') (evE L.G.con cf body)))
    (h : RW (evE L.G.con cf body ρ S) (KG L.G (RV L.G) H β Q) (KX L.G L.cad H β Ek)) : codeAny (model P w) A (.call (.ref f) ⟨us, []⟩) (CR (L2.CX P w) outer P w H s Q Ek) s := by
  obtain ⟨hch, hrec⟩ := (e0.hok c _ lam.code).1
  have hlen : us.length = (params.args.map (·.arg)).length := by
    have h1 := rv.length
    have h2 := rs.length
    have h3 := setAll_len hset
    have h4 := mapM_len lam.par
    omega
  refine PySem.W.kla_callFunE hr.depth lam.obj rfl F.co F.gen rfl hrec ?_
  rw [bind_plain (fd := PySem.W.kla_fn "<lambda>" q params be scope cells pm (.ref c) ctv) F.pos F.va F.ko F.kw rfl hlen F.nd]
  refine wpAny_pure ?_
  obtain ⟨σ, hσ, hlσ, I⟩ := lam_start lam F hr.hd e0 (Ek := Ek)
  have er : ER0 L base (.ref c) H β wv σ := ⟨by rw [lam.len, hlσ], ⟨c, Pt, rfl, lam.tab, .inr ⟨q, lam.code⟩⟩, hσ⟩
  show wpAny _ A.in1 (newFunctionEnv scope mainGlobals cells ((params.args.map (·.arg)).zip us) (q ++ ".<locals>.") (some f) (.ref c) none builtinsNs) _ _ s
  simp only [newFunctionEnv, Option.isSome_none, Bool.false_eq_true, if_false]
  refine wpAny_bind (wpAny_alloc ?_)
  refine wpAny_bind (wpAny_layCells _ (fun name kind cells => by cases hkc : kind == NameKind.cell <;> simp [hkc]) _ _ _ _ ?_)
  rw [show ({ s with heap := s.heap.push { cls := .type "frame", data := .dict #[] } } : Shared).heap.objs.size = s.heap.objs.size + 1 from Heap.size_push ..]
  refine wpAny_bind (lam_binds (X := lx P w L.G.K mg base N A outer s H Ek (lEnv q scope s.heap.objs.size f c cells)) lam.nd (fun _ => rfl) _ (fun _ _ _ => rfl) (List.map (fun x : Arg => x.arg) params.args) ps us vs ds _ σ wv ρ _ (show List.mapM (slot N) (List.map (fun x : Arg => x.arg) params.args) = some ps from lam.par) (fun x hx => (F.par x hx).1) I er rv rs hset fun s' σ' I' er' => ?_)
  refine wpAny_pure ⟨I'.nolimit, ?_⟩
  show codeAny _ _ (.expr be (lEnv q scope s.heap.objs.size f c cells)) _ _
  refine PySem.W.kla_codeExpr (wpAny_mono ((hbody (hr.deeper _)).run [] _ _ H Q I' ⟨ρ, S, β, er'.er rfl rfl, at_, h⟩) (fun v s2 hq => ?_) fun e s2 hq => hq)
  obtain ⟨w', H', J', rv', q'⟩ := hq
  exact ⟨w', H', J'.os, J'.bare, J'.base, J'.hok, rv', q'⟩
end
end EV
/-! EvGs: the arms of sets (own work). -/
namespace EV
open PySem PySem.Spec PyProof.Rows L2
section
variable {L : Lw} {X : Cx} {W : WX} {cf : Cf} {sc : Scope} {e : Expr} {p pos : Pos}
theorem boot_set1 : bootBuiltins "set" = some (.type "set") := by decide +kernel
/-- an object that is no place -/
theorem At.newO {G : Pg} {H : Hp} {β : List Addr} {S : Sto} (x : At G H β S) {p : Addr} {o : HO} (hn : H p = none) (ho : ∀ ps, o ≠ .tbl ps) : At G (upd H p o) β S := by
  refine ⟨⟨x.sr.len, x.sr.nd, fun n u e => ?_⟩, x.tb.new hn ho⟩
  obtain ⟨a, ha, r⟩ := x.sr.at_ n u e
  exact ⟨a, ha, r.new hn (fun z => x.fresh hn (by rw [← z]; exact List.mem_of_getElem? ha)) (Grow.new hn)⟩
theorem kg_set0 {G : Pg} {H : Hp} {β : List Addr} {S : Sto} {Q : VK} (at_ : At G H β S) (h : KG G (RV G) H β Q (.loc S.nxt) (S.push (.tset []))) : ∀ p, H p = none → Q (.ref p) (upd H p (SetTO G.prog G.w p [])) := fun p hp =>
  kg_new at_ p hp (fun ps z => by cases z) (show RO G _ _ p (.tset []) from ⟨[], upd_same, (fun q hq => by cases hq), List.Perm.nil⟩) h
/-- set() -/
theorem arm_set0 (fa : Fa L X) (hs : X.env.scope = sc) (hg : gloB sc ("set" : Str) = true) : PE X (.Call (.Name ("set" : Str) p) [] [] pos) (OfE L X W (evE L.G.con cf .set0)) := by
  refine (pe_callTy0 cr_newT (glo_of hs hg) (fa.bt _ (by decide +kernel)) boot_set1).imp fun σ H Q h => ?_
  obtain ⟨ρ, S, β, er, at_, h⟩ := h
  simp only [evE] at h
  obtain ⟨a, S', e, q⟩ := RW.up h
  cases e
  show rNewT X.prog X.w [] H Q
  rw [fa.pg, fa.wd]
  exact ⟨rfl, kg_set0 at_ q⟩
theorem isSet_exc (d : D) (s : Sto) (x : Xc) (s' : Sto) : isSet d s ≠ .exc x s' := fun h => by
  unfold isSet at h
  split at h
  · split at h <;> cases h
  · cases h
theorem isSet_ok {d : D} {s s' : Sto} {u : Unit} (h : isSet d s = .ok u s') : s' = s ∧ ∃ k ks, d = .loc k ∧ s.get k = some (.tset ks) := by
  unfold isSet at h
  split at h
  · split at h
    · cases h
      exact ⟨rfl, _, _, rfl, by assumption⟩
    · cases h
  · cases h
theorem addSet_ok {x d a : D} {s s' : Sto} (h : addSet x d s = .ok a s') : ∃ k ks q, x = .loc k ∧ s.get k = some (.tset ks) ∧ d.tk = some q ∧ ks.length < 60 ∧ a = .none ∧ s' = s.put k (.tset (if q ∈ ks then ks else q :: ks)) := by
  unfold addSet at h
  split at h
  · split at h
    · split at h
      · obtain ⟨h1, h2, h3⟩ := if_ok h
        exact ⟨_, _, _, rfl, by assumption, by assumption, h1, h2, h3⟩
      · cases h
    · cases h
  · cases h
variable {o : Expr} {O A : E} {ap : Pos}
/-- found.add(e) -/
theorem arm_sadd (fa : Fa L X) (hb : plainBase o = true) (hl : (ap.endLine == pos.line) = true) (ho : PE X o (OfE L X W (evE L.G.con cf O))) (ha : PE X e (OfE L X W (evE L.G.con cf A))) (st : NoStar X e) (hall : (backTo pos (starEach [e] X.env)).all (fun x => !x.1) = true) :
    PE X (.Call (.Attribute o ("add" : Str) ap) [e] [] pos) (OfE L X W (evE L.G.con cf (.sadd O A))) := by
  refine (pe_addT (by have := fa.hu; omega) ho ha (base_of hb) (st []) hall hl).imp fun σ H Q h => ?_
  obtain ⟨ρ, S, β, er, at_, h⟩ := h
  simp only [evE] at h
  refine ⟨ρ, S, β, er, at_, RW.step h fun x S1 h v H1 β1 g1 at1 rx => ?_⟩
  obtain ⟨s', e', hk⟩ := RW.unit (s := S1) (isSet_exc _ _) h
  clear h
  obtain ⟨rfl, k, ks, rfl, hks⟩ := isSet_ok e'
  refine ⟨?_, ρ, s', β1, er.grow g1, at1, RW.step (RW.grow g1 hk) fun d S2 h u H2 β2 g2 at2 rd => ?_⟩
  · obtain ⟨a, ea, _, Lx, hH, _⟩ := at1.get rx hks
    exact ⟨a, Lx, ea, by rw [fa.pg, fa.wd]; exact hH⟩
  · obtain ⟨a, S', e, q⟩ := RW.up (RW.grow g2 h)
    obtain ⟨k', ks2, key, ek, hk2, ht, hl2, rfl, rfl⟩ := addSet_ok e
    cases ek
    obtain ⟨a, rfl, hba, Lx, hH, hts, pm⟩ := at2.get (rx.grow g2) hk2
    obtain ⟨b, rfl, hb2⟩ := rd.tk ht
    rw [fa.pg, fa.wd, fa.K]
    refine ⟨a, b, Lx, key, rfl, rfl, hH, hts, hb2, by have := pm.length_eq; rw [List.length_map] at this; omega, fun L' c1 c2 nc => ?_⟩
    have mem : key ∈ Lx.map (·.2) ↔ key ∈ ks2 := pm.mem_iff
    have g : Grow H2 (upd H2 a (SetTO L.G.prog L.G.w a L')) β2 β2 := Grow.wrx hH nc
    have hro : RO L.G (upd H2 a (SetTO L.G.prog L.G.w a L')) β2 a (.tset (if key ∈ ks2 then ks2 else key :: ks2)) := by
      by_cases hm : key ∈ ks2
      · have e := c1 (mem.mpr hm)
        subst e
        rw [if_pos hm]
        exact ⟨L', upd_same, fun p hp => SqT.grow g (hts p hp), pm⟩
      · have e := c2 (fun z => hm (mem.mp z))
        rw [if_neg hm]
        refine ⟨L', upd_same, fun p hp => ?_, (e.map (·.2)).trans (List.Perm.cons _ pm)⟩
        rcases List.mem_cons.mp (e.mem_iff.mp hp) with rfl | hp
        · exact SqT.grow g hb2
        · exact SqT.grow g (hts p hp)
    exact q .non _ β2 g (at2.putx hba hH nc hro (fun ps z => by cases z)) .none
theorem ssetD_ok {x a : D} {s s' : Sto} (h : ssetD x s = .ok a s') : ∃ ys ns, x.items s = some ys ∧ D.ints ys = some ns ∧ (ns.length ≤ 900 ∧ ns.eraseDups.length ≤ 60) ∧ a = .loc s.nxt ∧ s' = s.push (.lst ((sortI ns.eraseDups).map .int)) := by
  unfold ssetD at h
  split at h
  · split at h
    · rename_i ys hy _ ns hn
      by_cases hl : ns.length ≤ 900 ∧ ns.eraseDups.length ≤ 60
      · rw [if_pos hl] at h
        obtain ⟨_, h2, h3⟩ := mkList_ok h
        exact ⟨_, _, hy, hn, hl, h2, h3⟩
      · rw [if_neg hl] at h
        cases h
    · cases h
  · cases h
theorem nodup_dups : ∀ (n : Nat) (l : List Int), l.length ≤ n → l.eraseDups.Nodup
  | 0, [], _ => by simp
  | n + 1, [], _ => by simp
  | n + 1, x :: l, h => by
    rw [List.eraseDups_cons, List.nodup_cons]
    refine ⟨fun z => ?_, nodup_dups n _ ?_⟩
    · rw [List.mem_eraseDups] at z
      simp at z
    · have := List.length_filter_le (fun b => !(b == x)) l
      simp at h
      omega
/-- the new ascending list behind a new set -/
theorem kg_sorted {G : Pg} {H : Hp} {β : List Addr} {S : Sto} {Q : VK} {a : Addr} {φ : Heap → Prop} {ns ms : List Int} (at_ : At G H β S) (ha : H a = none) (hm : ms.Nodup) (e : ∀ k, k ∈ ns ↔ k ∈ ms) (hp : ns.Pairwise (· < ·)) (h : KG G (RV G) H β Q (.loc S.nxt) (S.push (.lst ((sortI ms).map .int)))) :
    ∀ p, upd H a (.ext φ) p = none → Q (.ref p) (upd (upd H a (.ext φ)) p (.lst (ns.map V.int))) := fun p hpn => by
  have en : ns = sortI ms := asc_ext hp (sortI_asc hm) fun k => (e k).trans sortI_mem.symm
  subst en
  have at2 : At G (upd H a (.ext φ)) β S := at_.newO ha fun ps z => by cases z
  exact kg_lst (ds := (sortI ms).map .int) at2 (RVs.ofInts _) (fun v H' β' g at' r => h v H' β' ((Grow.new ha).trans g) at' r) p hpn
theorem arm_sset (fa : Fa L X) (hs : X.env.scope = sc) (hg : gloB sc ("sorted" : Str) = true) (hg2 : gloB sc ("set" : Str) = true) {p2 pos2 : Pos} (ha : PE X e (OfE L X W (evE L.G.con cf A))) (st : NoStar X e) :
    PE X (.Call (.Name ("sorted" : Str) p) [.Call (.Name ("set" : Str) p2) [e] [] pos2] [] pos) (OfE L X W (evE L.G.con cf (.sset A))) := by
  have p1 := pe_callTy (p := p2) (pos := pos2) (cr_setI (X := X) fa.calm) (glo_of hs hg2) (fa.bt _ (by decide +kernel)) boot_set1 (pa_cons ha pa_nil (st [])) (by decide) (by decide) (st []) (by rfl)
  refine (pe_callB (p := p) (pos := pos) (cr_sortedSet (X := X) fa.calm) (glo_of hs hg) (fa.bt _ (by decide +kernel)) boot_sorted (pa_cons p1 pa_nil) (by decide) (by decide)).imp fun σ H Q h => ?_
  obtain ⟨ρ, S, β, er, at_, h⟩ := h
  simp only [evE] at h
  refine ⟨ρ, S, β, er, at_, RW.step h fun x S1 h v H1 β1 g1 at1 rx => ?_⟩
  obtain ⟨a, S', e, q⟩ := RW.up (RW.grow g1 h)
  obtain ⟨ys, ns, hi, hn, hl, rfl, rfl⟩ := ssetD_ok e
  obtain ⟨b, vs, rfl, rs, hsq⟩ := items_ok at1 rx hi
  have := rs.ints hn
  subst this
  refine ⟨b, ns, rfl, hsq.imp (fun z => fa.K ▸ z) (fun z => fa.K ▸ z.1), hl.1, fun a c hfa hc => ?_⟩
  refine ⟨a, _, c, rfl, upd_same, by omega, fun ns' p asc mem _ hp => ?_⟩
  exact kg_sorted at1 hfa (nodup_dups _ ns (Nat.le_refl _)) (fun k => by rw [mem k]; simp [List.mem_eraseDups]) asc q p hp
end
end EV
/-! EvMs: sorted({..}) (own work). -/
namespace EV
open PySem PySem.Spec PyProof.Rows L2
section
variable {L : Lw} {X : Cx} {W : WX} {cf : Cf}
theorem addI_ok {d : D} {n : Nat} {s : Sto} {α : Type} {f : Unit → Sto → M α} {Q : α → Sto → Prop} {Wx : Xc → Sto → Prop} (h : RW ((addI d n s).bind f) Q Wx) : ∃ acc i, s.get n = some (.iset acc) ∧ d = .int i ∧ acc.length < 60 ∧ RW (f () (s.put n (.iset (if i ∈ acc then acc else i :: acc)))) Q Wx := by
  unfold addI at h
  split at h
  · rename_i acc hk
    split at h
    · rename_i i
      by_cases hl : acc.length < 60
      · rw [if_pos hl] at h
        exact ⟨acc, i, hk, rfl, hl, h⟩
      · rw [if_neg hl] at h
        exact h.elim
    · exact h.elim
  · exact h.elim
theorem outI_ok {n : Nat} {s s' : Sto} {a : D} (h : outI n s = .ok a s') : ∃ acc, s.get n = some (.iset acc) ∧ acc.length < 64 ∧ a = .loc s.nxt ∧ s' = s.push (.lst ((sortI acc).map .int)) := by
  unfold outI at h
  split at h
  · rename_i acc hk
    by_cases hl : acc.length < 64
    · rw [if_pos hl] at h
      obtain ⟨_, h2, h3⟩ := mkList_ok h
      exact ⟨acc, hk, hl, h2, h3⟩
    · rw [if_neg hl] at h
      cases h
  · cases h
variable {scope : Scope} {own : List (Str × Nat)} {tg iter elt : Expr} {ifs : List Expr} {t : Tg} {Ifs : Es} {Sr : Sr} {Elt : E} {pos : Pos}
theorem of_si {σ : L2.St} {H : Hp} {Q : VK} (fa : Fa L X) (h : OfE L X W (evE L.G.con cf (.gen .sset Sr t (own.map (·.2)) Ifs Elt)) σ H Q) :
    tSi X.w (OfW L X W (evSr L.G.con cf Sr)) (gOf L (· ∈ own.map (·.2)) t) (OfT0 L X.base X.env.code (evIfs L.G.con cf Ifs)) (OfE0 L X.base X.env.code (evE L.G.con cf Elt)) (own.map (·.2)) σ H (fun x H' => rSortedSet X.w [x] H' Q) := by
  obtain ⟨ρ, S, β, er, at_, h⟩ := h
  simp only [evE] at h
  refine ⟨ρ, S, β, er, at_, RW.step h fun w S1 h J H1 β1 g1 at1 jr => ?_⟩
  intro D hD
  rw [fa.wd]
  have h := RW.calm (W' := fun _ _ => False) (RW.step (Q' := fun (_ : Unit) S2 => ∃ acc, S2.get S1.nxt = some (.iset acc) ∧ acc.length < 64 ∧ KG L.G (RV L.G) H β Q (.loc S2.nxt) (S2.push (.lst ((sortI acc).map .int)))) h fun a s q => by
    obtain ⟨a, S', e, q⟩ := RW.up q
    obtain ⟨acc, hk, hl, rfl, rfl⟩ := outI_ok e
    exact ⟨acc, hk, hl, q⟩)
  have er1 := er_block (er.grow g1) (own.map (·.2))
  have gD : Grow H1 (upd H1 D (SetO L.G.w D (fun _ => false) 0)) β1 (β1 ++ [D]) := (Grow.new hD).more (List.prefix_append _ _)
  have atD := at1.push (o := SetO L.G.w D (fun _ => false) 0) (u := .iset []) hD (at1.fresh hD) (show RO L.G _ _ D (.iset []) from ⟨_, 0, upd_same, fun k => by simp, rfl, List.nodup_nil⟩) (fun ps z => by cases z)
  have hDn : (β1 ++ [D])[S1.nxt]? = some D := by
    have hl : β1.length = List.length S1 := at1.sr.len
    show (β1 ++ [D])[List.length S1]? = some D
    rw [← hl, List.getElem?_append_right (Nat.le_refl _)]
    simp
  refine ⟨fun i m H' => m = w.1.length - i ∧ i ≤ w.1.length ∧ ∃ S' β', Grow (upd H1 D (SetO L.G.w D (fun _ => false) 0)) H' (β1 ++ [D]) β' ∧ At L.G H' β' S' ∧ RW (siGo (evIfs L.G.con cf Ifs) (evE L.G.con cf Elt) t w.2 (wipe (noClo ρ) (own.map (·.2))) S1.nxt (w.1.drop i) S') (fun (_ : Unit) S2 => ∃ acc, S2.get S1.nxt = some (.iset acc) ∧ acc.length < 64 ∧ KG L.G (RV L.G) H β Q (.loc S2.nxt) (S2.push (.lst ((sortI acc).map .int)))) (fun _ _ => False),
    ⟨w.1.length, by simp, Nat.zero_le _, _, _, Grow.refl, atD, by simpa using h⟩, ?_⟩
  rintro i m H' ⟨rfl, hi, S', β', g', at', hr⟩
  have gJ : Grow H1 H' β1 β' := gD.trans g'
  by_cases hlt : i < w.1.length
  · right
    have hx : w.1[i]? = some w.1[i] := List.getElem?_eq_getElem hlt
    rw [List.drop_eq_getElem_cons hlt] at hr
    simp only [siGo] at hr
    obtain ⟨hs, ρ2, ha, hr⟩ := turn_ok hr
    obtain ⟨go, yl⟩ := jr.go i _ H' β' S' hx gJ at' hs
    refine ⟨go, fun H2 => ∃ S2 β2, Grow (upd H1 D (SetO L.G.w D (fun _ => false) 0)) H2 (β1 ++ [D]) β2 ∧ At L.G H2 β2 S2 ∧ RW (siGo (evIfs L.G.con cf Ifs) (evE L.G.con cf Elt) t w.2 (wipe (noClo ρ) (own.map (·.2))) S1.nxt (w.1.drop (i + 1)) S2) (fun (_ : Unit) S2 => ∃ acc, S2.get S1.nxt = some (.iset acc) ∧ acc.length < 64 ∧ KG L.G (RV L.G) H β Q (.loc S2.nxt) (S2.push (.lst ((sortI acc).map .int)))) (fun _ _ => False),
      fun H2 ⟨S2, β2, g2, at2, h2⟩ => ⟨w.1.length - (i + 1), by omega, rfl, hlt, S2, β2, g2, at2, h2⟩, fun x H2 hy => ?_⟩
    obtain ⟨gy, aty, rx⟩ := yl x H2 hy
    refine ⟨RB L X.base X.env.code σ (own.map (·.2)), sets_rb _ _, _, _, ρ2, S', β', rx, ⟨er1.grow (gJ.trans gy), wipe_wipe _ _⟩, aty, ha, fun σ2 hrb => ?_⟩
    refine ⟨hrb.2, ?_⟩
    refine ⟨ρ2, S', β', hrb.1, aty, RW.step hr fun b S3 hr b' H3 β3 g3 at3 eb => ?_⟩
    subst eb
    have g03 : Grow (upd H1 D (SetO L.G.w D (fun _ => false) 0)) H3 (β1 ++ [D]) β3 := (g'.trans gy).trans g3
    cases b with
    | false => exact ⟨S3, β3, g03, at3, hr⟩
    | true =>
      simp only [if_true] at hr ⊢
      refine ⟨ρ2, S3, β3, hrb.1.grow g3, at3, RW.step hr fun d S4 hr v H4 β4 g4 at4 rv => ?_⟩
      obtain ⟨acc, k, hacc, rfl, hl, hr⟩ := addI_ok hr
      cases rv
      have g04 := g03.trans g4
      have hb4 : β4[S1.nxt]? = some D := get_pre g04.pre hDn
      obtain ⟨a, ea, hba, F, c, hH, hF, hc, hnd⟩ := at4.get (RV.loc hb4 : RV L.G H4 β4 (.loc S1.nxt) (.ref D)) hacc
      cases ea
      refine ⟨k, F, c, rfl, hH, by unfold scanBound; omega, fun nc => ?_⟩
      have g5 : Grow H4 (upd H4 D (SetO L.G.w D (fun j => F j || decide (j = k)) (if F k = true then c else c + 1))) β4 β4 := Grow.wrx hH nc
      refine ⟨_, β4, g04.trans g5, at4.putx hb4 hH nc (show RO L.G _ _ D (.iset _) from ⟨_, _, upd_same, fun j => ?_, ?_, ?_⟩) (fun ps z => by cases z), hr⟩
      · by_cases hm : k ∈ acc
        · rw [if_pos hm, Bool.or_eq_true, hF]
          exact ⟨fun z => z.elim id fun z => by rw [of_decide_eq_true z]; exact hm, .inl⟩
        · rw [if_neg hm, Bool.or_eq_true, hF, List.mem_cons, decide_eq_true_eq]
          exact Or.comm
      · by_cases hm : k ∈ acc
        · rw [if_pos hm, if_pos ((hF k).mpr hm)]
          exact hc
        · rw [if_neg hm, if_neg (fun z => hm ((hF k).mp z))]
          simp [hc]
      · by_cases hm : k ∈ acc
        · rw [if_pos hm]
          exact hnd
        · rw [if_neg hm]
          exact List.nodup_cons.mpr ⟨hm, hnd⟩
  · left
    have ei : i = w.1.length := by omega
    subst ei
    rw [List.drop_length] at hr
    obtain ⟨hs, acc, hk, hl, q⟩ := still_ok hr
    refine ⟨jr.stop H' β' S' gJ at' hs, ?_⟩
    obtain ⟨a, ea, hba, F, c, hH, hF, hc, hnd⟩ := at'.get (RV.loc (get_pre g'.pre hDn) : RV L.G H' β' (.loc S1.nxt) (.ref D)) hk
    cases ea
    refine ⟨D, F, c, rfl, hH, by omega, fun ns p asc mem _ hp => ?_⟩
    have en : ns = sortI acc := asc_ext asc (sortI_asc hnd) fun k => by rw [mem k, hF k, sortI_mem]
    subst en
    exact kg_lst (ds := (sortI acc).map .int) at' (RVs.ofInts _) (fun v H2 β2 g a r => q v H2 β2 ((g1.trans gJ).trans g) a r) p hp
/-- sorted({..}) -/
theorem arm_si {sc : Scope} {p p2 pos2 : Pos} (fa : Fa L X) (hsc : X.env.scope = sc) (hg : gloB sc ("sorted" : Str) = true) (hi : PI X tg iter (OfW L X W (evSr L.G.con cf Sr))) (b : Blk L X scope own tg ifs t Ifs cf) (he : ∀ (s : Shared) (H : Hp) (C : Addr) (cl : List (Str × Addr)) (fp : List Addr), PE (X.blk s H scope (compEnvC scope cl C X.env) fp) elt (OfE0 L X.base X.env.code (evE L.G.con cf Elt)))
    (hs : ∀ x, foldedSetIterable iter X.env x = pure x) : PE X (.Call (.Name ("sorted" : Str) p) [.SetComp elt [⟨tg, iter, ifs, 0⟩] scope p2] [] pos2) (OfE L X W (evE L.G.con cf (.gen .sset Sr t (own.map (·.2)) Ifs Elt))) :=
  (pe_callB (p := p) (pos := pos2) (cr_sortedSet (X := X) fa.calm) (glo_of hsc hg) (fa.bt _ (by decide +kernel)) boot_sorted (pa_cons (pe_si (pos := p2) fa.calm fa.nd hi b.ok b.tg b.ts he hs) pa_nil) (by decide) (by decide)).imp fun _ _ _ h => of_si fa h
end
end EV
/-! EvAG: the evaluator's expressions are the model's: what is wanted, blocks (own work). -/
namespace EV
open PySem PySem.Spec PyProof.Rows L2 GenW
/-- what is known of a context -/
structure Hy (L : Lw) (cf : Cf) (r0 : Nat) (X : Cx) (W : WX) (lv : Nat) (ql : Str) : Prop where
  fa : Fa L X
  tk : Takes X W
  ok : ∀ A : Around, Room r0 A → A.guards = some [] → FnsOk L cf X.prog X.w X.mg X.base A
  rm : Room (6 * lv + r0) X.A
  le : lv ≤ top
  q : lv = top → X.env.qual = ql
abbrev W0 : WX := fun _ _ _ _ => False
/-- the statement, at the depth n -/
structure Sn (L : Lw) (cf : Cf) (r0 n : Nat) : Prop where
  e : ∀ (lv : Nat) (X : Cx) (W : WX) (ql : Str), Hy L cf r0 X W lv ql → ∀ e E, cE (L.C X.N ql) n lv X.env.scope e = some E → PE X e (OfE L X W (evE L.G.con cf E)) ∧ PT X e (OfT L X W (evT L.G.con cf E))
  o : ∀ (lv : Nat) (X : Cx) (W : WX) (ql : Str), Hy L cf r0 X W lv ql → ∀ e E, cEo (L.C X.N ql) n lv X.env.scope e = some E → PO X e (Of L X W (fun _ _ (a b : Option Int) => a = b) (evEo L.G.con cf E))
  c : ∀ (lv : Nat) (X : Cx) (W : WX) (ql : Str), Hy L cf r0 X W lv ql → ∀ f args E, cCall (L.C X.N ql) n lv X.env.scope f args = some E → ∀ p pos, PE X (.Call (.Name f p) args [] pos) (OfE L X W (evE L.G.con cf E))
  l : ∀ (lv : Nat) (X : Cx) (W : WX) (ql : Str), Hy L cf r0 X W lv ql → ∀ scope tg it ifs elt E, cGen (L.C X.N ql) n lv X.env.scope scope (relS scope X.env.scope) .list tg it ifs elt = some E → ∀ pos, PE X (.ListComp elt [⟨tg, it, ifs, 0⟩] scope pos) (OfE L X W (evE L.G.con cf E))
  z : ∀ (lv : Nat) (X : Cx) (W : WX) (ql : Str), Hy L cf r0 X W lv ql → ∀ scope tg it ifs elt E, gloB X.env.scope ("sorted" : Str) = true → cGen (L.C X.N ql) n lv X.env.scope scope (relS scope X.env.scope) .sset tg it ifs elt = some E → ∀ p p2 pos, PE X (.Call (.Name ("sorted" : Str) p) [.SetComp elt [⟨tg, it, ifs, 0⟩] scope p2] [] pos) (OfE L X W (evE L.G.con cf E))
  g : ∀ (lv : Nat) (X : Cx) (W : WX) (ql : Str), Hy L cf r0 X W lv ql → ∀ f k scope tg it ifs elt E, gkNames.lookup f = some k → gloB X.env.scope f = true → cGen (L.C X.N ql) n lv X.env.scope scope scope k tg it ifs elt = some E → ∀ p gp pos, L.G.nm gp.line gp.col = none → PE X (.Call (.Name f p) [.GeneratorExp elt [⟨tg, it, ifs, 0⟩] scope gp] [] pos) (OfE L X W (evE L.G.con cf E))
  r : ∀ (lv : Nat) (X : Cx) (W : WX) (ql : Str), Hy L cf r0 X W lv ql → ∀ e S, cRng (L.C X.N ql) n lv X.env.scope e = some S → (∀ tg, PI X tg e (OfW L X W (evSr L.G.con cf S))) ∧ (∀ p pos, gloB X.env.scope ("tuple" : Str) = true → PE X (.Call (.Name ("tuple" : Str) p) [e] [] pos) (OfE L X W (evE L.G.con cf (.bf .tuple (.cons (.gen .tuple S (.n 0) [] .nil (.var 0)) .nil))))) ∧
    ∀ p pos, gloB X.env.scope ("list" : Str) = true → PE X (.Call (.Name ("list" : Str) p) [e] [] pos) (OfE L X W (evE L.G.con cf (.bf .list (.cons (.gen .tuple S (.n 0) [] .nil (.var 0)) .nil))))
  s : ∀ (lv : Nat) (X : Cx) (W : WX) (ql : Str), Hy L cf r0 X W lv ql → ∀ tg e S, cSr (L.C X.N ql) n lv X.env.scope e = some S → tupOk tg S = true → PI X tg e (OfW L X W (evSr L.G.con cf S))
section
variable {L : Lw} {cf : Cf} {r0 n lv : Nat} {X : Cx} {W : WX} {ql : Str}
theorem Hy.okA (h : Hy L cf r0 X W lv ql) : FnsOk L cf X.prog X.w X.mg X.base X.A := h.ok X.A (h.rm.mono (by omega)) h.fa.gu
theorem top3 : top = 3 := rfl
/-- within a comprehension's block -/
theorem Hy.blk (h : Hy L cf r0 X W lv ql) (s : Shared) (H : Hp) (scope : Scope) (ce : PySem.Env) (fp : List Addr) : Hy L cf r0 (X.blk s H scope ce fp) W0 (lv - 1) ql :=
  ⟨⟨h.fa.K, h.fa.nd, h.fa.calm, h.fa.hu, h.fa.gu, h.fa.own, h.fa.kp, h.fa.con, h.fa.bt, h.fa.bm, h.fa.pg, h.fa.wd⟩, LamX.takes0, h.ok, h.rm.mono (by omega), Nat.le_trans (Nat.sub_le _ _) h.le, fun e => by
    have := h.le
    rw [top3] at this e
    omega⟩
/-- within a generator's frame -/
theorem Hy.gx (h : Hy L cf r0 X W lv ql) (A : Around) (s : Shared) (H : Hp) (ce : PySem.Env) (fp : List Addr) (pn : List (Addr × Obj)) (hr : Room (6 * (lv - 1) + r0) (A.deeper ce)) (hg : A.guards = some []) : Hy L cf r0 (gx X A s H ce fp pn) W0 (lv - 1) ql :=
  ⟨⟨h.fa.K, h.fa.nd, h.fa.calm, by have := hr.un; show (A.deeper ce).units + 100 < _; omega, hg, h.fa.own, h.fa.kp, h.fa.con, h.fa.bt, h.fa.bm, h.fa.pg, h.fa.wd⟩, LamX.takes0, h.ok, hr, Nat.le_trans (Nat.sub_le _ _) h.le, fun e => by
    have := h.le
    rw [top3] at this e
    omega⟩
/-- targets of a block -/
theorem tg_blk {scope : Scope} {own : List (Str × Nat)} {t : Tg} {tg : Expr} {m : Nat} {C : Addr} {cl : List (Str × Addr)} {fp : List Addr} {s : Shared} {H : Hp} (h : Hy L cf r0 X W lv ql) (ht : cTg (L.C X.N ql) scope m tg = some t) (hs : ∀ i ∈ t.slots, i ∈ own.map (·.2)) :
    PG (X.blk s H scope (compEnvC scope cl C X.env) fp) tg (gOf L (· ∈ own.map (·.2)) t) := by
  refine (arm_tg (X := X.blk s H scope (compEnvC scope cl C X.env) fp) h.fa.K h.fa.nd h.fa.calm (C := L.C X.N ql) rfl (fun x hx => ?_) m tg t ht hs).1
  have key : ∀ k, k ≠ NameKind.free → scope.names.lookup x = some k → (relS scope X.env.scope).names.lookup x = some k := fun k hk e => lookup_relS_keep hk e
  rcases loc_of hx with k | k
  · exact ⟨.inl (key _ (by decide) k), .inr (key _ (by decide) k)⟩
  · refine ⟨.inr (key _ (by decide) k), .inl ?_⟩
    show (scope.names.lookup x == some NameKind.cell) = true
    rw [show scope.names.lookup x = some NameKind.cell from k]
    rfl
theorem tg_gx {scope : Scope} {own : List (Str × Nat)} {t : Tg} {tg : Expr} {m : Nat} {A : Around} {C : Addr} {code : Value} {fp : List Addr} {pn : List (Addr × Obj)} {s : Shared} {H : Hp} (h : Hy L cf r0 X W lv ql) (hc : ∀ y ∈ scope.names, y.2 ≠ .cell) (ht : cTg (L.C X.N ql) scope m tg = some t) (hs : ∀ i ∈ t.slots, i ∈ own.map (·.2)) :
    PG (EV.gx X A s H (gEnv X scope C code) fp pn) tg (gOf L (· ∈ own.map (·.2)) t) := by
  refine (arm_tg (X := EV.gx X A s H (gEnv X scope C code) fp pn) h.fa.K h.fa.nd h.fa.calm (C := L.C X.N ql) rfl (fun x hx => ?_) m tg t ht hs).1
  rcases loc_of hx with k | k
  · exact ⟨.inl k, .inr k⟩
  · exact absurd rfl (hc _ (PySem.mem_of_lookup k))
/-- a block's own names are their slots -/
theorem own_eq {N : List Str} {scope : Scope} {own : List Nat} (h : slots N (ownNames scope) = some own) : own = (ownOf N scope).map (·.2) := by
  unfold ownOf
  rw [List.map_map]
  unfold slots at h
  generalize ownNames scope = xs at h
  induction xs generalizing own with
  | nil =>
    simp at h
    subst h
    rfl
  | cons x xs ih =>
    simp only [List.mapM_cons, bind, Option.bind_eq_some_iff, pure, Option.some.injEq] at h
    obtain ⟨i, h1, ir, h2, rfl⟩ := h
    rw [List.map_cons, ← ih h2]
    congr 1
    unfold slot at h1
    simp only at h1
    split at h1
    · exact (Option.some.inj h1).symm
    · cases h1
theorem slots_in {t : Tg} {own : List Nat} (h : (t.slots.all fun i => decide (i ∈ own)) = true) : ∀ i ∈ t.slots, i ∈ own := fun i hi => of_decide_eq_true (List.all_eq_true.mp h i hi)
theorem _root_.L2.PTs.imp {X : Cx} {e : List Expr} {t t' : TT} (h : PTs X e t) (i : ∀ σ H Q, t' σ H Q → t σ H Q) : PTs X e t' := ⟨fun pins s σ H Q I q => h.run pins s σ H Q I (i _ _ _ q)⟩
theorem set_none {C : Cc} {sc : Scope} {es : List Expr} {k : Nat} {p : Pos} : ∀ m lv, cE C m lv sc (.Set es k p) = none
  | 0, _ => by simp [cE]
  | m + 1, _ => by simp [cE]
theorem fold_of {C : Cc} {m lv : Nat} {sc : Scope} {it : Expr} {S : Sr} {env : PySem.Env} (h : cSr C m lv sc it = some S) : ∀ x, foldedSetIterable it env x = pure x := fun x => by
  cases it with
  | Set es k p =>
    cases m with
    | zero => simp [cSr] at h
    | succ m =>
      have h1 : cRng C m lv sc (.Set es k p) = none := by cases m <;> simp [cRng]
      simp [cSr, h1, set_none] at h
  | _ => rfl
/-- list comprehensions -/
theorem sn_l (ih : Sn L cf r0 n) : ∀ (lv : Nat) (X : Cx) (W : WX) (ql : Str), Hy L cf r0 X W lv ql → ∀ scope tg it ifs elt E, cGen (L.C X.N ql) (n + 1) lv X.env.scope scope (relS scope X.env.scope) .list tg it ifs elt = some E → ∀ pos, PE X (.ListComp elt [⟨tg, it, ifs, 0⟩] scope pos) (OfE L X W (evE L.G.con cf E)) := by
  intro lv X W ql h scope tg it ifs elt E hE pos
  simp only [cGen] at hE
  split at hE
  · cases hE
  · split at hE
    · rename_i S t own Ifs Elt h1 h2 h3 h4 h5
      split at hE
      · rename_i hb
        cases hE
        simp only [Bool.and_eq_true] at hb
        obtain ⟨⟨b1, b2⟩, b3⟩ := hb
        have eo := own_eq h3
        subst eo
        have hi := ih.s lv X W ql h tg it S h1 b3
        refine arm_lc h.fa hi ⟨blkOk_by b2, fun s H C cl fp => tg_blk h h2 (slots_in b1), fun s H C cl fp => (tests_of (L := L) (cf := cf) (fun e E he => (ih.e (lv - 1) _ W0 ql (h.blk s H scope (compEnvC scope cl C X.env) fp) e E he).2) ifs Ifs h4).imp fun _ _ _ q => Of0.of rfl rfl q⟩
          (fun s H C cl fp => ((ih.e (lv - 1) _ W0 ql (h.blk s H scope (compEnvC scope cl C X.env) fp) elt Elt h5).1).imp fun _ _ _ q => Of0.of rfl rfl q) (fold_of h1)
      · cases hE
    · cases hE

/-- sorted({..}) -/
theorem sn_z (ih : Sn L cf r0 n) : ∀ (lv : Nat) (X : Cx) (W : WX) (ql : Str), Hy L cf r0 X W lv ql → ∀ scope tg it ifs elt E, gloB X.env.scope ("sorted" : Str) = true → cGen (L.C X.N ql) (n + 1) lv X.env.scope scope (relS scope X.env.scope) .sset tg it ifs elt = some E → ∀ p p2 pos, PE X (.Call (.Name ("sorted" : Str) p) [.SetComp elt [⟨tg, it, ifs, 0⟩] scope p2] [] pos) (OfE L X W (evE L.G.con cf E)) := by
  intro lv X W ql h scope tg it ifs elt E hgl hE p p2 pos
  simp only [cGen] at hE
  split at hE
  · cases hE
  · split at hE
    · rename_i S t own Ifs Elt h1 h2 h3 h4 h5
      split at hE
      · rename_i hb
        cases hE
        simp only [Bool.and_eq_true] at hb
        obtain ⟨⟨b1, b2⟩, b3⟩ := hb
        have eo := own_eq h3
        subst eo
        have hi := ih.s lv X W ql h tg it S h1 b3
        exact arm_si h.fa rfl hgl hi ⟨blkOk_by b2, fun s H C cl fp => tg_blk h h2 (slots_in b1), fun s H C cl fp => (tests_of (L := L) (cf := cf) (fun e E he => (ih.e (lv - 1) _ W0 ql (h.blk s H scope (compEnvC scope cl C X.env) fp) e E he).2) ifs Ifs h4).imp fun _ _ _ q => Of0.of rfl rfl q⟩
          (fun s H C cl fp => ((ih.e (lv - 1) _ W0 ql (h.blk s H scope (compEnvC scope cl C X.env) fp) elt Elt h5).1).imp fun _ _ _ q => Of0.of rfl rfl q) (fold_of h1)
      · cases hE
    · cases hE
theorem gfold_of {C : Cc} {m lv : Nat} {sc scope : Scope} {it : Expr} {S : Sr} {env : PySem.Env} (h : cSr C m lv sc it = some S) (hg : genOk scope it = true) : ∀ x, genFold it env x = pure x := fun x => by
  have hf := fold_of (env := env) h x
  cases it with
  | List es p =>
    unfold genOk at hg
    simp at hg
  | _ => exact hf
/-- generators -/
theorem gk_eq {f : Str} {k : Gk} (h : gkNames.lookup f = some k) : (f = ("tuple" : Str) ∧ k = .tuple) ∨ (f = ("all" : Str) ∧ k = .all) ∨ (f = ("any" : Str) ∧ k = .any) := by
  have hm := PySem.mem_of_lookup h
  simp only [gkNames, List.mem_cons, Prod.mk.injEq, List.not_mem_nil, or_false] at hm
  exact hm
theorem sn_g (ih : Sn L cf r0 n) : ∀ (lv : Nat) (X : Cx) (W : WX) (ql : Str), Hy L cf r0 X W lv ql → ∀ f k scope tg it ifs elt E, gkNames.lookup f = some k → gloB X.env.scope f = true → cGen (L.C X.N ql) (n + 1) lv X.env.scope scope scope k tg it ifs elt = some E → ∀ p gp pos, L.G.nm gp.line gp.col = none → PE X (.Call (.Name f p) [.GeneratorExp elt [⟨tg, it, ifs, 0⟩] scope gp] [] pos) (OfE L X W (evE L.G.con cf E)) := by
  intro lv X W ql h f k scope tg it ifs elt E hk hgl hE p gp pos hn
  have hk := gk_eq hk
  have hkl : (decide (k = Gk.list) || decide (k = Gk.sset)) = false := by rcases hk with ⟨_, rfl⟩ | ⟨_, rfl⟩ | ⟨_, rfl⟩ <;> rfl
  simp only [cGen, hkl, Bool.not_false, Bool.and_true] at hE
  split at hE
  · cases hE
  · rename_i hgo
    have hgo : genOk scope it = true ∧ ¬ lv = 0 := by simpa using hgo
    obtain ⟨g1, g2⟩ := hgo
    have g2 : 0 < lv := Nat.pos_of_ne_zero g2
    split at hE
    · rename_i S t own Ifs Elt h1 h2 h3 h4 h5
      split at hE
      · rename_i hb
        cases hE
        simp only [Bool.and_eq_true] at hb
        obtain ⟨⟨b1, b2⟩, b3⟩ := hb
        have eo := own_eq h3
        subst eo
        have hi := ih.s lv X W ql h tg it S h1 b3
        have G : (scope.isCoroutine = false ∧ scope.names.lookup dot0 = some NameKind.local) ∧ ∀ y ∈ scope.names, y.2 ≠ .cell := by
          unfold genOk at g1
          simp only [Bool.and_eq_true, Bool.not_eq_true', decide_eq_true_eq, List.all_eq_true, decide_eq_false_iff_not] at g1
          exact ⟨⟨g1.1.1.2, g1.1.2⟩, g1.2⟩
        have b : BlkG L X scope (ownOf X.N scope) tg elt ifs t (esOf Ifs) Elt cf (6 * (lv - 1) + r0) :=
          ⟨blkOk_by b2, G.1.1, G.1.2, G.2, fun A s H C code fp pn hr hg => tg_gx h G.2 h2 (slots_in b1),
            fun A s H C code fp pn hr hg => (tests_of (L := L) (cf := cf) (fun e E he => (ih.e (lv - 1) _ W0 ql (h.gx A s H (gEnv X scope C code) fp pn hr hg) e E he).2) ifs Ifs h4).imp fun _ _ _ q => Of0.of rfl rfl q,
            fun A s H C code fp pn hr hg => ((ih.e (lv - 1) _ W0 ql (h.gx A s H (gEnv X scope C code) fp pn hr hg) elt Elt h5).1).imp fun _ _ _ q => Of0.of rfl rfl q⟩
        have hf := gfold_of (env := X.env) h1 g1
        rcases hk with ⟨rfl, rfl⟩ | ⟨rfl, rfl⟩ | ⟨rfl, rfl⟩
        · exact arm_tupG h.fa rfl hgl (h.rm.mono (by omega)) hn hi b hf
        · exact arm_all h.fa rfl hgl (h.rm.mono (by omega)) hn hi b hf
        · exact arm_any h.fa rfl hgl (h.rm.mono (by omega)) hn hi b hf
      · cases hE
    · cases hE
end
end EV
/-! EvAH: ranges made whole (own work). -/
namespace EV
open PySem PySem.Spec PyProof.Rows L2 GenW
section
variable {L : Lw} {cf : Cf} {X : Cx} {W : WX} {sc : Scope} {A B : E} {e e2 : Expr}
theorem rng_go {con : List D} {ρ : Env} {Q : List D → Sto → Prop} : ∀ (xs acc : List D) (s : Sto), (∀ d ∈ xs, d.isClo = false) → RW (tpGo (evIfs con cf .nil) (evE con cf (.var 0)) (.n 0) none ρ xs acc s) Q (fun _ _ => False) → Q (acc ++ xs) s
  | [], acc, s, _, h => by
    simp only [tpGo] at h
    have h2 := (still_ok (RW.step (Q' := fun (_ : Unit) S2 => Q acc S2) h fun a s q => q)).2
    rw [List.append_nil]
    exact h2
  | x :: xs, acc, s, hx, h => by
    simp only [tpGo] at h
    obtain ⟨_, ρ', ha, h⟩ := turn_ok h
    simp only [asg, Option.some.injEq] at ha
    subst ha
    simp only [evIfs, M.bind, if_true] at h
    have hc := hx x List.mem_cons_self
    have hv : evE con cf (.var 0) (ρ.set 0 (some x)) s = .ok x s ∨ evE con cf (.var 0) (ρ.set 0 (some x)) s = .bad := by
      simp only [evE, getV]
      cases ρ with
      | nil => exact .inr rfl
      | cons o r =>
        left
        simp [hc]
    rcases hv with hv | hv
    · rw [hv] at h
      have := rng_go xs (acc ++ [x]) s (fun d hd => hx d (List.mem_cons_of_mem _ hd)) h
      rwa [List.append_assoc] at this
    · rw [hv] at h
      exact h.elim
theorem rngs_ok (lo : Int) (n : Nat) : ∀ d ∈ rngs lo n, d.isClo = false := fun d hd => by
  obtain ⟨k, _, rfl⟩ := List.mem_map.mp hd
  rfl
theorem rngs_rv {H : Hp} {β : List Addr} (a b : Int) : RVs L.G H β (rngs a (b - a).toNat) (rgV a b) := by
  have e1 : rngs a (b - a).toNat = ((List.range (b - a).toNat).map fun (k : Nat) => a + (k : Int)).map .int := by
    unfold rngs
    rw [List.map_map]
    rfl
  have e2 : rgV a b = ((List.range (b - a).toNat).map fun (k : Nat) => a + (k : Int)).map V.int := by
    unfold rgV
    rw [List.map_map]
    rfl
  rw [e1, e2]
  exact RVs.ofInts _
/-- what the generator that stands for a range gives -/
theorem of_rngs {S : Sr} {ρ : Env} {st : Sto} {α : Type} {f : D → Sto → M α} {Q : α → Sto → Prop} {Wx : Xc → Sto → Prop} (h : RW ((evE L.G.con cf (.gen .tuple S (.n 0) [] .nil (.var 0)) ρ st).bind f) Q Wx) :
    RW (evSr L.G.con cf S ρ st) (fun w s1 => w.2 = none → (∀ d ∈ w.1, d.isClo = false) → w.1.length ≤ sizeLine ∧ RW (f (.tup w.1) s1) Q Wx) Wx := by
  simp only [evE, M.assoc] at h
  refine RW.step h fun w s1 h h2 h3 => ?_
  have h := RW.calm (W' := fun _ _ => False) (RW.step (Q' := fun (ds : List D) s2 => ds.length ≤ sizeLine ∧ RW (f (.tup ds) s2) Q Wx) h fun ds s2 q => by
    cases e : mkTup ds s2 with
    | bad => rw [e] at q; exact q.elim
    | ok a s3 =>
      rw [e] at q
      obtain ⟨hz, e1, e2⟩ := mkTup_ok e
      subst e1
      subst e2
      exact ⟨hz, q⟩)
  rw [h2] at h
  have := rng_go w.1 [] s1 h3 h
  simpa using this
theorem evE_bf {con : List D} {b : Bf} {es : Es} {ρ : Env} {s : Sto} : evE con cf (.bf b es) ρ s = (evEs con cf es ρ s).bind fun ds s1 => (bf b ds s1).up := by simp only [evE]
theorem arm_tupR {S : Sr} {p pos : Pos} {te : L2.St → Hp → (Int → Int → Hp → Prop) → Prop} (fa : Fa L X) (hs : X.env.scope = sc) (hg : gloB sc ("tuple" : Str) = true) (st : NoStar X e) (he : PRg X e te)
    (hr : ∀ {σ : L2.St} {H : Hp} {Q : Walk → Sto → Prop} {ρ : Env} {S0 : Sto} {β : List Addr} {R : Int → Int → Hp → Prop}, ER L.G L.fnN L.conN X H β ρ σ → At L.G H β S0 → RW (evSr L.G.con cf S ρ S0) Q (KX L.G L.cad H β fun c d H' => W c d σ H') →
      (∀ a b H1 β1 S1, Grow H H1 β β1 → At L.G H1 β1 S1 → rngOk a = true → rngOk b = true → Q (rngs a (b - a).toNat, none) S1 → R a b H1) → te σ H R) :
    PE X (.Call (.Name ("tuple" : Str) p) [e] [] pos) (OfE L X W (evE L.G.con cf (.bf .tuple (.cons (.gen .tuple S (.n 0) [] .nil (.var 0)) .nil)))) := by
  refine (pe_tupRg fa.calm (glo_of hs hg) (fa.bt _ (by decide +kernel)) he (st [])).imp fun σ H Q h => ?_
  obtain ⟨ρ, S0, β, er, at_, h⟩ := h
  simp only [evE_bf, evEs, M.assoc] at h
  refine hr er at_ (of_rngs h) fun a b H1 β1 S1 g at1 ra rb q => ?_
  obtain ⟨hz, q⟩ := q rfl (rngs_ok _ _)
  have r1 := rngOk_of ra
  have r2 := rngOk_of rb
  refine ⟨⟨r1.1, r1.2, r2.1, r2.2, ?_⟩, fun p' hp => ?_⟩
  · have : (rngs a (b - a).toNat).length = (b - a).toNat := by simp [rngs]
    rw [← this]
    rw [sizeLine_eq] at hz
    exact hz
  · simp only [M.bind, bf, D.items, R.up] at q
    exact kg_tup at1 (rngs_rv a b) (fun v H' β' g' => q v H' β' (g.trans g')) p' hp
theorem arm_lstR {S : Sr} {p pos : Pos} {te : L2.St → Hp → (Int → Int → Hp → Prop) → Prop} (fa : Fa L X) (hs : X.env.scope = sc) (hg : gloB sc ("list" : Str) = true) (st : NoStar X e) (he : PRg X e te)
    (hr : ∀ {σ : L2.St} {H : Hp} {Q : Walk → Sto → Prop} {ρ : Env} {S0 : Sto} {β : List Addr} {R : Int → Int → Hp → Prop}, ER L.G L.fnN L.conN X H β ρ σ → At L.G H β S0 → RW (evSr L.G.con cf S ρ S0) Q (KX L.G L.cad H β fun c d H' => W c d σ H') →
      (∀ a b H1 β1 S1, Grow H H1 β β1 → At L.G H1 β1 S1 → rngOk a = true → rngOk b = true → Q (rngs a (b - a).toNat, none) S1 → R a b H1) → te σ H R) :
    PE X (.Call (.Name ("list" : Str) p) [e] [] pos) (OfE L X W (evE L.G.con cf (.bf .list (.cons (.gen .tuple S (.n 0) [] .nil (.var 0)) .nil)))) := by
  refine (pe_listRg fa.calm (glo_of hs hg) (fa.bt _ (by decide +kernel)) he (st [])).imp fun σ H Q h => ?_
  obtain ⟨ρ, S0, β, er, at_, h⟩ := h
  simp only [evE_bf, evEs, M.assoc] at h
  refine hr er at_ (of_rngs h) fun a b H1 β1 S1 g at1 ra rb q => ?_
  obtain ⟨hz, q⟩ := q rfl (rngs_ok _ _)
  have r1 := rngOk_of ra
  have r2 := rngOk_of rb
  refine ⟨⟨r1.1, r1.2, r2.1, r2.2, ?_⟩, fun p' hp => ?_⟩
  · have : (rngs a (b - a).toNat).length = (b - a).toNat := by simp [rngs]
    rw [← this]
    rw [sizeLine_eq] at hz
    exact hz
  · simp only [M.bind, bf, D.items, mkList, inLine, decide_eq_true hz, if_true, R.up] at q
    exact kg_lst at1 (rngs_rv a b) (fun v H' β' g' => q v H' β' (g.trans g')) p' hp
end
end EV
/-! EvAI: the main induction's parts: slices' bounds, ranges, iterables, calls (own work). -/
namespace EV
open PySem PySem.Spec PyProof.Rows L2 GenW
section
variable {L : Lw} {cf : Cf} {r0 n : Nat}
theorem sn_o (ih : Sn L cf r0 n) : ∀ (lv : Nat) (X : Cx) (W : WX) (ql : Str), Hy L cf r0 X W lv ql → ∀ e E, cEo (L.C X.N ql) (n + 1) lv X.env.scope e = some E → PO X e (Of L X W (fun _ _ (a b : Option Int) => a = b) (evEo L.G.con cf E)) := by
  intro lv X W ql h e E hE
  cases e with
  | none =>
    simp only [cEo, Option.some.injEq] at hE
    subst hE
    exact arm_po trivial
  | some e =>
    simp only [cEo, Option.map_eq_some_iff] at hE
    obtain ⟨A, h1, rfl⟩ := hE
    exact arm_po (ih.e lv X W ql h e A h1).1
theorem sn_r (ih : Sn L cf r0 n) : ∀ (lv : Nat) (X : Cx) (W : WX) (ql : Str), Hy L cf r0 X W lv ql → ∀ e S, cRng (L.C X.N ql) (n + 1) lv X.env.scope e = some S → (∀ tg, PI X tg e (OfW L X W (evSr L.G.con cf S))) ∧ (∀ p pos, gloB X.env.scope ("tuple" : Str) = true → PE X (.Call (.Name ("tuple" : Str) p) [e] [] pos) (OfE L X W (evE L.G.con cf (.bf .tuple (.cons (.gen .tuple S (.n 0) [] .nil (.var 0)) .nil))))) ∧
    ∀ p pos, gloB X.env.scope ("list" : Str) = true → PE X (.Call (.Name ("list" : Str) p) [e] [] pos) (OfE L X W (evE L.G.con cf (.bf .list (.cons (.gen .tuple S (.n 0) [] .nil (.var 0)) .nil)))) := by
  intro lv X W ql h e S hS
  rw [cRng.eq_def] at hS
  simp only at hS
  split at hS
  · rename_i f fp args cp
    split at hS
    · rename_i hf
      simp only [Bool.and_eq_true, beq_iff_eq] at hf
      obtain ⟨rfl, hg⟩ := hf
      split at hS
      · rename_i a
        simp only [Option.map_eq_some_iff] at hS
        obtain ⟨A, h1, rfl⟩ := hS
        have st := star_of (X := X) h1
        have pa := (ih.e lv X W ql h a A h1).1
        have key : ∀ {σ : L2.St} {H : Hp} {Q : Walk → Sto → Prop} {ρ : Env} {S0 : Sto} {β : List Addr} {R : Int → Int → Hp → Prop}, ER L.G L.fnN L.conN X H β ρ σ → At L.G H β S0 → RW (evSr L.G.con cf (.rng1 A) ρ S0) Q (KX L.G L.cad H β fun c d H' => W c d σ H') →
            (∀ a b H1 β1 S1, Grow H H1 β β1 → At L.G H1 β1 S1 → rngOk a = true → rngOk b = true → Q (rngs a (b - a).toNat, none) S1 → R a b H1) → tRg1 (OfE L X W (evE L.G.con cf A)) σ H R := fun {σ H Q ρ S0 β R} er at_ hr hq => by
          simp only [evSr] at hr
          refine ⟨ρ, S0, β, er, at_, RW.step hr fun x S1 hx v H1 β1 g at1 r => ?_⟩
          cases x with
          | int i =>
            simp only [rng1] at hx
            cases r
            by_cases hr : rngOk i = true
            · rw [if_pos hr] at hx
              refine ⟨i, rfl, hq 0 i H1 β1 S1 g at1 (by decide) hr ?_⟩
              have e0 : (i - 0).toNat = i.toNat := by rw [Int.sub_zero]
              rw [e0]
              exact hx
            · rw [if_neg hr] at hx
              exact hx.elim
          | _ => exact hx.elim
        refine ⟨fun tg => arm_rng1 h.fa rfl hg st pa, fun p pos ht => arm_tupR h.fa rfl ht (fun _ => rfl) (prg_1 (glo_of rfl hg) (h.fa.bt _ (by decide +kernel)) pa (st _)) key, fun p pos ht => arm_lstR h.fa rfl ht (fun _ => rfl) (prg_1 (glo_of rfl hg) (h.fa.bt _ (by decide +kernel)) pa (st _)) key⟩
      · rename_i a b
        split at hS
        · rename_i A B h1 h2
          cases hS
          have st := star_of (X := X) h1
          have st2 := star_of (X := X) h2
          have pa := (ih.e lv X W ql h a A h1).1
          have pb := (ih.e lv X W ql h b B h2).1
          have key : ∀ {σ : L2.St} {H : Hp} {Q : Walk → Sto → Prop} {ρ : Env} {S0 : Sto} {β : List Addr} {R : Int → Int → Hp → Prop}, ER L.G L.fnN L.conN X H β ρ σ → At L.G H β S0 → RW (evSr L.G.con cf (.rng2 A B) ρ S0) Q (KX L.G L.cad H β fun c d H' => W c d σ H') →
              (∀ a b H1 β1 S1, Grow H H1 β β1 → At L.G H1 β1 S1 → rngOk a = true → rngOk b = true → Q (rngs a (b - a).toNat, none) S1 → R a b H1) → tRg2 (OfE L X W (evE L.G.con cf A)) (OfE L X W (evE L.G.con cf B)) σ H R := fun {σ H Q ρ S0 β R} er at_ hr hq => by
            simp only [evSr] at hr
            refine ⟨ρ, S0, β, er, at_, RW.step hr fun x S1 hx v H1 β1 g at1 r => ?_⟩
            have hx := hx.mono (W' := KX L.G L.cad H1 β1 fun c d H' => W c d σ H') (fun _ _ q => q) (fun _ _ q c d H' β' g' => q c d H' β' (g.trans g'))
            refine ⟨ρ, S1, β1, er.grow g, at1, RW.step hx fun y S2 hy u H2 β2 g2 at2 r2 => ?_⟩
            cases x with
            | int i =>
              cases y with
              | int j =>
                simp only [rng2] at hy
                cases r
                cases r2
                by_cases hr : (rngOk i && rngOk j) = true
                · rw [if_pos hr] at hy
                  rw [Bool.and_eq_true] at hr
                  exact ⟨i, j, rfl, rfl, hq i j H2 β2 S2 (g.trans g2) at2 hr.1 hr.2 hy⟩
                · rw [if_neg hr] at hy
                  exact hy.elim
              | _ => exact hy.elim
            | _ => exact hy.elim
          refine ⟨fun tg => arm_rng2 h.fa rfl hg st st2 pa pb, fun p pos ht => arm_tupR h.fa rfl ht (fun _ => rfl) (prg_2 (glo_of rfl hg) (h.fa.bt _ (by decide +kernel)) pa pb (st _) (st2 _) (by rw [st2]; rfl)) key, fun p pos ht => arm_lstR h.fa rfl ht (fun _ => rfl) (prg_2 (glo_of rfl hg) (h.fa.bt _ (by decide +kernel)) pa pb (st _) (st2 _) (by rw [st2]; rfl)) key⟩
        · cases hS
      · cases hS
    · cases hS
  · cases hS
theorem sn_s (ih : Sn L cf r0 n) : ∀ (lv : Nat) (X : Cx) (W : WX) (ql : Str), Hy L cf r0 X W lv ql → ∀ tg e S, cSr (L.C X.N ql) (n + 1) lv X.env.scope e = some S → tupOk tg S = true → PI X tg e (OfW L X W (evSr L.G.con cf S)) := by
  intro lv X W ql h tg e S hS ht
  rw [cSr.eq_def] at hS
  simp only at hS
  split at hS
  · rename_i S' hr
    cases hS
    exact (ih.r lv X W ql h e _ hr).1 tg
  · split at hS
    · rename_i f p args q _
      split at hS
      · rename_i hf
        simp only [Bool.and_eq_true, beq_iff_eq] at hf
        obtain ⟨rfl, hg⟩ := hf
        split at hS
        · rename_i a hrn
          simp only [Option.map_eq_some_iff] at hS
          obtain ⟨A, h1, rfl⟩ := hS
          cases tg with
          | Tuple elts k tp => exact arm_enum h.fa rfl hg (star_of h1) (ih.e lv X W ql h a A h1).1
          | _ => cases ht
        · cases hS
      · split at hS
        · rename_i hf
          simp only [Bool.and_eq_true, beq_iff_eq] at hf
          obtain ⟨rfl, hg⟩ := hf
          split at hS
          · rename_i a b hrn
            split at hS
            · rename_i A B h1 h2
              cases hS
              cases tg with
              | Tuple elts k tp => exact arm_zip h.fa rfl hg (star_of h1) (star_of h2) (ih.e lv X W ql h a A h1).1 (ih.e lv X W ql h b B h2).1
              | _ => cases ht
            · cases hS
          · cases hS
        · simp only [Option.map_eq_some_iff] at hS
          obtain ⟨A, h1, rfl⟩ := hS
          exact arm_srE h.fa (ih.e lv X W ql h _ A h1).1
    · simp only [Option.map_eq_some_iff] at hS
      obtain ⟨A, h1, rfl⟩ := hS
      exact arm_srE h.fa (ih.e lv X W ql h _ A h1).1
end
end EV
/-! EvAJ: the main induction's parts: calls (own work). -/
namespace EV
open PySem PySem.Spec PyProof.Rows L2 GenW
section
variable {L : Lw} {cf : Cf} {r0 n : Nat}
theorem idx_get {l : List Str} {f : Str} (h : l.idxOf f < l.length) : l[l.idxOf f]? = some f := by
  rw [List.getElem?_eq_getElem h]
  simp
theorem setArg_eq {args : List Expr} {a : Expr} (h : setArg args = some a) : ∃ (g : Str) (gp pos : Pos), args = [.Call (.Name g gp) [a] [] pos] ∧ g = ("set" : Str) := by
  unfold setArg at h
  split at h
  · split at h
    · rename_i hg
      cases h
      exact ⟨_, _, _, rfl, by simpa using hg⟩
    · cases h
  · cases h
theorem sn_c (ih : Sn L cf r0 n) : ∀ (lv : Nat) (X : Cx) (W : WX) (ql : Str), Hy L cf r0 X W lv ql → ∀ f args E, cCall (L.C X.N ql) (n + 1) lv X.env.scope f args = some E → ∀ p pos, PE X (.Call (.Name f p) args [] pos) (OfE L X W (evE L.G.con cf E)) := by
  intro lv X W ql h f args E hE p pos
  have hf : ∀ e E, cE (L.C X.N ql) n lv X.env.scope e = some E → PE X e (OfE L X W (evE L.G.con cf E)) ∧ NoStar X e := fun e E he => ⟨(ih.e lv X W ql h e E he).1, star_of he⟩
  rw [cCall.eq_def] at hE
  simp only at hE
  split at hE
  · cases hE
  · rename_i hok
    have hok : okName f = true := by simpa using hok
    split at hE
    · rename_i a ea
      obtain ⟨g, gp, apos, rfl, hgs⟩ := setArg_eq ea
      split at hE
      · rename_i hc
        simp only [Bool.and_eq_true, beq_iff_eq] at hc
        obtain ⟨⟨rfl, c2⟩, c3⟩ := hc
        rw [Option.map_eq_some_iff] at hE
        obtain ⟨A, hA, rfl⟩ := hE
        subst hgs
        exact arm_sset h.fa rfl c2 c3 (hf a A hA).1 (hf a A hA).2
      · cases hE
    split at hE
    · rename_i hc
      cases hE
      simp only [Bool.and_eq_true, beq_iff_eq] at hc
      obtain ⟨⟨rfl, c2⟩, c3⟩ := hc
      rw [List.isEmpty_iff.mp c3]
      exact arm_set0 h.fa rfl c2
    split at hE
    · rename_i hv
      split at hE
      · rename_i i Es h1 h2
        cases hE
        obtain ⟨p1, p2, _⟩ := arm_args hf args Es h2
        cases args with
        | nil =>
          simp at h2
          subst h2
          exact arm_callv0 h.fa rfl h.okA h.tk hok hv (slot_of h1)
        | cons e es =>
          have h2' := h2
          simp only [List.mapM_cons, bind, Option.bind_eq_some_iff, pure, Option.some.injEq] at h2'
          obtain ⟨E1, he1, Er, he2, _⟩ := h2'
          exact arm_callv h.fa rfl h.okA h.tk hok hv (slot_of h1) p1 (star_of he1 _) ((arm_args hf es Er he2).2.1 pos)
      · cases hE
    · split at hE
      · cases hE
      · rename_i hg
        have hg : gloB X.env.scope f = true := by simpa using hg
        split at hE
        · rename_i hi
          have hk := idx_get hi
          split at hE
          · rename_i a b lsc lp hl
            split at hE
            · cases hE
            · rename_i hc
              have hc : lamOk X.N X.env.scope lsc a = true ∧ lv = top ∧ L.G.nm lp.line lp.col = some (ql ++ ("<lambda>" : Str)) := by simpa [and_assoc] using hc
              obtain ⟨c1, c2, c3⟩ := hc
              split at hE
              · rename_i Es ps caps B h1 h2 h3 h4
                cases hE
                have ea : args.dropLast ++ [.Lambda a b lsc lp] = args := by
                  obtain ⟨ys, e⟩ := List.getLast?_eq_some_iff.mp hl
                  rw [e]
                  simp
                rw [← ea]
                exact arm_calll (ql := ql) (n := n) h.fa rfl h.okA h.tk hok hg hk hf h1 c1 h2 h3 h4 (by rw [h.q c2]; exact c3)
              · cases hE
          · simp only [Option.map_eq_some_iff] at hE
            obtain ⟨Es, h2, rfl⟩ := hE
            obtain ⟨p1, p2, _⟩ := arm_args hf args Es h2
            cases args with
            | nil =>
              simp at h2
              subst h2
              exact arm_call0 h.fa rfl h.okA h.tk hok hg hk
            | cons e es =>
              have h2' := h2
              simp only [List.mapM_cons, bind, Option.bind_eq_some_iff, pure, Option.some.injEq] at h2'
              obtain ⟨E1, he1, Er, he2, _⟩ := h2'
              exact arm_call h.fa rfl h.okA h.tk hok hg hk p1 (star_of he1 _) ((arm_args hf es Er he2).2.1 pos)
        · split at hE
          · cases hE
          · rename_i b hb
            have ef := bfNames_eq hb
            subst ef
            have gen : ∀ Es, args.mapM (cE (L.C X.N ql) n lv X.env.scope) = some Es → PE X (.Call (.Name (bfStr b) p) args [] pos) (OfE L X W (evE L.G.con cf (.bf b (esOf Es)))) := fun Es h2 => by
              obtain ⟨p1, p2, _⟩ := arm_args hf args Es h2
              cases args with
              | nil =>
                simp at h2
                subst h2
                exact arm_bf0 b
              | cons e es =>
                have h2' := h2
                simp only [List.mapM_cons, bind, Option.bind_eq_some_iff, pure, Option.some.injEq] at h2'
                obtain ⟨E1, he1, Er, he2, _⟩ := h2'
                exact arm_bf h.fa rfl b hg p1 (star_of he1 _) ((arm_args hf es Er he2).2.1 pos)
            split at hE
            · rename_i hbt
              split at hE
              · rename_i a _ _
                split at hE
                · rename_i S hS
                  cases hE
                  have hbt : b = .tuple ∨ b = .list := by simpa using hbt
                  rcases hbt with rfl | rfl
                  · exact (ih.r lv X W ql h a S hS).2.1 p pos hg
                  · exact (ih.r lv X W ql h a S hS).2.2 p pos hg
                · simp only [Option.map_eq_some_iff] at hE
                  obtain ⟨A, h1, rfl⟩ := hE
                  exact gen [A] (by simp [h1])
              · cases hE
            · simp only [Option.map_eq_some_iff] at hE
              obtain ⟨Es, h2, rfl⟩ := hE
              exact gen Es h2
end
end EV
/-! EvAK: the main induction (own work). -/
namespace EV
open PySem PySem.Spec PyProof.Rows L2 GenW
section
variable {L : Lw} {cf : Cf} {r0 n : Nat}
theorem and_chain {X : Cx} {W : WX} {f : Expr → Option E} (fa : Fa L X) (hf : ∀ e E, f e = some E → PE X e (OfE L X W (evE L.G.con cf E)) ∧ PT X e (OfT L X W (evT L.G.con cf E))) {pos : Pos} : ∀ (es : List Expr) (Es : List E) (Ec : E), es.mapM f = some Es → chain E.and Es = some Ec →
    PE X (.BoolOp .And es pos) (OfE L X W (evE L.G.con cf Ec)) ∧ PW X (.BoolOp .And es pos) (OfT L X W (evT L.G.con cf Ec))
  | [], Es, Ec, h, hc => by
    simp at h
    subst h
    cases hc
  | [a], Es, Ec, h, hc => by
    simp only [List.mapM_cons, List.mapM_nil, bind, Option.bind_eq_some_iff, pure, Option.some.injEq] at h
    obtain ⟨A, h1, _, rfl, rfl⟩ := h
    obtain ⟨p1, p2⟩ := hf a _ h1
    cases hc
    exact ⟨pe_one p1, pw_and1 p2⟩
  | a :: b :: rest, Es, Ec, h, hc => by
    rw [List.mapM_cons] at h
    simp only [bind, Option.bind_eq_some_iff, pure, Option.some.injEq] at h
    obtain ⟨A, h1, Er, h2, rfl⟩ := h
    obtain ⟨p1, p2⟩ := hf a A h1
    cases Er with
    | nil =>
      have := mapM_len h2
      simp at this
    | cons B r =>
      simp only [chain, Option.map_eq_some_iff] at hc
      obtain ⟨Eb, hc, rfl⟩ := hc
      obtain ⟨q1, q2⟩ := and_chain fa hf (b :: rest) (B :: r) Eb h2 hc
      exact ⟨(pe_andT p1 q1).imp fun _ _ _ h => of_and fa (by simpa only [evE] using h), arm_andT p2 q2⟩
theorem or_chain {X : Cx} {W : WX} {f : Expr → Option E} (fa : Fa L X) (hf : ∀ e E, f e = some E → PE X e (OfE L X W (evE L.G.con cf E)) ∧ PT X e (OfT L X W (evT L.G.con cf E))) {pos : Pos} : ∀ (es : List Expr) (Es : List E) (Ec : E), es.mapM f = some Es → chain E.or Es = some Ec →
    PE X (.BoolOp .Or es pos) (OfE L X W (evE L.G.con cf Ec)) ∧ PW X (.BoolOp .Or es pos) (OfT L X W (evT L.G.con cf Ec))
  | [], Es, Ec, h, hc => by
    simp at h
    subst h
    cases hc
  | [a], Es, Ec, h, hc => by
    simp only [List.mapM_cons, List.mapM_nil, bind, Option.bind_eq_some_iff, pure, Option.some.injEq] at h
    obtain ⟨A, h1, _, rfl, rfl⟩ := h
    obtain ⟨p1, p2⟩ := hf a _ h1
    cases hc
    exact ⟨pe_one p1, pw_or1 p2⟩
  | a :: b :: rest, Es, Ec, h, hc => by
    rw [List.mapM_cons] at h
    simp only [bind, Option.bind_eq_some_iff, pure, Option.some.injEq] at h
    obtain ⟨A, h1, Er, h2, rfl⟩ := h
    obtain ⟨p1, p2⟩ := hf a A h1
    cases Er with
    | nil =>
      have := mapM_len h2
      simp at this
    | cons B r =>
      simp only [chain, Option.map_eq_some_iff] at hc
      obtain ⟨Eb, hc, rfl⟩ := hc
      obtain ⟨q1, q2⟩ := or_chain fa hf (b :: rest) (B :: r) Eb h2 hc
      exact ⟨(pe_orT p1 q1).imp fun _ _ _ h => of_or fa (by simpa only [evE] using h), arm_orT p2 q2⟩
theorem both {X : Cx} {W : WX} {e : Expr} {A : E} (fa : Fa L X) (ha : PE X e (OfE L X W (evE L.G.con cf A))) (he : ∀ whole, isTrue e X.env whole = (do let v ← whole; standAt e.pos; holding [v] (truthy v))) : PE X e (OfE L X W (evE L.G.con cf A)) ∧ PT X e (OfT L X W (evT L.G.con cf A)) := ⟨ha, arm_truth fa ha he⟩
theorem sn_e (ih : Sn L cf r0 n) : ∀ (lv : Nat) (X : Cx) (W : WX) (ql : Str), Hy L cf r0 X W lv ql → ∀ e E, cE (L.C X.N ql) (n + 1) lv X.env.scope e = some E → PE X e (OfE L X W (evE L.G.con cf E)) ∧ PT X e (OfT L X W (evT L.G.con cf E)) := by
  intro lv X W ql h e E hE
  have he := ih.e lv X W ql h
  have hf : ∀ e E, cE (L.C X.N ql) n lv X.env.scope e = some E → PE X e (OfE L X W (evE L.G.con cf E)) ∧ NoStar X e := fun e E hh => ⟨(he e E hh).1, star_of hh⟩
  rw [cE.eq_def] at hE
  simp only at hE
  split at hE
  · -- name
    rename_i x p
    have key : PE X (.Name x p) (OfE L X W (evE L.G.con cf E)) := by
      split at hE
      · cases hE
      · rename_i hok
        have hok : okName x = true := by simpa using hok
        split at hE
        · rename_i hv
          simp only [Option.map_eq_some_iff] at hE
          obtain ⟨i, h1, rfl⟩ := hE
          exact arm_var rfl hok hv (slot_of h1)
        · split at hE
          · rename_i hg
            split at hE
            · rename_i hi
              cases hE
              exact arm_con h.fa rfl hok hg (idx_get hi)
            · cases hE
          · cases hE
    exact ⟨key, arm_truth h.fa key fun _ => rfl⟩
  · cases hE
    exact ⟨arm_int, arm_truth h.fa arm_int fun _ => rfl⟩
  · cases hE
    exact ⟨arm_str, arm_truth h.fa arm_str fun _ => rfl⟩
  · cases hE
    exact ⟨arm_bool, arm_truth h.fa arm_bool fun _ => rfl⟩
  · cases hE
    exact ⟨arm_none, arm_truth h.fa arm_none fun _ => rfl⟩
  · -- tuple
    simp only [Option.map_eq_some_iff] at hE
    obtain ⟨Es, h1, rfl⟩ := hE
    exact both h.fa (arm_tup (arm_args hf _ Es h1).1) fun _ => rfl
  · simp only [Option.map_eq_some_iff] at hE
    obtain ⟨Es, h1, rfl⟩ := hE
    exact both h.fa (arm_lst (arm_args hf _ Es h1).1) fun _ => rfl
  · -- dict
    split at hE
    · rename_i a b h1 h2
      split at hE
      · rename_i hl
        cases hE
        exact both h.fa (arm_dict (X := X) (W := W) (cf := cf) (L := L) (f := cE (L.C X.N ql) n lv X.env.scope) (fun e E hh => (he e E hh).1) h1 h2 hl.1 hl.2.1 hl.2.2) fun _ => rfl
      · cases hE
    · cases hE
  · -- binop
    split at hE
    · rename_i o A B h1 h2 h3
      cases hE
      cases o2Of_eq h1
      exact both h.fa (arm_bin h.fa (o := o) (he _ _ h2).1 (he _ _ h3).1) fun _ => rfl
    · cases hE
  · -- compare
    split at hE
    · cases hE
    · rename_i hm
      split at hE
      · rename_i o A B h1 h2 h3
        cases hE
        cases cpOf_eq h1
        exact ⟨arm_cmp h.fa (he _ _ h2).1 (he _ _ h3).1 (by simpa using hm), arm_cmpT h.fa (he _ _ h2).1 (he _ _ h3).1 (by simpa using hm)⟩
      · cases hE
  · split at hE
    · cases hE
    · rename_i hm
      split at hE
      · rename_i o p A B C h1 h2 h3 h4 h5
        cases hE
        cases cpOf_eq h1
        cases cpOf_eq h2
        exact ⟨arm_chain h.fa (he _ _ h3).1 (he _ _ h4).1 (he _ _ h5).1 (by simpa using hm), arm_chainT h.fa (he _ _ h3).1 (he _ _ h4).1 (he _ _ h5).1 (by simpa using hm)⟩
      · cases hE
  · -- and
    simp only [Option.bind_eq_some_iff] at hE
    obtain ⟨Es, h1, h2⟩ := hE
    obtain ⟨p1, p2⟩ := and_chain h.fa he _ Es E h1 h2
    exact ⟨p1, p2.pt⟩
  · simp only [Option.bind_eq_some_iff] at hE
    obtain ⟨Es, h1, h2⟩ := hE
    obtain ⟨p1, p2⟩ := or_chain h.fa he _ Es E h1 h2
    exact ⟨p1, p2.pt⟩
  · simp only [Option.map_eq_some_iff] at hE
    obtain ⟨A, h1, rfl⟩ := hE
    exact ⟨arm_not h.fa (he _ _ h1).1, arm_notT (he _ _ h1).2⟩
  · simp only [Option.map_eq_some_iff] at hE
    obtain ⟨A, h1, rfl⟩ := hE
    exact both h.fa (arm_neg (he _ _ h1).1) fun _ => rfl
  · split at hE
    · rename_i C A B h1 h2 h3
      cases hE
      exact ⟨arm_ifE (ta := OfE L X W (evE L.G.con cf A)) (tb := OfE L X W (evE L.G.con cf B)) (he _ _ h1).2 (he _ _ h2).1 (he _ _ h3).1, arm_ifT (he _ _ h1).2 (he _ _ h2).2 (he _ _ h3).2⟩
    · cases hE
  · -- slice
    split at hE
    · rename_i A Lo Hi h1 h2 h3
      cases hE
      exact both h.fa (arm_slc h.fa (he _ _ h1).1 (ih.o lv X W ql h _ _ h2) (ih.o lv X W ql h _ _ h3)) fun _ => rfl
    · cases hE
  · split at hE
    · cases hE
    · rename_i hp
      split at hE
      · rename_i A B h1 h2
        cases hE
        exact both h.fa (arm_idx h.fa (he _ _ h1).1 (he _ _ h2).1 (by simpa using hp)) fun _ => rfl
      · cases hE
  · -- calls
    rename_i f fp args cp
    have key : PE X (.Call (.Name f fp) args [] cp) (OfE L X W (evE L.G.con cf E)) := by
      split at hE
      · rename_i elt tg it ifs scope p2
        split at hE
        · rename_i hc
          simp only [Bool.and_eq_true, beq_iff_eq] at hc
          obtain ⟨c1, rfl⟩ := hc
          exact ih.z lv X W ql h scope tg it ifs elt E c1 hE fp p2 cp
        · cases hE
      · rename_i elt tg it ifs scope gp
        split at hE
        · rename_i hc
          rw [Bool.and_eq_true, Option.isNone_iff_eq_none] at hc
          split at hE
          · rename_i k hk
            exact ih.g lv X W ql h f k scope tg it ifs elt E hk hc.1 hE fp gp cp hc.2
          · cases hE
        · cases hE
      · split at hE
        · rename_i hfi
          have hfi : f = ("isinstance" : Str) := by simpa using hfi
          subst hfi
          unfold cIsi at hE
          split at hE
          · rename_i x px t pt
            split at hE
            · rename_i hc
              simp only [Bool.and_eq_true] at hc
              obtain ⟨⟨⟨c1, c2⟩, c3⟩, c4⟩ := hc
              split at hE
              · rename_i i T h1 h2
                cases hE
                cases tyNames_eq h2
                exact arm_isi h.fa rfl T c3 c4 (arm_var rfl c1 c2 (slot_of h1))
              · cases hE
            · cases hE
          · cases hE
        · exact ih.c lv X W ql h f args E hE fp cp
    exact ⟨key, arm_truth h.fa key fun _ => rfl⟩
  · -- methods
    rename_i o m ap args cp
    split at hE
    · cases hE
    · rename_i hc
      simp only [Bool.or_eq_true, Bool.not_eq_true', not_or, Bool.not_eq_false, decide_eq_false_iff_not, Decidable.not_not] at hc
      obtain ⟨⟨c1, c2⟩, c3⟩ := hc
      split at hE
      · rename_i hm
        have hm : m = ("add" : Str) := by simpa using hm
        subst hm
        split at hE
        · rename_i a
          split at hE
          · rename_i O A h1 h2
            cases hE
            have key : PE X (.Call (.Attribute o ("add" : Str) ap) [a] [] cp) (OfE L X W (evE L.G.con cf (.sadd O A))) :=
              arm_sadd h.fa c1 c2 (he _ _ h1).1 (he _ _ h2).1 (star_of h2) ((arm_args hf [a] [A] (by simp [h2])).2.2 cp)
            exact ⟨key, arm_truth h.fa key fun _ => rfl⟩
          · cases hE
        · cases hE
      split at hE
      · rename_i M O Es h1 h2 h3
        cases hE
        cases mtNames_eq h1
        obtain ⟨p1, p2, p3⟩ := arm_args hf args Es h3
        have key : PE X (.Call (.Attribute o (mtStr M) ap) args [] cp) (OfE L X W (evE L.G.con cf (.mt M O (esOf Es)))) := by
          cases args with
          | nil =>
            simp at h3
            subst h3
            exact arm_mt0 h.fa M c1 c2 (he _ _ h2).1
          | cons e es =>
            have h3' := h3
            simp only [List.mapM_cons, bind, Option.bind_eq_some_iff, pure, Option.some.injEq] at h3'
            obtain ⟨E1, he1, Er, he2, _⟩ := h3'
            exact arm_mt h.fa M c1 c2 (he _ _ h2).1 p1 (star_of he1 _) ((arm_args hf es Er he2).2.1 cp) (p3 cp) c3
        exact ⟨key, arm_truth h.fa key fun _ => rfl⟩
      · cases hE
  · rename_i elt tg it ifs scope pos
    exact both h.fa (ih.l lv X W ql h scope tg it ifs elt E hE pos) fun _ => rfl
  · -- dict comprehensions
    rename_i k v tg it ifs scope pos
    split at hE
    · rename_i S t own Ifs K V h1 h2 h3 h4 h5 h6
      split at hE
      · rename_i hb
        cases hE
        simp only [Bool.and_eq_true] at hb
        obtain ⟨⟨b1, b2⟩, b3⟩ := hb
        have eo := own_eq h3
        subst eo
        have hi := ih.s lv X W ql h tg it S h1 b3
        exact both h.fa (arm_dc (pos := pos) h.fa hi ⟨blkOk_by b2, fun s H C cl fp => tg_blk h h2 (slots_in b1), fun s H C cl fp => (tests_of (L := L) (cf := cf) (fun e E he => (ih.e (lv - 1) _ W0 ql (h.blk s H scope (compEnvC scope cl C X.env) fp) e E he).2) ifs Ifs h4).imp fun _ _ _ q => Of0.of rfl rfl q⟩
          (fun s H C cl fp => ((ih.e (lv - 1) _ W0 ql (h.blk s H scope (compEnvC scope cl C X.env) fp) k K h5).1).imp fun _ _ _ q => Of0.of rfl rfl q)
          (fun s H C cl fp => ((ih.e (lv - 1) _ W0 ql (h.blk s H scope (compEnvC scope cl C X.env) fp) v V h6).1).imp fun _ _ _ q => Of0.of rfl rfl q) (fold_of h1)) fun _ => rfl
      · cases hE
    · cases hE
  · cases hE
end
end EV
/-! EvAL: expressions, whole (own work). -/
namespace EV
open PySem PySem.Spec PyProof.Rows L2 GenW
section
variable {L : Lw} {cf : Cf} {r0 : Nat}
theorem sn : ∀ n, Sn L cf r0 n
  | 0 => {
    e := fun lv X W ql h e E hE => by
      rw [cE.eq_def] at hE
      cases hE
    o := fun lv X W ql h e E hE => by
      cases e with
      | none =>
        rw [cEo.eq_def] at hE
        cases hE
        exact arm_po trivial
      | some e =>
        rw [cEo.eq_def] at hE
        cases hE
    c := fun lv X W ql h f args E hE => by
      rw [cCall.eq_def] at hE
      cases hE
    l := fun lv X W ql h scope tg it ifs elt E hE => by
      rw [cGen.eq_def] at hE
      cases hE
    z := fun lv X W ql h scope tg it ifs elt E _ hE => by
      rw [cGen.eq_def] at hE
      cases hE
    g := fun lv X W ql h f k scope tg it ifs elt E _ _ hE => by
      rw [cGen.eq_def] at hE
      cases hE
    r := fun lv X W ql h e S hS => by
      rw [cRng.eq_def] at hS
      cases hS
    s := fun lv X W ql h tg e S hS => by
      rw [cSr.eq_def] at hS
      cases hS }
  | n + 1 => let ih := sn n
    ⟨sn_e ih, sn_o ih, sn_c ih, sn_l ih, sn_z ih, sn_g ih, sn_r ih, sn_s ih⟩
end
end EV
/-! EvAM: statements, whole (own work). -/
namespace EV
open PySem PySem.Spec PyProof.Rows L2 GenW
section
variable {L : Lw} {cf : Cf} {r0 n : Nat} {X : Cx} {W : WX} {ql : Str}
/-- a list comprehension's parts -/
theorem lc_parts (h : Hy L cf r0 X W top ql) {m : Nat} {scope : Scope} {tg it elt : Expr} {ifs : List Expr} {E : E} (hE : cGen (L.C X.N ql) m top X.env.scope scope (relS scope X.env.scope) .list tg it ifs elt = some E) :
    ∃ S t Ifs Elt, E = .gen .list S t ((ownOf X.N scope).map (·.2)) Ifs Elt ∧ PI X tg it (OfW L X W (evSr L.G.con cf S)) ∧ Blk L X scope (ownOf X.N scope) tg ifs t Ifs cf ∧
      (∀ (s : Shared) (H : Hp) (C : Addr) (cl : List (Str × Addr)) (fp : List Addr), PE (X.blk s H scope (compEnvC scope cl C X.env) fp) elt (OfE0 L X.base X.env.code (evE L.G.con cf Elt))) ∧ ∀ x, foldedSetIterable it X.env x = pure x := by
  cases m with
  | zero => rw [cGen.eq_def] at hE; cases hE
  | succ m =>
    have ih : Sn L cf r0 m := sn m
    simp only [cGen] at hE
    split at hE
    · cases hE
    · split at hE
      · rename_i S t own Ifs Elt h1 h2 h3 h4 h5
        split at hE
        · rename_i hb
          cases hE
          simp only [Bool.and_eq_true] at hb
          obtain ⟨⟨b1, b2⟩, b3⟩ := hb
          have eo := own_eq h3
          subst eo
          exact ⟨S, t, esOf Ifs, Elt, rfl, ih.s top X W ql h tg it S h1 b3, ⟨blkOk_by b2, fun s H C cl fp => tg_blk h h2 (slots_in b1), fun s H C cl fp => (tests_of (L := L) (cf := cf) (fun e E he => (ih.e (top - 1) _ W0 ql (h.blk s H scope (compEnvC scope cl C X.env) fp) e E he).2) ifs Ifs h4).imp fun _ _ _ q => Of0.of rfl rfl q⟩,
            fun s H C cl fp => ((ih.e (top - 1) _ W0 ql (h.blk s H scope (compEnvC scope cl C X.env) fp) elt Elt h5).1).imp fun _ _ _ q => Of0.of rfl rfl q, fold_of h1⟩
        · cases hE
      · cases hE
theorem lc_inv {C : Cc} {m lv : Nat} {sc scope : Scope} {elt : Expr} {gs : List Comprehension} {vp : Pos} {E : E} (h : cE C m lv sc (.ListComp elt gs scope vp) = some E) : ∃ m' tg it ifs, gs = [⟨tg, it, ifs, 0⟩] ∧ cGen C m' lv sc scope (relS scope sc) .list tg it ifs elt = some E := by
  cases m with
  | zero => rw [cE.eq_def] at h; cases h
  | succ m =>
    rw [cE.eq_def] at h
    simp only at h
    split at h
    case h_21 e elt' tg it ifs scope' p' heq =>
      cases heq
      exact ⟨m, tg, it, ifs, rfl, h⟩
    all_goals first
      | (rename_i heq; cases heq; done)
      | cases h
theorem dc_inv {C : Cc} {m lv : Nat} {sc scope : Scope} {k v : Expr} {gs : List Comprehension} {vp : Pos} {E : E} (h : cE C m lv sc (.DictComp k v gs scope vp) = some E) : ∃ tg it ifs, gs = [⟨tg, it, ifs, 0⟩] := by
  cases m with
  | zero => rw [cE.eq_def] at h; cases h
  | succ m =>
    rw [cE.eq_def] at h
    simp only at h
    split at h
    case h_22 e k' v' tg it ifs scope' p' heq =>
      cases heq
      exact ⟨tg, it, ifs, rfl⟩
    all_goals first
      | (rename_i heq; cases heq; done)
      | cases h

/-- a dict comprehension's parts -/
theorem dc_parts (h : Hy L cf r0 X W top ql) {m : Nat} {scope : Scope} {tg it k v : Expr} {ifs : List Expr} {vp : Pos} {E : E} (hE : cE (L.C X.N ql) m top X.env.scope (.DictComp k v [⟨tg, it, ifs, 0⟩] scope vp) = some E) :
    ∃ S t Ifs K V, E = .dgen S t ((ownOf X.N scope).map (·.2)) Ifs K V ∧ PI X tg it (OfW L X W (evSr L.G.con cf S)) ∧ Blk L X scope (ownOf X.N scope) tg ifs t Ifs cf ∧
      (∀ (s : Shared) (H : Hp) (C : Addr) (cl : List (Str × Addr)) (fp : List Addr), PE (X.blk s H scope (compEnvC scope cl C X.env) fp) k (OfE0 L X.base X.env.code (evE L.G.con cf K))) ∧
      (∀ (s : Shared) (H : Hp) (C : Addr) (cl : List (Str × Addr)) (fp : List Addr), PE (X.blk s H scope (compEnvC scope cl C X.env) fp) v (OfE0 L X.base X.env.code (evE L.G.con cf V))) ∧ ∀ x, foldedSetIterable it X.env x = pure x := by
  cases m with
  | zero => rw [cE.eq_def] at hE; cases hE
  | succ m =>
    have ih : Sn L cf r0 m := sn m
    rw [cE.eq_def] at hE
    simp only at hE
    split at hE
    · rename_i S t own Ifs K V h1 h2 h3 h4 h5 h6
      split at hE
      · rename_i hb
        cases hE
        simp only [Bool.and_eq_true] at hb
        obtain ⟨⟨b1, b2⟩, b3⟩ := hb
        have eo := own_eq h3
        subst eo
        exact ⟨S, t, esOf Ifs, K, V, rfl, ih.s top X W ql h tg it S h1 b3, ⟨blkOk_by b2, fun s H C cl fp => tg_blk h h2 (slots_in b1), fun s H C cl fp => (tests_of (L := L) (cf := cf) (fun e E he => (ih.e (top - 1) _ W0 ql (h.blk s H scope (compEnvC scope cl C X.env) fp) e E he).2) ifs Ifs h4).imp fun _ _ _ q => Of0.of rfl rfl q⟩,
          fun s H C cl fp => ((ih.e (top - 1) _ W0 ql (h.blk s H scope (compEnvC scope cl C X.env) fp) k K h5).1).imp fun _ _ _ q => Of0.of rfl rfl q,
          fun s H C cl fp => ((ih.e (top - 1) _ W0 ql (h.blk s H scope (compEnvC scope cl C X.env) fp) v V h6).1).imp fun _ _ _ q => Of0.of rfl rfl q, fold_of h1⟩
      · cases hE
    · cases hE
/-- name = e -/
theorem st_set (h : Hy L cf r0 X W top ql) (hfn : ∀ x, X.fn x = true) {m i : Nat} {x : Str} {p pos : Pos} {v : Expr} {E : E} (hx : locB X.env.scope x = true) (hi : slot X.N x = some i) (hE : cE (L.C X.N ql) m top X.env.scope v = some E) : PS X (.Assign [.Name x p] v pos) (OfS L X W (evS L.G.con cf (.set i E))) := by
  have pe := (sn (L := L) (cf := cf) (r0 := r0) m).e top X W ql h v E hE
  have plain : swapsWith v (some (.Name x p)) pos.line X.env = pure false → PS X (.Assign [.Name x p] v pos) (OfS L X W (evS L.G.con cf (.set i E))) := fun hs => arms_set h.fa (slot_of hi) (loc_of hx) (.inl (hfn x)) pe.1 hs
  cases v with
  | ListComp elt gs scope vp =>
    obtain ⟨m', tg, it, ifs, rfl, hg⟩ := lc_inv hE
    cases hb : (X.env.blockKind == .function && X.env.kindOf x == some .local && p.line == vp.line && !(scope.names.any fun (n, k) => n == x && (k == .local || k == .cell))) with
    | false =>
      refine plain ?_
      rw [← hb]
      rfl
    | true =>
      obtain ⟨S, t, Ifs, Elt, rfl, pi, b, el, fo⟩ := lc_parts h hg
      have hl : X.env.scope.names.lookup x = some .local := by
        simp only [Bool.and_eq_true, beq_iff_eq] at hb
        exact hb.1.1.2
      refine (arm_setLc (W := W) h.fa (slot_of hi) hl ?_ pi b el fo).imp fun D σ H q => of_set q
      rw [← hb]
      rfl
  | DictComp k v gs scope vp =>
    obtain ⟨tg, it, ifs, rfl⟩ := dc_inv hE
    cases hb : (X.env.blockKind == .function && X.env.kindOf x == some .local && p.line == vp.line && !(scope.names.any fun (n, k) => n == x && (k == .local || k == .cell))) with
    | false =>
      refine plain ?_
      rw [← hb]
      rfl
    | true =>
      obtain ⟨S, t, Ifs, K, V, rfl, pi, b, ke, ve, fo⟩ := dc_parts h hE
      have hl : X.env.scope.names.lookup x = some .local := by
        simp only [Bool.and_eq_true, beq_iff_eq] at hb
        exact hb.1.1.2
      refine (arm_setDc (W := W) h.fa (slot_of hi) hl ?_ pi b ke ve fo).imp fun D σ H q => of_set q
      rw [← hb]
      rfl
  | SetComp elt gs scope vp =>
    cases m with
    | zero => rw [cE.eq_def] at hE; cases hE
    | succ m =>
      rw [cE.eq_def] at hE
      cases hE
  | _ => exact plain (by rfl)
end
end EV
/-! EvAN: stores apart: the names (own work). -/
namespace EV
open PySem PySem.Spec PyProof.Rows L2 GenW
theorem par2 {kd : Str → Option NameKind} {bk : ScopeKind} {x y : Str} {px py : Pos} {vs : List Expr} {ns : List Str} (h : swapK kd bk [.Name x px, .Name y py] vs = some (some ns)) : ns = [x, y] ∧ kd x = some .local ∧ kd y = some .local ∧ x ≠ y := by
  unfold swapK at h
  split at h
  · cases h
  · split at h
    · cases h
    · simp only [List.filterMap_cons, List.filterMap_nil] at h
      by_cases hx : (kd x == some NameKind.local && px.line == (Option.map (fun (x : Expr) => x.pos.line) [Expr.Name x px, Expr.Name y py].head?).getD 0) = true
      · by_cases hy : (kd y == some NameKind.local && py.line == (Option.map (fun (x : Expr) => x.pos.line) [Expr.Name x px, Expr.Name y py].head?).getD 0) = true
        · simp only [hx, hy, if_true] at h
          have hx1 : kd x = some .local := by
            rw [Bool.and_eq_true, beq_iff_eq] at hx
            exact hx.1
          have hy1 : kd y = some .local := by
            rw [Bool.and_eq_true, beq_iff_eq] at hy
            exact hy.1
          split at h
          · cases h
          · rename_i hc
            split at h
            · cases h
            · split at h
              · cases h
              · cases h
                refine ⟨rfl, hx1, hy1, fun e => ?_⟩
                subst e
                apply hc
                simp [List.eraseDups_cons]
        · simp only [hx, hy, if_true, if_false] at h
          simp at h
      · by_cases hy : (kd y == some NameKind.local && py.line == (Option.map (fun (x : Expr) => x.pos.line) [Expr.Name x px, Expr.Name y py].head?).getD 0) = true
        · simp only [hx, hy, if_true, if_false] at h
          simp at h
        · simp only [hx, hy, if_true, if_false] at h
          simp at h
end EV
/-! EvAO: statements, whole (own work). -/
namespace EV
open PySem PySem.Spec PyProof.Rows L2 GenW
section
variable {L : Lw} {cf : Cf} {r0 : Nat} {X : Cx} {W : WX} {ql : Str}
theorem sw_sub {o i : Expr} {p : Pos} {l : Nat} {env : PySem.Env} : ∀ v, swapsWithSole [.Subscript o i p] v l env = pure false := fun v => by cases v <;> rfl
theorem par3 {kd : Str → Option NameKind} {bk : ScopeKind} {x y z : Str} {px py pz : Pos} {vs : List Expr} {ns : List Str} (h : swapK kd bk [.Name x px, .Name y py, .Name z pz] vs = some (some ns)) : ns = [x, y, z] ∧ kd x = some .local ∧ kd y = some .local ∧ kd z = some .local ∧ x ≠ y ∧ x ≠ z ∧ y ≠ z := by
  unfold swapK at h
  split at h
  · cases h
  · split at h
    · cases h
    · simp only [List.filterMap_cons, List.filterMap_nil] at h
      generalize (Option.map (fun (x : Expr) => x.pos.line) [Expr.Name x px, Expr.Name y py, Expr.Name z pz].head?).getD 0 = ln at h
      cases hx : (kd x == some NameKind.local && px.line == ln) <;> cases hy : (kd y == some NameKind.local && py.line == ln) <;> cases hz : (kd z == some NameKind.local && pz.line == ln) <;> simp only [hx, hy, hz, if_true, if_false, Bool.false_eq_true] at h
      case true.true.true =>
        rw [Bool.and_eq_true, beq_iff_eq] at hx hy hz
        split at h
        · cases h
        · rename_i hc
          split at h
          · cases h
          · split at h
            · cases h
            · cases h
              refine ⟨rfl, hx.1, hy.1, hz.1, fun e => ?_, fun e => ?_, fun e => ?_⟩
              · subst e
                apply hc
                by_cases e2 : z = x <;> simp [List.eraseDups_cons, e2]
              · subst e
                apply hc
                by_cases e2 : y = x <;> simp [List.eraseDups_cons, e2]
              · subst e
                apply hc
                by_cases e2 : y = x <;> simp [List.eraseDups_cons, e2]
      all_goals (exfalso; simp at h)
theorem slot_inj {N : List Str} {x y : Str} {i : Nat} (h1 : slot N x = some i) (h2 : slot N y = some i) : x = y := by
  have e1 := slot_of h1
  have e2 := slot_of h2
  rw [e1] at e2
  exact Option.some.inj e2
/-- a, b = x, y, stored apart -/
theorem st_par2 (h : Hy L cf r0 X W top ql) {m i j : Nat} {x y : Str} {px py pt pos : Pos} {a b : Expr} {A B : E} {kt k2 : Nat} {pt2 : Pos} {ns : List Str} (hw : swapQ X.env.scope [.Name x px, .Name y py] [a, b] = some (some ns)) (hi : slot X.N x = some i) (hj : slot X.N y = some j)
    (hA : cE (L.C X.N ql) m top X.env.scope a = some A) (hB : cE (L.C X.N ql) m top X.env.scope b = some B) : PS X (.Assign [.Tuple [.Name x px, .Name y py] kt pt] (.Tuple [a, b] k2 pt2) pos) (OfS L X W (evS L.G.con cf (.par [i, j] (.cons A (.cons B .nil))))) := by
  have he := (sn (L := L) (cf := cf) (r0 := r0) m).e top X W ql h
  obtain ⟨e1, e2, e3, e4⟩ := par2 (show swapK X.env.kindOf (blkK X.env.scope) _ _ = _ from hw)
  subst e1
  have pa : PA X [a, b] (OfA L X W (evEs L.G.con cf (.cons A (.cons B .nil)))) := (arm_args (f := cE (L.C X.N ql) m top X.env.scope) (fun e E hh => ⟨(he e E hh).1, star_of hh⟩) [a, b] [A, B] (by simp [hA, hB])).1
  exact (ps_par h.fa.calm h.fa.nd (slot_of hi) (slot_of hj) (fun z => e4 (slot_inj hi (z ▸ hj))) e2 e3 pa (swapQ_some rfl hw)).imp fun D σ H q => set2_of q
theorem snS (h : Hy L cf r0 X W top ql) (hfn : ∀ x, X.fn x = true) (hp : PassesOwn (model X.prog X.w) X.A X.env X.xe) : ∀ (n : Nat), (∀ st S, cS (L.C X.N ql) n X.env.scope st = some S → PS X st (OfS L X W (evS L.G.con cf S))) ∧ ∀ sts Ss, sts.mapM (cS (L.C X.N ql) n X.env.scope) = some Ss → PSs X sts (OfS L X W (evSs L.G.con cf (ssOf Ss))) := by
  have htg : ∀ x, locB X.env.scope x = true → L2.Loc X.env.scope x ∧ (X.fn x = true ∨ X.env.scope.names.lookup x = some .local) := fun x hx => ⟨loc_of hx, .inl (hfn x)⟩
  have lst : ∀ n, (∀ st S, cS (L.C X.N ql) n X.env.scope st = some S → PS X st (OfS L X W (evS L.G.con cf S))) → ∀ sts Ss, sts.mapM (cS (L.C X.N ql) n X.env.scope) = some Ss → PSs X sts (OfS L X W (evSs L.G.con cf (ssOf Ss))) := fun n hs => by
    intro sts
    induction sts with
    | nil =>
      intro Ss hS
      simp at hS
      subst hS
      exact arms_nil
    | cons st sts ihs =>
      intro Ss hS
      simp only [List.mapM_cons, bind, Option.bind_eq_some_iff, pure, Option.some.injEq] at hS
      obtain ⟨S1, h1, Sr, h2, rfl⟩ := hS
      exact arms_cons (hs st S1 h1) (ihs Sr h2)
  intro n
  induction n with
  | zero =>
    have key : ∀ st S, cS (L.C X.N ql) 0 X.env.scope st = some S → PS X st (OfS L X W (evS L.G.con cf S)) := fun st S hS => by
      rw [cS.eq_def] at hS
      cases hS
    exact ⟨key, lst 0 key⟩
  | succ n ih =>
    obtain ⟨ih1, ih2⟩ := ih
    have sE := (sn (L := L) (cf := cf) (r0 := r0) n).e top X W ql h
    have key : ∀ st S, cS (L.C X.N ql) (n + 1) X.env.scope st = some S → PS X st (OfS L X W (evS L.G.con cf S)) := by
      intro st S hS
      rw [cS.eq_def] at hS
      simp only at hS
      split at hS
      · -- name = e
        split at hS
        · rename_i hb
          rw [Bool.and_eq_true] at hb
          split at hS
          · rename_i i E h1 h2
            cases hS
            exact st_set h hfn hb.1 h1 h2
          · cases hS
        · cases hS
      · -- tuples of tuples
        rename_i ts k p vs k2 p2 pos
        split at hS
        · cases hS
        · rename_i ns hw
          split at hS
          · rename_i x px y py a b
            split at hS
            · rename_i i j A B h1 h2 h3 h4
              cases hS
              exact st_par2 h hw h1 h2 h3 h4
            · cases hS
          · rename_i x px y py z pz a b c
            split at hS
            · rename_i i j l A B C h1 h2 h3 h4 h5 h6
              cases hS
              obtain ⟨e1, e2, e3, e4, e5, e6, e7⟩ := par3 (show swapK X.env.kindOf (blkK X.env.scope) _ _ = _ from hw)
              subst e1
              have pa : PA X [a, b, c] (OfA L X W (evEs L.G.con cf (.cons A (.cons B (.cons C .nil))))) := (arm_args (f := cE (L.C X.N ql) n top X.env.scope) (fun e E hh => ⟨(sE e E hh).1, star_of hh⟩) [a, b, c] [A, B, C] (by simp [h4, h5, h6])).1
              exact (ps_par3 h.fa.calm h.fa.nd (slot_of h1) (slot_of h2) (slot_of h3) (fun q => e5 (slot_inj h1 (q ▸ h2))) (fun q => e6 (slot_inj h1 (q ▸ h3))) (fun q => e7 (slot_inj h2 (q ▸ h3))) e2 e3 e4 pa (swapQ_some rfl hw)).imp fun D σ H q => set3_of q
            · cases hS
          · cases hS
        · rename_i hw
          split at hS
          · rename_i t E h1 h2
            cases hS
            exact arms_unp (C := L.C X.N ql) h.fa rfl htg h1 (sE _ _ h2).1 (swapQ_none rfl hw)
          · cases hS
      · rename_i ts k p v pos hnt
        split at hS
        · rename_i t E h1 h2
          cases hS
          refine arms_unp (C := L.C X.N ql) h.fa rfl htg h1 (sE _ _ h2).1 ?_
          cases v <;> first
            | rfl
            | (exact absurd rfl (hnt _ _ _))
        · cases hS
      · split at hS
        · cases hS
        · rename_i hpx
          split at hS
          · rename_i O I V h1 h2 h3
            cases hS
            exact arms_seti h.fa (sE _ _ h1).1 (sE _ _ h2).1 (sE _ _ h3).1 (by simpa using hpx) (sw_sub _)
          · cases hS
      · rename_i v pos
        split at hS
        · cases hS
        · rename_i hc
          simp only [Option.map_eq_some_iff] at hS
          obtain ⟨E, h1, rfl⟩ := hS
          refine arms_expr (sE _ _ h1).1 ?_
          cases v <;> first
            | rfl
            | (exact absurd rfl hc)
      · simp only [Option.map_eq_some_iff] at hS
        obtain ⟨E, h1, rfl⟩ := hS
        exact arms_ret (sE _ _ h1).1
      · cases hS
        exact arms_ret0
      · split at hS
        · rename_i C A B h1 h2 h3
          cases hS
          exact arms_if (sE _ _ h1).2 (ih2 _ _ h2) (ih2 _ _ h3)
        · cases hS
      · rename_i t it b pos
        split at hS
        · rename_i T S B h1 h2 h3
          split at hS
          · rename_i ht
            cases hS
            exact arms_for h.fa hp ((sn (L := L) (cf := cf) (r0 := r0) n).s top X W ql h t it S h2 ht) (arm_tg (X := X) (P := fun _ => True) h.fa.K h.fa.nd h.fa.calm (C := L.C X.N ql) rfl htg n t T h1 (fun _ _ => trivial)).1 (ih2 _ _ h3) (fold_of h2)
          · cases hS
        · cases hS
      · split at hS
        · rename_i C B h1 h2
          cases hS
          exact arms_while hp (sE _ _ h1).2 (ih2 _ _ h2)
        · cases hS
      · cases hS
        exact arms_brk
      · cases hS
        exact arms_cont
      · cases hS
        exact arms_pass
      · cases hS
        exact arms_never
      · cases hS
    exact ⟨key, lst (n + 1) key⟩
end
end EV
/-! EvAQ: a program's defs, constants and lambdas, as the evaluator wants them (own work). -/
namespace EV
open PySem
mutual
def lamsE : Nat → Expr → List (Nat × Nat)
  | 0, _ => []
  | n + 1, e => match e with
    | .BoolOp _ vs _ => vs.flatMap (lamsE n)
    | .BinOp a _ b _ => lamsE n a ++ lamsE n b
    | .UnaryOp _ a _ => lamsE n a
    | .Lambda _ b _ p => (p.line, p.col) :: lamsE n b
    | .IfExp a b c _ => lamsE n a ++ lamsE n b ++ lamsE n c
    | .Dict ks vs _ => (ks.flatMap fun | some k => lamsE n k | none => []) ++ vs.flatMap (lamsE n)
    | .ListComp e gs _ _ => lamsE n e ++ gs.flatMap (lamsC n)
    | .SetComp e gs _ _ => lamsE n e ++ gs.flatMap (lamsC n)
    | .GeneratorExp e gs _ _ => lamsE n e ++ gs.flatMap (lamsC n)
    | .DictComp k v gs _ _ => lamsE n k ++ lamsE n v ++ gs.flatMap (lamsC n)
    | .Compare a _ cs _ => lamsE n a ++ cs.flatMap (lamsE n)
    | .Call f as _ _ => lamsE n f ++ as.flatMap (lamsE n)
    | .Attribute o _ _ => lamsE n o
    | .Subscript a b _ => lamsE n a ++ lamsE n b
    | .Slice a b _ _ => (match a with | some a => lamsE n a | none => []) ++ (match b with | some b => lamsE n b | none => [])
    | .List es _ => es.flatMap (lamsE n)
    | .Tuple es _ _ => es.flatMap (lamsE n)
    | _ => []
def lamsC : Nat → Comprehension → List (Nat × Nat)
  | 0, _ => []
  | n + 1, ⟨t, i, ifs, _⟩ => lamsE n t ++ lamsE n i ++ ifs.flatMap (lamsE n)
end
def lamsS : Nat → Stmt → List (Nat × Nat)
  | 0, _ => []
  | n + 1, st => match st with
    | .Assign ts v _ => ts.flatMap (lamsE n) ++ lamsE n v
    | .Expr v _ => lamsE n v
    | .Return (some v) _ => lamsE n v
    | .If c a b _ => lamsE n c ++ a.flatMap (lamsS n) ++ b.flatMap (lamsS n)
    | .For t i b _ _ => lamsE n t ++ lamsE n i ++ b.flatMap (lamsS n)
    | .While c b _ _ => lamsE n c ++ b.flatMap (lamsS n)
    | _ => []
abbrev Def := Str × Arguments × List Stmt × Scope
def defsOf (b : List Stmt) : List Def := b.filterMap fun
  | .FunctionDef n a b _ _ _ sc _ _ _ => some (n, a, b, sc)
  | _ => none
def constD : Expr → Option D
  | .Constant (.int i) _ _ => some (.int i)
  | .Constant (.str x) _ _ => some (.str x)
  | _ => none
def consOf (b : List Stmt) : List (Str × D) := b.filterMap fun
  | .Assign [.Name x _] (.Constant (.int i) _ _) _ => some (x, .int i)
  | .Assign [.Name x _] (.Constant (.str i) _ _) _ => if x == ("__name__" : Str) then none else some (x, .str i)
  | .Assign [.Name x _] (.Tuple es _ _) _ => (es.mapM constD).map fun ds => (x, .tup ds)
  | _ => none
def qlOf (f : Str) : Str := f ++ (".<locals>." : Str)
/-- the lambdas' names by their places -/
def lamOf (ds : List Def) : List ((Nat × Nat) × Str) := ds.flatMap fun (f, _, b, _) => (b.flatMap (lamsS 60)).map fun p => (p, qlOf f ++ ("<lambda>" : Str))
def nmOf (l : List ((Nat × Nat) × Str)) (a b : Nat) : Option Str := l.lookup (a, b)
def ccOf (fns cons : List Str) (lam : Nat → Nat → Option Str) (d : Def) : Cc := ⟨allNames d.2.1 d.2.2.2 d.2.2.1, fns, cons, lam, qlOf d.1⟩
def fnOf (fns cons : List Str) (lam : Nat → Nat → Option Str) (d : Def) : Option Fn := (cBody (ccOf fns cons lam d) d.2.2.2 d.2.2.1).map fun ss => ⟨d.2.1.args.length, (allNames d.2.1 d.2.2.2 d.2.2.1).length, ss⟩
/-- a def that no run comes to -/
def Fn.dead : Fn := ⟨0, 0, .cons .never .nil⟩
def fnOr (fns cons : List Str) (lam : Nat → Nat → Option Str) (d : Def) : Fn := match fnOf fns cons lam d with
  | some f => f
  | none => Fn.dead
end EV
/-! EvAP: defs run (own work). -/
namespace EV
open PySem PySem.Spec PyProof.Rows L2 GenW
/-- a def as the model has it, and as the evaluator has it -/
structure FnIs (L : Lw) (base : Heap) (k : Nat) (fn : Fn) : Prop where
  it : ∃ (name qual : Str) (params : Arguments) (body : List Stmt) (scope : Scope) (kV doc pm ct oc : Value) (an od : Option Addr) (osl : Array (Option Value)) (c Pt : Addr) (N : List Str),
    L.G.K.lookup (L.G.fad k) = some ⟨oc, od, .func (PySem.W.fnOf name qual params body scope .none kV doc pm an (.ref c) ct), osl⟩ ∧ PySem.W.codeIn L.G.K (.ref c) qual = true ∧ FnScope N (params.args.map (·.arg)) scope ∧
    params.posonlyargs = [] ∧ params.vararg = none ∧ params.kwonlyargs = [] ∧ params.kwarg = none ∧ (params.args.map (·.arg)).Nodup ∧ fn.np = (params.args.map (·.arg)).length ∧ fn.ns = N.length ∧ fn.np ≤ fn.ns ∧
    cBody (L.C N (qual ++ ".<locals>.")) scope body = some fn.body ∧ (c, Pt) ∈ L.G.tabs ∧ PySem.W.CodeHd base c Pt
section
variable {L : Lw} {P : Program} {w : World} {mg : Str → Option Value} {base : Heap}
theorem paired_get {α γ : Type} {R : α → γ → Prop} : ∀ {xs : List α} {ys : List γ}, Paired R xs ys → ∀ (i : Nat) (x : α), xs[i]? = some x → ∃ y, ys[i]? = some y ∧ R x y
  | _, _, .nil, i, x, h => by simp at h
  | _, _, .cons r t, 0, x, h => by
    simp at h
    subst h
    exact ⟨_, rfl, r⟩
  | _, _, .cons r t, i + 1, x, h => by
    obtain ⟨y, e, q⟩ := paired_get t i x (by simpa using h)
    exact ⟨y, by simpa using e, q⟩
theorem paired_len {α γ : Type} {R : α → γ → Prop} : ∀ {xs : List α} {ys : List γ}, Paired R xs ys → xs.length = ys.length
  | _, _, .nil => rfl
  | _, _, .cons _ t => congrArg (· + 1) (paired_len t)
/-- what calls need of the room -/
def roomN : Nat → Nat
  | 0 => 0
  | n + 1 => roomN n + 6 * top + 1
/-- what holds of the law's names -/
structure Wf (P : Program) (w : World) (L : Lw) (mg : Str → Option Value) (base : Heap) (fns : List Fn) : Prop where
  pg : P = L.G.prog
  wd : w = L.G.w
  own : ∀ (i : Nat) (f : Str), L.fnN[i]? = some f → mg f = some (.ref (L.G.fad i)) ∧ PySem.W.keepIn L.G.K (.ref (L.G.fad i)) = true
  kp : ∀ k : Nat, PySem.W.keepIn L.G.K (.ref (L.G.fad k)) = true
  con : ∀ (i : Nat) (x : Str), L.conN[i]? = some x → ∃ d u v, L.G.con[i]? = some d ∧ mg x = some u ∧ RelV v u ∧ d.isClo = false ∧ ∀ H β, RV L.G H β d v
  bt : ∀ x ∈ btNames, mg x = none
  bm : ∃ P0, base.BuiltinsAt mg P0
  fn : ∀ (k : Nat) (f : Fn), fns[k]? = some f → f = Fn.dead ∨ FnIs L base k f
variable {fns : List Fn}
theorem fns_ok (wf : Wf P w L mg base fns) : ∀ (n : Nat) (A : Around), Room (roomN n) A → A.guards = some [] → FnsOk L (callN L.G.con fns n) P w mg base A
  | 0, A, _, _ => ⟨fun k ds vs us S β outer s H Q E _ _ _ _ h => h.elim, fun ps body ρ f ds vs us S β outer s H Q E _ _ _ _ _ h => h.elim⟩
  | n + 1, A, hr, hg => by
    have ih := fns_ok wf n
    have hr : Room (roomN n + 6 * top + 1) A := hr
    refine ⟨fun k ds vs us S β outer s H Q E e0 at_ rc rv h => ?_, fun ps body ρ f ds vs us S β outer s H Q E e0 at_ hc rs rv h => ?_⟩
    · simp only [callN] at h
      cases hf : fns[k]? with
      | none => rw [hf] at h; exact h.elim
      | some fn =>
        rw [hf] at h
        by_cases hl : ds.length = fn.np
        · simp only [hl, if_true] at h
          rcases wf.fn k fn hf with rfl | isf
          · exact h.elim
          obtain ⟨name, qual, params, body, scope, kV, doc, pm, ct, oc, an, od, osl, c, Pt, N, f1, f2, f3, f4, f5, f6, f7, f8, f9, f10, f11, f12, f13, f14⟩ := isf.it
          have lv := paired_len rc
          have lu := rv.length
          refine LamX.run_ofS (k := roomN n + 6 * top) f1 f2 f3 hr e0 (.of_eq (bind_plain f4 f5 f6 f7 rfl (show us.length = (params.args.map (·.arg)).length by omega) f8)) rv (by omega) fun hr' => ?_
          have hy : Hy L (callN L.G.con fns n) (roomN n) (cxOf (L2.CX P w) P w L.G.K mg base N qual scope (L.G.fad k) (.ref c) A outer s H E) (fun cls d _ H' => E cls d H') top (qual ++ ".<locals>.") := by
            refine ⟨⟨rfl, f3.nd, rfl, ?_, hg, wf.own, wf.kp, wf.con, wf.bt, wf.bm, wf.pg, wf.wd⟩, L2.takes_of rfl rfl rfl rfl, ih, hr'.mono (by omega), Nat.le_refl _, fun _ => rfl⟩
            have := hr'.un
            show (A.deeper (envOfC qual scope s.heap.objs.size (L.G.fad k) (.ref c))).units + 100 < _
            omega
          unfold cBody at f12
          simp only [Option.map_eq_some_iff] at f12
          obtain ⟨Ss, hSs, eSs⟩ := f12
          have ps := (snS hy (fun _ => rfl) (L2.passes_of rfl) 40).2 body Ss hSs
          rw [eSs] at ps
          refine ⟨_, ps, startE fn.ns ds, S, β, ⟨?_, ⟨c, Pt, rfl, at_.tb.base (c, Pt) f13, .inl f14⟩, fun i d e => ?_⟩, at_, RW.step (h.mono (W' := KX L.G L.cad H β fun c d H' => ∀ _ : L2.St, E c d H') (fun _ _ q => q) fun _ _ q c d H' β' g a x _ => q c d H' β' g a x) fun fl S1 h1 H' β' g' at' => ?_⟩
          · show (ds.map some ++ List.replicate (fn.ns - ds.length) none).length = (vs.map some ++ List.replicate (N.length - vs.length) none).length
            simp only [List.length_append, List.length_map, List.length_replicate]
            omega
          · have e : (ds.map some ++ List.replicate (fn.ns - ds.length) none)[i]? = some (some d) := e
            by_cases hi : i < ds.length
            · rw [List.getElem?_append_left (by simpa using hi), List.getElem?_map] at e
              cases ed : ds[i]? with
              | none => rw [ed] at e; cases e
              | some d' =>
                rw [ed] at e
                cases e
                obtain ⟨v, ev, rcv⟩ := paired_get rc i d ed
                refine ⟨v, ?_, rcv.imp (fun q => q) fun q => ⟨rfl, q⟩⟩
                show (vs.map some ++ List.replicate (N.length - vs.length) none)[i]? = _
                rw [List.getElem?_append_left (by rw [List.length_map, ← lv]; exact hi), List.getElem?_map, ev]
                rfl
            · rw [List.getElem?_append_right (by simpa using hi)] at e
              have := List.getElem?_eq_some_iff.mp e
              obtain ⟨_, e2⟩ := this
              rw [List.getElem_replicate] at e2
              cases e2
          · cases fl with
            | nx ρ => exact fun _ _ => h1 .non H' β' g' at' .none
            | bk ρ => exact h1.elim
            | ct ρ => exact h1.elim
            | rt d => exact fun v r => h1 v H' β' g' at' r
        · simp only [hl, if_false] at h
          exact h.elim
    · simp only [callN] at h
      obtain ⟨N, m, c, Pt, pm, ctv, params, be, scope, q, cells, lam⟩ := hc
      cases hset : setAll ps ds ρ with
      | none => rw [hset] at h; exact h.elim
      | some ρ' =>
        rw [hset] at h
        obtain ⟨sc, hok⟩ := lam.ok
        obtain ⟨ql, hcE⟩ := lam.comp
        refine lam_run (cf := callN L.G.con fns n) lam (lamF_of hok) (hr.mono (j := roomN n + 6 * 2 + 1) (by rw [top3]; omega)) e0 at_ rs rv hset (fun hr' => ?_) h
        have hy : Hy L (callN L.G.con fns n) (roomN n) (lx P w L.G.K mg base N A outer s H E (lEnv q scope s.heap.objs.size f c cells)) (fun cls d _ H' => E cls d H') 2 ql := by
          refine ⟨⟨rfl, lam.nd, rfl, ?_, hg, wf.own, wf.kp, wf.con, wf.bt, wf.bm, wf.pg, wf.wd⟩, L2.takes_of rfl rfl rfl rfl, ih, hr'.mono (by omega), by decide, fun e => absurd e (by decide)⟩
          have := hr'.un
          show (A.deeper (lEnv q scope s.heap.objs.size f c cells)).units + 100 < _
          omega
        exact ((sn (L := L) (cf := callN L.G.con fns n) (r0 := roomN n) m).e 2 _ _ ql hy be body hcE).1
end
end EV
/-! EvAR: from the head to the law's end (own work). -/
namespace EV
open PySem PySem.Spec PyProof.Rows L2
/-! ### the written part: no list, no empty table -/
def isLstO : Obj → Bool
  | ⟨.type c, _, .seq _ _, _⟩ => decide (c = "list")
  | _ => false
def frL (g : Addr → Option Obj) (as : List Addr) : PySem.W.Frag := (He.frG g as).filter fun q => !(He.emptyTab q.2 || isLstO q.2)
theorem frL_at {g : Addr → Option Obj} {as : List Addr} {a : Addr} {o : Obj} (h : (frL g as).lookup a = some o) : g a = some o ∧ He.emptyTab o = false ∧ isLstO o = false := by
  obtain ⟨h1, h2⟩ := List.mem_filter.mp (He.lookup_mem h)
  have h3 : (He.emptyTab o || isLstO o) = false := by simpa using h2
  exact ⟨He.frG_mem h1, (Bool.or_eq_false_iff.mp h3).1, (Bool.or_eq_false_iff.mp h3).2⟩
structure SaysL (fa : List He.Fa) (fn : List He.DefD) (tf : List He.Defn) (tc : List (Str × List He.Dv)) (h : Heap) (K : PySem.W.Frag) : Prop where
  d : He.SaysD fa fn K
  hd : ∀ p ∈ tf, PySem.W.codeHdIn K (He.cT K p).1 (He.cT K p).2 = true
  em : ∀ p ∈ tf, h.get? (He.cT K p).2 = some { cls := .none, data := .fields #[] }
  nl : ∀ a o, K.lookup a = some o → He.emptyTab o = false ∧ isLstO o = false
  tc : ∀ q ∈ tc, He.tupB K q.1 q.2 = true
abbrev AlL : Type := He.AlD × Bool
def obsL (n : Nat) (fa : List He.Fa) (fn : List He.DefD) (tf : List He.Defn) (tc : List (Str × List He.Dv)) (g : Addr → Option Obj) : AlL :=
  (fun K : PySem.W.Frag => (He.obsD fa fn K, He.tabsB g tf K && tc.all fun q => He.tupB K q.1 q.2)) (frL g (He.asD g n))
theorem saysL_of {n : Nat} {fa : List He.Fa} {fn : List He.DefD} {tf : List He.Defn} {tc : List (Str × List He.Dv)} {h : Heap} (e : obsL n fa fn tf tc h.get? = (He.valD fn, true)) : SaysL fa fn tf tc h (frL h.get? (He.asD h.get? n)) := by
  have e1 : He.obsD fa fn (frL h.get? (He.asD h.get? n)) = He.valD fn := congrArg Prod.fst e
  have e3 : (He.tabsB h.get? tf (frL h.get? (He.asD h.get? n)) && tc.all fun q => He.tupB (frL h.get? (He.asD h.get? n)) q.1 q.2) = true := congrArg Prod.snd e
  obtain ⟨e2, e4⟩ := He.ba e3
  have key := fun p hp => He.ba (List.all_eq_true.mp e2 p hp)
  refine ⟨e1, fun p hp => (key p hp).1, fun p hp => ?_, fun a o h => (frL_at h).2, fun q hq => List.all_eq_true.mp e4 q hq⟩
  have z := (key p hp).2
  cases q : h.get? (He.cT (frL h.get? (He.asD h.get? n)) p).2 with
  | none => rw [q] at z; cases z
  | some o =>
    rw [q] at z
    rw [He.emptyTab_eq z]
def hookL (n : Nat) (fa : List He.Fa) (fn : List He.DefD) (tf : List He.Defn) (tc : List (Str × List He.Dv)) : PySem.W.Hook where
  α := AlL
  obs := fun s => obsL n fa fn tf tc s.heap.get?
  val := fun _ => (He.valD fn, true)
  says := fun _ h => ∃ K : PySem.W.Frag, K.In h ∧ SaysL fa fn tf tc h K
  of := fun _ _ e => ⟨_, fun _ _ h => (frL_at h).1, saysL_of e⟩
  keeps := fun _ _ _ ⟨K, hK, c⟩ k => ⟨K, PySem.W.Frag.In.keeps hK k, ⟨c.d, c.hd, fun p hp => k _ _ (c.em p hp), c.nl, c.tc⟩⟩
def obL (n : Nat) (fa : List He.Fa) (fn : List He.DefD) (tf : List He.Defn) (tc : List (Str × List He.Dv)) (s : PySem.W.SharedT) : AlL := obsL n fa fn tf tc (HandSHeadRun.getT s)
theorem obL_eq {n : Nat} {fa : List He.Fa} {fn : List He.DefD} {tf : List He.Defn} {tc : List (Str × List He.Dv)} (s : PySem.W.SharedT) : obL n fa fn tf tc s = (hookL n fa fn tf tc).obs s.abs := by
  have e : HandSHeadRun.getT s = s.abs.heap.get? := funext (HandSHeadRun.getT_eq s)
  show obsL n fa fn tf tc (HandSHeadRun.getT s) = obsL n fa fn tf tc s.abs.heap.get?
  rw [e]
/-! ### a program's defs as the head's data -/
def dOf (d : Def) : He.DefD := ⟨(d.1, none), d.1, d.1, d.2.1, d.2.2.1, d.2.2.2, [], []⟩
def conFa : Str × D → He.Fa
  | (x, .int i) => .int x i
  | (x, .str z) => .str x z
  | (x, _) => .glo x
def faOf (ds : List Def) (cs : List (Str × D)) : List He.Fa := ds.map (fun d => .glo d.1) ++ (cs.map conFa ++ btNames.map .free)
def tfOf (ds : List Def) : List He.Defn := ds.map fun d => (d.1, none)
def flat : D → Bool
  | .int _ => true
  | .str _ => true
  | _ => false
def dvOf : D → He.Dv
  | .int i => .int i
  | .str z => .str z
  | _ => .non
/-- the constants that are tuples -/
def tcOf (cs : List (Str × D)) : List (Str × List He.Dv) := cs.filterMap fun c => match c.2 with
  | .tup ds => some (c.1, ds.map dvOf)
  | _ => none
theorem rvs_flat {G : Pg} {H : Hp} {β : List Addr} {K : PySem.W.Frag} : ∀ ds : List D, ds.all flat = true → RVs G H β ds ((ds.map dvOf).map (He.Dv.v K))
  | [], _ => .nil
  | d :: ds, h => by
    obtain ⟨h1, h2⟩ := He.ba (show (flat d && ds.all flat) = true from h)
    cases d with
    | int i => exact .cons (.int i) (rvs_flat ds h2)
    | str z => exact .cons (.str z) (rvs_flat ds h2)
    | _ => cases h1
def isCon : D → Bool
  | .tup ds => ds.all flat
  | .int _ => true
  | .str _ => true
  | _ => false
def parsOf (d : Def) : List Str := d.2.1.args.map (·.arg)
def isFun : ScopeKind → Bool
  | .function => true
  | _ => false
def okD (d : Def) : Bool :=
  d.2.1.posonlyargs.isEmpty && (d.2.1.vararg.isNone && (d.2.1.kwonlyargs.isEmpty && (d.2.1.kwarg.isNone && (decide (parsOf d).Nodup && (isFun d.2.2.2.kind && (!d.2.2.2.isCoroutine && (!d.2.2.2.isGenerator && (decide (allNames d.2.1 d.2.2.2 d.2.2.1).Nodup && (decide ((allNames d.2.1 d.2.2.2 d.2.2.1).take (parsOf d).length = parsOf d) && (((parsOf d).all fun x => decide (d.2.2.2.names.lookup x = some .local) || decide (d.2.2.2.names.lookup x = some .cell)) && d.2.2.2.names.all fun y => decide (y.2 ≠ .free)))))))))))
theorem okD_scope {d : Def} (h : okD d = true) : d.2.1.posonlyargs = [] ∧ d.2.1.vararg = none ∧ d.2.1.kwonlyargs = [] ∧ d.2.1.kwarg = none ∧ (parsOf d).Nodup ∧ FnScope (allNames d.2.1 d.2.2.2 d.2.2.1) (parsOf d) d.2.2.2 := by
  obtain ⟨h1, h⟩ := He.ba h
  obtain ⟨h2, h⟩ := He.ba h
  obtain ⟨h3, h⟩ := He.ba h
  obtain ⟨h4, h⟩ := He.ba h
  obtain ⟨h5, h⟩ := He.ba h
  obtain ⟨h6, h⟩ := He.ba h
  obtain ⟨h7, h⟩ := He.ba h
  obtain ⟨h8, h⟩ := He.ba h
  obtain ⟨h9, h⟩ := He.ba h
  obtain ⟨h10, h⟩ := He.ba h
  obtain ⟨h11, h12⟩ := He.ba h
  refine ⟨List.isEmpty_iff.mp h1, Option.isNone_iff_eq_none.mp h2, List.isEmpty_iff.mp h3, Option.isNone_iff_eq_none.mp h4, of_decide_eq_true h5, ⟨?_, by simpa using h7, by simpa using h8, of_decide_eq_true h9, of_decide_eq_true h10, fun x hx => ?_, fun y hy => ?_⟩⟩
  · cases q : d.2.2.2.kind with
    | function => rfl
    | _ => rw [q] at h6; cases h6
  · have := List.all_eq_true.mp h11 x hx
    simpa using this
  · exact of_decide_eq_true (List.all_eq_true.mp h12 y hy)
/-- what is checked of a program: each def's compiled body, its form; the constants -/
structure Prog (ds : List Def) (cs : List (Str × D)) (fns : List Fn) : Prop where
  comp : ds.map (fnOr (ds.map (·.1)) (cs.map (·.1)) (nmOf (lamOf ds))) = fns
  ok : ds.all okD = true
  con : (cs.all fun c => isCon c.2) = true
  ne : ds ≠ []
section
variable {ds : List Def} {cs : List (Str × D)} {fns : List Fn} {K : PySem.W.Frag} {h : Heap} {mg : Str → Option Value}
def fadOf (ds : List Def) (K : PySem.W.Frag) (k : Nat) : Addr := match ds[k]? with
  | some d => He.fAd K (d.1, none)
  | none => match ds with
    | d :: _ => He.fAd K (d.1, none)
    | [] => 0
def pgOf (P : Program) (w : World) (ds : List Def) (cs : List (Str × D)) (K : PySem.W.Frag) : Pg := ⟨K, fadOf ds K, (tfOf ds).map (He.cT K), nmOf (lamOf ds), cs.map (·.2), P, w⟩
def lwOf (P : Program) (w : World) (ds : List Def) (cs : List (Str × D)) (K : PySem.W.Frag) : Lw := ⟨pgOf P w ds cs K, ds.map (·.1), cs.map (·.1), fun _ => 0⟩
theorem fad_at {k : Nat} {d : Def} (e : ds[k]? = some d) : fadOf ds K k = He.fAd K (d.1, none) := by
  unfold fadOf
  rw [e]
theorem dfl_nil {dV : Value} (h : DflV K dV []) : dV = .none := by
  rcases h with ⟨_, e⟩ | ⟨ne, _⟩
  · exact e
  · exact absurd rfl ne
/-- a def's function object, as FnIs wants it -/
theorem def_at (c : SaysL (faOf ds cs) (ds.map dOf) (tfOf ds) (tcOf cs) h K) {d : Def} (hd : d ∈ ds) :
    ∃ (kV doc pm ct oc : Value) (an od : Option Addr) (osl : Array (Option Value)) (cd : Addr), K.lookup (He.fAd K (d.1, none)) = some ⟨oc, od, .func (PySem.W.fnOf d.1 d.1 d.2.1 d.2.2.1 d.2.2.2 .none kV doc pm an (.ref cd) ct), osl⟩ ∧
      PySem.W.codeIn K (.ref cd) d.1 = true ∧ PySem.W.keepIn K (.ref (He.fAd K (d.1, none))) = true ∧ (cd, He.tabOf K cd) ∈ (tfOf ds).map (He.cT K) := by
  obtain ⟨fd, F⟩ := He.SaysD.defs c.d (d := dOf d) (List.mem_map.mpr ⟨d, hd, rfl⟩)
  obtain ⟨oc, od, dV, kV, doc, pm, an, cdv, ct, osl, e, lk, cI, dv, kv⟩ := F.ex
  obtain rfl : dV = .none := dfl_nil dv
  obtain ⟨cd, rfl⟩ := He.codeIn_ref cI
  have lk' : K.lookup (He.fAd K (d.1, none)) = some ⟨oc, od, .func fd, osl⟩ := lk
  have ec : He.codeOf K (d.1, none) = cd := He.codeOf_eq lk' (by rw [e])
  refine ⟨kV, doc, pm, ct, oc, an, od, osl, cd, by subst e; exact lk', cI, F.kp, List.mem_map.mpr ⟨(d.1, none), List.mem_map.mpr ⟨d, hd, rfl⟩, ?_⟩⟩
  unfold He.cT
  rw [ec]
theorem fa_glo (c : SaysL (faOf ds cs) (ds.map dOf) (tfOf ds) (tcOf cs) h K) {d : Def} (hd : d ∈ ds) : (He.Fa.glo d.1).ok K = true :=
  He.SaysD.facts c.d (List.mem_append.mpr (.inl (List.mem_map.mpr ⟨d, hd, rfl⟩)))
theorem fa_con (c : SaysL (faOf ds cs) (ds.map dOf) (tfOf ds) (tcOf cs) h K) {q : Str × D} (hq : q ∈ cs) : (conFa q).ok K = true :=
  He.SaysD.facts c.d (List.mem_append.mpr (.inr (List.mem_append.mpr (.inl (List.mem_map.mpr ⟨q, hq, rfl⟩)))))
theorem fa_free (c : SaysL (faOf ds cs) (ds.map dOf) (tfOf ds) (tcOf cs) h K) {x : Str} (hx : x ∈ btNames) : (He.Fa.free x).ok K = true :=
  He.SaysD.facts c.d (List.mem_append.mpr (.inr (List.mem_append.mpr (.inr (List.mem_map.mpr ⟨x, hx, rfl⟩)))))
theorem map_at {α γ : Type} {f : α → γ} {l : List α} {m : List γ} {k : Nat} {y : γ} (e : l.map f = m) (h : m[k]? = some y) : ∃ x, l[k]? = some x ∧ f x = y := by
  rw [← e, List.getElem?_map, Option.map_eq_some_iff] at h
  exact h
theorem wf_of {P : Program} {w : World} (pr : Prog ds cs fns) (c : SaysL (faOf ds cs) (ds.map dOf) (tfOf ds) (tcOf cs) h K) (X : K.In h) (G : h.Ns mainGlobals mg) {base : Heap} (hc : ∀ p ∈ tfOf ds, PySem.W.CodeHd base (He.cT K p).1 (He.cT K p).2) (bm : ∃ P0, base.BuiltinsAt mg P0) : Wf P w (lwOf P w ds cs K) mg base fns := by
  have keep : ∀ d ∈ ds, PySem.W.keepIn K (.ref (He.fAd K (d.1, none))) = true := fun d hd => by
    obtain ⟨_, _, _, _, _, _, _, _, _, _, _, hk, _⟩ := def_at c hd
    exact hk
  refine ⟨rfl, rfl, fun i f e => ?_, fun k => ?_, fun i x e => ?_, fun x hx => He.free_ok X G (fa_free c hx), bm, fun k f e => ?_⟩
  · obtain ⟨d, ed, rfl⟩ := map_at rfl e
    have hd := List.mem_of_getElem? ed
    show mg d.1 = some (.ref (fadOf ds K i)) ∧ PySem.W.keepIn K (.ref (fadOf ds K i)) = true
    rw [fad_at ed]
    exact ⟨He.glo_ok X G (fa_glo c hd), keep d hd⟩
  · show PySem.W.keepIn K (.ref (fadOf ds K k)) = true
    cases ed : ds[k]? with
    | some d =>
      rw [fad_at ed]
      exact keep d (List.mem_of_getElem? ed)
    | none =>
      cases q : ds with
      | nil => exact absurd q pr.ne
      | cons d r =>
        have e2 : fadOf (d :: r) K k = He.fAd K (d.1, none) := by
          unfold fadOf
          rw [← q, ed, q]
        rw [e2]
        exact keep d (by rw [q]; exact List.mem_cons_self)
  · obtain ⟨q, eq, rfl⟩ := map_at rfl e
    have hq := List.mem_of_getElem? eq
    have f := fa_con c hq
    have ic := List.all_eq_true.mp pr.con q hq
    have ed : (cs.map (·.2))[i]? = some q.2 := by rw [List.getElem?_map, eq]; rfl
    obtain ⟨x, d⟩ := q
    cases d with
    | int j =>
      obtain ⟨t, et⟩ := He.int_ok X G f
      exact ⟨.int j, _, .int j, ed, et, ⟨t, rfl⟩, rfl, fun _ _ => .int j⟩
    | str z =>
      obtain ⟨t, et⟩ := He.str_ok X G f
      exact ⟨.str z, _, .str z, ed, et, ⟨t, rfl⟩, rfl, fun _ _ => .str z⟩
    | tup zs =>
      have eg := He.glo_ok X G f
      have hm : (x, zs.map dvOf) ∈ tcOf cs := List.mem_filterMap.mpr ⟨(x, .tup zs), hq, rfl⟩
      exact ⟨.tup zs, _, .ref (He.ga K x), ed, eg, rfl, rfl, fun H β => .tup (He.tupB_ok (c.tc _ hm) H) (rvs_flat zs ic)⟩
    | _ => cases ic
  · obtain ⟨d, ed, ef⟩ := map_at pr.comp e
    unfold fnOr at ef
    cases ec : fnOf (ds.map (·.1)) (cs.map (·.1)) (nmOf (lamOf ds)) d with
    | none =>
      rw [ec] at ef
      exact .inl ef.symm
    | some f0 =>
    rw [ec] at ef
    have ef : some f0 = some f := congrArg some ef
    rw [← ec] at ef
    clear ec
    right
    have hd := List.mem_of_getElem? ed
    obtain ⟨o1, o2, o3, o4, o5, o6⟩ := okD_scope (List.all_eq_true.mp pr.ok d hd)
    obtain ⟨kV, doc, pm, ct, oc, an, od, osl, cd, lk, cI, _, tb⟩ := def_at c hd
    unfold fnOf at ef
    rw [Option.map_eq_some_iff] at ef
    obtain ⟨ss, es, rfl⟩ := ef
    have hp := o6.pre
    have hle : (parsOf d).length ≤ (allNames d.2.1 d.2.2.2 d.2.2.1).length := by
      have := congrArg List.length hp
      rw [List.length_take] at this
      omega
    refine ⟨d.1, d.1, d.2.1, d.2.2.1, d.2.2.2, kV, doc, pm, ct, oc, an, od, osl, cd, He.tabOf K cd, allNames d.2.1 d.2.2.2 d.2.2.1, ?_, cI, o6, o1, o2, o3, o4, o5, ?_, rfl, ?_, es, tb, ?_⟩
    · show K.lookup (fadOf ds K k) = _
      rw [fad_at ed]
      exact lk
    · show d.2.1.args.length = (d.2.1.args.map (·.arg)).length
      rw [List.length_map]
    · show d.2.1.args.length ≤ _
      unfold parsOf at hle
      rw [List.length_map] at hle
      exact hle
    · obtain ⟨p, hp, ep⟩ := List.mem_map.mp tb
      have := hc p hp
      rw [ep] at this
      exact this
end
end EV
/-! EvAS: the law's end (own work). -/
namespace EV
open PySem PySem.Spec PyProof.Rows L2
/-- the abstract heap at the law's start: the script, the defs' tables -/
def H0 (a : Addr) (T : List Addr) (ob : Obj) (ns : List Int) : Hp := fun b => if b = a then some (.frz ob (.lst (ns.map V.int))) else if b ∈ T then some (.tbl #[]) else none
theorem rvs_ints {G : Pg} {H : Hp} {β : List Addr} : ∀ ns : List Int, RVs G H β (ns.map .int) (ns.map V.int)
  | [] => .nil
  | i :: r => .cons (.int i) (rvs_ints r)
section
variable {a : Addr} {T : List Addr} {ob : Obj} {ns : List Int}
theorem H0_a : H0 a T ob ns a = some (.frz ob (.lst (ns.map V.int))) := if_pos rfl
theorem H0_T (ha : a ∉ T) {b : Addr} (hb : b ∈ T) : H0 a T ob ns b = some (.tbl #[]) := (if_neg fun e : b = a => ha (e ▸ hb)).trans (if_pos hb)
theorem H0_no {b : Addr} (h1 : b ≠ a) (h2 : b ∉ T) : H0 a T ob ns b = none := (if_neg h1).trans (if_neg h2)
theorem H0_cases (b : Addr) : b = a ∨ (b ≠ a ∧ b ∈ T ∧ H0 a T ob ns b = some (.tbl #[])) ∨ (b ≠ a ∧ b ∉ T ∧ H0 a T ob ns b = none) := by
  by_cases h1 : b = a
  · exact .inl h1
  · by_cases h2 : b ∈ T
    · exact .inr (.inl ⟨h1, h2, (if_neg h1).trans (if_pos h2)⟩)
    · exact .inr (.inr ⟨h1, h2, H0_no h1 h2⟩)
theorem H0_at {G : Pg} (ha : a ∉ T) (hT : ∀ p ∈ G.tabs, p.2 ∈ T) : At G (H0 a T ob ns) [a] [.ro (ns.map .int)] := by
  refine ⟨⟨rfl, by simp, fun n o e => ?_⟩, fun p hp => ⟨#[], H0_T ha (hT p hp)⟩, fun P ps e => ?_⟩
  · cases n with
    | zero =>
      obtain rfl : O.ro (ns.map .int) = o := Option.some.inj e
      exact ⟨a, rfl, ns.map V.int, ob, H0_a, rvs_ints ns⟩
    | succ n => cases e
  · rcases H0_cases (a := a) (T := T) (ob := ob) (ns := ns) P with h | ⟨_, _, h⟩ | ⟨_, _, h⟩
    · rw [h, H0_a] at e; cases e
    · rw [h] at e
      cases e
      exact ⟨trivial, fun pos cv hc => by cases hc⟩
    · rw [h] at e; cases e
end
theorem law_walk {l : PySem.W.OpenLaw} {n m N lawI : Nat} {q : Program} {loose : List Str} {XP : (Str → Option Value) → Heap → Prop} {d : DefRec} {ds : List Def} {cs : List (Str × D)} {fns : List Fn}
    (hn : l.most = some n) (hn2 : n ≤ sizeLine) (hdf : d.params.defaults = []) (pr : Prog ds cs fns) (hr : Room (roomN N) callerA) (hl : (ds.map (·.1))[lawI]? = some d.name)
    (math : ∀ ns : List Int, ns.length ≤ n → (∀ z ∈ ns, Builtin.Int.intBits z ≤ 1048576) → ∃ S', callN (cs.map (·.2)) fns N (.fn lawI) [.loc 0] [.ro (ns.map .int)] = .ok (.bool true) S') :
    PySem.W.WalkO q loose XP (hookL m (faOf ds cs) (ds.map dOf) (tfOf ds) (tcOf cs)).says l.row.toRowW d [] (fun f vs => PySem.call f vs) := by
  refine Att.attach_callB hn hdf fun w s₀ s₁ mg mb fa o pm cd doc a vs ns G Y ho hd hcd hmg ha hi hlen hbits hg => ?_
  obtain ⟨K, KX, c⟩ := Y
  obtain ⟨S', hrun⟩ := math ns hlen hbits
  obtain ⟨dd, ed, en⟩ := map_at rfl hl
  have hdd := List.mem_of_getElem? ed
  obtain ⟨T, eT⟩ : ∃ T, T = ((tfOf ds).map (He.cT K)).map (·.2) := ⟨_, rfl⟩
  have inT : ∀ p ∈ tfOf ds, (He.cT K p).2 ∈ T := fun p hp => by
    rw [eT]
    exact List.mem_map.mpr ⟨_, List.mem_map.mpr ⟨p, hp, rfl⟩, rfl⟩
  have isT : ∀ b ∈ T, ∃ p ∈ tfOf ds, b = (He.cT K p).2 ∧ s₁.heap.get? b = some { cls := .none, data := .fields #[] } := fun b hb => by
    rw [eT] at hb
    obtain ⟨_, h1, rfl⟩ := List.mem_map.mp hb
    obtain ⟨p, hp, rfl⟩ := List.mem_map.mp h1
    exact ⟨p, hp, rfl, c.em p hp⟩
  have aT : a ∉ T := fun z => by
    obtain ⟨p, _, _, e⟩ := isT a z
    rw [ha] at e
    cases congrArg Obj.data (Option.some.inj e)
  have nK : ∀ b o, K.lookup b = some o → b ≠ a ∧ b ∉ T := fun b o e => by
    obtain ⟨n1, n2⟩ := c.nl b o e
    have g := KX b o e
    refine ⟨fun z => ?_, fun z => ?_⟩
    · rw [z, ha] at g
      cases g
      cases n2
    · obtain ⟨p, _, _, e2⟩ := isT b z
      rw [g] at e2
      cases e2
      cases n1
  have rv := vals_ints hi
  have lv := hi.length
  obtain ⟨H, eH⟩ : ∃ H, H = H0 a T { cls := .type "list", data := .seq vs.toArray } ns := ⟨_, rfl⟩
  have Hn : ∀ b, b ≠ a → b ∉ T → H b = none := fun b h1 h2 => by rw [eH]; exact H0_no h1 h2
  have HT : ∀ b ∈ T, H b = some (.tbl #[]) := fun b hb => by rw [eH]; exact H0_T aT hb
  have Ha : H a = some (.frz { cls := .type "list", data := .seq vs.toArray } (.lst (ns.map V.int))) := by rw [eH]; exact H0_a
  have Hno : ∀ {b : Addr} {o : Obj}, s₁.heap.get? b = some o → (∀ ws k, o.data ≠ .seq ws k) → o.data ≠ .fields #[] → H b = none := fun {b o} e h1 h2 => by
    refine Hn b (fun z => ?_) fun z => ?_
    · rw [z, ha] at e
      cases e
      exact h1 _ _ rfl
    · obtain ⟨_, _, _, e2⟩ := isT b z
      rw [e2] at e
      cases e
      exact h2 rfl
  have ns_hid : ∀ {b : Addr} {f : Str → Option Value}, s₁.heap.Ns b f → (hidT s₁.heap H).Ns b f := fun ⟨o, es, ep, e, dt, r⟩ =>
    ⟨o, es, ep, hidT_get e (Hno e (fun ws k z => by rw [dt] at z; cases z) fun z => by rw [dt] at z; cases z), dt, r⟩
  have KB : K.In (hidT s₁.heap H) := fun b o e => hidT_get (KX b o e) (Hn b (nK b o e).1 (nK b o e).2)
  have Gb : (hidT s₁.heap H).Ns mainGlobals mg := ns_hid G.T.g
  have M : L2.Mod K mg (hidT s₁.heap H) := by
    refine ⟨KB, Gb, ⟨mb, ns_hid G.T.b, G.T.builtins⟩, ?_⟩
    obtain ⟨mc, h1, h2⟩ := G.T.nolimit
    exact ⟨mc, ns_hid h1, h2⟩
  have hok : HOk l.prog w H s₁.heap := fun b u e => by
    rw [eH] at e
    rcases H0_cases (a := a) (T := T) (ob := { cls := .type "list", data := .seq vs.toArray }) (ns := ns) b with h | ⟨_, hb, h⟩ | ⟨_, _, h⟩
    · rw [h, H0_a] at e
      cases e
      rw [h]
      exact ⟨ha, by rw [List.length_map]; exact Nat.le_trans hlen hn2, vs, _, rv, ha⟩
    · rw [h] at e
      cases e
      obtain ⟨_, _, _, e2⟩ := isT b hb
      exact e2
    · rw [h] at e; cases e
  have e0 : Env0 l.prog w K mg (hidT s₁.heap H) callerA [] s₁ H :=
    ⟨rfl, M, fun b o e => of_hidT e, Nat.le_of_eq (hidT_size _ _), trivial, fun b hb => absurd (show b ∈ ([] : List Addr) from hb) (by simp), hok, .of_eq hg⟩
  have CH : ∀ p ∈ tfOf ds, PySem.W.CodeHd (hidT s₁.heap H) (He.cT K p).1 (He.cT K p).2 := fun p hp => PySem.W.codeHd_of_K KB (c.hd p hp)
  have T0 : ∃ p, p ∈ tfOf ds := ⟨_, List.mem_map.mpr ⟨dd, hdd, rfl⟩⟩
  have BM : ∃ P0, (hidT s₁.heap H).BuiltinsAt mg P0 := by
    obtain ⟨p, hp⟩ := T0
    obtain ⟨bm, o, b1, b2, b3, b4, b5, b6⟩ := G.T.bmain
    refine ⟨(He.cT K p).2, bm, o, b1, b2, fun z => ?_, fun z => ?_, hidT_get b3 (Hno b3 (fun ws k z => by rw [b6] at z; cases z) fun z => by rw [b6] at z; cases z), b4, b5, b6⟩
    · obtain ⟨o', es, ep, e, dt, _⟩ := G.T.g
      rw [z, e] at b3
      cases b3
      rw [dt] at b6
      cases b6
    · rw [z, c.em p hp] at b3
      cases b3
      cases b6
  have W := wf_of (P := l.prog) (w := w) pr c KX G.T.g (base := hidT s₁.heap H) CH BM
  have F := fns_ok (P := l.prog) (w := w) W N callerA hr rfl
  have at0 : At (pgOf l.prog w ds cs K) H [a] [.ro (ns.map .int)] := by
    rw [eH]
    exact H0_at aT fun p hp => by rw [eT]; exact List.mem_map.mpr ⟨p, hp, rfl⟩
  have efa : fa = fadOf ds K lawI := by
    rw [fad_at ed]
    have g := He.glo_ok KX G.T.g (fa_glo c hdd)
    rw [en, hmg] at g
    have g2 := Option.some.inj g
    injection g2 with g3
    rw [g3]
    show He.ga K d.name = He.fAd K (dd.1, none)
    rw [en]
    rfl
  have run := F.fn lawI [.loc 0] [.ref a] [.ref a] [.ro (ns.map .int)] [a] [] s₁ H (fun v _ => v = .bl true) (fun _ _ _ => False) e0 at0 (.cons (.inl (.loc rfl)) .nil) (.cons rfl .nil) (by
    rw [show callN (lwOf l.prog w ds cs K).G.con fns N (.fn lawI) [.loc 0] [.ro (ns.map .int)] = .ok (.bool true) S' from hrun]
    intro v H' β' g' at' r
    cases r
    rfl)
  rw [efa]
  refine codeAny_mono run fun r s' hq => ?_
  cases r with
  | error e =>
    obtain ⟨_, _, _, _, _, _, _, _, _, _, _, _, z⟩ := hq
    exact z.elim
  | ok fl =>
    cases fl with
    | next => exact hq.elim
    | brk => exact hq.elim
    | cont => exact hq.elim
    | ret u =>
      obtain ⟨v, H', os, bare, un, hok', ru, qv⟩ := hq
      have qv : v = .bl true := qv
      subst qv
      obtain rfl : u = Value.bool true := ru
      have tabs : ∀ b ∈ T, ∃ more : Array Value, s'.heap.get? b = some { cls := .none, data := .fields more } := fun b hb => by
        obtain ⟨more, z⟩ := un.tbls b #[] (HT b hb)
        exact ⟨_, hok' b _ z⟩
      have same : ∀ b o, b ∉ T → s₁.heap.get? b = some o → s'.heap.get? b = some o := fun b o nb e => by
        by_cases hb : b = a
        · obtain ⟨z, _⟩ := hok' b _ (un.frzs b _ _ (by rw [hb]; exact Ha))
          rw [hb, ha] at e
          cases e
          exact z
        · exact un.keep b o e (Hn b hb nb) (fun z => absurd (show b ∈ ([] : List Addr) from z) (by simp)) (by simp)
      refine ⟨rfl, ⟨fun b o e => ?_, fun b o e => ?_⟩, os, bare⟩
      · by_cases hb : b ∈ T
        · obtain ⟨more, hm⟩ := tabs b hb
          obtain ⟨p, hp, eb, e2⟩ := isT b hb
          rw [e2] at e
          cases e
          refine .inr (.inl ⟨?_, rfl, #[], more, rfl, by rw [Array.empty_append]; exact hm⟩)
          rw [eb] at e2 ⊢
          exact ((PySem.W.codeHd_of_K KX (c.hd p hp)).tab e2).isCodeTable
        · exact .inl (same b o hb e)
      · by_cases hb : b ∈ T
        · obtain ⟨more, hm⟩ := tabs b hb
          exact ⟨_, hm⟩
        · exact ⟨o, same b o hb e⟩
end EV
/-! PvA: what an evaluation tells, by rules (own work). -/
namespace EV
open PySem (Str PyData)
/-- it tells a value for which Q holds -/
def T {α : Type} (r : M α) (Q : α → Sto → Prop) : Prop := match r with
  | .ok a s => Q a s
  | _ => False
section
variable {α β : Type} {a : α} {s : Sto} {Q Q' : α → Sto → Prop} {r : M α}
@[simp] theorem T_ok (a : α) (s : Sto) (Q : α → Sto → Prop) : T (.ok a s) Q = Q a s := id rfl
@[simp] theorem T_bad (Q : α → Sto → Prop) : T (.bad : M α) Q = False := id rfl
@[simp] theorem T_bind (r : M α) (f : α → Sto → M β) (Q : β → Sto → Prop) : T (r.bind f) Q = T r fun a s => T (f a s) Q := by cases r <;> rfl
@[simp] theorem T_calm (r : M α) (Q : α → Sto → Prop) : T r.calm Q = T r Q := by cases r <;> rfl
@[simp] theorem T_upok (a : α) (s : Sto) (Q : α → Sto → Prop) : T (R.up (.ok a s)) Q = Q a s := id rfl
@[simp] theorem T_upbad (Q : α → Sto → Prop) : T (R.up (.bad : R α)) Q = False := id rfl
@[simp] theorem T_osome (a : α) (s : Sto) (Q : α → Sto → Prop) : T (M.ofO (some a) s) Q = Q a s := id rfl
@[simp] theorem T_onone (s : Sto) (Q : α → Sto → Prop) : T (M.ofO (none : Option α) s) Q = False := id rfl
@[simp] theorem ofO_some (a : α) (s : Sto) : R.ofO (some a) s = .ok a s := id rfl
theorem T.mono (h : T r Q) (q : ∀ a s, Q a s → Q' a s) : T r Q' := by
  cases r with
  | ok a s => exact q _ _ h
  | exc => exact h.elim
  | bad => exact h.elim
@[simp] theorem T_ite (b : Bool) (x y : M α) (Q : α → Sto → Prop) : T (if b = true then x else y) Q = if b = true then T x Q else T y Q := by cases b <;> rfl
theorem T_eq (h : T r fun b s' => b = a ∧ s' = s) : r = .ok a s := by
  cases r with
  | ok b s' => obtain ⟨rfl, rfl⟩ := h; rfl
  | exc => exact h.elim
  | bad => exact h.elim
theorem T_run (h : T r Q) : ∃ a s, r = .ok a s ∧ Q a s := by
  cases r with
  | ok a s => exact ⟨a, s, rfl, h⟩
  | exc => exact h.elim
  | bad => exact h.elim
end
/-- a call, kept folded -/
@[irreducible] def runN (con : List D) (fns : List Fn) (n : Nat) : Cf := callN con fns n
theorem runN_eq (con : List D) (fns : List Fn) (n : Nat) : runN con fns n = callN con fns n := by unfold runN; rfl
@[irreducible] def rngA (x : D) (s : Sto) : M Walk := rng1 x s
@[irreducible] def rngB (x y : D) (s : Sto) : M Walk := rng2 x y s
/-! ### expressions -/
section
variable {con : List D} {cf : Cf} {ρ : Env} {s : Sto} {Q : D → Sto → Prop}
@[simp] theorem T_var (i : Nat) : T (evE con cf (.var i) ρ s) Q = T (getV ρ i s) Q := id rfl
@[simp] theorem T_int (i : Int) : T (evE con cf (.int i) ρ s) Q = Q (.int i) s := id rfl
@[simp] theorem T_str (x : Str) : T (evE con cf (.str x) ρ s) Q = Q (.str x) s := id rfl
@[simp] theorem T_bool (b : Bool) : T (evE con cf (.bool b) ρ s) Q = Q (.bool b) s := id rfl
@[simp] theorem T_none : T (evE con cf .none ρ s) Q = Q .none s := id rfl
@[simp] theorem T_con (k : Nat) : T (evE con cf (.con k) ρ s) Q = T (.ofO con[k]? s) Q := id rfl
@[simp] theorem T_tup (es : Es) : T (evE con cf (.tup es) ρ s) Q = T (evEs con cf es ρ s) fun ds s1 => T (mkTup ds s1).up Q := by simp only [evE, T_bind]
@[simp] theorem T_lst (es : Es) : T (evE con cf (.lst es) ρ s) Q = T (evEs con cf es ρ s) fun ds s1 => T (mkList ds s1).up Q := by simp only [evE, T_bind]
@[simp] theorem T_dict (kv : Kvs) : T (evE con cf (.dict kv) ρ s) Q = T (evKV con cf kv ρ (s.push (.dct []))) fun kvs s1 => T (fillD s.nxt kvs s1).up Q := by simp only [evE, T_bind]
@[simp] theorem T_bin (o : O2) (a b : E) : T (evE con cf (.bin o a b) ρ s) Q = T (evE con cf a ρ s) fun x s1 => T (evE con cf b ρ s1) fun y s2 => T (o2 o x y s2).up Q := by simp only [evE, T_bind]
@[simp] theorem T_cmp (o : Cp) (a b : E) : T (evE con cf (.cmp o a b) ρ s) Q = T (evE con cf a ρ s) fun x s1 => T (evE con cf b ρ s1) fun y s2 => T (cpB o x y s2) fun b s3 => Q (.bool b) s3 := by
  simp only [evE, T_bind]
  congr 1; funext x s1; congr 1; funext y s2
  unfold cp cpB
  cases cpO o x y s2 <;> rfl
@[simp] theorem T_cmp2 (o p : Cp) (a b c : E) : T (evE con cf (.cmp2 o p a b c) ρ s) Q = T (evE con cf a ρ s) fun x s1 => T (evE con cf b ρ s1) fun y s2 => T (cpB o x y s2) fun t s2 => if t = true then T (evE con cf c ρ s2) fun z s3 => T (cpB p y z s3) fun b s4 => Q (.bool b) s4 else Q (.bool false) s2 := by
  simp only [evE, T_bind, T_ite, T_ok]
  congr 1; funext x s1; congr 1; funext y s2; congr 1; funext t s3
  cases t
  · rfl
  · simp only [if_true]
    congr 1; funext z s4
    unfold cp cpB
    cases cpO p y z s4 <;> rfl
@[simp] theorem T_and (a b : E) : T (evE con cf (.and a b) ρ s) Q = T (evE con cf a ρ s) fun x s1 => T (tru x s1) fun t s1 => if t = true then T (evE con cf b ρ s1) Q else Q x s1 := by simp only [evE, T_bind, T_ite, T_ok]
@[simp] theorem T_or (a b : E) : T (evE con cf (.or a b) ρ s) Q = T (evE con cf a ρ s) fun x s1 => T (tru x s1) fun t s1 => if t = true then Q x s1 else T (evE con cf b ρ s1) Q := by simp only [evE, T_bind, T_ite, T_ok]
@[simp] theorem T_not (a : E) : T (evE con cf (.not a) ρ s) Q = T (evE con cf a ρ s) fun x s1 => T (tru x s1) fun t s1 => Q (.bool (!t)) s1 := by simp only [evE, T_bind, T_ok]
@[simp] theorem T_neg (a : E) : T (evE con cf (.neg a) ρ s) Q = T (evE con cf a ρ s) fun x s1 => T (negM x s1).up Q := by simp only [evE, T_bind]
@[simp] theorem T_iteE (c a b : E) : T (evE con cf (.ite c a b) ρ s) Q = T (evE con cf c ρ s) fun x s1 => T (tru x s1) fun t s1 => if t = true then T (evE con cf a ρ s1) Q else T (evE con cf b ρ s1) Q := by simp only [evE, T_bind, T_ite]
@[simp] theorem T_idx (a b : E) : T (evE con cf (.idx a b) ρ s) Q = T (evE con cf a ρ s) fun x s1 => T (evE con cf b ρ s1) fun y s2 => T (ix x y s2).up Q := by simp only [evE, T_bind]
@[simp] theorem T_slc (a : E) (lo hi : Eo) : T (evE con cf (.slc a lo hi) ρ s) Q = T (evE con cf a ρ s) fun x s1 => T (evEo con cf lo ρ s1) fun l s2 => T (evEo con cf hi ρ s2) fun h s3 => T (slice x l h s3).up Q := by simp only [evE, T_bind]
@[simp] theorem T_call (f : Nat) (es : Es) : T (evE con cf (.call f es) ρ s) Q = T (evEs con cf es ρ s) fun ds s1 => T (cf (.fn f) ds s1) Q := by simp only [evE, T_bind]
@[simp] theorem T_calll (f : Nat) (es : Es) (ps caps : List Nat) (b : E) : T (evE con cf (.calll f es ps caps b) ρ s) Q = T (evEs con cf es ρ s) fun ds s1 => T (cf (.fn f) (ds ++ [.clo ps b (keepOnly (noClo ρ) caps)]) s1) Q := by simp only [evE, T_bind]
@[simp] theorem T_callv (i : Nat) (es : Es) : T (evE con cf (.callv i es) ρ s) Q = T (getF ρ i s) fun d s => T (evEs con cf es ρ s) fun ds s1 => T (cf d ds s1) Q := by simp only [evE, T_bind]
@[simp] theorem T_bf (b : Bf) (es : Es) : T (evE con cf (.bf b es) ρ s) Q = T (evEs con cf es ρ s) fun ds s1 => T (bf b ds s1).up Q := by simp only [evE, T_bind]
@[simp] theorem T_isi (a : E) (t : Ty) : T (evE con cf (.isi a t) ρ s) Q = T (evE con cf a ρ s) fun x s1 => T (isi x t s1).up Q := by simp only [evE, T_bind]
@[simp] theorem T_mt (m : Mt) (o : E) (es : Es) : T (evE con cf (.mt m o es) ρ s) Q = T (evE con cf o ρ s) fun x s1 => T (isLst x s1) fun _ s1 => T (evEs con cf es ρ s1) fun ds s2 => T (mt m x ds s2).up Q := by simp only [evE, T_bind]
@[simp] theorem T_genL (sr : Sr) (t : Tg) (own : List Nat) (ifs : Es) (e : E) : T (evE con cf (.gen .list sr t own ifs e) ρ s) Q = T (evSr con cf sr ρ s) fun w s1 => T (lcGo (evIfs con cf ifs) (evE con cf e) t w.2 (wipe (noClo ρ) own) s1.nxt w.1 (s1.push (.lst []))) fun _ s2 => Q (.loc s1.nxt) s2 := by simp only [evE, T_bind, T_calm, T_ok]
@[simp] theorem T_genT (sr : Sr) (t : Tg) (own : List Nat) (ifs : Es) (e : E) : T (evE con cf (.gen .tuple sr t own ifs e) ρ s) Q = T (evSr con cf sr ρ s) fun w s1 => T (tpGo (evIfs con cf ifs) (evE con cf e) t w.2 (wipe (noClo ρ) own) w.1 [] s1) fun ds s2 => T (mkTup ds s2).up Q := by simp only [evE, T_bind, T_calm]
@[simp] theorem T_genA (sr : Sr) (t : Tg) (own : List Nat) (ifs : Es) (e : E) : T (evE con cf (.gen .all sr t own ifs e) ρ s) Q = T (evSr con cf sr ρ s) fun w s1 => T (abGo false (evIfs con cf ifs) (evE con cf e) t w.2 (wipe (noClo ρ) own) w.1 s1) Q := by simp only [evE, T_bind, T_calm]
@[simp] theorem T_genO (sr : Sr) (t : Tg) (own : List Nat) (ifs : Es) (e : E) : T (evE con cf (.gen .any sr t own ifs e) ρ s) Q = T (evSr con cf sr ρ s) fun w s1 => T (abGo true (evIfs con cf ifs) (evE con cf e) t w.2 (wipe (noClo ρ) own) w.1 s1) Q := by simp only [evE, T_bind, T_calm]
@[simp] theorem T_set0 : T (evE con cf .set0 ρ s) Q = Q (.loc s.nxt) (s.push (.tset [])) := id rfl
@[simp] theorem T_sadd (o a : E) : T (evE con cf (.sadd o a) ρ s) Q = T (evE con cf o ρ s) fun x s1 => T (isSet x s1) fun _ s1 => T (evE con cf a ρ s1) fun d s2 => T (addSet x d s2).up Q := by simp only [evE, T_bind]
@[simp] theorem T_sset (a : E) : T (evE con cf (.sset a) ρ s) Q = T (evE con cf a ρ s) fun x s1 => T (ssetD x s1).up Q := by simp only [evE, T_bind]
@[simp] theorem T_genS (sr : Sr) (t : Tg) (own : List Nat) (ifs : Es) (e : E) : T (evE con cf (.gen .sset sr t own ifs e) ρ s) Q = T (evSr con cf sr ρ s) fun w s1 => T (siGo (evIfs con cf ifs) (evE con cf e) t w.2 (wipe (noClo ρ) own) s1.nxt w.1 (s1.push (.iset []))) fun _ s2 => T (outI s1.nxt s2).up Q := by simp only [evE, T_bind, T_calm]
@[simp] theorem T_dgen (sr : Sr) (t : Tg) (own : List Nat) (ifs : Es) (ke ve : E) : T (evE con cf (.dgen sr t own ifs ke ve) ρ s) Q = T (evSr con cf sr ρ s) fun w s1 => T (dcGo (evIfs con cf ifs) (evE con cf ke) (evE con cf ve) t w.2 (wipe (noClo ρ) own) s1.nxt w.1 (s1.push (.dct []))) fun _ s2 => Q (.loc s1.nxt) s2 := by simp only [evE, T_bind, T_calm, T_ok]
@[simp] theorem T_nil {Q : List D → Sto → Prop} : T (evEs con cf .nil ρ s) Q = Q [] s := id rfl
@[simp] theorem T_cons {Q : List D → Sto → Prop} (e : E) (es : Es) : T (evEs con cf (.cons e es) ρ s) Q = T (evE con cf e ρ s) fun d s1 => T (evEs con cf es ρ s1) fun ds s2 => Q (d :: ds) s2 := by simp only [evEs, T_bind, T_ok]
@[simp] theorem T_knil {Q : List (D × D) → Sto → Prop} : T (evKV con cf .nil ρ s) Q = Q [] s := id rfl
@[simp] theorem T_kcons {Q : List (D × D) → Sto → Prop} (k v : E) (r : Kvs) : T (evKV con cf (.cons k v r) ρ s) Q = T (evE con cf k ρ s) fun x s1 => T (evE con cf v ρ s1) fun y s2 => T (evKV con cf r ρ s2) fun q s3 => Q ((x, y) :: q) s3 := by simp only [evKV, T_bind, T_ok]
@[simp] theorem T_eonone {Q : Option Int → Sto → Prop} : T (evEo con cf .none ρ s) Q = Q none s := id rfl
@[simp] theorem T_eosome {Q : Option Int → Sto → Prop} (e : E) : T (evEo con cf (.some e) ρ s) Q = T (evE con cf e ρ s) fun d s1 => T (bound d s1) Q := by simp only [evEo, T_bind]
@[simp] theorem T_ifnil {Q : Bool → Sto → Prop} : T (evIfs con cf .nil ρ s) Q = Q true s := id rfl
@[simp] theorem T_ifcons {Q : Bool → Sto → Prop} (e : E) (es : Es) : T (evIfs con cf (.cons e es) ρ s) Q = T (evE con cf e ρ s) fun d s1 => T (tru d s1) fun t s1 => if t = true then T (evIfs con cf es ρ s1) Q else Q false s1 := by simp only [evIfs, T_bind, T_ite, T_ok]
@[simp] theorem T_sre {Q : Walk → Sto → Prop} (a : E) : T (evSr con cf (.e a) ρ s) Q = T (evE con cf a ρ s) fun x s1 => T (.ofO (walkOf x s1) s1) Q := by simp only [evSr, T_bind]
@[simp] theorem T_sr1 {Q : Walk → Sto → Prop} (a : E) : T (evSr con cf (.rng1 a) ρ s) Q = T (evE con cf a ρ s) fun x s1 => T (rngA x s1) Q := by unfold rngA; simp only [evSr, T_bind]
@[simp] theorem T_sr2 {Q : Walk → Sto → Prop} (a b : E) : T (evSr con cf (.rng2 a b) ρ s) Q = T (evE con cf a ρ s) fun x s1 => T (evE con cf b ρ s1) fun y s2 => T (rngB x y s2) Q := by unfold rngB; simp only [evSr, T_bind]
@[simp] theorem T_srn {Q : Walk → Sto → Prop} (a : E) : T (evSr con cf (.enum a) ρ s) Q = T (evE con cf a ρ s) fun x s1 => T (enumW x s1) Q := by simp only [evSr, T_bind]
@[simp] theorem T_srz {Q : Walk → Sto → Prop} (a b : E) : T (evSr con cf (.zip a b) ρ s) Q = T (evE con cf a ρ s) fun x s1 => T (evE con cf b ρ s1) fun y s2 => T (zipW x y s2) Q := by simp only [evSr, T_bind]
@[simp] theorem T_evT {Q : Bool → Sto → Prop} (c : E) : T (evT con cf c ρ s) Q = T (evE con cf c ρ s) fun d s1 => T (tru d s1) Q := by simp only [evT, T_bind]
end
/-! ### statements -/
section
variable {con : List D} {cf : Cf} {ρ : Env} {s : Sto} {Q : Fl → Sto → Prop}
/-- what follows -/
def andThen (con : List D) (cf : Cf) (ss : Ss) (f : Fl) (s : Sto) : M Fl := match f with
  | .nx ρ' => evSs con cf ss ρ' s
  | f => .ok f s
@[simp] theorem T_snil : T (evSs con cf .nil ρ s) Q = Q (.nx ρ) s := id rfl
@[simp] theorem T_scons (st : S) (ss : Ss) : T (evSs con cf (.cons st ss) ρ s) Q = T (evS con cf st ρ s) fun f s1 => T (andThen con cf ss f s1) Q := by
  simp only [evSs, T_bind]
  rfl
@[simp] theorem then_nx (ss : Ss) (ρ' : Env) : T (andThen con cf ss (.nx ρ') s) Q = T (evSs con cf ss ρ' s) Q := id rfl
@[simp] theorem then_rt (ss : Ss) (d : D) : T (andThen con cf ss (.rt d) s) Q = Q (.rt d) s := id rfl
@[simp] theorem then_bk (ss : Ss) (ρ' : Env) : T (andThen con cf ss (.bk ρ') s) Q = Q (.bk ρ') s := id rfl
@[simp] theorem then_ct (ss : Ss) (ρ' : Env) : T (andThen con cf ss (.ct ρ') s) Q = Q (.ct ρ') s := id rfl
@[simp] theorem T_set (i : Nat) (e : E) : T (evS con cf (.set i e) ρ s) Q = T (evE con cf e ρ s) fun d s1 => Q (.nx (ρ.set i (some d))) s1 := by simp only [evS, T_bind, T_ok]
@[simp] theorem T_unp (t : Tg) (e : E) : T (evS con cf (.unp t e) ρ s) Q = T (evE con cf e ρ s) fun d s1 => T (M.ofO (unp t d ρ s1) s1) fun ρ' s1 => Q (.nx ρ') s1 := by simp only [evS, T_bind, T_ok]
@[simp] theorem T_par (is : List Nat) (es : Es) : T (evS con cf (.par is es) ρ s) Q = T (evEs con cf es ρ s) fun ds s1 => T (M.ofO (setAll is ds ρ) s1) fun ρ' s1 => Q (.nx ρ') s1 := by simp only [evS, T_bind, T_ok]
@[simp] theorem T_seti (o i e : E) : T (evS con cf (.seti o i e) ρ s) Q = T (evE con cf e ρ s) fun v s1 => T (evE con cf o ρ s1) fun x s2 => T (evE con cf i ρ s2) fun y s3 => T (setIt x y v s3).up fun _ s4 => Q (.nx ρ) s4 := by simp only [evS, T_bind, T_ok]
@[simp] theorem T_expr (e : E) : T (evS con cf (.expr e) ρ s) Q = T (evE con cf e ρ s) fun _ s1 => Q (.nx ρ) s1 := by simp only [evS, T_bind, T_ok]
@[simp] theorem T_ret (e : E) : T (evS con cf (.ret e) ρ s) Q = T (evE con cf e ρ s) fun d s1 => Q (.rt d) s1 := by simp only [evS, T_bind, T_ok]
@[simp] theorem T_site (c : E) (a b : Ss) : T (evS con cf (.ite c a b) ρ s) Q = T (evE con cf c ρ s) fun d s1 => T (tru d s1) fun x s1 => if x = true then T (evSs con cf a ρ s1) Q else T (evSs con cf b ρ s1) Q := by simp only [evS, T_bind, T_ite, T_evT]
@[simp] theorem T_forr (t : Tg) (sr : Sr) (b : Ss) : T (evS con cf (.forr t sr b) ρ s) Q = T (evSr con cf sr ρ s) fun w s1 => T (forGo (evSs con cf b) t w.2 w.1 ρ s1) Q := by simp only [evS, T_bind]
@[simp] theorem T_while (c : E) (b : Ss) : T (evS con cf (.while c b) ρ s) Q = T (whGo (evT con cf c) (evSs con cf b) turns ρ s) Q := by simp only [evS]
@[simp] theorem T_brk : T (evS con cf .brk ρ s) Q = Q (.bk ρ) s := id rfl
@[simp] theorem T_cont : T (evS con cf .cont ρ s) Q = Q (.ct ρ) s := id rfl
@[simp] theorem T_pass : T (evS con cf .pass ρ s) Q = Q (.nx ρ) s := id rfl
@[simp] theorem T_retM {Q : D → Sto → Prop} (d : D) : T (retM (.rt d) s) Q = Q d s := id rfl
@[simp] theorem T_retN {Q : D → Sto → Prop} (ρ : Env) : T (retM (.nx ρ) s) Q = Q .none s := id rfl
theorem call_fn {fns : List Fn} {n k np ns : Nat} {b : Ss} {ds : List D} {Q : D → Sto → Prop} (hf : fns[k]? = some ⟨np, ns, b⟩) (hl : ds.length = np) :
    T (runN con fns (n + 1) (.fn k) ds s) Q = T (evSs con (runN con fns n) b (startE ns ds) s) fun fl s' => T (retM fl s') Q := by
  rw [runN_eq, runN_eq]
  simp only [callN, hf, hl, if_true, T_bind]
theorem call_clo {fns : List Fn} {n : Nat} {ps : List Nat} {body : E} {w ρ' : Env} {ds : List D} {Q : D → Sto → Prop} (h : setAll ps ds w = some ρ') :
    T (runN con fns (n + 1) (.clo ps body w) ds s) Q = T (evE con (runN con fns n) body ρ' s) Q := by
  rw [runN_eq, runN_eq]
  simp only [callN, h]
end
/-! ### loops -/
theorem T_for {body : Env → Sto → M Fl} {t : Tg} {g : Option (Nat × List D)} {Q : Fl → Sto → Prop} (I : List D → Env → Sto → Prop)
    (st : ∀ r ρ s, I r ρ s → still g s = true)
    (step : ∀ x r ρ s, I (x :: r) ρ s → ∃ ρ', asg t x ρ = some ρ' ∧ T (body ρ' s) fun f s1 => match f with
      | .nx ρ2 => I r ρ2 s1
      | .ct ρ2 => I r ρ2 s1
      | .bk ρ2 => Q (.nx ρ2) s1
      | .rt d => Q (.rt d) s1)
    (dn : ∀ ρ s, I [] ρ s → Q (.nx ρ) s) : ∀ xs ρ s, I xs ρ s → T (forGo body t g xs ρ s) Q
  | [], ρ, s, h => by
    simp only [forGo, T_bind, stillM, st _ _ _ h, if_true, T_ok]
    exact dn _ _ h
  | x :: r, ρ, s, h => by
    obtain ⟨ρ', e, h2⟩ := step x r ρ s h
    simp only [forGo, T_bind, turnM, st _ _ _ h, if_true, e, T_osome]
    refine h2.mono fun f s1 h3 => ?_
    cases f with
    | nx ρ2 => exact T_for I st step dn r ρ2 s1 h3
    | ct ρ2 => exact T_for I st step dn r ρ2 s1 h3
    | bk ρ2 => exact h3
    | rt d => exact h3
/-- m: how many turns are left at most -/
theorem T_wh {test : Env → Sto → M Bool} {body : Env → Sto → M Fl} {Q : Fl → Sto → Prop} (I : Nat → Env → Sto → Prop)
    (step : ∀ m ρ s, I m ρ s → T (test ρ s) fun b s1 => if b = true then 0 < m ∧ T (body ρ s1) fun f s2 => match f with
      | .nx ρ2 => I (m - 1) ρ2 s2
      | .ct ρ2 => I (m - 1) ρ2 s2
      | .bk ρ2 => Q (.nx ρ2) s2
      | .rt d => Q (.rt d) s2 else Q (.nx ρ) s1) : ∀ n m ρ s, m < n → I m ρ s → T (whGo test body n ρ s) Q
  | 0, m, ρ, s, hm, _ => absurd hm (Nat.not_lt_zero _)
  | n + 1, m, ρ, s, hm, h => by
    simp only [whGo, T_bind]
    refine (step m ρ s h).mono fun b s1 h2 => ?_
    cases b with
    | false => exact h2
    | true =>
      simp only [if_true] at h2 ⊢
      obtain ⟨h0, h2⟩ := h2
      rw [T_bind]
      refine h2.mono fun f s2 h3 => ?_
      cases f with
      | nx ρ2 => exact T_wh I step n (m - 1) ρ2 s2 (by omega) h3
      | ct ρ2 => exact T_wh I step n (m - 1) ρ2 s2 (by omega) h3
      | bk ρ2 => exact h3
      | rt d => exact h3
section
variable {α : Type} {tests : Env → Sto → M Bool} {elt ke ve : Env → Sto → M D} {t : Tg} {g : Option (Nat × List D)} {ρ : Env} {n : Nat}
theorem T_lcI {Q : Unit → Sto → Prop} (I : List D → List D → Sto → Prop) (st : ∀ r acc s, I r acc s → still g s = true)
    (step : ∀ x r acc s, I (x :: r) acc s → ∃ ρ', asg t x ρ = some ρ' ∧ T (tests ρ' s) fun b s1 => if b = true then T (elt ρ' s1) fun d s2 => s2.get n = some (.lst acc) ∧ acc.length < PySem.sizeLine ∧ I r (acc ++ [d]) (s2.put n (.lst (acc ++ [d]))) else I r acc s1)
    (dn : ∀ acc s, I [] acc s → Q () s) : ∀ xs acc s, I xs acc s → T (lcGo tests elt t g ρ n xs s) Q
  | [], acc, s, h => by
    simp only [lcGo, stillM, st _ _ _ h, if_true, T_ok]
    exact dn _ _ h
  | x :: r, acc, s, h => by
    obtain ⟨ρ', e, h2⟩ := step x r acc s h
    simp only [lcGo, T_bind, turnM, st _ _ _ h, if_true, e, T_osome, T_ite]
    refine h2.mono fun b s1 h3 => ?_
    cases b with
    | false => exact T_lcI I st step dn r acc s1 h3
    | true =>
      simp only [if_true] at h3 ⊢
      refine h3.mono fun d s2 h4 => ?_
      obtain ⟨h5, h6, h7⟩ := h4
      simp only [addL, h5, h6, if_true, T_ok]
      exact T_lcI I st step dn r _ _ h7
theorem T_tpI {Q : List D → Sto → Prop} (I : List D → List D → Sto → Prop) (st : ∀ r acc s, I r acc s → still g s = true)
    (step : ∀ x r acc s, I (x :: r) acc s → ∃ ρ', asg t x ρ = some ρ' ∧ T (tests ρ' s) fun b s1 => if b = true then T (elt ρ' s1) fun d s2 => I r (acc ++ [d]) s2 else I r acc s1)
    (dn : ∀ acc s, I [] acc s → Q acc s) : ∀ xs acc s, I xs acc s → T (tpGo tests elt t g ρ xs acc s) Q
  | [], acc, s, h => by
    simp only [tpGo, stillM, st _ _ _ h, if_true, T_ok, T_bind]
    exact dn _ _ h
  | x :: r, acc, s, h => by
    obtain ⟨ρ', e, h2⟩ := step x r acc s h
    simp only [tpGo, T_bind, turnM, st _ _ _ h, if_true, e, T_osome, T_ite]
    refine h2.mono fun b s1 h3 => ?_
    cases b with
    | false => exact T_tpI I st step dn r acc s1 h3
    | true =>
      simp only [if_true] at h3 ⊢
      exact h3.mono fun d s2 h4 => T_tpI I st step dn r _ _ h4
/-- all, any over data: each one's answer is P -/
theorem T_abP {Q : D → Sto → Prop} {stop : Bool} (enc : α → D) (P : α → Bool) (J : Sto → Prop) (st : ∀ s, J s → still g s = true) : ∀ (l : List α) (s : Sto), J s →
    (∀ x ∈ l, ∃ ρ', asg t (enc x) ρ = some ρ' ∧ ∀ s, J s → T (tests ρ' s) fun b s1 => b = true ∧ J s1 ∧ T (elt ρ' s1) fun d s2 => d = .bool (P x) ∧ J s2) →
    (∀ s, J s → Q (.bool (if stop then l.any P else l.all P)) s) → T (abGo stop tests elt t g ρ (l.map enc) s) Q
  | [], s, h, _, q => by
    simp only [List.map_nil, abGo, stillM, st _ h, if_true, T_ok, T_bind]
    have := q s h
    cases stop <;> simpa using this
  | x :: r, s, h, hx, q => by
    obtain ⟨ρ', e, h2⟩ := hx x List.mem_cons_self
    simp only [List.map_cons, abGo, T_bind, turnM, st _ h, if_true, e, T_osome, T_ite]
    refine (h2 s h).mono fun b s1 h3 => ?_
    obtain ⟨rfl, h4, h5⟩ := h3
    simp only [if_true]
    refine h5.mono fun d s2 h6 => ?_
    obtain ⟨rfl, h7⟩ := h6
    simp only [tru, D.truth, T_osome, T_ok]
    cases hp : P x == stop with
    | true =>
      have := q s2 h7
      simp only [beq_iff_eq] at hp
      simp only [if_true]
      cases stop <;> simpa [hp] using this
    | false =>
      simp only [Bool.false_eq_true, if_false]
      refine T_abP enc P J st r s2 h7 (fun y hy => hx y (List.mem_cons_of_mem _ hy)) fun s3 h8 => ?_
      have := q s3 h8
      have hn : P x = !stop := by cases h1 : P x <;> cases h2 : stop <;> simp_all
      cases stop <;> simpa [hn] using this
end
end EV
/-! PvB: data: whole numbers, pairs, texts (own work). -/
namespace EV
open PySem (Str PyData)
def iL (l : List Int) : List D := l.map .int
abbrev Pr := Int × Int
def prD (p : Pr) : D := .tup [.int p.1, .int p.2]
def pL (l : List Pr) : List D := l.map prD
def sL (l : List Str) : List D := l.map .str
@[simp] theorem ints_len (l : List Int) : (iL l).length = l.length := List.length_map ..
@[simp] theorem prs_len (l : List Pr) : (pL l).length = l.length := List.length_map ..
@[simp] theorem strs_len (l : List Str) : (sL l).length = l.length := List.length_map ..
@[simp] theorem ints_app (l m : List Int) : iL l ++ iL m = iL (l ++ m) := (List.map_append ..).symm
@[simp] theorem prs_app (l m : List Pr) : pL l ++ pL m = pL (l ++ m) := (List.map_append ..).symm
@[simp] theorem strs_app (l m : List Str) : sL l ++ sL m = sL (l ++ m) := (List.map_append ..).symm
/-! ### variables -/
@[simp] theorem getV_tup (ds : List D) (r : Env) (s : Sto) : getV (some (.tup ds) :: r) 0 s = .ok (.tup ds) s := id rfl
@[simp] theorem getV_int (i : Int) (r : Env) (s : Sto) : getV (some (.int i) :: r) 0 s = .ok (.int i) s := id rfl
@[simp] theorem getV_bool (i : Bool) (r : Env) (s : Sto) : getV (some (.bool i) :: r) 0 s = .ok (.bool i) s := id rfl
@[simp] theorem getV_str (i : Str) (r : Env) (s : Sto) : getV (some (.str i) :: r) 0 s = .ok (.str i) s := id rfl
@[simp] theorem getV_loc (i : Nat) (r : Env) (s : Sto) : getV (some (.loc i) :: r) 0 s = .ok (.loc i) s := id rfl
@[simp] theorem getV_none (r : Env) (s : Sto) : getV (some .none :: r) 0 s = .ok .none s := id rfl
@[simp] theorem getV_pr (p : Pr) (r : Env) (s : Sto) : getV (some (prD p) :: r) 0 s = .ok (prD p) s := id rfl
@[simp] theorem getV_succ (o : Option D) (r : Env) (i : Nat) (s : Sto) : getV (o :: r) (i + 1) s = getV r i s := id rfl
@[simp] theorem getF_clo (ps : List Nat) (b : E) (w : Env) (r : Env) (s : Sto) : getF (some (.clo ps b w) :: r) 0 s = .ok (.clo ps b w) s := id rfl
@[simp] theorem getF_succ (o : Option D) (r : Env) (i : Nat) (s : Sto) : getF (o :: r) (i + 1) s = getF r i s := id rfl
@[simp] theorem getV_1 (o : Option D) (r : Env) (s : Sto) : getV (o :: r) 1 s = getV r 0 s := id rfl
@[simp] theorem getV_2 (o : Option D) (r : Env) (s : Sto) : getV (o :: r) 2 s = getV r 1 s := id rfl
@[simp] theorem getV_3 (o : Option D) (r : Env) (s : Sto) : getV (o :: r) 3 s = getV r 2 s := id rfl
@[simp] theorem getV_4 (o : Option D) (r : Env) (s : Sto) : getV (o :: r) 4 s = getV r 3 s := id rfl
@[simp] theorem getV_5 (o : Option D) (r : Env) (s : Sto) : getV (o :: r) 5 s = getV r 4 s := id rfl
@[simp] theorem getV_6 (o : Option D) (r : Env) (s : Sto) : getV (o :: r) 6 s = getV r 5 s := id rfl
@[simp] theorem getV_7 (o : Option D) (r : Env) (s : Sto) : getV (o :: r) 7 s = getV r 6 s := id rfl
@[simp] theorem getV_8 (o : Option D) (r : Env) (s : Sto) : getV (o :: r) 8 s = getV r 7 s := id rfl
@[simp] theorem getV_9 (o : Option D) (r : Env) (s : Sto) : getV (o :: r) 9 s = getV r 8 s := id rfl
@[simp] theorem getV_10 (o : Option D) (r : Env) (s : Sto) : getV (o :: r) 10 s = getV r 9 s := id rfl
@[simp] theorem getV_11 (o : Option D) (r : Env) (s : Sto) : getV (o :: r) 11 s = getV r 10 s := id rfl
@[simp] theorem getV_12 (o : Option D) (r : Env) (s : Sto) : getV (o :: r) 12 s = getV r 11 s := id rfl
@[simp] theorem getV_13 (o : Option D) (r : Env) (s : Sto) : getV (o :: r) 13 s = getV r 12 s := id rfl
@[simp] theorem getV_14 (o : Option D) (r : Env) (s : Sto) : getV (o :: r) 14 s = getV r 13 s := id rfl
@[simp] theorem getF_1 (o : Option D) (r : Env) (s : Sto) : getF (o :: r) 1 s = getF r 0 s := id rfl
/-! ### reading data -/
theorem mapM_enc {α β γ : Type} {f : β → Option γ} {enc : α → β} {g : α → γ} (h : ∀ x, f (enc x) = some (g x)) : ∀ l : List α, (l.map enc).mapM f = some (l.map g)
  | [] => rfl
  | x :: r => by simp [List.mapM_cons, h x, mapM_enc h r]
section
variable {s : Sto}
@[simp] theorem read_int (n : Nat) (i : Int) : D.read s (n + 1) (.int i) = some (.int i) := id rfl
@[simp] theorem read_bool (n : Nat) (i : Bool) : D.read s (n + 1) (.bool i) = some (.bool i) := id rfl
@[simp] theorem read_str (n : Nat) (i : Str) : D.read s (n + 1) (.str i) = some (.str i) := id rfl
def pI (l : List Int) : List PyData := l.map .int
def pP (p : Pr) : PyData := .tuple [.int p.1, .int p.2]
def pS (l : List Str) : List PyData := l.map .str
@[simp] theorem read_ints (n : Nat) (l : List Int) : D.read s (n + 2) (.tup (iL l)) = some (.tuple (pI l)) := by
  show Option.map _ ((iL l).mapM (D.read s (n + 1))) = _
  rw [show (iL l).mapM (D.read s (n + 1)) = some (pI l) from mapM_enc (enc := D.int) (g := PyData.int) (fun _ => rfl) l]
  rfl
@[simp] theorem read_pr (n : Nat) (p : Pr) : D.read s (n + 2) (prD p) = some (pP p) := id rfl
theorem canI : ∀ l : List Int, PyData.canLayAll0 (pI l) = true
  | [] => rfl
  | i :: r => by
    show (PyData.canLay0 (.int i) && PyData.canLayAll0 (pI r)) = true
    rw [canI r]; rfl
theorem depI : ∀ l : List Int, PyData.depthAll (pI l) = 0
  | [] => rfl
  | i :: r => by
    show max (PyData.depth (.int i)) (PyData.depthAll (pI r)) = 0
    rw [depI r]; rfl
theorem canP : ∀ l : List Pr, PyData.canLayAll0 (l.map pP) = true
  | [] => rfl
  | i :: r => by
    show (PyData.canLay0 (pP i) && PyData.canLayAll0 (r.map pP)) = true
    rw [canP r]; rfl
theorem depP : ∀ l : List Pr, PyData.depthAll (l.map pP) ≤ 1
  | [] => Nat.zero_le _
  | i :: r => by
    show max (PyData.depth (pP i)) (PyData.depthAll (r.map pP)) ≤ 1
    have := depP r
    have h : PyData.depth (pP i) = 1 := rfl
    omega
@[simp] theorem rd_int (i : Int) : (D.int i).rd s = some (.int i) := id rfl
@[simp] theorem rd_pr (p : Pr) : (prD p).rd s = some (pP p) := id rfl
@[simp] theorem rd_ints (l : List Int) : (D.tup (iL l)).rd s = some (.tuple (pI l)) := by
  unfold D.rd deep
  rw [read_ints]
  have : PySem.SeqAt.shaped (.tuple (pI l)) = true := by
    unfold PySem.SeqAt.shaped
    show (PyData.canLayAll0 (pI l) && decide (PyData.depthAll (pI l) + 1 ≤ 64)) = true
    rw [canI, depI]; rfl
  simp only [this, if_true]
@[simp] theorem rd_prs (l : List Pr) : (D.tup (pL l)).rd s = some (.tuple (l.map pP)) := by
  unfold D.rd deep
  have h : D.read s 20 (.tup (pL l)) = some (.tuple (l.map pP)) := by
    show Option.map _ ((pL l).mapM (D.read s 19)) = _
    rw [show (pL l).mapM (D.read s 19) = some (l.map pP) from mapM_enc (enc := prD) (g := pP) (fun _ => rfl) l]
    rfl
  rw [h]
  have : PySem.SeqAt.shaped (.tuple (l.map pP)) = true := by
    unfold PySem.SeqAt.shaped
    show (PyData.canLayAll0 (l.map pP) && decide (PyData.depthAll (l.map pP) + 1 ≤ 64)) = true
    have := depP l
    rw [canP, Bool.true_and, decide_eq_true_eq]; omega
  simp only [this, if_true]
theorem eqv_int (i j : Int) : PyData.eqv (.int i) (.int j) = (i == j) := by simp [PyData.eqv]
theorem eqv_pr (p q : Pr) : PyData.eqv (pP p) (pP q) = decide (p = q) := by
  unfold pP
  simp [PyData.eqv, PyData.eqvAll, Prod.ext_iff]
  rfl
theorem eqv_ints : ∀ l m : List Int, PyData.eqvAll (pI l) (pI m) = decide (l = m)
  | [], [] => by simp [pI, PyData.eqvAll]
  | [], _ :: _ => by simp [pI, PyData.eqvAll]
  | _ :: _, [] => by simp [pI, PyData.eqvAll]
  | i :: l, j :: m => by
    have := eqv_ints l m
    unfold pI at this ⊢
    simp [PyData.eqvAll, PyData.eqv, this]
    by_cases h : i = j <;> simp [h]
theorem eqv_prs : ∀ l m : List Pr, PyData.eqvAll (l.map pP) (m.map pP) = decide (l = m)
  | [], [] => by simp [PyData.eqvAll]
  | [], _ :: _ => by simp [PyData.eqvAll]
  | _ :: _, [] => by simp [PyData.eqvAll]
  | i :: l, j :: m => by
    simp only [List.map_cons, PyData.eqvAll, eqv_prs l m, eqv_pr]
    by_cases h : i = j <;> simp [h]
@[simp] theorem isIn_ints (i : Int) (l : List Int) : isIn (.int i) (.tup (iL l)) s = some (decide (i ∈ l)) := by
  simp only [isIn, rd_int, rd_ints]
  congr 1
  unfold pI
  rw [Bool.eq_iff_iff]
  simp [PyData.eqv]
@[simp] theorem isIn_prs (i : Pr) (l : List Pr) : isIn (prD i) (.tup (pL l)) s = some (decide (i ∈ l)) := by
  simp only [isIn, rd_pr, rd_prs]
  congr 1
  rw [Bool.eq_iff_iff]
  simp only [List.any_map, List.any_eq_true, Function.comp_apply, eqv_pr, decide_eq_true_eq]
  simp
@[simp] theorem eqD_int (i j : Int) : eqD (.int i) (.int j) s = some (decide (i = j)) := by
  simp only [eqD, rd_int, PyData.eqv]
  by_cases h : i = j <;> simp [h]
@[simp] theorem eqD_ints (l m : List Int) : eqD (.tup (iL l)) (.tup (iL m)) s = some (decide (l = m)) := by
  simp only [eqD, rd_ints, PyData.eqv, eqv_ints]
@[simp] theorem eqD_prs (l m : List Pr) : eqD (.tup (pL l)) (.tup (pL m)) s = some (decide (l = m)) := by
  simp only [eqD, rd_prs, PyData.eqv, eqv_prs]
@[simp] theorem eqD_pr (l m : Pr) : eqD (prD l) (prD m) s = some (decide (l = m)) := by
  simp only [eqD, rd_pr, eqv_pr]
/-! lists of the store -/
@[simp] theorem rd_lints {k : Nat} {l : List Int} (h : s.get k = some (.lst (iL l))) : (D.loc k).rd s = some (.list (pI l)) := by
  unfold D.rd deep
  have e : D.read s 20 (.loc k) = some (.list (pI l)) := by
    show (match s.get k with
      | some (.lst xs) => (xs.mapM (D.read s 19)).map PyData.list
      | some (.ro xs) => (xs.mapM (D.read s 19)).map .list
      | _ => Option.none) = _
    rw [h]
    show Option.map _ ((iL l).mapM (D.read s 19)) = _
    rw [show (iL l).mapM (D.read s 19) = some (pI l) from mapM_enc (enc := D.int) (g := PyData.int) (fun _ => rfl) l]
    rfl
  rw [e]
  have : PySem.SeqAt.shaped (.list (pI l)) = true := by
    unfold PySem.SeqAt.shaped
    show (PyData.canLayAll0 (pI l) && decide (PyData.depthAll (pI l) + 1 ≤ 64)) = true
    rw [canI, depI]; rfl
  simp only [this, if_true]
theorem isIn_lints {k : Nat} {l : List Int} (h : s.get k = some (.lst (iL l))) (i : Int) : isIn (.int i) (.loc k) s = some (decide (i ∈ l)) := by
  simp only [isIn, rd_int, h, rd_lints h]
  congr 1
  unfold pI
  rw [Bool.eq_iff_iff]
  simp [PyData.eqv]
theorem eqD_lints {k m : Nat} {l l' : List Int} (h : s.get k = some (.lst (iL l))) (h' : s.get m = some (.lst (iL l'))) : eqD (.loc k) (.loc m) s = some (decide (l = l')) := by
  simp only [eqD, rd_lints h, rd_lints h', PyData.eqv, eqv_ints]
end
/-! ### the store -/
@[simp] theorem get_push_self (s : Sto) (o : O) : (s.push o).get s.nxt = some o := by
  unfold Sto.push Sto.get Sto.nxt
  simp
@[simp] theorem put_push_self (s : Sto) (o u : O) : (s.push o).put s.nxt u = s.push u := by
  unfold Sto.push Sto.put Sto.nxt
  simp
theorem get_push {s : Sto} {k : Nat} {o u : O} (h : s.get k = some u) : (s.push o).get k = some u := by
  unfold Sto.push Sto.get at *
  obtain ⟨hk, e⟩ := List.getElem?_eq_some_iff.mp h
  rw [List.getElem?_append_left hk, h]
theorem get_put_ne {s : Sto} {k n : Nat} {o : O} (h : k ≠ n) : (s.put n o).get k = s.get k := by
  unfold Sto.put Sto.get
  rw [List.getElem?_set_ne (Ne.symm h)]
theorem get_lt {s : Sto} {k : Nat} {u : O} (h : s.get k = some u) : k < s.nxt := by
  unfold Sto.get at h
  exact (List.getElem?_eq_some_iff.mp h).1
theorem get_put_self {s : Sto} {k : Nat} {o u : O} (h : s.get k = some u) : (s.put k o).get k = some o := by
  have := get_lt h
  unfold Sto.put Sto.get Sto.nxt at *
  rw [List.getElem?_set_self this]
/-- nothing that was there is changed -/
def Ex (s s' : Sto) : Prop := ∀ k o, s.get k = some o → s'.get k = some o
theorem Ex.refl (s : Sto) : Ex s s := fun _ _ h => h
theorem Ex.trans {a b c : Sto} (h : Ex a b) (g : Ex b c) : Ex a c := fun k o e => g k o (h k o e)
theorem Ex.push (s : Sto) (o : O) : Ex s (s.push o) := fun _ _ h => get_push h
theorem Ex.le {a b : Sto} (h : Ex a b) : a.nxt ≤ b.nxt := by
  cases ha : a.nxt with
  | zero => exact Nat.zero_le _
  | succ k =>
    have hk : k < a.length := by unfold Sto.nxt at ha; omega
    obtain ⟨o, ho⟩ : ∃ o, a.get k = some o := ⟨a[k], List.getElem?_eq_getElem hk⟩
    exact get_lt (h k o ho)
/-- a place that was not there is written -/
theorem Ex.put {a b : Sto} (h : Ex a b) {n : Nat} (hn : a.nxt ≤ n) (o : O) : Ex a (b.put n o) := fun k u e => by
  have := get_lt e
  rw [get_put_ne (by omega)]
  exact h k u e
end EV
/-! PvC: more rules (own work). -/
namespace EV
open PySem (Str PyData)
section
variable {s : Sto} {Q : Bool → Sto → Prop}
@[simp] theorem T_trub (b : Bool) : T (tru (.bool b) s) Q = Q b s := id rfl
@[simp] theorem T_trun : T (tru .none s) Q = Q false s := id rfl
@[simp] theorem T_trut (ds : List D) : T (tru (.tup ds) s) Q = Q (!ds.isEmpty) s := id rfl
@[simp] theorem cpB_eq (x y : D) : T (cpB .eq x y s) Q = T (.ofO (eqD x y s) s) Q := id rfl
@[simp] theorem cpB_ne (x y : D) : T (cpB .ne x y s) Q = T (.ofO ((eqD x y s).map (!·)) s) Q := id rfl
@[simp] theorem cpB_in (x y : D) : T (cpB .isin x y s) Q = T (.ofO (isIn x y s) s) Q := id rfl
@[simp] theorem cpB_ni (x y : D) : T (cpB .notin x y s) Q = T (.ofO ((isIn x y s).map (!·)) s) Q := id rfl
@[simp] theorem cpB_is (x : D) : T (cpB .is_ x .none s) Q = Q x.isN s := id rfl
@[simp] theorem cpB_isn (x : D) : T (cpB .isnot x .none s) Q = Q (!x.isN) s := id rfl
@[simp] theorem cpB_lt (i j : Int) : T (cpB .lt (.int i) (.int j) s) Q = Q (decide (i < j)) s := id rfl
@[simp] theorem cpB_le (i j : Int) : T (cpB .le (.int i) (.int j) s) Q = Q (decide (i ≤ j)) s := id rfl
@[simp] theorem cpB_gt (i j : Int) : T (cpB .gt (.int i) (.int j) s) Q = Q (decide (j < i)) s := id rfl
@[simp] theorem cpB_ge (i j : Int) : T (cpB .ge (.int i) (.int j) s) Q = Q (decide (j ≤ i)) s := id rfl
end
@[simp] theorem isN_tup (ds : List D) : (D.tup ds).isN = false := id rfl
@[simp] theorem isN_none : D.none.isN = true := id rfl
@[simp] theorem walk_tup (ds : List D) (s : Sto) : walkOf (.tup ds) s = some (ds, none) := id rfl
@[simp] theorem o2_addi (i j : Int) (s : Sto) : o2 .add (.int i) (.int j) s = .ok (.int (i + j)) s := id rfl
@[simp] theorem o2_subi (i j : Int) (s : Sto) : o2 .sub (.int i) (.int j) s = .ok (.int (i - j)) s := id rfl
@[simp] theorem o2_addt (x y : List D) (s : Sto) : o2 .add (.tup x) (.tup y) s = mkTup (x ++ y) s := id rfl
@[simp] theorem len_tup (x : List D) (s : Sto) : bf .len [.tup x] s = .ok (.int x.length) s := id rfl
@[simp] theorem tuple_tup (x : List D) (s : Sto) : bf .tuple [.tup x] s = .ok (.tup x) s := id rfl
@[simp] theorem int_int (i : Int) (s : Sto) : bf .int [.int i] s = .ok (.int i) s := id rfl
theorem T_mkTup {xs : List D} {s : Sto} {Q : D → Sto → Prop} (h : xs.length ≤ 100000) : T (mkTup xs s).up Q = Q (.tup xs) s := by
  unfold mkTup inLine
  have : xs.length ≤ PySem.sizeLine := Nat.le_trans h (by decide)
  simp only [this, decide_true, if_true, T_upok]
theorem T_mkList {xs : List D} {s : Sto} {Q : D → Sto → Prop} (h : xs.length ≤ 100000) : T (mkList xs s).up Q = Q (.loc s.nxt) (s.push (.lst xs)) := by
  unfold mkList inLine
  have : xs.length ≤ PySem.sizeLine := Nat.le_trans h (by decide)
  simp only [this, decide_true, if_true, T_upok]
@[simp] theorem mkTup0 {s : Sto} {Q : D → Sto → Prop} : T (mkTup [] s).up Q = Q (.tup []) s := T_mkTup (by simp)
@[simp] theorem mkTup1 {a : D} {s : Sto} {Q : D → Sto → Prop} : T (mkTup [a] s).up Q = Q (.tup [a]) s := T_mkTup (by simp)
@[simp] theorem mkTup2 {a b : D} {s : Sto} {Q : D → Sto → Prop} : T (mkTup [a, b] s).up Q = Q (.tup [a, b]) s := T_mkTup (by simp)
@[simp] theorem mkTup3 {a b c : D} {s : Sto} {Q : D → Sto → Prop} : T (mkTup [a, b, c] s).up Q = Q (.tup [a, b, c]) s := T_mkTup (by simp)
@[simp] theorem mkList0 {s : Sto} {Q : D → Sto → Prop} : T (mkList [] s).up Q = Q (.loc s.nxt) (s.push (.lst [])) := T_mkList (by simp)
@[simp] theorem mkList1 {a : D} {s : Sto} {Q : D → Sto → Prop} : T (mkList [a] s).up Q = Q (.loc s.nxt) (s.push (.lst [a])) := T_mkList (by simp)
@[simp] theorem mkList2 {a b : D} {s : Sto} {Q : D → Sto → Prop} : T (mkList [a, b] s).up Q = Q (.loc s.nxt) (s.push (.lst [a, b])) := T_mkList (by simp)
theorem tuple_loc {k : Nat} {xs : List D} {s : Sto} (h : s.get k = some (.lst xs)) : bf .tuple [.loc k] s = .ok (.tup xs) s := by simp only [bf, D.items, h]
theorem walk_loc {k : Nat} {xs : List D} {s : Sto} (h : s.get k = some (.lst xs)) : walkOf (.loc k) s = some (xs, some (k, xs)) := by simp only [walkOf, h]
/-! the first items -/
@[simp] theorem ix_0 (a : D) (r : List D) (s : Sto) : ix (.tup (a :: r)) (.int 0) s = .ok a s := by simp [ix, atI, L2.atI, L2.ixN]
@[simp] theorem ix_1 (a b : D) (r : List D) (s : Sto) : ix (.tup (a :: b :: r)) (.int 1) s = .ok b s := by
  simp [ix, atI, L2.atI, L2.ixN]
  rw [if_pos (by omega)]; rfl
@[simp] theorem ix_2 (a b c : D) (r : List D) (s : Sto) : ix (.tup (a :: b :: c :: r)) (.int 2) s = .ok c s := by
  simp [ix, atI, L2.atI, L2.ixN]
  rw [if_pos (by omega)]; rfl
@[simp] theorem ix_p0 (p : Pr) (s : Sto) : ix (prD p) (.int 0) s = .ok (.int p.1) s := by simp [prD]
@[simp] theorem ix_p1 (p : Pr) (s : Sto) : ix (prD p) (.int 1) s = .ok (.int p.2) s := by simp [prD]
/-! the same items -/
theorem eqbs_iL : ∀ l : List Int, D.eqbs (iL l) (iL l) = true
  | [] => rfl
  | i :: r => by
    show (D.eqb (.int i) (.int i) && D.eqbs (iL r) (iL r)) = true
    rw [eqbs_iL r]; simp [D.eqb]
theorem eqbs_pL : ∀ l : List Pr, D.eqbs (pL l) (pL l) = true
  | [] => rfl
  | i :: r => by
    show (D.eqb (prD i) (prD i) && D.eqbs (pL r) (pL r)) = true
    rw [eqbs_pL r]; simp [D.eqb, D.eqbs, prD]
@[simp] theorem still_none (s : Sto) : still none s = true := id rfl
theorem still_pL {k : Nat} {l : List Pr} {s : Sto} (h : s.get k = some (.lst (pL l))) : still (some (k, pL l)) s = true := by simp only [still, h, eqbs_pL]
theorem still_iL {k : Nat} {l : List Int} {s : Sto} (h : s.get k = some (.lst (iL l))) : still (some (k, iL l)) s = true := by simp only [still, h, eqbs_iL]
@[simp] theorem asg_n (i : Nat) (d : D) (ρ : Env) : asg (.n i) d ρ = some (ρ.set i (some d)) := id rfl
@[simp] theorem asg_t2 (i j : Nat) (a b : D) (ρ : Env) : asg (.t (.cons (.n i) (.cons (.n j) .nil))) (.tup [a, b]) ρ = some ((ρ.set i (some a)).set j (some b)) := id rfl
@[simp] theorem asg_p2 (i j : Nat) (p : Pr) (ρ : Env) : asg (.t (.cons (.n i) (.cons (.n j) .nil))) (prD p) ρ = some ((ρ.set i (some (.int p.1))).set j (some (.int p.2))) := id rfl
@[simp] theorem unp_2 (i j : Nat) (a b : D) (ρ : Env) (s : Sto) : unp (.t (.cons (.n i) (.cons (.n j) .nil))) (.tup [a, b]) ρ s = some ((ρ.set i (some a)).set j (some b)) := id rfl
@[simp] theorem unp_3 (i j k : Nat) (a b c : D) (ρ : Env) (s : Sto) : unp (.t (.cons (.n i) (.cons (.n j) (.cons (.n k) .nil)))) (.tup [a, b, c]) ρ s = some (((ρ.set i (some a)).set j (some b)).set k (some c)) := id rfl
section
variable {α : Type} {tests : Env → Sto → M Bool} {elt ke ve : Env → Sto → M D} {t : Tg} {g : Option (Nat × List D)} {ρ : Env} {n : Nat}
/-- tuple(..): each one's test is P, its item F -/
theorem T_tpP {Q : List D → Sto → Prop} {enc : α → D} {J : Sto → Prop} (P : α → Bool) (F : α → D) (st : ∀ s, J s → still g s = true) : ∀ (l : List α) (acc : List D) (s : Sto), J s →
    (∀ x ∈ l, ∃ ρ', asg t (enc x) ρ = some ρ' ∧ ∀ s, J s → T (tests ρ' s) fun b s1 => b = P x ∧ J s1 ∧ (P x = true → T (elt ρ' s1) fun d s2 => d = F x ∧ J s2)) →
    (∀ s, J s → Q (acc ++ (l.filter P).map F) s) → T (tpGo tests elt t g ρ (l.map enc) acc s) Q
  | [], acc, s, h, _, q => by
    simp only [List.map_nil, tpGo, stillM, st _ h, if_true, T_ok, T_bind]
    simpa using q s h
  | x :: r, acc, s, h, hx, q => by
    obtain ⟨ρ', e, h2⟩ := hx x List.mem_cons_self
    simp only [List.map_cons, tpGo, T_bind, turnM, st _ h, if_true, e, T_osome, T_ite]
    refine (h2 s h).mono fun b s1 h3 => ?_
    obtain ⟨rfl, h4, h5⟩ := h3
    cases hp : P x with
    | false =>
      simp only [Bool.false_eq_true, if_false]
      exact T_tpP P F st r acc s1 h4 (fun y hy => hx y (List.mem_cons_of_mem _ hy)) fun s3 h8 => by
        have := q s3 h8
        rwa [List.filter_cons_of_neg (by simp [hp])] at this
    | true =>
      simp only [if_true]
      refine (h5 hp).mono fun d s2 h6 => ?_
      obtain ⟨rfl, h7⟩ := h6
      exact T_tpP P F st r _ s2 h7 (fun y hy => hx y (List.mem_cons_of_mem _ hy)) fun s3 h8 => by
        have := q s3 h8
        rw [List.filter_cons_of_pos hp] at this
        simpa using this
/-- a list's comprehension over the store s0 -/
theorem T_lcP {Q : Unit → Sto → Prop} {enc : α → D} (s0 : Sto) (P : α → Bool) (F : α → D) (st : ∀ acc, still g (s0.push (.lst acc)) = true) : ∀ (l : List α) (acc : List D),
    (∀ x ∈ l, ∃ ρ', asg t (enc x) ρ = some ρ' ∧ ∀ acc, T (tests ρ' (s0.push (.lst acc))) fun b s1 => b = P x ∧ s1 = s0.push (.lst acc) ∧ (P x = true → T (elt ρ' s1) fun d s2 => d = F x ∧ s2 = s0.push (.lst acc))) →
    acc.length + l.length ≤ 100000 → Q () (s0.push (.lst (acc ++ (l.filter P).map F))) → T (lcGo tests elt t g ρ s0.nxt (l.map enc) (s0.push (.lst acc))) Q
  | [], acc, _, _, q => by
    simp only [List.map_nil, lcGo, stillM, st, if_true, T_ok]
    simpa using q
  | x :: r, acc, hx, hl, q => by
    obtain ⟨ρ', e, h2⟩ := hx x List.mem_cons_self
    simp only [List.map_cons, lcGo, T_bind, turnM, st, if_true, e, T_osome, T_ite]
    simp only [List.length_cons] at hl
    refine (h2 acc).mono fun b s1 h3 => ?_
    obtain ⟨rfl, rfl, h5⟩ := h3
    cases hp : P x with
    | false =>
      simp only [Bool.false_eq_true, if_false]
      refine T_lcP s0 P F st r acc (fun y hy => hx y (List.mem_cons_of_mem _ hy)) (by omega) ?_
      rwa [List.filter_cons_of_neg (by simp [hp])] at q
    | true =>
      simp only [if_true]
      refine (h5 hp).mono fun d s2 h6 => ?_
      obtain ⟨rfl, rfl⟩ := h6
      have : acc.length < PySem.sizeLine := Nat.lt_of_lt_of_le (show acc.length < 100000 by omega) (by decide)
      simp only [addL, get_push_self, this, if_true, T_ok, put_push_self]
      refine T_lcP s0 P F st r _ (fun y hy => hx y (List.mem_cons_of_mem _ hy)) (by simp; omega) ?_
      rw [List.filter_cons_of_pos hp] at q
      simpa using q
end
end EV
/-! a law s defs, printed by a program of one s own -/
namespace EV
abbrev k_is_whole : Nat := 0
abbrev k_is_number : Nat := 1
abbrev k_is_name : Nat := 2
abbrev k_wrong_names : Nat := 3
abbrev k_is_pair : Nat := 4
abbrev k_wrong_pairs : Nat := 5
abbrev k_has_ring : Nat := 6
abbrev k_wrong_diagram : Nat := 7
abbrev k_need_diagram : Nat := 8
abbrev k_count_of : Nat := 9
abbrev k_is_set : Nat := 10
abbrev k_need_set : Nat := 11
abbrev k_need_apart : Nat := 12
abbrev k_parents_so : Nat := 13
abbrev k_spread : Nat := 14
abbrev k_above_so : Nat := 15
abbrev k_can_step : Nat := 16
abbrev k_steps_of : Nat := 17
abbrev k_goes_on : Nat := 18
abbrev k_apart_so : Nat := 19
abbrev k_need_three : Nat := 20
abbrev k_apart : Nat := 21
abbrev k_law_begin : Nat := 22
abbrev k_law_mixed : Nat := 23
abbrev k_law_draw : Nat := 24
abbrev k_law_of : Nat := 25
abbrev k_law_shuffled : Nat := 26
abbrev k_law_names : Nat := 27
abbrev k_law_diagram : Nat := 28
abbrev k_law_sets : Nat := 29
abbrev k_law_above : Nat := 30
abbrev k_law_same : Nat := 31
abbrev k_law_near : Nat := 32
abbrev k_law_reached : Nat := 33
abbrev k_law_apart : Nat := 34
abbrev k_law_some_set : Nat := 35
abbrev k_law_thin : Nat := 36
abbrev k_law_any : Nat := 37
abbrev k_law_told : Nat := 38
abbrev k_law_sets_right : Nat := 39
abbrev k_law_weak : Nat := 40
abbrev k_law : Nat := 41
/-- value -/
def b_is_whole : Ss := Ss.cons
  (S.ret (E.and (E.isi (E.var 0) (Ty.int)) (E.not (E.isi (E.var 0) (Ty.bool)))))
  (Ss.nil)
/-- value, least, most -/
def b_is_number : Ss := Ss.cons
  (S.ret
    (E.and
      (E.call k_is_whole (Es.cons (E.var 0) (Es.nil)))
      (E.cmp2 (Cp.le) (Cp.le) (E.var 1) (E.var 0) (E.var 2))))
  (Ss.nil)
/-- value, sign -/
def b_is_name : Ss := Ss.cons
  (S.ite
    (E.or
      (E.not (E.isi (E.var 0) (Ty.str)))
      (E.not
        (E.cmp2
          (Cp.le)
          (Cp.le)
          (E.int 1)
          (E.bf (Bf.len) (Es.cons (E.var 0) (Es.nil)))
          (E.con 2))))
    (Ss.cons (S.ret (E.bool false)) (Ss.nil))
    (Ss.nil))
  (Ss.cons
    (S.ite
      (E.cmp (Cp.notin) (E.idx (E.var 0) (E.int 0)) (E.con 0))
      (Ss.cons (S.ret (E.bool false)) (Ss.nil))
      (Ss.nil))
    (Ss.cons
      (S.ret
        (E.gen
          (Gk.all)
          (Sr.e (E.var 0))
          (Tg.n 1)
          [1]
          (Es.nil)
          (E.or
            (E.cmp (Cp.isin) (E.var 1) (E.con 0))
            (E.cmp (Cp.isin) (E.var 1) (E.con 1)))))
      (Ss.nil)))
/-- value, number, name -/
def b_wrong_names : Ss := Ss.cons
  (S.ite
    (E.or
      (E.not (E.isi (E.var 0) (Ty.tuple)))
      (E.not
        (E.cmp2
          (Cp.le)
          (Cp.le)
          (E.int 1)
          (E.bf (Bf.len) (Es.cons (E.var 0) (Es.nil)))
          (E.con 3))))
    (Ss.cons (S.ret (E.tup (Es.nil))) (Ss.nil))
    (Ss.nil))
  (Ss.cons
    (S.forr
      (Tg.t (Tgs.cons (Tg.n 1) (Tgs.cons (Tg.n 2) (Tgs.nil))))
      (Sr.enum (E.var 0))
      (Ss.cons
        (S.ite
          (E.or
            (E.not (E.call k_is_name (Es.cons (E.var 2) (Es.nil))))
            (E.cmp (Cp.isin) (E.var 2) (E.slc (E.var 0) (Eo.none) (Eo.some (E.var 1)))))
          (Ss.cons (S.ret (E.tup (Es.cons (E.var 1) (Es.nil)))) (Ss.nil))
          (Ss.nil))
        (Ss.nil)))
    (Ss.cons (S.ret (E.none)) (Ss.nil)))
/-- value, count, one -/
def b_is_pair : Ss := Ss.cons
  (S.ite
    (E.or
      (E.not (E.isi (E.var 0) (Ty.tuple)))
      (E.cmp (Cp.ne) (E.bf (Bf.len) (Es.cons (E.var 0) (Es.nil))) (E.int 2)))
    (Ss.cons (S.ret (E.bool false)) (Ss.nil))
    (Ss.nil))
  (Ss.cons
    (S.ret
      (E.and
        (E.gen
          (Gk.all)
          (Sr.e (E.var 0))
          (Tg.n 2)
          [2]
          (Es.nil)
          (E.call
            1
            (Es.cons
              (E.var 2)
              (Es.cons (E.int 0) (Es.cons (E.bin (O2.sub) (E.var 1) (E.int 1)) (Es.nil))))))
        (E.cmp (Cp.ne) (E.idx (E.var 0) (E.int 0)) (E.idx (E.var 0) (E.int 1)))))
    (Ss.nil))
/-- value, count, rising, number, pair -/
def b_wrong_pairs : Ss := Ss.cons
  (S.ite
    (E.not (E.isi (E.var 0) (Ty.tuple)))
    (Ss.cons (S.ret (E.tup (Es.nil))) (Ss.nil))
    (Ss.nil))
  (Ss.cons
    (S.forr
      (Tg.t (Tgs.cons (Tg.n 3) (Tgs.cons (Tg.n 4) (Tgs.nil))))
      (Sr.enum (E.var 0))
      (Ss.cons
        (S.ite
          (E.or
            (E.not (E.call k_is_pair (Es.cons (E.var 4) (Es.cons (E.var 1) (Es.nil)))))
            (E.and
              (E.var 2)
              (E.cmp (Cp.gt) (E.idx (E.var 4) (E.int 0)) (E.idx (E.var 4) (E.int 1)))))
          (Ss.cons (S.ret (E.tup (Es.cons (E.var 3) (Es.nil)))) (Ss.nil))
          (Ss.nil))
        (Ss.cons
          (S.ite
            (E.and
              (E.cmp (Cp.gt) (E.var 3) (E.int 0))
              (E.cmp
                (Cp.ge)
                (E.idx (E.var 0) (E.bin (O2.sub) (E.var 3) (E.int 1)))
                (E.var 4)))
            (Ss.cons (S.ret (E.tup (Es.cons (E.var 3) (Es.nil)))) (Ss.nil))
            (Ss.nil))
          (Ss.nil))))
    (Ss.cons (S.ret (E.none)) (Ss.nil)))
/-- count, arrows, going, free, left, one, arrow -/
def b_has_ring : Ss := Ss.cons
  (S.set
    4
    (E.bf
      (Bf.list)
      (Es.cons
        (E.gen (Gk.tuple) (Sr.rng1 (E.var 0)) (Tg.n 0) [] (Es.nil) (E.var 0))
        (Es.nil))))
  (Ss.cons
    (S.set 2 (E.bool true))
    (Ss.cons
      (S.while
        (E.var 2)
        (Ss.cons
          (S.set
            3
            (E.gen
              (Gk.list)
              (Sr.e (E.var 4))
              (Tg.n 5)
              [5]
              (Es.cons
                (E.not
                  (E.gen
                    (Gk.any)
                    (Sr.e (E.var 1))
                    (Tg.n 6)
                    [6]
                    (Es.nil)
                    (E.and
                      (E.cmp (Cp.eq) (E.idx (E.var 6) (E.int 1)) (E.var 5))
                      (E.cmp (Cp.isin) (E.idx (E.var 6) (E.int 0)) (E.var 4)))))
                (Es.nil))
              (E.var 5)))
          (Ss.cons
            (S.set 2 (E.cmp (Cp.ne) (E.var 3) (E.lst (Es.nil))))
            (Ss.cons
              (S.set
                4
                (E.gen
                  (Gk.list)
                  (Sr.e (E.var 4))
                  (Tg.n 5)
                  [5]
                  (Es.cons (E.cmp (Cp.notin) (E.var 5) (E.var 3)) (Es.nil))
                  (E.var 5)))
              (Ss.nil)))))
      (Ss.cons (S.ret (E.cmp (Cp.ne) (E.var 4) (E.lst (Es.nil)))) (Ss.nil))))
/-- value, names, arrows, ties, wrong -/
def b_wrong_diagram : Ss := Ss.cons
  (S.ite
    (E.or
      (E.not (E.isi (E.var 0) (Ty.tuple)))
      (E.cmp (Cp.ne) (E.bf (Bf.len) (Es.cons (E.var 0) (Es.nil))) (E.int 3)))
    (Ss.cons (S.ret (E.tup (Es.nil))) (Ss.nil))
    (Ss.nil))
  (Ss.cons
    (S.unp
      (Tg.t (Tgs.cons (Tg.n 1) (Tgs.cons (Tg.n 2) (Tgs.cons (Tg.n 3) (Tgs.nil)))))
      (E.var 0))
    (Ss.cons
      (S.set 4 (E.call k_wrong_names (Es.cons (E.var 1) (Es.nil))))
      (Ss.cons
        (S.ite
          (E.cmp (Cp.isnot) (E.var 4) (E.none))
          (Ss.cons
            (S.ret (E.bin (O2.add) (E.tup (Es.cons (E.int 0) (Es.nil))) (E.var 4)))
            (Ss.nil))
          (Ss.nil))
        (Ss.cons
          (S.set
            4
            (E.call
              5
              (Es.cons
                (E.var 2)
                (Es.cons
                  (E.bf (Bf.len) (Es.cons (E.var 1) (Es.nil)))
                  (Es.cons (E.bool false) (Es.nil))))))
          (Ss.cons
            (S.ite
              (E.cmp (Cp.isnot) (E.var 4) (E.none))
              (Ss.cons
                (S.ret (E.bin (O2.add) (E.tup (Es.cons (E.int 1) (Es.nil))) (E.var 4)))
                (Ss.nil))
              (Ss.nil))
            (Ss.cons
              (S.ite
                (E.call
                  6
                  (Es.cons
                    (E.bf (Bf.len) (Es.cons (E.var 1) (Es.nil)))
                    (Es.cons (E.var 2) (Es.nil))))
                (Ss.cons (S.ret (E.tup (Es.cons (E.int 1) (Es.nil)))) (Ss.nil))
                (Ss.nil))
              (Ss.cons
                (S.set
                  4
                  (E.call
                    5
                    (Es.cons
                      (E.var 3)
                      (Es.cons
                        (E.bf (Bf.len) (Es.cons (E.var 1) (Es.nil)))
                        (Es.cons (E.bool true) (Es.nil))))))
                (Ss.cons
                  (S.ite
                    (E.cmp (Cp.isnot) (E.var 4) (E.none))
                    (Ss.cons
                      (S.ret (E.bin (O2.add) (E.tup (Es.cons (E.int 2) (Es.nil))) (E.var 4)))
                      (Ss.nil))
                    (Ss.nil))
                  (Ss.cons (S.ret (E.none)) (Ss.nil))))))))))
/-- diagram, wrong -/
def b_need_diagram : Ss := Ss.cons
  (S.set 1 (E.call k_wrong_diagram (Es.cons (E.var 0) (Es.nil))))
  (Ss.cons
    (S.ite (E.cmp (Cp.isnot) (E.var 1) (E.none)) (Ss.cons (S.never) (Ss.nil)) (Ss.nil))
    (Ss.cons (S.ret (E.var 0)) (Ss.nil)))
/-- diagram -/
def b_count_of : Ss := Ss.cons (S.ret (E.bf (Bf.len) (Es.cons (E.idx (E.var 0) (E.int 0)) (Es.nil)))) (Ss.nil)
/-- value, count, one, spot -/
def b_is_set : Ss := Ss.cons
  (S.ite
    (E.or
      (E.not (E.isi (E.var 0) (Ty.tuple)))
      (E.not
        (E.gen
          (Gk.all)
          (Sr.e (E.var 0))
          (Tg.n 2)
          [2]
          (Es.nil)
          (E.call
            1
            (Es.cons
              (E.var 2)
              (Es.cons (E.int 0) (Es.cons (E.bin (O2.sub) (E.var 1) (E.int 1)) (Es.nil))))))))
    (Ss.cons (S.ret (E.bool false)) (Ss.nil))
    (Ss.nil))
  (Ss.cons
    (S.ret
      (E.gen
        (Gk.all)
        (Sr.rng2 (E.int 1) (E.bf (Bf.len) (Es.cons (E.var 0) (Es.nil))))
        (Tg.n 3)
        [3]
        (Es.nil)
        (E.cmp
          (Cp.lt)
          (E.idx (E.var 0) (E.bin (O2.sub) (E.var 3) (E.int 1)))
          (E.idx (E.var 0) (E.var 3)))))
    (Ss.nil))
/-- value, count -/
def b_need_set : Ss := Ss.cons
  (S.ite
    (E.not (E.call k_is_set (Es.cons (E.var 0) (Es.cons (E.var 1) (Es.nil)))))
    (Ss.cons (S.never) (Ss.nil))
    (Ss.nil))
  (Ss.cons (S.ret (E.var 0)) (Ss.nil))
/-- sets, far, near, number -/
def b_need_apart : Ss := Ss.cons
  (S.forr
    (Tg.n 1)
    (Sr.rng1 (E.bf (Bf.len) (Es.cons (E.var 0) (Es.nil))))
    (Ss.cons
      (S.forr
        (Tg.n 2)
        (Sr.rng1 (E.var 1))
        (Ss.cons
          (S.forr
            (Tg.n 3)
            (Sr.e (E.idx (E.var 0) (E.var 2)))
            (Ss.cons
              (S.ite
                (E.cmp (Cp.isin) (E.var 3) (E.idx (E.var 0) (E.var 1)))
                (Ss.cons (S.never) (Ss.nil))
                (Ss.nil))
              (Ss.nil)))
          (Ss.nil)))
      (Ss.nil)))
  (Ss.nil)
/-- diagram, goal, low, high -/
def b_parents_so : Ss := Ss.cons
  (S.ret
    (E.bf
      (Bf.tuple)
      (Es.cons
        (E.gen
          (Gk.sset)
          (Sr.e (E.idx (E.var 0) (E.int 1)))
          (Tg.t (Tgs.cons (Tg.n 2) (Tgs.cons (Tg.n 3) (Tgs.nil))))
          [2, 3]
          (Es.cons (E.cmp (Cp.isin) (E.var 3) (E.var 1)) (Es.nil))
          (E.var 2))
        (Es.nil))))
  (Ss.nil)
/-- goal, step, one, found, line -/
def b_spread : Ss := Ss.cons
  (S.set 3 (E.dgen (Sr.e (E.var 0)) (Tg.n 2) [2] (Es.nil) (E.var 2) (E.bool true)))
  (Ss.cons
    (S.set 4 (E.bf (Bf.list) (Es.cons (E.var 0) (Es.nil))))
    (Ss.cons
      (S.while
        (E.cmp (Cp.ne) (E.var 4) (E.lst (Es.nil)))
        (Ss.cons
          (S.forr
            (Tg.n 2)
            (Sr.e
              (E.callv
                1
                (Es.cons
                  (E.tup (Es.cons (E.mt (Mt.pop) (E.var 4) (Es.nil)) (Es.nil)))
                  (Es.nil))))
            (Ss.cons
              (S.ite
                (E.cmp (Cp.notin) (E.var 2) (E.var 3))
                (Ss.cons
                  (S.seti (E.var 3) (E.var 2) (E.bool true))
                  (Ss.cons
                    (S.expr (E.mt (Mt.append) (E.var 4) (Es.cons (E.var 2) (Es.nil))))
                    (Ss.nil)))
                (Ss.nil))
              (Ss.nil)))
          (Ss.nil)))
      (Ss.cons
        (S.ret
          (E.bf
            (Bf.tuple)
            (Es.cons (E.bf (Bf.sorted) (Es.cons (E.var 3) (Es.nil))) (Es.nil))))
        (Ss.nil))))
/-- diagram, goal, one -/
def b_above_so : Ss := Ss.cons
  (S.ret
    (E.calll k_spread
      (Es.cons (E.var 1) (Es.nil))
      [2]
      [0]
      (E.call k_parents_so (Es.cons (E.var 0) (Es.cons (E.var 2) (Es.nil))))))
  (Ss.nil)
/-- diagram, near, mark, far -/
def b_can_step : Ss := Ss.cons
  (S.ite
    (E.cmp (Cp.eq) (E.var 2) (E.str { cps := #[62] }))
    (Ss.cons
      (S.ret
        (E.cmp
          (Cp.isin)
          (E.tup (Es.cons (E.var 1) (Es.cons (E.var 3) (Es.nil))))
          (E.idx (E.var 0) (E.int 1))))
      (Ss.nil))
    (Ss.nil))
  (Ss.cons
    (S.ite
      (E.cmp (Cp.eq) (E.var 2) (E.str { cps := #[60] }))
      (Ss.cons
        (S.ret
          (E.cmp
            (Cp.isin)
            (E.tup (Es.cons (E.var 3) (Es.cons (E.var 1) (Es.nil))))
            (E.idx (E.var 0) (E.int 1))))
        (Ss.nil))
      (Ss.nil))
    (Ss.cons
      (S.ret
        (E.cmp
          (Cp.isin)
          (E.tup
            (Es.cons
              (E.bf (Bf.min) (Es.cons (E.var 1) (Es.cons (E.var 3) (Es.nil))))
              (Es.cons
                (E.bf (Bf.max) (Es.cons (E.var 1) (Es.cons (E.var 3) (Es.nil))))
                (Es.nil))))
          (E.idx (E.var 0) (E.int 2))))
      (Ss.nil)))
/-- diagram, near, found, far, mark -/
def b_steps_of : Ss := Ss.cons
  (S.set 2 (E.lst (Es.nil)))
  (Ss.cons
    (S.forr
      (Tg.n 3)
      (Sr.rng1 (E.call k_count_of (Es.cons (E.var 0) (Es.nil))))
      (Ss.cons
        (S.expr
          (E.mt
            (Mt.extend)
            (E.var 2)
            (Es.cons
              (E.gen
                (Gk.list)
                (Sr.e (E.con 4))
                (Tg.n 4)
                [4]
                (Es.cons
                  (E.call
                    16
                    (Es.cons
                      (E.var 0)
                      (Es.cons (E.var 1) (Es.cons (E.var 4) (Es.cons (E.var 3) (Es.nil))))))
                  (Es.nil))
                (E.tup (Es.cons (E.var 4) (Es.cons (E.var 3) (Es.nil)))))
              (Es.nil))))
        (Ss.nil)))
    (Ss.cons (S.ret (E.var 2)) (Ss.nil)))
/-- number, into, mark, given, lets -/
def b_goes_on : Ss := Ss.cons
  (S.ite
    (E.cmp (Cp.eq) (E.var 1) (E.int 0))
    (Ss.cons (S.ret (E.bool true)) (Ss.nil))
    (Ss.nil))
  (Ss.cons
    (S.ite
      (E.and (E.cmp (Cp.eq) (E.var 1) (E.int 2)) (E.cmp (Cp.isin) (E.var 2) (E.con 5)))
      (Ss.cons (S.ret (E.cmp (Cp.isin) (E.var 0) (E.var 4))) (Ss.nil))
      (Ss.nil))
    (Ss.cons (S.ret (E.cmp (Cp.notin) (E.var 0) (E.var 3))) (Ss.nil)))
/-- diagram, one, other, given, lets, done, number, line, into, mark, far -/
def b_apart_so : Ss := Ss.cons
  (S.set 4 (E.call k_above_so (Es.cons (E.var 0) (Es.cons (E.var 3) (Es.nil)))))
  (Ss.cons
    (S.set 5 (E.set0))
    (Ss.cons
      (S.set
        7
        (E.gen
          (Gk.list)
          (Sr.e (E.var 1))
          (Tg.n 6)
          [6]
          (Es.nil)
          (E.tup (Es.cons (E.var 6) (Es.cons (E.int 0) (Es.nil))))))
      (Ss.cons
        (S.while
          (E.cmp (Cp.ne) (E.var 7) (E.lst (Es.nil)))
          (Ss.cons
            (S.unp
              (Tg.t (Tgs.cons (Tg.n 6) (Tgs.cons (Tg.n 8) (Tgs.nil))))
              (E.mt (Mt.pop) (E.var 7) (Es.nil)))
            (Ss.cons
              (S.ite
                (E.cmp
                  (Cp.isin)
                  (E.tup (Es.cons (E.var 6) (Es.cons (E.var 8) (Es.nil))))
                  (E.var 5))
                (Ss.cons (S.cont) (Ss.nil))
                (Ss.nil))
              (Ss.cons
                (S.expr
                  (E.sadd (E.var 5) (E.tup (Es.cons (E.var 6) (Es.cons (E.var 8) (Es.nil))))))
                (Ss.cons
                  (S.forr
                    (Tg.t (Tgs.cons (Tg.n 9) (Tgs.cons (Tg.n 10) (Tgs.nil))))
                    (Sr.e (E.call k_steps_of (Es.cons (E.var 0) (Es.cons (E.var 6) (Es.nil)))))
                    (Ss.cons
                      (S.ite
                        (E.call
                          18
                          (Es.cons
                            (E.var 6)
                            (Es.cons
                              (E.var 8)
                              (Es.cons
                                (E.var 9)
                                (Es.cons (E.var 3) (Es.cons (E.var 4) (Es.nil)))))))
                        (Ss.cons
                          (S.ite
                            (E.cmp (Cp.isin) (E.var 10) (E.var 2))
                            (Ss.cons (S.ret (E.bool false)) (Ss.nil))
                            (Ss.nil))
                          (Ss.cons
                            (S.expr
                              (E.mt
                                (Mt.append)
                                (E.var 7)
                                (Es.cons
                                  (E.tup
                                    (Es.cons
                                      (E.var 10)
                                      (Es.cons
                                        (E.ite
                                          (E.cmp (Cp.isin) (E.var 9) (E.con 6))
                                          (E.int 2)
                                          (E.int 1))
                                        (Es.nil))))
                                  (Es.nil))))
                            (Ss.nil)))
                        (Ss.nil))
                      (Ss.nil)))
                  (Ss.nil))))))
        (Ss.cons (S.ret (E.bool true)) (Ss.nil)))))
/-- diagram, one, other, given, sets, value -/
def b_need_three : Ss := Ss.cons
  (S.expr (E.call k_need_diagram (Es.cons (E.var 0) (Es.nil))))
  (Ss.cons
    (S.set
      4
      (E.bf
        (Bf.tuple)
        (Es.cons
          (E.gen
            (Gk.list)
            (Sr.e
              (E.tup (Es.cons (E.var 1) (Es.cons (E.var 2) (Es.cons (E.var 3) (Es.nil))))))
            (Tg.n 5)
            [5]
            (Es.nil)
            (E.call
              11
              (Es.cons (E.var 5) (Es.cons (E.call k_count_of (Es.cons (E.var 0) (Es.nil))) (Es.nil)))))
          (Es.nil))))
    (Ss.cons
      (S.expr (E.call k_need_apart (Es.cons (E.var 4) (Es.nil))))
      (Ss.cons (S.ret (E.var 4)) (Ss.nil))))
/-- diagram, one, other, given -/
def b_apart : Ss := Ss.cons
  (S.expr
    (E.call
      20
      (Es.cons
        (E.var 0)
        (Es.cons (E.var 1) (Es.cons (E.var 2) (Es.cons (E.var 3) (Es.nil)))))))
  (Ss.cons
    (S.ret
      (E.call
        19
        (Es.cons
          (E.var 0)
          (Es.cons (E.var 1) (Es.cons (E.var 2) (Es.cons (E.var 3) (Es.nil)))))))
    (Ss.nil))
/-- script, cells_so, cell -/
def b_law_begin : Ss := Ss.cons
  (S.set
    1
    (E.ite
      (E.cmp (Cp.ne) (E.var 0) (E.lst (Es.nil)))
      (E.bf (Bf.list) (Es.cons (E.var 0) (Es.nil)))
      (E.lst (Es.cons (E.int 0) (Es.nil)))))
  (Ss.cons
    (S.ret
      (E.dict
        (Kvs.cons
          (E.str { cps := #[99, 101, 108, 108, 115] })
          (E.var 1)
          (Kvs.cons
            (E.str { cps := #[108, 101, 102, 116, 115] })
            (E.gen
              (Gk.list)
              (Sr.e (E.var 1))
              (Tg.n 2)
              [2]
              (Es.nil)
              (E.ite
                (E.cmp (Cp.ge) (E.var 2) (E.bin (O2.pow) (E.int 10) (E.int 18)))
                (E.var 2)
                (E.int 0)))
            (Kvs.cons (E.str { cps := #[97, 116] }) (E.int 0) (Kvs.nil))))))
    (Ss.nil))
/-- cell, k -/
def b_law_mixed : Ss := Ss.cons
  (S.set 0 (E.bin (O2.mod) (E.bf (Bf.int) (Es.cons (E.var 0) (Es.nil))) (E.int 2147483647)))
  (Ss.cons
    (S.ret
      (E.bin
        (O2.mod)
        (E.bin
          (O2.mul)
          (E.bin
            (O2.mod)
            (E.bin
              (O2.add)
              (E.bin
                (O2.add)
                (E.bin
                  (O2.mul)
                  (E.var 0)
                  (E.bin
                    (O2.add)
                    (E.int 48271)
                    (E.bin (O2.mul) (E.bin (O2.mul) (E.int 2) (E.var 1)) (E.var 1))))
                (E.bin (O2.mul) (E.int 69621) (E.var 1)))
              (E.int 11))
            (E.int 2147483647))
          (E.int 69621))
        (E.int 2147483629)))
    (Ss.nil))
/-- state, limit, at, place, left, number -/
def b_law_draw : Ss := Ss.cons
  (S.set 2 (E.idx (E.var 0) (E.str { cps := #[97, 116] })))
  (Ss.cons
    (S.seti (E.var 0) (E.str { cps := #[97, 116] }) (E.bin (O2.add) (E.var 2) (E.int 1)))
    (Ss.cons
      (S.set
        3
        (E.bin
          (O2.mod)
          (E.bf (Bf.int) (Es.cons (E.var 2) (Es.nil)))
          (E.bf
            (Bf.len)
            (Es.cons (E.idx (E.var 0) (E.str { cps := #[99, 101, 108, 108, 115] })) (Es.nil)))))
      (Ss.cons
        (S.set 4 (E.idx (E.idx (E.var 0) (E.str { cps := #[108, 101, 102, 116, 115] })) (E.var 3)))
        (Ss.cons
          (S.ite
            (E.cmp (Cp.gt) (E.var 4) (E.int 0))
            (Ss.cons
              (S.seti
                (E.idx (E.var 0) (E.str { cps := #[108, 101, 102, 116, 115] }))
                (E.var 3)
                (E.bin (O2.fdiv) (E.var 4) (E.var 1)))
              (Ss.cons
                (S.ret
                  (E.bin (O2.mod) (E.bf (Bf.int) (Es.cons (E.var 4) (Es.nil))) (E.var 1)))
                (Ss.nil)))
            (Ss.nil))
          (Ss.cons
            (S.set
              5
              (E.call
                23
                (Es.cons
                  (E.call
                    23
                    (Es.cons
                      (E.idx (E.idx (E.var 0) (E.str { cps := #[99, 101, 108, 108, 115] })) (E.var 3))
                      (Es.cons (E.var 2) (Es.nil))))
                  (Es.cons (E.bin (O2.add) (E.int 40) (E.var 2)) (Es.nil)))))
            (Ss.cons
              (S.ret
                (E.bin
                  (O2.mod)
                  (E.bin
                    (O2.fdiv)
                    (E.bf
                      (Bf.int)
                      (Es.cons
                        (E.bin
                          (O2.add)
                          (E.bin (O2.mul) (E.var 5) (E.int 2147483647))
                          (E.call
                            23
                            (Es.cons
                              (E.var 5)
                              (Es.cons (E.bin (O2.add) (E.int 7) (E.var 2)) (Es.nil)))))
                        (Es.nil)))
                    (E.int 64))
                  (E.var 1)))
              (Ss.nil)))))))
/-- state, some -/
def b_law_of : Ss := Ss.cons
  (S.ret
    (E.idx
      (E.var 1)
      (E.call
        24
        (Es.cons
          (E.var 0)
          (Es.cons (E.bf (Bf.len) (Es.cons (E.var 1) (Es.nil))) (Es.nil))))))
  (Ss.nil)
/-- state, some, left, found, turn, one -/
def b_law_shuffled : Ss := Ss.cons
  (S.par
    [2, 3]
    (Es.cons
      (E.bf (Bf.list) (Es.cons (E.var 1) (Es.nil)))
      (Es.cons (E.lst (Es.nil)) (Es.nil))))
  (Ss.cons
    (S.forr
      (Tg.n 4)
      (Sr.rng1 (E.bf (Bf.len) (Es.cons (E.var 2) (Es.nil))))
      (Ss.cons
        (S.set 5 (E.call k_law_of (Es.cons (E.var 0) (Es.cons (E.var 2) (Es.nil)))))
        (Ss.cons
          (S.expr (E.mt (Mt.append) (E.var 3) (Es.cons (E.var 5) (Es.nil))))
          (Ss.cons
            (S.expr (E.mt (Mt.remove) (E.var 2) (Es.cons (E.var 5) (Es.nil))))
            (Ss.nil)))))
    (Ss.cons (S.ret (E.var 3)) (Ss.nil)))
/-- state, count, letters, shift, spot -/
def b_law_names : Ss := Ss.cons
  (S.unp
    (Tg.t (Tgs.cons (Tg.n 2) (Tgs.cons (Tg.n 3) (Tgs.nil))))
    (E.tup
      (Es.cons
        (E.str
          { cps := #[97, 98, 99, 100, 101, 102, 103, 104, 105, 106, 107, 108, 109, 110, 111, 112, 113, 114, 115, 116,
                     117, 118, 119, 120, 121, 122] })
        (Es.cons (E.call k_law_draw (Es.cons (E.var 0) (Es.cons (E.int 26) (Es.nil)))) (Es.nil)))))
  (Ss.cons
    (S.ret
      (E.bf
        (Bf.tuple)
        (Es.cons
          (E.gen
            (Gk.list)
            (Sr.rng1 (E.var 1))
            (Tg.n 4)
            [4]
            (Es.nil)
            (E.bin
              (O2.add)
              (E.idx
                (E.var 2)
                (E.bin
                  (O2.mod)
                  (E.bf (Bf.int) (Es.cons (E.bin (O2.add) (E.var 3) (E.var 4)) (Es.nil)))
                  (E.int 26)))
              (E.idx
                (E.lst
                  (Es.cons
                    (E.str { cps := #[] })
                    (Es.cons
                      (E.str { cps := #[48] })
                      (Es.cons
                        (E.str { cps := #[113, 55] })
                        (Es.cons (E.str { cps := #[122, 122] }) (Es.nil))))))
                (E.call k_law_draw (Es.cons (E.var 0) (Es.cons (E.int 4) (Es.nil)))))))
          (Es.nil))))
    (Ss.nil))
/-- state, least, most, ties_so, count, order, arrows, ties, dense, spot, high, low -/
def b_law_diagram : Ss := Ss.cons
  (S.set
    4
    (E.bin
      (O2.add)
      (E.var 1)
      (E.call
        24
        (Es.cons
          (E.var 0)
          (Es.cons
            (E.bin (O2.add) (E.bin (O2.sub) (E.var 2) (E.var 1)) (E.int 1))
            (Es.nil))))))
  (Ss.cons
    (S.par
      [5, 6, 7]
      (Es.cons
        (E.call
          26
          (Es.cons
            (E.var 0)
            (Es.cons
              (E.bf
                (Bf.list)
                (Es.cons
                  (E.gen (Gk.tuple) (Sr.rng1 (E.var 4)) (Tg.n 0) [] (Es.nil) (E.var 0))
                  (Es.nil)))
              (Es.nil))))
        (Es.cons (E.lst (Es.nil)) (Es.cons (E.lst (Es.nil)) (Es.nil)))))
    (Ss.cons
      (S.set
        8
        (E.bin
          (O2.add)
          (E.int 1)
          (E.call k_law_draw (Es.cons (E.var 0) (Es.cons (E.int 3) (Es.nil))))))
      (Ss.cons
        (S.forr
          (Tg.t (Tgs.cons (Tg.n 9) (Tgs.cons (Tg.n 10) (Tgs.nil))))
          (Sr.enum (E.var 5))
          (Ss.cons
            (S.forr
              (Tg.n 11)
              (Sr.e (E.slc (E.var 5) (Eo.none) (Eo.some (E.var 9))))
              (Ss.cons
                (S.ite
                  (E.cmp
                    (Cp.lt)
                    (E.call k_law_draw (Es.cons (E.var 0) (Es.cons (E.int 4) (Es.nil))))
                    (E.var 8))
                  (Ss.cons
                    (S.expr
                      (E.mt
                        (Mt.append)
                        (E.var 6)
                        (Es.cons
                          (E.tup (Es.cons (E.var 11) (Es.cons (E.var 10) (Es.nil))))
                          (Es.nil))))
                    (Ss.nil))
                  (Ss.nil))
                (Ss.nil)))
            (Ss.nil)))
        (Ss.cons
          (S.forr
            (Tg.n 11)
            (Sr.rng1 (E.var 4))
            (Ss.cons
              (S.forr
                (Tg.n 10)
                (Sr.rng2 (E.bin (O2.add) (E.var 11) (E.int 1)) (E.var 4))
                (Ss.cons
                  (S.ite
                    (E.and
                      (E.var 3)
                      (E.cmp
                        (Cp.eq)
                        (E.call k_law_draw (Es.cons (E.var 0) (Es.cons (E.int 4) (Es.nil))))
                        (E.int 0)))
                    (Ss.cons
                      (S.expr
                        (E.mt
                          (Mt.append)
                          (E.var 7)
                          (Es.cons
                            (E.tup (Es.cons (E.var 11) (Es.cons (E.var 10) (Es.nil))))
                            (Es.nil))))
                      (Ss.nil))
                    (Ss.nil))
                  (Ss.nil)))
              (Ss.nil)))
          (Ss.cons
            (S.ret
              (E.tup
                (Es.cons
                  (E.call k_law_names (Es.cons (E.var 0) (Es.cons (E.var 4) (Es.nil))))
                  (Es.cons
                    (E.bf
                      (Bf.tuple)
                      (Es.cons (E.bf (Bf.sorted) (Es.cons (E.var 6) (Es.nil))) (Es.nil)))
                    (Es.cons
                      (E.bf
                        (Bf.tuple)
                        (Es.cons (E.bf (Bf.sorted) (Es.cons (E.var 7) (Es.nil))) (Es.nil)))
                      (Es.nil))))))
            (Ss.nil))))))
/-- state, count, many, rows, number, pick, one, row -/
def b_law_sets : Ss := Ss.cons
  (S.set 3 (E.gen (Gk.list) (Sr.rng1 (E.var 2)) (Tg.n 6) [6] (Es.nil) (E.lst (Es.nil))))
  (Ss.cons
    (S.forr
      (Tg.n 4)
      (Sr.rng1 (E.var 1))
      (Ss.cons
        (S.set
          5
          (E.call
            24
            (Es.cons (E.var 0) (Es.cons (E.bin (O2.add) (E.var 2) (E.int 1)) (Es.nil)))))
        (Ss.cons
          (S.ite
            (E.cmp (Cp.lt) (E.var 5) (E.var 2))
            (Ss.cons
              (S.expr
                (E.mt (Mt.append) (E.idx (E.var 3) (E.var 5)) (Es.cons (E.var 4) (Es.nil))))
              (Ss.nil))
            (Ss.nil))
          (Ss.nil))))
    (Ss.cons
      (S.ret
        (E.gen
          (Gk.list)
          (Sr.e (E.var 3))
          (Tg.n 7)
          [7]
          (Es.nil)
          (E.bf (Bf.tuple) (Es.cons (E.var 7) (Es.nil)))))
      (Ss.nil)))
/-- diagram_so, goal, whole, found, turn, low, high, number -/
def b_law_above : Ss := Ss.cons
  (S.set 3 (E.gen (Gk.list) (Sr.e (E.var 1)) (Tg.n 7) [7] (Es.nil) (E.var 7)))
  (Ss.cons
    (S.forr
      (Tg.n 4)
      (Sr.e (E.var 2))
      (Ss.cons
        (S.forr
          (Tg.t (Tgs.cons (Tg.n 5) (Tgs.cons (Tg.n 6) (Tgs.nil))))
          (Sr.e (E.idx (E.var 0) (E.int 1)))
          (Ss.cons
            (S.ite
              (E.and
                (E.cmp (Cp.isin) (E.var 6) (E.var 3))
                (E.and
                  (E.cmp (Cp.isin) (E.var 5) (E.var 2))
                  (E.cmp (Cp.notin) (E.var 5) (E.var 3))))
              (Ss.cons
                (S.expr (E.mt (Mt.append) (E.var 3) (Es.cons (E.var 5) (Es.nil))))
                (Ss.nil))
              (Ss.nil))
            (Ss.nil)))
        (Ss.nil)))
    (Ss.cons
      (S.ret
        (E.bf (Bf.tuple) (Es.cons (E.bf (Bf.sorted) (Es.cons (E.var 3) (Es.nil))) (Es.nil))))
      (Ss.nil)))
/-- got, due, spot -/
def b_law_same : Ss := Ss.cons
  (S.ite
    (E.isi (E.var 1) (Ty.tuple))
    (Ss.cons
      (S.ite
        (E.or
          (E.not (E.isi (E.var 0) (Ty.tuple)))
          (E.cmp
            (Cp.ne)
            (E.bf (Bf.len) (Es.cons (E.var 0) (Es.nil)))
            (E.bf (Bf.len) (Es.cons (E.var 1) (Es.nil)))))
        (Ss.cons (S.ret (E.bool false)) (Ss.nil))
        (Ss.nil))
      (Ss.cons
        (S.ret
          (E.cmp
            (Cp.eq)
            (E.gen
              (Gk.list)
              (Sr.rng1 (E.bf (Bf.len) (Es.cons (E.var 1) (Es.nil))))
              (Tg.n 2)
              [2]
              (Es.cons
                (E.not
                  (E.call
                    31
                    (Es.cons
                      (E.idx (E.var 0) (E.var 2))
                      (Es.cons (E.idx (E.var 1) (E.var 2)) (Es.nil)))))
                (Es.nil))
              (E.var 2))
            (E.lst (Es.nil))))
        (Ss.nil)))
    (Ss.nil))
  (Ss.cons
    (S.ite
      (E.isi (E.var 1) (Ty.list))
      (Ss.cons
        (S.ret
          (E.and
            (E.isi (E.var 0) (Ty.list))
            (E.call
              31
              (Es.cons
                (E.bf (Bf.tuple) (Es.cons (E.var 0) (Es.nil)))
                (Es.cons (E.bf (Bf.tuple) (Es.cons (E.var 1) (Es.nil))) (Es.nil))))))
        (Ss.nil))
      (Ss.nil))
    (Ss.cons
      (S.ite
        (E.or (E.cmp (Cp.is_) (E.var 1) (E.none)) (E.cmp (Cp.is_) (E.var 0) (E.none)))
        (Ss.cons
          (S.ret
            (E.and (E.cmp (Cp.is_) (E.var 1) (E.none)) (E.cmp (Cp.is_) (E.var 0) (E.none))))
          (Ss.nil))
        (Ss.nil))
      (Ss.cons
        (S.ite
          (E.or (E.isi (E.var 1) (Ty.bool)) (E.isi (E.var 0) (Ty.bool)))
          (Ss.cons
            (S.ret
              (E.and
                (E.isi (E.var 1) (Ty.bool))
                (E.and (E.isi (E.var 0) (Ty.bool)) (E.cmp (Cp.eq) (E.var 0) (E.var 1)))))
            (Ss.nil))
          (Ss.nil))
        (Ss.cons
          (S.ite
            (E.isi (E.var 1) (Ty.str))
            (Ss.cons
              (S.ret (E.and (E.isi (E.var 0) (Ty.str)) (E.cmp (Cp.eq) (E.var 0) (E.var 1))))
              (Ss.nil))
            (Ss.nil))
          (Ss.cons
            (S.ret (E.and (E.isi (E.var 0) (Ty.int)) (E.cmp (Cp.eq) (E.var 0) (E.var 1))))
            (Ss.nil))))))
/-- diagram_so, area, number, names, arrows, ties, heads, turn, fresh, low, high, found, far, one -/
def b_law_near : Ss := Ss.cons
  (S.unp
    (Tg.t (Tgs.cons (Tg.n 3) (Tgs.cons (Tg.n 4) (Tgs.cons (Tg.n 5) (Tgs.nil)))))
    (E.var 0))
  (Ss.cons
    (S.set
      6
      (E.gen
        (Gk.list)
        (Sr.e (E.var 1))
        (Tg.n 12)
        [12]
        (Es.cons
          (E.or
            (E.cmp
              (Cp.isin)
              (E.tup (Es.cons (E.var 2) (Es.cons (E.var 12) (Es.nil))))
              (E.var 4))
            (E.or
              (E.cmp
                (Cp.isin)
                (E.tup (Es.cons (E.var 2) (Es.cons (E.var 12) (Es.nil))))
                (E.var 5))
              (E.cmp
                (Cp.isin)
                (E.tup (Es.cons (E.var 12) (Es.cons (E.var 2) (Es.nil))))
                (E.var 5))))
          (Es.nil))
        (E.var 12)))
    (Ss.cons
      (S.forr
        (Tg.n 7)
        (Sr.e (E.var 1))
        (Ss.cons
          (S.set 8 (E.lst (Es.nil)))
          (Ss.cons
            (S.forr
              (Tg.t (Tgs.cons (Tg.n 9) (Tgs.cons (Tg.n 10) (Tgs.nil))))
              (Sr.e (E.var 5))
              (Ss.cons
                (S.ite
                  (E.and
                    (E.cmp (Cp.isin) (E.var 9) (E.var 6))
                    (E.and
                      (E.cmp (Cp.isin) (E.var 10) (E.var 1))
                      (E.cmp (Cp.notin) (E.var 10) (E.bin (O2.add) (E.var 6) (E.var 8)))))
                  (Ss.cons
                    (S.expr (E.mt (Mt.append) (E.var 8) (Es.cons (E.var 10) (Es.nil))))
                    (Ss.nil))
                  (Ss.nil))
                (Ss.cons
                  (S.ite
                    (E.and
                      (E.cmp (Cp.isin) (E.var 10) (E.var 6))
                      (E.and
                        (E.cmp (Cp.isin) (E.var 9) (E.var 1))
                        (E.cmp (Cp.notin) (E.var 9) (E.bin (O2.add) (E.var 6) (E.var 8)))))
                    (Ss.cons
                      (S.expr (E.mt (Mt.append) (E.var 8) (Es.cons (E.var 9) (Es.nil))))
                      (Ss.nil))
                    (Ss.nil))
                  (Ss.nil))))
            (Ss.cons
              (S.ite
                (E.cmp (Cp.eq) (E.var 8) (E.lst (Es.nil)))
                (Ss.cons (S.brk) (Ss.nil))
                (Ss.nil))
              (Ss.cons (S.set 6 (E.bin (O2.add) (E.var 6) (E.var 8))) (Ss.nil))))))
      (Ss.cons
        (S.set
          11
          (E.bin
            (O2.add)
            (E.var 6)
            (E.gen
              (Gk.list)
              (Sr.e (E.var 1))
              (Tg.n 12)
              [12]
              (Es.cons
                (E.cmp
                  (Cp.isin)
                  (E.tup (Es.cons (E.var 12) (Es.cons (E.var 2) (Es.nil))))
                  (E.var 4))
                (Es.nil))
              (E.var 12))))
        (Ss.cons
          (S.set
            11
            (E.bin
              (O2.add)
              (E.var 11)
              (E.gen
                (Gk.list)
                (Sr.e (E.var 4))
                (Tg.t (Tgs.cons (Tg.n 9) (Tgs.cons (Tg.n 10) (Tgs.nil))))
                [9, 10]
                (Es.cons
                  (E.and
                    (E.cmp (Cp.isin) (E.var 9) (E.var 1))
                    (E.cmp (Cp.isin) (E.var 10) (E.var 6)))
                  (Es.nil))
                (E.var 9))))
          (Ss.cons
            (S.ret
              (E.bf
                (Bf.tuple)
                (Es.cons
                  (E.sset
                    (E.gen
                      (Gk.list)
                      (Sr.e (E.var 11))
                      (Tg.n 13)
                      [13]
                      (Es.cons (E.cmp (Cp.ne) (E.var 13) (E.var 2)) (Es.nil))
                      (E.var 13)))
                  (Es.nil))))
            (Ss.nil))))))
/-- diagram_so, area, one, shut, found, line, turn, fresh, near, some, far -/
def b_law_reached : Ss := Ss.cons
  (S.unp
    (Tg.t (Tgs.cons (Tg.n 4) (Tgs.cons (Tg.n 5) (Tgs.nil))))
    (E.tup
      (Es.cons
        (E.bf (Bf.list) (Es.cons (E.var 2) (Es.nil)))
        (Es.cons (E.bf (Bf.list) (Es.cons (E.var 2) (Es.nil))) (Es.nil)))))
  (Ss.cons
    (S.forr
      (Tg.n 6)
      (Sr.e (E.var 1))
      (Ss.cons
        (S.set 7 (E.lst (Es.nil)))
        (Ss.cons
          (S.forr
            (Tg.n 8)
            (Sr.e (E.var 5))
            (Ss.cons
              (S.set
                9
                (E.call
                  32
                  (Es.cons (E.var 0) (Es.cons (E.var 1) (Es.cons (E.var 8) (Es.nil))))))
              (Ss.cons
                (S.set
                  7
                  (E.bin
                    (O2.add)
                    (E.var 7)
                    (E.gen
                      (Gk.list)
                      (Sr.e (E.var 9))
                      (Tg.n 10)
                      [10]
                      (Es.cons
                        (E.and
                          (E.cmp (Cp.notin) (E.var 10) (E.var 4))
                          (E.and
                            (E.cmp (Cp.notin) (E.var 10) (E.var 3))
                            (E.cmp (Cp.notin) (E.var 10) (E.var 7))))
                        (Es.nil))
                      (E.var 10))))
                (Ss.nil))))
          (Ss.cons
            (S.ite
              (E.cmp (Cp.eq) (E.var 7) (E.lst (Es.nil)))
              (Ss.cons (S.brk) (Ss.nil))
              (Ss.nil))
            (Ss.cons
              (S.unp
                (Tg.t (Tgs.cons (Tg.n 4) (Tgs.cons (Tg.n 5) (Tgs.nil))))
                (E.tup
                  (Es.cons (E.bin (O2.add) (E.var 4) (E.var 7)) (Es.cons (E.var 7) (Es.nil)))))
              (Ss.nil))))))
    (Ss.cons
      (S.ret
        (E.bf (Bf.tuple) (Es.cons (E.bf (Bf.sorted) (Es.cons (E.var 4) (Es.nil))) (Es.nil))))
      (Ss.nil)))
/-- diagram_so, one, other, given, area, number -/
def b_law_apart : Ss := Ss.cons
  (S.set
    4
    (E.call
      30
      (Es.cons
        (E.var 0)
        (Es.cons
          (E.bin (O2.add) (E.bin (O2.add) (E.var 1) (E.var 2)) (E.var 3))
          (Es.cons
            (E.bf
              (Bf.list)
              (Es.cons
                (E.gen
                  (Gk.tuple)
                  (Sr.rng1 (E.bf (Bf.len) (Es.cons (E.idx (E.var 0) (E.int 0)) (Es.nil))))
                  (Tg.n 0)
                  []
                  (Es.nil)
                  (E.var 0))
                (Es.nil)))
            (Es.nil))))))
  (Ss.cons
    (S.ret
      (E.cmp
        (Cp.eq)
        (E.gen
          (Gk.list)
          (Sr.e
            (E.call
              33
              (Es.cons
                (E.var 0)
                (Es.cons (E.var 4) (Es.cons (E.var 1) (Es.cons (E.var 3) (Es.nil)))))))
          (Tg.n 5)
          [5]
          (Es.cons (E.cmp (Cp.isin) (E.var 5) (E.var 2)) (Es.nil))
          (E.var 5))
        (E.lst (Es.nil))))
    (Ss.nil))
/-- state, goal, number -/
def b_law_some_set : Ss := Ss.cons
  (S.ret
    (E.bf
      (Bf.tuple)
      (Es.cons
        (E.gen
          (Gk.list)
          (Sr.e (E.var 1))
          (Tg.n 2)
          [2]
          (Es.cons
            (E.cmp
              (Cp.eq)
              (E.call k_law_draw (Es.cons (E.var 0) (Es.cons (E.int 2) (Es.nil))))
              (E.int 0))
            (Es.nil))
          (E.var 2))
        (Es.nil))))
  (Ss.nil)
/-- state, least, most, many, count, order, arrows, ties, spot, turn, pair, low, high -/
def b_law_thin : Ss := Ss.cons
  (S.set
    4
    (E.bin
      (O2.add)
      (E.var 1)
      (E.call
        24
        (Es.cons
          (E.var 0)
          (Es.cons
            (E.bin (O2.add) (E.bin (O2.sub) (E.var 2) (E.var 1)) (E.int 1))
            (Es.nil))))))
  (Ss.cons
    (S.par
      [5, 6, 7]
      (Es.cons
        (E.call
          26
          (Es.cons
            (E.var 0)
            (Es.cons
              (E.bf
                (Bf.list)
                (Es.cons
                  (E.gen (Gk.tuple) (Sr.rng1 (E.var 4)) (Tg.n 0) [] (Es.nil) (E.var 0))
                  (Es.nil)))
              (Es.nil))))
        (Es.cons (E.lst (Es.nil)) (Es.cons (E.lst (Es.nil)) (Es.nil)))))
    (Ss.cons
      (S.forr
        (Tg.n 8)
        (Sr.rng2 (E.int 1) (E.var 4))
        (Ss.cons
          (S.forr
            (Tg.n 9)
            (Sr.rng1 (E.call k_law_draw (Es.cons (E.var 0) (Es.cons (E.int 3) (Es.nil)))))
            (Ss.cons
              (S.set
                10
                (E.tup
                  (Es.cons
                    (E.idx
                      (E.var 5)
                      (E.call k_law_draw (Es.cons (E.var 0) (Es.cons (E.var 8) (Es.nil)))))
                    (Es.cons (E.idx (E.var 5) (E.var 8)) (Es.nil)))))
              (Ss.cons
                (S.ite
                  (E.cmp (Cp.notin) (E.var 10) (E.var 6))
                  (Ss.cons
                    (S.expr (E.mt (Mt.append) (E.var 6) (Es.cons (E.var 10) (Es.nil))))
                    (Ss.nil))
                  (Ss.nil))
                (Ss.nil))))
          (Ss.nil)))
      (Ss.cons
        (S.forr
          (Tg.n 9)
          (Sr.rng1
            (E.call
              24
              (Es.cons (E.var 0) (Es.cons (E.bin (O2.add) (E.var 3) (E.int 1)) (Es.nil)))))
          (Ss.cons
            (S.set 11 (E.call k_law_draw (Es.cons (E.var 0) (Es.cons (E.var 4) (Es.nil)))))
            (Ss.cons
              (S.set
                12
                (E.bin
                  (O2.mod)
                  (E.bf
                    (Bf.int)
                    (Es.cons
                      (E.bin
                        (O2.add)
                        (E.bin (O2.add) (E.var 11) (E.int 1))
                        (E.call
                          24
                          (Es.cons
                            (E.var 0)
                            (Es.cons (E.bin (O2.sub) (E.var 4) (E.int 1)) (Es.nil)))))
                      (Es.nil)))
                  (E.var 4)))
              (Ss.cons
                (S.ite
                  (E.cmp
                    (Cp.notin)
                    (E.tup
                      (Es.cons
                        (E.bf (Bf.min) (Es.cons (E.var 11) (Es.cons (E.var 12) (Es.nil))))
                        (Es.cons
                          (E.bf (Bf.max) (Es.cons (E.var 11) (Es.cons (E.var 12) (Es.nil))))
                          (Es.nil))))
                    (E.var 7))
                  (Ss.cons
                    (S.expr
                      (E.mt
                        (Mt.append)
                        (E.var 7)
                        (Es.cons
                          (E.tup
                            (Es.cons
                              (E.bf (Bf.min) (Es.cons (E.var 11) (Es.cons (E.var 12) (Es.nil))))
                              (Es.cons
                                (E.bf (Bf.max) (Es.cons (E.var 11) (Es.cons (E.var 12) (Es.nil))))
                                (Es.nil))))
                          (Es.nil))))
                    (Ss.nil))
                  (Ss.nil))
                (Ss.nil)))))
        (Ss.cons
          (S.ret
            (E.tup
              (Es.cons
                (E.call k_law_names (Es.cons (E.var 0) (Es.cons (E.var 4) (Es.nil))))
                (Es.cons
                  (E.bf
                    (Bf.tuple)
                    (Es.cons (E.bf (Bf.sorted) (Es.cons (E.var 6) (Es.nil))) (Es.nil)))
                  (Es.cons
                    (E.bf
                      (Bf.tuple)
                      (Es.cons (E.bf (Bf.sorted) (Es.cons (E.var 7) (Es.nil))) (Es.nil)))
                    (Es.nil))))))
          (Ss.nil)))))
/-- state, most, pick -/
def b_law_any : Ss := Ss.cons
  (S.set 2 (E.call k_law_draw (Es.cons (E.var 0) (Es.cons (E.int 4) (Es.nil)))))
  (Ss.cons
    (S.ite
      (E.cmp (Cp.eq) (E.var 2) (E.int 0))
      (Ss.cons
        (S.ret
          (E.call
            28
            (Es.cons
              (E.var 0)
              (Es.cons (E.int 2) (Es.cons (E.var 1) (Es.cons (E.bool true) (Es.nil)))))))
        (Ss.nil))
      (Ss.nil))
    (Ss.cons
      (S.ret
        (E.ite
          (E.cmp (Cp.lt) (E.var 2) (E.int 3))
          (E.call
            36
            (Es.cons
              (E.var 0)
              (Es.cons (E.int 2) (Es.cons (E.var 1) (Es.cons (E.int 4) (Es.nil))))))
          (E.call
            36
            (Es.cons
              (E.var 0)
              (Es.cons (E.int 8) (Es.cons (E.int 12) (Es.cons (E.int 6) (Es.nil))))))))
      (Ss.nil)))
/-- diagram_so, one, other, given, found -/
def b_law_told : Ss := Ss.cons
  (S.set
    4
    (E.call
      21
      (Es.cons
        (E.var 0)
        (Es.cons
          (E.var 1)
          (Es.cons
            (E.var 2)
            (Es.cons
              (E.bf
                (Bf.tuple)
                (Es.cons (E.bf (Bf.sorted) (Es.cons (E.var 3) (Es.nil))) (Es.nil)))
              (Es.nil)))))))
  (Ss.cons
    (S.ret
      (E.ite
        (E.call
          31
          (Es.cons
            (E.var 4)
            (Es.cons
              (E.call
                34
                (Es.cons
                  (E.var 0)
                  (Es.cons
                    (E.var 1)
                    (Es.cons
                      (E.var 2)
                      (Es.cons
                        (E.bf
                          (Bf.tuple)
                          (Es.cons (E.bf (Bf.sorted) (Es.cons (E.var 3) (Es.nil))) (Es.nil)))
                        (Es.nil))))))
              (Es.nil))))
        (E.var 4)
        (E.none)))
    (Ss.nil))
/-- diagram_so, sets, one, near, far, given, whole, both, plain, besides -/
def b_law_sets_right : Ss := Ss.cons
  (S.unp
    (Tg.t
      (Tgs.cons
        (Tg.n 2)
        (Tgs.cons (Tg.n 3) (Tgs.cons (Tg.n 4) (Tgs.cons (Tg.n 5) (Tgs.nil))))))
    (E.var 1))
  (Ss.cons
    (S.set
      6
      (E.bf
        (Bf.tuple)
        (Es.cons
          (E.bf (Bf.sorted) (Es.cons (E.bin (O2.add) (E.var 3) (E.var 4)) (Es.nil)))
          (Es.nil))))
    (Ss.cons
      (S.set
        7
        (E.call
          38
          (Es.cons
            (E.var 0)
            (Es.cons (E.var 2) (Es.cons (E.var 6) (Es.cons (E.var 5) (Es.nil)))))))
      (Ss.cons
        (S.set
          8
          (E.lst
            (Es.cons
              (E.call
                38
                (Es.cons
                  (E.var 0)
                  (Es.cons (E.var 2) (Es.cons (E.var 3) (Es.cons (E.var 5) (Es.nil))))))
              (Es.cons
                (E.call
                  38
                  (Es.cons
                    (E.var 0)
                    (Es.cons (E.var 2) (Es.cons (E.var 4) (Es.cons (E.var 5) (Es.nil))))))
                (Es.nil)))))
        (Ss.cons
          (S.set
            9
            (E.lst
              (Es.cons
                (E.call
                  38
                  (Es.cons
                    (E.var 0)
                    (Es.cons
                      (E.var 2)
                      (Es.cons
                        (E.var 3)
                        (Es.cons (E.bin (O2.add) (E.var 5) (E.var 4)) (Es.nil))))))
                (Es.cons
                  (E.call
                    38
                    (Es.cons
                      (E.var 0)
                      (Es.cons
                        (E.var 2)
                        (Es.cons
                          (E.var 4)
                          (Es.cons (E.bin (O2.add) (E.var 5) (E.var 3)) (Es.nil))))))
                  (Es.nil)))))
          (Ss.cons
            (S.ite
              (E.cmp
                (Cp.isin)
                (E.none)
                (E.bin
                  (O2.add)
                  (E.bin (O2.add) (E.lst (Es.cons (E.var 7) (Es.nil))) (E.var 8))
                  (E.var 9)))
              (Ss.cons (S.ret (E.bool false)) (Ss.nil))
              (Ss.nil))
            (Ss.cons
              (S.ite
                (E.or
                  (E.cmp
                    (Cp.ne)
                    (E.var 7)
                    (E.and (E.idx (E.var 8) (E.int 0)) (E.idx (E.var 8) (E.int 1))))
                  (E.cmp
                    (Cp.ne)
                    (E.var 7)
                    (E.and (E.idx (E.var 9) (E.int 0)) (E.idx (E.var 9) (E.int 1)))))
                (Ss.cons (S.ret (E.bool false)) (Ss.nil))
                (Ss.nil))
              (Ss.cons
                (S.ret
                  (E.and
                    (E.cmp
                      (Cp.eq)
                      (E.var 7)
                      (E.and (E.idx (E.var 9) (E.int 0)) (E.idx (E.var 8) (E.int 1))))
                    (E.cmp
                      (Cp.eq)
                      (E.var 7)
                      (E.and (E.idx (E.var 9) (E.int 1)) (E.idx (E.var 8) (E.int 0))))))
                (Ss.nil))))))))
/-- state, diagram_so, order, near, far, third, given, said, ends, number -/
def b_law_weak : Ss := Ss.cons
  (S.set
    2
    (E.call
      26
      (Es.cons
        (E.var 0)
        (Es.cons
          (E.bf
            (Bf.list)
            (Es.cons
              (E.gen
                (Gk.tuple)
                (Sr.rng1 (E.bf (Bf.len) (Es.cons (E.idx (E.var 1) (E.int 0)) (Es.nil))))
                (Tg.n 0)
                []
                (Es.nil)
                (E.var 0))
              (Es.nil)))
          (Es.nil)))))
  (Ss.cons
    (S.unp
      (Tg.t (Tgs.cons (Tg.n 3) (Tgs.cons (Tg.n 4) (Tgs.cons (Tg.n 5) (Tgs.nil)))))
      (E.slc (E.var 2) (Eo.none) (Eo.some (E.int 3))))
    (Ss.cons
      (S.set
        6
        (E.bf
          (Bf.tuple)
          (Es.cons
            (E.bf
              (Bf.sorted)
              (Es.cons
                (E.gen
                  (Gk.list)
                  (Sr.e (E.slc (E.var 2) (Eo.some (E.int 3)) (Eo.none)))
                  (Tg.n 9)
                  [9]
                  (Es.cons
                    (E.cmp
                      (Cp.eq)
                      (E.call k_law_draw (Es.cons (E.var 0) (Es.cons (E.int 3) (Es.nil))))
                      (E.int 0))
                    (Es.nil))
                  (E.var 9))
                (Es.nil)))
            (Es.nil))))
      (Ss.cons
        (S.set
          7
          (E.lst
            (Es.cons
              (E.call
                38
                (Es.cons
                  (E.var 1)
                  (Es.cons
                    (E.tup (Es.cons (E.var 3) (Es.nil)))
                    (Es.cons
                      (E.tup (Es.cons (E.var 4) (Es.nil)))
                      (Es.cons (E.var 6) (Es.nil))))))
              (Es.cons
                (E.call
                  38
                  (Es.cons
                    (E.var 1)
                    (Es.cons
                      (E.tup (Es.cons (E.var 3) (Es.nil)))
                      (Es.cons
                        (E.tup (Es.cons (E.var 4) (Es.nil)))
                        (Es.cons
                          (E.bin (O2.add) (E.var 6) (E.tup (Es.cons (E.var 5) (Es.nil))))
                          (Es.nil))))))
                (Es.nil)))))
        (Ss.cons
          (S.set
            8
            (E.lst
              (Es.cons
                (E.call
                  38
                  (Es.cons
                    (E.var 1)
                    (Es.cons
                      (E.tup (Es.cons (E.var 3) (Es.nil)))
                      (Es.cons
                        (E.tup (Es.cons (E.var 5) (Es.nil)))
                        (Es.cons (E.var 6) (Es.nil))))))
                (Es.cons
                  (E.call
                    38
                    (Es.cons
                      (E.var 1)
                      (Es.cons
                        (E.tup (Es.cons (E.var 5) (Es.nil)))
                        (Es.cons
                          (E.tup (Es.cons (E.var 4) (Es.nil)))
                          (Es.cons (E.var 6) (Es.nil))))))
                  (Es.nil)))))
          (Ss.cons
            (S.ite
              (E.cmp (Cp.isin) (E.none) (E.bin (O2.add) (E.var 7) (E.var 8)))
              (Ss.cons (S.ret (E.bool false)) (Ss.nil))
              (Ss.nil))
            (Ss.cons
              (S.ret
                (E.or
                  (E.not (E.and (E.idx (E.var 7) (E.int 0)) (E.idx (E.var 7) (E.int 1))))
                  (E.or (E.idx (E.var 8) (E.int 0)) (E.idx (E.var 8) (E.int 1)))))
              (Ss.nil)))))))
/-- script, state, turn, diagram_so, order, sets -/
def b_law : Ss := Ss.cons
  (S.set 1 (E.call k_law_begin (Es.cons (E.var 0) (Es.nil))))
  (Ss.cons
    (S.forr
      (Tg.n 2)
      (Sr.rng1 (E.int 3))
      (Ss.cons
        (S.set 3 (E.call k_law_any (Es.cons (E.var 1) (Es.cons (E.int 7) (Es.nil)))))
        (Ss.cons
          (S.ite
            (E.not
              (E.call
                39
                (Es.cons
                  (E.var 3)
                  (Es.cons
                    (E.call
                      29
                      (Es.cons
                        (E.var 1)
                        (Es.cons
                          (E.bf (Bf.len) (Es.cons (E.idx (E.var 3) (E.int 0)) (Es.nil)))
                          (Es.cons (E.int 4) (Es.nil)))))
                    (Es.nil)))))
            (Ss.cons (S.ret (E.bool false)) (Ss.nil))
            (Ss.nil))
          (Ss.cons
            (S.set
              4
              (E.call
                26
                (Es.cons
                  (E.var 1)
                  (Es.cons
                    (E.bf
                      (Bf.list)
                      (Es.cons
                        (E.gen
                          (Gk.tuple)
                          (Sr.rng1
                            (E.bf (Bf.len) (Es.cons (E.idx (E.var 3) (E.int 0)) (Es.nil))))
                          (Tg.n 0)
                          []
                          (Es.nil)
                          (E.var 0))
                        (Es.nil)))
                    (Es.nil)))))
            (Ss.cons
              (S.set
                5
                (E.lst
                  (Es.cons
                    (E.bf
                      (Bf.tuple)
                      (Es.cons (E.slc (E.var 4) (Eo.none) (Eo.some (E.int 1))) (Es.nil)))
                    (Es.cons
                      (E.bf
                        (Bf.tuple)
                        (Es.cons
                          (E.slc (E.var 4) (Eo.some (E.int 1)) (Eo.some (E.int 2)))
                          (Es.nil)))
                      (Es.cons
                        (E.bf
                          (Bf.tuple)
                          (Es.cons
                            (E.slc (E.var 4) (Eo.some (E.int 2)) (Eo.some (E.int 3)))
                            (Es.nil)))
                        (Es.cons
                          (E.call
                            35
                            (Es.cons
                              (E.var 1)
                              (Es.cons
                                (E.bf
                                  (Bf.sorted)
                                  (Es.cons
                                    (E.slc (E.var 4) (Eo.some (E.int 3)) (Eo.none))
                                    (Es.nil)))
                                (Es.nil))))
                          (Es.nil)))))))
              (Ss.cons
                (S.ite
                  (E.not (E.call k_law_sets_right (Es.cons (E.var 3) (Es.cons (E.var 5) (Es.nil)))))
                  (Ss.cons (S.ret (E.bool false)) (Ss.nil))
                  (Ss.nil))
                (Ss.cons
                  (S.ite
                    (E.and
                      (E.cmp
                        (Cp.gt)
                        (E.bf (Bf.len) (Es.cons (E.idx (E.var 3) (E.int 0)) (Es.nil)))
                        (E.int 2))
                      (E.not (E.call k_law_weak (Es.cons (E.var 1) (Es.cons (E.var 3) (Es.nil))))))
                    (Ss.cons (S.ret (E.bool false)) (Ss.nil))
                    (Ss.nil))
                  (Ss.nil))))))))
    (Ss.cons (S.ret (E.bool true)) (Ss.nil)))
def fns : List Fn := [⟨1, 1, b_is_whole⟩, ⟨3, 3, b_is_number⟩, ⟨1, 2, b_is_name⟩, ⟨1, 3, b_wrong_names⟩, ⟨2, 3, b_is_pair⟩, ⟨3, 5, b_wrong_pairs⟩, ⟨2, 7, b_has_ring⟩, ⟨1, 5, b_wrong_diagram⟩, ⟨1, 2, b_need_diagram⟩, ⟨1, 1, b_count_of⟩, ⟨2, 4, b_is_set⟩, ⟨2, 2, b_need_set⟩, ⟨1, 4, b_need_apart⟩, ⟨2, 4, b_parents_so⟩, ⟨2, 5, b_spread⟩, ⟨2, 3, b_above_so⟩, ⟨4, 4, b_can_step⟩, ⟨2, 5, b_steps_of⟩, ⟨5, 5, b_goes_on⟩, ⟨4, 11, b_apart_so⟩, ⟨4, 6, b_need_three⟩, ⟨4, 4, b_apart⟩, ⟨1, 3, b_law_begin⟩, ⟨2, 2, b_law_mixed⟩, ⟨2, 6, b_law_draw⟩, ⟨2, 2, b_law_of⟩, ⟨2, 6, b_law_shuffled⟩, ⟨2, 5, b_law_names⟩, ⟨4, 12, b_law_diagram⟩, ⟨3, 8, b_law_sets⟩, ⟨3, 8, b_law_above⟩, ⟨2, 3, b_law_same⟩, ⟨3, 14, b_law_near⟩, ⟨4, 11, b_law_reached⟩, ⟨4, 6, b_law_apart⟩, ⟨2, 3, b_law_some_set⟩, ⟨4, 13, b_law_thin⟩, ⟨2, 3, b_law_any⟩, ⟨4, 5, b_law_told⟩, ⟨2, 10, b_law_sets_right⟩, ⟨2, 10, b_law_weak⟩, ⟨1, 6, b_law⟩]
theorem f_is_whole : fns[k_is_whole]? = some ⟨1, 1, b_is_whole⟩ := rfl
theorem f_is_number : fns[k_is_number]? = some ⟨3, 3, b_is_number⟩ := rfl
theorem f_is_name : fns[k_is_name]? = some ⟨1, 2, b_is_name⟩ := rfl
theorem f_wrong_names : fns[k_wrong_names]? = some ⟨1, 3, b_wrong_names⟩ := rfl
theorem f_is_pair : fns[k_is_pair]? = some ⟨2, 3, b_is_pair⟩ := rfl
theorem f_wrong_pairs : fns[k_wrong_pairs]? = some ⟨3, 5, b_wrong_pairs⟩ := rfl
theorem f_has_ring : fns[k_has_ring]? = some ⟨2, 7, b_has_ring⟩ := rfl
theorem f_wrong_diagram : fns[k_wrong_diagram]? = some ⟨1, 5, b_wrong_diagram⟩ := rfl
theorem f_need_diagram : fns[k_need_diagram]? = some ⟨1, 2, b_need_diagram⟩ := rfl
theorem f_count_of : fns[k_count_of]? = some ⟨1, 1, b_count_of⟩ := rfl
theorem f_is_set : fns[k_is_set]? = some ⟨2, 4, b_is_set⟩ := rfl
theorem f_need_set : fns[k_need_set]? = some ⟨2, 2, b_need_set⟩ := rfl
theorem f_need_apart : fns[k_need_apart]? = some ⟨1, 4, b_need_apart⟩ := rfl
theorem f_parents_so : fns[k_parents_so]? = some ⟨2, 4, b_parents_so⟩ := rfl
theorem f_spread : fns[k_spread]? = some ⟨2, 5, b_spread⟩ := rfl
theorem f_above_so : fns[k_above_so]? = some ⟨2, 3, b_above_so⟩ := rfl
theorem f_can_step : fns[k_can_step]? = some ⟨4, 4, b_can_step⟩ := rfl
theorem f_steps_of : fns[k_steps_of]? = some ⟨2, 5, b_steps_of⟩ := rfl
theorem f_goes_on : fns[k_goes_on]? = some ⟨5, 5, b_goes_on⟩ := rfl
theorem f_apart_so : fns[k_apart_so]? = some ⟨4, 11, b_apart_so⟩ := rfl
theorem f_need_three : fns[k_need_three]? = some ⟨4, 6, b_need_three⟩ := rfl
theorem f_apart : fns[k_apart]? = some ⟨4, 4, b_apart⟩ := rfl
theorem f_law_begin : fns[k_law_begin]? = some ⟨1, 3, b_law_begin⟩ := rfl
theorem f_law_mixed : fns[k_law_mixed]? = some ⟨2, 2, b_law_mixed⟩ := rfl
theorem f_law_draw : fns[k_law_draw]? = some ⟨2, 6, b_law_draw⟩ := rfl
theorem f_law_of : fns[k_law_of]? = some ⟨2, 2, b_law_of⟩ := rfl
theorem f_law_shuffled : fns[k_law_shuffled]? = some ⟨2, 6, b_law_shuffled⟩ := rfl
theorem f_law_names : fns[k_law_names]? = some ⟨2, 5, b_law_names⟩ := rfl
theorem f_law_diagram : fns[k_law_diagram]? = some ⟨4, 12, b_law_diagram⟩ := rfl
theorem f_law_sets : fns[k_law_sets]? = some ⟨3, 8, b_law_sets⟩ := rfl
theorem f_law_above : fns[k_law_above]? = some ⟨3, 8, b_law_above⟩ := rfl
theorem f_law_same : fns[k_law_same]? = some ⟨2, 3, b_law_same⟩ := rfl
theorem f_law_near : fns[k_law_near]? = some ⟨3, 14, b_law_near⟩ := rfl
theorem f_law_reached : fns[k_law_reached]? = some ⟨4, 11, b_law_reached⟩ := rfl
theorem f_law_apart : fns[k_law_apart]? = some ⟨4, 6, b_law_apart⟩ := rfl
theorem f_law_some_set : fns[k_law_some_set]? = some ⟨2, 3, b_law_some_set⟩ := rfl
theorem f_law_thin : fns[k_law_thin]? = some ⟨4, 13, b_law_thin⟩ := rfl
theorem f_law_any : fns[k_law_any]? = some ⟨2, 3, b_law_any⟩ := rfl
theorem f_law_told : fns[k_law_told]? = some ⟨4, 5, b_law_told⟩ := rfl
theorem f_law_sets_right : fns[k_law_sets_right]? = some ⟨2, 10, b_law_sets_right⟩ := rfl
theorem f_law_weak : fns[k_law_weak]? = some ⟨2, 10, b_law_weak⟩ := rfl
theorem f_law : fns[k_law]? = some ⟨1, 6, b_law⟩ := rfl
end EV
/-! PvE: sorted (own work). -/
namespace EV
open PySem (Str PyData)
def leI (a b : Int) : Bool := decide (a ≤ b)
def isort (l : List Int) : List Int := l.mergeSort leI
theorem isort_mem {l : List Int} {x : Int} : x ∈ isort l ↔ x ∈ l := (List.mergeSort_perm l leI).mem_iff
theorem isort_len (l : List Int) : (isort l).length = l.length := (List.mergeSort_perm l leI).length_eq
theorem isort_lt {l : List Int} (h : l.Nodup) : (isort l).Pairwise (· < ·) := by
  have h1 : (isort l).Pairwise fun a b => leI a b = true := List.pairwise_mergeSort (fun a b c => by simp [leI]; omega) (fun a b => by simp [leI]; omega) l
  have h2 : (isort l).Nodup := (List.mergeSort_perm l leI).nodup_iff.mpr h
  exact (h1.and h2).imp fun ⟨h, g⟩ => by
    have : _ ≤ _ := of_decide_eq_true h
    omega
/-- of two pairs the first stands ahead, or they are one -/
def leP (p q : Pr) : Bool := decide (p.1 < q.1) || (decide (p.1 = q.1) && decide (p.2 ≤ q.2))
def psort (l : List Pr) : List Pr := l.mergeSort leP
def ltP (p q : Pr) : Prop := p.1 < q.1 ∨ (p.1 = q.1 ∧ p.2 < q.2)
theorem psort_mem {l : List Pr} {x : Pr} : x ∈ psort l ↔ x ∈ l := (List.mergeSort_perm l leP).mem_iff
theorem psort_len (l : List Pr) : (psort l).length = l.length := (List.mergeSort_perm l leP).length_eq
theorem psort_lt {l : List Pr} (h : l.Nodup) : (psort l).Pairwise ltP := by
  have h1 : (psort l).Pairwise fun a b => leP a b = true := List.pairwise_mergeSort (fun a b c => by simp [leP]; omega) (fun a b => by simp [leP]; omega) l
  have h2 : (psort l).Nodup := (List.mergeSort_perm l leP).nodup_iff.mpr h
  exact (h1.and h2).imp fun {p q} ⟨h, g⟩ => by
    simp [leP] at h
    unfold ltP
    rcases h with h | ⟨h, h'⟩
    · exact .inl h
    · refine .inr ⟨h, ?_⟩
      rcases Int.lt_or_eq_of_le h' with z | z
      · exact z
      · exact absurd (Prod.ext h z) g
theorem sort_gen {α : Type} {enc : α → D} {g : α → PyData} {le : α → α → Bool} {s : Sto} (rd : ∀ x, (enc x).rd s = some (g x)) (hle : ∀ x y, le x y = !PySem.W.dataLt (g y) (g x)) (al : ∀ x y, PySem.W.alike (g x) (g y) = true)
    (ok : (∀ x, ∃ a r, g x = .tuple (a :: r)) ∨ (∀ x, ∃ i, g x = .int i)) (l : List α) (hl : l.length ≤ 100000) : sortD (l.map enc) s = some ((l.mergeSort le).map enc) := by
  unfold sortD
  rw [mapM_enc (enc := enc) (g := fun x => (enc x, g x)) (fun x => by rw [rd x]; rfl) l]
  have h1 : (((l.map fun x => (enc x, g x)).all fun p => (l.map fun x => (enc x, g x)).all fun q => PySem.W.alike p.2 q.2)) = true := by simp [al]
  have h2 : (((l.map fun x => (enc x, g x)).all fun p => match p.2 with
      | .tuple (_ :: _) => true
      | _ => false) || ((l.map fun x => (enc x, g x)).all fun p => match p.2 with
      | .int _ => true
      | .str _ => true
      | _ => false)) = true := by
    rw [Bool.or_eq_true]
    rcases ok with h | h
    · refine .inl (List.all_eq_true.mpr fun p hp => ?_)
      obtain ⟨x, _, rfl⟩ := List.mem_map.mp hp
      obtain ⟨a, r, e⟩ := h x
      simp only [e]
    · refine .inr (List.all_eq_true.mpr fun p hp => ?_)
      obtain ⟨x, _, rfl⟩ := List.mem_map.mp hp
      obtain ⟨a, e⟩ := h x
      simp only [e]
  have h3 : inLine (l.map fun x => (enc x, g x)).length = true := by
    unfold inLine
    rw [List.length_map, decide_eq_true_eq]
    exact Nat.le_trans hl (by decide)
  refine (if_pos (Bool.and_eq_true_iff.mpr ⟨Bool.and_eq_true_iff.mpr ⟨h1, h2⟩, h3⟩)).trans ?_
  congr 1
  rw [← List.map_mergeSort (r := le) (f := fun x => (enc x, g x)) (fun a _ b _ => hle a b), List.map_map]
  rfl
theorem sortD_iL {s : Sto} (l : List Int) (hl : l.length ≤ 100000) : sortD (iL l) s = some (iL (isort l)) :=
  sort_gen (g := PyData.int) (le := leI) (fun _ => rfl) (fun x y => by
    simp [leI, PySem.W.dataLt, PySem.W.keyToks, PyProof.Rows.lexLt, PyProof.Rows.itemOrd, PyProof.Rows.itemLt]
    rw [Bool.eq_iff_iff]
    simp) (fun _ _ => by simp [PySem.W.alike]) (.inr fun i => ⟨i, rfl⟩) l hl
theorem sortD_pL {s : Sto} (l : List Pr) (hl : l.length ≤ 100000) : sortD (pL l) s = some (pL (psort l)) :=
  sort_gen (g := pP) (le := leP) (fun _ => rfl) (fun x y => by
    simp [leP, pP, PySem.W.dataLt, PySem.W.keyToks, PySem.W.keyToksAll, PyProof.Rows.lexLt, PyProof.Rows.itemOrd, PyProof.Rows.itemLt]
    rw [Bool.eq_iff_iff]
    simp
    omega) (fun _ _ => by simp [PySem.W.alike, PySem.W.alikeAll, pP]) (.inl fun p => ⟨_, _, rfl⟩) l hl
theorem T_sortL {s : Sto} {k : Nat} {l : List Int} {Q : D → Sto → Prop} (h : s.get k = some (.lst (iL l))) (hl : l.length ≤ 100000) : T (bf .sorted [.loc k] s).up Q = Q (.loc s.nxt) (s.push (.lst (iL (isort l)))) := by
  simp only [bf, h, sortD_iL l hl]
  exact T_mkList (by simp [isort_len]; omega)
theorem T_sortLP {s : Sto} {k : Nat} {l : List Pr} {Q : D → Sto → Prop} (h : s.get k = some (.lst (pL l))) (hl : l.length ≤ 100000) : T (bf .sorted [.loc k] s).up Q = Q (.loc s.nxt) (s.push (.lst (pL (psort l)))) := by
  simp only [bf, h, sortD_pL l hl]
  exact T_mkList (by simp [psort_len]; omega)
theorem T_sortTP {s : Sto} {l : List Pr} {Q : D → Sto → Prop} (hl : l.length ≤ 100000) : T (bf .sorted [.tup (pL l)] s).up Q = Q (.loc s.nxt) (s.push (.lst (pL (psort l)))) := by
  simp only [bf, sortD_pL l hl]
  exact T_mkList (by simp [psort_len]; omega)
/-! ### sets as dicts -/
def dk (l : List Int) : List (D × D) := l.map fun i => (.int i, .bool true)
theorem dk_keys (l : List Int) : (dk l).map (·.1) = iL l := by simp [dk, iL]
theorem look_dk (i : Int) : ∀ l : List Int, (lookD (.int i) (dk l)).isSome = decide (i ∈ l)
  | [] => rfl
  | j :: r => by
    show (if D.same (.int j) (.int i) then some (D.bool true) else lookD (.int i) (dk r)).isSome = _
    have := look_dk i r
    by_cases h : j = i
    · simp [D.same, h]
    · have h' : ¬ i = j := fun e => h e.symm
      simp [D.same, h, h', this]
theorem put_dk {i : Int} {l : List Int} (h : i ∉ l) : putD (.int i) (.bool true) (dk l) = dk (l ++ [i]) := by
  unfold putD
  have : (dk l).any (fun p => D.same p.1 (.int i)) = false := by
    rw [Bool.eq_false_iff]
    intro z
    obtain ⟨p, hp, e⟩ := List.any_eq_true.mp z
    obtain ⟨j, hj, rfl⟩ := List.mem_map.mp hp
    have : j = i := of_decide_eq_true e
    exact h (this ▸ hj)
  rw [this]
  simp [dk]
theorem isIn_dk {s : Sto} {k : Nat} {l : List Int} (h : s.get k = some (.dct (dk l))) (i : Int) : isIn (.int i) (.loc k) s = some (decide (i ∈ l)) := by
  simp only [isIn, h, D.key, look_dk]
theorem T_sortDk {s : Sto} {k : Nat} {l : List Int} {Q : D → Sto → Prop} (h : s.get k = some (.dct (dk l))) (hl : l.length ≤ 100000) : T (bf .sorted [.loc k] s).up Q = Q (.loc s.nxt) (s.push (.lst (iL (isort l)))) := by
  simp only [bf, h, dk_keys, sortD_iL l hl]
  exact T_mkList (by simp [isort_len]; omega)
end EV

/-! PvF: spread (own work). -/
namespace EV
open PySem (Str PyData)
variable {con : List D}
/-- what is come to -/
inductive Rch (st : Int → List Int) (g : List Int) : Int → Prop
  | base {x : Int} : x ∈ g → Rch st g x
  | step {x y : Int} : Rch st g x → y ∈ st x → Rch st g y
theorem T_dcSet {Q : Unit → Sto → Prop} {tests : Env → Sto → M Bool} {ke ve : Env → Sto → M D} {t : Tg} {ρ : Env} (s0 : Sto) (ht : ∀ ρ s, tests ρ s = .ok true s) (hv : ∀ ρ s, ve ρ s = .ok (.bool true) s) :
    ∀ (l acc : List Int), (∀ x ∈ l, ∃ ρ', asg t (.int x) ρ = some ρ' ∧ ∀ s, T (ke ρ' s) fun d s' => d = .int x ∧ s' = s) → (acc ++ l).Nodup → (acc ++ l).length ≤ 100000 → Q () (s0.push (.dct (dk (acc ++ l)))) →
    T (dcGo tests ke ve t none ρ s0.nxt (iL l) (s0.push (.dct (dk acc)))) Q
  | [], acc, _, _, _, q => by
    simp only [iL, List.map_nil, dcGo, stillM, still_none, if_true, T_ok]
    simpa using q
  | x :: r, acc, hx, nd, hl, q => by
    obtain ⟨ρ', e, h2⟩ := hx x List.mem_cons_self
    have nx : x ∉ acc := fun h => (List.nodup_append.mp nd).2.2 x h x List.mem_cons_self rfl
    have : (dk acc).length < PySem.sizeLine := Nat.lt_of_lt_of_le (show (dk acc).length < 100000 by simp [dk] at hl ⊢; omega) (by decide)
    simp only [iL, List.map_cons, dcGo, T_bind, turnM, still_none, if_true, e, T_osome, T_ite, ht, hv, T_ok]
    refine (h2 _).mono fun d s' h => ?_
    obtain ⟨rfl, rfl⟩ := h
    simp only [addK, get_push_self, D.key, this, if_true, T_ok, put_push_self, put_dk nx]
    have e2 : acc ++ x :: r = (acc ++ [x]) ++ r := by simp
    rw [e2] at nd hl q
    exact T_dcSet s0 ht hv r _ (fun y hy => hx y (List.mem_cons_of_mem _ hy)) nd hl q
theorem nodup_sub_len {α : Type} [DecidableEq α] : ∀ {l U : List α}, l.Nodup → (∀ x ∈ l, x ∈ U) → l.length ≤ U.length
  | [], U, _, _ => Nat.zero_le _
  | x :: r, U, h, hs => by
    have hx := hs x List.mem_cons_self
    have h1 : ∀ y ∈ r, y ∈ U.erase x := fun y hy => by
      have : y ≠ x := fun e => (List.nodup_cons.mp h).1 (e ▸ hy)
      exact (List.mem_erase_of_ne this).mpr (hs y (List.mem_cons_of_mem _ hy))
    have := nodup_sub_len (List.nodup_cons.mp h).2 h1
    rw [List.length_erase_of_mem hx] at this
    have : 0 < U.length := List.length_pos_of_mem hx
    simp only [List.length_cons]
    omega
theorem set_bool (k : Nat) (xs : List D) (s : Sto) (h : s.get k = some (.lst xs)) : isLst (.loc k) s = .ok () s := by simp only [isLst, h]
theorem T_spread {n : Nat} {s : Sto} {goal : List Int} {ps : List Nat} {body : E} {w : Env} (st : Int → List Int) (U : List Int)
    (hclo : ∀ x s', x ∈ U → Ex s s' → T (runN con fns n (.clo ps body w) [.tup [.int x]] s') fun v s'' => v = .tup (iL (st x)) ∧ Ex s' s'')
    (nd : goal.Nodup) (hU : ∀ x ∈ goal, x ∈ U) (hst : ∀ x ∈ U, ∀ y ∈ st x, y ∈ U) (hl : U.length ≤ 1000) :
    T (runN con fns (n + 1) (.fn k_spread) [.tup (iL goal), .clo ps body w] s) fun v s' => Ex s s' ∧ ∃ L, v = .tup (iL L) ∧ L.Pairwise (· < ·) ∧ ∀ y, y ∈ L ↔ Rch st goal y := by
  have hg : goal.length ≤ 1000 := Nat.le_trans (nodup_sub_len nd hU) hl
  rw [call_fn f_spread rfl]
  simp [b_spread, startE]
  refine T_dcSet s (fun _ _ => rfl) (fun _ _ => rfl) goal [] (fun x _ => ⟨_, rfl, fun s' => ?_⟩) (by simpa using nd) (by simp; omega) ?_
  · simp [wipe, noClo]
  simp [bf, D.items]
  rw [T_mkList (by simp; omega)]
  obtain ⟨f, ef⟩ : ∃ f, f = s.nxt := ⟨_, rfl⟩
  obtain ⟨s1, e1⟩ : ∃ s1, s1 = s.push (.dct (dk goal)) := ⟨_, rfl⟩
  obtain ⟨s2, e2⟩ : ∃ s2, s2 = s1.push (.lst (iL goal)) := ⟨_, rfl⟩
  obtain ⟨k, ek⟩ : ∃ k, k = s1.nxt := ⟨_, rfl⟩
  have x1 : Ex s s1 := by rw [e1]; exact Ex.push _ _
  have x2 : Ex s s2 := by rw [e2]; exact x1.trans (Ex.push _ _)
  have g1 : s1.get f = some (.dct (dk goal)) := by rw [e1, ef]; exact get_push_self _ _
  have g2 : s2.get f = some (.dct (dk goal)) := by rw [e2]; exact get_push g1
  have g3 : s2.get k = some (.lst (iL goal)) := by rw [e2, ek]; exact get_push_self _ _
  have fk : f < k := by rw [ek]; exact get_lt g1
  have sf : s.nxt ≤ f := Nat.le_of_eq ef.symm
  rw [← ef, ← e1, ← ek, ← e2]
  refine T_wh (fun m ρ s' => ∃ (o : Option D) (F W : List Int), ρ = [some (.tup (iL goal)), some (.clo ps body w), o, some (.loc f), some (.loc k)] ∧ s'.get f = some (.dct (dk F)) ∧ s'.get k = some (.lst (iL W)) ∧ Ex s s' ∧ F.Nodup ∧ W.Nodup ∧ W ⊆ F ∧ goal ⊆ F ∧ F ⊆ U ∧ (∀ y ∈ F, Rch st goal y) ∧ (∀ x ∈ F, x ∉ W → ∀ y ∈ st x, y ∈ F) ∧ m + F.length = U.length + W.length) ?_ turns U.length _ _ (by unfold turns; omega) ⟨none, goal, goal, rfl, g2, g3, x2, nd, nd, fun _ h => h, fun _ h => h, hU, fun _ h => .base h, fun _ h h' => absurd h h', rfl⟩
  rintro m ρ s' ⟨o, F, W, rfl, hf, hk, ex, ndF, ndW, WF, gF, FU, sound, closed, hm⟩
  have lF := nodup_sub_len ndF FU
  have lW : m + F.length = U.length + W.length := hm
  simp
  have hk' : (s'.push (.lst [])).get k = some (.lst (iL W)) := get_push hk
  have hn' : (s'.push (.lst [])).get s'.nxt = some (.lst (iL [])) := get_push_self _ _
  have hf' : (s'.push (.lst [])).get f = some (.dct (dk F)) := get_push hf
  have ex' : Ex s (s'.push (.lst [])) := ex.trans (Ex.push _ _)
  obtain ⟨s3, e3⟩ : ∃ s3, s3 = s'.push (.lst []) := ⟨_, rfl⟩
  rw [← e3] at hk' hn' hf' ex' ⊢
  simp [eqD_lints hk' hn']
  by_cases hW : W = []
  · -- the end
    simp [hW, Bool.false_eq_true]
    subst hW
    rw [T_sortDk hf' (by omega)]
    rw [tuple_loc (get_push_self _ _)]
    simp
    refine ⟨ex'.trans (Ex.push _ _), isort F, rfl, isort_lt ndF, fun y => ?_⟩
    rw [isort_mem]
    refine ⟨sound y, fun h => ?_⟩
    induction h with
    | base h => exact gF h
    | step _ h2 ih => exact closed _ ih (by simp) _ h2
  · simp [hW]
    obtain ⟨W0, x, rfl⟩ : ∃ W0 x, W = W0 ++ [x] := ⟨W.dropLast, W.getLast hW, (List.dropLast_concat_getLast hW).symm⟩
    have xF : x ∈ F := WF (by simp)
    have ndW0 : ∀ new : List Int, (F ++ new).Nodup → (W0 ++ new).Nodup := fun new h => by
      obtain ⟨_, h2, h3⟩ := List.nodup_append.mp h
      exact List.nodup_append.mpr ⟨(List.nodup_append.mp ndW).1, h2, fun a ha b hb => h3 a (WF (List.mem_append.mpr (.inl ha))) b hb⟩
    refine ⟨by simp at hm; omega, ?_⟩
    rw [set_bool k _ s3 hk']
    have ep : mt .pop (.loc k) [] s3 = .ok (.int x) (s3.put k (.lst (iL W0))) := by
      simp only [mt, hk']
      simp [iL]
    simp [ep]
    obtain ⟨s4, e4⟩ : ∃ s4, s4 = s3.put k (.lst (iL W0)) := ⟨_, rfl⟩
    have f4 : s4.get f = some (.dct (dk F)) := by rw [e4, get_put_ne (by omega)]; exact hf'
    have k4 : s4.get k = some (.lst (iL W0)) := by rw [e4]; exact get_put_self hk'
    have ex4 : Ex s s4 := by rw [e4]; exact ex'.put (by omega) _
    rw [← e4]
    refine (hclo x s4 (FU xF) ex4).mono fun v s5 h => ?_
    obtain ⟨rfl, x5⟩ := h
    have f5 := x5 _ _ f4
    have k5 := x5 _ _ k4
    have ex5 := ex4.trans x5
    simp
    refine T_for (fun r ρ s6 => ∃ (o : Option D) (rest new : List Int), r = iL rest ∧ ρ = [some (.tup (iL goal)), some (.clo ps body w), o, some (.loc f), some (.loc k)] ∧ s6.get f = some (.dct (dk (F ++ new))) ∧ s6.get k = some (.lst (iL (W0 ++ new))) ∧ Ex s s6 ∧ (F ++ new).Nodup ∧ new ⊆ st x ∧ rest ⊆ st x ∧ ∀ y ∈ st x, y ∈ F ++ new ∨ y ∈ rest) (fun _ _ _ _ => rfl) ?_ ?_ (iL (st x)) _ _ ⟨o, st x, [], rfl, rfl, by simpa using f5, by simpa using k5, ex5, by simpa using ndF, by simp, fun _ h => h, fun _ h => .inr h⟩
    · rintro y r ρ s6 ⟨o, rest, new, hr, rfl, f6, k6, ex6, nd6, ns, rs, all6⟩
      cases rest with
      | nil => cases hr
      | cons z rest =>
        injection hr with h1 h2
        subst h1 h2
        refine ⟨_, rfl, ?_⟩
        have sub : ∀ q ∈ F ++ new, q ∈ U := fun q hq => by
          rcases List.mem_append.mp hq with h | h
          · exact FU h
          · exact hst x (FU xF) q (ns h)
        simp [isIn_dk f6]
        by_cases hz : z ∈ F ++ new
        · have hz' : z ∈ F ∨ z ∈ new := List.mem_append.mp hz
          rw [if_neg fun h => hz'.elim h.1 h.2]
          refine ⟨some (.int z), rest, rfl, rfl, new, f6, k6, ex6, by simpa using nd6, ns, (List.cons_subset.mp rs).2, fun y hy => ?_⟩
          rcases all6 y hy with h | h
          · exact .inl (List.mem_append.mp h)
          · rcases List.mem_cons.mp h with rfl | h
            · exact .inl hz'
            · exact .inr h
        · have hz' : ¬ (z ∈ F ∨ z ∈ new) := fun h => hz (List.mem_append.mpr h)
          have nd7 : ((F ++ new) ++ [z]).Nodup := List.nodup_append.mpr ⟨nd6, by simp, fun a ha b hb e => by simp at hb; exact hz (hb ▸ e ▸ ha)⟩
          have l7 : (F ++ new).length ≤ 1000 := Nat.le_trans (nodup_sub_len nd6 sub) hl
          have lt7 : (dk (F ++ new)).length < PySem.sizeLine := Nat.lt_of_lt_of_le (show (dk (F ++ new)).length < 100000 by unfold dk; rw [List.length_map]; omega) (by decide)
          have W7 : (iL (W0 ++ new)).length < PySem.sizeLine := by
            refine Nat.lt_of_lt_of_le (show (iL (W0 ++ new)).length < 100000 from ?_) (by decide)
            rw [ints_len]
            exact Nat.lt_of_le_of_lt (nodup_sub_len (ndW0 new nd6) fun q hq => by
              rcases List.mem_append.mp hq with h | h
              · exact FU (WF (List.mem_append.mpr (.inl h)))
              · exact sub q (List.mem_append.mpr (.inr h))) (Nat.lt_of_le_of_lt hl (by decide))
          rw [if_pos ⟨fun h => hz' (.inl h), fun h => hz' (.inr h)⟩]
          simp only [setIt, f6, D.key, lt7, if_true, R.up, T_ok, put_dk hz]
          have f8 : (s6.put f (.dct (dk (F ++ new ++ [z])))).get f = some (.dct (dk (F ++ new ++ [z]))) := get_put_self f6
          have k8 : (s6.put f (.dct (dk (F ++ new ++ [z])))).get k = some (.lst (iL (W0 ++ new))) := by rw [get_put_ne (by omega)]; exact k6
          rw [set_bool k _ _ k8]
          simp only [T_ok, mt, k8, W7, if_true, R.up]
          refine ⟨some (.int z), rest, rfl, rfl, new ++ [z], ?_, ?_, (ex6.put sf _).put (by omega) _, by simpa using nd7, ?_, (List.cons_subset.mp rs).2, fun y hy => ?_⟩
          · rw [get_put_ne (by omega), f8, List.append_assoc]
          · rw [get_put_self k8]
            simp [iL]
          · intro q hq
            rcases List.mem_append.mp hq with h | h
            · exact ns h
            · rw [List.mem_singleton.mp h]
              exact rs List.mem_cons_self
          · rcases all6 y hy with h | h
            · rcases List.mem_append.mp h with h | h
              · exact .inl (.inl h)
              · exact .inl (.inr (List.mem_append.mpr (.inl h)))
            · rcases List.mem_cons.mp h with rfl | h
              · exact .inl (.inr (List.mem_append.mpr (.inr List.mem_cons_self)))
              · exact .inr h
    · rintro ρ s6 ⟨o, rest, new, hr, rfl, f6, k6, ex6, nd6, ns, rs, all6⟩
      have hr : rest = [] := by
        cases rest with
        | nil => rfl
        | cons _ _ => cases hr
      subst hr
      simp
      refine ⟨F ++ new, f6, W0 ++ new, k6, ex6, nd6, ndW0 new nd6, ?_, ?_, ?_, ?_, ?_, ?_⟩
      · intro q hq
        rcases List.mem_append.mp hq with h | h
        · exact List.mem_append.mpr (.inl (WF (List.mem_append.mpr (.inl h))))
        · exact List.mem_append.mpr (.inr h)
      · exact fun q hq => List.mem_append.mpr (.inl (gF hq))
      · intro q hq
        rcases List.mem_append.mp hq with h | h
        · exact FU h
        · exact hst x (FU xF) q (ns h)
      · intro y hy
        rcases List.mem_append.mp hy with h | h
        · exact sound y h
        · exact .step (sound x xF) (ns h)
      · intro q hq nq y hy
        rcases List.mem_append.mp hq with h | h
        · by_cases e : q = x
          · subst e
            rcases all6 y hy with h | h
            · exact h
            · cases h
          · exact List.mem_append.mpr (.inl (closed q h (fun z => by
              rcases List.mem_append.mp z with z | z
              · exact nq (List.mem_append.mpr (.inl z))
              · exact e (List.mem_singleton.mp z)) y hy))
        · exact absurd (List.mem_append.mpr (.inr h)) nq
      · simp only [List.length_append, List.length_singleton] at lW ⊢
        simp at hm
        omega
end EV

/-! PvG: what leads to a set, what hangs together (own work). -/
namespace EV
open PySem (Str PyData)
variable {con : List D}
def dia (N : List Str) (A B : List Pr) : D := .tup [.tup (sL N), .tup (pL A), .tup (pL B)]
@[simp] theorem getV_dia (N : List Str) (A B : List Pr) (r : Env) (s : Sto) : getV (some (dia N A B) :: r) 0 s = .ok (dia N A B) s := id rfl
@[simp] theorem ix_d0 (N : List Str) (A B : List Pr) (s : Sto) : ix (dia N A B) (.int 0) s = .ok (.tup (sL N)) s := by simp [dia]
@[simp] theorem ix_d1 (N : List Str) (A B : List Pr) (s : Sto) : ix (dia N A B) (.int 1) s = .ok (.tup (pL A)) s := by simp [dia]
@[simp] theorem ix_d2 (N : List Str) (A B : List Pr) (s : Sto) : ix (dia N A B) (.int 2) s = .ok (.tup (pL B)) s := by simp [dia]
def inn (W : List Int) (A : List Pr) : List Pr := A.filter fun p => decide (p.1 ∈ W) && decide (p.2 ∈ W)
theorem inn_mem {W : List Int} {A : List Pr} {p : Pr} : p ∈ inn W A ↔ p ∈ A ∧ p.1 ∈ W ∧ p.2 ∈ W := by simp [inn]
theorem inn_len (W : List Int) (A : List Pr) : (inn W A).length ≤ A.length := List.length_filter_le _ _
def upOf (C : List Pr) (x : Int) : List Int := (C.filter fun p => decide (p.2 ∈ [x])).map (·.1)
theorem upOf_mem {C : List Pr} {x y : Int} : y ∈ upOf C x ↔ (y, x) ∈ C := by
  unfold upOf
  simp only [List.mem_map, List.mem_filter, List.mem_singleton, decide_eq_true_eq]
  constructor
  · rintro ⟨⟨a, b⟩, ⟨h, rfl⟩, rfl⟩
    exact h
  · exact fun h => ⟨_, ⟨h, rfl⟩, rfl⟩
/-- a comprehension over pairs that keeps some -/
theorem T_keep {con : List D} {cf : Cf} {ρ : Env} {s : Sto} {Q : D → Sto → Prop} {src : E} {i : Nat} {ifs : Es} {A : List Pr} (P : Pr → Bool) (hs : T (evE con cf src ρ s) fun v s' => v = .tup (pL A) ∧ s' = s)
    (ht : ∀ p ∈ A, ∀ s, T (evIfs con cf ifs ((wipe (noClo ρ) [i]).set i (some (prD p))) s) fun b s1 => b = P p ∧ s1 = s)
    (he : ∀ p s, T (evE con cf (.var i) ((wipe (noClo ρ) [i]).set i (some (prD p))) s) fun d s1 => d = prD p ∧ s1 = s)
    (hl : A.length ≤ 1000) (q : Q (.loc s.nxt) (s.push (.lst (pL (A.filter P))))) : T (evE con cf (.gen .list (.e src) (.n i) [i] ifs (.var i)) ρ s) Q := by
  rw [T_genL, T_sre, T_eq hs]
  simp only [T_ok, walk_tup, T_osome]
  refine T_lcP (enc := prD) s P prD (fun _ => rfl) A [] (fun p hp => ⟨_, rfl, fun acc => ?_⟩) (by simp; omega) (by simpa [pL] using q)
  refine (ht p hp _).mono fun b s1 ⟨h1, h2⟩ => ⟨h1, h2, fun _ => ?_⟩
  rw [h2]
  exact he p _
end EV

/-! PvH: being connected; districts (own work). -/
namespace EV
open PySem (Str PyData)
/-- come to from st by steps E within G -/
inductive Lead (E : Int → Int → Prop) (G st : Int → Prop) : Int → Prop
  | base {x : Int} : st x → Lead E G st x
  | step {x y : Int} : Lead E G st x → E x y → G x → G y → Lead E G st y
def tieE (B : List Pr) (x y : Int) : Prop := (x, y) ∈ B ∨ (y, x) ∈ B
def arrE (A : List Pr) (x y : Int) : Prop := (y, x) ∈ A
theorem tieE.symm {B : List Pr} {x y : Int} (h : tieE B x y) : tieE B y x := h.elim .inr .inl
section
variable {E E' : Int → Int → Prop} {G G' st st' : Int → Prop} {x y z : Int}
theorem Lead.mono (h : Lead E G st x) (hE : ∀ x y, E x y → E' x y) (hG : ∀ x, G x → G' x) (hs : ∀ x, st x → st' x) : Lead E' G' st' x := by
  induction h with
  | base h => exact .base (hs _ h)
  | step _ h g1 g2 ih => exact .step ih (hE _ _ h) (hG _ g1) (hG _ g2)
theorem Lead.start (h : Lead E G st x) (hs : ∀ x, st x → Lead E G st' x) : Lead E G st' x := by
  induction h with
  | base h => exact hs _ h
  | step _ h g1 g2 ih => exact .step ih h g1 g2
theorem Lead.inG (h : Lead E G st x) (hs : ∀ x, st x → G x) : G x := by
  cases h with
  | base h => exact hs _ h
  | step _ _ _ h => exact h
theorem Lead.self (h : Lead E G st x) : Lead E (Lead E G st) st x := by
  induction h with
  | base h => exact .base h
  | step p h g1 g2 ih => exact .step ih h p (.step p h g1 g2)
theorem Lead.symm (hE : ∀ x y, E x y → E y x) (h : Lead E G (· = x) y) : Lead E G (· = y) x := by
  induction h with
  | base h => exact .base h.symm
  | step p h g1 g2 ih => exact ih.start fun z hz => by subst hz; exact .step (.base rfl) (hE _ _ h) g2 g1
end
theorem rch_up {A : List Pr} {W g : List Int} {y : Int} : Rch (upOf (inn W A)) g y ↔ Lead (arrE A) (· ∈ W) (· ∈ g) y := by
  constructor <;> intro h
  · induction h with
    | base h => exact .base h
    | step _ h ih =>
      rw [upOf_mem, inn_mem] at h
      exact .step ih h.1 h.2.2 h.2.1
  · induction h with
    | base h => exact .base h
    | step _ h g1 g2 ih => exact .step ih (by rw [upOf_mem, inn_mem]; exact ⟨h, g2, g1⟩)
/-- a sorted list's members are those for which p holds -/
structure Is (L : List Int) (p : Int → Prop) : Prop where
  lt : L.Pairwise (· < ·)
  mem : ∀ y, y ∈ L ↔ p y
theorem Is.nd {L : List Int} {p : Int → Prop} (h : Is L p) : L.Nodup := h.lt.imp fun h => by omega
theorem sorted_eq : ∀ {l m : List Int}, l.Pairwise (· < ·) → m.Pairwise (· < ·) → (∀ y, y ∈ l ↔ y ∈ m) → l = m
  | [], [], _, _, _ => rfl
  | [], b :: m, _, _, h => absurd ((h b).mpr List.mem_cons_self) (by simp)
  | a :: l, [], _, _, h => absurd ((h a).mp List.mem_cons_self) (by simp)
  | a :: l, b :: m, hl, hm, h => by
    obtain ⟨l1, l2⟩ := List.pairwise_cons.mp hl
    obtain ⟨m1, m2⟩ := List.pairwise_cons.mp hm
    have e : a = b := by
      have h1 := (h a).mp List.mem_cons_self
      have h2 := (h b).mpr List.mem_cons_self
      rcases List.mem_cons.mp h1 with h1 | h1
      · exact h1
      · rcases List.mem_cons.mp h2 with h2 | h2
        · exact h2.symm
        · have := m1 a h1
          have := l1 b h2
          omega
    subst e
    congr 1
    refine sorted_eq l2 m2 fun y => ⟨fun hy => ?_, fun hy => ?_⟩
    · rcases List.mem_cons.mp ((h y).mp (List.mem_cons_of_mem _ hy)) with h3 | h3
      · have := l1 y hy; omega
      · exact h3
    · rcases List.mem_cons.mp ((h y).mpr (List.mem_cons_of_mem _ hy)) with h3 | h3
      · have := m1 y hy; omega
      · exact h3
theorem Is.uniq {L M : List Int} {p q : Int → Prop} (h : Is L p) (g : Is M q) (e : ∀ y, p y ↔ q y) : L = M := sorted_eq h.lt g.lt fun y => (h.mem y).trans ((e y).trans (g.mem y).symm)
variable {con : List D}
/-! ### rows of sets -/
def tI (L : List Int) : D := .tup (iL L)
def tL (l : List (List Int)) : List D := l.map tI
@[simp] theorem tL_len (l : List (List Int)) : (tL l).length = l.length := List.length_map ..
@[simp] theorem tL_app (l m : List (List Int)) : tL l ++ tL m = tL (l ++ m) := (List.map_append ..).symm
theorem eqbs_tL : ∀ l : List (List Int), D.eqbs (tL l) (tL l) = true
  | [] => rfl
  | i :: r => by
    show (D.eqbs (iL i) (iL i) && D.eqbs (tL r) (tL r)) = true
    rw [eqbs_tL r, eqbs_iL]; rfl
theorem still_tL {k : Nat} {l : List (List Int)} {s : Sto} (h : s.get k = some (.lst (tL l))) : still (some (k, tL l)) s = true := by simp only [still, h, eqbs_tL]
theorem T_app {k : Nat} {xs : List D} {d : D} {s : Sto} {Q : D → Sto → Prop} (h : s.get k = some (.lst xs)) (hl : xs.length ≤ 100000) : T (mt .append (.loc k) [d] s).up Q = Q .none (s.put k (.lst (xs ++ [d]))) := by
  have : xs.length < PySem.sizeLine := Nat.lt_of_le_of_lt hl (by decide)
  simp only [mt, h, this, if_true, T_upok]
theorem T_isL {k : Nat} {xs : List D} {s : Sto} {Q : Unit → Sto → Prop} (h : s.get k = some (.lst xs)) : T (isLst (.loc k) s) Q = Q () s := by simp only [isLst, h, T_ok]
end EV

/-! PvI: chains (own work). -/
namespace EV
open PySem (Str PyData)
variable {con : List D}
def allv (n : Nat) : List Int := (List.range n).map fun k : Nat => (k : Int)
theorem allv_mem {n : Nat} {v : Int} : v ∈ allv n ↔ 0 ≤ v ∧ v < n := by
  unfold allv
  simp only [List.mem_map, List.mem_range]
  constructor
  · rintro ⟨k, h, rfl⟩
    omega
  · rintro ⟨h1, h2⟩
    exact ⟨v.toNat, by omega, by omega⟩
theorem allv_lt (n : Nat) : (allv n).Pairwise (· < ·) := by
  unfold allv
  rw [List.pairwise_map]
  exact List.pairwise_lt_range.imp fun h => by omega
@[simp] theorem allv_len (n : Nat) : (allv n).length = n := by simp [allv]
theorem T_rng1 {s : Sto} {Q : Walk → Sto → Prop} (n : Nat) (h : n ≤ 1000) : T (rngA (.int (n : Int)) s) Q = Q (iL (allv n), none) s := by
  have : rngOk (n : Int) = true := by rw [rngOk_iff]; omega
  have e : rngs 0 n = iL (allv n) := by
    unfold rngs iL allv
    rw [List.map_map]
    refine List.map_congr_left fun k _ => ?_
    show D.int (0 + (k : Int)) = D.int k
    rw [Int.zero_add]
  unfold rngA
  simp only [rng1, this, if_true, T_ok, Int.toNat_natCast, e]
def rngL (a b : Nat) : List Int := (List.range (b - a)).map fun k => ((a + k : Nat) : Int)
@[simp] theorem rngL_len (a b : Nat) : (rngL a b).length = b - a := by simp [rngL]
theorem rngL_at {a b : Nat} {pre r : List Int} {x : Int} (h : rngL a b = pre ++ x :: r) : x = ((a + pre.length : Nat) : Int) ∧ a + pre.length < b := by
  have e : (rngL a b)[pre.length]? = some x := by rw [h]; simp
  have hl : pre.length < b - a := by
    have := congrArg List.length h
    simp at this
    omega
  unfold rngL at e
  simp [hl] at e
  exact ⟨by omega, by omega⟩
theorem T_rng2 {s : Sto} {Q : Walk → Sto → Prop} (a b : Nat) (ha : a ≤ 1000) (hb : b ≤ 1000) : T (rngB (.int (a : Int)) (.int (b : Int)) s) Q = Q (iL (rngL a b), none) s := by
  have r1 : rngOk (a : Int) = true := by rw [rngOk_iff]; omega
  have r2 : rngOk (b : Int) = true := by rw [rngOk_iff]; omega
  have : rngs (a : Int) ((b : Int) - a).toNat = iL (rngL a b) := by
    unfold rngs iL rngL
    rw [List.map_map, show ((b : Int) - a).toNat = b - a by omega]
    refine List.map_congr_left fun k _ => ?_
    show D.int ((a : Int) + k) = D.int ((a + k : Nat) : Int)
    congr 1
  unfold rngB rng2
  simp only [r1, r2, Bool.and_self, if_true, T_ok, this]
theorem T_rngO {s : Sto} {Q : Walk → Sto → Prop} (b : Nat) (hb : b ≤ 1000) : T (rngB (.int 1) (.int (b : Int)) s) Q = Q (iL (rngL 1 b), none) s := T_rng2 1 b (by decide) hb
theorem T_count (n : Nat) {s : Sto} {N : List Str} {A B : List Pr} : T (runN con fns (n + 1) (.fn k_count_of) [dia N A B] s) fun v s' => v = .int N.length ∧ s' = s := by
  rw [call_fn f_count_of rfl]
  simp [b_count_of, startE]
/-- a comprehension over whole numbers that keeps some -/
theorem T_keepI {con : List D} {cf : Cf} {ρ : Env} {s : Sto} {Q : D → Sto → Prop} {src : Sr} {i : Nat} {ifs : Es} {A : List Int} (P : Int → Bool) (hs : T (evSr con cf src ρ s) fun v s' => v = (iL A, none) ∧ s' = s)
    (ht : ∀ p ∈ A, ∀ s, T (evIfs con cf ifs ((wipe (noClo ρ) [i]).set i (some (.int p))) s) fun b s1 => b = P p ∧ s1 = s)
    (he : ∀ p s, T (evE con cf (.var i) ((wipe (noClo ρ) [i]).set i (some (.int p))) s) fun d s1 => d = .int p ∧ s1 = s)
    (hl : A.length ≤ 1000) (q : Q (.loc s.nxt) (s.push (.lst (iL (A.filter P))))) : T (evE con cf (.gen .list src (.n i) [i] ifs (.var i)) ρ s) Q := by
  rw [T_genL, T_eq hs]
  simp only [T_ok, walk_tup, T_osome]
  refine T_lcP (enc := D.int) s P D.int (fun _ => rfl) A [] (fun p hp => ⟨_, rfl, fun acc => ?_⟩) (by simp; omega) (by simpa [iL] using q)
  refine (ht p hp _).mono fun b s1 ⟨h1, h2⟩ => ⟨h1, h2, fun _ => ?_⟩
  rw [h2]
  exact he p _
def rest (n : Nat) (d : List Int) (v : Int) : Prop := 0 ≤ v ∧ v < n ∧ v ∉ d
/-- what matters -/
def Wh (n : Nat) (A : List Pr) (g d : List Int) : Int → Prop := Lead (arrE A) (rest n d) (· ∈ g)
/-- what hangs together with x among these -/
def Comp (B : List Pr) (G : Int → Prop) (x : Int) : Int → Prop := Lead (tieE B) G (· = x)
/-- two sets handed in -/
structure Two (n : Nat) (g d : List Int) : Prop where
  pg : g.Pairwise (· < ·)
  pd : d.Pairwise (· < ·)
  gr : ∀ v ∈ g, 0 ≤ v ∧ v < n
  dr : ∀ v ∈ d, 0 ≤ v ∧ v < n
  ap : ∀ v ∈ g, v ∉ d
theorem len_le {n : Nat} {g : List Int} (h : g.Pairwise (· < ·)) (hr : ∀ v ∈ g, 0 ≤ v ∧ v < n) : g.length ≤ n := by
  have := nodup_sub_len (U := allv n) (h.imp fun h => by omega : g.Nodup) fun v hv => allv_mem.mpr (hr v hv)
  simpa using this
end EV

/-! PvJ: chains (own work). -/
namespace EV
open PySem (Str PyData)
variable {con : List D}
theorem nodup_all {l m : List Int} (h : l.Nodup) (hs : ∀ x ∈ l, x ∈ m) (hl : m.length ≤ l.length) : ∀ x ∈ m, x ∈ l := fun x hx => by
  refine Decidable.byContradiction fun hn => ?_
  have h2 : (x :: l).Nodup := List.nodup_cons.mpr ⟨hn, h⟩
  have := nodup_sub_len h2 fun y hy => by
    rcases List.mem_cons.mp hy with rfl | hy
    · exact hx
    · exact hs y hy
  simp at this
  omega
theorem ixN_last (n : Nat) : L2.ixN (n + 1) (-1) = some n := by
  unfold L2.ixN
  simp
  omega
theorem ix_lastL {k : Nat} {xs : List D} {a : D} {s : Sto} (h : s.get k = some (.lst (xs ++ [a]))) : ix (.loc k) (.int (-1)) s = .ok a s := by
  simp only [ix, h, atI, L2.atI]
  rw [List.length_append, List.length_singleton, ixN_last]
  simp
theorem ix_lastT {xs : List D} {a : D} {s : Sto} : ix (.tup (xs ++ [a])) (.int (-1)) s = .ok a s := by
  simp only [ix, atI, L2.atI]
  rw [List.length_append, List.length_singleton, ixN_last]
  simp
@[simp] theorem neg_1 (s : Sto) : negM (.int 1) s = .ok (.int (-1)) s := id rfl
theorem T.post {α : Type} {r : M α} {P : α → Sto → Prop} (h : ∀ Q : α → Sto → Prop, (∀ v s, P v s → Q v s) → T r Q) : T r P := h P fun _ _ h => h
end EV

/-! PvM: names, pairs (own work). -/
namespace EV
open PySem (Str PyData)
def smallS : Str := ⟨#[97, 98, 99, 100, 101, 102, 103, 104, 105, 106, 107, 108, 109, 110, 111, 112, 113, 114, 115, 116, 117, 118, 119, 120, 121, 122]⟩
def figS : Str := ⟨#[48, 49, 50, 51, 52, 53, 54, 55, 56, 57]⟩
def gtS : Str := ⟨#[62]⟩
def ltS : Str := ⟨#[60]⟩
def eqS : Str := ⟨#[61]⟩
def con4 : List D := [.str smallS, .str figS, .int 8, .int 12, .tup [.str gtS, .str ltS, .str eqS], .tup [.str ltS, .str eqS], .tup [.str gtS, .str eqS]]
def signOk (c : Nat) : Bool := decide (c ∈ smallS.cps.toList) || decide (c ∈ figS.cps.toList)
/-- a right name -/
structure NameOk (z : Str) : Prop where
  hd : ∃ c r, z.cps.toList = c :: r ∧ r.length ≤ 7 ∧ c ∈ smallS.cps.toList
  al : ∀ c ∈ z.cps.toList, signOk c = true
theorem NameOk.len {z : Str} (h : NameOk z) : 1 ≤ z.length ∧ z.length ≤ 8 := by
  obtain ⟨c, r, e, hr, _⟩ := h.hd
  have : z.length = (c :: r).length := by rw [← e]; simp [PySem.Str.length]
  simp at this
  omega
theorem signOk_lt {c : Nat} (h : signOk c = true) : c < 1114112 := by
  simp [signOk, smallS, figS] at h
  omega
theorem NameOk.strOk {z : Str} (h : NameOk z) : PyData.canLay0 (.str z) = true := by
  show (z.cps.all (· < 0x110000)) = true
  rw [Array.all_eq_true']
  intro c hc
  exact decide_eq_true (signOk_lt (h.al c (Array.mem_toList_iff.mpr hc)))
@[simp] theorem isi_ii (i : Int) (s : Sto) : isi (.int i) .int s = .ok (.bool true) s := id rfl
@[simp] theorem isi_ib (i : Int) (s : Sto) : isi (.int i) .bool s = .ok (.bool false) s := id rfl
@[simp] theorem isi_tt (i : List D) (s : Sto) : isi (.tup i) .tuple s = .ok (.bool true) s := id rfl
@[simp] theorem isi_pt (i : Pr) (s : Sto) : isi (prD i) .tuple s = .ok (.bool true) s := id rfl
@[simp] theorem isi_ss (i : Str) (s : Sto) : isi (.str i) .str s = .ok (.bool true) s := id rfl
@[simp] theorem con4_0 : con4[0]? = some (.str smallS) := id rfl
@[simp] theorem con4_1 : con4[1]? = some (.str figS) := id rfl
@[simp] theorem con4_4 : con4[4]? = some (.tup [.str gtS, .str ltS, .str eqS]) := id rfl
@[simp] theorem con4_5 : con4[5]? = some (.tup [.str ltS, .str eqS]) := id rfl
@[simp] theorem con4_6 : con4[6]? = some (.tup [.str gtS, .str eqS]) := id rfl
@[simp] theorem con4_2 : con4[2]? = some (.int 8) := id rfl
@[simp] theorem con4_3 : con4[3]? = some (.int 12) := id rfl
theorem T_whole (n : Nat) {s : Sto} (i : Int) : T (runN con4 fns (n + 1) (.fn k_is_whole) [.int i] s) fun v s' => v = .bool true ∧ s' = s := by
  rw [call_fn f_is_whole rfl]
  simp [b_is_whole, startE]
theorem T_number (n : Nat) {s : Sto} (i a b : Int) : T (runN con4 fns (n + 2) (.fn k_is_number) [.int i, .int a, .int b] s) fun v s' => v = .bool (decide (a ≤ i) && decide (i ≤ b)) ∧ s' = s := by
  rw [call_fn f_is_number rfl]
  simp [b_is_number, startE]
  refine (T_whole n i).mono fun v s' h => ?_
  obtain ⟨rfl, rfl⟩ := h
  by_cases h1 : a ≤ i <;> simp [h1]
theorem len_str {z : Str} (h : NameOk z) (s : Sto) : bf .len [.str z] s = .ok (.int z.length) s := by
  have : inLine z.length = true := decide_eq_true (Nat.le_trans h.len.2 (by decide))
  simp only [bf, this, if_true]
def chD (c : Nat) : D := .str ⟨#[c]⟩
theorem T_name (n : Nat) {s : Sto} {z : Str} (h : NameOk z) : T (runN con4 fns (n + 1) (.fn k_is_name) [.str z] s) fun v s' => v = .bool true ∧ s' = s := by
  obtain ⟨c, r, e, hr, hc⟩ := h.hd
  have hl := h.len
  have il : inLine z.length = true := decide_eq_true (Nat.le_trans h.len.2 (by decide))
  have e0 : ix (.str z) (.int 0) s = .ok (chD c) s := by
    simp only [ix, il, if_true, e]
    simp [L2.atI, L2.ixN, chD]
  have e1 : ∀ (c : Nat) (s : Sto), isIn (chD c) (.str smallS) s = some (decide (c ∈ smallS.cps.toList)) := fun c s => rfl
  have e2 : ∀ (c : Nat) (s : Sto), isIn (chD c) (.str figS) s = some (decide (c ∈ figS.cps.toList)) := fun c s => rfl
  have e3 : ∀ (c : Nat) (s : Sto) (r : Env), getV (some (chD c) :: r) 0 s = .ok (chD c) s := fun _ _ _ => rfl
  have e4 : ∀ s : Sto, walkOf (.str z) s = some (z.cps.toList.map chD, none) := fun s => rfl
  rw [call_fn f_is_name rfl]
  have h1 : (1 : Int) ≤ z.length := by omega
  have h2 : (z.length : Int) ≤ 8 := by omega
  simp only [b_is_name, startE, T_scons, T_site, T_or, T_not, T_isi, T_cmp2, T_bf, T_cons, T_nil, T_var, List.map_cons, List.map_nil, List.cons_append, List.nil_append, getV_str, T_ok, isi_ss, T_upok, T_trub, Bool.not_true, Bool.false_eq_true, if_false, T_int, len_str h, cpB_le, h1, decide_true, if_true, T_con, con4_2, T_osome, h2, T_snil, then_nx, T_cmp, T_idx, e0, con4_0, cpB_ni, e1, hc, Option.map_some, T_ret, T_genA, T_sre, e4]
  refine T_abP (enc := chD) (P := signOk) (J := (· = s)) (fun _ _ => rfl) _ s rfl (fun x hx => ⟨_, rfl, fun s' e => ?_⟩) fun s' e => ?_
  · subst e
    have := h.al x hx
    simp only [wipe, noClo, List.map_cons, List.map_nil, List.set_cons_succ, List.set_cons_zero, T_ifnil, T_or, T_cmp, T_var, List.length_cons, List.length_nil, List.replicate, getV_1, e3, T_ok, T_con, con4_0, con4_1, T_osome, cpB_in, e1, e2, T_trub, true_and]
    unfold signOk
    by_cases hx : x ∈ smallS.cps.toList
    · simp [hx]
    · simp [hx]
  · subst e
    simp only [Bool.false_eq_true, if_false, then_rt, T_retM, and_true, D.bool.injEq]
    exact List.all_eq_true.mpr h.al
end EV

/-! PvN: right diagrams (own work). -/
namespace EV
open PySem (Str PyData)
theorem canS : ∀ {l : List Str}, (∀ z ∈ l, NameOk z) → PyData.canLayAll0 (pS l) = true
  | [], _ => rfl
  | z :: r, h => by
    show (PyData.canLay0 (.str z) && PyData.canLayAll0 (pS r)) = true
    rw [canS fun x hx => h x (List.mem_cons_of_mem _ hx), (h z List.mem_cons_self).strOk]; rfl
theorem depS : ∀ l : List Str, PyData.depthAll (pS l) = 0
  | [] => rfl
  | i :: r => by
    show max (PyData.depth (.str i)) (PyData.depthAll (pS r)) = 0
    rw [depS r]; rfl
theorem rd_str {z : Str} {s : Sto} (h : NameOk z) : (D.str z).rd s = some (.str z) := by
  unfold D.rd deep
  rw [read_str]
  have : PySem.SeqAt.shaped (.str z) = true := by
    unfold PySem.SeqAt.shaped
    rw [h.strOk]; rfl
  simp only [this, if_true]
theorem rd_sL {l : List Str} {s : Sto} (h : ∀ z ∈ l, NameOk z) : (D.tup (sL l)).rd s = some (.tuple (pS l)) := by
  unfold D.rd deep
  have e : D.read s 20 (.tup (sL l)) = some (.tuple (pS l)) := by
    show Option.map _ ((sL l).mapM (D.read s 19)) = _
    rw [show (sL l).mapM (D.read s 19) = some (pS l) from mapM_enc (enc := D.str) (g := PyData.str) (fun _ => rfl) l]
    rfl
  rw [e]
  have : PySem.SeqAt.shaped (.tuple (pS l)) = true := by
    unfold PySem.SeqAt.shaped
    show (PyData.canLayAll0 (pS l) && decide (PyData.depthAll (pS l) + 1 ≤ 64)) = true
    rw [canS h, depS]; rfl
  simp only [this, if_true]
theorem isIn_sL {z : Str} {l : List Str} {s : Sto} (hz : NameOk z) (h : ∀ z ∈ l, NameOk z) : isIn (.str z) (.tup (sL l)) s = some (decide (z ∈ l)) := by
  simp only [isIn, rd_str hz, rd_sL h]
  congr 1
  unfold pS
  rw [Bool.eq_iff_iff]
  simp [PyData.eqv]
theorem cut_pre {ds : List D} {k : Nat} (h : k ≤ ds.length) : cut ds none (some (k : Int)) = ds.take k := by
  unfold cut
  rw [HT.sIx_nat, HT.sIx_none, Nat.sub_zero, List.drop_zero, Nat.min_eq_left h]
def enF (k : Nat) (xs : List D) : List D := (xs.zipIdx k).map fun p => D.tup [.int (p.2 : Nat), p.1]
theorem enF_cons (k : Nat) (x : D) (xs : List D) : enF k (x :: xs) = D.tup [.int (k : Nat), x] :: enF (k + 1) xs := rfl
theorem enF_nil {k : Nat} {xs : List D} (h : enF k xs = []) : xs = [] := by
  cases xs with
  | nil => rfl
  | cons _ _ => cases h
@[simp] theorem enum_tup (xs : List D) (s : Sto) {Q : Walk → Sto → Prop} : T (enumW (.tup xs) s) Q = Q (enF 0 xs, none) s := id rfl
@[simp] theorem bound_int (i : Int) (s : Sto) {Q : Option Int → Sto → Prop} : T (bound (.int i) s) Q = Q (some i) s := id rfl
@[simp] theorem slice_tup (ds : List D) (lo hi : Option Int) (s : Sto) : slice (.tup ds) lo hi s = .ok (.tup (cut ds lo hi)) s := id rfl
theorem T_wnames (n : Nat) {s : Sto} {N : List Str} (h1 : 1 ≤ N.length) (h2 : N.length ≤ 12) (nm : ∀ z ∈ N, NameOk z) (nd : N.Nodup) :
    T (runN con4 fns (n + 2) (.fn k_wrong_names) [.tup (sL N)] s) fun v s' => v = .none ∧ s' = s := by
  refine T.post fun Q hQ => ?_
  rw [call_fn f_wrong_names rfl]
  have g1 : (1 : Int) ≤ N.length := by omega
  have g2 : (N.length : Int) ≤ 12 := by omega
  simp [b_wrong_names, startE, g1, g2]
  refine T_for (fun r ρ s' => ∃ (o1 o2 : Option D) (done rest : List Str), r = enF done.length (sL rest) ∧ ρ = [some (.tup (sL N)), o1, o2] ∧ s' = s ∧ N = done ++ rest) (fun _ _ _ _ => rfl) ?_ ?_ _ _ _ ⟨none, none, [], N, rfl, rfl, rfl, rfl⟩
  · rintro x r ρ s' ⟨o1, o2, done, rest, hr, rfl, rfl, e⟩
    cases rest with
    | nil => cases hr
    | cons z rest =>
      obtain ⟨rfl, rfl⟩ := List.cons.inj (show x :: r = D.tup [.int done.length, .str z] :: enF (done.length + 1) (sL rest) from hr)
      have hz : NameOk z := nm z (by rw [e]; simp)
      have hk : done.length ≤ (sL N).length := by rw [e]; simp
      have ht : (sL N).take done.length = sL done := by rw [e, ← strs_app]; simp [sL]
      have hn : z ∉ done := fun h => (List.nodup_append.mp (e ▸ nd)).2.2 z h z List.mem_cons_self rfl
      refine ⟨_, rfl, ?_⟩
      simp
      refine (T_name n hz).mono fun v s2 h => ?_
      obtain ⟨rfl, rfl⟩ := h
      simp [cut_pre hk, ht, isIn_sL (l := done) hz fun y hy => nm y (by rw [e]; simp [hy]), hn]
      exact ⟨_, _, done ++ [z], rest, by simp [sL], ⟨rfl, rfl⟩, by simp [e]⟩
  · rintro ρ s' ⟨o1, o2, done, rest, hr, rfl, rfl, e⟩
    simp
    exact hQ _ _ ⟨rfl, rfl⟩
/-! ### pairs -/
theorem T_pair (n : Nat) {s : Sto} {p : Pr} {m : Nat} (h1 : 0 ≤ p.1 ∧ p.1 < m) (h2 : 0 ≤ p.2 ∧ p.2 < m) (h3 : p.1 ≠ p.2) :
    T (runN con4 fns (n + 3) (.fn k_is_pair) [prD p, .int m] s) fun v s' => v = .bool true ∧ s' = s := by
  rw [call_fn f_is_pair rfl]
  have el : bf .len [prD p] s = .ok (.int 2) s := rfl
  have ew : ∀ s, walkOf (prD p) s = some ([p.1, p.2].map D.int, none) := fun _ => rfl
  simp [b_is_pair, startE, el, ew]
  refine T_abP (enc := D.int) (P := fun _ => true) (J := (· = s)) (fun _ _ => rfl) [p.1, p.2] s rfl (fun x hx => ⟨_, rfl, fun s' e => ?_⟩) fun s' e => ?_
  · subst e
    have hx2 : 0 ≤ x ∧ x ≤ (m : Int) - 1 := by
      simp at hx
      rcases hx with rfl | rfl <;> omega
    simp [wipe, noClo, prD]
    refine (T_number n x 0 ((m : Int) - 1)).mono fun v s2 h => ?_
    obtain ⟨rfl, rfl⟩ := h
    simp [hx2]
  · subst e
    simp [h3]
instance (p q : Pr) : Decidable (ltP p q) := by unfold ltP; infer_instance
theorem ltP_lex {p q : Pr} : ordD .ge (prD p) (prD q) = some (!decide (ltP p q)) := by
  show some (!lexLt [p.1, p.2] [q.1, q.2]) = _
  congr 2
  unfold lexLt ltP
  by_cases h : p.1 = q.1
  · simp only [h, if_true]
    by_cases h2 : p.2 = q.2
    · simp [h2, lexLt]
    · simp [lexLt, h2]
  · simp [h]
theorem cpB_gep (p q : Pr) (s : Sto) {Q : Bool → Sto → Prop} : T (cpB .ge (prD p) (prD q) s) Q = Q (!decide (ltP p q)) s := by
  show T (.ofO (ordD .ge (prD p) (prD q)) s) Q = _
  rw [ltP_lex, T_osome]
theorem T_wpairs (n : Nat) {s : Sto} {A : List Pr} {m : Nat} {rise : Bool} (lt : A.Pairwise ltP) (rg : ∀ p ∈ A, (0 ≤ p.1 ∧ p.1 < m) ∧ (0 ≤ p.2 ∧ p.2 < m) ∧ p.1 ≠ p.2) (hr : rise = true → ∀ p ∈ A, p.1 < p.2) :
    T (runN con4 fns (n + 4) (.fn k_wrong_pairs) [.tup (pL A), .int m, .bool rise] s) fun v s' => v = .none ∧ s' = s := by
  refine T.post fun Q hQ => ?_
  rw [call_fn f_wrong_pairs rfl]
  simp [b_wrong_pairs, startE]
  refine T_for (fun r ρ s' => ∃ (o1 o2 : Option D) (done rest : List Pr), r = enF done.length (pL rest) ∧ ρ = [some (.tup (pL A)), some (.int m), some (.bool rise), o1, o2] ∧ s' = s ∧ A = done ++ rest) (fun _ _ _ _ => rfl) ?_ ?_ _ _ _ ⟨none, none, [], A, rfl, rfl, rfl, rfl⟩
  · rintro x r ρ s' ⟨o1, o2, done, rest, hr2, rfl, rfl, e⟩
    cases rest with
    | nil => cases hr2
    | cons z rest =>
      obtain ⟨rfl, rfl⟩ := List.cons.inj (show x :: r = D.tup [.int done.length, prD z] :: enF (done.length + 1) (pL rest) from hr2)
      have hz := rg z (by rw [e]; simp)
      refine ⟨_, rfl, ?_⟩
      simp
      refine (T_pair n hz.1 hz.2.1 hz.2.2).mono fun v s2 h => ?_
      obtain ⟨rfl, rfl⟩ := h
      have fin : ∃ (o1 o2 : Option D) (done' rest' : List Pr), enF (done.length + 1) (pL rest) = enF done'.length (pL rest') ∧ (some (D.int done.length) = o1 ∧ some (prD z) = o2) ∧ A = done' ++ rest' := ⟨_, _, done ++ [z], rest, by simp [pL], ⟨rfl, rfl⟩, by simp [e]⟩
      have hri : rise = true → ¬ z.2 < z.1 := fun h => by
        have := hr h z (by rw [e]; simp)
        omega
      have last : ∀ d' y, done = d' ++ [y] → ix (.tup (pL A)) (.int ((done.length : Int) - 1)) s2 = .ok (prD y) s2 ∧ ltP y z := fun d' y ed => by
        refine ⟨?_, ?_⟩
        · have e1 : ((done.length : Int) - 1) = (d'.length : Nat) := by rw [ed]; simp
          rw [e1, e, ed]
          simp only [ix, atI, L2.atI, L2.ixN]
          simp [pL]
          rw [if_pos (by omega)]
          simp
        · have := lt
          rw [e, ed] at this
          exact (List.pairwise_append.mp this).2.2 y (by simp) z (by simp)
      cases rise with
      | false =>
        simp
        cases hd : done with
        | nil =>
          simp
          rw [hd] at fin
          simpa using fin
        | cons a b =>
          have hne : done ≠ [] := by rw [hd]; simp
          obtain ⟨el, hlt⟩ := last done.dropLast (done.getLast hne) (List.dropLast_concat_getLast hne).symm
          rw [← hd]
          have : 0 < done.length := by rw [hd]; simp
          simp [this, el, cpB_gep, hlt]
          simpa using fin
      | true =>
        simp [hri rfl]
        cases hd : done with
        | nil =>
          simp
          rw [hd] at fin
          simpa using fin
        | cons a b =>
          have hne : done ≠ [] := by rw [hd]; simp
          obtain ⟨el, hlt⟩ := last done.dropLast (done.getLast hne) (List.dropLast_concat_getLast hne).symm
          rw [← hd]
          have : 0 < done.length := by rw [hd]; simp
          simp [this, el, cpB_gep, hlt]
          simpa using fin
  · rintro ρ s' ⟨o1, o2, done, rest, hr, rfl, rfl, e⟩
    simp
    exact hQ _ _ ⟨rfl, rfl⟩
end EV

/-! PvO: no ring; right diagrams (own work). -/
namespace EV
open PySem (Str PyData)
theorem min_rank (r : Int → Nat) : ∀ L : List Int, L ≠ [] → ∃ x ∈ L, ∀ y ∈ L, r x ≤ r y
  | [], h => absurd rfl h
  | [x], _ => ⟨x, by simp, by simp⟩
  | x :: y :: l, _ => by
    obtain ⟨z, hz, h⟩ := min_rank r (y :: l) (by simp)
    by_cases hx : r x ≤ r z
    · refine ⟨x, by simp, fun q hq => ?_⟩
      rcases List.mem_cons.mp hq with rfl | hq
      · exact Nat.le_refl _
      · exact Nat.le_trans hx (h q hq)
    · refine ⟨z, List.mem_cons_of_mem _ hz, fun q hq => ?_⟩
      rcases List.mem_cons.mp hq with rfl | hq
      · omega
      · exact h q hq
def freeB (A : List Pr) (L : List Int) (x : Int) : Bool := !A.any fun p => decide (p.2 = x) && decide (p.1 ∈ L)
/-- a comprehension over a list of whole numbers of the store that keeps some -/
theorem T_keepL {con : List D} {cf : Cf} {ρ : Env} {s : Sto} {Q : D → Sto → Prop} {src : Sr} {i k : Nat} {ifs : Es} {A : List Int} (P : Int → Bool) (hk : s.get k = some (.lst (iL A))) (hs : T (evSr con cf src ρ s) fun v s' => v = (iL A, some (k, iL A)) ∧ s' = s)
    (ht : ∀ p ∈ A, ∀ acc, T (evIfs con cf ifs ((wipe (noClo ρ) [i]).set i (some (.int p))) (s.push (.lst acc))) fun b s1 => b = P p ∧ s1 = s.push (.lst acc))
    (he : ∀ p s, T (evE con cf (.var i) ((wipe (noClo ρ) [i]).set i (some (.int p))) s) fun d s1 => d = .int p ∧ s1 = s)
    (hl : A.length ≤ 1000) (q : Q (.loc s.nxt) (s.push (.lst (iL (A.filter P))))) : T (evE con cf (.gen .list src (.n i) [i] ifs (.var i)) ρ s) Q := by
  rw [T_genL, T_eq hs]
  simp only [T_ok, walk_tup, T_osome]
  refine T_lcP (enc := D.int) s P D.int (fun acc => still_iL (get_push hk)) A [] (fun p hp => ⟨_, rfl, fun acc => ?_⟩) (by simp; omega) (by simpa [iL] using q)
  refine (ht p hp _).mono fun b s1 ⟨h1, h2⟩ => ⟨h1, h2, fun _ => ?_⟩
  rw [h2]
  exact he p _
theorem list_tup (xs : List D) (s : Sto) : bf .list [.tup xs] s = mkList xs s := rfl
theorem T_ring (n : Nat) {s : Sto} {A : List Pr} {m : Nat} (hm : m ≤ 400) (rg : ∀ p ∈ A, (0 ≤ p.1 ∧ p.1 < m) ∧ (0 ≤ p.2 ∧ p.2 < m)) (rk : ∃ r : Int → Nat, ∀ p ∈ A, r p.1 < r p.2) :
    T (runN con4 fns (n + 1) (.fn k_has_ring) [.int m, .tup (pL A)] s) fun v s' => v = .bool false ∧ Ex s s' := by
  obtain ⟨r, hr⟩ := rk
  refine T.post fun Q hQ => ?_
  rw [call_fn f_has_ring rfl]
  simp [b_has_ring, startE]
  rw [T_rng1 _ (by omega)]
  refine T_tpP (enc := D.int) (J := (· = s)) (fun _ => true) D.int (fun _ _ => rfl) (allv m) [] s rfl (fun x _ => ⟨_, rfl, fun s e => ?_⟩) fun s e => ?_
  · subst e
    simp [wipe, noClo]
  subst e
  rw [List.nil_append, List.filter_eq_self.mpr (fun _ _ => rfl), show (allv m).map D.int = iL (allv m) from rfl, T_mkTup (by simp; omega)]
  simp [list_tup]
  rw [T_mkList (by simp; omega)]
  refine T_wh (fun w ρ s' => ∃ (o : Option D) (go : Bool) (k : Nat) (L : List Int), ρ = [some (.int m), some (.tup (pL A)), some (.bool go), o, some (.loc k), none, none] ∧ s'.get k = some (.lst (iL L)) ∧ Ex s s' ∧ L.length ≤ m ∧ (go = true → L.length < w) ∧ (go = false → L = [])) ?_ turns (m + 1) _ _ (by unfold turns; omega) ⟨none, true, _, allv m, rfl, get_push_self _ _, Ex.push _ _, by simp, fun _ => by simp, fun h => by cases h⟩
  rintro w ρ s1 ⟨o, go, k, L, rfl, g1, x1, hl, hw, hf⟩
  cases go with
  | false =>
    have := hf rfl
    subst this
    simp
    have g2 : (s1.push (.lst [])).get k = some (.lst (iL [])) := get_push g1
    have g3 : (s1.push (.lst [])).get s1.nxt = some (.lst (iL [])) := get_push_self _ _
    rw [eqD_lints g2 g3]
    simp
    exact hQ _ _ ⟨rfl, x1.trans (Ex.push _ _)⟩
  | true =>
    have hw := hw rfl
    simp only [T_evT, T_var, getV_succ, getV_4, getV_3, getV_2, getV_1, getV_bool, T_ok, T_trub, if_true]
    refine ⟨by omega, ?_⟩
    simp only [T_scons, T_set]
    refine T_keepL (A := L) (k := k) (freeB A L) g1 (by simp [walk_loc g1]) (fun p hp acc => ?_) (fun p s => by simp [wipe, noClo]) (by omega) ?_
    · simp [wipe, noClo]
      refine T_abP (enc := prD) (P := fun q => decide (q.2 = p) && decide (q.1 ∈ L)) (J := (· = s1.push (.lst acc))) (fun _ _ => rfl) A _ rfl (fun q hq => ⟨_, rfl, fun s' e => ?_⟩) fun s' e => ?_
      · subst e
        simp [wipe, noClo]
        by_cases h : q.2 = p
        · simp [h]
          rw [isIn_lints (get_push g1)]
          simp
        · simp [h]
      · subst e
        simp only [if_true, T_trub, freeB]
        cases (A.any fun q => decide (q.2 = p) && decide (q.1 ∈ L)) <;> simp
    obtain ⟨k1, ek1⟩ : ∃ k1, k1 = s1.nxt := ⟨_, rfl⟩
    obtain ⟨s2, e2⟩ : ∃ s2, s2 = s1.push (.lst (iL (L.filter (freeB A L)))) := ⟨_, rfl⟩
    have x2 : Ex s1 s2 := by rw [e2]; exact Ex.push _ _
    have g2 : s2.get k1 = some (.lst (iL (L.filter (freeB A L)))) := by rw [e2, ek1]; exact get_push_self _ _
    rw [← ek1, ← e2]
    simp only [then_nx, T_scons, T_set, T_cmp, T_var, getV_succ, getV_3, getV_2, getV_1, List.set_cons_succ, List.set_cons_zero, getV_loc, T_ok, T_lst, T_nil, mkList0, cpB_ne]
    obtain ⟨s3, e3⟩ : ∃ s3, s3 = s2.push (.lst []) := ⟨_, rfl⟩
    have x3 : Ex s2 s3 := by rw [e3]; exact Ex.push _ _
    have g3 : s3.get s2.nxt = some (.lst (iL [])) := by rw [e3]; exact get_push_self _ _
    rw [← e3, eqD_lints (x3 _ _ g2) g3]
    simp only [Option.map_some, T_osome, then_nx, T_scons, T_set]
    have gk := x3 _ _ (x2 _ _ g1)
    refine T_keepL (A := L) (k := k) (fun x => !decide (x ∈ L.filter (freeB A L))) gk (by simp [walk_loc gk]) (fun p hp acc => ?_) (fun p s => by simp [wipe, noClo]) (by omega) ?_
    · simp [wipe, noClo]
      rw [isIn_lints (get_push (x3 _ _ g2))]
      simp
    · simp only [then_nx, T_snil]
      refine ⟨_, _, _, _, rfl, get_push_self _ _, (x1.trans (x2.trans x3)).trans (Ex.push _ _), Nat.le_trans (List.length_filter_le _ _) hl, fun h => ?_, fun h => ?_⟩
      · have hne : L.filter (freeB A L) ≠ [] := by simpa using h
        obtain ⟨y, hy⟩ := List.exists_mem_of_ne_nil _ hne
        have : (L.filter fun x => !decide (x ∈ L.filter (freeB A L))).length < L.length := by
          refine List.length_filter_lt_length_iff_exists.mpr ⟨y, (List.mem_filter.mp hy).1, ?_⟩
          simp only [hy, decide_true, Bool.not_true, Bool.false_eq_true, not_false_eq_true]
        omega
      · have hne : L.filter (freeB A L) = [] := by simpa using h
        rw [hne]
        by_cases hL : L = []
        · simp [hL]
        · exfalso
          obtain ⟨x, hx, hmin⟩ := min_rank r L hL
          have hfx : freeB A L x = false := by
            cases h : freeB A L x with
            | false => rfl
            | true =>
              have : x ∈ L.filter (freeB A L) := List.mem_filter.mpr ⟨hx, h⟩
              rw [hne] at this
              cases this
          unfold freeB at hfx
          rw [Bool.not_eq_false', List.any_eq_true] at hfx
          obtain ⟨p, hp, hq⟩ := hfx
          simp at hq
          have h1 := hr p hp
          have h2 := hmin p.1 hq.2
          rw [hq.1] at h1
          omega
end EV

/-! PvQ: right diagrams, sets; told (own work). -/
namespace EV
open PySem (Str PyData)
/-- a right diagram -/
structure Dia (N : List Str) (A B : List Pr) : Prop where
  n1 : 1 ≤ N.length
  n2 : N.length ≤ 12
  nm : ∀ z ∈ N, NameOk z
  nd : N.Nodup
  al : A.Pairwise ltP
  ar : ∀ p ∈ A, (0 ≤ p.1 ∧ p.1 < N.length) ∧ (0 ≤ p.2 ∧ p.2 < N.length) ∧ p.1 ≠ p.2
  rk : ∃ r : Int → Nat, ∀ p ∈ A, r p.1 < r p.2
  bl : B.Pairwise ltP
  br : ∀ p ∈ B, (0 ≤ p.1 ∧ p.1 < N.length) ∧ (0 ≤ p.2 ∧ p.2 < N.length) ∧ p.1 < p.2
theorem ltP_irr (p : Pr) : ¬ ltP p p := by unfold ltP; omega
theorem pairs_len {A : List Pr} {m : Nat} (hm : m ≤ 12) (lt : A.Pairwise ltP) (rg : ∀ p ∈ A, (0 ≤ p.1 ∧ p.1 < m) ∧ (0 ≤ p.2 ∧ p.2 < m)) : A.length ≤ 144 := by
  have nd : A.Nodup := List.Pairwise.imp (R := ltP) (S := fun a b => a ≠ b) (fun {p q} h e => ltP_irr p (by rw [← e] at h; exact h)) lt
  have := nodup_sub_len (U := (allv m).flatMap fun a => (allv m).map fun b => (a, b)) nd fun p hp => by
    obtain ⟨h1, h2⟩ := rg p hp
    exact List.mem_flatMap.mpr ⟨p.1, allv_mem.mpr h1, List.mem_map.mpr ⟨p.2, allv_mem.mpr h2, rfl⟩⟩
  have e : ((allv m).flatMap fun a => (allv m).map fun b => (a, b)).length = m * m := by
    rw [List.length_flatMap]
    simp
    rw [List.map_const', allv_len, List.sum_replicate_nat]
  rw [e] at this
  have : m * m ≤ 12 * 12 := Nat.mul_le_mul hm hm
  omega
theorem Dia.la {N : List Str} {A B : List Pr} (h : Dia N A B) : A.length ≤ 144 := pairs_len h.n2 h.al fun p hp => ⟨(h.ar p hp).1, (h.ar p hp).2.1⟩
theorem Dia.lb {N : List Str} {A B : List Pr} (h : Dia N A B) : B.length ≤ 144 := pairs_len h.n2 h.bl fun p hp => ⟨(h.br p hp).1, (h.br p hp).2.1⟩
@[simp] theorem isi_dia (N : List Str) (A B : List Pr) (s : Sto) : isi (dia N A B) .tuple s = .ok (.bool true) s := id rfl
@[simp] theorem len_dia (N : List Str) (A B : List Pr) (s : Sto) : bf .len [dia N A B] s = .ok (.int 3) s := id rfl
@[simp] theorem unp_dia (i j k : Nat) (N : List Str) (A B : List Pr) (ρ : Env) (s : Sto) : unp (.t (.cons (.n i) (.cons (.n j) (.cons (.n k) .nil)))) (dia N A B) ρ s = some (((ρ.set i (some (.tup (sL N)))).set j (some (.tup (pL A)))).set k (some (.tup (pL B)))) := id rfl
@[simp] theorem isN_dia (N : List Str) (A B : List Pr) : (dia N A B).isN = false := id rfl
section
variable {N : List Str} {A B : List Pr} (hd : Dia N A B) {s : Sto}
include hd
theorem T_wdia (n : Nat) : T (runN con4 fns (n + 5) (.fn k_wrong_diagram) [dia N A B] s) fun v s' => v = .none ∧ Ex s s' := by
  refine T.post fun Q hQ => ?_
  rw [call_fn f_wrong_diagram rfl]
  simp [b_wrong_diagram, startE]
  refine (T_wnames (n + 2) hd.n1 hd.n2 hd.nm hd.nd).mono fun v s1 h => ?_
  obtain ⟨rfl, rfl⟩ := h
  simp
  refine (T_wpairs n hd.al hd.ar (fun h => by cases h)).mono fun v s2 h => ?_
  obtain ⟨rfl, rfl⟩ := h
  simp
  refine (T_ring (n + 3) (m := N.length) (by have := hd.n2; omega) (fun p hp => ⟨(hd.ar p hp).1, (hd.ar p hp).2.1⟩) hd.rk).mono fun v s3 h => ?_
  obtain ⟨rfl, x3⟩ := h
  simp
  refine (T_wpairs n hd.bl (fun p hp => ⟨(hd.br p hp).1, (hd.br p hp).2.1, fun e => by have := (hd.br p hp).2.2; omega⟩) (fun _ p hp => (hd.br p hp).2.2)).mono fun v s4 h => ?_
  obtain ⟨rfl, rfl⟩ := h
  simp
  exact hQ _ _ ⟨rfl, x3⟩
theorem T_need (n : Nat) : T (runN con4 fns (n + 6) (.fn k_need_diagram) [dia N A B] s) fun v s' => v = dia N A B ∧ Ex s s' := by
  refine T.post fun Q hQ => ?_
  rw [call_fn f_need_diagram rfl]
  simp [b_need_diagram, startE]
  refine (T_wdia hd n).mono fun v s1 h => ?_
  obtain ⟨rfl, x1⟩ := h
  simp
  exact hQ _ _ ⟨rfl, x1⟩
end
theorem T_isset (n : Nat) {s : Sto} {g : List Int} {m : Nat} (hg : g.Pairwise (· < ·)) (hr : ∀ v ∈ g, 0 ≤ v ∧ v < m) (hm : m ≤ 12) :
    T (runN con4 fns (n + 3) (.fn k_is_set) [.tup (iL g), .int m] s) fun v s' => v = .bool true ∧ s' = s := by
  refine T.post fun Q hQ => ?_
  have lg := len_le hg hr
  rw [call_fn f_is_set rfl]
  simp [b_is_set, startE]
  refine T_abP (enc := D.int) (P := fun _ => true) (J := (· = s)) (fun _ _ => rfl) g s rfl (fun x hx => ⟨_, rfl, fun s' e => ?_⟩) fun s' e => ?_
  · subst e
    have hx2 : 0 ≤ x ∧ x ≤ (m : Int) - 1 := by
      have := hr x hx
      omega
    simp [wipe, noClo]
    refine (T_number n x 0 ((m : Int) - 1)).mono fun v s2 h => ?_
    obtain ⟨rfl, rfl⟩ := h
    simp [hx2]
  · subst e
    simp
    rw [T_rngO g.length (by omega)]
    refine T_abP (enc := D.int) (P := fun _ => true) (J := (· = s')) (fun _ _ => rfl) (rngL 1 g.length) s' rfl (fun i hi => ⟨_, rfl, fun s2 e => ?_⟩) fun s2 e => ?_
    · subst e
      obtain ⟨j, hj, rfl⟩ := List.mem_map.mp hi
      rw [List.mem_range] at hj
      have hj1 : j + 1 < g.length := by omega
      rw [show 1 + j = j + 1 from Nat.add_comm 1 j]
      have ex : ∀ k (h : k < g.length), ix (.tup (iL g)) (.int (k : Int)) s2 = .ok (.int g[k]) s2 := fun k h => by
        simp only [ix, atI, L2.atI, L2.ixN]
        have h0 : (0 : Int) ≤ (k : Int) ∧ (k : Int) < ((iL g).length : Int) := by simp; omega
        rw [if_pos h0.1, if_pos h0.2]
        simp [iL, h]
      have hlt : g[j] < g[j + 1] := List.pairwise_iff_getElem.mp hg j (j + 1) (by omega) hj1 (by omega)
      have e3 : ((j + 1 : Nat) : Int) - 1 = (j : Int) := by omega
      simp only [wipe, noClo, List.map_cons, List.map_nil, List.set_cons_succ, List.set_cons_zero, T_ifnil, T_cmp, T_idx, T_var, T_bin, T_int, getV_succ, getV_3, getV_2, getV_1, getV_tup, getV_int, T_ok, List.cons_append, List.nil_append, List.length_cons, List.length_nil, List.replicate, o2_subi, T_upok, e3, ex j (by omega), ex (j + 1) hj1, cpB_lt, hlt, decide_true, true_and]
    · subst e
      simp only [Bool.false_eq_true, if_false, then_rt, T_retM]
      exact hQ _ _ ⟨by simp, rfl⟩
theorem T_nset (n : Nat) {s : Sto} {g : List Int} {m : Nat} (hg : g.Pairwise (· < ·)) (hr : ∀ v ∈ g, 0 ≤ v ∧ v < m) (hm : m ≤ 12) :
    T (runN con4 fns (n + 4) (.fn k_need_set) [.tup (iL g), .int m] s) fun v s' => v = .tup (iL g) ∧ s' = s := by
  rw [call_fn f_need_set rfl]
  simp [b_need_set, startE]
  refine (T_isset n hg hr hm).mono fun v s1 h => ?_
  obtain ⟨rfl, rfl⟩ := h
  simp
end EV

/-! PvS: draws (own work). -/
namespace EV
open PySem (Str PyData)
def cellsS : Str := ⟨#[99, 101, 108, 108, 115]⟩
def leftsS : Str := ⟨#[108, 101, 102, 116, 115]⟩
def atS : Str := ⟨#[97, 116]⟩
/-- the state of the draws: its dict at d, the cells at c, what is left at l; at most m draws so far -/
structure St (d c l : Nat) (s : Sto) (m : Nat) : Prop where
  ne1 : c ≠ d
  ne2 : l ≠ d
  ne3 : c ≠ l
  st : ∃ at_ : Nat, at_ ≤ m ∧ s.get d = some (.dct [(.str cellsS, .loc c), (.str leftsS, .loc l), (.str atS, .int at_)])
  ce : ∃ cells lefts : List Int, s.get c = some (.lst (iL cells)) ∧ s.get l = some (.lst (iL lefts)) ∧ cells.length = lefts.length ∧ 0 < cells.length ∧ cells.length ≤ 1000
/-- all but the draws' state is as it was -/
structure Ed (d l : Nat) (s s' : Sto) : Prop where
  at_ : ∀ k o, k ≠ d → k ≠ l → s.get k = some o → s'.get k = some o
  le : s.nxt ≤ s'.nxt
section
variable {d c l : Nat} {s s' s2 : Sto} {m : Nat}
theorem Ed.refl : Ed d l s s := ⟨fun _ _ _ _ h => h, Nat.le_refl _⟩
theorem Ed.trans (a : Ed d l s s') (b : Ed d l s' s2) : Ed d l s s2 := ⟨fun k o h1 h2 h => b.at_ k o h1 h2 (a.at_ k o h1 h2 h), Nat.le_trans a.le b.le⟩
theorem Ex.ed (h : Ex s s') : Ed d l s s' := ⟨fun k o _ _ e => h k o e, h.le⟩
theorem St.mono {m' : Nat} (h : St d c l s m) (hm : m ≤ m') : St d c l s m' := ⟨h.ne1, h.ne2, h.ne3, let ⟨a, h1, h2⟩ := h.st; ⟨a, Nat.le_trans h1 hm, h2⟩, h.ce⟩
theorem St.keep (h : St d c l s m) (k : ∀ i o, (i = d ∨ i = c ∨ i = l) → s.get i = some o → s'.get i = some o) : St d c l s' m := by
  obtain ⟨n1, n2, n3, ⟨a, h1, h2⟩, cells, lefts, h3, h4, h5⟩ := h
  exact ⟨n1, n2, n3, ⟨a, h1, k _ _ (.inl rfl) h2⟩, cells, lefts, k _ _ (.inr (.inl rfl)) h3, k _ _ (.inr (.inr rfl)) h4, h5⟩
theorem St.ex (h : St d c l s m) (x : Ex s s') : St d c l s' m := h.keep fun i o _ e => x i o e
theorem St.push (h : St d c l s m) (o : O) : St d c l (s.push o) m := h.ex (Ex.push _ _)
theorem St.dlt (h : St d c l s m) : d < s.nxt := let ⟨_, _, e⟩ := h.st; get_lt e
theorem St.clt (h : St d c l s m) : c < s.nxt := let ⟨_, _, e, _⟩ := h.ce; get_lt e
theorem St.llt (h : St d c l s m) : l < s.nxt := let ⟨_, _, _, e, _⟩ := h.ce; get_lt e
theorem St.put (h : St d c l s m) {k : Nat} (hd : k ≠ d) (hc : k ≠ c) (hl : k ≠ l) (o : O) : St d c l (s.put k o) m := h.keep fun i u hi e => by
  rw [get_put_ne (by rcases hi with rfl | rfl | rfl <;> exact fun e => by simp_all)]
  exact e
end
theorem put_nxt (s : Sto) (k : Nat) (o : O) : (s.put k o).nxt = s.nxt := by simp [Sto.put, Sto.nxt]
theorem Ed.put {d l : Nat} {s s' : Sto} {k : Nat} (h : Ed d l s s') (hk : s.nxt ≤ k) (o : O) : Ed d l s (s'.put k o) := ⟨fun i u h1 h2 e => by
  have := get_lt e
  rw [get_put_ne (by omega)]
  exact h.at_ i u h1 h2 e, by rw [put_nxt]; exact h.le⟩
theorem fmod_rg (a : Int) {b : Int} (hb : 0 < b) : 0 ≤ a.fmod b ∧ a.fmod b < b := ⟨Int.fmod_nonneg_of_pos a hb, Int.fmod_lt_of_pos a hb⟩
theorem o2_mod (a : Int) {b : Int} (hb : b ≠ 0) (s : Sto) : o2 .mod (.int a) (.int b) s = .ok (.int (a.fmod b)) s := by simp only [o2, hb, if_false]
theorem o2_mul (a b : Int) (h : small a = true ∨ small b = true) (s : Sto) : o2 .mul (.int a) (.int b) s = .ok (.int (a * b)) s := by
  have : (small a || small b) = true := by rw [Bool.or_eq_true]; exact h
  simp only [o2, this, if_true]
theorem o2_fdiv (a : Int) {b : Int} (h : b ≠ 0 ∧ b.natAbs < 1073741824) (s : Sto) : o2 .fdiv (.int a) (.int b) s = .ok (.int (a.fdiv b)) s := by
  simp only [o2]
  rw [if_pos h]
theorem small_of {a : Int} (h1 : -10000000000000000 ≤ a) (h2 : a ≤ 10000000000000000) : small a = true := by
  unfold small
  rw [decide_eq_true_eq]
  omega
theorem T_mixed (n : Nat) {s : Sto} (cell : Int) {k : Int} (h1 : 0 ≤ k) (h2 : k ≤ 1000000) :
    T (runN con4 fns (n + 1) (.fn k_law_mixed) [.int cell, .int k] s) fun v s' => ∃ r, v = .int r ∧ s' = s := by
  refine T.post fun Q hQ => ?_
  rw [call_fn f_law_mixed rfl]
  have r1 := fmod_rg cell (b := 2147483647) (by decide)
  obtain ⟨x, ex⟩ : ∃ x, x = cell.fmod 2147483647 := ⟨_, rfl⟩
  rw [← ex] at r1
  have sx : small x = true := small_of (by omega) (by omega)
  have s2 : small 2 = true := small_of (by decide) (by decide)
  have sk : small k = true := small_of (by omega) (by omega)
  have s6 : small 69621 = true := small_of (by decide) (by decide)
  simp [b_law_mixed, startE, o2_mod]
  rw [← ex]
  simp [o2_mul _ _ (.inl s2), o2_mul _ _ (.inr sk), o2_mul _ _ (.inl sx), o2_mul _ _ (.inl s6), o2_mul _ _ (.inr s6), o2_mod]
  exact hQ _ _ ⟨_, rfl, rfl⟩
theorem T_draw (n : Nat) {d c l : Nat} {s : Sto} {m : Nat} {lim : Int} (h : St d c l s m) (hm : m ≤ 900000) (h1 : 1 ≤ lim) (h2 : lim ≤ 1000000) :
    T (runN con4 fns (n + 2) (.fn k_law_draw) [.loc d, .int lim] s) fun v s' => ∃ r : Int, v = .int r ∧ 0 ≤ r ∧ r < lim ∧ St d c l s' (m + 1) ∧ Ed d l s s' := by
  refine T.post fun Q hQ => ?_
  obtain ⟨n1, n2, n3, ⟨at_, ha, hd⟩, cells, lefts, hc, hl, hlen, hpos, hmax⟩ := h
  rw [call_fn f_law_draw rfl]
  have ne1 : (D.same (.str cellsS) (.str atS)) = false := by decide
  have ne2 : (D.same (.str leftsS) (.str atS)) = false := by decide
  have ne3 : (D.same (.str atS) (.str atS)) = true := by decide
  have ne4 : (D.same (.str cellsS) (.str leftsS)) = false := by decide
  have ne5 : (D.same (.str leftsS) (.str leftsS)) = true := by decide
  have ne6 : (D.same (.str cellsS) (.str cellsS)) = true := by decide
  obtain ⟨s1, e1⟩ : ∃ s1, s1 = s.put d (.dct [(.str cellsS, .loc c), (.str leftsS, .loc l), (.str atS, .int (at_ + 1 : Nat))]) := ⟨_, rfl⟩
  have i1 : ix (.loc d) (.str atS) s = .ok (.int at_) s := by simp only [ix, hd, D.key, lookD, ne1, ne2, ne3, if_true, ofO_some, Bool.false_eq_true, if_false]
  have i2 : setIt (.loc d) (.str atS) (.int ((at_ : Int) + 1)) s = .ok () s1 := by
    have lt : ([(D.str cellsS, D.loc c), (D.str leftsS, D.loc l), (D.str atS, D.int at_)] : List (D × D)).length < PySem.sizeLine := show 3 < PySem.sizeLine by decide
    simp only [setIt, hd, D.key, lt, if_true, e1, putD, List.any_cons, List.any_nil, ne1, ne2, ne3, Bool.or_false, Bool.false_or, List.map_cons, List.map_nil, Bool.false_eq_true, if_false]
    rfl
  have d1 : s1.get d = some (.dct [(.str cellsS, .loc c), (.str leftsS, .loc l), (.str atS, .int (at_ + 1 : Nat))]) := by rw [e1]; exact get_put_self hd
  have c1 : s1.get c = some (.lst (iL cells)) := by rw [e1, get_put_ne n1]; exact hc
  have l1 : s1.get l = some (.lst (iL lefts)) := by rw [e1, get_put_ne n2]; exact hl
  have i3 : ix (.loc d) (.str cellsS) s1 = .ok (.loc c) s1 := by simp only [ix, d1, D.key, lookD, ne6, if_true, ofO_some]
  have i4 : ix (.loc d) (.str leftsS) s1 = .ok (.loc l) s1 := by simp only [ix, d1, D.key, lookD, ne4, ne5, if_true, ofO_some, Bool.false_eq_true, if_false]
  have i5 : bf .len [.loc c] s1 = .ok (.int cells.length) s1 := by simp only [bf, c1, ints_len]
  have hp : (0 : Int) < cells.length := by omega
  obtain ⟨pl, epl⟩ : ∃ pl : Nat, (pl : Int) = (at_ : Int).fmod cells.length := ⟨((at_ : Int).fmod cells.length).toNat, by have := fmod_rg at_ hp; omega⟩
  have hpl : pl < cells.length := by have := fmod_rg at_ hp; omega
  have hpl2 : pl < lefts.length := by omega
  have at_get : ∀ (k : Nat) (xs : List Int) (s : Sto), s.get k = some (.lst (iL xs)) → ∀ h : pl < xs.length, ix (.loc k) (.int pl) s = .ok (.int xs[pl]) s := fun k xs s hk h => by
    simp only [ix, hk, atI, L2.atI, L2.ixN]
    have h0 : (0 : Int) ≤ (pl : Int) ∧ (pl : Int) < ((iL xs).length : Int) := by simp; omega
    rw [if_pos h0.1, if_pos h0.2]
    simp [iL, h]
  have st1 : St d c l s1 (m + 1) := ⟨n1, n2, n3, ⟨at_ + 1, by omega, d1⟩, cells, lefts, c1, l1, hlen, hpos, hmax⟩
  have ed1 : Ed d l s s1 := ⟨fun k o h1 h2 e => by rw [e1, get_put_ne h1]; exact e, by rw [e1, put_nxt]; exact Nat.le_refl _⟩
  have eS : (⟨#[97, 116]⟩ : Str) = atS := rfl
  have eC : (⟨#[99, 101, 108, 108, 115]⟩ : Str) = cellsS := rfl
  have eL : (⟨#[108, 101, 102, 116, 115]⟩ : Str) = leftsS := rfl
  have ne0 : (cells.length : Int) ≠ 0 := by omega
  simp only [b_law_draw, startE, eS, eC, eL]
  simp [i1, i2, i3, i4, i5, o2_mod _ ne0]
  rw [← epl]
  simp [i3, i4, i5, at_get c cells s1 c1 hpl, at_get l lefts s1 l1 hpl2]
  have lne : lim ≠ 0 ∧ lim.natAbs < 1073741824 := ⟨by omega, by omega⟩
  by_cases hx : 0 < lefts[pl]
  · simp [hx, i4, o2_fdiv _ lne, o2_mod _ lne.1]
    have i6 : setIt (.loc l) (.int pl) (.int (lefts[pl].fdiv lim)) s1 = .ok () (s1.put l (.lst (iL (lefts.set pl (lefts[pl].fdiv lim))))) := by
      simp only [setIt, l1, L2.ixN]
      have h0 : (0 : Int) ≤ (pl : Int) ∧ (pl : Int) < ((iL lefts).length : Int) := by simp; omega
      rw [if_pos h0.1, if_pos h0.2]
      simp [iL]
    simp [i6]
    have rr := fmod_rg lefts[pl] (b := lim) (by omega)
    refine hQ _ _ ⟨_, rfl, rr.1, rr.2, ?_, ?_⟩
    · refine ⟨n1, n2, n3, ⟨at_ + 1, by omega, by rw [get_put_ne (Ne.symm n2)]; exact d1⟩, cells, lefts.set pl (lefts[pl].fdiv lim), by rw [get_put_ne n3]; exact c1, get_put_self l1, by simpa using hlen, hpos, hmax⟩
    · exact ed1.trans ⟨fun k o h1 h2 e => by rw [get_put_ne h2]; exact e, by rw [put_nxt]; exact Nat.le_refl _⟩
  · simp [hx, i3, at_get c cells s1 c1 hpl]
    refine (T_mixed n cells[pl] (k := (at_ : Int)) (by omega) (by omega)).mono fun v s2 h => ?_
    obtain ⟨r1, rfl, rfl⟩ := h
    refine (T_mixed n r1 (k := 40 + (at_ : Int)) (by omega) (by omega)).mono fun v s2 h => ?_
    obtain ⟨r2, rfl, rfl⟩ := h
    have sm : small 2147483647 = true := small_of (by decide) (by decide)
    simp [o2_mul _ _ (.inr sm)]
    refine (T_mixed n r2 (k := 7 + (at_ : Int)) (by omega) (by omega)).mono fun v s2 h => ?_
    obtain ⟨r3, rfl, rfl⟩ := h
    simp [o2_fdiv _ (b := 64) (by decide), o2_mod _ lne.1]
    have rr := fmod_rg ((r2 * 2147483647 + r3).fdiv 64) (b := lim) (by omega)
    exact hQ _ _ ⟨_, rfl, rr.1, rr.2, st1, ed1⟩
end EV

/-! PvT: of, shuffled, names, sets (own work). -/
namespace EV
open PySem (Str PyData)
theorem ix_locI {k : Nat} {xs : List D} {s : Sto} (h : s.get k = some (.lst xs)) {r : Int} (h1 : 0 ≤ r) (h2 : r < xs.length) : ix (.loc k) (.int r) s = .ok (xs[r.toNat]'(by omega)) s := by
  simp only [ix, h, atI, L2.atI, L2.ixN]
  rw [if_pos h1, if_pos h2]
  simp
  rw [List.getElem?_eq_getElem (by omega)]
  rfl
theorem T_of (n : Nat) {d c l : Nat} {s : Sto} {m k : Nat} {xs : List D} (h : St d c l s m) (hm : m ≤ 900000) (hk : s.get k = some (.lst xs)) (k1 : k ≠ d) (k2 : k ≠ l) (h1 : 0 < xs.length) (h2 : xs.length ≤ 1000) :
    T (runN con4 fns (n + 3) (.fn k_law_of) [.loc d, .loc k] s) fun v s' => v ∈ xs ∧ St d c l s' (m + 1) ∧ Ed d l s s' := by
  refine T.post fun Q hQ => ?_
  rw [call_fn f_law_of rfl]
  have e1 : bf .len [.loc k] s = .ok (.int xs.length) s := by simp only [bf, hk]
  simp [b_law_of, startE, e1]
  refine (T_draw n h hm (lim := (xs.length : Int)) (by omega) (by omega)).mono fun v s1 ⟨r, ev, r1, r2, st, ed⟩ => ?_
  subst ev
  rw [ix_locI (ed.at_ _ _ k1 k2 hk) r1 r2]
  simp
  exact hQ _ _ ⟨List.getElem_mem _, st, ed⟩
theorem items_loc {k : Nat} {xs : List D} {s : Sto} (h : s.get k = some (.lst xs)) : bf .list [.loc k] s = mkList xs s := by simp only [bf, D.items, h]
@[simp] theorem setAll2 (i j : Nat) (a b : D) (ρ : Env) : setAll [i, j] [a, b] ρ = some ((ρ.set i (some a)).set j (some b)) := id rfl
@[simp] theorem setAll3 (i j k : Nat) (a b c : D) (ρ : Env) : setAll [i, j, k] [a, b, c] ρ = some (((ρ.set i (some a)).set j (some b)).set k (some c)) := id rfl
theorem ints_iL : ∀ l : List Int, D.ints (iL l) = some l
  | [] => rfl
  | i :: r => by
    show (D.ints (iL r)).map (i :: ·) = _
    rw [ints_iL r]; rfl
theorem T_rem {k : Nat} {l : List Int} {i : Int} {s : Sto} {Q : D → Sto → Prop} (h : s.get k = some (.lst (iL l))) (hi : i ∈ l) : T (mt .remove (.loc k) [.int i] s).up Q = Q .none (s.put k (.lst (iL (l.erase i)))) := by
  simp only [mt, h, ints_iL, hi, if_true, T_upok]
  rfl
theorem T_shuffled (n : Nat) {d c l : Nat} {s : Sto} {m k : Nat} {L : List Int} (h : St d c l s m) (hm : m ≤ 800000) (hk : s.get k = some (.lst (iL L))) (k1 : k ≠ d) (k2 : k ≠ l) (h2 : L.length ≤ 1000) :
    T (runN con4 fns (n + 4) (.fn k_law_shuffled) [.loc d, .loc k] s) fun v s' => ∃ b P, v = .loc b ∧ s.nxt ≤ b ∧ s'.get b = some (.lst (iL P)) ∧ P.Perm L ∧ St d c l s' (m + L.length) ∧ Ed d l s s' := by
  refine T.post fun Q hQ => ?_
  rw [call_fn f_law_shuffled rfl]
  simp [b_law_shuffled, startE, items_loc hk]
  rw [T_mkList (by simp; omega)]
  obtain ⟨a, ea⟩ : ∃ a, a = s.nxt := ⟨_, rfl⟩
  obtain ⟨s1, e1⟩ : ∃ s1, s1 = s.push (.lst (iL L)) := ⟨_, rfl⟩
  have a1 : s1.get a = some (.lst (iL L)) := by rw [e1, ea]; exact get_push_self _ _
  have st1 : St d c l s1 m := by rw [e1]; exact h.push _
  have x1 : Ex s s1 := by rw [e1]; exact Ex.push _ _
  rw [← e1, ← ea]
  obtain ⟨b, eb⟩ : ∃ b, b = s1.nxt := ⟨_, rfl⟩
  obtain ⟨s2, e2⟩ : ∃ s2, s2 = s1.push (.lst []) := ⟨_, rfl⟩
  have b2 : s2.get b = some (.lst (iL [])) := by rw [e2, eb]; exact get_push_self _ _
  have a2 : s2.get a = some (.lst (iL L)) := by rw [e2]; exact get_push a1
  have st2 : St d c l s2 m := by rw [e2]; exact st1.push _
  have x2 : Ex s s2 := by rw [e2]; exact x1.trans (Ex.push _ _)
  simp [← e2, ← eb]
  have da := h.dlt
  have ca := h.clt
  have la := h.llt
  have ab : a < b := by rw [eb]; exact get_lt a1
  have el : bf .len [.loc a] s2 = .ok (.int L.length) s2 := by simp only [bf, a2, ints_len]
  rw [el]
  simp
  rw [T_rng1 _ h2]
  refine T_for (fun r ρ s' => ∃ (o4 o5 : Option D) (rest rem P : List Int), r = iL rest ∧ rest.length = rem.length ∧ ρ = [some (.loc d), some (.loc k), some (.loc a), some (.loc b), o4, o5] ∧ s'.get a = some (.lst (iL rem)) ∧ s'.get b = some (.lst (iL P)) ∧ (P ++ rem).Perm L ∧ St d c l s' (m + P.length) ∧ Ed d l s s') (fun _ _ _ _ => rfl) ?_ ?_ _ _ _
    ⟨none, none, allv L.length, L, [], rfl, by simp, rfl, a2, b2, List.Perm.refl _, st2, x2.ed⟩
  · rintro x r ρ s' ⟨o4, o5, rest, rem, P, hr, hlen, rfl, ga, gb, pm, st, ed⟩
    cases rest with
    | nil => cases hr
    | cons z rest =>
      injection hr with h1 h3
      subst h1 h3
      have hPL := pm.length_eq
      simp at hPL hlen
      refine ⟨_, rfl, ?_⟩
      simp
      refine (T_of n st (by omega) ga (by omega) (by omega) (by simp; omega) (by simp; omega)).mono fun v s3 ⟨hv, st3, ed3⟩ => ?_
      obtain ⟨y, hy, rfl⟩ := List.mem_map.mp hv
      have ga3 := ed3.at_ _ _ (by omega) (by omega) ga
      have gb3 := ed3.at_ _ _ (by omega) (by omega) gb
      simp [T_isL gb3]
      rw [T_app gb3 (by simp; omega)]
      have ga4 : (s3.put b (.lst (iL P ++ [D.int y]))).get a = some (.lst (iL rem)) := by rw [get_put_ne (by omega)]; exact ga3
      rw [T_isL ga4, T_rem ga4 hy]
      have hrem : 0 < rem.length := List.length_pos_of_mem hy
      refine ⟨_, _, rest, rfl, rem.erase y, by rw [List.length_erase_of_mem hy]; omega, ⟨rfl, rfl⟩, get_put_self ga4, P ++ [y], ?_, ?_, ?_, ?_⟩
      · rw [get_put_ne (by omega), get_put_self gb3]
        simp [iL]
      · refine List.Perm.trans ?_ pm
        rw [List.append_assoc]
        exact List.Perm.append_left _ (List.perm_cons_erase hy).symm
      · rw [show m + (P ++ [y]).length = m + P.length + 1 by simp; omega]
        exact (st3.put (by omega) (by omega) (by omega) _).put (by omega) (by omega) (by omega) _
      · exact ((ed.trans ed3).put (by omega) _).put (by omega) _
  · rintro ρ s' ⟨o4, o5, rest, rem, P, hr, hlen, rfl, ga, gb, pm, st, ed⟩
    have hr : rest = [] := by
      cases rest with
      | nil => rfl
      | cons _ _ => cases hr
    subst hr
    have : rem = [] := List.length_eq_zero_iff.mp hlen.symm
    subst this
    simp at pm ⊢
    refine hQ _ _ ⟨b, P, rfl, by omega, gb, pm, by rw [← pm.length_eq]; exact st, ed⟩
end EV

/-! PvU: drawn names (own work). -/
namespace EV
open PySem (Str PyData)
def sufs : List Str := [⟨#[]⟩, ⟨#[48]⟩, ⟨#[113, 55]⟩, ⟨#[122, 122]⟩]
/-- a drawn name: its first sign, what follows -/
def nmOf2 (i : Nat) (u : Str) : Str := (⟨#[97 + i]⟩ : Str) ++ u
def headC (z : Str) : Nat := z.cps.toList.headD 0
theorem nm_toList (i : Nat) (u : Str) : (nmOf2 i u).cps.toList = (97 + i) :: u.cps.toList := by
  show ((#[97 + i] : Array Nat) ++ u.cps).toList = _
  simp
theorem head_nm (i : Nat) (u : Str) : headC (nmOf2 i u) = 97 + i := by
  unfold headC
  rw [nm_toList]; rfl
theorem suf_ok : ∀ u ∈ sufs, u.cps.toList.length ≤ 2 ∧ ∀ c ∈ u.cps.toList, signOk c = true := by decide
theorem small_at : ∀ i : Fin 26, (97 + (i : Nat)) ∈ smallS.cps.toList := by decide
theorem nm_ok {i : Nat} (hi : i < 26) {u : Str} (hu : u ∈ sufs) : NameOk (nmOf2 i u) := by
  obtain ⟨h1, h2⟩ := suf_ok u hu
  have hs := small_at ⟨i, hi⟩
  refine ⟨⟨97 + i, u.cps.toList, nm_toList i u, by omega, hs⟩, fun c hc => ?_⟩
  rw [nm_toList] at hc
  rcases List.mem_cons.mp hc with rfl | hc
  · unfold signOk
    rw [Bool.or_eq_true]
    exact .inl (decide_eq_true hs)
  · exact h2 c hc
theorem nm_len {i : Nat} {u : Str} (hu : u ∈ sufs) : (nmOf2 i u).length ≤ 3 := by
  obtain ⟨h1, _⟩ := suf_ok u hu
  have : (nmOf2 i u).length = (nmOf2 i u).cps.toList.length := by simp [PySem.Str.length]
  rw [this, nm_toList]
  simp at h1 ⊢
  omega
theorem letter_at (q : Nat) (hq : q < 26) (s : Sto) : ix (.str smallS) (.int q) s = .ok (.str ⟨#[97 + q]⟩) s := by
  have il : inLine smallS.length = true := by decide
  simp only [ix, il, if_true]
  have : ∀ i : Fin 26, ((L2.atI smallS.cps.toList ((i : Nat) : Int)).map fun c => D.str ⟨#[c]⟩) = some (.str ⟨#[97 + (i : Nat)]⟩) := by
    intro i
    have e : L2.atI smallS.cps.toList ((i : Nat) : Int) = some (97 + (i : Nat)) := by revert i; decide
    rw [e]; rfl
  rw [this ⟨q, hq⟩]
  rfl
theorem allv_at {n : Nat} {pre r : List Int} {x : Int} (h : allv n = pre ++ x :: r) : x = pre.length := by
  have e : (allv n)[pre.length]? = some x := by rw [h]; simp
  have hl : pre.length < n := by
    have := congrArg List.length h
    simp at this
    omega
  unfold allv at e
  simp [hl] at e
  exact e.symm
@[simp] theorem o2_adds (a b : Str) (s : Sto) : o2 .add (.str a) (.str b) s = if inLine (a.length + b.length) = true then .ok (.str (a ++ b)) s else .bad := id rfl
theorem T_names (n : Nat) {d c l : Nat} {s : Sto} {m : Nat} {cnt : Nat} (h : St d c l s m) (hm : m ≤ 800000) (h2 : cnt ≤ 12) :
    T (runN con4 fns (n + 3) (.fn k_law_names) [.loc d, .int cnt] s) fun v s' => ∃ N, v = .tup (sL N) ∧ N.length = cnt ∧ (∀ z ∈ N, NameOk z) ∧ (∀ z ∈ N, z.length ≤ 3) ∧ N.Nodup ∧ St d c l s' (m + 1 + cnt) ∧ Ed d l s s' := by
  refine T.post fun Q hQ => ?_
  rw [call_fn f_law_names rfl]
  have eL : (⟨#[97, 98, 99, 100, 101, 102, 103, 104, 105, 106, 107, 108, 109, 110, 111, 112, 113, 114, 115, 116, 117, 118, 119, 120, 121, 122]⟩ : Str) = smallS := rfl
  simp only [b_law_names, startE, eL]
  simp
  refine (T_draw (n) h (by omega) (lim := 26) (by omega) (by omega)).mono fun v s1 ⟨sh, ev, r1, r2, st1, ed1⟩ => ?_
  subst ev
  obtain ⟨w, rfl⟩ : ∃ w : Nat, sh = (w : Int) := ⟨sh.toNat, by omega⟩
  rw [T_rng1 _ (by omega)]
  obtain ⟨k, ek⟩ : ∃ k, k = s1.nxt := ⟨_, rfl⟩
  obtain ⟨s2, e2⟩ : ∃ s2, s2 = s1.push (.lst []) := ⟨_, rfl⟩
  have k2 : s2.get k = some (.lst (sL [])) := by rw [e2, ek]; exact get_push_self _ _
  have st2 : St d c l s2 (m + 1) := by rw [e2]; exact st1.push _
  have ed2 : Ed d l s s2 := by rw [e2]; exact ed1.trans (Ex.push _ _).ed
  have kd : d < k := by rw [ek]; exact st1.dlt
  have kc : c < k := by rw [ek]; exact st1.clt
  have kl : l < k := by rw [ek]; exact st1.llt
  have sk : s.nxt ≤ k := by rw [ek]; exact ed1.le
  simp only [← e2, ← ek]
  obtain ⟨PP, ePP⟩ : ∃ PP : List Str → Prop, PP = fun done => done.map headC = (List.range done.length).map (fun i => 97 + (w + i) % 26) ∧ (∀ z ∈ done, NameOk z) ∧ ∀ z ∈ done, z.length ≤ 3 := ⟨_, rfl⟩
  refine T_lcI (fun r acc s' => ∃ (done : List Str) (pre rest : List Int), r = iL rest ∧ acc = sL done ∧ allv cnt = pre ++ rest ∧ pre.length = done.length ∧ s'.get k = some (.lst acc) ∧ PP done ∧ St d c l s' (m + 1 + done.length) ∧ Ed d l s s') (fun _ _ _ _ => rfl) ?_ ?_ (iL (allv cnt)) [] _
    ⟨[], [], allv cnt, rfl, rfl, rfl, rfl, k2, by rw [ePP]; exact ⟨rfl, by simp, by simp⟩, st2, ed2⟩
  · rintro x r acc s3 ⟨done, pre, rest, hr, rfl, hall, hpl, hk, hP, st, ed⟩
    cases rest with
    | nil => cases hr
    | cons z rest =>
      injection hr with h1 h3
      subst h1 h3
      have hz := allv_at hall
      have hdl : done.length < cnt := by
        have := congrArg List.length hall
        simp at this
        omega
      subst hz
      refine ⟨_, rfl, ?_⟩
      obtain ⟨q, eq⟩ : ∃ q : Nat, q = (w + done.length) % 26 := ⟨_, rfl⟩
      have hq : q < 26 := by rw [eq]; exact Nat.mod_lt _ (by decide)
      have ef : ((w : Int) + (pre.length : Int)).fmod 26 = (q : Int) := by
        rw [Int.fmod_eq_emod_of_nonneg _ (by decide), eq, hpl]
        omega
      simp [wipe, noClo, o2_mod _ (show (26 : Int) ≠ 0 by decide), ef, letter_at q hq]
      rw [T_mkList (by simp)]
      refine (T_draw n (st.push _) (by omega) (lim := 4) (by omega) (by omega)).mono fun v s4 ⟨t, ev, t1, t2, st4, ed4⟩ => ?_
      subst ev
      have g4 := ed4.at_ s3.nxt _ (by have := st.dlt; omega) (by have := st.llt; omega) (get_push_self _ _)
      rw [ix_locI g4 t1 (by simpa using t2)]
      obtain ⟨u, hu, eu⟩ : ∃ u ∈ sufs, ([D.str ⟨#[]⟩, D.str ⟨#[48]⟩, D.str ⟨#[113, 55]⟩, D.str ⟨#[122, 122]⟩][t.toNat]'(by simp; omega)) = D.str u := by
        have : t = 0 ∨ t = 1 ∨ t = 2 ∨ t = 3 := by omega
        rcases this with rfl | rfl | rfl | rfl
        · exact ⟨_, by simp [sufs], rfl⟩
        · exact ⟨⟨#[48]⟩, by simp [sufs], rfl⟩
        · exact ⟨⟨#[113, 55]⟩, by simp [sufs], rfl⟩
        · exact ⟨⟨#[122, 122]⟩, by simp [sufs], rfl⟩
      rw [eu]
      have il : inLine ((⟨#[97 + q]⟩ : Str).length + u.length) = true := by
        obtain ⟨h1, _⟩ := suf_ok u hu
        have h3 : u.length = u.cps.toList.length := by simp [PySem.Str.length]
        have h4 : (⟨#[97 + q]⟩ : Str).length = 1 := rfl
        unfold inLine
        rw [h3, h4, decide_eq_true_eq]
        exact Nat.le_trans (show 1 + u.cps.toList.length ≤ 3 by omega) (by decide)
      simp [il]
      have hk4 := ed4.at_ _ _ (by omega) (by omega) (get_push (o := .lst [D.str ⟨#[]⟩, D.str ⟨#[48]⟩, D.str ⟨#[113, 55]⟩, D.str ⟨#[122, 122]⟩]) hk)
      refine ⟨hk4, Nat.lt_of_lt_of_le (show done.length < 100 by omega) (by decide), done ++ [nmOf2 q u], pre ++ [(pre.length : Int)], rest, rfl, by simp [sL, nmOf2], by simp [hall], by simp [hpl], ?_, ?_, ?_, ?_⟩
      · rw [get_put_self hk4]
      · rw [ePP] at hP ⊢
        obtain ⟨p1, p2, p3⟩ := hP
        refine ⟨?_, fun z hz => ?_, fun z hz => ?_⟩
        · rw [List.map_append, p1, List.length_append, List.length_singleton, List.range_succ, List.map_append]
          simp [head_nm, eq]
        · rcases List.mem_append.mp hz with hz | hz
          · exact p2 z hz
          · rw [List.mem_singleton.mp hz]; exact nm_ok hq hu
        · rcases List.mem_append.mp hz with hz | hz
          · exact p3 z hz
          · rw [List.mem_singleton.mp hz]; exact nm_len hu
      · rw [show m + 1 + (done ++ [nmOf2 q u]).length = m + 1 + done.length + 1 by simp; omega]
        exact st4.put (by omega) (by omega) (by omega) _
      · exact ((ed.trans (Ex.push _ _).ed).trans ed4).put sk _
  · rintro acc s3 ⟨done, pre, rest, hr, rfl, hall, hpl, hk, hP, st, ed⟩
    have hr : rest = [] := by
      cases rest with
      | nil => rfl
      | cons _ _ => cases hr
    subst hr
    have hlen : done.length = cnt := by
      have := congrArg List.length hall
      simp at this
      omega
    rw [ePP] at hP
    obtain ⟨p1, p2, p3⟩ := hP
    simp [tuple_loc hk]
    refine hQ _ _ ⟨done, rfl, hlen, p2, p3, ?_, by rw [← hlen]; exact st, ed⟩
    have : (done.map headC).Nodup := by
      rw [p1]
      refine List.pairwise_map.mpr (List.Pairwise.imp_of_mem (fun {a b} ha hb hab => ?_) List.pairwise_lt_range)
      have h1 := List.mem_range.mp ha
      have h2 := List.mem_range.mp hb
      omega
    exact List.Pairwise.imp (fun h e => h (by rw [e])) (List.pairwise_map.mp this)
end EV

/-! PvV: drawn sets (own work). -/
namespace EV
open PySem (Str PyData)
theorem T_addL {k : Nat} {xs : List D} {d : D} {s : Sto} {Q : Unit → Sto → Prop} (h : s.get k = some (.lst xs)) (hl : xs.length ≤ 100000) : T (addL d k s) Q = Q () (s.put k (.lst (xs ++ [d]))) := by
  have : xs.length < PySem.sizeLine := Nat.lt_of_le_of_lt hl (by decide)
  simp only [addL, h, this, if_true, T_ok]
theorem T_sets (n : Nat) {d c l : Nat} {s : Sto} {m : Nat} {cnt : Nat} (h : St d c l s m) (hm : m ≤ 800000) (h2 : cnt ≤ 12) :
    T (runN con4 fns (n + 3) (.fn k_law_sets) [.loc d, .int cnt, .int 2] s) fun v s' => ∃ z G E, v = .loc z ∧ s'.get z = some (.lst [.tup (iL G), .tup (iL E)]) ∧ Two cnt G E ∧ St d c l s' (m + cnt) ∧ Ed d l s s' := by
  refine T.post fun Q hQ => ?_
  rw [call_fn f_law_sets rfl]
  simp [b_law_sets, startE]
  rw [show (2 : Int) = ((2 : Nat) : Int) from rfl, T_rng1 2 (by decide)]
  have e2 : iL (allv 2) = [.int 0, .int 1] := by simp [allv, iL, List.range, List.range.loop]
  rw [e2]
  obtain ⟨q, eq⟩ : ∃ q, q = s.nxt := ⟨_, rfl⟩
  have dq : d < q := by rw [eq]; exact h.dlt
  have cq : c < q := by rw [eq]; exact h.clt
  have lq : l < q := by rw [eq]; exact h.llt
  rw [← eq]
  have q1 : (s.push (.lst [])).get q = some (.lst []) := by rw [eq]; exact get_push_self _ _
  obtain ⟨s1, e1⟩ : ∃ s1, s1 = s.push (.lst []) := ⟨_, rfl⟩
  rw [← e1] at q1 ⊢
  have st1 : St d c l s1 m := by rw [e1]; exact h.push _
  have ed1 : Ed d l s s1 := by rw [e1]; exact (Ex.push _ _).ed
  have n1 : s1.nxt = q + 1 := by rw [e1, eq]; simp [Sto.push, Sto.nxt]
  simp [lcGo, turnM, stillM]
  rw [n1]
  obtain ⟨s2, e2⟩ : ∃ s2, s2 = s1.push (.lst []) := ⟨_, rfl⟩
  have q2 : s2.get q = some (.lst []) := by rw [e2]; exact get_push q1
  have a2 : s2.get (q + 1) = some (.lst (iL [])) := by rw [e2, ← n1]; exact get_push_self _ _
  have st2 : St d c l s2 m := by rw [e2]; exact st1.push _
  have ed2 : Ed d l s s2 := by rw [e2]; exact ed1.trans (Ex.push _ _).ed
  have n2 : s2.nxt = q + 2 := by rw [e2, show (s1.push (.lst [])).nxt = s1.nxt + 1 by simp [Sto.push, Sto.nxt], n1]
  rw [← e2, T_addL q2 (by simp)]
  obtain ⟨s3, e3⟩ : ∃ s3, s3 = s2.put q (.lst ([] ++ [.loc (q + 1)])) := ⟨_, rfl⟩
  have q3 : s3.get q = some (.lst [.loc (q + 1)]) := by rw [e3]; exact get_put_self q2
  have a3 : s3.get (q + 1) = some (.lst (iL [])) := by rw [e3, get_put_ne (by omega)]; exact a2
  have st3 : St d c l s3 m := by rw [e3]; exact st2.put (by omega) (by omega) (by omega) _
  have ed3 : Ed d l s s3 := by rw [e3]; exact ed2.put (by omega) _
  have n3 : s3.nxt = q + 2 := by rw [e3, put_nxt, n2]
  rw [← e3, n3]
  obtain ⟨s4, e4⟩ : ∃ s4, s4 = s3.push (.lst []) := ⟨_, rfl⟩
  have q4 : s4.get q = some (.lst [.loc (q + 1)]) := by rw [e4]; exact get_push q3
  have a4 : s4.get (q + 1) = some (.lst (iL [])) := by rw [e4]; exact get_push a3
  have b4 : s4.get (q + 2) = some (.lst (iL [])) := by rw [e4, ← n3]; exact get_push_self _ _
  have st4 : St d c l s4 m := by rw [e4]; exact st3.push _
  have ed4 : Ed d l s s4 := by rw [e4]; exact ed3.trans (Ex.push _ _).ed
  rw [← e4, T_addL q4 (by simp)]
  obtain ⟨s5, e5⟩ : ∃ s5, s5 = s4.put q (.lst ([.loc (q + 1)] ++ [.loc (q + 2)])) := ⟨_, rfl⟩
  have q5 : s5.get q = some (.lst [.loc (q + 1), .loc (q + 2)]) := by rw [e5]; exact get_put_self q4
  have a5 : s5.get (q + 1) = some (.lst (iL [])) := by rw [e5, get_put_ne (by omega)]; exact a4
  have b5 : s5.get (q + 2) = some (.lst (iL [])) := by rw [e5, get_put_ne (by omega)]; exact b4
  have st5 : St d c l s5 m := by rw [e5]; exact st4.put (by omega) (by omega) (by omega) _
  have ed5 : Ed d l s s5 := by rw [e5]; exact ed4.put (by omega) _
  rw [← e5]
  rw [T_rng1 _ (by omega)]
  obtain ⟨PP, ePP⟩ : ∃ PP : List Int → List Int → List Int → Prop, PP = fun pre G E => G.Pairwise (· < ·) ∧ E.Pairwise (· < ·) ∧ (∀ v ∈ G, 0 ≤ v ∧ v < pre.length) ∧ (∀ v ∈ E, 0 ≤ v ∧ v < pre.length) ∧ ∀ v ∈ G, v ∉ E := ⟨_, rfl⟩
  refine T_for (fun r ρ s' => ∃ (o4 o5 : Option D) (pre rest G E : List Int), r = iL rest ∧ allv cnt = pre ++ rest ∧ ρ = [some (.loc d), some (.int cnt), some (.int 2), some (.loc q), o4, o5, none, none] ∧ s'.get q = some (.lst [.loc (q + 1), .loc (q + 2)]) ∧ s'.get (q + 1) = some (.lst (iL G)) ∧ s'.get (q + 2) = some (.lst (iL E)) ∧ PP pre G E ∧ G.length ≤ pre.length ∧ E.length ≤ pre.length ∧ St d c l s' (m + pre.length) ∧ Ed d l s s') (fun _ _ _ _ => rfl) ?_ ?_ _ _ _
    ⟨none, none, [], allv cnt, [], [], rfl, rfl, rfl, q5, a5, b5, by rw [ePP]; simp, by simp, by simp, st5, ed5⟩
  · rintro x r ρ s6 ⟨o4, o5, pre, rest, G, E, hr, hall, rfl, g1, g2, g3, hP, lG, lE, st, ed⟩
    cases rest with
    | nil => cases hr
    | cons z rest =>
      injection hr with h1 h3
      subst h1 h3
      have hz := allv_at hall
      have hpl : pre.length < cnt := by
        have := congrArg List.length hall
        simp at this
        omega
      subst hz
      refine ⟨_, rfl, ?_⟩
      simp
      refine (T_draw n st (by omega) (lim := 3) (by omega) (by omega)).mono fun v s7 ⟨t, ev, t1, t2, st7, ed7⟩ => ?_
      subst ev
      have g1 := ed7.at_ _ _ (by omega) (by omega) g1
      have g2 := ed7.at_ _ _ (by omega) (by omega) g2
      have g3 := ed7.at_ _ _ (by omega) (by omega) g3
      rw [ePP] at hP
      obtain ⟨p1, p2, p3, p4, p5⟩ := hP
      have app : ∀ {X : List Int}, X.Pairwise (· < ·) → (∀ v ∈ X, 0 ≤ v ∧ v < (pre.length : Int)) → (X ++ [(pre.length : Int)]).Pairwise (· < ·) ∧ ∀ v ∈ X ++ [(pre.length : Int)], 0 ≤ v ∧ v < ((pre ++ [(pre.length : Int)]).length : Int) := fun {X} h1 h2 => by
        refine ⟨List.pairwise_append.mpr ⟨h1, by simp, fun a ha b hb => ?_⟩, fun v hv => ?_⟩
        · rw [List.mem_singleton.mp hb]; exact (h2 a ha).2
        · rw [List.length_append, List.length_singleton]
          rcases List.mem_append.mp hv with hv | hv
          · have := h2 v hv; omega
          · rw [List.mem_singleton.mp hv]; omega
      have wid : ∀ {X : List Int}, (∀ v ∈ X, 0 ≤ v ∧ v < (pre.length : Int)) → ∀ v ∈ X, 0 ≤ v ∧ v < ((pre ++ [(pre.length : Int)]).length : Int) := fun {X} h2 v hv => by
        rw [List.length_append, List.length_singleton]
        have := h2 v hv
        omega
      have stm : St d c l s7 (m + (pre ++ [(pre.length : Int)]).length) := by rw [List.length_append, List.length_singleton]; exact st7.mono (by omega)
      have : t = 0 ∨ t = 1 ∨ t = 2 := by omega
      rcases this with rfl | rfl | rfl
      · simp [ix_locI g1 (r := 0) (by decide) (by simp), T_isL g2]
        rw [T_app g2 (by simp; omega)]
        refine ⟨_, _, pre ++ [(pre.length : Int)], rest, rfl, by simp [hall], ⟨rfl, rfl⟩, ?_, G ++ [(pre.length : Int)], ?_, E, ?_, ?_, by simp; omega, by simp; omega, stm.put (by omega) (by omega) (by omega) _, (ed.trans ed7).put (by omega) _⟩
        · rw [get_put_ne (by omega)]; exact g1
        · rw [get_put_self g2]; simp [iL]
        · rw [get_put_ne (by omega)]; exact g3
        · rw [ePP]
          refine ⟨(app p1 p3).1, p2, (app p1 p3).2, wid p4, fun v hv hE => ?_⟩
          rcases List.mem_append.mp hv with hv | hv
          · exact p5 v hv hE
          · rw [List.mem_singleton.mp hv] at hE
            have := (p4 _ hE).2
            omega
      · simp [ix_locI g1 (r := 1) (by decide) (by simp), T_isL g3]
        rw [T_app g3 (by simp; omega)]
        refine ⟨_, _, pre ++ [(pre.length : Int)], rest, rfl, by simp [hall], ⟨rfl, rfl⟩, ?_, G, ?_, E ++ [(pre.length : Int)], ?_, ?_, by simp; omega, by simp; omega, stm.put (by omega) (by omega) (by omega) _, (ed.trans ed7).put (by omega) _⟩
        · rw [get_put_ne (by omega)]; exact g1
        · rw [get_put_ne (by omega)]; exact g2
        · rw [get_put_self g3]; simp [iL]
        · rw [ePP]
          refine ⟨p1, (app p2 p4).1, wid p3, (app p2 p4).2, fun v hv hE => ?_⟩
          rcases List.mem_append.mp hE with hE | hE
          · exact p5 v hv hE
          · rw [List.mem_singleton.mp hE] at hv
            have := (p3 _ hv).2
            omega
      · simp
        refine ⟨_, _, pre ++ [(pre.length : Int)], rest, rfl, by simp [hall], ⟨rfl, rfl⟩, g1, G, g2, E, g3, ?_, by simp; omega, by simp; omega, stm, ed.trans ed7⟩
        rw [ePP]
        exact ⟨p1, p2, wid p3, wid p4, p5⟩
  · rintro ρ s6 ⟨o4, o5, pre, rest, G, E, hr, hall, rfl, g1, g2, g3, hP, lG, lE, st, ed⟩
    have hr : rest = [] := by
      cases rest with
      | nil => rfl
      | cons _ _ => cases hr
    subst hr
    have hpl : pre.length = cnt := by
      have := congrArg List.length hall
      simp at this
      omega
    rw [ePP] at hP
    obtain ⟨p1, p2, p3, p4, p5⟩ := hP
    have es : ∀ s : Sto, s.get q = some (.lst [.loc (q + 1), .loc (q + 2)]) → still (some (q, [.loc (q + 1), .loc (q + 2)])) s = true := fun s h => by
      simp only [still, h]
      simp [D.eqbs, D.eqb]
    have g1o := g1
    obtain ⟨z, ez⟩ : ∃ z, z = s6.nxt := ⟨_, rfl⟩
    obtain ⟨s7, e7⟩ : ∃ s7, s7 = s6.push (.lst []) := ⟨_, rfl⟩
    have z7 : s7.get z = some (.lst []) := by rw [e7, ez]; exact get_push_self _ _
    have g1 : s7.get q = some (.lst [.loc (q + 1), .loc (q + 2)]) := by rw [e7]; exact get_push g1
    have g2' : s7.get (q + 1) = some (.lst (iL G)) := by rw [e7]; exact get_push g2
    have g3' : s7.get (q + 2) = some (.lst (iL E)) := by rw [e7]; exact get_push g3
    have zb : q + 2 < z := by rw [ez]; exact get_lt g3
    have st7 : St d c l s7 (m + pre.length) := by rw [e7]; exact st.push _
    have ed7 : Ed d l s s7 := by rw [e7]; exact ed.trans (Ex.push _ _).ed
    have sz : s.nxt ≤ z := by omega
    simp [walk_loc g1o]
    rw [← ez, ← e7]
    simp [lcGo, turnM, stillM, es s7 g1, wipe, noClo, tuple_loc g2']
    rw [T_addL z7 (by simp)]
    obtain ⟨s8, e8⟩ : ∃ s8, s8 = s7.put z (.lst ([] ++ [.tup (iL G)])) := ⟨_, rfl⟩
    have z8 : s8.get z = some (.lst [.tup (iL G)]) := by rw [e8]; exact get_put_self z7
    have h1 : s8.get q = some (.lst [.loc (q + 1), .loc (q + 2)]) := by rw [e8, get_put_ne (by omega)]; exact g1
    have h3 : s8.get (q + 2) = some (.lst (iL E)) := by rw [e8, get_put_ne (by omega)]; exact g3'
    have st8 : St d c l s8 (m + pre.length) := by rw [e8]; exact st7.put (by omega) (by omega) (by omega) _
    have ed8 : Ed d l s s8 := by rw [e8]; exact ed7.put sz _
    rw [← e8]
    simp [es s8 h1, tuple_loc h3]
    rw [T_addL z8 (by simp)]
    have h9 : (s8.put z (.lst ([.tup (iL G)] ++ [.tup (iL E)]))).get q = some (.lst [.loc (q + 1), .loc (q + 2)]) := by rw [get_put_ne (by omega)]; exact h1
    simp only [es _ h9, if_true, T_ok]
    refine ⟨trivial, ?_⟩
    refine hQ _ _ ⟨z, G, E, rfl, get_put_self z8, ⟨p1, p2, fun v hv => by rw [← hpl]; exact p3 v hv, fun v hv => by rw [← hpl]; exact p4 v hv, p5⟩, ?_, ed8.put sz _⟩
    rw [← hpl]
    exact st8.put (by omega) (by omega) (by omega) _
end EV

/-! PvW: drawn diagrams (own work). -/
namespace EV
open PySem (Str PyData)
theorem enum_loc {k : Nat} {xs : List D} {s : Sto} {Q : Walk → Sto → Prop} (h : s.get k = some (.lst xs)) : T (enumW (.loc k) s) Q = Q (enF 0 xs, some (k, xs)) s := by
  simp only [enumW, walk_loc h, T_ok]
  rfl
theorem slice_loc {k : Nat} {xs : List D} {s : Sto} (h : s.get k = some (.lst xs)) (lo hi : Option Int) : slice (.loc k) lo hi s = mkList (cut xs lo hi) s := by simp only [slice, h]
theorem idx_lt {P done rest : List Int} {lo hi : Int} (nd : P.Nodup) (e : P = done ++ hi :: rest) (hl : lo ∈ done) : P.idxOf lo < P.idxOf hi := by
  have hn : hi ∉ done := fun h => (List.nodup_append.mp (e ▸ nd)).2.2 hi h hi List.mem_cons_self rfl
  rw [e, List.idxOf_append, List.idxOf_append, if_pos hl, if_neg hn]
  have := List.idxOf_lt_length_of_mem hl
  simp
  omega
theorem T_listrng (n : Nat) {cf : Cf} {con : List D} {ρ : Env} {s : Sto} {Q : D → Sto → Prop} {e : E} {m : Nat} (hm : m ≤ 1000) (he : T (evE con cf e ρ s) fun v s' => v = .int m ∧ s' = s) (hρ : ∀ (x : Int) (s : Sto), T (evE con cf (.var 0) ((wipe (noClo ρ) []).set 0 (some (.int x))) s) fun d s1 => d = .int x ∧ s1 = s) (q : Q (.tup (iL (allv m))) s) :
    T (evE con cf (.gen .tuple (.rng1 e) (.n 0) [] .nil (.var 0)) ρ s) Q := by
  rw [T_genT, T_sr1, T_eq he]
  simp only [T_ok]
  rw [T_rng1 _ hm]
  refine T_tpP (enc := D.int) (J := (· = s)) (fun _ => true) D.int (fun _ _ => rfl) (allv m) [] s rfl (fun x _ => ⟨_, rfl, fun s' e => ?_⟩) fun s' e => ?_
  · subst e
    simp only [T_ifnil, true_and]
    exact fun _ => hρ x s'
  · subst e
    rw [List.nil_append, List.filter_eq_self.mpr (fun _ _ => rfl), show (allv m).map D.int = iL (allv m) from rfl, T_mkTup (by simp; omega)]
    exact q
/-- arrows that go along an order -/
structure Along (P done : List Int) (Ar : List Pr) : Prop where
  nd : Ar.Nodup
  at_ : ∀ p ∈ Ar, p.1 ∈ P ∧ p.2 ∈ done ∧ P.idxOf p.1 < P.idxOf p.2
structure AlongX (P done d2 : List Int) (hi : Int) (Ar : List Pr) : Prop where
  nd : Ar.Nodup
  at_ : ∀ p ∈ Ar, (p.1 ∈ P ∧ p.2 ∈ done ∧ P.idxOf p.1 < P.idxOf p.2) ∨ (p.2 = hi ∧ p.1 ∈ d2)
structure Ties (cnt lo : Nat) (B : List Pr) : Prop where
  nd : B.Nodup
  at_ : ∀ p ∈ B, 0 ≤ p.1 ∧ p.1 < p.2 ∧ p.2 < cnt ∧ p.1 < lo
structure TiesX (cnt lo hi : Nat) (B : List Pr) : Prop where
  nd : B.Nodup
  at_ : ∀ p ∈ B, 0 ≤ p.1 ∧ p.1 < p.2 ∧ p.2 < cnt ∧ (p.1 < lo ∨ (p.1 = lo ∧ p.2 < hi))
theorem T_diagram (n : Nat) {d c l : Nat} {s : Sto} {m le mo : Nat} (h : St d c l s m) (hm : m ≤ 700000) (le1 : 1 ≤ le) (le2 : le ≤ mo) (mo2 : mo ≤ 12) :
    T (runN con4 fns (n + 5) (.fn k_law_diagram) [.loc d, .int le, .int mo, .bool true] s) fun v s' => ∃ N A B, v = dia N A B ∧ Dia N A B ∧ le ≤ N.length ∧ N.length ≤ mo ∧ (∀ z ∈ N, z.length ≤ 3) ∧ St d c l s' (m + 1000) ∧ Ed d l s s' := by
  refine T.post fun Q hQ => ?_
  rw [call_fn f_law_diagram rfl]
  simp [b_law_diagram, startE, -T_genT]
  refine (T_draw (n + 2) h (by omega) (lim := (mo : Int) - le + 1) (by omega) (by omega)).mono fun v s1 ⟨t, ev, t1, t2, st1, ed1⟩ => ?_
  subst ev
  simp [-T_genT]
  obtain ⟨cnt, ec⟩ : ∃ cnt : Nat, (le : Int) + t = (cnt : Int) := ⟨(le + t).toNat, by omega⟩
  have c2 : le ≤ cnt := by omega
  have c6 : cnt ≤ mo := by omega
  rw [ec]
  refine T_listrng n (m := cnt) (by omega) (by simp) (fun x s => by simp [wipe, noClo]) ?_
  simp [list_tup]
  rw [T_mkList (by simp; omega)]
  refine (T_shuffled n (st1.push _) (by omega) (get_push_self _ _) (by have := st1.dlt; omega) (by have := st1.llt; omega) (by simp; omega)).mono fun v s2 ⟨b, P, ev, hb, gb, pm, st2, ed2⟩ => ?_
  subst ev
  have ndP : P.Nodup := pm.nodup_iff.mpr ((allv_lt cnt).imp fun h => by omega)
  have lP : P.length = cnt := by have := pm.length_eq; simpa using this
  have mP : ∀ v ∈ P, 0 ≤ v ∧ v < cnt := fun v hv => allv_mem.mp (pm.mem_iff.mp hv)
  have st2 : St d c l s2 (m + 1 + cnt) := by simpa using st2
  have ed2 : Ed d l s s2 := (ed1.trans (Ex.push _ _).ed).trans ed2
  simp
  obtain ⟨x, ex⟩ : ∃ x, x = s2.nxt := ⟨_, rfl⟩
  obtain ⟨s3, e3⟩ : ∃ s3, s3 = s2.push (.lst []) := ⟨_, rfl⟩
  obtain ⟨y, ey⟩ : ∃ y, y = s3.nxt := ⟨_, rfl⟩
  obtain ⟨s4, e4⟩ : ∃ s4, s4 = s3.push (.lst []) := ⟨_, rfl⟩
  rw [← ex, ← e3, ← ey, ← e4]
  have x3 : s3.get x = some (.lst (pL [])) := by rw [e3, ex]; exact get_push_self _ _
  have x4 : s4.get x = some (.lst (pL [])) := by rw [e4]; exact get_push x3
  have y4 : s4.get y = some (.lst (pL [])) := by rw [e4, ey]; exact get_push_self _ _
  have b4 : s4.get b = some (.lst (iL P)) := by rw [e4, e3]; exact get_push (get_push gb)
  have st4 : St d c l s4 (m + 1 + cnt) := by rw [e4, e3]; exact (st2.push _).push _
  have ed4 : Ed d l s s4 := by rw [e4, e3]; exact (ed2.trans (Ex.push _ _).ed).trans (Ex.push _ _).ed
  have bx : b < x := by rw [ex]; exact get_lt gb
  have xy : x < y := by rw [ey]; exact get_lt x3
  have sb : s1.nxt + 1 ≤ b := by simpa [Sto.push, Sto.nxt] using hb
  have ss1 := ed1.le
  have d1 := h.dlt
  have l1 := h.llt
  have c1 := h.clt
  refine (T_draw (n + 2) st4 (by omega) (lim := 3) (by omega) (by omega)).mono fun v s5 ⟨t, ev, _, _, st5, ed5⟩ => ?_
  subst ev
  have x5 := ed5.at_ _ _ (by omega) (by omega) x4
  have y5 := ed5.at_ _ _ (by omega) (by omega) y4
  have b5 := ed5.at_ _ _ (by omega) (by omega) b4
  have ed5 := ed4.trans ed5
  simp
  obtain ⟨dn, edn⟩ : ∃ dn, dn = 1 + t := ⟨_, rfl⟩
  rw [← edn, enum_loc b5]
  -- the arrows
  refine T_for (fun r ρ s' => ∃ (o9 o10 o11 : Option D) (done rest : List Int) (Ar : List Pr), r = enF done.length (iL rest) ∧ P = done ++ rest ∧ ρ = [some (.loc d), some (.int le), some (.int mo), some (.bool true), some (.int cnt), some (.loc b), some (.loc x), some (.loc y), some (.int dn), o9, o10, o11] ∧
      s'.get b = some (.lst (iL P)) ∧ s'.get x = some (.lst (pL Ar)) ∧ s'.get y = some (.lst (pL [])) ∧ Along P done Ar ∧ Ar.length ≤ done.length * 12 ∧ St d c l s' (m + 20 + done.length * 12) ∧ Ed d l s s') (fun r ρ s' ⟨_, _, _, _, _, _, _, _, _, g, _⟩ => still_iL g) ?_ ?_ _ _ _
    ⟨none, none, none, [], P, [], rfl, rfl, rfl, b5, x5, y5, ⟨by simp, by simp⟩, by simp, st5.mono (by omega), ed5⟩
  · rintro v r ρ s6 ⟨o9, o10, o11, done, rest, Ar, hr, hP, rfl, b6, x6, y6, hA, lA, st6, ed6⟩
    cases rest with
    | nil => cases hr
    | cons hi rest =>
      obtain ⟨rfl, rfl⟩ := List.cons.inj (show v :: r = D.tup [.int done.length, .int hi] :: enF (done.length + 1) (iL rest) from hr)
      have ldone : done.length < 12 := by
        have := congrArg List.length hP
        simp at this
        omega
      refine ⟨_, rfl, ?_⟩
      have hcut : cut (iL P) none (some (done.length : Int)) = iL done := by
        rw [cut_pre (by rw [hP]; simp), hP]
        simp [iL]
      simp [slice_loc b6, hcut]
      rw [T_mkList (by simp; omega)]
      obtain ⟨w, ew⟩ : ∃ w, w = s6.nxt := ⟨_, rfl⟩
      obtain ⟨s7, e7⟩ : ∃ s7, s7 = s6.push (.lst (iL done)) := ⟨_, rfl⟩
      rw [← ew, ← e7]
      have w7 : s7.get w = some (.lst (iL done)) := by rw [e7, ew]; exact get_push_self _ _
      have b7 : s7.get b = some (.lst (iL P)) := by rw [e7]; exact get_push b6
      have x7 : s7.get x = some (.lst (pL Ar)) := by rw [e7]; exact get_push x6
      have y7 : s7.get y = some (.lst (pL [])) := by rw [e7]; exact get_push y6
      have yw : y < w := by rw [ew]; exact get_lt y6
      have st7 : St d c l s7 (m + 20 + done.length * 12) := by rw [e7]; exact st6.push _
      have ed7 : Ed d l s s7 := by rw [e7]; exact ed6.trans (Ex.push _ _).ed
      simp [walk_loc w7]
      refine T_for (fun r ρ s' => ∃ (o11 : Option D) (d2 r2 : List Int) (Ar : List Pr), r = iL r2 ∧ done = d2 ++ r2 ∧ ρ = [some (.loc d), some (.int le), some (.int mo), some (.bool true), some (.int cnt), some (.loc b), some (.loc x), some (.loc y), some (.int dn), some (.int done.length), some (.int hi), o11] ∧
          s'.get w = some (.lst (iL done)) ∧ s'.get b = some (.lst (iL P)) ∧ s'.get x = some (.lst (pL Ar)) ∧ s'.get y = some (.lst (pL [])) ∧ AlongX P done d2 hi Ar ∧ Ar.length ≤ done.length * 12 + d2.length ∧ St d c l s' (m + 20 + done.length * 12 + d2.length) ∧ Ed d l s s') (fun r ρ s' ⟨_, _, _, _, _, _, _, g, _⟩ => still_iL g) ?_ ?_ _ _ _
        ⟨o11, [], done, Ar, rfl, rfl, rfl, w7, b7, x7, y7, ⟨hA.nd, fun p hp => .inl (hA.at_ p hp)⟩, by simpa using lA, st7, ed7⟩
      · rintro v r ρ s8 ⟨o11, d2, r2, Ar, hr, hd2, rfl, w8, b8, x8, y8, hA2, lA2, st8, ed8⟩
        cases r2 with
        | nil => cases hr
        | cons lo r2 =>
          obtain ⟨rfl, rfl⟩ := List.cons.inj (show v :: r = D.int lo :: iL r2 from hr)
          have ld2 : d2.length < 12 := by
            have := congrArg List.length hd2
            simp at this
            omega
          have lodone : lo ∈ done := by rw [hd2]; simp
          have hhi : hi ∉ done := fun h => (List.nodup_append.mp (hP ▸ ndP)).2.2 hi h hi List.mem_cons_self rfl
          have lod2 : lo ∉ d2 := fun h => (List.nodup_append.mp (hd2 ▸ (List.nodup_append.mp (hP ▸ ndP)).1)).2.2 lo h lo List.mem_cons_self rfl
          refine ⟨_, rfl, ?_⟩
          simp
          refine (T_draw (n + 2) st8 (by omega) (lim := 4) (by omega) (by omega)).mono fun v s9 ⟨t, ev, _, _, st9, ed9⟩ => ?_
          subst ev
          have w9 := ed9.at_ _ _ (by omega) (by omega) w8
          have b9 := ed9.at_ _ _ (by omega) (by omega) b8
          have x9 := ed9.at_ _ _ (by omega) (by omega) x8
          have y9 := ed9.at_ _ _ (by omega) (by omega) y8
          have ed9 := ed8.trans ed9
          have stm : St d c l s9 (m + 20 + done.length * 12 + (d2 ++ [lo]).length) := by rw [List.length_append, List.length_singleton]; exact st9.mono (by omega)
          have widen : ∀ p ∈ Ar, (p.1 ∈ P ∧ p.2 ∈ done ∧ P.idxOf p.1 < P.idxOf p.2) ∨ (p.2 = hi ∧ p.1 ∈ d2 ++ [lo]) := fun p hp => (hA2.at_ p hp).imp (fun h => h) fun h => ⟨h.1, by simp [h.2]⟩
          by_cases hlt : t < dn
          · simp [hlt, T_isL x9]
            rw [T_app x9 (by simp; omega)]
            refine ⟨_, d2 ++ [lo], r2, rfl, by simp [hd2], rfl, ?_, ?_, Ar ++ [(lo, hi)], ?_, ?_, ⟨?_, fun p hp => ?_⟩, by simp; omega, stm.put (by omega) (by omega) (by omega) _, ed9.put (by omega) _⟩
            · rw [get_put_ne (by omega)]; exact w9
            · rw [get_put_ne (by omega)]; exact b9
            · rw [get_put_self x9]; simp [pL, prD]
            · rw [get_put_ne (by omega)]; exact y9
            · refine List.nodup_append.mpr ⟨hA2.nd, by simp, fun p hp q hq e => ?_⟩
              rw [List.mem_singleton.mp hq] at e
              subst e
              rcases hA2.at_ _ hp with z | z
              · exact hhi z.2.1
              · exact lod2 z.2
            · rcases List.mem_append.mp hp with hp | hp
              · exact widen p hp
              · rw [List.mem_singleton.mp hp]
                exact .inr ⟨rfl, by simp⟩
          · simp [hlt]
            exact ⟨_, d2 ++ [lo], r2, rfl, by simp [hd2], rfl, w9, b9, Ar, x9, y9, ⟨hA2.nd, widen⟩, by simp; omega, stm, ed9⟩
      · rintro ρ s8 ⟨o11, d2, r2, Ar, hr, hd2, rfl, w8, b8, x8, y8, hA2, lA2, st8, ed8⟩
        have hr : r2 = [] := by
          cases r2 with
          | nil => rfl
          | cons _ _ => cases hr
        subst hr
        simp at hd2
        subst hd2
        simp
        have hfin : ∀ v ∈ done, v ∈ done ++ [hi] := fun v hv => by simp [hv]
        refine ⟨_, _, _, done ++ [hi], rest, by simp, by simp [hP], ⟨rfl, rfl, rfl⟩, b8, Ar, x8, y8, ⟨hA2.nd, fun p hp => ?_⟩, by simp at lA2 ⊢; omega, st8.mono (by simp; omega), ed8⟩
        rcases hA2.at_ p hp with z | z
        · exact ⟨z.1, hfin _ z.2.1, z.2.2⟩
        · exact ⟨by rw [hP]; simp [z.2], by rw [z.1]; simp, by rw [z.1]; exact idx_lt ndP hP z.2⟩
  · rintro ρ s6 ⟨o9, o10, o11, done, rest, Ar, hr, hP, rfl, b6, x6, y6, hA, lA, st6, ed6⟩
    have hr : rest = [] := by
      cases rest with
      | nil => rfl
      | cons _ _ => cases hr
    subst hr
    simp at hP
    subst hP
    simp
    rw [T_rng1 _ (by omega)]
    have st6 : St d c l s6 (m + 200) := st6.mono (by omega)
    refine T_for (fun r ρ s' => ∃ (o9 o10 o11 : Option D) (pre rest : List Int) (B : List Pr), r = iL rest ∧ allv cnt = pre ++ rest ∧ ρ = [some (.loc d), some (.int le), some (.int mo), some (.bool true), some (.int cnt), some (.loc b), some (.loc x), some (.loc y), some (.int dn), o9, o10, o11] ∧
        s'.get x = some (.lst (pL Ar)) ∧ s'.get y = some (.lst (pL B)) ∧ Ties cnt pre.length B ∧ B.length ≤ pre.length * 12 ∧ St d c l s' (m + 200 + pre.length * 12) ∧ Ed d l s s') (fun _ _ _ _ => rfl) ?_ ?_ _ _ _
      ⟨o9, o10, o11, [], allv cnt, [], rfl, rfl, rfl, x6, y6, ⟨by simp, by simp⟩, by simp, st6, ed6⟩
    · rintro v r ρ s7 ⟨o9, o10, o11, pre, rest, B, hr, hall, rfl, x7, y7, hB, lB, st7, ed7⟩
      cases rest with
      | nil => cases hr
      | cons z rest =>
        obtain ⟨rfl, rfl⟩ := List.cons.inj (show v :: r = D.int z :: iL rest from hr)
        have hz := allv_at hall
        have hpl : pre.length < cnt := by
          have := congrArg List.length hall
          simp at this
          omega
        subst hz
        refine ⟨_, rfl, ?_⟩
        simp
        rw [show ((pre.length : Int) + 1) = ((pre.length + 1 : Nat) : Int) by omega, T_rng2 _ _ (by omega) (by omega)]
        refine T_for (fun r ρ s' => ∃ (o10 : Option D) (p2 r2 : List Int) (B : List Pr), r = iL r2 ∧ rngL (pre.length + 1) cnt = p2 ++ r2 ∧ ρ = [some (.loc d), some (.int le), some (.int mo), some (.bool true), some (.int cnt), some (.loc b), some (.loc x), some (.loc y), some (.int dn), o9, o10, some (.int pre.length)] ∧
            s'.get x = some (.lst (pL Ar)) ∧ s'.get y = some (.lst (pL B)) ∧ TiesX cnt pre.length (pre.length + 1 + p2.length) B ∧ B.length ≤ pre.length * 12 + p2.length ∧ St d c l s' (m + 200 + pre.length * 12 + p2.length) ∧ Ed d l s s') (fun _ _ _ _ => rfl) ?_ ?_ _ _ _
          ⟨o10, [], rngL (pre.length + 1) cnt, B, rfl, rfl, rfl, x7, y7, ⟨hB.nd, fun p hp => by have := hB.at_ p hp; exact ⟨this.1, this.2.1, this.2.2.1, .inl this.2.2.2⟩⟩, by simpa using lB, st7, ed7⟩
        · rintro v r ρ s8 ⟨o10, p2, r2, B, hr, hall2, rfl, x8, y8, hB2, lB2, st8, ed8⟩
          cases r2 with
          | nil => cases hr
          | cons q r2 =>
            obtain ⟨rfl, rfl⟩ := List.cons.inj (show v :: r = D.int q :: iL r2 from hr)
            obtain ⟨hq, hq2⟩ := rngL_at hall2
            subst hq
            refine ⟨_, rfl, ?_⟩
            simp
            refine (T_draw (n + 2) st8 (by omega) (lim := 4) (by omega) (by omega)).mono fun v s9 ⟨t, ev, _, _, st9, ed9⟩ => ?_
            subst ev
            have x9 := ed9.at_ _ _ (by omega) (by omega) x8
            have y9 := ed9.at_ _ _ (by omega) (by omega) y8
            have ed9 := ed8.trans ed9
            obtain ⟨q, eq⟩ : ∃ q : Nat, q = pre.length + 1 + p2.length := ⟨_, rfl⟩
            have stm : St d c l s9 (m + 200 + pre.length * 12 + (p2 ++ [(q : Int)]).length) := by rw [List.length_append, List.length_singleton]; exact st9.mono (by omega)
            have widen : ∀ p ∈ B, 0 ≤ p.1 ∧ p.1 < p.2 ∧ p.2 < cnt ∧ (p.1 < pre.length ∨ (p.1 = pre.length ∧ p.2 < ((pre.length + 1 + (p2 ++ [(q : Int)]).length : Nat) : Int))) := fun p hp => by
              have := hB2.at_ p hp
              rw [List.length_append, List.length_singleton]
              refine ⟨this.1, this.2.1, this.2.2.1, this.2.2.2.imp (fun h => h) fun h => ⟨h.1, by omega⟩⟩
            by_cases ht : t = 0
            · simp [ht, T_isL y9]
              rw [T_app y9 (by simp; omega)]
              refine ⟨_, p2 ++ [(q : Int)], r2, rfl, by rw [hall2, eq]; simp, rfl, ?_, B ++ [((pre.length : Int), (q : Int))], ?_, ⟨?_, fun p hp => ?_⟩, by simp; omega, stm.put (by omega) (by omega) (by omega) _, ed9.put (by omega) _⟩
              · rw [get_put_ne (by omega)]; exact x9
              · rw [get_put_self y9]; simp [pL, prD, eq]
              · refine List.nodup_append.mpr ⟨hB2.nd, by simp, fun p hp q' hq' e => ?_⟩
                rw [List.mem_singleton.mp hq'] at e
                subst e
                have := hB2.at_ _ hp
                simp at this
                omega
              · rcases List.mem_append.mp hp with hp | hp
                · exact widen p hp
                · rw [List.mem_singleton.mp hp, List.length_append, List.length_singleton]
                  refine ⟨by simp, by simp; omega, by simp; omega, .inr ⟨rfl, by simp; omega⟩⟩
            · simp [ht]
              exact ⟨_, p2 ++ [(q : Int)], r2, rfl, by rw [hall2, eq]; simp, rfl, x9, B, y9, ⟨hB2.nd, widen⟩, by simp; omega, stm, ed9⟩
        · rintro ρ s8 ⟨o10, p2, r2, B, hr, hall2, rfl, x8, y8, hB2, lB2, st8, ed8⟩
          have hr : r2 = [] := by
            cases r2 with
            | nil => rfl
            | cons _ _ => cases hr
          subst hr
          have lp2 : p2.length = cnt - (pre.length + 1) := by
            have := congrArg List.length hall2
            simp at this
            omega
          simp
          refine ⟨_, _, _, pre ++ [(pre.length : Int)], rest, rfl, by simp [hall], ⟨rfl, rfl, rfl⟩, x8, B, y8, ⟨hB2.nd, fun p hp => ?_⟩, by simp; omega, st8.mono (by simp; omega), ed8⟩
          have := hB2.at_ p hp
          rw [List.length_append, List.length_singleton]
          refine ⟨this.1, this.2.1, this.2.2.1, ?_⟩
          rcases this.2.2.2 with z | z <;> omega
    · rintro ρ s7 ⟨o9, o10, o11, pre, rest, B, hr, hall, rfl, x7, y7, hB, lB, st7, ed7⟩
      have hr : rest = [] := by
        cases rest with
        | nil => rfl
        | cons _ _ => cases hr
      subst hr
      have hpl : pre.length = cnt := by
        have := congrArg List.length hall
        simp at this
        omega
      simp
      refine (T_names (n + 1) st7 (by omega) (cnt := cnt) (by omega)).mono fun v s8 ⟨N, ev, lN, hN1, hN2, hN3, st8, ed8⟩ => ?_
      subst ev
      have x8 := ed8.at_ _ _ (by omega) (by omega) x7
      have y8 := ed8.at_ _ _ (by omega) (by omega) y7
      have ed8 := ed7.trans ed8
      rw [T_sortLP x8 (by omega), tuple_loc (get_push_self _ _)]
      simp
      rw [T_sortLP (get_push y8) (by omega), tuple_loc (get_push_self _ _)]
      simp
      refine hQ _ _ ⟨N, psort Ar, psort B, rfl, ?_, by omega, by omega, hN2, ?_, (ed8.trans (Ex.push _ _).ed).trans (Ex.push _ _).ed⟩
      · refine ⟨by omega, by omega, hN1, hN3, psort_lt hA.nd, fun p hp => ?_, ⟨fun v => P.idxOf v, fun p hp => (hA.at_ p (psort_mem.mp hp)).2.2⟩, psort_lt hB.nd, fun p hp => ?_⟩
        · have := hA.at_ p (psort_mem.mp hp)
          rw [lN]
          exact ⟨mP _ this.1, mP _ this.2.1, fun e => by have := this.2.2; rw [e] at this; exact Nat.lt_irrefl _ this⟩
        · have := hB.at_ p (psort_mem.mp hp)
          rw [lN]
          omega
      · exact ((st8.push _).push _).mono (by omega)
end EV

/-! PvX: like, the law's own above (own work). -/
namespace EV
open PySem (Str PyData)
theorem rd_strL {z : Str} {s : Sto} (h : (z.cps.toList.all fun c => decide (c < 1114112)) = true) : (D.str z).rd s = some (.str z) := by
  have e : PyData.canLay0 (.str z) = true := by
    show (z.cps.all (· < 0x110000)) = true
    rw [Array.all_eq_true']
    intro c hc
    exact List.all_eq_true.mp h c (Array.mem_toList_iff.mpr hc)
  unfold D.rd deep
  rw [read_str]
  have : PySem.SeqAt.shaped (.str z) = true := by
    unfold PySem.SeqAt.shaped
    rw [e]; rfl
  simp only [this, if_true]
theorem eqD_strL {x y : Str} {s : Sto} (hx : (x.cps.toList.all fun c => decide (c < 1114112)) = true) (hy : (y.cps.toList.all fun c => decide (c < 1114112)) = true) : eqD (.str x) (.str y) s = some (x == y) := by
  simp only [eqD, rd_strL hx, rd_strL hy, PyData.eqv]
/-- closed under what leads to it -/
def Clo (A : List Pr) (F : List Int) : Prop := ∀ p ∈ A, p.2 ∈ F → p.1 ∈ F
theorem T_lawabove (n : Nat) {s : Sto} {N : List Str} {A B : List Pr} {g : List Int} {m : Nat} (hm : m ≤ 400) (nd : g.Nodup) (hr : ∀ v ∈ g, 0 ≤ v ∧ v < m) (ar : ∀ p ∈ A, 0 ≤ p.1 ∧ p.1 < m) (hA : A.length ≤ 1000) :
    T (runN con4 fns (n + 1) (.fn k_law_above) [dia N A B, .tup (iL g), .tup (iL (allv m))] s) fun v s' => ∃ L, v = .tup (iL L) ∧ Ex s s' ∧ ∀ v, Lead (arrE A) (fun v => 0 ≤ v ∧ v < m) (· ∈ g) v → v ∈ L := by
  refine T.post fun Q hQ => ?_
  have lg : g.length ≤ m := by
    have := nodup_sub_len (U := allv m) nd fun v hv => allv_mem.mpr (hr v hv)
    simpa using this
  rw [call_fn f_law_above rfl]
  simp only [b_law_above, startE, T_scons, T_set]
  refine T_keepI (A := g) (fun _ => true) (by simp) (fun p hp s => by simp [wipe, noClo]) (fun p s => by simp [wipe, noClo, dia]) (by omega) ?_
  obtain ⟨k, ek⟩ : ∃ k, k = s.nxt := ⟨_, rfl⟩
  obtain ⟨s1, e1⟩ : ∃ s1, s1 = s.push (.lst (iL g)) := ⟨_, rfl⟩
  rw [List.filter_eq_self.mpr (fun _ _ => rfl), ← ek, ← e1]
  have k1 : s1.get k = some (.lst (iL g)) := by rw [e1, ek]; exact get_push_self _ _
  have x1 : Ex s s1 := by rw [e1]; exact Ex.push _ _
  have sk : s.nxt ≤ k := by omega
  simp
  obtain ⟨OK, eOK⟩ : ∃ OK : List Int → List Int → Prop, OK = fun pre F => F.Nodup ∧ (∀ v : Int, v ∈ F → 0 ≤ v ∧ v < m) ∧ (∀ v ∈ g, v ∈ F) ∧ (Clo A F ∨ 1 + pre.length ≤ F.length) := ⟨_, rfl⟩
  have lenOK : ∀ {pre F}, OK pre F → F.length ≤ m := fun {pre F} h => by
    rw [eOK] at h
    have := nodup_sub_len (U := allv m) h.1 fun v hv => allv_mem.mpr (h.2.1 v hv)
    simpa using this
  refine T_for (fun r ρ s' => ∃ (o4 o5 o6 : Option D) (pre rest F : List Int), r = iL rest ∧ allv m = pre ++ rest ∧ ρ = [some (dia N A B), some (.tup (iL g)), some (.tup (iL (allv m))), some (.loc k), o4, o5, o6, none] ∧ s'.get k = some (.lst (iL F)) ∧ Ex s s' ∧ OK pre F) (fun _ _ _ _ => rfl) ?_ ?_ _ _ _
    ⟨none, none, none, [], allv m, g, rfl, rfl, rfl, k1, x1, ?_⟩
  · rintro v r ρ s2 ⟨o4, o5, o6, pre, rest, F0, hr2, hall, rfl, k2, x2, hOK⟩
    cases rest with
    | nil => cases hr2
    | cons z rest =>
      obtain ⟨rfl, rfl⟩ := List.cons.inj (show v :: r = D.int z :: iL rest from hr2)
      refine ⟨_, rfl, ?_⟩
      have lF0 := lenOK hOK
      simp
      obtain ⟨IN, eIN⟩ : ∃ IN : List Pr → List Int → Prop, IN = fun dA new => (F0 ++ new).Nodup ∧ (∀ v : Int, v ∈ F0 ++ new → 0 ≤ v ∧ v < m) ∧ (∀ p ∈ dA, p.2 ∈ F0 → p.1 ∈ F0 ++ new) ∧ (Clo A F0 → new = []) := ⟨_, rfl⟩
      refine T_for (fun r ρ s' => ∃ (o5 o6 : Option D) (dA rA : List Pr) (new : List Int), r = pL rA ∧ A = dA ++ rA ∧ ρ = [some (dia N A B), some (.tup (iL g)), some (.tup (iL (allv m))), some (.loc k), some (.int z), o5, o6, none] ∧ s'.get k = some (.lst (iL (F0 ++ new))) ∧ Ex s s' ∧ IN dA new) (fun _ _ _ _ => rfl) ?_ ?_ _ _ _
        ⟨o5, o6, [], A, [], rfl, rfl, rfl, by simpa using k2, x2, ?_⟩
      · rintro v r ρ s3 ⟨o5, o6, dA, rA, new, hrA, hA2, rfl, k3, x3, hIN⟩
        cases rA with
        | nil => cases hrA
        | cons p rA =>
          obtain ⟨rfl, rfl⟩ := List.cons.inj (show v :: r = prD p :: pL rA from hrA)
          have pA : p ∈ A := by rw [hA2]; simp
          rw [eIN] at hIN
          obtain ⟨i1, i2, i3, i4⟩ := hIN
          have lF : (F0 ++ new).length ≤ m := by
            have := nodup_sub_len (U := allv m) i1 fun v hv => allv_mem.mpr (i2 v hv)
            simpa using this
          refine ⟨_, rfl, ?_⟩
          have mw : p.1 ∈ allv m := allv_mem.mpr (ar p pA)
          have keep : (p.2 ∈ F0 ++ new → p.1 ∈ F0 ++ new) → IN (dA ++ [p]) new := fun hk => by
            rw [eIN]
            refine ⟨i1, i2, fun q hq h2 => ?_, i4⟩
            rcases List.mem_append.mp hq with hq | hq
            · exact i3 q hq h2
            · rw [List.mem_singleton.mp hq] at h2 ⊢
              exact hk (List.mem_append.mpr (.inl h2))
          simp [isIn_lints k3, mw]
          by_cases h2 : p.2 ∈ F0 ++ new
          · have h2' : p.2 ∈ F0 ∨ p.2 ∈ new := List.mem_append.mp h2
            simp only [h2', if_true]
            by_cases h3 : p.1 ∈ F0 ++ new
            · have h3' : ¬ (¬ p.1 ∈ F0 ∧ ¬ p.1 ∈ new) := fun h => (List.mem_append.mp h3).elim h.1 h.2
              rw [if_neg h3']
              exact ⟨_, _, dA ++ [p], rA, rfl, by simp [hA2], ⟨rfl, rfl⟩, new, k3, x3, keep fun _ => h3⟩
            · have h3' : ¬ p.1 ∈ F0 ∧ ¬ p.1 ∈ new := ⟨fun h => h3 (List.mem_append.mpr (.inl h)), fun h => h3 (List.mem_append.mpr (.inr h))⟩
              rw [if_pos h3', T_isL k3, T_app k3 (by rw [ints_len]; omega)]
              refine ⟨_, _, dA ++ [p], rA, rfl, by simp [hA2], ⟨rfl, rfl⟩, new ++ [p.1], ?_, x3.put sk _, ?_⟩
              · rw [get_put_self k3]; simp [iL]
              · rw [eIN]
                refine ⟨?_, fun v hv => ?_, fun q hq h4 => ?_, fun hc => ?_⟩
                · rw [← List.append_assoc]
                  exact List.nodup_append.mpr ⟨i1, by simp, fun a ha b hb e => h3 (by rw [List.mem_singleton.mp hb] at e; exact e ▸ ha)⟩
                · rw [← List.append_assoc] at hv
                  rcases List.mem_append.mp hv with hv | hv
                  · exact i2 v hv
                  · rw [List.mem_singleton.mp hv]; exact ar p pA
                · rw [← List.append_assoc]
                  rcases List.mem_append.mp hq with hq | hq
                  · exact List.mem_append.mpr (.inl (i3 q hq h4))
                  · rw [List.mem_singleton.mp hq]; simp
                · exfalso
                  have := i4 hc
                  subst this
                  rw [List.append_nil] at h2 h3
                  exact h3 (hc p pA h2)
          · have h2' : ¬ (p.2 ∈ F0 ∨ p.2 ∈ new) := fun h => h2 (List.mem_append.mpr h)
            simp only [h2', if_false]
            refine ⟨_, _, dA ++ [p], rA, rfl, by simp [hA2], ⟨rfl, rfl⟩, new, k3, x3, keep fun h => absurd h h2⟩
      · rintro ρ s3 ⟨o5, o6, dA, rA, new, hrA, hA2, rfl, k3, x3, hIN⟩
        have hrA : rA = [] := by
          cases rA with
          | nil => rfl
          | cons _ _ => cases hrA
        subst hrA
        simp at hA2
        subst hA2
        rw [eIN] at hIN
        obtain ⟨i1, i2, i3, i4⟩ := hIN
        simp
        refine ⟨_, _, _, pre ++ [z], rest, rfl, by simp [hall], ⟨rfl, rfl, rfl⟩, F0 ++ new, k3, x3, ?_⟩
        rw [eOK] at hOK ⊢
        obtain ⟨h1, h2, h3, h4⟩ := hOK
        refine ⟨i1, i2, fun v hv => List.mem_append.mpr (.inl (h3 v hv)), ?_⟩
        by_cases hn : new = []
        · subst hn
          left
          rw [List.append_nil] at i3 ⊢
          exact i3
        · rcases h4 with h4 | h4
          · exact absurd (i4 h4) hn
          · right
            have := List.length_pos_iff.mpr hn
            simp
            omega
      · rw [eOK] at hOK
        rw [eIN]
        exact ⟨by simpa using hOK.1, by simpa using hOK.2.1, by simp, fun _ => rfl⟩
  · rintro ρ s2 ⟨o4, o5, o6, pre, rest, F, hr2, hall, rfl, k2, x2, hOK⟩
    have hr2 : rest = [] := by
      cases rest with
      | nil => rfl
      | cons _ _ => cases hr2
    subst hr2
    have hpl : pre.length = m := by
      have := congrArg List.length hall
      simp at this
      omega
    have lF := lenOK hOK
    rw [eOK] at hOK
    obtain ⟨h1, h2, h3, h4⟩ := hOK
    simp
    rw [T_sortL k2 (by omega), tuple_loc (get_push_self _ _)]
    simp
    refine hQ _ _ ⟨isort F, rfl, x2.trans (Ex.push _ _), fun v hv => isort_mem.mpr ?_⟩
    have hc : Clo A F := h4.elim (fun h => h) fun h => by omega
    induction hv with
    | base h => exact h3 _ h
    | step _ h _ _ ih => exact hc _ h ih
  · rw [eOK]
    refine ⟨nd, hr, fun _ h => h, ?_⟩
    cases g with
    | nil => exact .inl fun p _ h => by cases h
    | cons a b => right; simp
end EV

/-! QmA: open walks and the rows of neighbours (own work). -/
namespace EV
inductive Mark where | gt | lt | eq
  deriving DecidableEq
section
variable (A B : Int → Int → Prop)
/-- a step -/
def Stp : Mark → Int → Int → Prop
  | .gt, u, v => A u v
  | .lt, u, v => A v u
  | .eq, u, v => B u v ∨ B v u
def far : Mark → Nat
  | .lt => 1
  | _ => 2
inductive An (Z : Int → Prop) : Int → Prop
  | base {v : Int} : Z v → An Z v
  | up {v w : Int} : An Z w → A v w → An Z v
/-- a walk goes on -/
def Go (Z : Int → Prop) (i : Nat) (m : Mark) (v : Int) : Prop := i = 0 ∨ (i = 2 ∧ m ≠ .gt ∧ An A Z v) ∨ (¬ (i = 2 ∧ m ≠ .gt) ∧ ¬ Z v)
inductive Rw (X Z : Int → Prop) : Int → Nat → Prop
  | base {v : Int} : X v → Rw X Z v 0
  | step {v w : Int} {i : Nat} {m : Mark} : Rw X Z v i → Stp A B m v w → Go A Z i m v → Rw X Z w (far m)
/-- an open walk -/
def Conn (X Y Z : Int → Prop) : Prop := ∃ v i m w, Rw A B X Z v i ∧ Stp A B m v w ∧ Go A Z i m v ∧ Y w
/-- the rest of an open walk -/
inductive Co (Y Z : Int → Prop) : Int → Nat → Prop
  | fin {v w : Int} {i : Nat} {m : Mark} : Stp A B m v w → Go A Z i m v → Y w → Co Y Z v i
  | step {v w : Int} {i : Nat} {m : Mark} : Stp A B m v w → Go A Z i m v → Co Y Z w (far m) → Co Y Z v i
inductive Hd (U : Int → Prop) (n : Int) : Int → Prop
  | base {h : Int} : U h → A n h ∨ B n h ∨ B h n → Hd U n h
  | step {h k : Int} : Hd U n h → B h k ∨ B k h → U k → Hd U n k
def Near (U : Int → Prop) (n w : Int) : Prop := w ≠ n ∧ U w ∧ (Hd A B U n w ∨ A w n ∨ ∃ h, Hd A B U n h ∧ A w h)
/-- come to over neighbours -/
inductive Mr (U X Z : Int → Prop) : Int → Prop
  | base {v : Int} : X v → Mr U X Z v
  | step {v w : Int} : Mr U X Z v → Near A B U v w → ¬ Z w → Mr U X Z w
end
section
variable {A B : Int → Int → Prop} {X Y Z U : Int → Prop}
theorem An.mono {Z' : Int → Prop} {v : Int} (h : An A Z v) (hz : ∀ v, Z v → Z' v) : An A Z' v := by
  induction h with
  | base h => exact .base (hz _ h)
  | up _ e ih => exact .up ih e
theorem An.or {v : Int} (h : An A (fun v => X v ∨ Y v) v) : An A X v ∨ An A Y v := by
  induction h with
  | base h => exact h.imp .base .base
  | up _ e ih => exact ih.imp (fun z => .up z e) fun z => .up z e
theorem far_cases (m : Mark) : far m = 1 ∨ far m = 2 := by cases m <;> simp [far]
theorem Rw.conn {v : Int} {i : Nat} (h : Rw A B X Z v i) (hy : Y v) (xy : ∀ v, X v → ¬ Y v) : Conn A B X Y Z := by
  cases h with
  | base h => exact absurd hy (xy _ h)
  | step h1 h2 h3 => exact ⟨_, _, _, _, h1, h2, h3, hy⟩
theorem Rw.state {v : Int} {i : Nat} (h : Rw A B X Z v i) : i = 0 ∧ X v ∨ i = 1 ∨ i = 2 := by
  cases h with
  | base h => exact .inl ⟨rfl, h⟩
  | step h1 h2 h3 => exact .inr (far_cases _)
theorem rw_down {v : Int} (ha : An A Y v) (xy : ∀ v, X v → ¬ Y v) : ∀ {i : Nat}, Rw A B X Z v i → ¬ An A Z v → Conn A B X Y Z := by
  induction ha with
  | base h => exact fun r _ => r.conn h xy
  | @up v w hw e ih =>
    intro i r nz
    exact ih (Rw.step (m := .gt) r e (.inr (.inr ⟨fun z => z.2 rfl, fun z => nz (.base z)⟩))) fun z => nz (.up z e)
theorem rw_up {v : Int} (ha : An A X v) (nz : ¬ An A Z v) : ∃ j, (j = 0 ∨ j = 1) ∧ Rw A B X Z v j := by
  induction ha with
  | base h => exact ⟨0, .inl rfl, .base h⟩
  | @up v w hw e ih =>
    have nw : ¬ An A Z w := fun z => nz (.up z e)
    obtain ⟨j, hj, r⟩ := ih nw
    refine ⟨1, .inr rfl, Rw.step (m := .lt) r e ?_⟩
    exact .inr (.inr ⟨fun z => by omega, fun z => nw (.base z)⟩)
/-- from within the area a walk may go on with any mark, or it ends -/
theorem rw_free {v : Int} {i : Nat} (r : Rw A B X Z v i) (hv : An A (fun v => (X v ∨ Y v) ∨ Z v) v) (nz : ¬ Z v) (xy : ∀ v, X v → ¬ Y v) : Conn A B X Y Z ∨ ∃ j, Rw A B X Z v j ∧ ∀ m, Go A Z j m v := by
  by_cases hz : An A Z v
  · refine .inr ⟨i, r, fun m => ?_⟩
    by_cases hc : i = 2 ∧ m ≠ .gt
    · exact .inr (.inl ⟨hc.1, hc.2, hz⟩)
    · exact .inr (.inr ⟨hc, nz⟩)
  · rcases hv.or with h | h
    · rcases h.or with h | h
      · obtain ⟨j, hj, r⟩ := rw_up (B := B) h hz
        exact .inr ⟨j, r, fun m => .inr (.inr ⟨fun z => by omega, nz⟩)⟩
      · exact .inl (rw_down h xy r hz)
    · exact absurd h hz
/-- at a head of the area a walk may go on with any head -/
theorem rw_head {v : Int} (r : Rw A B X Z v 2) (hv : An A (fun v => (X v ∨ Y v) ∨ Z v) v) (xy : ∀ v, X v → ¬ Y v) : Conn A B X Y Z ∨ ∃ j, Rw A B X Z v j ∧ ∀ m, m ≠ .gt → Go A Z j m v := by
  by_cases hz : An A Z v
  · exact .inr ⟨2, r, fun m hm => .inr (.inl ⟨rfl, hm, hz⟩)⟩
  · rcases rw_free r hv (fun z => hz (.base z)) xy with h | ⟨j, h1, h2⟩
    · exact .inl h
    · exact .inr ⟨j, h1, fun m _ => h2 m⟩
theorem hd_area {n h : Int} (x : Hd A B U n h) : U h := by
  cases x with
  | base h _ => exact h
  | step _ _ h => exact h
theorem rw_hd {n h : Int} {i : Nat} (r : Rw A B X Z n i) (g : ∀ m, Go A Z i m n) (x : Hd A B (An A fun v => (X v ∨ Y v) ∨ Z v) n h) (xy : ∀ v, X v → ¬ Y v) : Conn A B X Y Z ∨ Rw A B X Z h 2 := by
  induction x with
  | base _ h =>
    rcases h with h | h
    · exact .inr (Rw.step (m := .gt) r h (g _))
    · exact .inr (Rw.step (m := .eq) r h (g _))
  | step hh e _ ih =>
    rcases ih with h | r2
    · exact .inl h
    · rcases rw_head r2 (hd_area hh) xy with h | ⟨j, h1, h2⟩
      · exact .inl h
      · exact .inr (Rw.step (m := .eq) h1 e (h2 _ (by decide)))
theorem mr_nz {v : Int} (h : Mr A B U X Z v) (xz : ∀ v, X v → ¬ Z v) : ¬ Z v := by
  cases h with
  | base h => exact xz _ h
  | step _ _ h => exact h
theorem mr_rw {w : Int} (h : Mr A B (An A fun v => (X v ∨ Y v) ∨ Z v) X Z w) (xy : ∀ v, X v → ¬ Y v) (xz : ∀ v, X v → ¬ Z v) : An A (fun v => (X v ∨ Y v) ∨ Z v) w ∧ (Conn A B X Y Z ∨ ∃ i, Rw A B X Z w i) := by
  induction h with
  | base h => exact ⟨.base (.inl (.inl h)), .inr ⟨0, .base h⟩⟩
  | @step v w hv nr nz ih =>
    obtain ⟨av, ih⟩ := ih
    obtain ⟨_, aw, nr⟩ := nr
    refine ⟨aw, ?_⟩
    rcases ih with h | ⟨i, r⟩
    · exact .inl h
    rcases rw_free r av (mr_nz hv xz) xy with h | ⟨j, r, g⟩
    · exact .inl h
    rcases nr with nr | nr | ⟨h, nr, e⟩
    · exact (rw_hd r g nr xy).imp (fun z => z) fun z => ⟨2, z⟩
    · exact .inr ⟨1, Rw.step (m := .lt) r nr (g _)⟩
    · rcases rw_hd r g nr xy with z | r2
      · exact .inl z
      · rcases rw_head r2 (hd_area nr) xy with z | ⟨k, r3, g3⟩
        · exact .inl z
        · exact .inr ⟨1, Rw.step (m := .lt) r3 e (g3 _ (by decide))⟩
/-! the other way -/
theorem co_up {w : Int} {i : Nat} (h : Co A B Y Z w i) : i = 2 → An A (fun v => (X v ∨ Y v) ∨ Z v) w := by
  have key : ∀ {v : Int} {i : Nat} {m : Mark}, Go A Z i m v → i = 2 → m ≠ .gt → An A (fun v => (X v ∨ Y v) ∨ Z v) v := fun {v i m} g hi hm => by
    rcases g with g | ⟨_, _, g⟩ | ⟨g, _⟩
    · omega
    · exact g.mono fun _ h => .inr h
    · exact absurd ⟨hi, hm⟩ g
  induction h with
  | @fin v w i m e g hy =>
    intro hi
    cases m with
    | gt => exact .up (.base (.inl (.inr hy))) e
    | lt => exact key g hi (by decide)
    | eq => exact key g hi (by decide)
  | @step v w i m e g c ih =>
    intro hi
    cases m with
    | gt => exact .up (ih rfl) e
    | lt => exact key g hi (by decide)
    | eq => exact key g hi (by decide)
theorem rw_one {v : Int} {i : Nat} (h : Rw A B X Z v i) : i = 1 → An A (fun v => (X v ∨ Y v) ∨ Z v) v := by
  induction h with
  | base h => intro e; cases e
  | @step v w i m r e g ih =>
    intro hi
    cases m with
    | gt => cases hi
    | eq => cases hi
    | lt =>
      have e : A w v := e
      rcases r.state with ⟨rfl, hx⟩ | rfl | rfl
      · exact .up (.base (.inl (.inl hx))) e
      · exact .up (ih rfl) e
      · rcases g with g | ⟨_, _, g⟩ | ⟨g, _⟩
        · omega
        · exact .up (g.mono fun _ h => .inr h) e
        · exact absurd ⟨rfl, by decide⟩ g
theorem both_area {v : Int} {i : Nat} (r : Rw A B X Z v i) (c : Co A B Y Z v i) : An A (fun v => (X v ∨ Y v) ∨ Z v) v := by
  rcases r.state with ⟨_, hx⟩ | hi | hi
  · exact .base (.inl (.inl hx))
  · exact rw_one r hi
  · exact co_up c hi
/-- what is known behind a walk -/
def Jn (A B : Int → Int → Prop) (U X Z : Int → Prop) (v : Int) (i : Nat) : Prop := (i = 0 ∧ Mr A B U X Z v) ∨ (i = 1 ∧ (¬ Z v → Mr A B U X Z v)) ∨ (i = 2 ∧ ∃ n, Mr A B U X Z n ∧ Hd A B U n v)
theorem jn_step {v w : Int} {i : Nat} {m : Mark} (j : Jn A B U X Z v i) (e : Stp A B m v w) (g : Go A Z i m v) (uv : U v) (uw : U w) : Jn A B U X Z w (far m) := by
  have from_ : Mr A B U X Z v → Jn A B U X Z w (far m) := fun hv => by
    cases m with
    | gt => exact .inr (.inr ⟨rfl, v, hv, .base uw (.inl e)⟩)
    | eq => exact .inr (.inr ⟨rfl, v, hv, .base uw (.inr e)⟩)
    | lt =>
      refine .inr (.inl ⟨rfl, fun nz => ?_⟩)
      by_cases he : w = v
      · rw [he]; exact hv
      · exact .step hv ⟨he, uw, .inr (.inl e)⟩ nz
  rcases j with ⟨_, hv⟩ | ⟨rfl, hv⟩ | ⟨rfl, n, hn, hh⟩
  · exact from_ hv
  · refine from_ (hv ?_)
    rcases g with g | ⟨g, _⟩ | ⟨_, g⟩
    · omega
    · omega
    · exact g
  · cases m with
    | gt =>
      have nz : ¬ Z v := by
        rcases g with g | ⟨_, g, _⟩ | ⟨_, g⟩
        · omega
        · exact absurd rfl g
        · exact g
      refine from_ ?_
      by_cases he : v = n
      · rw [he]; exact hn
      · exact .step hn ⟨he, uv, .inl hh⟩ nz
    | eq => exact .inr (.inr ⟨rfl, n, hn, .step hh e uw⟩)
    | lt =>
      refine .inr (.inl ⟨rfl, fun nz => ?_⟩)
      by_cases he : w = n
      · rw [he]; exact hn
      · exact .step hn ⟨he, uw, .inr (.inr ⟨v, hh, e⟩)⟩ nz
theorem rw_jn {v : Int} {i : Nat} (r : Rw A B X Z v i) : Co A B Y Z v i → Jn A B (An A fun v => (X v ∨ Y v) ∨ Z v) X Z v i := by
  induction r with
  | base h => exact fun _ => .inl ⟨rfl, .base h⟩
  | @step v w i m r e g ih =>
    intro c
    have cv : Co A B Y Z v i := .step e g c
    exact jn_step (ih cv) e g (both_area r cv) (both_area (.step r e g) c)
theorem conn_mr (xy : ∀ v, X v → ¬ Y v) (xz : ∀ v, X v → ¬ Z v) (yz : ∀ v, Y v → ¬ Z v) : Conn A B X Y Z ↔ ∃ w, Y w ∧ Mr A B (An A fun v => (X v ∨ Y v) ∨ Z v) X Z w := by
  constructor
  · rintro ⟨v, i, m, w, r, e, g, hy⟩
    have cv : Co A B Y Z v i := .fin e g hy
    have uw : An A (fun v => (X v ∨ Y v) ∨ Z v) w := .base (.inl (.inr hy))
    refine ⟨w, hy, ?_⟩
    rcases jn_step (rw_jn r cv) e g (both_area r cv) uw with ⟨_, h⟩ | ⟨_, h⟩ | ⟨_, n, hn, hh⟩
    · exact h
    · exact h (yz w hy)
    · by_cases he : w = n
      · rw [he]; exact hn
      · exact .step hn ⟨he, uw, .inl hh⟩ (yz w hy)
  · rintro ⟨w, hy, h⟩
    rcases (mr_rw h xy xz).2 with h | ⟨i, r⟩
    · exact h
    · exact r.conn hy xy
/-! ### what apart says of apart -/
theorem go_to {Z Z' : Int → Prop} {i : Nat} {m : Mark} {v : Int} (g : Go A Z i m v) (h1 : An A Z v → An A Z' v) (h2 : ¬ Z v → ¬ Z' v) : Go A Z' i m v := by
  rcases g with g | ⟨g1, g2, g3⟩ | ⟨g1, g2⟩
  · exact .inl g
  · exact .inr (.inl ⟨g1, g2, h1 g3⟩)
  · exact .inr (.inr ⟨g1, h2 g2⟩)
theorem Conn.or {W : Int → Prop} : Conn A B X (fun v => Y v ∨ W v) Z ↔ Conn A B X Y Z ∨ Conn A B X W Z := by
  constructor
  · rintro ⟨v, i, m, w, r, e, g, hy⟩
    exact hy.imp (fun h => ⟨v, i, m, w, r, e, g, h⟩) fun h => ⟨v, i, m, w, r, e, g, h⟩
  · rintro (⟨v, i, m, w, r, e, g, h⟩ | ⟨v, i, m, w, r, e, g, h⟩)
    · exact ⟨v, i, m, w, r, e, g, .inl h⟩
    · exact ⟨v, i, m, w, r, e, g, .inr h⟩
theorem Conn.mono {X' Y' Z' : Int → Prop} (h : Conn A B X Y Z) (hx : ∀ v, X v ↔ X' v) (hy : ∀ v, Y v ↔ Y' v) (hz : ∀ v, Z v ↔ Z' v) : Conn A B X' Y' Z' := by
  obtain rfl : X = X' := funext fun v => propext (hx v)
  obtain rfl : Y = Y' := funext fun v => propext (hy v)
  obtain rfl : Z = Z' := funext fun v => propext (hz v)
  exact h
/-- less given -/
theorem rw_less {W : Int → Prop} (xw : ∀ v, X v → ¬ W v) {v : Int} {i : Nat} (r : Rw A B X (fun v => Z v ∨ W v) v i) : Conn A B X W Z ∨ Rw A B X Z v i := by
  induction r with
  | base h => exact .inr (.base h)
  | @step v w i m r e g ih =>
    rcases ih with h | r0
    · exact .inl h
    by_cases hz : An A W v ∧ ¬ An A Z v
    · exact .inl (rw_down hz.1 xw r0 hz.2)
    · refine .inr (.step r0 e (go_to g (fun h => ?_) fun h z => h (.inl z)))
      rcases h.or with h | h
      · exact h
      · exact Classical.byContradiction fun z => hz ⟨h, z⟩
theorem conn_less {W : Int → Prop} (xw : ∀ v, X v → ¬ W v) (h : Conn A B X Y (fun v => Z v ∨ W v)) : Conn A B X Y Z ∨ Conn A B X W Z := by
  obtain ⟨v, i, m, w, r, e, g, hy⟩ := h
  rcases rw_less xw r with h | r0
  · exact .inr h
  by_cases hz : An A W v ∧ ¬ An A Z v
  · exact .inr (rw_down hz.1 xw r0 hz.2)
  · refine .inl ⟨v, i, m, w, r0, e, go_to g (fun h => ?_) (fun h z => h (.inl z)), hy⟩
    rcases h.or with h | h
    · exact h
    · exact Classical.byContradiction fun z => hz ⟨h, z⟩
/-- more given -/
theorem rw_more {W : Int → Prop} (xw : ∀ v, X v → ¬ W v) {v : Int} {i : Nat} (r : Rw A B X Z v i) : Conn A B X W Z ∨ (¬ W v ∧ Rw A B X (fun v => Z v ∨ W v) v i) := by
  induction r with
  | base h => exact .inr ⟨xw _ h, .base h⟩
  | @step v w i m r e g ih =>
    rcases ih with h | ⟨nw, r0⟩
    · exact .inl h
    by_cases hw : W w
    · exact .inl ⟨v, i, m, w, r, e, g, hw⟩
    · exact .inr ⟨hw, .step r0 e (go_to g (fun h => h.mono fun _ z => .inl z) fun h z => z.elim h nw)⟩
theorem conn_more {W : Int → Prop} (xw : ∀ v, X v → ¬ W v) (h : Conn A B X Y Z) : Conn A B X Y (fun v => Z v ∨ W v) ∨ Conn A B X W Z := by
  obtain ⟨v, i, m, w, r, e, g, hy⟩ := h
  rcases rw_more xw r with h | ⟨nw, r0⟩
  · exact .inr h
  · exact .inl ⟨v, i, m, w, r0, e, go_to g (fun h => h.mono fun _ z => .inl z) (fun h z => z.elim h nw), hy⟩
theorem rw_both {W : Int → Prop} (xy : ∀ v, X v → ¬ Y v) (xw : ∀ v, X v → ¬ W v) {v : Int} {i : Nat} (r : Rw A B X Z v i) :
    (Conn A B X Y (fun v => Z v ∨ W v) ∨ Conn A B X W (fun v => Z v ∨ Y v)) ∨ (¬ Y v ∧ ¬ W v ∧ Rw A B X (fun v => Z v ∨ W v) v i ∧ Rw A B X (fun v => Z v ∨ Y v) v i) := by
  induction r with
  | base h => exact .inr ⟨xy _ h, xw _ h, .base h, .base h⟩
  | @step v w i m r e g ih =>
    rcases ih with h | ⟨ny, nw, r1, r2⟩
    · exact .inl h
    have g1 : Go A (fun v => Z v ∨ W v) i m v := go_to g (fun h => h.mono fun _ z => .inl z) fun h z => z.elim h nw
    have g2 : Go A (fun v => Z v ∨ Y v) i m v := go_to g (fun h => h.mono fun _ z => .inl z) fun h z => z.elim h ny
    by_cases hy : Y w
    · exact .inl (.inl ⟨v, i, m, w, r1, e, g1, hy⟩)
    by_cases hw : W w
    · exact .inl (.inr ⟨v, i, m, w, r2, e, g2, hw⟩)
    · exact .inr ⟨hy, hw, .step r1 e g1, .step r2 e g2⟩
theorem conn_both {W : Int → Prop} (xy : ∀ v, X v → ¬ Y v) (xw : ∀ v, X v → ¬ W v) (h : Conn A B X Y Z) : Conn A B X Y (fun v => Z v ∨ W v) ∨ Conn A B X W (fun v => Z v ∨ Y v) := by
  obtain ⟨v, i, m, w, r, e, g, hy⟩ := h
  rcases rw_both xy xw r with h | ⟨ny, nw, r1, r2⟩
  · exact h
  · exact .inl ⟨v, i, m, w, r1, e, go_to g (fun h => h.mono fun _ z => .inl z) (fun h z => z.elim h nw), hy⟩
/-- the four ways -/
theorem apart_four {W : Int → Prop} (xy : ∀ v, X v → ¬ Y v) (xw : ∀ v, X v → ¬ W v) :
    (Conn A B X (fun v => Y v ∨ W v) Z ↔ (Conn A B X Y Z ∨ Conn A B X W Z)) ∧ (Conn A B X (fun v => Y v ∨ W v) Z ↔ (Conn A B X Y (fun v => Z v ∨ W v) ∨ Conn A B X W (fun v => Z v ∨ Y v))) ∧
    (Conn A B X (fun v => Y v ∨ W v) Z ↔ (Conn A B X Y (fun v => Z v ∨ W v) ∨ Conn A B X W Z)) ∧ (Conn A B X (fun v => Y v ∨ W v) Z ↔ (Conn A B X W (fun v => Z v ∨ Y v) ∨ Conn A B X Y Z)) := by
  refine ⟨Conn.or, ?_, ?_, ?_⟩
  · rw [Conn.or]
    constructor
    · rintro (h | h)
      · exact conn_both xy xw h
      · exact (conn_both xw xy h).symm
    · rintro (h | h)
      · exact conn_less xw h
      · exact (conn_less xy h).symm
  · rw [Conn.or]
    constructor
    · rintro (h | h)
      · exact conn_more xw h
      · exact .inr h
    · rintro (h | h)
      · exact conn_less xw h
      · exact .inr h
  · rw [Conn.or]
    constructor
    · rintro (h | h)
      · exact .inr h
      · exact conn_more xy h
    · rintro (h | h)
      · exact (conn_less xy h).symm
      · exact .inl h
/-- two and a third one -/
theorem rw_first {t : Int} (xt : ∀ v, X v → v ≠ t) {v : Int} {i : Nat} (r : Rw A B X Z v i) : (∃ j, Rw A B X Z t j ∧ Rw A B X (fun v => Z v ∨ v = t) t j) ∨ (v ≠ t ∧ Rw A B X (fun v => Z v ∨ v = t) v i) := by
  induction r with
  | base h => exact .inr ⟨xt _ h, .base h⟩
  | @step v w i m r e g ih =>
    rcases ih with h | ⟨nt, r0⟩
    · exact .inl h
    have r1 : Rw A B X (fun v => Z v ∨ v = t) w (far m) := .step r0 e (go_to g (fun h => h.mono fun _ z => .inl z) fun h z => z.elim h nt)
    by_cases hw : w = t
    · subst hw
      exact .inl ⟨_, .step r e g, r1⟩
    · exact .inr ⟨hw, r1⟩
theorem conn_weak {t : Int} (xt : ∀ v, X v → v ≠ t) (zt : ¬ Z t) (yt : ¬ Y t) (h1 : Conn A B X (fun v => v = t) Z) (h2 : Conn A B (fun v => v = t) Y Z) : Conn A B X Y Z ∨ Conn A B X Y (fun v => Z v ∨ v = t) := by
  obtain ⟨j, p1, p2⟩ : ∃ j, Rw A B X Z t j ∧ Rw A B X (fun v => Z v ∨ v = t) t j := by
    obtain ⟨v, i, m, w, r, e, g, rfl⟩ := h1
    rcases rw_first xt (.step r e g) with h | ⟨nt, _⟩
    · exact h
    · exact absurd rfl nt
  have step : ∀ {v w : Int} {i : Nat} {m : Mark}, (v = t ∨ Rw A B X Z v i ∨ (v ≠ t ∧ Rw A B X (fun v => Z v ∨ v = t) v i)) → Stp A B m v w → Go A Z i m v → (∃ k, Rw A B X Z v k ∧ Go A Z k m v) ∨ ∃ k, Rw A B X (fun v => Z v ∨ v = t) v k ∧ Go A (fun v => Z v ∨ v = t) k m v := fun {v w i m} h e g => by
    rcases h with rfl | h | ⟨nt, h⟩
    · by_cases hc : j = 2 ∧ m ≠ .gt
      · exact .inr ⟨j, p2, .inr (.inl ⟨hc.1, hc.2, .base (.inr rfl)⟩)⟩
      · exact .inl ⟨j, p1, .inr (.inr ⟨hc, zt⟩)⟩
    · exact .inl ⟨i, h, g⟩
    · exact .inr ⟨i, h, go_to g (fun h => h.mono fun _ z => .inl z) fun h z => z.elim h nt⟩
  have all : ∀ {v : Int} {i : Nat}, Rw A B (fun v => v = t) Z v i → v = t ∨ Rw A B X Z v i ∨ (v ≠ t ∧ Rw A B X (fun v => Z v ∨ v = t) v i) := fun {v i} r => by
    induction r with
    | base h => exact .inl h
    | @step v w i m r e g ih =>
      rcases step ih e g with ⟨k, r1, g1⟩ | ⟨k, r1, g1⟩
      · exact .inr (.inl (.step r1 e g1))
      · by_cases hw : w = t
        · exact .inl hw
        · exact .inr (.inr ⟨hw, .step r1 e g1⟩)
  obtain ⟨v, i, m, w, r, e, g, hy⟩ := h2
  rcases step (all r) e g with ⟨k, r1, g1⟩ | ⟨k, r1, g1⟩
  · exact .inl ⟨v, k, m, w, r1, e, g1, hy⟩
  · exact .inr ⟨v, k, m, w, r1, e, g1, hy⟩
end
end EV
/-! QvA: parents, above, steps (own work). -/
namespace EV
open PySem (Str PyData)
/-! ### sorted sets -/
section
variable {α : Type} {tests : Env → Sto → M Bool} {elt : Env → Sto → M D} {t : Tg} {g : Option (Nat × List D)} {ρ : Env}
theorem T_siP {Q : Unit → Sto → Prop} {enc : α → D} (s0 : Sto) (P : α → Bool) (F : α → Int) (U : List Int) (hU : U.length ≤ 50) (st : ∀ acc, still g (s0.push (.iset acc)) = true) : ∀ (l : List α) (acc : List Int),
    (∀ x ∈ l, F x ∈ U ∧ ∃ ρ', asg t (enc x) ρ = some ρ' ∧ ∀ s, T (tests ρ' s) fun b s1 => b = P x ∧ s1 = s ∧ T (elt ρ' s) fun d s2 => d = .int (F x) ∧ s2 = s) →
    acc.Nodup → (∀ k ∈ acc, k ∈ U) → (∀ acc', acc'.Nodup → acc'.length ≤ 50 → (∀ k, k ∈ acc' ↔ k ∈ acc ∨ ∃ x ∈ l, P x = true ∧ F x = k) → Q () (s0.push (.iset acc'))) → T (siGo tests elt t g ρ s0.nxt (l.map enc) (s0.push (.iset acc))) Q
  | [], acc, _, nd, sub, q => by
    simp only [List.map_nil, siGo, stillM, st, if_true, T_ok]
    exact q acc nd (Nat.le_trans (nodup_sub_len nd sub) hU) fun k => by simp
  | x :: r, acc, hx, nd, sub, q => by
    obtain ⟨hF, ρ', e, h2⟩ := hx x List.mem_cons_self
    have hl := Nat.le_trans (nodup_sub_len nd sub) hU
    simp only [List.map_cons, siGo, T_bind, turnM, st, if_true, e, T_osome, T_ite]
    refine (h2 _).mono fun b s1 h3 => ?_
    obtain ⟨rfl, rfl, h5⟩ := h3
    cases hp : P x with
    | false =>
      simp only [Bool.false_eq_true, if_false]
      refine T_siP s0 P F U hU st r acc (fun y hy => hx y (List.mem_cons_of_mem _ hy)) nd sub fun acc' a1 a2 a3 => q acc' a1 a2 fun k => ?_
      rw [a3 k]
      constructor
      · rintro (h | ⟨y, h1, h2, h3⟩)
        · exact .inl h
        · exact .inr ⟨y, List.mem_cons_of_mem _ h1, h2, h3⟩
      · rintro (h | ⟨y, h1, h2', h3⟩)
        · exact .inl h
        · rcases List.mem_cons.mp h1 with rfl | h1
          · rw [hp] at h2'; cases h2'
          · exact .inr ⟨y, h1, h2', h3⟩
    | true =>
      simp only [if_true]
      refine h5.mono fun d s2 h6 => ?_
      obtain ⟨rfl, rfl⟩ := h6
      have : acc.length < 60 := by omega
      simp only [addI, get_push_self, this, if_true, T_ok, put_push_self]
      obtain ⟨acc2, e2⟩ : ∃ acc2, acc2 = (if F x ∈ acc then acc else F x :: acc) := ⟨_, rfl⟩
      rw [← e2]
      have m2 : ∀ k, k ∈ acc2 ↔ k ∈ acc ∨ F x = k := fun k => by
        rw [e2]
        by_cases hm : F x ∈ acc
        · rw [if_pos hm]
          exact ⟨.inl, fun h => h.elim id fun h => h ▸ hm⟩
        · rw [if_neg hm, List.mem_cons]
          exact ⟨fun h => h.elim (fun h => .inr h.symm) .inl, fun h => h.elim .inr fun h => .inl h.symm⟩
      have nd2 : acc2.Nodup := by
        rw [e2]
        by_cases hm : F x ∈ acc
        · rw [if_pos hm]; exact nd
        · rw [if_neg hm]; exact List.nodup_cons.mpr ⟨hm, nd⟩
      refine T_siP s0 P F U hU st r acc2 (fun y hy => hx y (List.mem_cons_of_mem _ hy)) nd2 (fun k hk => ((m2 k).mp hk).elim (sub k) fun h => h ▸ hF) fun acc' a1 a2 a3 => q acc' a1 a2 fun k => ?_
      rw [a3 k, m2 k]
      constructor
      · rintro ((h | h) | ⟨y, h1, h2, h3⟩)
        · exact .inl h
        · exact .inr ⟨x, List.mem_cons_self, hp, h⟩
        · exact .inr ⟨y, List.mem_cons_of_mem _ h1, h2, h3⟩
      · rintro (h | ⟨y, h1, h2, h3⟩)
        · exact .inl (.inl h)
        · rcases List.mem_cons.mp h1 with rfl | h1
          · exact .inl (.inr h3)
          · exact .inr ⟨y, h1, h2, h3⟩
end
theorem T_outI {s : Sto} {acc : List Int} {Q : D → Sto → Prop} (h : acc.length ≤ 50) : T (outI s.nxt (s.push (.iset acc))).up Q = Q (.loc (s.push (.iset acc)).nxt) ((s.push (.iset acc)).push (.lst (iL (isort acc)))) := by
  have h1 : acc.length < 64 := by omega
  simp only [outI, get_push_self, h1, if_true]
  rw [T_mkList (by rw [List.length_map]; show (isort acc).length ≤ _; rw [isort_len]; omega)]
  rfl
/-! ### parents -/
def arr (A : List Pr) (u v : Int) : Prop := (u, v) ∈ A
theorem T_parents (n : Nat) {con : List D} {s : Sto} {N : List Str} {A B : List Pr} {g : List Int} {m : Nat} (hm : m ≤ 50) (ar : ∀ p ∈ A, 0 ≤ p.1 ∧ p.1 < m) :
    T (runN con fns (n + 1) (.fn k_parents_so) [dia N A B, .tup (iL g)] s) fun v s' => Ex s s' ∧ ∃ L, v = .tup (iL L) ∧ L.Pairwise (· < ·) ∧ ∀ y, y ∈ L ↔ ∃ x ∈ g, (y, x) ∈ A := by
  refine T.post fun Q hQ => ?_
  rw [call_fn f_parents_so rfl]
  simp [b_parents_so, startE, dia]
  refine T_siP (enc := prD) s (fun p => decide (p.2 ∈ g)) (fun p => p.1) (allv m) (by simpa using hm) (fun _ => rfl) A [] (fun p hp => ⟨allv_mem.mpr (ar p hp), _, rfl, fun s1 => ?_⟩) List.nodup_nil (fun k hk => by cases hk) fun acc h1 h2 h3 => ?_
  · simp [wipe, noClo]
  · rw [T_outI h2, tuple_loc (get_push_self _ _)]
    simp
    refine hQ _ _ ⟨(Ex.push _ _).trans (Ex.push _ _), isort acc, rfl, isort_lt h1, fun y => ?_⟩
    rw [isort_mem, h3 y]
    constructor
    · rintro (h | ⟨p, p1, p2, p3⟩)
      · cases h
      · exact ⟨p.2, of_decide_eq_true p2, by rw [← p3]; exact p1⟩
    · rintro ⟨x, x1, x2⟩
      exact .inr ⟨(y, x), x2, decide_eq_true x1, rfl⟩
theorem nodup_dd : ∀ (n : Nat) (l : List Int), l.length ≤ n → l.eraseDups.Nodup
  | 0, [], _ => by simp
  | n + 1, [], _ => by simp
  | n + 1, x :: l, h => by
    rw [List.eraseDups_cons, List.nodup_cons]
    refine ⟨fun z => ?_, nodup_dd n _ ?_⟩
    · rw [List.mem_eraseDups] at z
      simp at z
    · have := List.length_filter_le (fun b => !(b == x)) l
      simp at h
      omega
/-- the parents of one -/
def upS (A : List Pr) (x : Int) : List Int := isort ((A.filter fun p => decide (p.2 = x)).map (·.1)).eraseDups
theorem upS_mem {A : List Pr} {x y : Int} : y ∈ upS A x ↔ (y, x) ∈ A := by
  unfold upS
  rw [isort_mem, List.mem_eraseDups, List.mem_map]
  constructor
  · rintro ⟨p, h1, h2⟩
    obtain ⟨h3, h4⟩ := List.mem_filter.mp h1
    have := of_decide_eq_true h4
    rw [← h2, ← this]
    exact h3
  · intro h
    exact ⟨(y, x), List.mem_filter.mpr ⟨h, decide_eq_true rfl⟩, rfl⟩
theorem upS_lt (A : List Pr) (x : Int) : (upS A x).Pairwise (· < ·) := isort_lt (nodup_dd _ _ (Nat.le_refl _))
theorem rch_an {A : List Pr} {g : List Int} {y : Int} : Rch (upS A) g y ↔ An (arr A) (· ∈ g) y := by
  constructor
  · intro h
    induction h with
    | base h => exact .base h
    | step _ h ih => exact .up ih (upS_mem.mp h)
  · intro h
    induction h with
    | base h => exact .base h
    | up _ e ih => exact .step ih (upS_mem.mpr e)
theorem T_above (n : Nat) {s : Sto} {N : List Str} {A B : List Pr} {g : List Int} {m : Nat} (hm : m ≤ 50) (ar : ∀ p ∈ A, 0 ≤ p.1 ∧ p.1 < m) (nd : g.Nodup) (hg : ∀ v ∈ g, 0 ≤ v ∧ v < m) :
    T (runN con4 fns (n + 4) (.fn k_above_so) [dia N A B, .tup (iL g)] s) fun v s' => Ex s s' ∧ ∃ L, v = .tup (iL L) ∧ L.Pairwise (· < ·) ∧ ∀ y, y ∈ L ↔ An (arr A) (· ∈ g) y := by
  refine T.post fun Q hQ => ?_
  rw [call_fn f_above_so rfl]
  simp [b_above_so, startE, dia]
  refine (T_spread (n := n + 2) (upS A) (allv m) (fun x s' hx ex => ?_) nd (fun x hx => allv_mem.mpr (hg x hx)) (fun x hx y hy => allv_mem.mpr (ar _ (upS_mem.mp hy))) (by simpa using (by omega : m ≤ 1000))).mono fun v s' ⟨ex, L, ev, h1, h2⟩ => ?_
  · rw [call_clo rfl]
    simp [keepOnly, noClo]
    refine (T_parents (n := n) (N := N) (B := B) (g := [x]) hm ar).mono fun v s'' ⟨ex2, L, ev, h1, h2⟩ => ?_
    have : L = upS A x := sorted_eq h1 (upS_lt A x) fun y => by rw [h2 y, upS_mem]; simp
    subst this
    exact ⟨ev, ex2⟩
  · subst ev
    exact hQ _ _ ⟨ex, L, rfl, h1, fun y => (h2 y).trans rch_an⟩
end EV
/-! QvB: steps (own work). -/
namespace EV
open PySem (Str PyData)
def mS : Mark → Str
  | .gt => gtS
  | .lt => ltS
  | .eq => eqS
theorem eqD_mS (a b : Mark) (s : Sto) : eqD (.str (mS a)) (.str (mS b)) s = some (decide (a = b)) := by
  have ok : ∀ a : Mark, ((mS a).cps.toList.all fun c => decide (c < 1114112)) = true := fun a => by cases a <;> decide
  rw [eqD_strL (ok a) (ok b)]
  cases a <;> cases b <;> decide
theorem okS (a : Mark) : ((mS a).cps.toList.all fun c => decide (c < 1114112)) = true := by cases a <;> decide
theorem layS (a : Mark) : PyData.canLay0 (.str (mS a)) = true := by
  show ((mS a).cps.all (· < 0x110000)) = true
  rw [Array.all_eq_true']
  intro c hc
  exact List.all_eq_true.mp (okS a) c (Array.mem_toList_iff.mpr hc)
theorem rd_two (a b : Mark) (s : Sto) : (D.tup [.str (mS a), .str (mS b)]).rd s = some (.tuple [.str (mS a), .str (mS b)]) := by
  unfold D.rd deep
  have e : D.read s 20 (.tup [.str (mS a), .str (mS b)]) = some (.tuple [.str (mS a), .str (mS b)]) := rfl
  rw [e]
  have : PySem.SeqAt.shaped (.tuple [.str (mS a), .str (mS b)]) = true := by
    unfold PySem.SeqAt.shaped
    show ((PyData.canLay0 (.str (mS a)) && (PyData.canLay0 (.str (mS b)) && true)) && _) = true
    rw [layS, layS]; rfl
  simp only [this, if_true]
theorem in_two (a b c : Mark) (s : Sto) : isIn (.str (mS a)) (.tup [.str (mS b), .str (mS c)]) s = some (decide (a = b) || decide (a = c)) := by
  simp only [isIn, rd_strL (okS a), rd_two]
  cases a <;> cases b <;> cases c <;> decide
theorem in_near (a : Mark) (s : Sto) : isIn (.str (mS a)) (.tup [.str ltS, .str eqS]) s = some (decide (a ≠ .gt)) := by
  refine (in_two a .lt .eq s).trans ?_
  cases a <;> decide
theorem in_far (a : Mark) (s : Sto) : isIn (.str (mS a)) (.tup [.str gtS, .str eqS]) s = some (decide (a ≠ .lt)) := by
  refine (in_two a .gt .eq s).trans ?_
  cases a <;> decide
@[simp] theorem max_ii (i j : Int) (s : Sto) : bf .max [.int i, .int j] s = .ok (.int (if j > i then j else i)) s := id rfl
@[simp] theorem min_ii (i j : Int) (s : Sto) : bf .min [.int i, .int j] s = .ok (.int (if j < i then j else i)) s := id rfl
def stB (A B : List Pr) : Mark → Int → Int → Bool
  | .gt, u, v => decide ((u, v) ∈ A)
  | .lt, u, v => decide ((v, u) ∈ A)
  | .eq, u, v => decide ((if v < u then v else u, if v > u then v else u) ∈ B)
theorem stB_iff {A B : List Pr} (hB : ∀ p ∈ B, p.1 < p.2) {m : Mark} {u v : Int} : stB A B m u v = true ↔ Stp (arr A) (arr B) m u v := by
  cases m with
  | gt => exact decide_eq_true_iff
  | lt => exact decide_eq_true_iff
  | eq =>
    unfold stB Stp arr
    rw [decide_eq_true_iff]
    rcases Int.lt_trichotomy u v with h | h | h
    · rw [if_neg (by omega), if_pos h]
      exact ⟨.inl, fun z => z.elim id fun z => absurd (hB _ z) (by show ¬ v < u; omega)⟩
    · subst h
      simp
    · rw [if_pos h, if_neg (by omega)]
      exact ⟨.inr, fun z => z.elim (fun z => absurd (hB _ z) (by show ¬ u < v; omega)) id⟩
theorem isIn_pr2 (i j : Int) (l : List Pr) (s : Sto) : isIn (.tup [.int i, .int j]) (.tup (pL l)) s = some (decide ((i, j) ∈ l)) := isIn_prs (i, j) l
theorem T_can (n : Nat) {s : Sto} {N : List Str} {A B : List Pr} (m : Mark) (u v : Int) :
    T (runN con4 fns (n + 1) (.fn k_can_step) [dia N A B, .int u, .str (mS m), .int v] s) fun d s' => d = .bool (stB A B m u v) ∧ s' = s := by
  refine T.post fun Q hQ => ?_
  rw [call_fn f_can_step rfl]
  have e1 : eqD (.str (mS m)) (.str ⟨#[62]⟩) s = some (decide (m = .gt)) := eqD_mS m .gt s
  have e2 : eqD (.str (mS m)) (.str ⟨#[60]⟩) s = some (decide (m = .lt)) := eqD_mS m .lt s
  simp [b_can_step, startE, dia, e1, e2]
  cases m <;> simp [isIn_pr2] <;> exact hQ _ _ ⟨rfl, rfl⟩
/-- a step as a tuple -/
def encS (p : Mark × Int) : D := .tup [.str (mS p.1), .int p.2]
theorem T_ext {k j : Nat} {xs ys : List D} {s : Sto} {Q : D → Sto → Prop} (h : s.get k = some (.lst xs)) (h2 : s.get j = some (.lst ys)) (ne : k ≠ j) (hl : xs.length + ys.length ≤ 100000) : T (mt .extend (.loc k) [.loc j] s).up Q = Q .none (s.put k (.lst (xs ++ ys))) := by
  have : xs.length + ys.length ≤ PySem.sizeLine := Nat.le_trans hl (by decide)
  simp only [mt, h, h2]
  rw [if_pos ⟨ne, this⟩]
  rfl
def marks : List Mark := [.gt, .lt, .eq]
theorem T_steps (n : Nat) {s : Sto} {N : List Str} {A B : List Pr} (hN : N.length ≤ 12) (u : Int) :
    T (runN con4 fns (n + 2) (.fn k_steps_of) [dia N A B, .int u] s) fun v s' => ∃ (k : Nat) (St : List (Mark × Int)), v = .loc k ∧ s.nxt ≤ k ∧ Ex s s' ∧ s'.get k = some (.lst (St.map encS)) ∧ St.length ≤ 36 ∧ ∀ p : Mark × Int, p ∈ St ↔ p.2 ∈ allv N.length ∧ stB A B p.1 u p.2 = true := by
  refine T.post fun Q hQ => ?_
  rw [call_fn f_steps_of rfl]
  simp [b_steps_of, startE]
  obtain ⟨k, ek⟩ : ∃ k, k = s.nxt := ⟨_, rfl⟩
  obtain ⟨s1, e1⟩ : ∃ s1, s1 = s.push (.lst []) := ⟨_, rfl⟩
  have k1 : s1.get k = some (.lst (([] : List (Mark × Int)).map encS)) := by rw [e1, ek]; exact get_push_self _ _
  have x1 : Ex s s1 := by rw [e1]; exact Ex.push _ _
  rw [← ek, ← e1]
  refine (T_count n).mono fun v s2 ⟨ev, es⟩ => ?_
  subst ev
  subst es
  rw [T_rng1 _ (by omega)]
  refine T_for (fun r ρ s' => ∃ (o o2 : Option D) (pre rest : List Int) (St : List (Mark × Int)), r = iL rest ∧ allv N.length = pre ++ rest ∧ ρ = [some (dia N A B), some (.int u), some (.loc k), o, o2] ∧ s'.get k = some (.lst (St.map encS)) ∧ Ex s s' ∧ St.length ≤ 3 * pre.length ∧ ∀ p : Mark × Int, p ∈ St ↔ p.2 ∈ pre ∧ stB A B p.1 u p.2 = true) (fun _ _ _ _ => rfl) ?_ ?_ _ _ _
    ⟨none, none, [], allv N.length, [], rfl, rfl, rfl, k1, x1, by simp, fun p => by simp⟩
  · rintro x r ρ s3 ⟨o, o2, pre, rest, St, hr, hall, rfl, k3, x3, hl, hSt⟩
    cases rest with
    | nil => cases hr
    | cons z rest =>
      obtain ⟨rfl, rfl⟩ := List.cons.inj (show x :: r = D.int z :: iL rest from hr)
      have hpl : pre.length < N.length := by
        have := congrArg List.length hall
        simp at this
        omega
      refine ⟨_, rfl, ?_⟩
      simp [T_isL k3]
      refine T_lcP (enc := fun m : Mark => D.str (mS m)) s3 (fun m => stB A B m u z) (fun m => encS (m, z)) (fun _ => rfl) marks [] (fun m _ => ⟨_, rfl, fun acc => ?_⟩) (by simp [marks]) ?_
      · simp [wipe, noClo, dia]
        refine (T_can n (N := N) (A := A) (B := B) m u z).mono fun d s4 ⟨ed, es⟩ => ?_
        subst ed
        subst es
        simp [encS]
      · simp
        obtain ⟨j, ej⟩ : ∃ j, j = s3.nxt := ⟨_, rfl⟩
        obtain ⟨s4, e4⟩ : ∃ s4, s4 = s3.push (.lst ((marks.filter fun m => stB A B m u z).map fun m => encS (m, z))) := ⟨_, rfl⟩
        have j4 : s4.get j = some (.lst ((marks.filter fun m => stB A B m u z).map fun m => encS (m, z))) := by rw [e4, ej]; exact get_push_self _ _
        have k4 : s4.get k = some (.lst (St.map encS)) := by rw [e4]; exact get_push k3
        have x4 : Ex s s4 := by rw [e4]; exact x3.trans (Ex.push _ _)
        have kj : k ≠ j := by have := get_lt k3; omega
        have lf : (marks.filter fun m => stB A B m u z).length ≤ 3 := List.length_filter_le _ _
        rw [← e4, ← ej, T_ext k4 j4 kj (by simp; omega)]
        refine ⟨_, _, pre ++ [z], rest, rfl, by simp [hall], ⟨rfl, rfl⟩, St ++ (marks.filter fun m => stB A B m u z).map (fun m => (m, z)), ?_, x4.put (by omega) _, by simp; omega, fun pa pb => ?_⟩
        · rw [get_put_self k4]
          simp [Function.comp_def]
        · obtain ⟨p, rfl, rfl⟩ : ∃ p : Mark × Int, p.1 = pa ∧ p.2 = pb := ⟨(pa, pb), rfl, rfl⟩
          show p ∈ _ ↔ _
          rw [List.mem_append, hSt p, List.mem_append, List.mem_map]
          constructor
          · rintro (⟨h1, h2⟩ | ⟨m, h1, h2⟩)
            · exact ⟨.inl h1, h2⟩
            · subst h2
              exact ⟨.inr (by simp), (List.mem_filter.mp h1).2⟩
          · rintro ⟨h1 | h1, h2⟩
            · exact .inl ⟨h1, h2⟩
            · right
              have hz : p.2 = z := by simpa using h1
              refine ⟨p.1, List.mem_filter.mpr ⟨?_, by rw [← hz]; exact h2⟩, by rw [← hz]⟩
              cases p.1 <;> simp [marks]
  · rintro ρ s3 ⟨o, o2, pre, rest, St, hr, hall, rfl, k3, x3, hl, hSt⟩
    cases rest with
    | cons z rest => cases hr
    | nil =>
      have hpre : pre = allv N.length := by simpa using hall.symm
      subst hpre
      simp
      exact hQ _ _ ⟨k, St, rfl, Nat.le_of_eq ek.symm, x3, k3, by simp at hl; omega, hSt⟩
def goB (Z Lt : List Int) (i : Nat) (m : Mark) (v : Int) : Bool := decide (i = 0) || (if i = 2 ∧ m ≠ .gt then decide (v ∈ Lt) else !decide (v ∈ Z))
theorem goB_iff {A : Int → Int → Prop} {Z Lt : List Int} (h : ∀ y, y ∈ Lt ↔ An A (· ∈ Z) y) {i : Nat} {m : Mark} {v : Int} : goB Z Lt i m v = true ↔ Go A (· ∈ Z) i m v := by
  unfold goB Go
  rw [Bool.or_eq_true, decide_eq_true_iff]
  refine or_congr Iff.rfl ?_
  by_cases hc : i = 2 ∧ m ≠ .gt
  · rw [if_pos hc, decide_eq_true_iff, h v]
    exact ⟨fun z => .inl ⟨hc.1, hc.2, z⟩, fun z => z.elim (fun z => z.2.2) fun z => absurd hc z.1⟩
  · rw [if_neg hc]
    simp only [Bool.not_eq_true', decide_eq_false_iff_not]
    exact ⟨fun z => .inr ⟨hc, z⟩, fun z => z.elim (fun z => absurd ⟨z.1, z.2.1⟩ hc) fun z => z.2⟩
theorem T_goes (n : Nat) {s : Sto} {Z Lt : List Int} (i : Nat) (m : Mark) (v : Int) :
    T (runN con4 fns (n + 1) (.fn k_goes_on) [.int v, .int (i : Int), .str (mS m), .tup (iL Z), .tup (iL Lt)] s) fun d s' => d = .bool (goB Z Lt i m v) ∧ s' = s := by
  refine T.post fun Q hQ => ?_
  rw [call_fn f_goes_on rfl]
  simp [b_goes_on, startE, in_near]
  by_cases h0 : i = 0
  · subst h0
    rw [if_pos rfl]
    exact hQ _ _ ⟨by simp [goB], rfl⟩
  · rw [if_neg h0]
    by_cases h2 : i = 2
    · subst h2
      rw [if_pos (by omega)]
      by_cases hm : m = .gt
      · rw [if_pos hm]
        exact hQ _ _ ⟨by simp [goB, hm], rfl⟩
      · rw [if_neg hm]
        exact hQ _ _ ⟨by simp [goB, hm], rfl⟩
    · have h2' : ¬ ((i : Int) = 2) := by omega
      rw [if_neg h2', if_neg h2']
      exact hQ _ _ ⟨by simp [goB, h0, h2], rfl⟩
end EV
/-! QvC: whether two sets are apart, as the program finds it (own work). -/
namespace EV
open PySem (Str PyData)
theorem rd_lprs {s : Sto} {k : Nat} {l : List Pr} (h : s.get k = some (.lst (pL l))) : (D.loc k).rd s = some (.list (l.map pP)) := by
  unfold D.rd deep
  have e : D.read s 20 (.loc k) = some (.list (l.map pP)) := by
    show (match s.get k with
      | some (.lst xs) => (xs.mapM (D.read s 19)).map PyData.list
      | some (.ro xs) => (xs.mapM (D.read s 19)).map .list
      | _ => Option.none) = _
    rw [h]
    show Option.map _ ((pL l).mapM (D.read s 19)) = _
    rw [show (pL l).mapM (D.read s 19) = some (l.map pP) from mapM_enc (enc := prD) (g := pP) (fun _ => rfl) l]
    rfl
  rw [e]
  have : PySem.SeqAt.shaped (.list (l.map pP)) = true := by
    unfold PySem.SeqAt.shaped
    show (PyData.canLayAll0 (l.map pP) && decide (PyData.depthAll (l.map pP) + 1 ≤ 64)) = true
    have := depP l
    rw [canP, Bool.true_and, decide_eq_true_eq]; omega
  simp only [this, if_true]
theorem eqD_lprs {s : Sto} {k m : Nat} {l l' : List Pr} (h : s.get k = some (.lst (pL l))) (h' : s.get m = some (.lst (pL l'))) : eqD (.loc k) (.loc m) s = some (decide (l = l')) := by
  simp only [eqD, rd_lprs h, rd_lprs h', PyData.eqv, eqv_prs]
/-- a state of a walk -/
abbrev Wk := Int × Nat
def toP (p : Wk) : Pr := (p.1, (p.2 : Int))
def kyW (p : Wk) : List Int := [p.1, (p.2 : Int)]
theorem kyW_inj {p q : Wk} (h : kyW p = kyW q) : p = q := by
  obtain ⟨a, b⟩ := p
  obtain ⟨c, d⟩ := q
  simp [kyW] at h
  obtain ⟨h1, h2⟩ := h
  have : b = d := by omega
  rw [h1, this]
theorem kyW_mem {p : Wk} {F : List Wk} : kyW p ∈ F.map kyW ↔ p ∈ F := by
  rw [List.mem_map]
  exact ⟨fun ⟨q, h1, h2⟩ => kyW_inj h2 ▸ h1, fun h => ⟨p, h, rfl⟩⟩
/-- all states there are -/
def allW (n : Nat) : List Wk := (allv n).flatMap fun v => [(v, 0), (v, 1), (v, 2)]
theorem allW_mem {n : Nat} {v : Int} {i : Nat} (h : v ∈ allv n) (hi : i ≤ 2) : (v, i) ∈ allW n := by
  refine List.mem_flatMap.mpr ⟨v, h, ?_⟩
  have : i = 0 ∨ i = 1 ∨ i = 2 := by omega
  rcases this with rfl | rfl | rfl <;> simp
theorem allW_len (n : Nat) : (allW n).length = 3 * n := by
  unfold allW
  rw [List.length_flatMap]
  simp
  rw [List.map_const', allv_len, List.sum_replicate_nat]
  omega
theorem far_le (m : Mark) : far m ≤ 2 := by cases m <;> decide
theorem farD (m : Mark) : (if decide (m ≠ Mark.lt) = true then (2 : Int) else 1) = ((far m : Nat) : Int) := by cases m <;> rfl
theorem eqbs_encS : ∀ l : List (Mark × Int), D.eqbs (l.map encS) (l.map encS) = true
  | [] => rfl
  | p :: r => by
    show (D.eqb (encS p) (encS p) && D.eqbs (r.map encS) (r.map encS)) = true
    rw [eqbs_encS r]
    simp [encS, D.eqb, D.eqbs]
theorem still_encS {k : Nat} {l : List (Mark × Int)} {s : Sto} (h : s.get k = some (.lst (l.map encS))) : still (some (k, l.map encS)) s = true := by simp only [still, h, eqbs_encS]
section
variable {N : List Str} {A B : List Pr} {X Y Z : List Int}
/-- what is known in the search: F done, W in line -/
structure Srch (n : Nat) (A B : List Pr) (X Y Z : List Int) (F W : List Wk) : Prop where
  nd : F.Nodup
  fu : ∀ p ∈ F, p ∈ allW n
  wu : ∀ p ∈ W, p ∈ allW n
  fr : ∀ p ∈ F, Rw (arr A) (arr B) (· ∈ X) (· ∈ Z) p.1 p.2
  wr : ∀ p ∈ W, Rw (arr A) (arr B) (· ∈ X) (· ∈ Z) p.1 p.2
  st : ∀ x ∈ X, (x, 0) ∈ F ∨ (x, 0) ∈ W
/-- behind p all that it leads to is known -/
def Shut (A B : List Pr) (Y Z : List Int) (p : Wk) (K : Wk → Prop) : Prop := ∀ m w, Stp (arr A) (arr B) m p.1 w → Go (arr A) (· ∈ Z) p.2 m p.1 → w ∉ Y ∧ K (w, far m)
theorem srch_end {n : Nat} {F : List Wk} (h : Srch n A B X Y Z F []) (c : ∀ p ∈ F, Shut A B Y Z p (· ∈ F)) : ¬ Conn (arr A) (arr B) (· ∈ X) (· ∈ Y) (· ∈ Z) := by
  have all : ∀ {v : Int} {i : Nat}, Rw (arr A) (arr B) (· ∈ X) (· ∈ Z) v i → (v, i) ∈ F := fun {v i} r => by
    induction r with
    | base hx => exact (h.st _ hx).elim id fun z => by cases z
    | step r e g ih => exact (c _ ih _ _ e g).2
  rintro ⟨v, i, m, w, r, e, g, hy⟩
  exact (c _ (all r) m w e g).1 hy
theorem T_apso (n : Nat) {s : Sto} (hd : Dia N A B) (hX : X.length ≤ 12) (rX : ∀ v ∈ X, 0 ≤ v ∧ v < N.length) (ndZ : Z.Nodup) (rZ : ∀ v ∈ Z, 0 ≤ v ∧ v < N.length) :
    T (runN con4 fns (n + 5) (.fn k_apart_so) [dia N A B, .tup (iL X), .tup (iL Y), .tup (iL Z)] s) fun v s' => Ex s s' ∧ ∃ b, v = .bool b ∧ (b = true ↔ ¬ Conn (arr A) (arr B) (· ∈ X) (· ∈ Y) (· ∈ Z)) := by
  refine T.post fun Q hQ => ?_
  have n2 := hd.n2
  have hB : ∀ p ∈ B, p.1 < p.2 := fun p hp => (hd.br p hp).2.2
  have rS : ∀ {m : Mark} {u w : Int}, Stp (arr A) (arr B) m u w → w ∈ allv N.length := fun {m u w} e => by
    cases m with
    | gt => exact allv_mem.mpr (hd.ar _ e).2.1
    | lt => exact allv_mem.mpr (hd.ar _ e).1
    | eq => exact e.elim (fun e => allv_mem.mpr (hd.br _ e).2.1) fun e => allv_mem.mpr (hd.br _ e).1
  rw [call_fn f_apart_so rfl]
  simp only [b_apart_so, startE, T_scons, T_set, T_call, T_cons, T_nil, T_var]
  refine (T_above n (N := N) (B := B) (m := N.length) (by omega) (fun p hp => (hd.ar p hp).1) ndZ rZ).mono fun v s1 ⟨x1, Lt, ev, _, hLt⟩ => ?_
  subst ev
  have gI : ∀ {i : Nat} {m : Mark} {v : Int}, goB Z Lt i m v = true ↔ Go (arr A) (· ∈ Z) i m v := fun {i m v} => goB_iff hLt
  simp
  obtain ⟨dn, edn⟩ : ∃ dn, dn = s1.nxt := ⟨_, rfl⟩
  obtain ⟨s2, e2⟩ : ∃ s2, s2 = s1.push (.tset []) := ⟨_, rfl⟩
  have d2 : s2.get dn = some (.tset (([] : List Wk).map kyW)) := by rw [e2, edn]; exact get_push_self _ _
  have x2 : Ex s s2 := by rw [e2]; exact x1.trans (Ex.push _ _)
  have sdn : s.nxt ≤ dn := by rw [edn]; exact x1.le
  rw [← edn, ← e2]
  obtain ⟨ln, eln⟩ : ∃ ln, ln = s2.nxt := ⟨_, rfl⟩
  refine T_lcP (enc := D.int) s2 (fun _ => true) (fun v => prD (toP (v, 0))) (fun _ => rfl) X [] (fun v _ => ⟨_, rfl, fun acc => ?_⟩) (by simp; omega) ?_
  · simp [wipe, noClo, prD, toP]
  rw [List.filter_eq_self.mpr (fun _ _ => rfl)]
  obtain ⟨s3, e3⟩ : ∃ s3, s3 = s2.push (.lst (pL ((X.map fun v => ((v, 0) : Wk)).map toP))) := ⟨_, rfl⟩
  have l3 : s3.get ln = some (.lst (pL ((X.map fun v => ((v, 0) : Wk)).map toP))) := by rw [e3, eln]; exact get_push_self _ _
  have d3 : s3.get dn = some (.tset (([] : List Wk).map kyW)) := by rw [e3]; exact get_push d2
  have x3 : Ex s s3 := by rw [e3]; exact x2.trans (Ex.push _ _)
  have dl : dn < ln := by rw [eln]; exact get_lt d2
  have e3' : s2.push (.lst ([] ++ X.map fun v => prD (toP (v, 0)))) = s3 := by rw [e3]; simp [pL, Function.comp_def]
  rw [e3', ← eln]
  refine T_wh (fun m ρ s' => ∃ (o6 o8 o9 o10 : Option D) (F W : List Wk), ρ = [some (dia N A B), some (.tup (iL X)), some (.tup (iL Y)), some (.tup (iL Z)), some (.tup (iL Lt)), some (.loc dn), o6, some (.loc ln), o8, o9, o10] ∧ s'.get dn = some (.tset (F.map kyW)) ∧ s'.get ln = some (.lst (pL (W.map toP))) ∧ Ex s s' ∧ Srch N.length A B X Y Z F W ∧ (∀ p ∈ F, Shut A B Y Z p fun q => q ∈ F ∨ q ∈ W) ∧ (36 - F.length) * 40 + W.length ≤ m ∧ m ≤ 1452) ?_ turns (36 * 40 + 12) _ _ (by unfold turns; omega)
    ⟨none, none, none, none, [], X.map fun v => (v, 0), rfl, d3, l3, x3, ⟨List.nodup_nil, by simp, fun p hp => ?_, by simp, fun p hp => ?_, fun x hx => .inr (List.mem_map.mpr ⟨x, hx, rfl⟩)⟩, by simp, by simp; omega, by omega⟩
  rotate_left
  · obtain ⟨v, h1, rfl⟩ := List.mem_map.mp hp
    exact allW_mem (allv_mem.mpr (rX v h1)) (by decide)
  · obtain ⟨v, h1, rfl⟩ := List.mem_map.mp hp
    exact .base h1
  rintro m ρ s4 ⟨o6, o8, o9, o10, F, W, rfl, d4, l4, x4, sr, sh, hm, hm2⟩
  have lF : F.length ≤ 36 := by
    have := nodup_sub_len sr.nd sr.fu
    rw [allW_len] at this
    omega
  simp
  have l4' : (s4.push (.lst [])).get ln = some (.lst (pL (W.map toP))) := get_push l4
  have n4' : (s4.push (.lst [])).get s4.nxt = some (.lst (pL [])) := get_push_self _ _
  have d4' : (s4.push (.lst [])).get dn = some (.tset (F.map kyW)) := get_push d4
  have x4' : Ex s (s4.push (.lst [])) := x4.trans (Ex.push _ _)
  obtain ⟨s5, e5⟩ : ∃ s5, s5 = s4.push (.lst []) := ⟨_, rfl⟩
  rw [← e5] at l4' n4' d4' x4' ⊢
  rw [eqD_lprs l4' n4']
  by_cases hW : W = []
  · subst hW
    simp
    exact hQ _ _ ⟨x4', true, rfl, by simp only [true_iff]; exact srch_end sr fun p hp m w e g => ⟨(sh p hp m w e g).1, (sh p hp m w e g).2.elim id fun z => by cases z⟩⟩
  · have hW' : ¬ (W.map toP = []) := by simpa using hW
    simp [hW]
    obtain ⟨W0, p, rfl⟩ : ∃ W0 p, W = W0 ++ [p] := ⟨W.dropLast, W.getLast hW, (List.dropLast_concat_getLast hW).symm⟩
    have pu := sr.wu p (by simp)
    have pr := sr.wr p (by simp)
    simp at hm
    refine ⟨by omega, ?_⟩
    rw [set_bool ln _ s5 l4']
    have ep : mt .pop (.loc ln) [] s5 = .ok (prD (toP p)) (s5.put ln (.lst (pL (W0.map toP)))) := by
      simp only [mt, l4']
      simp [pL]
    simp [ep]
    obtain ⟨s6, e6⟩ : ∃ s6, s6 = s5.put ln (.lst (pL (W0.map toP))) := ⟨_, rfl⟩
    have l6 : s6.get ln = some (.lst (pL (W0.map toP))) := by rw [e6]; exact get_put_self l4'
    have d6 : s6.get dn = some (.tset (F.map kyW)) := by rw [e6, get_put_ne (by omega)]; exact d4'
    have x6 : Ex s s6 := by rw [e6]; exact x4'.put (by omega) _
    rw [← e6]
    obtain ⟨v, i⟩ := p
    simp [prD, toP, unp, asg, asgs]
    have einn : isIn (.tup [.int v, .int (i : Int)]) (.loc dn) s6 = some (decide ((v, i) ∈ F)) := by
      simp only [isIn, d6]
      show some (decide (kyW (v, i) ∈ F.map kyW)) = _
      rw [decide_eq_decide.mpr kyW_mem]
    rw [einn]
    have wsub : ∀ q, q ∈ W0 → q ∈ W0 ++ [(v, i)] := fun q h => List.mem_append.mpr (.inl h)
    by_cases hF : (v, i) ∈ F
    · simp [hF]
      refine ⟨F, d6, W0, l6, x6, ⟨sr.nd, sr.fu, fun p hp => sr.wu p (wsub p hp), sr.fr, fun p hp => sr.wr p (wsub p hp), fun x hx => ?_⟩, fun a b hp => ?_, by omega, by omega⟩
      · rcases sr.st x hx with h | h
        · exact .inl h
        · rcases List.mem_append.mp h with h | h
          · exact .inr h
          · rw [List.mem_singleton.mp h]; exact .inl hF
      · intro m w e g
        obtain ⟨h1, h2⟩ := sh (a, b) hp m w e g
        refine ⟨h1, ?_⟩
        rcases h2 with h | h
        · exact .inl h
        · rcases List.mem_append.mp h with h | h
          · exact .inr h
          · rw [List.mem_singleton.mp h]; exact .inl hF
    · simp only [T_osome, hF, decide_false, Bool.false_eq_true, if_false]
      have eset : T (isSet (.loc dn) s6) = fun Q => Q () s6 := by funext Q; simp only [isSet, d6, T_ok]
      rw [eset]
      obtain ⟨s7, e7⟩ : ∃ s7, s7 = s6.put dn (.tset (((v, i) :: F).map kyW)) := ⟨_, rfl⟩
      have eadd : addSet (.loc dn) (.tup [.int v, .int (i : Int)]) s6 = .ok .none s7 := by
        have hk : kyW (v, i) ∉ F.map kyW := fun z => hF (kyW_mem.mp z)
        have hl : (F.map kyW).length < 60 := by rw [List.length_map]; omega
        simp only [addSet, d6]
        show (if (F.map kyW).length < 60 then R.ok D.none (s6.put dn (.tset (if kyW (v, i) ∈ F.map kyW then F.map kyW else kyW (v, i) :: F.map kyW))) else .bad) = _
        rw [if_pos hl, if_neg hk, e7]
        rfl
      simp only [eadd, T_upok]
      have d7 : s7.get dn = some (.tset (((v, i) :: F).map kyW)) := by rw [e7]; exact get_put_self d6
      have l7 : s7.get ln = some (.lst (pL (W0.map toP))) := by rw [e7, get_put_ne (by omega)]; exact l6
      have x7 : Ex s s7 := by rw [e7]; exact x6.put sdn _
      refine (T_steps (n + 2) (N := N) (A := A) (B := B) n2 v).mono fun w8 s8 ⟨k, Sp, ew, kn, x8, k8, lSp, hSp⟩ => ?_
      subst ew
      have lk : ln < k := Nat.lt_of_lt_of_le (get_lt l7) kn
      rw [walk_loc k8]
      simp only [T_osome]
      have ndF : ((v, i) :: F).Nodup := List.nodup_cons.mpr ⟨hF, sr.nd⟩
      have fu' : ∀ p ∈ (v, i) :: F, p ∈ allW N.length := fun p hp => (List.mem_cons.mp hp).elim (fun e => e ▸ pu) (sr.fu p)
      have lF' : F.length + 1 ≤ 36 := by
        have := nodup_sub_len ndF fu'
        rw [allW_len] at this
        simp at this
        omega
      refine T_for (fun r ρ s' => ∃ (o9 o10 : Option D) (pre rest : List (Mark × Int)) (new : List Wk), r = rest.map encS ∧ Sp = pre ++ rest ∧ ρ = [some (dia N A B), some (.tup (iL X)), some (.tup (iL Y)), some (.tup (iL Z)), some (.tup (iL Lt)), some (.loc dn), some (.int v), some (.loc ln), some (.int (i : Int)), o9, o10] ∧ s'.get dn = some (.tset (((v, i) :: F).map kyW)) ∧ s'.get ln = some (.lst (pL ((W0 ++ new).map toP))) ∧ s'.get k = some (.lst (Sp.map encS)) ∧ Ex s s' ∧ new.length ≤ pre.length ∧ (∀ p ∈ new, p ∈ allW N.length ∧ Rw (arr A) (arr B) (· ∈ X) (· ∈ Z) p.1 p.2) ∧ ∀ p ∈ pre, Go (arr A) (· ∈ Z) i p.1 v → p.2 ∉ Y ∧ (p.2, far p.1) ∈ new)
        (fun _ _ _ ⟨_, _, _, _, _, _, _, _, _, _, hk, _⟩ => still_encS hk) ?_ ?_ _ _ _ ⟨o9, o10, [], Sp, [], rfl, rfl, rfl, x8 _ _ d7, by simpa using x8 _ _ l7, k8, x7.trans x8, by simp, by simp, by simp⟩
      · rintro x r ρ s9 ⟨o9, o10, pre, rest, new, hr, hall, rfl, d9, l9, k9, x9, hl, hn, hp⟩
        cases rest with
        | nil => cases hr
        | cons q rest =>
          obtain ⟨rfl, rfl⟩ := List.cons.inj (show x :: r = encS q :: rest.map encS from hr)
          obtain ⟨mk, w⟩ := q
          have qs := (hSp (mk, w)).mp (by rw [hall]; simp)
          have est : Stp (arr A) (arr B) mk v w := (stB_iff hB).mp qs.2
          refine ⟨_, rfl, ?_⟩
          simp
          refine (T_goes (n + 3) (Z := Z) (Lt := Lt) i mk v).mono fun d s10 ⟨ed, es⟩ => ?_
          subst ed
          subst es
          simp
          by_cases hg : goB Z Lt i mk v = true
          · have hgo := gI.mp hg
            simp only [hg, if_true]
            by_cases hy : w ∈ Y
            · simp [hy]
              refine hQ _ _ ⟨x9, false, rfl, ?_⟩
              simp only [Bool.false_eq_true, false_iff]
              exact fun z => z ⟨v, i, mk, w, pr, est, hgo, hy⟩
            · have key : ∀ s11, s11 = s10.put ln (.lst (pL ((W0 ++ new).map toP) ++ [prD (toP (w, far mk))])) → s11.get dn = some (.tset (((v, i) :: F).map kyW)) ∧ s11.get ln = some (.lst (pL ((W0 ++ (new ++ [(w, far mk)])).map toP))) ∧ s11.get k = some (.lst (Sp.map encS)) ∧ Ex s s11 ∧ (new ++ [(w, far mk)]).length ≤ (pre ++ [(mk, w)]).length ∧ (∀ p ∈ new ++ [(w, far mk)], p ∈ allW N.length ∧ Rw (arr A) (arr B) (· ∈ X) (· ∈ Z) p.1 p.2) ∧ ∀ p ∈ pre ++ [(mk, w)], Go (arr A) (· ∈ Z) i p.1 v → p.2 ∉ Y ∧ (p.2, far p.1) ∈ new ++ [(w, far mk)] := fun s11 e11 => by
                subst e11
                refine ⟨by rw [get_put_ne (by omega)]; exact d9, by rw [get_put_self l9]; simp [pL], by rw [get_put_ne (by omega)]; exact k9, x9.put (by omega) _, by simp; omega, fun p hp' => ?_, fun p hp' hgo' => ?_⟩
                · rcases List.mem_append.mp hp' with h | h
                  · exact hn p h
                  · rw [List.mem_singleton.mp h]
                    exact ⟨allW_mem qs.1 (far_le _), .step pr est hgo⟩
                · rcases List.mem_append.mp hp' with h | h
                  · exact ⟨(hp p h hgo').1, List.mem_append.mpr (.inl (hp p h hgo').2)⟩
                  · rw [List.mem_singleton.mp h]
                    exact ⟨hy, List.mem_append.mpr (.inr (List.mem_singleton.mpr rfl))⟩
              have lnew : (W0 ++ new).length ≤ 10000 := by
                have : pre.length ≤ Sp.length := by rw [hall]; simp
                simp
                omega
              simp [hy, in_far]
              rw [T_isL l9]
              by_cases hmk : mk = .lt
              · subst hmk
                simp only [if_true]
                rw [T_app l9 (by simp at lnew ⊢; omega)]
                obtain ⟨q1, q2, q3, q4, q5, q6, q7⟩ := key _ rfl
                exact ⟨_, _, pre ++ [(.lt, w)], rest, rfl, by simp [hall], ⟨rfl, rfl⟩, q1, new ++ [(w, far .lt)], by simpa [prD, toP, far, pL] using q2, q3, q4, q5, fun a b hab => q6 (a, b) hab, fun a b hab => q7 (a, b) hab⟩
              · simp only [hmk, if_false]
                rw [T_app l9 (by simp at lnew ⊢; omega)]
                have ef : far mk = 2 := by cases mk <;> first | rfl | exact absurd rfl hmk
                rw [ef] at key
                obtain ⟨q1, q2, q3, q4, q5, q6, q7⟩ := key _ rfl
                exact ⟨_, _, pre ++ [(mk, w)], rest, rfl, by simp [hall], ⟨rfl, rfl⟩, q1, new ++ [(w, 2)], by simpa [prD, toP, pL] using q2, q3, q4, q5, fun a b hab => q6 (a, b) hab, fun a b hab => q7 (a, b) hab⟩
          · simp only [hg, if_false]
            refine ⟨_, _, pre ++ [(mk, w)], rest, rfl, by simp [hall], ⟨rfl, rfl⟩, d9, new, by simpa using l9, k9, x9, by simp; omega, fun a b hab => hn (a, b) hab, fun a b hab hgo' => ?_⟩
            rcases List.mem_append.mp hab with h | h
            · exact hp (a, b) h hgo'
            · obtain ⟨rfl, rfl⟩ := Prod.mk.inj (List.mem_singleton.mp h)
              exact absurd (gI.mpr hgo') hg
      · rintro ρ s9 ⟨o9, o10, pre, rest, new, hr, hall, rfl, d9, l9, k9, x9, hl, hn, hp⟩
        cases rest with
        | cons q rest => cases hr
        | nil =>
          have hpre : pre = Sp := by simpa using hall.symm
          subst hpre
          simp
          refine ⟨(v, i) :: F, d9, W0 ++ new, by simpa using l9, x9, ⟨ndF, fu', fun p hp' => ?_, fun p hp' => ?_, fun p hp' => ?_, fun x hx => ?_⟩, fun a b hp' m w e g => ?_, ?_⟩
          · rcases List.mem_append.mp hp' with h | h
            · exact sr.wu p (wsub p h)
            · exact (hn p h).1
          · rcases List.mem_cons.mp hp' with h | h
            · rw [h]; exact pr
            · exact sr.fr p h
          · rcases List.mem_append.mp hp' with h | h
            · exact sr.wr p (wsub p h)
            · exact (hn p h).2
          · rcases sr.st x hx with h | h
            · exact .inl (List.mem_cons_of_mem _ h)
            · rcases List.mem_append.mp h with h | h
              · exact .inr (List.mem_append.mpr (.inl h))
              · rw [List.mem_singleton.mp h]; exact .inl List.mem_cons_self
          · rcases List.mem_cons.mp hp' with h | h
            · obtain ⟨rfl, rfl⟩ := Prod.mk.inj h
              obtain ⟨h1, h2⟩ := hp (m, w) ((hSp (m, w)).mpr ⟨rS e, (stB_iff hB).mpr e⟩) g
              exact ⟨h1, .inr (List.mem_append.mpr (.inr h2))⟩
            · obtain ⟨h1, h2⟩ := sh (a, b) h m w e g
              refine ⟨h1, ?_⟩
              rcases h2 with h2 | h2
              · exact .inl (List.mem_cons_of_mem _ h2)
              · rcases List.mem_append.mp h2 with h2 | h2
                · exact .inr (List.mem_append.mpr (.inl h2))
                · rw [List.mem_singleton.mp h2]; exact .inl List.mem_cons_self
          · simp
            omega
end
end EV
/-! QvD: apart, as it is called (own work). -/
namespace EV
open PySem (Str PyData)
theorem T_disj {con : List D} {cf : Cf} {s : Sto} {Q : Fl → Sto → Prop} {S0 : List D} {f g : Int} {o : Option D} {P R : List Int} (ix1 : ix (.tup S0) (.int f) s = .ok (.tup (iL R)) s) (dj : ∀ v ∈ P, v ∉ R) (q : ∀ o', Q (.nx [some (.tup S0), some (.int f), some (.int g), o']) s) :
    T (forGo (evSs con cf (.cons (.ite (.cmp .isin (.var 3) (.idx (.var 0) (.var 1))) (.cons .never .nil) .nil) .nil)) (.n 3) none (iL P) [some (.tup S0), some (.int f), some (.int g), o] s) Q := by
  refine T_for (fun r ρ s' => ∃ (o : Option D) (rest : List Int), r = iL rest ∧ ρ = [some (.tup S0), some (.int f), some (.int g), o] ∧ s' = s ∧ rest ⊆ P) (fun _ _ _ _ => rfl) ?_ ?_ _ _ _ ⟨o, P, rfl, rfl, rfl, fun _ h => h⟩
  · rintro x r ρ s' ⟨o, rest, hr, rfl, rfl, hs⟩
    cases rest with
    | nil => cases hr
    | cons z rest =>
      obtain ⟨rfl, rfl⟩ := List.cons.inj (show x :: r = D.int z :: iL rest from hr)
      refine ⟨_, rfl, ?_⟩
      have hz := dj z (hs List.mem_cons_self)
      simp [ix1, hz]
      exact ⟨_, rest, rfl, rfl, (List.cons_subset.mp hs).2⟩
  · rintro ρ s' ⟨o, rest, hr, rfl, rfl, hs⟩
    exact q o
theorem T_ap3 (n : Nat) {s : Sto} {X Y Z : List Int} (xy : ∀ v ∈ X, v ∉ Y) (xz : ∀ v ∈ X, v ∉ Z) (yz : ∀ v ∈ Y, v ∉ Z) : T (runN con4 fns (n + 1) (.fn k_need_apart) [.tup [.tup (iL X), .tup (iL Y), .tup (iL Z)]] s) fun v s' => v = .none ∧ s' = s := by
  refine T.post fun Q hQ => ?_
  rw [call_fn f_need_apart rfl]
  simp [b_need_apart, startE]
  have e3 : iL (allv 3) = [.int 0, .int 1, .int 2] := by simp [allv, iL, List.range, List.range.loop]
  have e2 : iL (allv 2) = [.int 0, .int 1] := by simp [allv, iL, List.range, List.range.loop]
  have e1 : iL (allv 1) = [.int 0] := by simp [allv, iL, List.range, List.range.loop]
  have e0 : iL (allv 0) = [] := by simp [allv, iL, List.range, List.range.loop]
  rw [show (3 : Int) = ((3 : Nat) : Int) from rfl, T_rng1 3 (by decide), e3]
  simp [forGo, turnM, stillM]
  rw [show (0 : Int) = ((0 : Nat) : Int) from rfl, T_rng1 0 (by decide), e0]
  simp [forGo, turnM, stillM]
  rw [show (1 : Int) = ((1 : Nat) : Int) from rfl, T_rng1 1 (by decide), e1]
  simp [forGo, turnM, stillM]
  refine T_disj (P := X) (R := Y) (by simp) xy fun o1 => ?_
  simp
  rw [show (2 : Int) = ((2 : Nat) : Int) from rfl, T_rng1 2 (by decide), e2]
  simp [forGo, turnM, stillM]
  refine T_disj (P := X) (R := Z) (by simp) xz fun o1 => ?_
  simp
  refine T_disj (P := Y) (R := Z) (by simp) yz fun o1 => ?_
  simp
  exact hQ _ _ ⟨rfl, rfl⟩
/-- three sets of a diagram, apart from each other -/
structure Three (n : Nat) (X Y Z : List Int) : Prop where
  x1 : X.Pairwise (· < ·)
  y1 : Y.Pairwise (· < ·)
  z1 : Z.Pairwise (· < ·)
  x2 : ∀ v ∈ X, 0 ≤ v ∧ v < n
  y2 : ∀ v ∈ Y, 0 ≤ v ∧ v < n
  z2 : ∀ v ∈ Z, 0 ≤ v ∧ v < n
  xy : ∀ v ∈ X, v ∉ Y
  xz : ∀ v ∈ X, v ∉ Z
  yz : ∀ v ∈ Y, v ∉ Z
section
variable {N : List Str} {A B : List Pr} {X Y Z : List Int} (hd : Dia N A B) (th : Three N.length X Y Z) {s : Sto}
include hd th
theorem T_three (n : Nat) : T (runN con4 fns (n + 7) (.fn k_need_three) [dia N A B, .tup (iL X), .tup (iL Y), .tup (iL Z)] s) fun v s' => Ex s s' := by
  refine T.post fun Q hQ => ?_
  rw [call_fn f_need_three rfl]
  simp [b_need_three, startE, -T_genL]
  refine (T_need hd n).mono fun v s1 ⟨ev, x1⟩ => ?_
  subst ev
  have get : ∀ (P : List Int) (s : Sto), P.Pairwise (· < ·) → (∀ v ∈ P, 0 ≤ v ∧ v < (N.length : Int)) → ∀ R : D → Sto → Prop, R (.tup (iL P)) s → T (runN con4 fns (n + 6) (.fn k_need_set) [.tup (iL P), .int N.length] s) R := fun P s h1 h2 R hR =>
    (T_nset (n + 2) h1 h2 hd.n2).mono fun v s' ⟨e1, e2⟩ => by subst e1; subst e2; exact hR
  have cnt : ∀ (s : Sto) (R : D → Sto → Prop), R (.int N.length) s → T (runN con4 fns (n + 6) (.fn k_count_of) [dia N A B] s) R := fun s R hR =>
    (T_count (n + 5)).mono fun v s' ⟨e1, e2⟩ => by subst e1; subst e2; exact hR
  obtain ⟨s2, e2⟩ : ∃ s2, s2 = s1.push (.lst []) := ⟨_, rfl⟩
  obtain ⟨k, ek⟩ : ∃ k, k = s1.nxt := ⟨_, rfl⟩
  have k2 : s2.get k = some (.lst []) := by rw [e2, ek]; exact get_push_self _ _
  have x2 : Ex s s2 := by rw [e2]; exact x1.trans (Ex.push _ _)
  have sk : s.nxt ≤ k := by rw [ek]; exact x1.le
  simp only [T_genL, T_sre, T_tup, T_cons, T_nil, T_var]
  simp
  rw [← e2, ← ek]
  simp [lcGo, turnM, stillM, wipe, noClo, dia]
  refine cnt _ _ ?_
  refine get X _ th.x1 th.x2 _ ?_
  rw [T_addL k2 (by simp)]
  have k3 := get_put_self (o := .lst ([] ++ [.tup (iL X)])) k2
  refine cnt _ _ ?_
  refine get Y _ th.y1 th.y2 _ ?_
  rw [T_addL k3 (by simp)]
  have k4 := get_put_self (o := .lst (([] ++ [.tup (iL X)]) ++ [.tup (iL Y)])) k3
  refine cnt _ _ ?_
  refine get Z _ th.z1 th.z2 _ ?_
  rw [T_addL k4 (by simp)]
  have k5 := get_put_self (o := .lst ((([] ++ [.tup (iL X)]) ++ [.tup (iL Y)]) ++ [.tup (iL Z)])) k4
  rw [tuple_loc k5]
  simp
  refine (T_ap3 (n + 5) th.xy th.xz th.yz).mono fun v s6 ⟨e1, e2⟩ => ?_
  subst e1
  subst e2
  exact hQ _ _ (((x2.put sk _).put sk _).put sk _)
theorem T_apart (n : Nat) : T (runN con4 fns (n + 8) (.fn k_apart) [dia N A B, .tup (iL X), .tup (iL Y), .tup (iL Z)] s) fun v s' => Ex s s' ∧ ∃ b, v = .bool b ∧ (b = true ↔ ¬ Conn (arr A) (arr B) (· ∈ X) (· ∈ Y) (· ∈ Z)) := by
  refine T.post fun Q hQ => ?_
  rw [call_fn f_apart rfl]
  simp [b_apart, startE]
  refine (T_three hd th n).mono fun v s1 x1 => ?_
  refine (T_apso (n + 2) hd (Y := Y) ?_ th.x2 (th.z1.imp fun h => by omega) th.z2).mono fun v s2 ⟨x2, b, ev, hb⟩ => ?_
  · have := nodup_sub_len (U := allv N.length) (th.x1.imp fun h => by omega) fun v hv => allv_mem.mpr (th.x2 v hv)
    have := hd.n2
    simp at *
    omega
  · subst ev
    exact hQ _ _ ⟨x1.trans x2, b, rfl, hb⟩
end
end EV
/-! QvE: the law's own above (own work). -/
namespace EV
open PySem (Str PyData)
theorem T_lab (n : Nat) {s : Sto} {N : List Str} {A B : List Pr} {g : List Int} {m kw : Nat} (hw : s.get kw = some (.lst (iL (allv m)))) (hm : m ≤ 400) (nd : g.Nodup) (hr : ∀ v ∈ g, 0 ≤ v ∧ v < m) (ar : ∀ p ∈ A, 0 ≤ p.1 ∧ p.1 < m) (hA : A.length ≤ 1000) :
    T (runN con4 fns (n + 1) (.fn k_law_above) [dia N A B, .tup (iL g), .loc kw] s) fun v s' => ∃ L, v = .tup (iL L) ∧ Ex s s' ∧ L.Nodup ∧ (∀ v ∈ L, 0 ≤ v ∧ v < m) ∧ ∀ v, v ∈ L ↔ An (arr A) (· ∈ g) v := by
  refine T.post fun Q hQ => ?_
  have lg : g.length ≤ m := by
    have := nodup_sub_len (U := allv m) nd fun v hv => allv_mem.mpr (hr v hv)
    simpa using this
  rw [call_fn f_law_above rfl]
  simp only [b_law_above, startE, T_scons, T_set]
  refine T_keepI (A := g) (fun _ => true) (by simp) (fun p hp s => by simp [wipe, noClo]) (fun p s => by simp [wipe, noClo, dia]) (by omega) ?_
  obtain ⟨k, ek⟩ : ∃ k, k = s.nxt := ⟨_, rfl⟩
  obtain ⟨s1, e1⟩ : ∃ s1, s1 = s.push (.lst (iL g)) := ⟨_, rfl⟩
  rw [List.filter_eq_self.mpr (fun _ _ => rfl), ← ek, ← e1]
  have k1 : s1.get k = some (.lst (iL g)) := by rw [e1, ek]; exact get_push_self _ _
  have x1 : Ex s s1 := by rw [e1]; exact Ex.push _ _
  have sk : s.nxt ≤ k := by omega
  simp
  rw [walk_loc (x1 _ _ hw)]
  simp only [T_osome]
  obtain ⟨OK, eOK⟩ : ∃ OK : List Int → List Int → Prop, OK = fun pre F => F.Nodup ∧ (∀ v : Int, v ∈ F → (0 ≤ v ∧ v < m) ∧ An (arr A) (· ∈ g) v) ∧ (∀ v ∈ g, v ∈ F) ∧ (Clo A F ∨ 1 + pre.length ≤ F.length) := ⟨_, rfl⟩
  have lenOK : ∀ {pre F}, OK pre F → F.length ≤ m := fun {pre F} h => by
    rw [eOK] at h
    have := nodup_sub_len (U := allv m) h.1 fun v hv => allv_mem.mpr (h.2.1 v hv).1
    simpa using this
  refine T_for (fun r ρ s' => ∃ (o4 o5 o6 : Option D) (pre rest F : List Int), r = iL rest ∧ allv m = pre ++ rest ∧ ρ = [some (dia N A B), some (.tup (iL g)), some (.loc kw), some (.loc k), o4, o5, o6, none] ∧ s'.get k = some (.lst (iL F)) ∧ Ex s s' ∧ OK pre F) (fun _ _ _ ⟨_, _, _, _, _, _, _, _, _, _, hx, _⟩ => still_iL (hx _ _ hw)) ?_ ?_ _ _ _
    ⟨none, none, none, [], allv m, g, rfl, rfl, rfl, k1, x1, ?_⟩
  · rintro v r ρ s2 ⟨o4, o5, o6, pre, rest, F0, hr2, hall, rfl, k2, x2, hOK⟩
    cases rest with
    | nil => cases hr2
    | cons z rest =>
      obtain ⟨rfl, rfl⟩ := List.cons.inj (show v :: r = D.int z :: iL rest from hr2)
      refine ⟨_, rfl, ?_⟩
      have lF0 := lenOK hOK
      simp
      obtain ⟨IN, eIN⟩ : ∃ IN : List Pr → List Int → Prop, IN = fun dA new => (F0 ++ new).Nodup ∧ (∀ v : Int, v ∈ F0 ++ new → (0 ≤ v ∧ v < m) ∧ An (arr A) (· ∈ g) v) ∧ (∀ p ∈ dA, p.2 ∈ F0 → p.1 ∈ F0 ++ new) ∧ (Clo A F0 → new = []) := ⟨_, rfl⟩
      refine T_for (fun r ρ s' => ∃ (o5 o6 : Option D) (dA rA : List Pr) (new : List Int), r = pL rA ∧ A = dA ++ rA ∧ ρ = [some (dia N A B), some (.tup (iL g)), some (.loc kw), some (.loc k), some (.int z), o5, o6, none] ∧ s'.get k = some (.lst (iL (F0 ++ new))) ∧ Ex s s' ∧ IN dA new) (fun _ _ _ _ => rfl) ?_ ?_ _ _ _
        ⟨o5, o6, [], A, [], rfl, rfl, rfl, by simpa using k2, x2, ?_⟩
      · rintro v r ρ s3 ⟨o5, o6, dA, rA, new, hrA, hA2, rfl, k3, x3, hIN⟩
        cases rA with
        | nil => cases hrA
        | cons p rA =>
          obtain ⟨rfl, rfl⟩ := List.cons.inj (show v :: r = prD p :: pL rA from hrA)
          have pA : p ∈ A := by rw [hA2]; simp
          rw [eIN] at hIN
          obtain ⟨i1, i2, i3, i4⟩ := hIN
          have lF : (F0 ++ new).length ≤ m := by
            have := nodup_sub_len (U := allv m) i1 fun v hv => allv_mem.mpr (i2 v hv).1
            simpa using this
          refine ⟨_, rfl, ?_⟩
          have mw : p.1 ∈ allv m := allv_mem.mpr (ar p pA)
          have keep : (p.2 ∈ F0 ++ new → p.1 ∈ F0 ++ new) → IN (dA ++ [p]) new := fun hk => by
            rw [eIN]
            refine ⟨i1, i2, fun q hq h2 => ?_, i4⟩
            rcases List.mem_append.mp hq with hq | hq
            · exact i3 q hq h2
            · rw [List.mem_singleton.mp hq] at h2 ⊢
              exact hk (List.mem_append.mpr (.inl h2))
          simp [isIn_lints k3, isIn_lints (x3 _ _ hw), mw]
          by_cases h2 : p.2 ∈ F0 ++ new
          · have h2' : p.2 ∈ F0 ∨ p.2 ∈ new := List.mem_append.mp h2
            simp only [h2', if_true]
            by_cases h3 : p.1 ∈ F0 ++ new
            · have h3' : ¬ (¬ p.1 ∈ F0 ∧ ¬ p.1 ∈ new) := fun h => (List.mem_append.mp h3).elim h.1 h.2
              rw [if_neg h3']
              exact ⟨_, _, dA ++ [p], rA, rfl, by simp [hA2], ⟨rfl, rfl⟩, new, k3, x3, keep fun _ => h3⟩
            · have h3' : ¬ p.1 ∈ F0 ∧ ¬ p.1 ∈ new := ⟨fun h => h3 (List.mem_append.mpr (.inl h)), fun h => h3 (List.mem_append.mpr (.inr h))⟩
              rw [if_pos h3', T_isL k3, T_app k3 (by rw [ints_len]; omega)]
              refine ⟨_, _, dA ++ [p], rA, rfl, by simp [hA2], ⟨rfl, rfl⟩, new ++ [p.1], ?_, x3.put sk _, ?_⟩
              · rw [get_put_self k3]; simp [iL]
              · rw [eIN]
                refine ⟨?_, fun v hv => ?_, fun q hq h4 => ?_, fun hc => ?_⟩
                · rw [← List.append_assoc]
                  exact List.nodup_append.mpr ⟨i1, by simp, fun a ha b hb e => h3 (by rw [List.mem_singleton.mp hb] at e; exact e ▸ ha)⟩
                · rw [← List.append_assoc] at hv
                  rcases List.mem_append.mp hv with hv | hv
                  · exact i2 v hv
                  · rw [List.mem_singleton.mp hv]; exact ⟨ar p pA, .up (i2 _ h2).2 pA⟩
                · rw [← List.append_assoc]
                  rcases List.mem_append.mp hq with hq | hq
                  · exact List.mem_append.mpr (.inl (i3 q hq h4))
                  · rw [List.mem_singleton.mp hq]; simp
                · exfalso
                  have := i4 hc
                  subst this
                  rw [List.append_nil] at h2 h3
                  exact h3 (hc p pA h2)
          · have h2' : ¬ (p.2 ∈ F0 ∨ p.2 ∈ new) := fun h => h2 (List.mem_append.mpr h)
            simp only [h2', if_false]
            refine ⟨_, _, dA ++ [p], rA, rfl, by simp [hA2], ⟨rfl, rfl⟩, new, k3, x3, keep fun h => absurd h h2⟩
      · rintro ρ s3 ⟨o5, o6, dA, rA, new, hrA, hA2, rfl, k3, x3, hIN⟩
        have hrA : rA = [] := by
          cases rA with
          | nil => rfl
          | cons _ _ => cases hrA
        subst hrA
        simp at hA2
        subst hA2
        rw [eIN] at hIN
        obtain ⟨i1, i2, i3, i4⟩ := hIN
        simp
        refine ⟨_, _, _, pre ++ [z], rest, rfl, by simp [hall], ⟨rfl, rfl, rfl⟩, F0 ++ new, k3, x3, ?_⟩
        rw [eOK] at hOK ⊢
        obtain ⟨h1, h2, h3, h4⟩ := hOK
        refine ⟨i1, i2, fun v hv => List.mem_append.mpr (.inl (h3 v hv)), ?_⟩
        by_cases hn : new = []
        · subst hn
          left
          rw [List.append_nil] at i3 ⊢
          exact i3
        · rcases h4 with h4 | h4
          · exact absurd (i4 h4) hn
          · right
            have := List.length_pos_iff.mpr hn
            simp
            omega
      · rw [eOK] at hOK
        rw [eIN]
        exact ⟨by simpa using hOK.1, by simpa using hOK.2.1, by simp, fun _ => rfl⟩
  · rintro ρ s2 ⟨o4, o5, o6, pre, rest, F, hr2, hall, rfl, k2, x2, hOK⟩
    have hr2 : rest = [] := by
      cases rest with
      | nil => rfl
      | cons _ _ => cases hr2
    subst hr2
    have hpl : pre.length = m := by
      have := congrArg List.length hall
      simp at this
      omega
    have lF := lenOK hOK
    rw [eOK] at hOK
    obtain ⟨h1, h2, h3, h4⟩ := hOK
    simp
    rw [T_sortL k2 (by omega), tuple_loc (get_push_self _ _)]
    simp
    have hc : Clo A F := h4.elim (fun h => h) fun h => by omega
    refine hQ _ _ ⟨isort F, rfl, x2.trans (Ex.push _ _), (isort_lt h1).imp fun h => by omega, fun v hv => (h2 v (isort_mem.mp hv)).1, fun v => ?_⟩
    rw [isort_mem]
    refine ⟨fun h => (h2 v h).2, fun h => ?_⟩
    induction h with
    | base h => exact h3 _ h
    | up _ e ih => exact hc _ e ih
  · rw [eOK]
    refine ⟨nd, fun v hv => ⟨hr v hv, .base hv⟩, fun _ h => h, ?_⟩
    cases g with
    | nil => exact .inl fun p _ h => by cases h
    | cons a b => right; simp
end EV
/-! QvF: the law's own neighbours (own work). -/
namespace EV
open PySem (Str PyData)
theorem T_addLL {k l : Nat} {xs ys : List Int} {s : Sto} {Q : D → Sto → Prop} (h : s.get k = some (.lst (iL xs))) (h2 : s.get l = some (.lst (iL ys))) (hl : xs.length + ys.length ≤ 100000) : T (o2 .add (.loc k) (.loc l) s).up Q = Q (.loc s.nxt) (s.push (.lst (iL (xs ++ ys)))) := by
  simp only [o2, h, h2]
  rw [T_mkList (by simp; omega), ints_app]
theorem T_ssetL {k : Nat} {l : List Int} {s : Sto} {Q : D → Sto → Prop} (h : s.get k = some (.lst (iL l))) (h1 : l.length ≤ 900) (h2 : l.eraseDups.length ≤ 60) : T (ssetD (.loc k) s).up Q = Q (.loc s.nxt) (s.push (.lst (iL (isort l.eraseDups)))) := by
  simp only [ssetD, D.items, h, ints_iL]
  rw [if_pos ⟨h1, h2⟩, T_mkList (by rw [List.length_map]; show (isort l.eraseDups).length ≤ _; rw [isort_len]; omega)]
  rfl
theorem T_tst {con : List D} {cf : Cf} {ρ : Env} {s : Sto} {Q : D → Sto → Prop} {a b h f : Nat} {u w : Int} {U H fr : List Int} (ga : ∀ s, getV ρ a s = .ok (.int u) s) (gb : ∀ s, getV ρ b s = .ok (.int w) s) (g1 : ∀ s, getV ρ 1 s = .ok (.tup (iL U)) s) (g6 : ∀ s, getV ρ 6 s = .ok (.loc h) s)
    (g8 : ∀ s, getV ρ 8 s = .ok (.loc f) s) (hh : s.get h = some (.lst (iL H))) (hf : s.get f = some (.lst (iL fr))) (hl : H.length + fr.length ≤ 1000) (q : ∀ s' c, Ex s s' → (c = true ↔ u ∈ H ∧ w ∈ U ∧ w ∉ H ++ fr) → Q (.bool c) s') :
    T (evE con cf (.and (.cmp .isin (.var a) (.var 6)) (.and (.cmp .isin (.var b) (.var 1)) (.cmp .notin (.var b) (.bin .add (.var 6) (.var 8))))) ρ s) Q := by
  simp only [T_and, T_cmp, T_var, ga, gb, g1, g6, g8, T_ok, cpB_in, cpB_ni, isIn_lints hh, isIn_ints, T_osome, T_trub, T_bin]
  by_cases h1 : u ∈ H
  · by_cases h2 : w ∈ U
    · simp only [h1, h2, decide_true, if_true]
      rw [T_addLL hh hf (by omega)]
      rw [isIn_lints (get_push_self _ _)]
      simp only [Option.map_some, T_osome]
      exact q _ _ (Ex.push _ _) (by simp [h1, h2])
    · simp only [h1, h2, decide_true, decide_false, if_true, Bool.false_eq_true, if_false]
      exact q _ _ (Ex.refl _) (by simp [h2])
  · simp only [h1, decide_false, Bool.false_eq_true, if_false]
    exact q _ _ (Ex.refl _) (by simp [h1])
section
variable {N : List Str} {A B : List Pr} {U : List Int}
/-- closed under ties within U -/
def Shd (B : List Pr) (U H : List Int) : Prop := ∀ p ∈ B, (p.1 ∈ H → p.2 ∈ U → p.2 ∈ H) ∧ (p.2 ∈ H → p.1 ∈ U → p.1 ∈ H)
structure Hds (A B : List Pr) (U : List Int) (x : Int) (H : List Int) : Prop where
  nd : H.Nodup
  sd : ∀ h ∈ H, Hd (arr A) (arr B) (· ∈ U) x h
  bs : ∀ h ∈ U, (x, h) ∈ A ∨ (x, h) ∈ B ∨ (h, x) ∈ B → h ∈ H
theorem Hds.sub {x : Int} {H : List Int} (h : Hds A B U x H) : ∀ v ∈ H, v ∈ U := fun v hv => hd_area (h.sd v hv)
theorem Hds.full {x : Int} {H : List Int} (h : Hds A B U x H) (c : Shd B U H) {v : Int} : v ∈ H ↔ Hd (arr A) (arr B) (· ∈ U) x v := by
  refine ⟨h.sd v, fun z => ?_⟩
  induction z with
  | base hu e => exact h.bs _ hu e
  | step _ e hu ih => exact e.elim (fun e => (c _ e).1 ih hu) fun e => (c _ e).2 ih hu
/-- the fresh heads of a turn; K: which ties were looked at -/
structure Frs (A B : List Pr) (U : List Int) (x : Int) (H : List Int) (K : Pr → Prop) (fr : List Int) : Prop where
  nd : (H ++ fr).Nodup
  sd : ∀ h ∈ fr, Hd (arr A) (arr B) (· ∈ U) x h
  dn : ∀ q, K q → q.1 ∈ H → q.2 ∈ U → q.2 ∈ H ++ fr
  em : Shd B U H → fr = []
theorem Frs.step {x u w : Int} {H fr : List Int} {K : Pr → Prop} {c : Bool} (h : Frs A B U x H K fr) (hs : Hds A B U x H) (e : (u, w) ∈ B ∨ (w, u) ∈ B) (hc : c = true ↔ u ∈ H ∧ w ∈ U ∧ w ∉ H ++ fr) : Frs A B U x H (fun q => q = (u, w) ∨ K q) (if c then fr ++ [w] else fr) := by
  cases c with
  | false =>
    refine ⟨h.nd, h.sd, fun q hq h1 h2 => ?_, h.em⟩
    rcases hq with rfl | hq
    · exact Classical.byContradiction fun z => by
        have := hc.mpr ⟨h1, h2, z⟩
        cases this
    · exact h.dn q hq h1 h2
  | true =>
    obtain ⟨h1, h2, h3⟩ := hc.mp rfl
    refine ⟨?_, fun v hv => ?_, fun q hq q1 q2 => ?_, fun sh => ?_⟩
    · show (H ++ (fr ++ [w])).Nodup
      rw [← List.append_assoc]
      exact List.nodup_append.mpr ⟨h.nd, by simp, fun a ha b hb e => h3 (by rw [List.mem_singleton.mp hb] at e; exact e ▸ ha)⟩
    · rcases List.mem_append.mp hv with hv | hv
      · exact h.sd v hv
      · rw [List.mem_singleton.mp hv]
        exact .step (hs.sd u h1) e h2
    · show q.2 ∈ H ++ (fr ++ [w])
      rw [← List.append_assoc]
      rcases hq with rfl | hq
      · simp
      · exact List.mem_append.mpr (.inl (h.dn q hq q1 q2))
    · exfalso
      have := h.em sh
      subst this
      rw [List.append_nil] at h3
      rcases e with e | e
      · exact h3 ((sh _ e).1 h1 h2)
      · exact h3 ((sh _ e).2 h1 h2)
theorem Frs.mono {x : Int} {H fr : List Int} {K K' : Pr → Prop} (h : Frs A B U x H K fr) (k : ∀ q, K' q → K q) : Frs A B U x H K' fr := ⟨h.nd, h.sd, fun q hq => h.dn q (k q hq), h.em⟩
theorem T_near (n : Nat) {s : Sto} (hd : Dia N A B) (ndU : U.Nodup) (rU : ∀ v ∈ U, 0 ≤ v ∧ v < N.length) (x : Int) :
    T (runN con4 fns (n + 1) (.fn k_law_near) [dia N A B, .tup (iL U), .int x] s) fun v s' => ∃ L, v = .tup (iL L) ∧ Ex s s' ∧ L.Pairwise (· < ·) ∧ ∀ w, w ∈ L ↔ Near (arr A) (arr B) (· ∈ U) x w := by
  refine T.post fun Q hQ => ?_
  have lU : U.length ≤ 12 := by
    have := nodup_sub_len (U := allv N.length) ndU fun v hv => allv_mem.mpr (rU v hv)
    have := hd.n2
    simp at *
    omega
  have lA := hd.la
  rw [call_fn f_law_near rfl]
  simp only [b_law_near, startE, T_scons, T_unp, T_var]
  simp [-T_genL]
  refine T_keepI (A := U) (fun p => decide ((x, p) ∈ A) || (decide ((x, p) ∈ B) || decide ((p, x) ∈ B))) (by simp) (fun p hp s => ?_) (fun p s => by simp [wipe, noClo]) (by omega) ?_
  · simp [wipe, noClo, isIn_pr2]
    by_cases h1 : (x, p) ∈ A
    · simp [h1]
    · by_cases h2 : (x, p) ∈ B
      · simp [h1, h2]
      · simp [h1, h2]
  obtain ⟨H0, eH0⟩ : ∃ H0, H0 = U.filter fun p => decide ((x, p) ∈ A) || (decide ((x, p) ∈ B) || decide ((p, x) ∈ B)) := ⟨_, rfl⟩
  obtain ⟨h0, eh0⟩ : ∃ h0, h0 = s.nxt := ⟨_, rfl⟩
  obtain ⟨s1, e1⟩ : ∃ s1, s1 = s.push (.lst (iL H0)) := ⟨_, rfl⟩
  rw [← eH0, ← eh0, ← e1]
  have k1 : s1.get h0 = some (.lst (iL H0)) := by rw [e1, eh0]; exact get_push_self _ _
  have x1 : Ex s s1 := by rw [e1]; exact Ex.push _ _
  have hs0 : Hds A B U x H0 := by
    refine ⟨by rw [eH0]; exact ndU.filter _, fun h hh => ?_, fun h hu e => ?_⟩
    · rw [eH0] at hh
      obtain ⟨h1, h2⟩ := List.mem_filter.mp hh
      simp at h2
      exact .base h1 h2
    · rw [eH0]
      exact List.mem_filter.mpr ⟨hu, by simpa using e⟩
  have lH : ∀ {H : List Int}, Hds A B U x H → H.length ≤ 12 := fun {H} h => Nat.le_trans (nodup_sub_len h.nd h.sub) lU
  refine T.mono (Q := fun f s' => ∃ (h : Nat) (H : List Int) (o7 o8 o9 o10 : Option D), f = .nx [some (dia N A B), some (.tup (iL U)), some (.int x), some (.tup (sL N)), some (.tup (pL A)), some (.tup (pL B)), some (.loc h), o7, o8, o9, o10, none, none, none] ∧ s'.get h = some (.lst (iL H)) ∧ Ex s s' ∧ Hds A B U x H ∧ Shd B U H)
    (T_for (fun r ρ s' => ∃ (h : Nat) (H : List Int) (o7 o8 o9 o10 : Option D) (pre rest : List Int), r = iL rest ∧ U = pre ++ rest ∧ ρ = [some (dia N A B), some (.tup (iL U)), some (.int x), some (.tup (sL N)), some (.tup (pL A)), some (.tup (pL B)), some (.loc h), o7, o8, o9, o10, none, none, none] ∧ s'.get h = some (.lst (iL H)) ∧ Ex s s' ∧ Hds A B U x H ∧ (Shd B U H ∨ 1 + pre.length ≤ H.length)) (fun _ _ _ _ => rfl) ?_ ?_ _ _ _
      ⟨h0, H0, none, none, none, none, [], U, rfl, rfl, rfl, k1, x1, hs0, ?_⟩) fun f s' ⟨h, H, o7, o8, o9, o10, ef, kh, x2, hh, hc⟩ => ?_
  · rintro t r ρ s2 ⟨h, H, o7, o8, o9, o10, pre, rest, hr, hall, rfl, k2, x2, hs2, hor⟩
    cases rest with
    | nil => cases hr
    | cons z rest =>
      obtain ⟨rfl, rfl⟩ := List.cons.inj (show t :: r = D.int z :: iL rest from hr)
      refine ⟨_, rfl, ?_⟩
      have lH2 := lH hs2
      simp only [T_scons, T_set, T_lst, T_nil, mkList0]
      obtain ⟨f, ef⟩ : ∃ f, f = s2.nxt := ⟨_, rfl⟩
      obtain ⟨s3, e3⟩ : ∃ s3, s3 = s2.push (.lst []) := ⟨_, rfl⟩
      have f3 : s3.get f = some (.lst (iL [])) := by rw [e3, ef]; exact get_push_self _ _
      have k3 : s3.get h = some (.lst (iL H)) := by rw [e3]; exact get_push k2
      have x3 : Ex s s3 := by rw [e3]; exact x2.trans (Ex.push _ _)
      have hf : h < f := by rw [ef]; exact get_lt k2
      have sf : s.nxt ≤ f := by rw [ef]; exact x2.le
      rw [← e3, ← ef]
      simp only [then_nx, T_scons, T_forr, T_sre, T_var]
      simp [-T_and]
      refine T.mono (Q := fun f' s' => ∃ (o9 o10 : Option D) (fr : List Int), f' = .nx [some (dia N A B), some (.tup (iL U)), some (.int x), some (.tup (sL N)), some (.tup (pL A)), some (.tup (pL B)), some (.loc h), some (.int z), some (.loc f), o9, o10, none, none, none] ∧ s'.get h = some (.lst (iL H)) ∧ s'.get f = some (.lst (iL fr)) ∧ Ex s s' ∧ Frs A B U x H (fun q => q ∈ B ∨ (q.2, q.1) ∈ B) fr)
        (T_for (fun r ρ s' => ∃ (o9 o10 : Option D) (fr : List Int) (dB rB : List Pr), r = pL rB ∧ B = dB ++ rB ∧ ρ = [some (dia N A B), some (.tup (iL U)), some (.int x), some (.tup (sL N)), some (.tup (pL A)), some (.tup (pL B)), some (.loc h), some (.int z), some (.loc f), o9, o10, none, none, none] ∧ s'.get h = some (.lst (iL H)) ∧ s'.get f = some (.lst (iL fr)) ∧ Ex s s' ∧ Frs A B U x H (fun q => q ∈ dB ∨ (q.2, q.1) ∈ dB) fr) (fun _ _ _ _ => rfl) ?_ ?_ _ _ _
          ⟨o9, o10, [], [], B, rfl, rfl, rfl, k3, f3, x3, ⟨by simpa using hs2.nd, fun v hv => (by cases hv), fun q hq => hq.elim (fun z => by cases z) (fun z => by cases z), fun _ => rfl⟩⟩) fun f' s' ⟨o9, o10, fr, ef', k4, f4, x4, hfr⟩ => ?_
      · rintro t r ρ s4 ⟨o9, o10, fr, dB, rB, hr, hB2, rfl, k4, f4, x4, hfr⟩
        cases rB with
        | nil => cases hr
        | cons p rB =>
          obtain ⟨rfl, rfl⟩ := List.cons.inj (show t :: r = prD p :: pL rB from hr)
          obtain ⟨a, b⟩ := p
          have pB : (a, b) ∈ B := by rw [hB2]; simp
          refine ⟨_, rfl, ?_⟩
          have bnd : ∀ {K : Pr → Prop} {fr : List Int}, Frs A B U x H K fr → H.length + fr.length ≤ 1000 := fun {K fr} h => by
            have := nodup_sub_len h.nd fun v hv => (List.mem_append.mp hv).elim (hs2.sub v) fun hv => hd_area (h.sd v hv)
            rw [List.length_append] at this
            omega
          rw [T_scons, T_site]
          refine T_tst (a := 9) (b := 10) (u := a) (w := b) (U := U) (H := H) (fr := fr) (fun _ => rfl) (fun _ => rfl) (fun _ => rfl) (fun _ => rfl) (fun _ => rfl) k4 f4 (bnd hfr) fun s5 c x5 hc => ?_
          simp only [T_trub]
          have h1 := hfr.step hs2 (.inl pB) hc
          have two : ∀ (s6 : Sto) (fr1 : List Int), s6.get h = some (.lst (iL H)) → s6.get f = some (.lst (iL fr1)) → Ex s s6 → Frs A B U x H (fun q => q = (a, b) ∨ (q ∈ dB ∨ (q.2, q.1) ∈ dB)) fr1 →
              T (evS con4 (runN con4 fns n) (.ite (.and (.cmp .isin (.var 10) (.var 6)) (.and (.cmp .isin (.var 9) (.var 1)) (.cmp .notin (.var 9) (.bin .add (.var 6) (.var 8))))) (.cons (.expr (.mt .append (.var 8) (.cons (.var 9) .nil))) .nil) .nil)
                [some (dia N A B), some (.tup (iL U)), some (.int x), some (.tup (sL N)), some (.tup (pL A)), some (.tup (pL B)), some (.loc h), some (.int z), some (.loc f), some (.int a), some (.int b), none, none, none] s6)
                (fun f' s' => ∃ fr2, f' = .nx [some (dia N A B), some (.tup (iL U)), some (.int x), some (.tup (sL N)), some (.tup (pL A)), some (.tup (pL B)), some (.loc h), some (.int z), some (.loc f), some (.int a), some (.int b), none, none, none] ∧ s'.get h = some (.lst (iL H)) ∧ s'.get f = some (.lst (iL fr2)) ∧ Ex s s' ∧ Frs A B U x H (fun q => q ∈ dB ++ [(a, b)] ∨ (q.2, q.1) ∈ dB ++ [(a, b)]) fr2) := fun s6 fr1 k6 f6 x6 h6 => by
            rw [T_site]
            refine T_tst (a := 10) (b := 9) (u := b) (w := a) (U := U) (H := H) (fr := fr1) (fun _ => rfl) (fun _ => rfl) (fun _ => rfl) (fun _ => rfl) (fun _ => rfl) k6 f6 (bnd h6) fun s7 c x7 hc => ?_
            simp only [T_trub]
            have h2 := (h6.step hs2 (.inr pB) hc).mono (K' := fun q => q ∈ dB ++ [(a, b)] ∨ (q.2, q.1) ∈ dB ++ [(a, b)]) fun q hq => by
              simp only [List.mem_append, List.mem_singleton] at hq
              rcases hq with (hq | hq) | (hq | hq)
              · exact .inr (.inr (.inl hq))
              · exact .inr (.inl hq)
              · exact .inr (.inr (.inr hq))
              · obtain ⟨e1, e2⟩ := Prod.mk.inj hq
                exact .inl (Prod.ext e2 e1)
            have f7 := x7 _ _ f6
            cases c with
            | false =>
              simp only [Bool.false_eq_true, if_false] at h2 ⊢
              simp
              exact ⟨x7 _ _ k6, fr1, f7, x6.trans x7, by simpa using h2⟩
            | true =>
              simp only [if_true] at h2 ⊢
              simp
              rw [T_isL f7, T_app f7 (by have := bnd h6; simp; omega)]
              refine ⟨by rw [get_put_ne (by omega)]; exact x7 _ _ k6, fr1 ++ [a], by rw [get_put_self f7]; simp [iL], (x6.trans x7).put sf _, by simpa using h2⟩
          have k5 := x5 _ _ k4
          have f5 := x5 _ _ f4
          cases c with
          | false =>
            simp only [Bool.false_eq_true, if_false] at h1 ⊢
            simp [-T_and, -T_site]
            refine (two s5 fr k5 f5 (x4.trans x5) h1).mono fun f' s' ⟨fr2, ef', q1, q2, q3, q4⟩ => ?_
            subst ef'
            simp
            exact ⟨_, _, fr2, dB ++ [(a, b)], rB, rfl, by simp [hB2], ⟨rfl, rfl⟩, q1, q2, q3, by simpa using q4⟩
          | true =>
            simp only [if_true] at h1 ⊢
            simp [-T_and, -T_site]
            rw [T_isL f5, T_app f5 (by have := bnd hfr; simp; omega)]
            refine (two _ (fr ++ [b]) (by rw [get_put_ne (by omega)]; exact k5) (by rw [get_put_self f5]; simp [iL]) ((x4.trans x5).put sf _) h1).mono fun f' s' ⟨fr2, ef', q1, q2, q3, q4⟩ => ?_
            subst ef'
            simp
            exact ⟨_, _, fr2, dB ++ [(a, b)], rB, rfl, by simp [hB2], ⟨rfl, rfl⟩, q1, q2, q3, by simpa using q4⟩
      · rintro ρ s4 ⟨o9, o10, fr, dB, rB, hr, hB2, rfl, k4, f4, x4, hfr⟩
        cases rB with
        | cons q rB => cases hr
        | nil =>
          have hp : dB = B := by simpa using hB2.symm
          subst hp
          exact ⟨o9, o10, fr, rfl, k4, f4, x4, hfr⟩
      · subst ef'
        simp
        have f5 : (s'.push (.lst [])).get f = some (.lst (iL fr)) := get_push f4
        have n5 : (s'.push (.lst [])).get s'.nxt = some (.lst (iL [])) := get_push_self _ _
        have k5 : (s'.push (.lst [])).get h = some (.lst (iL H)) := get_push k4
        have x5 : Ex s (s'.push (.lst [])) := x4.trans (Ex.push _ _)
        obtain ⟨s5, e5⟩ : ∃ s5, s5 = s'.push (.lst []) := ⟨_, rfl⟩
        rw [← e5] at f5 n5 k5 x5 ⊢
        rw [eqD_lints f5 n5]
        by_cases hfe : fr = []
        · subst hfe
          simp
          exact ⟨H, k5, x5, hs2, fun p hp => ⟨fun h1 h2 => by simpa using hfr.dn p (.inl hp) h1 h2, fun h1 h2 => by simpa using hfr.dn (p.2, p.1) (.inr hp) h1 h2⟩⟩
        · simp [hfe]
          rw [T_addLL k5 f5 (by have := lH hs2; have := nodup_sub_len hfr.nd fun v hv => (List.mem_append.mp hv).elim (hs2.sub v) fun hv => hd_area (hfr.sd v hv); rw [List.length_append] at this; omega)]
          refine ⟨_, H ++ fr, _, _, _, _, pre ++ [z], rest, rfl, by simp [hall], ⟨rfl, rfl, rfl, rfl, rfl⟩, get_push_self _ _, x5.trans (Ex.push _ _), ⟨hfr.nd, fun v hv => (List.mem_append.mp hv).elim (hs2.sd v) (hfr.sd v), fun v hv e => List.mem_append.mpr (.inl (hs2.bs v hv e))⟩, ?_⟩
          right
          rcases hor with hor | hor
          · exact absurd (hfr.em hor) hfe
          · have := List.length_pos_iff.mpr hfe
            simp
            omega
  · rintro ρ s2 ⟨h, H, o7, o8, o9, o10, pre, rest, hr, hall, rfl, k2, x2, hs2, hor⟩
    cases rest with
    | cons z rest => cases hr
    | nil =>
      refine ⟨h, H, o7, o8, o9, o10, rfl, k2, x2, hs2, hor.elim id fun hle => ?_⟩
      have hp : pre = U := by simpa using hall.symm
      subst hp
      have := nodup_sub_len hs2.nd hs2.sub
      omega
  · cases H0 with
    | nil => exact .inl fun p _ => ⟨fun z => (by cases z), fun z => (by cases z)⟩
    | cons a l => exact .inr (by simp)
  · subst ef
    simp [-T_genL]
    refine T_keepI (A := U) (fun p => decide ((p, x) ∈ A)) (by simp) (fun p hp s => ?_) (fun p s => by simp [wipe, noClo]) (by omega) ?_
    · simp [wipe, noClo, isIn_pr2]
    obtain ⟨P1, eP1⟩ : ∃ P1, P1 = U.filter fun p => decide ((p, x) ∈ A) := ⟨_, rfl⟩
    rw [← eP1]
    have lP1 : P1.length ≤ 12 := by rw [eP1]; exact Nat.le_trans (List.length_filter_le _ _) lU
    have lHH := lH hh
    rw [T_addLL (get_push kh) (get_push_self _ _) (by omega)]
    obtain ⟨k5, ek5⟩ : ∃ k5, k5 = (s'.push (.lst (iL P1))).nxt := ⟨_, rfl⟩
    obtain ⟨s5, e5⟩ : ∃ s5, s5 = (s'.push (.lst (iL P1))).push (.lst (iL (H ++ P1))) := ⟨_, rfl⟩
    have g5 : s5.get k5 = some (.lst (iL (H ++ P1))) := by rw [e5, ek5]; exact get_push_self _ _
    have x5 : Ex s' s5 := by rw [e5]; exact (Ex.push _ _).trans (Ex.push _ _)
    rw [← ek5, ← e5]
    simp
    have kh5 := x5 _ _ kh
    refine T_lcP (enc := prD) s5 (fun p => decide (p.1 ∈ U) && decide (p.2 ∈ H)) (fun p => .int p.1) (fun _ => rfl) A [] (fun p hp => ⟨_, rfl, fun acc => ?_⟩) (by simp; omega) ?_
    · have := get_push (o := .lst acc) kh5
      simp [wipe, noClo]
      by_cases h1 : p.1 ∈ U
      · simp [h1, isIn_lints this]
      · simp [h1]
    obtain ⟨P2, eP2⟩ : ∃ P2 : List Int, P2 = (A.filter fun p => decide (p.1 ∈ U) && decide (p.2 ∈ H)).map (·.1) := ⟨_, rfl⟩
    have eI : ([] : List D) ++ (A.filter fun p => decide (p.1 ∈ U) && decide (p.2 ∈ H)).map (fun p => D.int p.1) = iL P2 := by rw [eP2]; simp [iL]
    have lP2 : P2.length ≤ 144 := by rw [eP2, List.length_map]; exact Nat.le_trans (List.length_filter_le _ _) lA
    rw [eI, T_addLL (get_push g5) (get_push_self _ _) (by simp; omega)]
    obtain ⟨k6, ek6⟩ : ∃ k6, k6 = (s5.push (.lst (iL P2))).nxt := ⟨_, rfl⟩
    obtain ⟨s6, e6⟩ : ∃ s6, s6 = (s5.push (.lst (iL P2))).push (.lst (iL (H ++ P1 ++ P2))) := ⟨_, rfl⟩
    have g6 : s6.get k6 = some (.lst (iL (H ++ P1 ++ P2))) := by rw [e6, ek6]; exact get_push_self _ _
    have x6 : Ex s' s6 := by rw [e6]; exact (x5.trans (Ex.push _ _)).trans (Ex.push _ _)
    rw [← ek6, ← e6]
    simp
    rw [walk_loc g6]
    simp only [T_osome]
    refine T_lcP (enc := D.int) s6 (fun p => !decide (p = x)) D.int (fun acc => still_iL (get_push g6)) (H ++ P1 ++ P2) [] (fun p hp => ⟨_, rfl, fun acc => ?_⟩) (by simp; omega) ?_
    · simp [wipe, noClo]
    obtain ⟨F, eF⟩ : ∃ F : List Int, F = (H ++ P1 ++ P2).filter fun p => !decide (p = x) := ⟨_, rfl⟩
    have eI2 : ([] : List D) ++ ((H ++ P1 ++ P2).filter fun p => !decide (p = x)).map D.int = iL F := by rw [eF]; rfl
    have lF : F.length ≤ 300 := by
      rw [eF]
      refine Nat.le_trans (List.length_filter_le _ _) ?_
      simp
      omega
    have mF : ∀ w, w ∈ F ↔ (w ∈ H ∨ (w ∈ U ∧ (w, x) ∈ A) ∨ ∃ h, h ∈ H ∧ (w, h) ∈ A ∧ w ∈ U) ∧ w ≠ x := fun w => by
      rw [eF, List.mem_filter, List.mem_append, List.mem_append, eP1, eP2, List.mem_filter, List.mem_map]
      constructor
      · rintro ⟨h1, h2⟩
        refine ⟨?_, by simpa using h2⟩
        rcases h1 with (h1 | h1) | ⟨p, h1, h3⟩
        · exact .inl h1
        · exact .inr (.inl ⟨h1.1, by simpa using h1.2⟩)
        · obtain ⟨h4, h5⟩ := List.mem_filter.mp h1
          simp at h5
          subst h3
          exact .inr (.inr ⟨p.2, h5.2, h4, h5.1⟩)
      · rintro ⟨h1, h2⟩
        refine ⟨?_, by simpa using h2⟩
        rcases h1 with h1 | ⟨h1, h3⟩ | ⟨h, h1, h3, h4⟩
        · exact .inl (.inl h1)
        · exact .inl (.inr ⟨h1, by simpa using h3⟩)
        · exact .inr ⟨(w, h), List.mem_filter.mpr ⟨h3, by simp [h1, h4]⟩, rfl⟩
    have lD : F.eraseDups.length ≤ 60 := by
      have := nodup_sub_len (U := U) (nodup_dd _ F (Nat.le_refl _)) fun w hw => by
        rcases ((mF w).mp (List.mem_eraseDups.mp hw)).1 with h1 | ⟨h1, _⟩ | ⟨_, _, _, h1⟩
        · exact hh.sub w h1
        · exact h1
        · exact h1
      omega
    rw [eI2, T_ssetL (get_push_self _ _) (by omega) lD, tuple_loc (get_push_self _ _)]
    simp
    refine hQ _ _ ⟨isort F.eraseDups, rfl, ((x2.trans x6).trans (Ex.push _ _)).trans (Ex.push _ _), isort_lt (nodup_dd _ F (Nat.le_refl _)), fun w => ?_⟩
    rw [isort_mem, List.mem_eraseDups, mF w]
    unfold Near
    constructor
    · rintro ⟨h1, h2⟩
      refine ⟨h2, ?_⟩
      rcases h1 with h1 | ⟨h1, h3⟩ | ⟨h, h1, h3, h4⟩
      · exact ⟨hh.sub w h1, .inl (hh.sd w h1)⟩
      · exact ⟨h1, .inr (.inl h3)⟩
      · exact ⟨h4, .inr (.inr ⟨h, hh.sd h h1, h3⟩)⟩
    · rintro ⟨h2, hu, h1⟩
      refine ⟨?_, h2⟩
      rcases h1 with h1 | h1 | ⟨h, h1, h3⟩
      · exact .inl ((hh.full hc).mpr h1)
      · exact .inr (.inl ⟨hu, h1⟩)
      · exact .inr (.inr ⟨h, (hh.full hc).mpr h1, h3, hu⟩)
end
end EV
/-! QvG: what the law comes to over neighbours; the law's own apart (own work). -/
namespace EV
open PySem (Str PyData)
theorem T_keepT {con : List D} {cf : Cf} {ρ : Env} {s : Sto} {Q : D → Sto → Prop} {src : Sr} {i : Nat} {ifs : Es} {A : List Int} (P : Int → Bool) (hs : T (evSr con cf src ρ s) fun v s' => v = (iL A, none) ∧ s' = s)
    (ht : ∀ p ∈ A, ∀ acc, T (evIfs con cf ifs ((wipe (noClo ρ) [i]).set i (some (.int p))) (s.push (.lst acc))) fun b s1 => b = P p ∧ s1 = s.push (.lst acc))
    (he : ∀ p s, T (evE con cf (.var i) ((wipe (noClo ρ) [i]).set i (some (.int p))) s) fun d s1 => d = .int p ∧ s1 = s)
    (hl : A.length ≤ 1000) (q : Q (.loc s.nxt) (s.push (.lst (iL (A.filter P))))) : T (evE con cf (.gen .list src (.n i) [i] ifs (.var i)) ρ s) Q := by
  rw [T_genL, T_eq hs]
  simp only [T_ok, walk_tup, T_osome]
  refine T_lcP (enc := D.int) s P D.int (fun acc => rfl) A [] (fun p hp => ⟨_, rfl, fun acc => ?_⟩) (by simp; omega) (by simpa [iL] using q)
  refine (ht p hp _).mono fun b s1 ⟨h1, h2⟩ => ⟨h1, h2, fun _ => ?_⟩
  rw [h2]
  exact he p _
section
variable {N : List Str} {A B : List Pr} {U X Z : List Int}
/-- nothing more is come to from F -/
def Clz (A B : List Pr) (U Z F : List Int) : Prop := ∀ v ∈ F, ∀ w, Near (arr A) (arr B) (· ∈ U) v w → w ∉ Z → w ∈ F
structure Fnd (A B : List Pr) (U X Z F Ln : List Int) : Prop where
  nd : F.Nodup
  mr : ∀ v ∈ F, v ∈ U ∧ Mr (arr A) (arr B) (· ∈ U) (· ∈ X) (· ∈ Z) v
  bs : ∀ v ∈ X, v ∈ F
  ln : ∀ v ∈ Ln, v ∈ F
  cl : ∀ v ∈ F, v ∉ Ln → ∀ w, Near (arr A) (arr B) (· ∈ U) v w → w ∉ Z → w ∈ F
structure Frh (A B : List Pr) (U X Z F dL Fr : List Int) : Prop where
  nd : (F ++ Fr).Nodup
  mr : ∀ v ∈ Fr, v ∈ U ∧ Mr (arr A) (arr B) (· ∈ U) (· ∈ X) (· ∈ Z) v
  dn : ∀ v ∈ dL, ∀ w, Near (arr A) (arr B) (· ∈ U) v w → w ∉ Z → w ∈ F ++ Fr
  em : Clz A B U Z F → Fr = []
theorem clz_mem {F : List Int} (h : Clz A B U Z F) (hb : ∀ v ∈ X, v ∈ F) {v : Int} (m : Mr (arr A) (arr B) (· ∈ U) (· ∈ X) (· ∈ Z) v) : v ∈ F := by
  induction m with
  | base h => exact hb _ h
  | step _ nr nz ih => exact h _ ih _ nr nz
theorem T_reach (n : Nat) {s : Sto} (hd : Dia N A B) (ndU : U.Nodup) (rU : ∀ v ∈ U, 0 ≤ v ∧ v < N.length) (ndX : X.Nodup) (xU : ∀ v ∈ X, v ∈ U) :
    T (runN con4 fns (n + 2) (.fn k_law_reached) [dia N A B, .tup (iL U), .tup (iL X), .tup (iL Z)] s) fun v s' => ∃ L, v = .tup (iL L) ∧ Ex s s' ∧ L.length ≤ 12 ∧ ∀ w, w ∈ L ↔ Mr (arr A) (arr B) (· ∈ U) (· ∈ X) (· ∈ Z) w := by
  refine T.post fun Q hQ => ?_
  have lU : U.length ≤ 12 := by
    have := nodup_sub_len (U := allv N.length) ndU fun v hv => allv_mem.mpr (rU v hv)
    have := hd.n2
    simp at *
    omega
  have lX : X.length ≤ 12 := Nat.le_trans (nodup_sub_len ndX xU) lU
  rw [call_fn f_law_reached rfl]
  simp only [b_law_reached, startE, T_scons, T_unp, T_tup, T_cons, T_nil, T_bf, T_var]
  simp
  simp only [list_tup]
  rw [T_mkList (by simp; omega)]
  obtain ⟨k0, ek0⟩ : ∃ k0, k0 = s.nxt := ⟨_, rfl⟩
  obtain ⟨s1, e1⟩ : ∃ s1, s1 = s.push (.lst (iL X)) := ⟨_, rfl⟩
  have g1 : s1.get k0 = some (.lst (iL X)) := by rw [e1, ek0]; exact get_push_self _ _
  rw [← ek0, ← e1]
  rw [T_mkList (by simp; omega)]
  obtain ⟨l0, el0⟩ : ∃ l0, l0 = s1.nxt := ⟨_, rfl⟩
  obtain ⟨s2, e2⟩ : ∃ s2, s2 = s1.push (.lst (iL X)) := ⟨_, rfl⟩
  have g2 : s2.get k0 = some (.lst (iL X)) := by rw [e2]; exact get_push g1
  have h2 : s2.get l0 = some (.lst (iL X)) := by rw [e2, el0]; exact get_push_self _ _
  have x2 : Ex s s2 := by rw [e2, e1]; exact (Ex.push _ _).trans (Ex.push _ _)
  rw [← el0, ← e2]
  refine T.mono (Q := fun f s' => ∃ (h l : Nat) (F : List Int) (o6 o7 o8 o9 o10 : Option D), f = .nx [some (dia N A B), some (.tup (iL U)), some (.tup (iL X)), some (.tup (iL Z)), some (.loc h), some (.loc l), o6, o7, o8, o9, o10] ∧ s'.get h = some (.lst (iL F)) ∧ Ex s s' ∧ (∀ v ∈ F, v ∈ U ∧ Mr (arr A) (arr B) (· ∈ U) (· ∈ X) (· ∈ Z) v) ∧ F.Nodup ∧ (∀ v ∈ X, v ∈ F) ∧ Clz A B U Z F)
    (T_for (fun r ρ s' => ∃ (h l : Nat) (F Ln : List Int) (o6 o7 o8 o9 o10 : Option D) (pre rest : List Int), r = iL rest ∧ U = pre ++ rest ∧ ρ = [some (dia N A B), some (.tup (iL U)), some (.tup (iL X)), some (.tup (iL Z)), some (.loc h), some (.loc l), o6, o7, o8, o9, o10] ∧ s'.get h = some (.lst (iL F)) ∧ s'.get l = some (.lst (iL Ln)) ∧ Ex s s' ∧ Fnd A B U X Z F Ln ∧ (Clz A B U Z F ∨ 1 + pre.length ≤ F.length)) (fun _ _ _ _ => rfl) ?_ ?_ _ _ _
      ⟨k0, l0, X, X, none, none, none, none, none, [], U, rfl, rfl, rfl, g2, h2, x2, ⟨ndX, fun v hv => ⟨xU v hv, .base hv⟩, fun _ h => h, fun _ h => h, fun v hv hn => absurd hv hn⟩, ?_⟩) fun f s' ⟨h, l, F, o6, o7, o8, o9, o10, ef, kh, x3, hF1, hF2, hF3, hF4⟩ => ?_
  · rintro t r ρ s3 ⟨h, l, F, Ln, o6, o7, o8, o9, o10, pre, rest, hr, hall, rfl, g3, l3, x3, fd, hor⟩
    cases rest with
    | nil => cases hr
    | cons z rest =>
      obtain ⟨rfl, rfl⟩ := List.cons.inj (show t :: r = D.int z :: iL rest from hr)
      refine ⟨_, rfl, ?_⟩
      have lF : ∀ {Fr : List Int} {dL : List Int}, Frh A B U X Z F dL Fr → F.length + Fr.length ≤ 12 := fun {Fr dL} h => by
        have := nodup_sub_len h.nd fun v hv => (List.mem_append.mp hv).elim (fun hv => (fd.mr v hv).1) fun hv => (h.mr v hv).1
        rw [List.length_append] at this
        omega
      simp only [T_scons, T_set, T_lst, T_nil, mkList0]
      obtain ⟨f0, ef0⟩ : ∃ f0, f0 = s3.nxt := ⟨_, rfl⟩
      obtain ⟨s4, e4⟩ : ∃ s4, s4 = s3.push (.lst []) := ⟨_, rfl⟩
      have f4 : s4.get f0 = some (.lst (iL [])) := by rw [e4, ef0]; exact get_push_self _ _
      have g4 : s4.get h = some (.lst (iL F)) := by rw [e4]; exact get_push g3
      have l4 : s4.get l = some (.lst (iL Ln)) := by rw [e4]; exact get_push l3
      have x4 : Ex s s4 := by rw [e4]; exact x3.trans (Ex.push _ _)
      rw [← e4, ← ef0]
      simp only [then_nx, T_scons, T_forr, T_sre, T_var]
      simp
      rw [walk_loc l4]
      simp only [T_osome]
      refine T.mono (Q := fun f' s' => ∃ (k : Nat) (o8 o9 o10 : Option D) (Fr : List Int), f' = .nx [some (dia N A B), some (.tup (iL U)), some (.tup (iL X)), some (.tup (iL Z)), some (.loc h), some (.loc l), some (.int z), some (.loc k), o8, o9, o10] ∧ s'.get k = some (.lst (iL Fr)) ∧ Ex s4 s' ∧ Frh A B U X Z F Ln Fr)
        (T_for (fun r ρ s' => ∃ (k : Nat) (o8 o9 o10 : Option D) (dL rL Fr : List Int), r = iL rL ∧ Ln = dL ++ rL ∧ ρ = [some (dia N A B), some (.tup (iL U)), some (.tup (iL X)), some (.tup (iL Z)), some (.loc h), some (.loc l), some (.int z), some (.loc k), o8, o9, o10] ∧ s'.get k = some (.lst (iL Fr)) ∧ Ex s4 s' ∧ Frh A B U X Z F dL Fr) (fun _ _ _ ⟨_, _, _, _, _, _, _, _, _, _, _, hx, _⟩ => still_iL (hx _ _ l4)) ?_ ?_ _ _ _
          ⟨f0, o8, o9, o10, [], Ln, [], rfl, rfl, rfl, f4, Ex.refl _, ⟨by simpa using fd.nd, fun v hv => (by cases hv), fun v hv => (by cases hv), fun _ => rfl⟩⟩) fun f' s' ⟨k, o8, o9, o10, Fr, ef', k5, x5, hfr⟩ => ?_
      · rintro t r ρ s5 ⟨k, o8, o9, o10, dL, rL, Fr, hr, hL2, rfl, k5, x5, hfr⟩
        cases rL with
        | nil => cases hr
        | cons a rL =>
          obtain ⟨rfl, rfl⟩ := List.cons.inj (show t :: r = D.int a :: iL rL from hr)
          have aF : a ∈ F := fd.ln a (by rw [hL2]; simp)
          refine ⟨_, rfl, ?_⟩
          simp [-T_genL]
          refine (T_near n hd ndU rU a).mono fun v s6 ⟨L, ev, x6, hL1, hL2'⟩ => ?_
          subst ev
          have lL : L.length ≤ 12 := by
            have := nodup_sub_len (U := U) (hL1.imp fun h => by omega) fun w hw => ((hL2' w).mp hw).2.1
            omega
          have k6 := x6 _ _ k5
          have g6 := x6 _ _ (x5 _ _ g4)
          have lfr := lF hfr
          refine T_keepT (A := L) (fun w => !decide (w ∈ F) && (!decide (w ∈ Z) && !decide (w ∈ Fr))) (by simp) (fun p hp acc => ?_) (fun p s => by simp [wipe, noClo]) (by omega) ?_
          · have g7 := get_push (o := .lst acc) g6
            have k7 := get_push (o := .lst acc) k6
            simp [wipe, noClo, isIn_lints g7]
            by_cases h1 : p ∈ F
            · simp [h1]
            · simp [h1]
              by_cases h2 : p ∈ Z
              · simp [h2]
              · simp [h2, isIn_lints k7]
          obtain ⟨P, eP⟩ : ∃ P, P = L.filter fun w => !decide (w ∈ F) && (!decide (w ∈ Z) && !decide (w ∈ Fr)) := ⟨_, rfl⟩
          rw [← eP]
          have lP : P.length ≤ 12 := by rw [eP]; exact Nat.le_trans (List.length_filter_le _ _) lL
          have mP : ∀ w, w ∈ P ↔ Near (arr A) (arr B) (· ∈ U) a w ∧ w ∉ F ∧ w ∉ Z ∧ w ∉ Fr := fun w => by
            rw [eP, List.mem_filter, hL2' w]
            simp
          rw [T_addLL (get_push k6) (get_push_self _ _) (by omega)]
          refine ⟨_, _, _, _, dL ++ [a], rL, rfl, by simp [hL2], ⟨rfl, rfl, rfl, rfl⟩, Fr ++ P, get_push_self _ _, ((x5.trans x6).trans (Ex.push _ _)).trans (Ex.push _ _), ?_, fun v hv => ?_, fun v hv w nr nz => ?_, fun hc => ?_⟩
          · rw [← List.append_assoc]
            refine List.nodup_append.mpr ⟨hfr.nd, by rw [eP]; exact (hL1.imp fun h => by omega).filter _, fun p hp q hq e => ?_⟩
            subst e
            obtain ⟨_, h1, _, h2⟩ := (mP p).mp hq
            exact (List.mem_append.mp hp).elim h1 h2
          · rcases List.mem_append.mp hv with hv | hv
            · exact hfr.mr v hv
            · obtain ⟨h1, h2, h3, h4⟩ := (mP v).mp hv
              exact ⟨h1.2.1, .step (fd.mr a aF).2 h1 h3⟩
          · rw [← List.append_assoc]
            rcases List.mem_append.mp hv with hv | hv
            · exact List.mem_append.mpr (.inl (hfr.dn v hv w nr nz))
            · rw [List.mem_singleton.mp hv] at nr
              by_cases hw : w ∈ F ++ Fr
              · exact List.mem_append.mpr (.inl hw)
              · exact List.mem_append.mpr (.inr ((mP w).mpr ⟨nr, fun z => hw (List.mem_append.mpr (.inl z)), nz, fun z => hw (List.mem_append.mpr (.inr z))⟩))
          · have e1 := hfr.em hc
            subst e1
            have : P = [] := List.eq_nil_iff_forall_not_mem.mpr fun w hw => by
              obtain ⟨h1, h2, h3, h4⟩ := (mP w).mp hw
              exact h2 (hc a aF w h1 h3)
            rw [this]
            rfl
      · rintro ρ s5 ⟨k, o8, o9, o10, dL, rL, Fr, hr, hL2, rfl, k5, x5, hfr⟩
        cases rL with
        | cons q rL => cases hr
        | nil =>
          have hp : dL = Ln := by simpa using hL2.symm
          subst hp
          exact ⟨k, o8, o9, o10, Fr, rfl, k5, x5, hfr⟩
      · subst ef'
        simp
        have k6 : (s'.push (.lst [])).get k = some (.lst (iL Fr)) := get_push k5
        have n6 : (s'.push (.lst [])).get s'.nxt = some (.lst (iL [])) := get_push_self _ _
        have g6 : (s'.push (.lst [])).get h = some (.lst (iL F)) := get_push (x5 _ _ g4)
        have x6 : Ex s (s'.push (.lst [])) := (x4.trans x5).trans (Ex.push _ _)
        obtain ⟨s6, e6⟩ : ∃ s6, s6 = s'.push (.lst []) := ⟨_, rfl⟩
        rw [← e6] at k6 n6 g6 x6 ⊢
        rw [eqD_lints k6 n6]
        have lfr := lF hfr
        by_cases hfe : Fr = []
        · subst hfe
          simp
          refine ⟨F, g6, x6, fun v hv => ?_, fd.nd, fd.bs, fun v hv w nr nz => ?_⟩
          · exact fd.mr v hv
          · by_cases hl : v ∈ Ln
            · simpa using hfr.dn v hl w nr nz
            · exact fd.cl v hv hl w nr nz
        · simp [hfe]
          rw [T_addLL g6 k6 (by omega)]
          simp
          refine ⟨_, _, F ++ Fr, Fr, _, _, _, _, _, pre ++ [z], rest, rfl, by simp [hall], ⟨rfl, rfl, rfl, rfl, rfl, rfl, rfl⟩, get_push_self _ _, get_push k6, x6.trans (Ex.push _ _), ⟨hfr.nd, fun v hv => (List.mem_append.mp hv).elim (fd.mr v) (hfr.mr v), fun v hv => List.mem_append.mpr (.inl (fd.bs v hv)), fun v hv => List.mem_append.mpr (.inr hv), fun v hv hn w nr nz => ?_⟩, ?_⟩
          · have vF : v ∈ F := (List.mem_append.mp hv).elim id fun z => absurd z hn
            by_cases hl : v ∈ Ln
            · exact hfr.dn v hl w nr nz
            · exact List.mem_append.mpr (.inl (fd.cl v vF hl w nr nz))
          · right
            rcases hor with hor | hor
            · exact absurd (hfr.em hor) hfe
            · have := List.length_pos_iff.mpr hfe
              simp
              omega
  · rintro ρ s3 ⟨h, l, F, Ln, o6, o7, o8, o9, o10, pre, rest, hr, hall, rfl, g3, l3, x3, fd, hor⟩
    cases rest with
    | cons z rest => cases hr
    | nil =>
      have hp : pre = U := by simpa using hall.symm
      subst hp
      have lF := nodup_sub_len fd.nd fun v hv => (fd.mr v hv).1
      exact ⟨h, l, F, o6, o7, o8, o9, o10, rfl, g3, x3, fd.mr, fd.nd, fd.bs, hor.elim id fun hle => by omega⟩
  · cases X with
    | nil => exact .inl fun v hv => by cases hv
    | cons a l => exact .inr (by simp)
  · subst ef
    simp
    have lF : F.length ≤ 12 := Nat.le_trans (nodup_sub_len hF2 fun v hv => (hF1 v hv).1) lU
    rw [T_sortL kh (by omega), tuple_loc (get_push_self _ _)]
    simp
    exact hQ _ _ ⟨isort F, rfl, x3.trans (Ex.push _ _), by rw [isort_len]; exact lF, fun w => by rw [isort_mem]; exact ⟨fun z => (hF1 w z).2, fun z => clz_mem hF4 hF3 z⟩⟩
end
end EV
/-! QvH: the law's own apart (own work). -/
namespace EV
open PySem (Str PyData)
section
variable {N : List Str} {A B : List Pr} {X Y Z : List Int}
theorem T_lapart (n : Nat) {s : Sto} (hd : Dia N A B) (th : Three N.length X Y Z) :
    T (runN con4 fns (n + 3) (.fn k_law_apart) [dia N A B, .tup (iL X), .tup (iL Y), .tup (iL Z)] s) fun v s' => Ex s s' ∧ ∃ b, v = .bool b ∧ (b = true ↔ ¬ Conn (arr A) (arr B) (· ∈ X) (· ∈ Y) (· ∈ Z)) := by
  refine T.post fun Q hQ => ?_
  have n2 := hd.n2
  have ndX : X.Nodup := th.x1.imp fun h => by omega
  have ndY : Y.Nodup := th.y1.imp fun h => by omega
  have ndZ : Z.Nodup := th.z1.imp fun h => by omega
  have nd : (X ++ Y ++ Z).Nodup := by
    refine List.nodup_append.mpr ⟨List.nodup_append.mpr ⟨ndX, ndY, fun a ha b hb e => th.xy a ha (e ▸ hb)⟩, ndZ, fun a ha b hb e => ?_⟩
    subst e
    exact (List.mem_append.mp ha).elim (fun h => th.xz a h hb) fun h => th.yz a h hb
  have rg : ∀ v ∈ X ++ Y ++ Z, 0 ≤ v ∧ v < N.length := fun v hv => by
    rcases List.mem_append.mp hv with hv | hv
    · exact (List.mem_append.mp hv).elim (th.x2 v) (th.y2 v)
    · exact th.z2 v hv
  have len := nodup_sub_len (U := allv N.length) nd fun v hv => allv_mem.mpr (rg v hv)
  simp at len
  rw [call_fn f_law_apart rfl]
  simp only [b_law_apart, startE, T_scons, T_set, T_call, T_cons, T_nil, T_var, T_bin]
  simp [-T_genT, -T_genL]
  rw [T_mkTup (by simp; omega)]
  simp [-T_genT, -T_genL]
  rw [T_mkTup (by simp; omega)]
  refine T_listrng n (m := N.length) (by omega) (by simp [dia, sL]) (fun x s => by simp [wipe, noClo]) ?_
  simp only [list_tup]
  rw [T_mkList (by simp; omega)]
  rw [List.append_assoc] at nd rg
  obtain ⟨kw, ekw⟩ : ∃ kw, kw = s.nxt := ⟨_, rfl⟩
  obtain ⟨s1, e1⟩ : ∃ s1, s1 = s.push (.lst (iL (allv N.length))) := ⟨_, rfl⟩
  have g1 : s1.get kw = some (.lst (iL (allv N.length))) := by rw [e1, ekw]; exact get_push_self _ _
  have x1 : Ex s s1 := by rw [e1]; exact Ex.push _ _
  rw [← ekw, ← e1]
  refine (T_lab (n + 1) (N := N) (B := B) g1 (by omega) nd rg (fun p hp => (hd.ar p hp).1) (Nat.le_trans hd.la (by decide))).mono fun v s2 ⟨U, ev, x2, ndU, rU, mU⟩ => ?_
  subst ev
  have eU : (fun v => v ∈ U) = An (arr A) (fun v => (v ∈ X ∨ v ∈ Y) ∨ v ∈ Z) := funext fun v => propext ((mU v).trans (by
    have : (fun w => w ∈ X ++ (Y ++ Z)) = fun w => (w ∈ X ∨ w ∈ Y) ∨ w ∈ Z := funext fun w => propext (by simp [or_assoc])
    rw [this]))
  rw [T_genL, T_sre, T_call]
  simp
  refine (T_reach n hd ndU rU (Z := Z) ndX (fun v hv => (mU v).mpr (.base (List.mem_append.mpr (.inl hv))))).mono fun v s3 ⟨L, ev, x3, lL, mL⟩ => ?_
  subst ev
  simp
  refine T_lcP (enc := D.int) s3 (fun p => decide (p ∈ Y)) D.int (fun _ => rfl) L [] (fun p hp => ⟨_, rfl, fun acc => ?_⟩) (by simp; omega) ?_
  · simp [wipe, noClo]
  have eI : ([] : List D) ++ (L.filter fun p => decide (p ∈ Y)).map D.int = iL (L.filter fun p => decide (p ∈ Y)) := rfl
  rw [eI]
  obtain ⟨s4, e4⟩ : ∃ s4, s4 = s3.push (.lst (iL (L.filter fun p => decide (p ∈ Y)))) := ⟨_, rfl⟩
  have g4 : s4.get s3.nxt = some (.lst (iL (L.filter fun p => decide (p ∈ Y)))) := by rw [e4]; exact get_push_self _ _
  have x4 : Ex s s4 := by rw [e4]; exact ((x1.trans x2).trans x3).trans (Ex.push _ _)
  rw [← e4]
  have eq0 : eqD (.loc s3.nxt) (.loc s4.nxt) (s4.push (.lst [])) = some (decide (L.filter (fun p => decide (p ∈ Y)) = [])) := eqD_lints (l' := []) (get_push g4) (get_push_self _ _)
  rw [eq0]
  simp only [T_osome]
  refine hQ _ _ ⟨x4.trans (Ex.push _ _), _, rfl, ?_⟩
  rw [decide_eq_true_iff, conn_mr th.xy th.xz th.yz, ← eU]
  rw [List.filter_eq_nil_iff]
  simp only [decide_eq_true_iff]
  exact ⟨fun h ⟨w, h1, h2⟩ => h w ((mL w).mpr h2) h1, fun h w h1 h2 => h ⟨w, h2, (mL w).mp h1⟩⟩
end
end EV
/-! QvI: drawn sets, any number of them (own work). -/
namespace EV
open PySem (Str PyData)
/-- the rows' places -/
def lcs (q k : Nat) : List D := (List.range k).map fun i => D.loc (q + 1 + i)
theorem lcs_len (q k : Nat) : (lcs q k).length = k := by simp [lcs]
theorem lcs_succ (q k : Nat) : lcs q (k + 1) = lcs q k ++ [.loc (q + 1 + k)] := by simp [lcs, List.range_succ]
theorem lcs_at {q k i : Nat} (h : i < k) : (lcs q k)[i]? = some (.loc (q + 1 + i)) := by
  simp [lcs, h]
theorem eqbs_locs (f : Nat → Nat) : ∀ l : List Nat, D.eqbs (l.map fun i => D.loc (f i)) (l.map fun i => D.loc (f i)) = true
  | [] => rfl
  | i :: r => by
    show (D.eqb (.loc (f i)) (.loc (f i)) && D.eqbs (r.map fun i => D.loc (f i)) (r.map fun i => D.loc (f i))) = true
    rw [eqbs_locs f r]; simp [D.eqb]
theorem still_lcs {q k : Nat} {s : Sto} (h : s.get q = some (.lst (lcs q k))) : still (some (q, lcs q k)) s = true := by
  simp only [still, h]
  exact eqbs_locs (fun i => q + 1 + i) (List.range k)
/-- so many sets, apart from each other -/
structure Rws (cnt : Nat) (f : Nat → List Int) : Prop where
  up : ∀ i, (f i).Pairwise (· < ·)
  rg : ∀ i, ∀ v ∈ f i, 0 ≤ v ∧ v < cnt
  ap : ∀ i j, i ≠ j → ∀ v ∈ f i, v ∉ f j
theorem Rws.add {k : Nat} {f : Nat → List Int} (h : Rws k f) (p : Nat) : Rws (k + 1) fun i => if i = p then f i ++ [(k : Int)] else f i := by
  have no : ∀ i, (k : Int) ∉ f i := fun i hi => by have := h.rg i _ hi; omega
  refine ⟨fun i => ?_, fun i v hv => ?_, fun i j hij v hv hw => ?_⟩
  · by_cases e : i = p
    · simp only [e, if_true]
      refine List.pairwise_append.mpr ⟨h.up p, by simp, fun a ha b hb => ?_⟩
      rw [List.mem_singleton.mp hb]; exact (h.rg p a ha).2
    · simp only [e, if_false]; exact h.up i
  · by_cases e : i = p
    · simp only [e, if_true] at hv
      rcases List.mem_append.mp hv with hv | hv
      · have := h.rg p v hv; omega
      · rw [List.mem_singleton.mp hv]; omega
    · simp only [e, if_false] at hv
      have := h.rg i v hv; omega
  · by_cases e : i = p
    · have e2 : ¬ j = p := fun h => hij (e.trans h.symm)
      simp only [e, if_true, e2, if_false] at hv hw
      rcases List.mem_append.mp hv with hv | hv
      · exact h.ap p j (fun h => e2 h.symm) v hv hw
      · rw [List.mem_singleton.mp hv] at hw; exact no j hw
    · by_cases e2 : j = p
      · simp only [e, if_false, e2, if_true] at hv hw
        rcases List.mem_append.mp hw with hw | hw
        · exact h.ap i p e v hv hw
        · rw [List.mem_singleton.mp hw] at hv; exact no i hv
      · simp only [e, if_false, e2] at hv hw
        exact h.ap i j hij v hv hw
theorem Rws.wid {k : Nat} {f : Nat → List Int} (h : Rws k f) : Rws (k + 1) f := ⟨h.up, fun i v hv => by have := h.rg i v hv; omega, h.ap⟩
theorem Rws.nil : Rws 0 fun _ => [] := ⟨fun _ => List.Pairwise.nil, fun _ v h => absurd h (List.not_mem_nil), fun _ _ _ v h => absurd h (List.not_mem_nil)⟩
theorem T_rows (n : Nat) {d c l : Nat} {s : Sto} {m : Nat} {cnt many : Nat} (h : St d c l s m) (hm : m ≤ 800000) (h2 : cnt ≤ 12) (h3 : many ≤ 12) :
    T (runN con4 fns (n + 3) (.fn k_law_sets) [.loc d, .int cnt, .int many] s) fun v s' => ∃ z f, v = .loc z ∧ s.nxt ≤ z ∧ s'.get z = some (.lst ((List.range many).map fun i => tI (f i))) ∧ Rws cnt f ∧ St d c l s' (m + cnt) ∧ Ed d l s s' := by
  refine T.post fun Q hQ => ?_
  rw [call_fn f_law_sets rfl]
  simp [b_law_sets, startE]
  rw [T_rng1 many (by omega)]
  obtain ⟨q, eq⟩ : ∃ q, q = s.nxt := ⟨_, rfl⟩
  have dq : d < q := by rw [eq]; exact h.dlt
  have cq : c < q := by rw [eq]; exact h.clt
  have lq : l < q := by rw [eq]; exact h.llt
  have sq : s.nxt ≤ q := by omega
  rw [← eq]
  obtain ⟨s1, e1⟩ : ∃ s1, s1 = s.push (.lst []) := ⟨_, rfl⟩
  have q1 : s1.get q = some (.lst []) := by rw [e1, eq]; exact get_push_self _ _
  have n1 : s1.nxt = q + 1 := by rw [e1, eq]; simp [Sto.push, Sto.nxt]
  have st1 : St d c l s1 m := by rw [e1]; exact h.push _
  have ed1 : Ed d l s s1 := by rw [e1]; exact (Ex.push _ _).ed
  rw [← e1]
  refine T_lcI (fun r acc s' => ∃ pre rest, r = iL rest ∧ allv many = pre ++ rest ∧ acc = lcs q pre.length ∧ s'.nxt = q + 1 + pre.length ∧ s'.get q = some (.lst acc) ∧ (∀ i, i < pre.length → s'.get (q + 1 + i) = some (.lst (iL []))) ∧ St d c l s' m ∧ Ed d l s s') (fun _ _ _ _ => rfl) ?_ ?_ _ _ _
    ⟨[], allv many, rfl, rfl, rfl, n1, q1, fun i hi => absurd hi (Nat.not_lt_zero _), st1, ed1⟩
  · rintro x r acc s2 ⟨pre, rest, hr, hall, rfl, n2, q2, a2, st2, ed2⟩
    cases rest with
    | nil => cases hr
    | cons z rest =>
      obtain ⟨rfl, rfl⟩ := List.cons.inj (show x :: r = D.int z :: iL rest from hr)
      have hpl : pre.length < many := by
        have := congrArg List.length hall
        simp at this
        omega
      refine ⟨_, rfl, ?_⟩
      simp
      obtain ⟨s3, e3⟩ : ∃ s3, s3 = s2.push (.lst []) := ⟨_, rfl⟩
      have q3 : s3.get q = some (.lst (lcs q pre.length)) := by rw [e3]; exact get_push q2
      rw [← e3]
      have b3 : s3.get (q + 1 + pre.length) = some (.lst (iL [])) := by rw [e3, ← n2]; exact get_push_self _ _
      refine ⟨q3, by rw [lcs_len]; exact Nat.lt_of_lt_of_le (show pre.length < 100000 by omega) (by decide), pre ++ [z], rest, rfl, by simp [hall], ?_, ?_, get_put_self q3, fun i hi => ?_, ?_, ?_⟩
      · rw [n2]; simp [lcs_succ]
      · rw [put_nxt, e3, show (s2.push (.lst [])).nxt = s2.nxt + 1 by simp [Sto.push, Sto.nxt], n2]; simp; omega
      · rw [get_put_ne (by omega)]
        have : i < pre.length ∨ i = pre.length := by simp at hi; omega
        rcases this with h | rfl
        · rw [e3]; exact get_push (a2 i h)
        · exact b3
      · rw [e3]; exact (st2.push _).put (by omega) (by omega) (by omega) _
      · rw [e3]; exact (ed2.trans (Ex.push _ _).ed).put sq _
  · rintro acc s2 ⟨pre, rest, hr, hall, rfl, n2, q2, a2, st2, ed2⟩
    have hr : rest = [] := by
      cases rest with
      | nil => rfl
      | cons _ _ => cases hr
    subst hr
    have hpl : pre.length = many := by
      have := congrArg List.length hall
      simp at this
      omega
    rw [hpl] at n2 q2 a2
    clear hall hpl
    rw [T_rng1 _ (by omega)]
    refine T_for (fun r ρ s' => ∃ (o4 o5 : Option D) (pre rest : List Int) (f : Nat → List Int), r = iL rest ∧ allv cnt = pre ++ rest ∧ ρ = [some (.loc d), some (.int cnt), some (.int many), some (.loc q), o4, o5, none, none] ∧ s'.get q = some (.lst (lcs q many)) ∧ q + 1 + many ≤ s'.nxt ∧ (∀ i, i < many → s'.get (q + 1 + i) = some (.lst (iL (f i)))) ∧ Rws pre.length f ∧ (∀ i, (f i).length ≤ pre.length) ∧ St d c l s' (m + pre.length) ∧ Ed d l s s') (fun _ _ _ _ => rfl) ?_ ?_ _ _ _
      ⟨none, none, [], allv cnt, fun _ => [], rfl, rfl, rfl, q2, by omega, a2, Rws.nil, by simp, st2, ed2⟩
    · rintro x r ρ s6 ⟨o4, o5, pre, rest, f, hr, hall, rfl, g1, n6, g2, hf, lf, st, ed⟩
      cases rest with
      | nil => cases hr
      | cons z rest =>
        injection hr with h1 h3
        subst h1 h3
        have hz := allv_at hall
        have hpl : pre.length < cnt := by
          have := congrArg List.length hall
          simp at this
          omega
        subst hz
        refine ⟨_, rfl, ?_⟩
        simp
        refine (T_draw n st (by omega) (lim := (many : Int) + 1) (by omega) (by omega)).mono fun v s7 ⟨t, ev, t1, t2, st7, ed7⟩ => ?_
        subst ev
        have g1 := ed7.at_ _ _ (by omega) (by omega) g1
        have g2 : ∀ i, i < many → s7.get (q + 1 + i) = some (.lst (iL (f i))) := fun i hi => ed7.at_ _ _ (by omega) (by omega) (g2 i hi)
        have n7 := ed7.le
        have stm : St d c l s7 (m + (pre ++ [(pre.length : Int)]).length) := by rw [List.length_append, List.length_singleton]; exact st7.mono (by omega)
        by_cases ht : t < many
        · obtain ⟨p, rfl⟩ : ∃ p : Nat, t = (p : Int) := ⟨t.toNat, by omega⟩
          have hp : p < many := by omega
          have gp := g2 p hp
          have ei : ix (.loc q) (.int (p : Int)) s7 = .ok (.loc (q + 1 + p)) s7 := by
            rw [ix_locI g1 (r := (p : Int)) (by omega) (by rw [lcs_len]; omega)]
            congr 1
            simp [lcs]
          simp [ht, hp, ei, T_isL gp]
          have lfp := lf p
          rw [T_app gp (by simp; omega)]
          refine ⟨_, _, pre ++ [(pre.length : Int)], rest, rfl, by simp [hall], ⟨rfl, rfl⟩, ?_, by rw [put_nxt]; omega, fun i => if i = p then f i ++ [(pre.length : Int)] else f i, fun i hi => ?_, ?_, fun i => ?_, stm.put (by omega) (by omega) (by omega) _, (ed.trans ed7).put (by omega) _⟩
          · rw [get_put_ne (by omega)]; exact g1
          · by_cases e : i = p
            · subst e
              rw [get_put_self gp]; simp [iL]
            · rw [get_put_ne (by omega)]; simp only [e, if_false]; exact g2 i hi
          · rw [List.length_append, List.length_singleton]; exact hf.add p
          · have := lf i
            by_cases e : i = p
            · simp [e]; omega
            · simp [e]; omega
        · simp [ht]
          refine ⟨_, _, pre ++ [(pre.length : Int)], rest, rfl, by simp [hall], ⟨rfl, rfl⟩, g1, by omega, f, g2, ?_, fun i => by have := lf i; simp; omega, stm, ed.trans ed7⟩
          rw [List.length_append, List.length_singleton]; exact hf.wid
    · rintro ρ s6 ⟨o4, o5, pre, rest, f, hr, hall, rfl, g1, n6, g2, hf, lf, st, ed⟩
      have hr : rest = [] := by
        cases rest with
        | nil => rfl
        | cons _ _ => cases hr
      subst hr
      have hpl : pre.length = cnt := by
        have := congrArg List.length hall
        simp at this
        omega
      rw [hpl] at hf st
      simp [walk_loc g1]
      have el : lcs q many = (List.range many).map fun i => D.loc (q + 1 + i) := rfl
      rw [el]
      refine T_lcP (enc := fun i => D.loc (q + 1 + i)) s6 (fun _ => true) (fun i => tI (f i)) (fun acc => still_lcs (get_push g1)) (List.range many) [] (fun i hi => ⟨_, rfl, fun acc => ?_⟩) (by simp; omega) ?_
      · have gi := g2 i (List.mem_range.mp hi)
        simp [wipe, noClo, tuple_loc (get_push gi)]
        rfl
      · have := ed.le
        refine hQ _ _ ⟨s6.nxt, f, rfl, by omega, ?_, hf, st.push _, ed.trans (Ex.push _ _).ed⟩
        rw [get_push_self, List.nil_append, show (List.range many).filter (fun _ => true) = List.range many from List.filter_eq_self.mpr fun _ _ => rfl]
end EV
/-! QvJ: drawn thin diagrams (own work). -/
namespace EV
open PySem (Str PyData)
theorem isIn_lprs {s : Sto} {k : Nat} {l : List Pr} (h : s.get k = some (.lst (pL l))) (p : Pr) : isIn (prD p) (.loc k) s = some (decide (p ∈ l)) := by
  simp only [isIn, rd_pr, h, rd_lprs h]
  congr 1
  rw [Bool.eq_iff_iff]
  simp only [List.any_map, List.any_eq_true, Function.comp_apply, eqv_pr, decide_eq_true_eq]
  simp
structure Alg (P : List Int) (Ar : List Pr) : Prop where
  nd : Ar.Nodup
  at_ : ∀ p ∈ Ar, p.1 ∈ P ∧ p.2 ∈ P ∧ P.idxOf p.1 < P.idxOf p.2
theorem Alg.add {P : List Int} {Ar : List Pr} (h : Alg P Ar) (nd : P.Nodup) {i j : Nat} (hij : i < j) (hj : j < P.length) (hn : (P[i]'(by omega), P[j]) ∉ Ar) : Alg P (Ar ++ [(P[i]'(by omega), P[j])]) := by
  refine ⟨List.nodup_append.mpr ⟨h.nd, by simp, fun a ha b hb e => ?_⟩, fun p hp => ?_⟩
  · rw [List.mem_singleton.mp hb] at e; exact hn (e ▸ ha)
  · rcases List.mem_append.mp hp with hp | hp
    · exact h.at_ p hp
    · rw [List.mem_singleton.mp hp]
      refine ⟨List.getElem_mem _, List.getElem_mem _, ?_⟩
      rw [nd.idxOf_getElem _ _, nd.idxOf_getElem _ _]
      exact hij
structure Tis (cnt : Nat) (B : List Pr) : Prop where
  nd : B.Nodup
  at_ : ∀ p ∈ B, 0 ≤ p.1 ∧ p.1 < p.2 ∧ p.2 < cnt
theorem Tis.add {cnt : Nat} {B : List Pr} (h : Tis cnt B) {p : Pr} (h1 : 0 ≤ p.1 ∧ p.1 < p.2 ∧ p.2 < cnt) (hn : p ∉ B) : Tis cnt (B ++ [p]) := by
  refine ⟨List.nodup_append.mpr ⟨h.nd, by simp, fun a ha b hb e => ?_⟩, fun q hq => ?_⟩
  · rw [List.mem_singleton.mp hb] at e; exact hn (e ▸ ha)
  · rcases List.mem_append.mp hq with hq | hq
    · exact h.at_ q hq
    · rw [List.mem_singleton.mp hq]; exact h1
theorem T_thin (n : Nat) {d c l : Nat} {s : Sto} {m le mo my : Nat} (h : St d c l s m) (hm : m ≤ 700000) (le1 : 2 ≤ le) (le2 : le ≤ mo) (mo2 : mo ≤ 12) (my2 : my ≤ 12) :
    T (runN con4 fns (n + 5) (.fn k_law_thin) [.loc d, .int le, .int mo, .int my] s) fun v s' => ∃ N A B, v = dia N A B ∧ Dia N A B ∧ le ≤ N.length ∧ N.length ≤ mo ∧ (∀ z ∈ N, z.length ≤ 3) ∧ St d c l s' (m + 1000) ∧ Ed d l s s' := by
  refine T.post fun Q hQ => ?_
  rw [call_fn f_law_thin rfl]
  simp [b_law_thin, startE, -T_genT]
  refine (T_draw (n + 2) h (by omega) (lim := (mo : Int) - le + 1) (by omega) (by omega)).mono fun v s1 ⟨t, ev, t1, t2, st1, ed1⟩ => ?_
  subst ev
  simp [-T_genT]
  obtain ⟨cnt, ec⟩ : ∃ cnt : Nat, (le : Int) + t = (cnt : Int) := ⟨(le + t).toNat, by omega⟩
  have c2 : le ≤ cnt := by omega
  have c6 : cnt ≤ mo := by omega
  rw [ec]
  refine T_listrng n (m := cnt) (by omega) (by simp) (fun x s => by simp [wipe, noClo]) ?_
  simp [list_tup]
  rw [T_mkList (by simp; omega)]
  refine (T_shuffled n (st1.push _) (by omega) (get_push_self _ _) (by have := st1.dlt; omega) (by have := st1.llt; omega) (by simp; omega)).mono fun v s2 ⟨b, P, ev, hb, gb, pm, st2, ed2⟩ => ?_
  subst ev
  have ndP : P.Nodup := pm.nodup_iff.mpr ((allv_lt cnt).imp fun h => by omega)
  have lP : P.length = cnt := by have := pm.length_eq; simpa using this
  have mP : ∀ v ∈ P, 0 ≤ v ∧ v < cnt := fun v hv => allv_mem.mp (pm.mem_iff.mp hv)
  have st2 : St d c l s2 (m + 1 + cnt) := by simpa using st2
  have ed2 : Ed d l s s2 := (ed1.trans (Ex.push _ _).ed).trans ed2
  obtain ⟨x, ex⟩ : ∃ x, x = s2.nxt := ⟨_, rfl⟩
  obtain ⟨s3, e3⟩ : ∃ s3, s3 = s2.push (.lst []) := ⟨_, rfl⟩
  obtain ⟨y, ey⟩ : ∃ y, y = s3.nxt := ⟨_, rfl⟩
  obtain ⟨s4, e4⟩ : ∃ s4, s4 = s3.push (.lst []) := ⟨_, rfl⟩
  rw [← ex, ← e3, ← ey, ← e4]
  have x3 : s3.get x = some (.lst (pL [])) := by rw [e3, ex]; exact get_push_self _ _
  have x4 : s4.get x = some (.lst (pL [])) := by rw [e4]; exact get_push x3
  have y4 : s4.get y = some (.lst (pL [])) := by rw [e4, ey]; exact get_push_self _ _
  have b4 : s4.get b = some (.lst (iL P)) := by rw [e4, e3]; exact get_push (get_push gb)
  have st4 : St d c l s4 (m + 1 + cnt) := by rw [e4, e3]; exact (st2.push _).push _
  have ed4 : Ed d l s s4 := by rw [e4, e3]; exact (ed2.trans (Ex.push _ _).ed).trans (Ex.push _ _).ed
  have bx : b < x := by rw [ex]; exact get_lt gb
  have xy : x < y := by rw [ey]; exact get_lt x3
  have sb : s1.nxt + 1 ≤ b := by simpa [Sto.push, Sto.nxt] using hb
  have ss1 := ed1.le
  have d1 := h.dlt
  have l1 := h.llt
  have c1 := h.clt

  rw [T_rngO cnt (by omega)]
  -- the arrows
  refine T_for (fun r ρ s' => ∃ (o8 o9 o10 o11 o12 : Option D) (pre rest : List Int) (Ar : List Pr), r = iL rest ∧ rngL 1 cnt = pre ++ rest ∧ ρ = [some (.loc d), some (.int le), some (.int mo), some (.int my), some (.int cnt), some (.loc b), some (.loc x), some (.loc y), o8, o9, o10, o11, o12] ∧
      s'.get b = some (.lst (iL P)) ∧ s'.get x = some (.lst (pL Ar)) ∧ s'.get y = some (.lst (pL [])) ∧ Alg P Ar ∧ Ar.length ≤ pre.length * 3 ∧ St d c l s' (m + 13 + pre.length * 4) ∧ Ed d l s s') (fun _ _ _ _ => rfl) ?_ ?_ _ _ _
    ⟨none, none, none, none, none, [], _, [], rfl, rfl, rfl, b4, x4, y4, ⟨by simp, by simp⟩, by simp, st4.mono (by simp; omega), ed4⟩
  · rintro v r ρ s6 ⟨o8, o9, o10, o11, o12, pre, rest, Ar, hr, hall, rfl, b6, x6, y6, hA, lA, st6, ed6⟩
    cases rest with
    | nil => cases hr
    | cons z rest =>
      obtain ⟨rfl, rfl⟩ := List.cons.inj (show v :: r = D.int z :: iL rest from hr)
      obtain ⟨hz, hz2⟩ := rngL_at hall
      subst hz
      obtain ⟨j, ej⟩ : ∃ j : Nat, j = 1 + pre.length := ⟨_, rfl⟩
      rw [← ej]
      refine ⟨_, rfl, ?_⟩
      simp
      refine (T_draw (n + 2) st6 (by omega) (lim := 3) (by omega) (by omega)).mono fun v s7 ⟨t, ev, t1, t2, st7, ed7⟩ => ?_
      subst ev
      have x7 := ed7.at_ _ _ (by omega) (by omega) x6
      have y7 := ed7.at_ _ _ (by omega) (by omega) y6
      have b7 := ed7.at_ _ _ (by omega) (by omega) b6
      have ed7 := ed6.trans ed7
      obtain ⟨t, rfl⟩ : ∃ t' : Nat, t = (t' : Int) := ⟨t.toNat, by omega⟩
      rw [T_rng1 t (by omega)]
      refine T_for (fun r ρ s' => ∃ (o9 o10 o11 o12 : Option D) (p2 r2 : List Int) (Ar : List Pr), r = iL r2 ∧ allv t = p2 ++ r2 ∧ ρ = [some (.loc d), some (.int le), some (.int mo), some (.int my), some (.int cnt), some (.loc b), some (.loc x), some (.loc y), some (.int j), o9, o10, o11, o12] ∧
          s'.get b = some (.lst (iL P)) ∧ s'.get x = some (.lst (pL Ar)) ∧ s'.get y = some (.lst (pL [])) ∧ Alg P Ar ∧ Ar.length ≤ pre.length * 3 + p2.length ∧ St d c l s' (m + 14 + pre.length * 4 + p2.length) ∧ Ed d l s s') (fun _ _ _ _ => rfl) ?_ ?_ _ _ _
        ⟨o9, o10, o11, o12, [], allv t, Ar, rfl, rfl, rfl, b7, x7, y7, hA, by simpa using lA, st7.mono (by simp; omega), ed7⟩
      · rintro v r ρ s8 ⟨o9, o10, o11, o12, p2, r2, Ar, hr, hall2, rfl, b8, x8, y8, hA, lA, st8, ed8⟩
        cases r2 with
        | nil => cases hr
        | cons w r2 =>
          obtain ⟨rfl, rfl⟩ := List.cons.inj (show v :: r = D.int w :: iL r2 from hr)
          have hp2 : p2.length < t := by
            have := congrArg List.length hall2
            simp at this
            omega
          refine ⟨_, rfl, ?_⟩
          simp
          refine (T_draw (n + 2) st8 (by omega) (lim := (j : Int)) (by omega) (by omega)).mono fun v s9 ⟨i, ev, i1, i2, st9, ed9⟩ => ?_
          subst ev
          have x9 := ed9.at_ _ _ (by omega) (by omega) x8
          have y9 := ed9.at_ _ _ (by omega) (by omega) y8
          have b9 := ed9.at_ _ _ (by omega) (by omega) b8
          have ed9 := ed8.trans ed9
          obtain ⟨i, rfl⟩ : ∃ i' : Nat, i = (i' : Int) := ⟨i.toNat, by omega⟩
          have ei1 : ix (.loc b) (.int (i : Int)) s9 = .ok (.int (P[i]'(by omega))) s9 := by
            rw [ix_locI b9 (r := (i : Int)) (by omega) (by simp; omega)]
            simp [iL]
          have ei2 : ix (.loc b) (.int (j : Int)) s9 = .ok (.int (P[j]'(by omega))) s9 := by
            rw [ix_locI b9 (r := (j : Int)) (by omega) (by simp; omega)]
            simp [iL]
          have e12 : (D.tup [.int (P[i]'(by omega)), .int (P[j]'(by omega))]) = prD (P[i]'(by omega), P[j]'(by omega)) := rfl
          simp [ei1, ei2]
          rw [e12, isIn_lprs x9]
          have stm : St d c l s9 (m + 14 + pre.length * 4 + (p2 ++ [w]).length) := by rw [List.length_append, List.length_singleton]; exact st9.mono (by omega)
          by_cases hin : (P[i]'(by omega), P[j]'(by omega)) ∈ Ar
          · simp [hin]
            exact ⟨_, _, _, _, p2 ++ [w], r2, rfl, by simp [hall2], ⟨rfl, rfl, rfl, rfl⟩, b9, Ar, x9, y9, hA, by simp; omega, stm, ed9⟩
          · simp [hin, T_isL x9]
            rw [T_app x9 (by simp; omega)]
            refine ⟨_, _, _, _, p2 ++ [w], r2, rfl, by simp [hall2], ⟨rfl, rfl, rfl, rfl⟩, ?_, Ar ++ [(P[i]'(by omega), P[j]'(by omega))], ?_, ?_, hA.add ndP (by omega) (by omega) hin, by simp; omega, stm.put (by omega) (by omega) (by omega) _, ed9.put (by omega) _⟩
            · rw [get_put_ne (by omega)]; exact b9
            · rw [get_put_self x9]; simp [pL, prD]
            · rw [get_put_ne (by omega)]; exact y9
      · rintro ρ s8 ⟨o9, o10, o11, o12, p2, r2, Ar, hr, hall2, rfl, b8, x8, y8, hA, lA, st8, ed8⟩
        have hr : r2 = [] := by
          cases r2 with
          | nil => rfl
          | cons _ _ => cases hr
        subst hr
        have hp2 : p2.length = t := by
          have := congrArg List.length hall2
          simp at this
          omega
        simp
        exact ⟨_, _, _, _, _, pre ++ [(j : Int)], rest, rfl, by rw [hall, ej]; simp, ⟨rfl, rfl, rfl, rfl, rfl⟩, b8, Ar, x8, y8, hA, by simp; omega, st8.mono (by simp; omega), ed8⟩
  · rintro ρ s6 ⟨o8, o9, o10, o11, o12, pre, rest, Ar, hr, hall, rfl, b6, x6, y6, hA, lA, st6, ed6⟩
    have hr : rest = [] := by
      cases rest with
      | nil => rfl
      | cons _ _ => cases hr
    subst hr
    have hpl : pre.length = cnt - 1 := by
      have := congrArg List.length hall
      simp at this
      omega
    simp
    have st6 : St d c l s6 (m + 61) := st6.mono (by omega)
    refine (T_draw (n + 2) st6 (by omega) (lim := (my : Int) + 1) (by omega) (by omega)).mono fun v s7 ⟨t, ev, t1, t2, st7, ed7⟩ => ?_
    subst ev
    have x7 := ed7.at_ _ _ (by omega) (by omega) x6
    have y7 := ed7.at_ _ _ (by omega) (by omega) y6
    have ed7 := ed6.trans ed7
    obtain ⟨t, rfl⟩ : ∃ t' : Nat, t = (t' : Int) := ⟨t.toNat, by omega⟩
    rw [T_rng1 t (by omega)]
    refine T_for (fun r ρ s' => ∃ (o8 o9 o10 o11 o12 : Option D) (p2 r2 : List Int) (B : List Pr), r = iL r2 ∧ allv t = p2 ++ r2 ∧ ρ = [some (.loc d), some (.int le), some (.int mo), some (.int my), some (.int cnt), some (.loc b), some (.loc x), some (.loc y), o8, o9, o10, o11, o12] ∧
        s'.get x = some (.lst (pL Ar)) ∧ s'.get y = some (.lst (pL B)) ∧ Tis cnt B ∧ B.length ≤ p2.length ∧ St d c l s' (m + 62 + p2.length * 2) ∧ Ed d l s s') (fun _ _ _ _ => rfl) ?_ ?_ _ _ _
      ⟨o8, o9, o10, o11, o12, [], allv t, [], rfl, rfl, rfl, x7, y7, ⟨by simp, by simp⟩, by simp, st7.mono (by simp), ed7⟩
    · rintro v r ρ s8 ⟨o8, o9, o10, o11, o12, p2, r2, B, hr, hall2, rfl, x8, y8, hB, lB, st8, ed8⟩
      cases r2 with
      | nil => cases hr
      | cons w r2 =>
        obtain ⟨rfl, rfl⟩ := List.cons.inj (show v :: r = D.int w :: iL r2 from hr)
        have hp2 : p2.length < t := by
          have := congrArg List.length hall2
          simp at this
          omega
        refine ⟨_, rfl, ?_⟩
        simp
        refine (T_draw (n + 2) st8 (by omega) (lim := (cnt : Int)) (by omega) (by omega)).mono fun v s9 ⟨lo, ev, i1, i2, st9, ed9⟩ => ?_
        subst ev
        have x9 := ed9.at_ _ _ (by omega) (by omega) x8
        have y9 := ed9.at_ _ _ (by omega) (by omega) y8
        have ed9 := ed8.trans ed9
        simp
        refine (T_draw (n + 2) st9 (by omega) (lim := (cnt : Int) - 1) (by omega) (by omega)).mono fun v s10 ⟨u, ev, u1, u2, st10, ed10⟩ => ?_
        subst ev
        have x10 := ed10.at_ _ _ (by omega) (by omega) x9
        have y10 := ed10.at_ _ _ (by omega) (by omega) y9
        have ed10 := ed9.trans ed10
        have hc0 : (cnt : Int) ≠ 0 := by omega
        obtain ⟨hi, ehi⟩ : ∃ hi, hi = (lo + 1 + u).fmod cnt := ⟨_, rfl⟩
        have hr := fmod_rg (lo + 1 + u) (b := (cnt : Int)) (by omega)
        rw [← ehi] at hr
        have hne : hi ≠ lo := fun e => by
          have h1 := Int.mul_fdiv_add_fmod (lo + 1 + u) cnt
          rw [← ehi, e] at h1
          have h2 : (cnt : Int) * (lo + 1 + u).fdiv cnt = 1 + u := by omega
          have h3 : 0 < (lo + 1 + u).fdiv (cnt : Int) := by
            refine Int.lt_of_not_ge fun h => ?_
            have := Int.mul_nonpos_of_nonneg_of_nonpos (show 0 ≤ (cnt : Int) by omega) h
            omega
          have h4 := Int.mul_le_mul_of_nonneg_left (show (1 : Int) ≤ (lo + 1 + u).fdiv cnt by omega) (show 0 ≤ (cnt : Int) by omega)
          omega
        simp [o2_mod _ hc0]
        rw [← ehi]
        obtain ⟨p, ep⟩ : ∃ p : Pr, p = ((if hi < lo then hi else lo), (if lo < hi then hi else lo)) := ⟨_, rfl⟩
        have hp : 0 ≤ p.1 ∧ p.1 < p.2 ∧ p.2 < cnt := by
          rw [ep]
          by_cases h1 : hi < lo
          · have h2 : ¬ lo < hi := by omega
            rw [if_pos h1, if_neg h2]; exact ⟨hr.1, h1, by show lo < _; omega⟩
          · have h2 : lo < hi := by omega
            rw [if_neg h1, if_pos h2]; exact ⟨by show 0 ≤ lo; omega, h2, hr.2⟩
        have e12 : (D.tup [.int (if hi < lo then hi else lo), .int (if lo < hi then hi else lo)]) = prD p := by rw [ep]; rfl
        rw [e12, isIn_lprs y10]
        have stm : St d c l s10 (m + 62 + (p2 ++ [w]).length * 2) := by rw [List.length_append, List.length_singleton]; exact st10.mono (by omega)
        by_cases hin : p ∈ B
        · simp [hin]
          exact ⟨_, _, _, _, _, p2 ++ [w], r2, rfl, by simp [hall2], ⟨rfl, rfl, rfl, rfl, rfl⟩, x10, B, y10, hB, by simp; omega, stm, ed10⟩
        · simp [hin, T_isL y10]
          rw [T_app y10 (by simp; omega)]
          refine ⟨_, _, _, _, _, p2 ++ [w], r2, rfl, by simp [hall2], ⟨rfl, rfl, rfl, rfl, rfl⟩, ?_, B ++ [p], ?_, hB.add hp hin, by simp; omega, stm.put (by omega) (by omega) (by omega) _, ed10.put (by omega) _⟩
          · rw [get_put_ne (by omega)]; exact x10
          · rw [get_put_self y10]; simp [pL]
    · rintro ρ s8 ⟨o8, o9, o10, o11, o12, p2, r2, B, hr, hall2, rfl, x8, y8, hB, lB, st8, ed8⟩
      have hr : r2 = [] := by
        cases r2 with
        | nil => rfl
        | cons _ _ => cases hr
      subst hr
      have hp2 : p2.length = t := by
        have := congrArg List.length hall2
        simp at this
        omega
      simp
      refine (T_names (n + 1) st8 (by omega) (cnt := cnt) (by omega)).mono fun v s9 ⟨N, ev, lN, hN1, hN2, hN3, st9, ed9⟩ => ?_
      subst ev
      have x9 := ed9.at_ _ _ (by omega) (by omega) x8
      have y9 := ed9.at_ _ _ (by omega) (by omega) y8
      have ed9 := ed8.trans ed9
      rw [T_sortLP x9 (by omega), tuple_loc (get_push_self _ _)]
      simp
      rw [T_sortLP (get_push y9) (by omega), tuple_loc (get_push_self _ _)]
      simp
      refine hQ _ _ ⟨N, psort Ar, psort B, rfl, ?_, by omega, by omega, hN2, ?_, (ed9.trans (Ex.push _ _).ed).trans (Ex.push _ _).ed⟩
      · refine ⟨by omega, by omega, hN1, hN3, psort_lt hA.nd, fun p hp => ?_, ⟨fun v => P.idxOf v, fun p hp => (hA.at_ p (psort_mem.mp hp)).2.2⟩, psort_lt hB.nd, fun p hp => ?_⟩
        · have := hA.at_ p (psort_mem.mp hp)
          rw [lN]
          exact ⟨mP _ this.1, mP _ this.2.1, fun e => by have := this.2.2; rw [e] at this; exact Nat.lt_irrefl _ this⟩
        · have := hB.at_ p (psort_mem.mp hp)
          rw [lN]
          omega
      · exact ((st9.push _).push _).mono (by omega)
end EV
/-! QvK: what the law is told (own work). -/
namespace EV
open PySem (Str PyData)
theorem T_any (n : Nat) {d c l : Nat} {s : Sto} {m mo : Nat} (h : St d c l s m) (hm : m ≤ 600000) (le2 : 2 ≤ mo) (mo2 : mo ≤ 12) :
    T (runN con4 fns (n + 6) (.fn k_law_any) [.loc d, .int mo] s) fun v s' => ∃ N A B, v = dia N A B ∧ Dia N A B ∧ 2 ≤ N.length ∧ N.length ≤ 12 ∧ St d c l s' (m + 1001) ∧ Ed d l s s' := by
  refine T.post fun Q hQ => ?_
  rw [call_fn f_law_any rfl]
  simp [b_law_any, startE]
  refine (T_draw (n + 3) h (by omega) (lim := 4) (by omega) (by omega)).mono fun v s1 ⟨t, ev, t1, t2, st1, ed1⟩ => ?_
  subst ev
  simp
  by_cases h0 : t = 0
  · simp [h0]
    refine (T_diagram n st1 (by omega) (le := 2) (by omega) le2 mo2).mono fun v s2 ⟨N, A, B, ev, hd, l1, l2, _, st2, ed2⟩ => ?_
    exact hQ _ _ ⟨N, A, B, ev, hd, l1, by omega, st2.mono (by omega), ed1.trans ed2⟩
  · simp [h0]
    by_cases h3 : t < 3
    · simp [h3]
      refine (T_thin n st1 (by omega) (le := 2) (my := 4) (by omega) le2 mo2 (by omega)).mono fun v s2 ⟨N, A, B, ev, hd, l1, l2, _, st2, ed2⟩ => ?_
      exact hQ _ _ ⟨N, A, B, ev, hd, l1, by omega, st2.mono (by omega), ed1.trans ed2⟩
    · simp [h3]
      refine (T_thin n st1 (by omega) (le := 8) (mo := 12) (my := 6) (by omega) (by omega) (by omega) (by omega)).mono fun v s2 ⟨N, A, B, ev, hd, l1, l2, _, st2, ed2⟩ => ?_
      exact hQ _ _ ⟨N, A, B, ev, hd, by omega, by omega, st2.mono (by omega), ed1.trans ed2⟩
theorem eqD_bb (a b : Bool) (s : Sto) : eqD (.bool a) (.bool b) s = some (a == b) := by cases a <;> cases b <;> rfl
theorem T_same (n : Nat) {s : Sto} (a b : Bool) : T (runN con4 fns (n + 1) (.fn k_law_same) [.bool a, .bool b] s) fun v s' => v = .bool (a == b) ∧ s' = s := by
  refine T.post fun Q hQ => ?_
  rw [call_fn f_law_same rfl]
  simp [b_law_same, startE, eqD_bb, isi, D.isTy]
  exact hQ _ _ ⟨rfl, rfl⟩
theorem T_sortT {s : Sto} {l : List Int} {Q : D → Sto → Prop} (hl : l.length ≤ 100000) : T (bf .sorted [.tup (iL l)] s).up Q = Q (.loc s.nxt) (s.push (.lst (iL (isort l)))) := by
  simp only [bf, sortD_iL l hl]
  exact T_mkList (by rw [show (iL (isort l)).length = l.length by simp [iL, isort_len]]; exact hl)
theorem T_ltold (n : Nat) {s : Sto} {N : List Str} {A B : List Pr} (hd : Dia N A B) {X Y G : List Int} (hG : G.length ≤ 100) (th : Three N.length X Y (isort G)) :
    T (runN con4 fns (n + 9) (.fn k_law_told) [dia N A B, .tup (iL X), .tup (iL Y), .tup (iL G)] s) fun v s' => Ex s s' ∧ ∃ b, v = .bool b ∧ (b = true ↔ ¬ Conn (arr A) (arr B) (· ∈ X) (· ∈ Y) (· ∈ G)) := by
  refine T.post fun Q hQ => ?_
  rw [call_fn f_law_told rfl]
  simp [b_law_told, startE]
  have eG : (fun v => v ∈ isort G) = fun v => v ∈ G := funext fun v => propext isort_mem
  rw [T_sortT (by omega), tuple_loc (get_push_self _ _)]
  simp
  refine (T_apart hd th n).mono fun v s1 ⟨x1, b, ev, hb⟩ => ?_
  subst ev
  simp
  rw [T_sortT (by omega), tuple_loc (get_push_self _ _)]
  simp
  refine (T_lapart (n + 5) hd th).mono fun v s2 ⟨x2, b2, ev, hb2⟩ => ?_
  subst ev
  refine (T_same (n + 7) b b2).mono fun v s3 hv => ?_
  obtain ⟨rfl, rfl⟩ := hv
  have : b = b2 := by rw [Bool.eq_iff_iff, hb, hb2]
  subst this
  simp
  rw [eG] at hb
  exact hQ _ _ ⟨((Ex.push _ _).trans x1).trans ((Ex.push _ _).trans x2), b, rfl, hb⟩
/-! lists of truths -/
def bL (l : List Bool) : List D := l.map .bool
def pB (l : List Bool) : List PyData := l.map .bool
theorem canB : ∀ l : List Bool, PyData.canLayAll0 (pB l) = true
  | [] => rfl
  | i :: r => by
    have := canB r
    unfold pB at this ⊢
    simp [PyData.canLayAll0, PyData.canLay0, this]
theorem depB : ∀ l : List Bool, PyData.depthAll (pB l) = 0
  | [] => rfl
  | i :: r => by
    have := depB r
    unfold pB at this ⊢
    simp [PyData.depthAll, PyData.depth, this]
theorem rd_lbools {s : Sto} {k : Nat} {l : List Bool} (h : s.get k = some (.lst (bL l))) : (D.loc k).rd s = some (.list (pB l)) := by
  unfold D.rd deep
  have e : D.read s 20 (.loc k) = some (.list (pB l)) := by
    show (match s.get k with
      | some (.lst xs) => (xs.mapM (D.read s 19)).map PyData.list
      | some (.ro xs) => (xs.mapM (D.read s 19)).map .list
      | _ => Option.none) = _
    rw [h]
    show Option.map _ ((bL l).mapM (D.read s 19)) = _
    rw [show (bL l).mapM (D.read s 19) = some (pB l) from mapM_enc (enc := D.bool) (g := PyData.bool) (fun _ => rfl) l]
    rfl
  rw [e]
  have : PySem.SeqAt.shaped (.list (pB l)) = true := by
    unfold PySem.SeqAt.shaped
    show (PyData.canLayAll0 (pB l) && decide (PyData.depthAll (pB l) + 1 ≤ 64)) = true
    rw [canB, depB]; rfl
  simp only [this, if_true]
theorem isIn_nb {s : Sto} {k : Nat} {l : List Bool} (h : s.get k = some (.lst (bL l))) : isIn .none (.loc k) s = some false := by
  simp only [isIn, h, rd_lbools h, show D.none.rd s = some .none from rfl]
  simp [pB, PyData.eqv]
theorem T_addLs {k l : Nat} {xs ys : List D} {s : Sto} {Q : D → Sto → Prop} (h : s.get k = some (.lst xs)) (h2 : s.get l = some (.lst ys)) (hl : xs.length + ys.length ≤ 100000) : T (o2 .add (.loc k) (.loc l) s).up Q = Q (.loc s.nxt) (s.push (.lst (xs ++ ys))) := by
  simp only [o2, h, h2]
  exact T_mkList (by simpa using hl)
theorem unp_loc4 (i j k m : Nat) {z : Nat} {a b c e : D} {ρ : Env} {s : Sto} (h : s.get z = some (.lst [a, b, c, e])) : unp (.t (.cons (.n i) (.cons (.n j) (.cons (.n k) (.cons (.n m) .nil))))) (.loc z) ρ s = some ((((ρ.set i (some a)).set j (some b)).set k (some c)).set m (some e)) := by
  simp only [unp, h]
  rfl
/-! four sets -/
structure Four (n : Nat) (X Y W Z : List Int) : Prop where
  x1 : X.Pairwise (· < ·)
  y1 : Y.Pairwise (· < ·)
  w1 : W.Pairwise (· < ·)
  z1 : Z.Pairwise (· < ·)
  x2 : ∀ v ∈ X, 0 ≤ v ∧ v < n
  y2 : ∀ v ∈ Y, 0 ≤ v ∧ v < n
  w2 : ∀ v ∈ W, 0 ≤ v ∧ v < n
  z2 : ∀ v ∈ Z, 0 ≤ v ∧ v < n
  xy : ∀ v ∈ X, v ∉ Y
  xw : ∀ v ∈ X, v ∉ W
  xz : ∀ v ∈ X, v ∉ Z
  yw : ∀ v ∈ Y, v ∉ W
  yz : ∀ v ∈ Y, v ∉ Z
  wz : ∀ v ∈ W, v ∉ Z
theorem pw_nd {X : List Int} (h : X.Pairwise (· < ·)) : X.Nodup := h.imp fun h => by omega
theorem nd_app {X Y : List Int} (hx : X.Nodup) (hy : Y.Nodup) (xy : ∀ v ∈ X, v ∉ Y) : (X ++ Y).Nodup := List.nodup_append.mpr ⟨hx, hy, fun a ha b hb e => xy a ha (e ▸ hb)⟩
section
variable {n : Nat} {X Y W Z : List Int} (h : Four n X Y W Z)
include h
theorem Four.t1 : Three n X (isort (Y ++ W)) (isort Z) := by
  refine ⟨h.x1, isort_lt (nd_app (pw_nd h.y1) (pw_nd h.w1) h.yw), isort_lt (pw_nd h.z1), h.x2, fun v hv => ?_, fun v hv => h.z2 v (isort_mem.mp hv), fun v hv hw => ?_, fun v hv hw => h.xz v hv (isort_mem.mp hw), fun v hv hw => ?_⟩
  · exact (List.mem_append.mp (isort_mem.mp hv)).elim (h.y2 v) (h.w2 v)
  · exact (List.mem_append.mp (isort_mem.mp hw)).elim (h.xy v hv) (h.xw v hv)
  · exact (List.mem_append.mp (isort_mem.mp hv)).elim (fun z => h.yz v z (isort_mem.mp hw)) fun z => h.wz v z (isort_mem.mp hw)
theorem Four.t2 : Three n X Y (isort Z) := ⟨h.x1, h.y1, isort_lt (pw_nd h.z1), h.x2, h.y2, fun v hv => h.z2 v (isort_mem.mp hv), h.xy, fun v hv hw => h.xz v hv (isort_mem.mp hw), fun v hv hw => h.yz v hv (isort_mem.mp hw)⟩
theorem Four.t3 : Three n X Y (isort (Z ++ W)) := by
  refine ⟨h.x1, h.y1, isort_lt (nd_app (pw_nd h.z1) (pw_nd h.w1) fun v hv hw => h.wz v hw hv), h.x2, h.y2, fun v hv => ?_, h.xy, fun v hv hw => ?_, fun v hv hw => ?_⟩
  · exact (List.mem_append.mp (isort_mem.mp hv)).elim (h.z2 v) (h.w2 v)
  · exact (List.mem_append.mp (isort_mem.mp hw)).elim (h.xz v hv) (h.xw v hv)
  · exact (List.mem_append.mp (isort_mem.mp hw)).elim (h.yz v hv) (h.yw v hv)
theorem Four.swap : Four n X W Y Z := ⟨h.x1, h.w1, h.y1, h.z1, h.x2, h.w2, h.y2, h.z2, h.xw, h.xy, h.xz, fun v a b => h.yw v b a, h.wz, h.yz⟩
end
theorem len12 {n : Nat} {X : List Int} (hn : n ≤ 12) (h : X.Pairwise (· < ·)) (hr : ∀ v ∈ X, 0 ≤ v ∧ v < n) : X.length ≤ 12 := by
  have := len_le h hr; omega
theorem T_sright (n : Nat) {s : Sto} {N : List Str} {A B : List Pr} (hd : Dia N A B) {X Y W Z : List Int} {z : Nat} (hz : s.get z = some (.lst [tI X, tI Y, tI W, tI Z])) (fo : Four N.length X Y W Z) :
    T (runN con4 fns (n + 10) (.fn k_law_sets_right) [dia N A B, .loc z] s) fun v s' => v = .bool true ∧ Ex s s' := by
  refine T.post fun Q hQ => ?_
  have lX := len12 hd.n2 fo.x1 fo.x2
  have lY := len12 hd.n2 fo.y1 fo.y2
  have lW := len12 hd.n2 fo.w1 fo.w2
  have lZ := len12 hd.n2 fo.z1 fo.z2
  rw [call_fn f_law_sets_right rfl]
  simp [b_law_sets_right, startE, unp_loc4 _ _ _ _ hz, tI]
  rw [T_mkTup (by simp; omega), T_sortT (by simp; omega), tuple_loc (get_push_self _ _)]
  simp
  refine (T_ltold n hd (by omega) fo.t1).mono fun v s1 ⟨x1, b0, ev, hb0⟩ => ?_
  subst ev
  refine (T_ltold n hd (by omega) fo.t2).mono fun v s2 ⟨x2, b1, ev, hb1⟩ => ?_
  subst ev
  simp
  refine (T_ltold n hd (by omega) fo.swap.t2).mono fun v s3 ⟨x3, b2, ev, hb2⟩ => ?_
  subst ev
  rw [T_mkTup (by simp; omega)]
  refine (T_ltold n hd (by simp; omega) fo.t3).mono fun v s4 ⟨x4, b3, ev, hb3⟩ => ?_
  subst ev
  rw [T_mkTup (by simp; omega)]
  refine (T_ltold n hd (by simp; omega) fo.swap.t3).mono fun v s5 ⟨x5, b4, ev, hb4⟩ => ?_
  subst ev
  have g4 := x4 _ _ (get_push_self s3 (.lst [.bool b1, .bool b2]))
  have g5 := x5 _ _ g4
  obtain ⟨p, ep⟩ : ∃ p, p = s3.nxt := ⟨_, rfl⟩
  obtain ⟨q, eq⟩ : ∃ q, q = s5.nxt := ⟨_, rfl⟩
  obtain ⟨t1, e1⟩ : ∃ t1, t1 = s5.push (.lst [.bool b3, .bool b4]) := ⟨_, rfl⟩
  have gp1 : t1.get p = some (.lst [.bool b1, .bool b2]) := by rw [e1, ep]; exact get_push g5
  have gq1 : t1.get q = some (.lst [.bool b3, .bool b4]) := by rw [e1, eq]; exact get_push_self _ _
  have xx : Ex s t1 := by
    rw [e1]
    exact ((((((Ex.push _ _).trans x1).trans x2).trans x3).trans ((Ex.push _ _).trans x4)).trans x5).trans (Ex.push _ _)
  rw [← e1, ← ep, ← eq]
  rw [T_addLs (get_push_self _ _) (get_push gp1) (by simp)]
  rw [T_addLs (get_push_self _ _) (get_push (get_push gq1)) (by simp)]
  obtain ⟨t4, e4⟩ : ∃ t4, t4 = ((t1.push (.lst [.bool b0])).push (.lst ([.bool b0] ++ [.bool b1, .bool b2]))).push (.lst ([.bool b0] ++ [.bool b1, .bool b2] ++ [.bool b3, .bool b4])) := ⟨_, rfl⟩
  have hn : isIn .none (.loc ((t1.push (.lst [.bool b0])).push (.lst ([.bool b0] ++ [.bool b1, .bool b2]))).nxt) t4 = some false := by
    rw [e4]
    exact isIn_nb (l := [b0, b1, b2, b3, b4]) (get_push_self _ _)
  have gp : t4.get p = some (.lst [.bool b1, .bool b2]) := by rw [e4]; exact get_push (get_push (get_push gp1))
  have gq : t4.get q = some (.lst [.bool b3, .bool b4]) := by rw [e4]; exact get_push (get_push (get_push gq1))
  have x4 : Ex s t4 := by rw [e4]; exact ((xx.trans (Ex.push _ _)).trans (Ex.push _ _)).trans (Ex.push _ _)
  rw [← e4, hn]
  have i0 : ix (.loc p) (.int 0) t4 = .ok (.bool b1) t4 := ix_locI gp (r := 0) (by decide) (by simp)
  have i1 : ix (.loc p) (.int 1) t4 = .ok (.bool b2) t4 := ix_locI gp (r := 1) (by decide) (by simp)
  have j0 : ix (.loc q) (.int 0) t4 = .ok (.bool b3) t4 := ix_locI gq (r := 0) (by decide) (by simp)
  have j1 : ix (.loc q) (.int 1) t4 = .ok (.bool b4) t4 := ix_locI gq (r := 1) (by decide) (by simp)
  have four := apart_four (A := arr A) (B := arr B) (X := (· ∈ X)) (Y := (· ∈ Y)) (W := (· ∈ W)) (Z := (· ∈ Z)) fo.xy fo.xw
  have m1 : (fun v => v ∈ isort (Y ++ W)) = fun v => v ∈ Y ∨ v ∈ W := funext fun v => propext (isort_mem.trans List.mem_append)
  have m2 : (fun v => v ∈ Z ++ W) = fun v => v ∈ Z ∨ v ∈ W := funext fun v => propext List.mem_append
  have m3 : (fun v => v ∈ Z ++ Y) = fun v => v ∈ Z ∨ v ∈ Y := funext fun v => propext List.mem_append
  rw [m1] at hb0
  rw [m2] at hb3
  rw [m3] at hb4
  obtain ⟨f1, f2, f3, f4⟩ := four
  have r1 : b0 = (b1 && b2) := by rw [Bool.eq_iff_iff, Bool.and_eq_true, hb0, hb1, hb2, f1, not_or]
  have r2 : b0 = (b3 && b4) := by rw [Bool.eq_iff_iff, Bool.and_eq_true, hb0, hb3, hb4, f2, not_or]
  have r3 : b0 = (b3 && b2) := by rw [Bool.eq_iff_iff, Bool.and_eq_true, hb0, hb3, hb2, f3, not_or]
  have r4 : b0 = (b4 && b1) := by rw [Bool.eq_iff_iff, Bool.and_eq_true, hb0, hb4, hb1, f4, not_or]
  have fin := hQ _ _ ⟨rfl, x4⟩
  clear hb0 hb1 hb2 hb3 hb4 f1 f2 f3 f4
  simp [i0, i1, j0, j1, eqD_bb]
  revert r1 r2 r3 r4
  clear hn gp gq i0 i1 j0 j1 e4 gp1 gq1 e1
  cases b1 <;> cases b2 <;> cases b3 <;> cases b4 <;> cases b0 <;> simp [fin]
end EV
/-! QvM: the draws begin (own work). -/
namespace EV
open PySem (Str PyData)
theorem T_mapI {con : List D} {cf : Cf} {ρ : Env} {s : Sto} {Q : D → Sto → Prop} {src e : E} {i k : Nat} {L : List Int} (F : Int → D) (hk : s.get k = some (.lst (iL L))) (hs : T (evE con cf src ρ s) fun v s' => v = .loc k ∧ s' = s)
    (he : ∀ p s, T (evE con cf e ((wipe (noClo ρ) [i]).set i (some (.int p))) s) fun d s1 => d = F p ∧ s1 = s)
    (hl : L.length ≤ 1000) (q : Q (.loc s.nxt) (s.push (.lst (L.map F)))) : T (evE con cf (.gen .list (.e src) (.n i) [i] .nil e) ρ s) Q := by
  rw [T_genL, T_sre, T_eq hs]
  simp only [T_ok, walk_loc hk, T_osome]
  refine T_lcP (enc := D.int) s (fun _ => true) F (fun acc => still_iL (get_push hk)) L [] (fun p hp => ⟨_, rfl, fun acc => ?_⟩) (by simp; omega) (by rw [List.filter_eq_self.mpr (fun _ _ => rfl), List.nil_append]; exact q)
  simp only [T_ifnil, true_and]
  exact fun _ => he p _
theorem rd_ro {s : Sto} {k : Nat} {l : List Int} (h : s.get k = some (.ro (iL l))) : (D.loc k).rd s = some (.list (pI l)) := by
  unfold D.rd deep
  have e : D.read s 20 (.loc k) = some (.list (pI l)) := by
    show (match s.get k with
      | some (.lst xs) => (xs.mapM (D.read s 19)).map PyData.list
      | some (.ro xs) => (xs.mapM (D.read s 19)).map .list
      | _ => Option.none) = _
    rw [h]
    show Option.map _ ((iL l).mapM (D.read s 19)) = _
    rw [show (iL l).mapM (D.read s 19) = some (pI l) from mapM_enc (enc := D.int) (g := PyData.int) (fun _ => rfl) l]
    rfl
  rw [e]
  have : PySem.SeqAt.shaped (.list (pI l)) = true := by
    unfold PySem.SeqAt.shaped
    show (PyData.canLayAll0 (pI l) && decide (PyData.depthAll (pI l) + 1 ≤ 64)) = true
    rw [canI, depI]; rfl
  simp only [this, if_true]
theorem pow18 (s : Sto) : o2 .pow (.int 10) (.int 18) s = .ok (.int 1000000000000000000) s := rfl
theorem T_begin (n : Nat) {s : Sto} {ns : List Int} (h : s.get 0 = some (.ro (iL ns))) (hl : ns.length ≤ 100) :
    T (runN con4 fns (n + 1) (.fn k_law_begin) [.loc 0] s) fun v s' => ∃ d c l, v = .loc d ∧ St d c l s' 0 := by
  refine T.post fun Q hQ => ?_
  rw [call_fn f_law_begin rfl]
  have eS : (⟨#[97, 116]⟩ : Str) = atS := rfl
  have eC : (⟨#[99, 101, 108, 108, 115]⟩ : Str) = cellsS := rfl
  have eL : (⟨#[108, 101, 102, 116, 115]⟩ : Str) = leftsS := rfl
  simp only [b_law_begin, startE, eS, eC, eL]
  simp [-T_genL]
  obtain ⟨s1, e1⟩ : ∃ s1, s1 = s.push (.lst []) := ⟨_, rfl⟩
  have a1 : s1.get 0 = some (.ro (iL ns)) := by rw [e1]; exact get_push h
  have b1 : s1.get s.nxt = some (.lst (iL [])) := by rw [e1]; exact get_push_self _ _
  have eq1 : eqD (.loc 0) (.loc s.nxt) s1 = some (decide (ns = [])) := by
    simp only [eqD, rd_ro a1, rd_lints b1, PyData.eqv, eqv_ints]
  rw [← e1, eq1]
  simp [-T_genL]
  -- from the cells on
  have cont : ∀ (cells : List Int), 0 < cells.length → cells.length ≤ 100 → T (evE con4 (runN con4 fns n) (.dict (.cons (.str cellsS) (.var 1) (.cons (.str leftsS) (.gen .list (.e (.var 1)) (.n 2) [2] .nil (.ite (.cmp .ge (.var 2) (.bin .pow (.int 10) (.int 18))) (.var 2) (.int 0))) (.cons (.str atS) (.int 0) .nil)))) [some (.loc 0), some (.loc s1.nxt), none] (s1.push (.lst (iL cells)))) Q := fun cells hp hc => by
    obtain ⟨s2, e2⟩ : ∃ s2, s2 = s1.push (.lst (iL cells)) := ⟨_, rfl⟩
    obtain ⟨c, ec⟩ : ∃ c, c = s1.nxt := ⟨_, rfl⟩
    have c2 : s2.get c = some (.lst (iL cells)) := by rw [e2, ec]; exact get_push_self _ _
    rw [← e2, ← ec]
    simp [-T_genL]
    obtain ⟨d, ed⟩ : ∃ d, d = s2.nxt := ⟨_, rfl⟩
    obtain ⟨s3, e3⟩ : ∃ s3, s3 = s2.push (.dct []) := ⟨_, rfl⟩
    have d3 : s3.get d = some (.dct []) := by rw [e3, ed]; exact get_push_self _ _
    have c3 : s3.get c = some (.lst (iL cells)) := by rw [e3]; exact get_push c2
    have cd : c < d := by rw [ed]; exact get_lt c2
    rw [← e3, ← ed]
    have F : Int → Int := fun x => if 1000000000000000000 ≤ x then x else 0
    refine T_mapI (k := c) (L := cells) (fun x => .int (if 1000000000000000000 ≤ x then x else 0)) c3 (by simp) (fun p s => ?_) (by omega) ?_
    · simp [wipe, noClo, pow18]
      by_cases hp : 1000000000000000000 ≤ p
      · simp [hp]; try omega
      · simp [hp]; try omega
    · obtain ⟨l, el⟩ : ∃ l, l = s3.nxt := ⟨_, rfl⟩
      obtain ⟨s4, e4⟩ : ∃ s4, s4 = s3.push (.lst (cells.map fun x => .int (if 1000000000000000000 ≤ x then x else 0))) := ⟨_, rfl⟩
      have l4 : s4.get l = some (.lst (iL (cells.map fun x => if 1000000000000000000 ≤ x then x else 0))) := by
        rw [e4, el, get_push_self]
        simp [iL]
        try rfl
      have c4 : s4.get c = some (.lst (iL cells)) := by rw [e4]; exact get_push c3
      have d4 : s4.get d = some (.dct []) := by rw [e4]; exact get_push d3
      have dl : d < l := by rw [el]; exact get_lt d3
      rw [← el, ← e4]
      have ne1 : (D.same (.str cellsS) (.str atS)) = false := by decide
      have ne2 : (D.same (.str leftsS) (.str atS)) = false := by decide
      have ne4 : (D.same (.str cellsS) (.str leftsS)) = false := by decide
      have ef : fillD d [(D.str cellsS, D.loc c), (D.str leftsS, D.loc l), (D.str atS, D.int 0)] s4 = .ok (.loc d) (s4.put d (.dct [(D.str cellsS, D.loc c), (D.str leftsS, D.loc l), (D.str atS, D.int 0)])) := by
        simp only [fillD, d4]
        simp [D.key, putD, ne1, ne2, ne4]
      rw [ef]
      simp
      refine hQ _ _ ⟨d, c, l, rfl, ⟨by omega, by omega, by omega, ⟨0, Nat.le_refl _, get_put_self d4⟩, cells, cells.map fun x => if 1000000000000000000 ≤ x then x else 0, ?_, ?_, (List.length_map ..).symm, hp, by omega⟩⟩
      · rw [get_put_ne (by omega)]; exact c4
      · rw [get_put_ne (by omega)]; exact l4
  by_cases hn : ns = []
  · simp [hn, -T_genL]
    have z := cont [0] (by simp) (by simp)
    simpa [-T_genL, iL] using z
  · simp [hn, -T_genL]
    have ei : bf .list [.loc 0] s1 = mkList (iL ns) s1 := by simp only [bf, D.items, a1]
    rw [ei, T_mkList (by simp; omega)]
    have z := cont ns (List.length_pos_iff.mpr hn) hl
    simpa [-T_genL] using z
end EV
/-! QvL: two variables and a third one; the law (own work). -/
namespace EV
open PySem (Str PyData)
theorem cut_from {ds : List D} {k : Nat} (h : k ≤ ds.length) : cut ds (some (k : Int)) none = ds.drop k := by
  unfold cut
  rw [HT.sIx_nat, HT.sIx_none, Nat.min_eq_left h, List.take_of_length_le (by simp)]
theorem cut_mid {ds : List D} {j k : Nat} (h : j ≤ ds.length) : cut ds (some (j : Int)) (some (k : Int)) = (ds.drop j).take (min k ds.length - j) := by
  unfold cut
  rw [HT.sIx_nat, HT.sIx_nat, Nat.min_eq_left h]
/-- keeping some of a list, by draws -/
theorem T_keepD (n : Nat) {con : List D} {cf : Cf} {ρ : Env} {d c l x : Nat} {s : Sto} {m k : Nat} {L : List Int} {ifs : Es} {Q : Unit → Sto → Prop} (h : St d c l s m) (kd : k ≠ d) (kl : k ≠ l)
    (hk : s.get k = some (.lst (iL L))) (hl : L.length ≤ 1000) (hx : x < ρ.length)
    (ht : ∀ (v : Int) (s : Sto) (j : Nat), St d c l s (m + j) → j ≤ L.length → T (evIfs con cf ifs ((wipe (noClo ρ) [x]).set x (some (.int v))) s) fun b s' => St d c l s' (m + j + 1) ∧ Ed d l s s')
    (q : ∀ G s', G.Sublist L → St d c l s' (m + L.length) → Ed d l s s' → s.nxt ≤ s'.nxt → s'.get s.nxt = some (.lst (iL G)) → Q () s') :
    T (lcGo (evIfs con cf ifs) (evE con cf (.var x)) (.n x) (some (k, iL L)) (wipe (noClo ρ) [x]) s.nxt (iL L) (s.push (.lst []))) Q := by
  have dz : d < s.nxt := h.dlt
  have cz : c < s.nxt := h.clt
  have lz : l < s.nxt := h.llt
  have kz : k < s.nxt := get_lt hk
  refine T_lcI (fun r acc s' => ∃ pre rest G, r = iL rest ∧ L = pre ++ rest ∧ acc = iL G ∧ G.Sublist pre ∧ s'.get k = some (.lst (iL L)) ∧ s'.get s.nxt = some (.lst (iL G)) ∧ St d c l s' (m + pre.length) ∧ Ed d l s s') (fun r acc s' ⟨_, _, _, _, _, _, _, g, _⟩ => still_iL g) ?_ ?_ _ _ _
    ⟨[], L, [], rfl, rfl, rfl, List.Sublist.refl _, get_push hk, get_push_self _ _, h.push _, (Ex.push _ _).ed⟩
  · rintro v r acc s2 ⟨pre, rest, G, hr, hL, rfl, sG, g1, g2, st, ed⟩
    cases rest with
    | nil => cases hr
    | cons z rest =>
      obtain ⟨rfl, rfl⟩ := List.cons.inj (show v :: r = D.int z :: iL rest from hr)
      have hlen := congrArg List.length hL
      simp at hlen
      refine ⟨_, rfl, ?_⟩
      refine (ht z s2 pre.length st (by omega)).mono fun b s3 ⟨st3, ed3⟩ => ?_
      have g1 := ed3.at_ _ _ (by omega) (by omega) g1
      have g2 := ed3.at_ _ _ (by omega) (by omega) g2
      have lG := sG.length_le
      cases b with
      | false =>
        simp only [Bool.false_eq_true, if_false]
        exact ⟨pre ++ [z], rest, G, rfl, by simp [hL], rfl, sG.trans (List.sublist_append_left _ _), g1, g2, by rw [List.length_append, List.length_singleton]; exact st3, ed.trans ed3⟩
      | true =>
        simp only [if_true]
        have : (evE con cf (.var x) ((wipe (noClo ρ) [x]).set x (some (.int z))) s3) = .ok (.int z) s3 := by
          simp [evE, getV, wipe, noClo, hx, D.isClo]
        rw [this]
        simp only [T_ok]
        refine ⟨g2, by simp [iL]; exact Nat.lt_of_lt_of_le (show G.length < 100000 by omega) (by decide), pre ++ [z], rest, G ++ [z], rfl, by simp [hL], by simp [iL], sG.append (List.Sublist.refl _), ?_, ?_, ?_, (ed.trans ed3).put (Nat.le_refl _) _⟩
        · rw [get_put_ne (by omega)]; exact g1
        · rw [get_put_self g2]; simp [iL]
        · rw [List.length_append, List.length_singleton]; exact st3.put (by omega) (by omega) (by omega) _
  · rintro acc s2 ⟨pre, rest, G, hr, hL, rfl, sG, g1, g2, st, ed⟩
    have hr : rest = [] := by
      cases rest with
      | nil => rfl
      | cons _ _ => cases hr
    subst hr
    simp at hL
    subst hL
    exact q G s2 sG st ed ed.le g2
theorem T_someset (n : Nat) {d c l : Nat} {s : Sto} {m k : Nat} {L : List Int} (h : St d c l s m) (hm : m ≤ 600000) (kd : k ≠ d) (kl : k ≠ l) (hk : s.get k = some (.lst (iL L))) (hl : L.length ≤ 1000) :
    T (runN con4 fns (n + 3) (.fn k_law_some_set) [.loc d, .loc k] s) fun v s' => ∃ G, v = tI G ∧ G.Sublist L ∧ St d c l s' (m + L.length) ∧ Ed d l s s' := by
  refine T.post fun Q hQ => ?_
  rw [call_fn f_law_some_set rfl]
  simp [b_law_some_set, startE, walk_loc hk]
  refine T_keepD n (x := 2) (ρ := [some (.loc d), some (.loc k), none]) h kd kl hk hl (by simp) (fun v s j st hj => ?_) fun G s' sG st ed le g => ?_
  · simp [wipe, noClo]
    refine (T_draw n st (by omega) (lim := 2) (by omega) (by omega)).mono fun v s1 ⟨t, ev, t1, t2, st1, ed1⟩ => ?_
    subst ev
    simp
    exact ⟨st1, ed1⟩
  · rw [tuple_loc g]
    exact hQ _ _ ⟨G, rfl, sG, st, ed⟩
theorem unp_loc3 (i j k : Nat) {z : Nat} {a b c : D} {ρ : Env} {s : Sto} (h : s.get z = some (.lst [a, b, c])) : unp (.t (.cons (.n i) (.cons (.n j) (.cons (.n k) .nil)))) (.loc z) ρ s = some (((ρ.set i (some a)).set j (some b)).set k (some c)) := by
  simp only [unp, h]
  rfl
theorem three_of {n : Nat} {a b : Int} {G : List Int} (ha : 0 ≤ a ∧ a < n) (hb : 0 ≤ b ∧ b < n) (nd : G.Nodup) (hg : ∀ v ∈ G, 0 ≤ v ∧ v < n) (ab : a ≠ b) (ag : a ∉ G) (bg : b ∉ G) : Three n [a] [b] (isort G) := by
  refine ⟨by simp, by simp, isort_lt nd, by simpa using ha, by simpa using hb, fun v hv => hg v (isort_mem.mp hv), by simpa using ab, ?_, ?_⟩
  · intro v hv hw; rw [List.mem_singleton.mp hv] at hw; exact ag (isort_mem.mp hw)
  · intro v hv hw; rw [List.mem_singleton.mp hv] at hw; exact bg (isort_mem.mp hw)
theorem T_weak (n : Nat) {d c l : Nat} {s : Sto} {m : Nat} {N : List Str} {A B : List Pr} (hd : Dia N A B) (h : St d c l s m) (hm : m ≤ 500000) (h3 : 3 ≤ N.length) :
    T (runN con4 fns (n + 10) (.fn k_law_weak) [.loc d, dia N A B] s) fun v s' => v = .bool true ∧ St d c l s' (m + 100) ∧ Ed d l s s' := by
  refine T.post fun Q hQ => ?_
  have n2 := hd.n2
  rw [call_fn f_law_weak rfl]
  simp [b_law_weak, startE, -T_genT, -T_genL]
  refine T_listrng n (m := N.length) (by omega) (by simp [dia]) (fun x s => by simp [wipe, noClo]) ?_
  simp only [list_tup]
  rw [T_mkList (by simp; omega)]
  refine (T_shuffled (n + 5) (h.push _) (by omega) (get_push_self _ _) (by have := h.dlt; omega) (by have := h.llt; omega) (by simp; omega)).mono fun v s1 ⟨b, P, ev, hb, gb, pm, st1, ed1⟩ => ?_
  subst ev
  have ndP : P.Nodup := pm.nodup_iff.mpr (pw_nd (allv_lt _))
  have lP : P.length = N.length := by have := pm.length_eq; simpa using this
  have mP : ∀ v ∈ P, 0 ≤ v ∧ v < N.length := fun v hv => allv_mem.mp (pm.mem_iff.mp hv)
  have st1 : St d c l s1 (m + N.length) := by simpa using st1
  have ed1 : Ed d l s s1 := (Ex.push _ _).ed.trans ed1
  obtain ⟨p0, p1, p2, P3, rfl⟩ : ∃ p0 p1 p2 P3, P = p0 :: p1 :: p2 :: P3 := by
    match P, lP with
    | p0 :: p1 :: p2 :: P3, _ => exact ⟨p0, p1, p2, P3, rfl⟩
    | [p0, p1], h => simp at h; omega
    | [p0], h => simp at h; omega
    | [], h => simp at h; omega
  have c1 : cut (iL (p0 :: p1 :: p2 :: P3)) none (some 3) = [.int p0, .int p1, .int p2] := by
    rw [show (some (3 : Int)) = some ((3 : Nat) : Int) from rfl, cut_pre (by simp)]; rfl
  have c2 : cut (iL (p0 :: p1 :: p2 :: P3)) (some 3) none = iL P3 := by
    rw [show (some (3 : Int)) = some ((3 : Nat) : Int) from rfl, cut_from (by simp)]; rfl
  have db := h.dlt
  have lb := h.llt
  have sb : s.nxt + 1 ≤ b := by simpa [Sto.push, Sto.nxt] using hb
  simp [slice_loc gb, c1, -T_genL]
  obtain ⟨s2, e2⟩ : ∃ s2, s2 = s1.push (.lst [.int p0, .int p1, .int p2]) := ⟨_, rfl⟩
  have g2 : s2.get s1.nxt = some (.lst [.int p0, .int p1, .int p2]) := by rw [e2]; exact get_push_self _ _
  have b2 : s2.get b = some (.lst (iL (p0 :: p1 :: p2 :: P3))) := by rw [e2]; exact get_push gb
  have st2 : St d c l s2 (m + N.length) := by rw [e2]; exact st1.push _
  have ed2 : Ed d l s s2 := by rw [e2]; exact ed1.trans (Ex.push _ _).ed
  rw [T_mkList (by simp), ← e2, unp_loc3 _ _ _ g2]
  simp [slice_loc b2, c2]
  rw [T_mkList (by simp at lP ⊢; omega)]
  obtain ⟨s3, e3⟩ : ∃ s3, s3 = s2.push (.lst (iL P3)) := ⟨_, rfl⟩
  have g3 : s3.get s2.nxt = some (.lst (iL P3)) := by rw [e3]; exact get_push_self _ _
  have st3 : St d c l s3 (m + N.length) := by rw [e3]; exact st2.push _
  have ed3 : Ed d l s s3 := by rw [e3]; exact ed2.trans (Ex.push _ _).ed
  have b2lt := get_lt b2
  rw [← e3]
  simp [walk_loc g3]
  have lP3 : P3.length + 3 = N.length := by simpa using lP
  have hs2 := (Ed.le ed2)
  have s23 : s2.nxt ≤ s3.nxt := by rw [e3]; exact (Ex.push s2 (.lst (iL P3))).le
  refine T_keepD n (x := 9) (ρ := [some (.loc d), some (dia N A B), some (.loc b), some (.int p0), some (.int p1), some (.int p2), none, none, none, none]) st3 (k := s2.nxt) (by omega) (by omega) g3 (by omega) (by simp) (fun v s j st hj => ?_) fun G s4 sG st4 ed4 le4 g4 => ?_
  · simp [wipe, noClo]
    refine (T_draw (n + 7) st (by omega) (lim := 3) (by omega) (by omega)).mono fun v s1 ⟨t, ev, t1, t2, st1, ed1⟩ => ?_
    subst ev
    simp
    exact ⟨st1, ed1⟩
  have lG := sG.length_le
  rw [T_sortL g4 (by omega), tuple_loc (get_push_self _ _)]
  obtain ⟨s5, e5⟩ : ∃ s5, s5 = s4.push (.lst (iL (isort G))) := ⟨_, rfl⟩
  have st5 : St d c l s5 (m + N.length + P3.length) := by rw [e5]; exact st4.push _
  have ed5 : Ed d l s s5 := by rw [e5]; exact (ed3.trans ed4).trans (Ex.push _ _).ed
  rw [← e5]
  obtain ⟨Z, eZ⟩ : ∃ Z, Z = isort G := ⟨_, rfl⟩
  rw [← eZ]
  have nd1 := ndP
  rw [List.nodup_cons, List.nodup_cons, List.nodup_cons] at nd1
  obtain ⟨q0, q1, q2, q3⟩ := nd1
  simp at q0 q1
  have mZ : ∀ v, v ∈ Z ↔ v ∈ G := fun v => by rw [eZ]; exact isort_mem
  have zP : ∀ v ∈ Z, v ∈ P3 := fun v hv => sG.subset ((mZ v).mp hv)
  have ndZ : Z.Nodup := by rw [eZ]; exact pw_nd (isort_lt (q3.sublist sG))
  have rZ : ∀ v ∈ Z, 0 ≤ v ∧ v < N.length := fun v hv => mP v (by simp [zP v hv])
  have r0 := mP p0 (by simp)
  have r1 := mP p1 (by simp)
  have r2 := mP p2 (by simp)
  have z0 : p0 ∉ Z := fun h => q0.2.2 (zP _ h)
  have z1 : p1 ∉ Z := fun h => q1.2 (zP _ h)
  have z2 : p2 ∉ Z := fun h => q2 (zP _ h)
  have lZ : Z.length ≤ 12 := by rw [eZ, isort_len]; omega
  have one : ∀ x : Int, (iL [x] : List D) = [.int x] := fun _ => rfl
  simp
  rw [← one p0, ← one p1, ← one p2]
  refine (T_ltold n hd (X := [p0]) (Y := [p1]) (G := Z) (by omega) (three_of r0 r1 ndZ rZ q0.1 z0 z1)).mono fun v s6 ⟨x6, b0, ev, hb0⟩ => ?_
  subst ev
  simp
  rw [T_mkTup (by simp; omega)]
  have ndZ2 : (Z ++ [p2]).Nodup := nd_app ndZ (by simp) fun v hv hw => z2 (List.mem_singleton.mp hw ▸ hv)
  have rZ2 : ∀ v ∈ Z ++ [p2], 0 ≤ v ∧ v < N.length := fun v hv => (List.mem_append.mp hv).elim (rZ v) fun h => List.mem_singleton.mp h ▸ r2
  refine (T_ltold n hd (X := [p0]) (Y := [p1]) (G := Z ++ [p2]) (by simp; omega) (three_of r0 r1 ndZ2 rZ2 q0.1 (by simp [z0, q0.2.1]) (by simp [z1, q1.1]))).mono fun v s7 ⟨x7, b1, ev, hb1⟩ => ?_
  subst ev
  refine (T_ltold n hd (X := [p0]) (Y := [p2]) (G := Z) (by omega) (three_of r0 r2 ndZ rZ q0.2.1 z0 z2)).mono fun v s8 ⟨x8, b2, ev, hb2⟩ => ?_
  subst ev
  refine (T_ltold n hd (X := [p2]) (Y := [p1]) (G := Z) (by omega) (three_of r2 r1 ndZ rZ (fun e => q1.1 e.symm) z2 z1)).mono fun v s9 ⟨x9, b3, ev, hb3⟩ => ?_
  subst ev
  have g7 := x9 _ _ (x8 _ _ (get_push_self s7 (.lst [.bool b0, .bool b1])))
  obtain ⟨x, ex⟩ : ∃ x, x = s7.nxt := ⟨_, rfl⟩
  obtain ⟨y, ey⟩ : ∃ y, y = s9.nxt := ⟨_, rfl⟩
  obtain ⟨u1, e1⟩ : ∃ u1, u1 = s9.push (.lst [.bool b2, .bool b3]) := ⟨_, rfl⟩
  have gx1 : u1.get x = some (.lst [.bool b0, .bool b1]) := by rw [e1, ex]; exact get_push g7
  have gy1 : u1.get y = some (.lst [.bool b2, .bool b3]) := by rw [e1, ey]; exact get_push_self _ _
  have xx : Ex s5 u1 := by
    rw [e1]
    exact ((((x6.trans x7).trans (Ex.push _ _)).trans x8).trans x9).trans (Ex.push _ _)
  rw [← e1, ← ex, ← ey]
  rw [T_addLs gx1 gy1 (by simp)]
  obtain ⟨u2, e2⟩ : ∃ u2, u2 = u1.push (.lst ([.bool b0, .bool b1] ++ [.bool b2, .bool b3])) := ⟨_, rfl⟩
  have hn : isIn .none (.loc u1.nxt) u2 = some false := by
    rw [e2]
    exact isIn_nb (l := [b0, b1, b2, b3]) (get_push_self _ _)
  have gx : u2.get x = some (.lst [.bool b0, .bool b1]) := by rw [e2]; exact get_push gx1
  have gy : u2.get y = some (.lst [.bool b2, .bool b3]) := by rw [e2]; exact get_push gy1
  have xu : Ex s5 u2 := by rw [e2]; exact xx.trans (Ex.push _ _)
  rw [← e2, hn]
  have i0 : ix (.loc x) (.int 0) u2 = .ok (.bool b0) u2 := ix_locI gx (r := 0) (by decide) (by simp)
  have i1 : ix (.loc x) (.int 1) u2 = .ok (.bool b1) u2 := ix_locI gx (r := 1) (by decide) (by simp)
  have j0 : ix (.loc y) (.int 0) u2 = .ok (.bool b2) u2 := ix_locI gy (r := 0) (by decide) (by simp)
  have j1 : ix (.loc y) (.int 1) u2 = .ok (.bool b3) u2 := ix_locI gy (r := 1) (by decide) (by simp)
  have fin := hQ _ _ ⟨rfl, (st5.ex xu).mono (by omega), ed5.trans xu.ed⟩
  have key : b0 = true → b1 = true → b2 = false → b3 = true := fun h0 h1 h2 => by
    have c2 : Conn (arr A) (arr B) (· ∈ [p0]) (· ∈ [p2]) (· ∈ Z) := Classical.byContradiction fun z => by rw [hb2.mpr z] at h2; cases h2
    refine hb3.mpr fun c3 => ?_
    have e1 : (fun v => v ∈ [p2]) = fun v => v = p2 := funext fun v => propext List.mem_singleton
    rw [e1] at c2 c3
    rcases conn_weak (fun v hv e => q0.2.1 (by rw [← List.mem_singleton.mp hv]; exact e)) z2 (fun h => q1.1 (List.mem_singleton.mp h).symm) c2 c3 with c | c
    · exact hb0.mp h0 c
    · refine hb1.mp h1 (c.mono (fun _ => Iff.rfl) (fun _ => Iff.rfl) fun v => ?_)
      rw [List.mem_append, List.mem_singleton]
  clear hb0 hb1 hb2 hb3
  simp [i0, i1, j0, j1]
  revert key
  clear hn gx gy i0 i1 j0 j1 e2 gx1 gy1 e1 g7
  cases b0 <;> cases b1 <;> cases b2 <;> cases b3 <;> simp [fin]
theorem T_slt {b : Nat} {xs : List D} {s : Sto} {lo hi : Option Int} {K : D → Sto → Prop} (h : s.get b = some (.lst xs)) (hl : (cut xs lo hi).length ≤ 100000) : T (slice (.loc b) lo hi s).up (fun d s1 => T (bf .tuple [d] s1).up K) = K (.tup (cut xs lo hi)) (s.push (.lst (cut xs lo hi))) := by
  rw [slice_loc h, T_mkList hl, tuple_loc (get_push_self _ _), T_upok]
theorem T_law (n : Nat) {s : Sto} {ns : List Int} (h : s.get 0 = some (.ro (iL ns))) (hl : ns.length ≤ 100) :
    T (runN con4 fns (n + 11) (.fn k_law) [.loc 0] s) fun v s' => v = .bool true := by
  refine T.post fun Q hQ => ?_
  rw [call_fn f_law rfl]
  simp [b_law, startE, -T_genT]
  refine (T_begin (n + 9) h hl).mono fun v s1 ⟨d, c, l, ev, st1⟩ => ?_
  subst ev
  rw [show (3 : Int) = ((3 : Nat) : Int) from rfl, T_rng1 3 (by decide)]
  refine T_for (fun r ρ s' => ∃ (o1 o2 o3 o4 : Option D) (pre rest : List Int), r = iL rest ∧ allv 3 = pre ++ rest ∧ ρ = [some (.loc 0), some (.loc d), o1, o2, o3, o4] ∧ St d c l s' (pre.length * 2000)) (fun _ _ _ _ => rfl) ?_ ?_ _ _ _ ⟨none, none, none, none, [], allv 3, rfl, rfl, rfl, st1⟩
  · rintro x r ρ s3 ⟨o1, o2, o3, o4, pre, rest, hr, hall, rfl, st3⟩
    cases rest with
    | nil => cases hr
    | cons z rest =>
      obtain ⟨rfl, rfl⟩ := List.cons.inj (show x :: r = D.int z :: iL rest from hr)
      have hpl : pre.length < 3 := by
        have := congrArg List.length hall
        simp at this
        omega
      refine ⟨_, rfl, ?_⟩
      simp [-T_genT]
      refine (T_any (n + 4) (mo := 7) st3 (by omega) (by decide) (by decide)).mono fun v s4 ⟨N, A, B, ev, hd, h2, h12, st4, ed4⟩ => ?_
      subst ev
      simp [-T_genT]
      refine (T_rows (n + 7) (cnt := N.length) (many := 4) st4 (by omega) (by omega) (by decide)).mono fun v s5 ⟨z1, f, ev, hz1, g1, hf, st5, ed5⟩ => ?_
      subst ev
      have fo : Four N.length (f 0) (f 1) (f 2) (f 3) := ⟨hf.up 0, hf.up 1, hf.up 2, hf.up 3, hf.rg 0, hf.rg 1, hf.rg 2, hf.rg 3, hf.ap 0 1 (by decide), hf.ap 0 2 (by decide), hf.ap 0 3 (by decide), hf.ap 1 2 (by decide), hf.ap 1 3 (by decide), hf.ap 2 3 (by decide)⟩
      refine (T_sright n hd g1 fo).mono fun v s6 ⟨ev, x6⟩ => ?_
      subst ev
      have st6 := st5.ex x6
      simp [-T_genT]
      refine T_listrng n (m := N.length) (by omega) (by simp [dia]) (fun x s => by simp [wipe, noClo]) ?_
      simp only [list_tup]
      rw [T_mkList (by simp; omega)]
      refine (T_shuffled (n + 6) (st6.push _) (by omega) (get_push_self _ _) (by have := st6.dlt; omega) (by have := st6.llt; omega) (by simp; omega)).mono fun v s7 ⟨b, P, ev, hb, gb, pm, st7, ed7⟩ => ?_
      subst ev
      have ndP : P.Nodup := pm.nodup_iff.mpr (pw_nd (allv_lt _))
      have lP : P.length = N.length := by have := pm.length_eq; simpa using this
      have mP : ∀ v ∈ P, 0 ≤ v ∧ v < N.length := fun v hv => allv_mem.mp (pm.mem_iff.mp hv)
      obtain ⟨p0, p1, P2, rfl⟩ : ∃ p0 p1 P2, P = p0 :: p1 :: P2 := by
        match P, lP with
        | p0 :: p1 :: P2, _ => exact ⟨p0, p1, P2, rfl⟩
        | [p0], h => simp at h; omega
        | [], h => simp at h; omega
      have c1 : cut (iL (p0 :: p1 :: P2)) none (some 1) = iL [p0] := by
        rw [show (some (1 : Int)) = some ((1 : Nat) : Int) from rfl, cut_pre (by simp)]; rfl
      have c2 : cut (iL (p0 :: p1 :: P2)) (some 1) (some 2) = iL [p1] := by
        rw [show (some (1 : Int)) = some ((1 : Nat) : Int) from rfl, show (some (2 : Int)) = some ((2 : Nat) : Int) from rfl, cut_mid (by simp)]
        simp [iL]
      have c3 : cut (iL (p0 :: p1 :: P2)) (some 2) (some 3) = iL (P2.take 1) := by
        rw [show (some (2 : Int)) = some ((2 : Nat) : Int) from rfl, show (some (3 : Int)) = some ((3 : Nat) : Int) from rfl, cut_mid (by simp)]
        cases P2 with
        | nil => rfl
        | cons a r => simp [iL]
      have c4 : cut (iL (p0 :: p1 :: P2)) (some 3) none = iL (P2.drop 1) := by
        cases P2 with
        | nil => rfl
        | cons a r => rw [show (some (3 : Int)) = some ((3 : Nat) : Int) from rfl, cut_from (by simp)]; rfl
      simp
      have lPP : (p0 :: p1 :: P2).length ≤ 100000 := by simp at lP ⊢; omega
      have lP2 : P2.length ≤ 12 := by simp at lP; omega
      rw [T_slt gb (by rw [c1]; simp), c1, T_slt (get_push gb) (by rw [c2]; simp), c2, T_slt (get_push (get_push gb)) (by rw [c3]; simp; omega), c3, slice_loc (get_push (get_push (get_push gb))), c4, T_mkList (by simp; omega)]
      obtain ⟨s8, e8⟩ : ∃ s8, s8 = ((s7.push (.lst (iL [p0]))).push (.lst (iL [p1]))).push (.lst (iL (P2.take 1))) := ⟨_, rfl⟩
      rw [← e8]
      have x8 : Ex s7 s8 := by rw [e8]; exact ((Ex.push _ _).trans (Ex.push _ _)).trans (Ex.push _ _)
      rw [T_sortL (get_push_self _ _) (by simp; omega)]
      obtain ⟨R, eR⟩ : ∃ R, R = P2.drop 1 := ⟨_, rfl⟩
      obtain ⟨W, eW⟩ : ∃ W, W = P2.take 1 := ⟨_, rfl⟩
      rw [← eR, ← eW]
      have hWR : P2 = W ++ R := by rw [eW, eR, List.take_append_drop]
      have lW : W.length ≤ 1 := by rw [eW]; simp; omega
      obtain ⟨s9, e9⟩ : ∃ s9, s9 = (s8.push (.lst (iL R))).push (.lst (iL (isort R))) := ⟨_, rfl⟩
      obtain ⟨k, ek⟩ : ∃ k, k = (s8.push (.lst (iL R))).nxt := ⟨_, rfl⟩
      have k9 : s9.get k = some (.lst (iL (isort R))) := by rw [e9, ek]; exact get_push_self _ _
      have x9 : Ex s7 s9 := by rw [e9]; exact (x8.trans (Ex.push _ _)).trans (Ex.push _ _)
      have st9 := st7.ex x9
      have kb : s7.nxt ≤ k := by rw [ek]; exact (x8.trans (Ex.push _ _)).le
      have d7 := st7.dlt
      have l7 := st7.llt
      have lR : R.length ≤ 12 := by have := congrArg List.length hWR; simp at lP this; omega
      rw [← e9, ← ek]
      refine (T_someset (n + 7) st9 (by simp; omega) (by omega) (by omega) k9 (by rw [isort_len]; omega)).mono fun v s10 ⟨G, ev, sG, st10, ed10⟩ => ?_
      subst ev
      rw [T_mkList (by simp)]
      obtain ⟨s11, e11⟩ : ∃ s11, s11 = s10.push (.lst [.tup (iL [p0]), .tup (iL [p1]), .tup (iL W), tI G]) := ⟨_, rfl⟩
      have g11 : s11.get s10.nxt = some (.lst [tI [p0], tI [p1], tI W, tI G]) := by rw [e11]; exact get_push_self _ _
      have st11 := st10.push (.lst [.tup (iL [p0]), .tup (iL [p1]), .tup (iL W), tI G])
      rw [← e11] at st11
      rw [← e11]
      subst hWR
      rw [List.nodup_cons, List.nodup_cons, List.nodup_append] at ndP
      obtain ⟨q0, q1, qW, qR, qWR⟩ := ndP
      have gR : ∀ v ∈ G, v ∈ R := fun v hv => isort_mem.mp (sG.subset hv)
      simp at q0 q1
      have fo2 : Four N.length [p0] [p1] W G := by
        refine ⟨by simp, by simp, ?_, (isort_lt qR).sublist sG, ?_, ?_, ?_, ?_, ?_, ?_, ?_, ?_, ?_, ?_⟩
        · match W, lW with
          | [], _ => simp
          | [a], _ => simp
        · intro v hv; exact mP v (by rw [List.mem_singleton.mp hv]; simp)
        · intro v hv; exact mP v (by rw [List.mem_singleton.mp hv]; simp)
        · intro v hv; exact mP v (by simp [hv])
        · intro v hv; exact mP v (by simp [gR v hv])
        · intro v hv hw; rw [List.mem_singleton.mp hv, List.mem_singleton] at hw; exact q0.1 hw
        · intro v hv hw; rw [List.mem_singleton.mp hv] at hw; exact q0.2.1 hw
        · intro v hv hw; rw [List.mem_singleton.mp hv] at hw; exact q0.2.2 (gR _ hw)
        · intro v hv hw; rw [List.mem_singleton.mp hv] at hw; exact q1.1 hw
        · intro v hv hw; rw [List.mem_singleton.mp hv] at hw; exact q1.2 (gR _ hw)
        · intro v hv hw; exact qWR v hv v (gR v hw) rfl
      simp
      refine (T_sright n hd g11 fo2).mono fun v s12 ⟨ev, x12⟩ => ?_
      subst ev
      have st12 := st11.ex x12
      simp only [List.length_map, allv_len, isort_len] at st12
      simp
      by_cases h3 : (2 : Int) < N.length
      · simp [h3]
        refine (T_weak n hd st12 (by omega) (by omega)).mono fun v s13 ⟨ev, st13, ed13⟩ => ?_
        subst ev
        simp
        exact ⟨_, _, _, _, pre ++ [z], rest, rfl, by simp [hall], ⟨rfl, rfl, rfl, rfl⟩, st13.mono (by simp; omega)⟩
      · simp [h3]
        exact ⟨_, _, _, _, pre ++ [z], rest, rfl, by simp [hall], ⟨rfl, rfl, rfl, rfl⟩, st12.mono (by simp; omega)⟩
  · rintro ρ s3 ⟨o1, o2, o3, o4, pre, rest, hr, hall, rfl, st3⟩
    simp
    exact hQ _ _ rfl
/-- the law's run tells True -/
theorem law_true (ns : List Int) (hl : ns.length ≤ 63) : ∃ S', callN con4 fns 12 (.fn k_law) [.loc 0] [.ro (ns.map .int)] = .ok (.bool true) S' := by
  rw [← runN_eq]
  obtain ⟨v, s, e, hv⟩ := T_run (T_law 1 (s := [.ro (iL ns)]) (ns := ns) rfl (by omega))
  subst hv
  exact ⟨s, e⟩
end EV
namespace HD
open PySem PySem.Spec PyProof.Rows L2
def body : List Stmt := PySem.Challenge.pw_whatwould_k09_whole_what_apart_says_of_a.main.body
def ds : List EV.Def := EV.defsOf body
def cs : List (Str × EV.D) := EV.consOf body
def nm0 : List Str := [("CauseError" : Str), ("BadDiagram" : Str), ("BadSet" : Str), ("Overlap" : Str), ("SMALL" : Str), ("FIGURES" : Str), ("LONGEST" : Str), ("is_whole" : Str), ("is_number" : Str), ("is_name" : Str), ("MOST" : Str), ("wrong_names" : Str)]
def nm1 : List Str := [("is_pair" : Str), ("wrong_pairs" : Str), ("has_ring" : Str), ("wrong_diagram" : Str), ("need_diagram" : Str), ("count_of" : Str), ("is_set" : Str), ("need_set" : Str), ("need_apart" : Str), ("parents_so" : Str), ("spread" : Str), ("above_so" : Str)]
def nm2 : List Str := [("MARKS" : Str), ("INTO_NEAR" : Str), ("INTO_FAR" : Str), ("can_step" : Str), ("steps_of" : Str), ("goes_on" : Str), ("apart_so" : Str), ("need_three" : Str), ("apart" : Str), ("_law_begin" : Str), ("_law_mixed" : Str), ("_law_draw" : Str)]
def nm3 : List Str := [("_law_of" : Str), ("_law_shuffled" : Str), ("_law_names" : Str), ("_law_diagram" : Str), ("_law_sets" : Str), ("_law_above" : Str), ("_law_same" : Str), ("_law_near" : Str), ("_law_reached" : Str), ("_law_apart" : Str), ("_law_some_set" : Str), ("_law_thin" : Str)]
def nm4 : List Str := [("_law_any" : Str), ("_law_told" : Str), ("_law_sets_right" : Str), ("_law_weak" : Str)]
def names : List Str := nm0 ++ nm1 ++ nm2 ++ nm3 ++ nm4
abbrev R : PySem.W.OpenRow := PySem.W.OpenLaw.row PySem.Challenge.rw_whatwould_k09_whole_what_apart_says_of_a
abbrev hk : PySem.W.Hook := EV.hookL 4 (EV.faOf ds cs) (ds.map EV.dOf) (EV.tfOf ds) (EV.tcOf cs)
abbrev ob : PySem.W.SharedT → EV.AlL := EV.obL 4 (EV.faOf ds cs) (ds.map EV.dOf) (EV.tfOf ds) (EV.tcOf cs)
theorem run (w : World) : HandSHeadRun.RunEq R (PySem.W.view R.prog [59]) hk ob 6000 names w := by
  intro os
  kernel_rfl
end HD
namespace HD
theorem prog : EV.Prog ds cs EV.fns := ⟨by kernel_rfl, by kernel_rfl, by kernel_rfl, by intro h; have := congrArg List.length h; revert this; decide +kernel⟩
theorem con_eq : cs.map (·.2) = EV.con4 := by kernel_rfl
theorem math (ns : List Int) (hl : ns.length ≤ 63) (_ : ∀ z ∈ ns, PySem.Builtin.Int.intBits z ≤ 1048576) : ∃ S', EV.callN (cs.map (·.2)) EV.fns 12 (.fn 41) [.loc 0] [.ro (ns.map .int)] = .ok (.bool true) S' := by
  rw [con_eq]
  exact EV.law_true ns hl
end HD
open PySem PySem.W PySem.Calls PyProof.Rows
theorem PySem.Challenge.cw_whatwould_k09_whole_what_apart_says_of_a_holds : PySem.Challenge.rw_whatwould_k09_whole_what_apart_says_of_a.Holds := by
  w_on; o_law
  refine HandSHeadRun.head_any (r := OpenLaw.row PySem.Challenge.rw_whatwould_k09_whole_what_apart_says_of_a) (q := view (OpenLaw.row PySem.Challenge.rw_whatwould_k09_whole_what_apart_says_of_a).prog [59]) (H := HD.hk) (ob := HD.ob) (M := 6000) (loose := HD.names) (d := HandSHeadRun.topDef (OpenLaw.row PySem.Challenge.rw_whatwould_k09_whole_what_apart_says_of_a).prog 59) (kwd := []) EV.obL_eq
    (by kernel_rfl) (fun s => by kernel_rfl) HD.run (by kernel_rfl) (by kernel_rfl) (by kernel_rfl) (by rfl) (by first | assumption | decide +kernel) (by decide +kernel) ⟨rfl, rfl, rfl, rfl, rfl, by decide +kernel⟩ ?hw ?hc
  case hw => w_witness2
  case hc => exact EV.law_walk (N := 12) (lawI := 41) rfl (by decide) (by kernel_rfl) HD.prog ⟨rfl, by decide +kernel, by decide +kernel⟩ (by kernel_rfl) HD.math

