import PyProof.Rows.All
import Wide.All
import OpenK.AllK
import Wide.FinOn
import HandS.ForMost
import HandS.Flow
import HandS.Deep
import HandS.IsInst
import HandS.TupLe
import HandS.TupAny
import HandS.Conv
import HandS.Zip
import HandS.Defaults
import HandS.Lambda
import HandS.Nested
import KE.SortData
import KE.KLam
import KE.DataEq
import PySem.Str
import KE.KeyNested
import KE.KDictKeyed
import KE.KDictWalk
import KE.KTab
import KE.KDictCopyH
import HandS.TryMany
import HandS.TupMul
import KE.KEqDict
import KE.KDictSum
import KE.KUnpack
import HandS.Words
import HandS.Exc
import HandS.ExcOwn
import HandS.WordsExc
import HandS.DictComp
import HandS.Iter
import KE.GoesMore
import PyProof.EnumMake
import PyProof.Draws
import PyProof.DictTable
import KE.KDictOf
import KE.DataMinMax
import HandS.SetFor
import HandS.TupSets
import HandS.Ends
import HandS.More
import HandS.HeadHook4
import HandS.EndTab
import HandS.HeadWalk
import HandS.Head0
import HandS.Head1
import HandS.Head2
import HandS.HeadEnd
import HandS.HeadHook1
import HandS.HeadHook2
import PySem.Challenge.RW_lookspoil_k13_whole_worn_cells
set_option Elab.async false
set_option linter.all false
set_option maxRecDepth 100000
section
/-! MP0: a small language of our own: its data, its memory, its syntax and the weakest preconditions of its parts. -/
namespace MP
open PySem (Str)

inductive D where
  | non | bl (b : Bool) | int (i : Int) | str (s : Str) | tup (ds : List D) | ref (a : Nat) | glo (x : String) | ty (n : String) | clo (l : String) (cap : List D)

namespace D
mutual
def beq : D → D → Bool
  | .non, .non => true
  | .bl a, .bl b => a == b
  | .int a, .int b => decide (a = b)
  | .str a, .str b => decide (a = b)
  | .tup a, .tup b => beqs a b
  | .ref a, .ref b => decide (a = b)
  | .glo a, .glo b => decide (a = b)
  | .ty a, .ty b => decide (a = b)
  | .clo l a, .clo m b => decide (l = m) && beqs a b
  | _, _ => false
def beqs : List D → List D → Bool
  | [], [] => true
  | x :: xs, y :: ys => beq x y && beqs xs ys
  | _, _ => false
end
mutual
theorem eq_of_beq : ∀ {x y : D}, beq x y = true → x = y
  | .non, y, h => by cases y <;> simp_all [beq]
  | .bl a, y, h => by cases y <;> simp_all [beq]
  | .int a, y, h => by cases y <;> simp_all [beq]
  | .str a, y, h => by cases y <;> simp_all [beq]
  | .tup a, .tup b, h => by rw [beq] at h; rw [eqs_of_beqs h]
  | .tup _, .non, h | .tup _, .bl _, h | .tup _, .int _, h | .tup _, .str _, h | .tup _, .ref _, h | .tup _, .glo _, h | .tup _, .ty _, h | .tup _, .clo _ _, h => by simp [beq] at h
  | .ref a, y, h => by cases y <;> simp_all [beq]
  | .glo a, y, h => by cases y <;> simp_all [beq]
  | .ty a, y, h => by cases y <;> simp_all [beq]
  | .clo l a, .clo m b, h => by
    rw [beq, Bool.and_eq_true] at h
    rw [of_decide_eq_true h.1, eqs_of_beqs h.2]
  | .clo _ _, .non, h | .clo _ _, .bl _, h | .clo _ _, .int _, h | .clo _ _, .str _, h | .clo _ _, .ref _, h | .clo _ _, .glo _, h | .clo _ _, .ty _, h | .clo _ _, .tup _, h => by simp [beq] at h
theorem eqs_of_beqs : ∀ {xs ys : List D}, beqs xs ys = true → xs = ys
  | [], [], _ => rfl
  | x :: xs, y :: ys, h => by
    rw [beqs, Bool.and_eq_true] at h
    rw [eq_of_beq h.1, eqs_of_beqs h.2]
  | [], _ :: _, h | _ :: _, [], h => by simp [beqs] at h
end
mutual
theorem beq_self : ∀ x : D, beq x x = true
  | .non | .bl _ | .int _ | .str _ | .ref _ | .glo _ | .ty _ => by simp [beq]
  | .tup a => by rw [beq]; exact beqs_self a
  | .clo l a => by rw [beq, beqs_self a]; simp
theorem beqs_self : ∀ xs : List D, beqs xs xs = true
  | [] => by simp [beqs]
  | x :: xs => by rw [beqs, beq_self x, beqs_self xs]; rfl
end
instance : DecidableEq D := fun x y => if h : beq x y = true then isTrue (eq_of_beq h) else isFalse fun e => h (e ▸ beq_self x)

mutual
/-- nothing but data, no deeper than n: no object of the memory within -/
def ok : Nat → D → Bool
  | _, .non | _, .bl _ | _, .int _ | _, .str _ => true
  | n + 1, .tup ds => oks n ds
  | _, _ => false
def oks : Nat → List D → Bool
  | _, [] => true
  | n, d :: ds => ok n d && oks n ds
end
mutual
/-- Python's == of data -/
def eqv : D → D → Bool
  | .non, .non => true
  | .bl a, .bl b => a == b
  | .bl a, .int j => decide ((if a then 1 else 0) = j)
  | .int i, .bl b => decide (i = (if b then 1 else 0))
  | .int i, .int j => decide (i = j)
  | .str x, .str y => decide (x = y)
  | .tup xs, .tup ys => eqvs xs ys
  | _, _ => false
def eqvs : List D → List D → Bool
  | [], [] => true
  | x :: xs, y :: ys => eqv x y && eqvs xs ys
  | _, _ => false
end
mutual
def depth : D → Nat
  | .tup ds => depths ds + 1
  | _ => 0
def depths : List D → Nat
  | [] => 0
  | d :: ds => max (depth d) (depths ds)
end
mutual
/-- data of one form: what can be put into an order -/
def alike : D → D → Bool
  | .int _, .int _ => true
  | .str _, .str _ => true
  | .tup xs, .tup ys => alikes xs ys
  | _, _ => false
def alikes : List D → List D → Bool
  | [], _ => true
  | _, [] => true
  | x :: xs, y :: ys => alike x y && alikes xs ys
end
mutual
/-- Python's < of data of one form -/
def lt : D → D → Bool
  | .int i, .int j => decide (i < j)
  | .str x, .str y => decide (x.cps.toList < y.cps.toList)
  | .tup xs, .tup ys => lts xs ys
  | _, _ => false
def lts : List D → List D → Bool
  | [], [] => false
  | [], _ :: _ => true
  | _ :: _, [] => false
  | x :: xs, y :: ys => if eqv x y then lts xs ys else lt x y
end
def le (x y : D) : Bool := !lt y x
mutual
/-- what may be a key of a dict -/
def key : D → Bool
  | .non | .int _ | .str _ => true
  | .tup ds => keys ds
  | _ => false
def keys : List D → Bool
  | [] => true
  | d :: ds => key d && keys ds
end
def okey (d : D) : Bool := key d && decide (depth d ≤ 8)
/-- a number or a text -/
def pkey : D → Bool
  | .int _ => true
  | .str _ => true
  | _ => false
/-- no function made by a lambda -/
def nclo : D → Bool
  | .clo _ _ => false
  | _ => true
def nclos : List D → Bool
  | [] => true
  | d :: ds => nclo d && nclos ds
end D

/-- the most that a list, a tuple or a text may hold -/
abbrev line : Nat := 16777216

/-- an object of the memory -/
inductive MO where
  | lst (ds : List D)
  | dct (kvs : List (D × D))
  | ins (c : String) (fs : List (String × D))
  | frz (o : MO)
abbrev Mem := Nat → Option MO
def Mem.set (M : Mem) (a : Nat) (o : MO) : Mem := fun b => if b = a then some o else M b
def Mem.del (M : Mem) (a : Nat) : Mem := fun b => if b = a then none else M b
/-- what may be read -/
def Mem.rd (M : Mem) (a : Nat) : Option MO := match M a with
  | some (.frz o) => some o
  | o => o
theorem Mem.set_same (M : Mem) (a : Nat) (o : MO) : (M.set a o) a = some o := by simp [Mem.set]
theorem Mem.set_ne (M : Mem) {a b : Nat} (o : MO) (h : b ≠ a) : (M.set a o) b = M b := by simp [Mem.set, h]
theorem Mem.del_same (M : Mem) (a : Nat) : (M.del a) a = none := by simp [Mem.del]
theorem Mem.del_ne (M : Mem) {a b : Nat} (h : b ≠ a) : (M.del a) b = M b := by simp [Mem.del, h]
def Mem.freeze (M : Mem) (a : Nat) : Mem := match M a with
  | some (.frz _) => M
  | some o => M.set a (.frz o)
  | none => M
def Mem.thaw (M : Mem) (a : Nat) : Mem := match M a with
  | some (.frz o) => M.set a o
  | _ => M

/-- what a walk of the dict at a does at its end -/
def Mem.thawer (M : Mem) (a : Nat) : Mem → Mem := match M a with
  | some (.frz _) => id
  | _ => fun N => N.thaw a

abbrev Env := List (Option D)
def get : Env → Nat → Option D
  | [], _ => none
  | x :: _, 0 => x
  | _ :: r, n + 1 => get r n

/-- an error: its class, its fields -/
structure DX where
  cls : String
  anc : List String
abbrev VQ := D → Mem → Prop
abbrev XQ := DX → Mem → Prop
abbrev CallSem := String → List D → Mem → VQ → XQ → Prop
def noX : XQ := fun _ _ => False

inductive Bin | add | sub | mul | fdiv | mod | pow
inductive Cmp | eq | ne | lt | le | gt | ge | is | isnot

inductive CT
  | name (i : Nat)
  | tup (ts : List CT)

mutual
inductive CE
  | var (i : Nat) | con (d : D) | fnv (x : String)
  | bin (op : Bin) (a b : CE) | neg (a : CE)
  | cmp (op : Cmp) (a b : CE) | chain (o1 o2 : Cmp) (a b c : CE)
  | and_ (a b : CE) | or_ (a b : CE) | not_ (a : CE) | ite (c a b : CE)
  | fld (a : CE) (f : String) | ix (a b : CE) | cut (a lo hi : CE) | rev (a st : CE)
  | tup (es : CEs) | tupq (q : CQ) | mkl (q : CF)
  | len (q : CQ) | lenv (a : CE) | all (q : CQ) | any (q : CQ) | sum (q : CQ) | least (q : CQ) | most (q : CQ)
  | inq (neg : Bool) (a : CE) (q : CQ) | ind (neg : Bool) (a b : CE)
  | dnew (kvs : CKs) | dcomp (i : CI) (t : CT) (ifs : CEs) (k v : CE) | dget (d k x : CE)
  | dpop (d k : CE) | dcopy (a : CE) | abs (a : CE) | int (a : CE) | isi (a : CE) (ts : List String)
  | two (most : Bool) (a b : CE)
  | call (f : String) (es : CEs) | make (c : String) (es : CEs) | callL (f : String) (es : CEs) (l : String) (cap : List Nat) | callv (i : Nat) (es : CEs)
  | pop (a : CE) | append (a b : CE) | extend (a : CE) (q : CQ) | reverse (a : CE) | dclear (a : CE)
inductive CEs
  | nil | cons (e : CE) (es : CEs)
inductive CKs
  | nil | cons (k v : CE) (es : CKs)
/-- what makes a new list -/
inductive CF
  | disp (es : CEs) | lc (i : CI) (t : CT) (ifs : CEs) (e : CE) | list (q : CQ) | keys (e : CE) | sorted (q : CQ) | sset (q : CQ) | cat (p q : CQ) | cut (a lo hi : CE) | rng (lo hi : CE)
/-- a list or a tuple that is read -/
inductive CQ
  | of (e : CE) | fr (f : CF)
/-- what a loop walks -/
inductive CI
  | seq (q : CQ) | live (e : CE) | rng (lo hi : CE) | enum (i : CI) | zip (p q : CI) | zipT (a b : CE) | keys (e : CE) | items (e : CE)
end

/-- where what a call tells goes to -/
inductive XT
  | no | nm (i : Nat) | rt | pr (i : Nat) (s : PySem.Str)
inductive CS
  | skip | seq (a b : CS) | expr (e : CE) | ret (e : CE) | brk | cont
  | asg (t : CT) (e : CE) | asgIx (o i v : CE) | asgFld (o : CE) (f : String) (v : CE)
  | ife (c : CE) (a b : CS) | for_ (i : CI) (t : CT) (b : CS) | while_ (c : CE) (b : CS)
  | never | raise (c : String) (anc : List String)
  | callX (t : XT) (f : String) (es : CEs) | makeX (t : XT) (c : String) (es : CEs)
  | tryC (t : XT) (mk : Bool) (f : String) (es : CEs) (hs : List (String × Nat × D))
  | tryV (j i : Nat) (hs : List (String × Nat × D))

/-! ### what the parts mean -/
def truth (M : Mem) : D → Option Bool
  | .non => some false
  | .bl b => some b
  | .int i => some (decide (i ≠ 0))
  | .str s => if s.cps.size ≤ line then some (decide (s.cps.size ≠ 0)) else none
  | .tup ds => some (!ds.isEmpty)
  | .ref a => match M.rd a with
    | some (.lst ds) => some (!ds.isEmpty)
    | _ => none
  | _ => none
def wTruth (d : D) (M : Mem) (Q : Bool → Mem → Prop) : Prop := match truth M d with
  | some b => Q b M
  | none => False
/-- a new object -/
def wNew (o : MO) (M : Mem) (Q : VQ) : Prop := ∀ p, M p = none → Q (.ref p) (M.set p o)

def small (i : Int) : Prop := -18446744073709551616 < i ∧ i < 18446744073709551616
def wBin (op : Bin) (x y : D) (M : Mem) (Q : VQ) : Prop := match op, x, y with
  | .add, .int i, .int j => Q (.int (i + j)) M
  | .add, .str a, .str b => a.cps.size + b.cps.size ≤ line ∧ Q (.str ⟨a.cps ++ b.cps⟩) M
  | .add, .tup a, .tup b => (a ++ b).length ≤ line ∧ Q (.tup (a ++ b)) M
  | .add, .ref p, .ref q => (match M p, M q with
    | some (.lst xs), some (.lst ys) => (xs ++ ys).length ≤ line ∧ wNew (.lst (xs ++ ys)) M Q
    | _, _ => False)
  | .sub, .int i, .int j => Q (.int (i - j)) M
  | .mul, .int i, .int j => (small i ∨ small j) ∧ Q (.int (i * j)) M
  | .mul, .ref p, .int k => (match M p with
    | some (.lst xs) => (0 ≤ k ∧ k < 1000000 ∧ xs.length * k.toNat ≤ line) ∧ wNew (.lst (List.replicate k.toNat xs).flatten) M Q
    | _ => False)
  | .mul, .tup a, .int k => (a ≠ [] ∧ 2 ≤ k ∧ k ≤ 1000 ∧ a.length ≤ 1000) ∧ Q (.tup (List.replicate k.toNat a).flatten) M
  | .fdiv, .int i, .int j => (0 < j ∧ j < 1073741824) ∧ Q (.int (i / j)) M
  | .mod, .int i, .int j => 0 < j ∧ Q (.int (i % j)) M
  | .pow, .int i, .int j => (0 ≤ j ∧ j ≤ 1000000 ∧ small i) ∧ Q (.int (i ^ j.toNat)) M
  | _, _, _ => False
def wNeg (x : D) (M : Mem) (Q : VQ) : Prop := match x with
  | .int i => Q (.int (-i)) M
  | _ => False
/-- what two objects are compared by: their data -/
def dataOf (M : Mem) : D → Option (Bool × List D)
  | .ref a => match M.rd a with
    | some (.lst ds) => if D.oks 60 ds then some (true, ds) else none
    | _ => none
  | d => if D.ok 60 d then some (false, [d]) else none
def eqD (M : Mem) (x y : D) : Option Bool := match dataOf M x, dataOf M y with
  | some (k, xs), some (l, ys) => some (decide (k = l) && D.eqvs xs ys)
  | _, _ => none
def isNone : D → Option Bool
  | .non => some true
  | .glo _ | .clo _ _ => none
  | _ => some false
/-- x is None, x is False, x is True -/
def isD : D → D → Option Bool
  | x, .non => isNone x
  | .bl a, .bl b => some (decide (a = b))
  | _, _ => none
def wCmp0 (op : Cmp) (x y : D) (M : Mem) (Q : VQ) : Prop := match op with
  | .eq => (match eqD M x y with | some b => Q (.bl b) M | none => False)
  | .ne => (match eqD M x y with | some b => Q (.bl (!b)) M | none => False)
  | .lt => (D.alike x y && (D.ok 60 x && D.ok 60 y)) = true ∧ Q (.bl (D.lt x y)) M
  | .gt => (match x, y with | .int i, .int j => Q (.bl (decide (j < i))) M | _, _ => False)
  | .le => (match x, y with | .int i, .int j => Q (.bl (decide (i ≤ j))) M | _, _ => False)
  | .ge => (match x, y with | .int i, .int j => Q (.bl (decide (j ≤ i))) M | _, _ => False)
  | .is => (match isD x y with | some b => Q (.bl b) M | none => False)
  | .isnot => (match isD x y with | some b => Q (.bl (!b)) M | none => False)
/-- the place that an index means -/
def ixN (n : Nat) (i : Int) : Option Nat := if 0 ≤ i then (if i < n then some i.toNat else none) else if -(n : Int) ≤ i then some (i + n).toNat else none
def atI {α : Type} (xs : List α) (i : Int) : Option α := match ixN xs.length i with
  | some j => xs[j]?
  | none => none
def look (kvs : List (D × D)) (k : D) : Option D := match kvs with
  | [] => none
  | p :: r => if p.1 = k then some p.2 else look r k
/-- the values of a dict that may be compared -/
def vOk : D → Bool
  | .int _ | .bl _ | .non => true
  | _ => false
def dctOk (kvs : List (D × D)) : Bool := kvs.all fun kv => vOk kv.2
def dctHit (ls : List (D × D)) (kv : D × D) : Bool := match look ls kv.1 with
  | some v => D.eqv kv.2 v
  | none => false
def dctEq (ks ls : List (D × D)) : Bool := ks.length == ls.length && ks.all (dctHit ls)
/-- two dicts compared -/
def wCmpD (op : Cmp) (x y : D) (M : Mem) (Q : VQ) : Prop := match op, x, y with
  | .eq, .ref p, .ref q => (match M.rd p, M.rd q with
    | some (.dct ks), some (.dct ls) => (dctOk ks && dctOk ls) = true ∧ Q (.bl (dctEq ks ls)) M
    | _, _ => False)
  | .ne, .ref p, .ref q => (match M.rd p, M.rd q with
    | some (.dct ks), some (.dct ls) => (dctOk ks && dctOk ls) = true ∧ Q (.bl (!(dctEq ks ls))) M
    | _, _ => False)
  | _, _, _ => False
def wCmp (op : Cmp) (x y : D) (M : Mem) (Q : VQ) : Prop := wCmp0 op x y M Q ∨ wCmpD op x y M Q
def put (kvs : List (D × D)) (k v : D) : List (D × D) := match kvs with
  | [] => [(k, v)]
  | p :: r => if p.1 = k then (p.1, v) :: r else p :: put r k v
def drop (kvs : List (D × D)) (k : D) : List (D × D) := match kvs with
  | [] => []
  | p :: r => if p.1 = k then r else p :: drop r k
def fget (fs : List (String × D)) (f : String) : Option D := match fs with
  | [] => none
  | p :: r => if p.1 = f then some p.2 else fget r f
def fput (fs : List (String × D)) (f : String) (v : D) : List (String × D) := match fs with
  | [] => [(f, v)]
  | p :: r => if p.1 = f then (p.1, v) :: r else p :: fput r f v
def wIx (o i : D) (M : Mem) (Q : VQ) : Prop := match o, i with
  | .tup ds, .int k => (match atI ds k with | some d => Q d M | none => False)
  | .str s, .int k => s.cps.size ≤ line ∧ (match atI s.cps.toList k with | some c => Q (.str ⟨#[c]⟩) M | none => False)
  | .ref a, k => (match M.rd a with
    | some (.lst ds) => (match k with
      | .int k => (match atI ds k with | some d => Q d M | none => False)
      | _ => False)
    | some (.dct kvs) => D.okey k = true ∧ (match look kvs k with | some d => Q d M | none => False)
    | _ => False)
  | _, _ => False
/-- what may bound a cut -/
def isPt : D → Bool
  | .non | .int _ => true
  | _ => false
/-- where a cut begins and ends -/
def bnd (n d : Nat) (x : D) : Option Nat := match x with
  | .non => some d
  | .int i => some (if i < 0 then (i + n).toNat else min i.toNat n)
  | _ => none
def cutL {α : Type} (xs : List α) (i j : Nat) : List α := (xs.drop i).take (j - i)
def wCut (o lo hi : D) (M : Mem) (Q : VQ) : Prop := match o with
  | .tup ds => (match bnd ds.length 0 lo, bnd ds.length ds.length hi with
    | some i, some j => Q (.tup (cutL ds i j)) M
    | _, _ => False)
  | _ => False
/-- a tuple turned about: t[::-1] -/
def wRev (x y : D) (M : Mem) (Q : VQ) : Prop := match x, y with
  | .tup ds, .int i => i = -1 ∧ Q (.tup ds.reverse) M
  | _, _ => False
def wCutL (o lo hi : D) (M : Mem) (Q : List D → Mem → Prop) : Prop := match o with
  | .ref a => (match M.rd a with
    | some (.lst ds) => (match bnd ds.length 0 lo, bnd ds.length ds.length hi with
      | some i, some j => Q (cutL ds i j) M
      | _, _ => False)
    | _ => False)
  | _ => False
def wFld (o : D) (f : String) (M : Mem) (Q : VQ) : Prop := match o with
  | .ref a => (match M a with
    | some (.ins _ fs) => (match fget fs f with | some d => Q d M | none => False)
    | _ => False)
  | _ => False
def wLen (o : D) (M : Mem) (Q : VQ) : Prop := match o with
  | .tup ds => Q (.int ds.length) M
  | .str s => s.cps.size ≤ line ∧ Q (.int s.cps.size) M
  | .ref a => (match M.rd a with
    | some (.lst ds) => Q (.int ds.length) M
    | some (.dct kvs) => Q (.int kvs.length) M
    | _ => False)
  | _ => False
/-- a list's or a tuple's items -/
def wSeq (o : D) (M : Mem) (Q : List D → Mem → Prop) : Prop := match o with
  | .tup ds => Q ds M
  | .ref a => (match M.rd a with
    | some (.lst ds) => Q ds M
    | _ => False)
  | _ => False
/-- .. a list's alone -/
def wSeqL (o : D) (M : Mem) (Q : List D → Mem → Prop) : Prop := match o with
  | .ref a => (match M a with
    | some (.lst ds) => Q ds M
    | _ => False)
  | _ => False
def isL (M : Mem) (x : D) : Bool := match x with
  | .ref p => (match M.rd p with | some (.lst _) => true | _ => false)
  | _ => false
def isDct (M : Mem) (x : D) : Bool := match x with
  | .ref p => (match M.rd p with | some (.dct _) => true | _ => false)
  | _ => false
def wPop (x : D) (M : Mem) (Q : VQ) : Prop := match x with
  | .ref p => (match M p with
    | some (.lst ds) => (match ds.getLast? with | some d => Q d (M.set p (.lst ds.dropLast)) | none => False)
    | _ => False)
  | _ => False
def wAppend (x y : D) (M : Mem) (Q : VQ) : Prop := match x with
  | .ref p => (match M p with
    | some (.lst ds) => ds.length < line ∧ Q .non (M.set p (.lst (ds ++ [y])))
    | _ => False)
  | _ => False
def wExtend (x : D) (es : List D) (M : Mem) (Q : VQ) : Prop := match x with
  | .ref p => (match M p with
    | some (.lst ds) => (ds ++ es).length ≤ line ∧ Q .non (M.set p (.lst (ds ++ es)))
    | _ => False)
  | _ => False
def wReverse (x : D) (M : Mem) (Q : VQ) : Prop := match x with
  | .ref p => (match M p with
    | some (.lst ds) => Q .non (M.set p (.lst ds.reverse))
    | _ => False)
  | _ => False
def wInD (n : Bool) (x y : D) (M : Mem) (Q : VQ) : Prop := match y with
  | .ref p => (match M.rd p with
    | some (.dct kvs) => D.okey x = true ∧ Q (.bl (n != (look kvs x).isSome)) M
    | _ => False)
  | _ => False
def wDget (o k x : D) (M : Mem) (Q : VQ) : Prop := match o with
  | .ref p => (match M.rd p with
    | some (.dct kvs) => D.okey k = true ∧ Q ((look kvs k).getD x) M
    | _ => False)
  | _ => False
def wDpop (o k : D) (M : Mem) (Q : VQ) : Prop := match o with
  | .ref p => (match M p with
    | some (.dct kvs) => D.okey k = true ∧ (match look kvs k with | some v => Q v (M.set p (.dct (drop kvs k))) | none => False)
    | _ => False)
  | _ => False
def wDclear (o : D) (M : Mem) (Q : VQ) : Prop := match o with
  | .ref p => (match M p with
    | some (.dct _) => Q .non (M.set p (.dct []))
    | _ => False)
  | _ => False
/-- the hash of a tuple of small numbers -/
def tupH (hs : List Int) : Int :=
  let m : Nat := 2 ^ 64
  let p1 : Nat := 11400714785074694791
  let p2 : Nat := 14029467366897019727
  let p5 : Nat := 2870177450012600261
  let acc := hs.foldl (init := p5) fun acc h =>
    let acc := (acc + (h % (m : Int)).toNat * p2) % m
    let acc := (acc * 2 ^ 31) % m + acc / 2 ^ 33
    (acc * p1) % m
  let acc := (acc + (hs.length ^^^ (p5 ^^^ 3527539))) % m
  if acc == m - 1 then 1546275796 else if acc < 2 ^ 63 then acc else (acc : Int) - m
def redH (t : Int) : Int := if t = -1 then -2 else t
def smalls : List D → Option (List Int)
  | [] => some []
  | .int i :: r => if 0 ≤ i ∧ i < 1000000 then (smalls r).map (i :: ·) else none
  | _ => none
def D.hsh : D → Option Int
  | .tup ds => (smalls ds).map fun is => redH (tupH is)
  | _ => none
/-- what dict(..) may copy -/
def hashOk (kvs : List (D × D)) : Bool := kvs.all (fun p => (D.hsh p.1).isSome) && decide (kvs.map fun p => D.hsh p.1).Nodup
def wDcopy (x : D) (M : Mem) (Q : VQ) : Prop := match x with
  | .ref p => (match M.rd p with | some (.dct kvs) => hashOk kvs = true ∧ wNew (.dct kvs) M Q | _ => False)
  | _ => False
def wKeys (x : D) (M : Mem) (Q : List D → Mem → Prop) : Prop := match x with
  | .ref p => (match M.rd p with | some (.dct kvs) => Q (kvs.map (·.1)) M | _ => False)
  | _ => False
def wAbs (x : D) (M : Mem) (Q : VQ) : Prop := match x with | .int i => Q (.int (if i < 0 then -i else i)) M | _ => False
def wInt (x : D) (M : Mem) (Q : VQ) : Prop := match x with | .int i => Q (.int i) M | .bl b => Q (.int (if b then 1 else 0)) M | _ => False
/-- min and max of two numbers -/
def wMin2 (most : Bool) (x y : D) (M : Mem) (Q : VQ) : Prop := match x, y with
  | .int i, .int j => Q (.int (if most = true then (if j > i then j else i) else (if j < i then j else i))) M
  | _, _ => False
def bools : List D → Option (List Bool)
  | [] => some []
  | .bl b :: r => (bools r).map (b :: ·)
  | _ => none
/-- flags or numbers, as tests -/
def truths : List D → Option (List Bool)
  | [] => some []
  | .bl b :: r => (truths r).map (b :: ·)
  | .int i :: r => (truths r).map (decide (i ≠ 0) :: ·)
  | _ => none
def nums : List D → Option (List Int)
  | [] => some []
  | .int b :: r => (nums r).map (b :: ·)
  | _ => none
def leastI (x : Int) (xs : List Int) : Int := xs.foldl (fun m y => if y < m then y else m) x
def mostI (x : Int) (xs : List Int) : Int := xs.foldl (fun m y => if m < y then y else m) x
/-- what a set of ours may hold: ints, or tuples of ints -/
def SsOk (ds : List D) : Prop := ds.length < 64 ∧ ((∃ ns : List Int, ds = ns.map .int) ∨ ∃ ks : List (List Int), ds = ks.map fun r => .tup (r.map .int))
/-- what sorted can put into an order -/
def srt (ds : List D) : Bool := D.oks 60 ds && ds.all (fun x => ds.all fun y => D.alike x y) &&
  (ds.all (fun d => match d with | .tup (_ :: _) => true | _ => false) || ds.all (fun d => match d with | .tup _ => false | _ => true))
def sortD (ds : List D) : List D := ds.mergeSort D.le
/-- the first of the least ones -/
def leastD (d : D) (r : List D) : D := r.foldl (fun m y => if D.lt y m = true then y else m) d
def wLeast (ds : List D) (M : Mem) (Q : VQ) : Prop := match nums ds with
  | some (i :: is) => Q (.int (leastI i is)) M
  | _ => srt ds = true ∧ match ds with | d :: r => Q (leastD d r) M | [] => False
/-- of what built-in type, of what class of the module a thing is -/
def isType (M : Mem) (d : D) (t : String) : Option Bool := match d with
  | .non => some false
  | .bl _ => some (t == "bool" || t == "int")
  | .int _ => some (t == "int")
  | .str _ => some (t == "str")
  | .tup _ => some (t == "tuple")
  | .ref a => (match M a with
    | some (.ins c _) => some (t == c)
    | _ => (match M.rd a with
      | some (.lst _) => some (t == "list")
      | some (.dct _) => some (t == "dict")
      | _ => none))
  | _ => none
def isTypes (M : Mem) (d : D) : List String → Option Bool
  | [] => some false
  | t :: ts => match isType M d t, isTypes M d ts with
    | some a, some b => some (a || b)
    | _, _ => none

/-- names bound to what a loop or an assignment hands on -/
def bind (M : Mem) : CT → D → Env → Option Env
  | .name i, d, e => some (e.set i (some d))
  | .tup ts, .tup ds, e => binds ts ds e
  | .tup ts, .ref a, e => (match M.rd a with
    | some (.lst ds) => binds ts ds e
    | _ => none)
  | _, _, _ => none
where binds : List CT → List D → Env → Option Env
  | [], [], e => some e
  | .name i :: ts, d :: ds, e => binds ts ds (e.set i (some d))
  | .tup us :: ts, .tup cs :: ds, e => (match binds us cs e with
    | some e' => binds ts ds e'
    | none => none)
  | _, _, _ => none

/-- what is walked: the items, what must hold at each turn, what becomes of the memory at the end -/
structure It where
  ds : List D
  ok : Mem → Prop := fun _ => True
  fin : Mem → Mem := id

def rangeD (i j : Int) : List D := (List.range (j - i).toNat).map fun k : Nat => D.int (i + (k : Int))
def enumD (n : Nat) : List D → List D
  | [] => []
  | d :: ds => D.tup [.int (n : Int), d] :: enumD (n + 1) ds

/-- zip of two tuples -/
def wZipT (x y : D) (M : Mem) (R : It → Mem → Prop) : Prop := match x, y with
  | .tup ds, .tup es => R ⟨(ds.zip es).map fun z => D.tup [z.1, z.2], fun _ => True, id⟩ M
  | _, _ => False
/-- a list that grows by turns -/
def lcLoop (J : It) (step : D → Mem → (Option D → Mem → Prop) → Prop) (Q : List D → Mem → Prop) : List D → List D → Mem → Prop
  | [], acc, M => J.ok M ∧ Q acc (J.fin M)
  | d :: ds, acc, M => J.ok M ∧ step d M fun o M' => match o with
    | some x => acc.length < line ∧ lcLoop J step Q ds (acc ++ [x]) M'
    | none => lcLoop J step Q ds acc M'
def dcLoop (J : It) (step : D → Mem → (Option (D × D) → Mem → Prop) → Prop) (Q : List (D × D) → Mem → Prop) : List D → List (D × D) → Mem → Prop
  | [], acc, M => J.ok M ∧ Q acc (J.fin M)
  | d :: ds, acc, M => J.ok M ∧ step d M fun o M' => match o with
    | some x => D.okey x.1 = true ∧ acc.length < line ∧ dcLoop J step Q ds (put acc x.1 x.2) M'
    | none => dcLoop J step Q ds acc M'

section
variable (φ : CallSem)
mutual
def wE : CE → Env → Mem → VQ → XQ → Prop
  | .var i, e, M, Q, _ => (match get e i with | some d => d.nclo = true ∧ Q d M | none => False)
  | .con d, _, M, Q, _ => Q d M
  | .fnv x, _, M, Q, _ => Q (.glo x) M
  | .bin op a b, e, M, Q, X => wE a e M (fun x M => wE b e M (fun y M => wBin op x y M Q) X) X
  | .neg a, e, M, Q, X => wE a e M (fun x M => wNeg x M Q) X
  | .cmp op a b, e, M, Q, X => wE a e M (fun x M => wE b e M (fun y M => wCmp op x y M Q) X) X
  | .chain o1 o2 a b c, e, M, Q, X => wE a e M (fun x M => wE b e M (fun y M => wCmp o1 x y M fun t M => wTruth t M fun k M =>
      if k = true then wE c e M (fun z M => wCmp o2 y z M Q) X else Q (.bl false) M) X) X
  | .and_ a b, e, M, Q, X => wE a e M (fun x M => wTruth x M fun k M => if k = true then wE b e M Q X else Q x M) X
  | .or_ a b, e, M, Q, X => wE a e M (fun x M => wTruth x M fun k M => if k = true then Q x M else wE b e M Q X) X
  | .not_ a, e, M, Q, X => wE a e M (fun x M => wTruth x M fun k M => Q (.bl (!k)) M) X
  | .ite c a b, e, M, Q, X => wE c e M (fun x M => wTruth x M fun k M => if k = true then wE a e M Q X else wE b e M Q X) X
  | .fld a f, e, M, Q, X => wE a e M (fun x M => wFld x f M Q) X
  | .ix a b, e, M, Q, X => wE a e M (fun x M => wE b e M (fun y M => wIx x y M Q) X) X
  | .cut a lo hi, e, M, Q, X => wE a e M (fun x M => wE lo e M (fun y M => isPt y = true ∧ wE hi e M (fun z M => isPt z = true ∧ wCut x y z M Q) X) X) X
  | .rev a b, e, M, Q, X => wE a e M (fun x M => wE b e M (fun y M => wRev x y M Q) X) X
  | .tup es, e, M, Q, X => wEs es e M (fun ds M => ds.length ≤ line ∧ Q (.tup ds) M) X
  | .tupq q, e, M, Q, X => wQ q e M (fun ds M => Q (.tup ds) M) X
  | .mkl f, e, M, Q, X => wF f e M (fun ds M => wNew (.lst ds) M Q) X
  | .len q, e, M, Q, X => wQ q e M (fun ds M => Q (.int ds.length) M) X
  | .lenv a, e, M, Q, X => wE a e M (fun x M => wLen x M Q) X
  | .all q, e, M, Q, X => wQ q e M (fun ds M => match bools ds with | some bs => Q (.bl (bs.all id)) M | none => False) X
  | .any q, e, M, Q, X => wQ q e M (fun ds M => match truths ds with | some bs => Q (.bl (bs.any id)) M | none => False) X
  | .sum q, e, M, Q, X => wQ q e M (fun ds M => match nums ds with | some is => Q (.int is.sum) M | none => False) X
  | .least q, e, M, Q, X => wQ q e M (fun ds M => wLeast ds M Q) X
  | .most q, e, M, Q, X => wQ q e M (fun ds M => match nums ds with | some (i :: is) => Q (.int (mostI i is)) M | _ => False) X
  | .inq n a q, e, M, Q, X => wE a e M (fun x M => wQ q e M (fun ds M => D.ok 60 x = true ∧ D.oks 60 ds = true ∧ Q (.bl (n != ds.any fun d => D.eqv d x)) M) X) X
  | .ind n a b, e, M, Q, X => wE a e M (fun x M => wE b e M (fun y M => wInD n x y M Q) X) X
  | .dnew kvs, e, M, Q, X => ∀ p, M p = none → wKs kvs e M [] (fun kvs M => M p = none → Q (.ref p) (M.set p (.dct kvs))) X
  | .dcomp i t ifs k v, e, M, Q, X => wI i e M (fun J M => dcLoop J (fun d M R => match bind M t d e with
      | some e => wIfs ifs e M (fun b M => if b = true then wE k e M (fun x M => wE v e M (fun y M => R (some (x, y)) M) noX) noX else R none M) noX
      | none => False) (fun kvs M => wNew (.dct kvs) M Q) J.ds [] M) X
  | .dget d k x, e, M, Q, X => wE d e M (fun o M => isDct M o = true ∧ wE k e M (fun k M => wE x e M (fun x M => wDget o k x M Q) X) X) X
  | .dpop d k, e, M, Q, X => wE d e M (fun o M => isDct M o = true ∧ wE k e M (fun k M => wDpop o k M Q) X) X
  | .dcopy a, e, M, Q, X => wE a e M (fun x M => wDcopy x M Q) X
  | .abs a, e, M, Q, X => wE a e M (fun x M => wAbs x M Q) X
  | .int a, e, M, Q, X => wE a e M (fun x M => wInt x M Q) X
  | .isi a ts, e, M, Q, X => wE a e M (fun x M => match isTypes M x ts with | some b => Q (.bl b) M | none => False) X
  | .two most a b, e, M, Q, X => wE a e M (fun x M => wE b e M (fun y M => wMin2 most x y M Q) X) X
  | .call f es, e, M, Q, X => wEs es e M (fun ds M => φ f ds M Q X) X
  | .make c es, e, M, Q, X => wEs es e M (fun ds M => ∀ p, M p = none → φ (c ++ ".__init__") (.ref p :: ds) (M.set p (.ins c [])) (fun d M => d = .non ∧ Q (.ref p) M) X) X
  | .callL f es l cap, e, M, Q, X => wEs es e M (fun ds M => match cap.mapM (get e) with
      | some cs => D.nclos cs = true ∧ φ f (ds ++ [.clo l cs]) M Q X
      | none => False) X
  | .callv i es, e, M, Q, X => (match get e i with
      | some (.clo l cap) => wEs es e M (fun ds M => φ l (ds ++ cap) M Q X) X
      | _ => False)
  | .pop a, e, M, Q, X => wE a e M (fun x M => wPop x M Q) X
  | .append a b, e, M, Q, X => wE a e M (fun x M => isL M x = true ∧ wE b e M (fun y M => wAppend x y M Q) X) X
  | .extend a q, e, M, Q, X => wE a e M (fun x M => isL M x = true ∧ wQL q e M (fun es M => wExtend x es M Q) X) X
  | .reverse a, e, M, Q, X => wE a e M (fun x M => wReverse x M Q) X
  | .dclear a, e, M, Q, X => wE a e M (fun x M => wDclear x M Q) X
def wEs : CEs → Env → Mem → (List D → Mem → Prop) → XQ → Prop
  | .nil, _, M, Q, _ => Q [] M
  | .cons a as, e, M, Q, X => wE a e M (fun d M => wEs as e M (fun ds M => Q (d :: ds) M) X) X
/-- a comprehension's tests -/
def wIfs : CEs → Env → Mem → (Bool → Mem → Prop) → XQ → Prop
  | .nil, _, M, Q, _ => Q true M
  | .cons a as, e, M, Q, X => wE a e M (fun d M => wTruth d M fun k M => if k = true then wIfs as e M Q X else Q false M) X
/-- the pairs of a display of a dict -/
def wKs : CKs → Env → Mem → List (D × D) → (List (D × D) → Mem → Prop) → XQ → Prop
  | .nil, _, M, acc, Q, _ => Q acc M
  | .cons k v r, e, M, acc, Q, X => wE k e M (fun x M => wE v e M (fun y M => D.okey x = true ∧ wKs r e M (put acc x y) Q X) X) X
def wF : CF → Env → Mem → (List D → Mem → Prop) → XQ → Prop
  | .disp es, e, M, Q, X => wEs es e M (fun ds M => ds.length ≤ line ∧ Q ds M) X
  | .lc i t ifs a, e, M, Q, X => wI i e M (fun J M => lcLoop J (fun d M R => match bind M t d e with
      | some e => wIfs ifs e M (fun b M => if b = true then wE a e M (fun x M => R (some x) M) noX else R none M) noX
      | none => False) Q J.ds [] M) X
  | .list q, e, M, Q, X => wQ q e M Q X
  | .keys a, e, M, Q, X => wE a e M (fun x M => wKeys x M Q) X
  | .sorted q, e, M, Q, X => wQ q e M (fun ds M => srt ds = true ∧ Q (sortD ds) M) X
  | .sset q, e, M, Q, X => wQ q e M (fun ds M => SsOk ds ∧ srt ds = true ∧ ∀ ds', ds'.Nodup → (∀ x, x ∈ ds' ↔ x ∈ ds) → Q (sortD ds') M) X
  | .cat (.of a) q, e, M, Q, X => wE a e M (fun x M => wQL q e M (fun ys M => wSeqL x M fun xs M => (xs ++ ys).length ≤ line ∧ Q (xs ++ ys) M) X) X
  | .cat (.fr f) q, e, M, Q, X => wF f e M (fun xs M => wQL q e M (fun ys M => (xs ++ ys).length ≤ line ∧ Q (xs ++ ys) M) X) X
  | .cut a lo hi, e, M, Q, X => wE a e M (fun x M => wE lo e M (fun y M => isPt y = true ∧ wE hi e M (fun z M => isPt z = true ∧ wCutL x y z M Q) X) X) X
  | .rng lo hi, e, M, Q, X => wE lo e M (fun x M => wE hi e M (fun y M => match x, y with
      | .int i, .int j => (-1000000000 < i ∧ j - i < 1000000) ∧ Q (rangeD i j) M
      | _, _ => False) X) X
def wQ : CQ → Env → Mem → (List D → Mem → Prop) → XQ → Prop
  | .of a, e, M, Q, X => wE a e M (fun x M => wSeq x M Q) X
  | .fr f, e, M, Q, X => wF f e M Q X
/-- .. a list alone -/
def wQL : CQ → Env → Mem → (List D → Mem → Prop) → XQ → Prop
  | .of a, e, M, Q, X => wE a e M (fun x M => wSeqL x M Q) X
  | .fr f, e, M, Q, X => wF f e M Q X
def wI : CI → Env → Mem → (It → Mem → Prop) → XQ → Prop
  | .seq (.of a), e, M, R, X => wE a e M (fun x M => match x with
      | .tup ds => R ⟨ds, fun _ => True, id⟩ M
      | .ref p => (match M.rd p with | some (.lst ds) => R ⟨ds, fun M => M.rd p = some (.lst ds), id⟩ M | _ => False)
      | _ => False) X
  | .seq (.fr f), e, M, R, X => wF f e M (fun ds M => R ⟨ds, fun _ => True, id⟩ M) X
  | .live a, e, M, R, X => wE a e M (fun x M => match x with
      | .ref p => (match M.rd p with | some (.lst ds) => R ⟨ds, fun M => M.rd p = some (.lst ds), id⟩ M | _ => False)
      | _ => False) X
  | .rng lo hi, e, M, R, X => wE lo e M (fun x M => wE hi e M (fun y M => match x, y with
      | .int i, .int j => (small i ∧ i < 4611686018427387904 ∧ -4611686018427387904 ≤ i ∧ -4611686018427387904 ≤ j ∧ j < 4611686018427387904) ∧ R ⟨rangeD i j, fun _ => True, id⟩ M
      | _, _ => False) X) X
  | .enum i, e, M, R, X => wI i e M (fun J M => R ⟨enumD 0 J.ds, J.ok, J.fin⟩ M) X
  | .zip p q, e, M, R, X => wI p e M (fun J M => wI q e M (fun L M => R ⟨(J.ds.zip L.ds).map fun z => D.tup [z.1, z.2], fun M => J.ok M ∧ L.ok M, fun M => L.fin (J.fin M)⟩ M) X) X
  | .zipT a b, e, M, R, X => wE a e M (fun x M => wE b e M (fun y M => wZipT x y M R) X) X
  | .keys a, e, M, R, X => wE a e M (fun x M => match x with
      | .ref p => (match M.rd p with | some (.dct kvs) => R ⟨kvs.map (·.1), fun _ => True, M.thawer p⟩ (M.freeze p) | _ => False)
      | _ => False) X
  | .items a, e, M, R, X => wE a e M (fun x M => match x with
      | .ref p => (match M.rd p with | some (.dct kvs) => R ⟨kvs.map fun z => D.tup [z.1, z.2], fun _ => True, M.thawer p⟩ (M.freeze p) | _ => False)
      | _ => False) X
end

/-! ### statements -/
structure Ends where
  nx : Env → Mem → Prop
  rt : VQ
  bk : Env → Mem → Prop := fun _ _ => False
  ct : Env → Mem → Prop := fun _ _ => False
  ex : XQ := noX
/-- what a call tells goes on -/
def XT.fin (t : XT) (e : Env) (d : D) (M : Mem) (K : Ends) : Prop := match t with
  | .no => K.nx e M
  | .nm i => K.nx (e.set i (some d)) M
  | .rt => K.rt d M
  | .pr i s => K.nx (e.set i (some (.tup [.str s, d]))) M
/-- the first clause that names the error sets its name -/
def wHs : List (String × Nat × D) → DX → Env → Mem → Ends → Prop
  | [], x, _, M, K => K.ex x M
  | (c, i, d) :: r, x, e, M, K => if c ∈ x.anc then K.nx (e.set i (some d)) M else wHs r x e M K
def wCall (φ : CallSem) (mk : Bool) (f : String) (ds : List D) (M : Mem) (Q : VQ) (X : XQ) : Prop :=
  if mk = true then ∀ p, M p = none → φ (f ++ ".__init__") (.ref p :: ds) (M.set p (.ins f [])) (fun d M => d = .non ∧ Q (.ref p) M) X else φ f ds M Q X
def forLoop (J : It) (step : D → Env → Mem → Ends → Prop) (K : Ends) : List D → Env → Mem → Prop
  | [], e, M => J.ok M ∧ K.nx e (J.fin M)
  | d :: ds, e, M => J.ok M ∧ step d e M { nx := forLoop J step K ds, ct := forLoop J step K ds, bk := fun e M => K.nx e (J.fin M), rt := fun v M => K.rt v (J.fin M), ex := K.ex }
def whileLoop (test : Env → Mem → (Bool → Mem → Prop) → Prop) (body : Env → Mem → Ends → Prop) (K : Ends) : Nat → Env → Mem → Prop
  | 0, _, _ => False
  | n + 1, e, M => test e M fun b M => if b = true then body e M { nx := whileLoop test body K n, ct := whileLoop test body K n, bk := K.nx, rt := K.rt, ex := K.ex } else K.nx e M
def wSetIx (o i v : D) (M : Mem) (R : Mem → Prop) : Prop := match o with
  | .ref p => (match M p with
    | some (.lst ds) => (match i with
      | .int k => (match ixN ds.length k with | some j => R (M.set p (.lst (ds.set j v))) | none => False)
      | _ => False)
    | some (.dct kvs) => D.okey i = true ∧ kvs.length < line ∧ R (M.set p (.dct (put kvs i v)))
    | _ => False)
  | _ => False
def wSetFld (o : D) (f : String) (v : D) (M : Mem) (R : Mem → Prop) : Prop := match o with
  | .ref p => (match M p with
    | some (.ins c fs) => fs.length < 900 ∧ R (M.set p (.ins c (fput fs f v)))
    | _ => False)
  | _ => False
def wS : CS → Env → Mem → Ends → Prop
  | .skip, e, M, K => K.nx e M
  | .seq a b, e, M, K => wS a e M { K with nx := fun e M => wS b e M K }
  | .expr c, e, M, K => wE φ c e M (fun _ M => K.nx e M) noX
  | .ret c, e, M, K => wE φ c e M K.rt noX
  | .brk, e, M, K => K.bk e M
  | .cont, e, M, K => K.ct e M
  | .asg t c, e, M, K => wE φ c e M (fun d M => match bind M t d e with | some e => K.nx e M | none => False) noX
  | .asgIx o i v, e, M, K => wE φ v e M (fun z M => wE φ o e M (fun x M => wE φ i e M (fun y M => wSetIx x y z M fun M => K.nx e M) noX) noX) noX
  | .asgFld o f v, e, M, K => wE φ v e M (fun z M => wE φ o e M (fun x M => wSetFld x f z M fun M => K.nx e M) noX) noX
  | .ife c a b, e, M, K => wE φ c e M (fun x M => wTruth x M fun k M => if k = true then wS a e M K else wS b e M K) noX
  | .for_ i t b, e, M, K => wI φ i e M (fun J M => forLoop J (fun d e M K => match bind M t d e with | some e => wS b e M K | none => False) K J.ds e M) noX
  | .while_ c b, e, M, K => ∃ n, whileLoop (fun e M R => wE φ c e M (fun x M => wTruth x M R) noX) (fun e M K => wS b e M K) K n e M
  | .never, _, _, _ => False
  | .raise c anc, _, M, K => K.ex ⟨c, anc⟩ M
  | .callX t f es, e, M, K => wEs φ es e M (fun ds M => φ f ds M (fun d M => XT.fin t e d M K) K.ex) noX
  | .makeX t c es, e, M, K => wEs φ es e M (fun ds M => ∀ p, M p = none → φ (c ++ ".__init__") (.ref p :: ds) (M.set p (.ins c [])) (fun d M => d = .non ∧ XT.fin t e (.ref p) M K) K.ex) noX
  | .tryC t mk f es hs, e, M, K => wEs φ es e M (fun ds M => wCall φ mk f ds M (fun d M => XT.fin t e d M K) fun x M => wHs hs x e M K) noX
  | .tryV j i hs, e, M, K => (match get e i with | some (.clo l cap) => φ l cap M (fun d M => K.nx (e.set j (some d)) M) fun x M => wHs hs x e M K | _ => False)
end

/-- a def: how many parameters, how many names, its body -/
structure FD where
  ps : Nat
  ns : Nat
  body : CS
abbrev Prog := String → Option FD
def startE (n : Nat) (ds : List D) : Env := ds.map some ++ List.replicate (n - ds.length) none
def callN (P : Prog) : Nat → CallSem
  | 0 => fun _ _ _ _ _ => False
  | k + 1 => fun f ds M Q X => match P f with
    | some fd => ds.length = fd.ps ∧ wS (callN P k) fd.body (startE fd.ns ds) M { nx := fun _ M => Q .non M, rt := Q, ex := X }
    | none => False
end MP
end
section
/-! MPD: dicts whose keys are numbers, texts, None and tuples of these, side by side. -/
namespace MP
open PySem PySem.Spec PyProof.Rows

abbrev XS := List (NestedKey × Value × Value)
def ent (w : World) (x : NestedKey × Value × Value) : DictEntry := ⟨x.1.hash w, x.2.1, x.2.2⟩
def fi (xs : XS) (k : NestedKey) : Option Nat := match xs with
  | [] => none
  | x :: r => if x.1 = k then some 0 else (fi r k).map (· + 1)
theorem fi_some : ∀ {xs : XS} {k : NestedKey} {j : Nat}, fi xs k = some j → ∃ p, xs[j]? = some (k, p)
  | [], _, _, h => by simp [fi] at h
  | x :: r, k, j, h => by
    unfold fi at h
    by_cases e : x.1 = k
    · rw [if_pos e] at h
      cases h
      exact ⟨x.2, by rw [← e]; rfl⟩
    · rw [if_neg e] at h
      cases q : fi r k with
      | none => rw [q] at h; cases h
      | some i =>
        rw [q] at h
        cases h
        obtain ⟨p, hp⟩ := fi_some q
        exact ⟨p, by simpa using hp⟩
theorem fi_none : ∀ {xs : XS} {k : NestedKey}, fi xs k = none → ∀ (j : Nat) (p : Value × Value), xs[j]? ≠ some (k, p)
  | [], _, _, j, p => by simp
  | x :: r, k, h, j, p => by
    unfold fi at h
    by_cases e : x.1 = k
    · rw [if_pos e] at h; cases h
    · rw [if_neg e] at h
      have q : fi r k = none := by
        cases q : fi r k with
        | none => rfl
        | some i => rw [q] at h; cases h
      cases j with
      | zero =>
        intro z
        simp only [List.getElem?_cons_zero, Option.some.injEq] at z
        exact e (by rw [z])
      | succ j =>
        simpa using fi_none q j p
theorem xs_at {xs : XS} (hn : (xs.map (·.1)).Nodup) {i j : Nat} {k : NestedKey} {p q : Value × Value} (a : xs[i]? = some (k, p)) (b : xs[j]? = some (k, q)) : i = j := by
  have ha : (xs.map (·.1))[i]? = some k := by rw [List.getElem?_map, a] <;> rfl
  have hb : (xs.map (·.1))[j]? = some k := by rw [List.getElem?_map, b] <;> rfl
  obtain ⟨l, _⟩ := List.getElem?_eq_some_iff.mp ha
  exact (List.getElem?_inj l hn).mp (ha.trans hb.symm)
theorem fi_of {xs : XS} (hn : (xs.map (·.1)).Nodup) {j : Nat} {k : NestedKey} {p : Value × Value} (a : xs[j]? = some (k, p)) : fi xs k = some j := by
  cases q : fi xs k with
  | none => exact absurd a (fi_none q j p)
  | some i =>
    obtain ⟨p', h⟩ := fi_some q
    rw [xs_at hn h a]
theorem fi_no {xs : XS} {k : NestedKey} (a : ∀ (j : Nat) (p : Value × Value), xs[j]? ≠ some (k, p)) : fi xs k = none := by
  cases q : fi xs k with
  | none => rfl
  | some i =>
    obtain ⟨p', h⟩ := fi_some q
    exact absurd h (a _ _)
theorem key_inj {h : Heap} {k k' : NestedKey} {v : Value} (a : NestedIs h k v) (b : NestedIs h k' v) : k = k' := NestedIs.inj _ _ _ a b
theorem fi_strs {w : World} {x : Str} : ∀ {xs : XS}, (∀ y ∈ xs, ∃ z u, y.2.1 = .str z u ∧ y.1 = .text z) → List.findIdx? (fun e : DictEntry => e.key.isStr x) (xs.map (ent w)) = fi xs (.text x)
  | [], _ => rfl
  | y :: r, h => by
    obtain ⟨z, u, e1, e2⟩ := h y List.mem_cons_self
    rw [List.map_cons, List.findIdx?_cons]
    unfold fi
    have e3 : (ent w y).key.isStr x = decide (z = x) := by
      show y.2.1.isStr x = _
      rw [e1]
      by_cases c : z = x
      · rw [c]; simp [Value.isStr]
      · rw [decide_eq_false c]; simp [Value.isStr, c]
    rw [e3]
    by_cases c : z = x
    · rw [if_pos (decide_eq_true c), if_pos (by rw [e2, c])]
    · rw [if_neg (by simp [c]), if_neg (by rw [e2]; intro q; injection q with q; exact c q), fi_strs fun y hy => h y (List.mem_cons_of_mem _ hy)]
section
variable {prog : Program} {w : World} {A : Around} {E : Value → Shared → Prop} {s : Shared}
theorem eq_key {x y : NestedKey} {a b : Value} {Q : Bool → Shared → Prop} (hu : A.units + 8 < cLine) (hx : NestedIs s.heap x a) (dx : x.depth ≤ 8) (hy : NestedIs s.heap y b) (h : Q (decide (x = y)) s) :
    wpAny (model prog w) A (eqBool a b) Q E s := by
  rw [NestedKey.decide_eq] at h
  exact eqAt_key x y A s _ _ hx hy (Nat.lt_of_le_of_lt (Nat.add_le_add_left (Nat.le_trans (Nat.min_le_left _ _) dx) _) hu) _ _ _ _ h
theorem tell_no {k : NestedKey} {v : Value} {stored : List Value} {Q : Bool → Shared → Prop} (hk : NestedIs s.heap k v) (hd : k.depth ≤ 8)
    (hs : ∀ u ∈ stored, ∃ k', NestedIs s.heap k' u ∧ k'.depth ≤ 8) (h : Q false s) : wpAny (model prog w) A (tableMayTell v stored) Q E s := by
  unfold tableMayTell
  split
  · exact wpAny_pure h
  refine wpAny_bind (quiet_key k v 8 s hk hd A E _ ?_)
  rw [if_neg (by decide)]
  refine wpAny_bind (wpAny_forIn_list _ (fun l r t => t = s ∧ r = (none, ()) ∧ ∀ u ∈ l, ∃ k', NestedIs s.heap k' u ∧ k'.depth ≤ 8) _ ?_ ?_ _ _ ⟨rfl, rfl, hs⟩)
  · rintro u l r t ⟨rfl, rfl, hl⟩
    obtain ⟨k', h1, h2⟩ := hl u List.mem_cons_self
    refine wpAny_bind (quiet_key k' u 8 t h1 h2 A E _ ?_)
    rw [if_neg (by decide)]
    exact wpAny_pure ⟨rfl, rfl, fun u' hu' => hl u' (List.mem_cons_of_mem _ hu')⟩
  · rintro r t ⟨rfl, rfl, _⟩
    exact wpAny_pure h

theorem ent_at {es : Array DictEntry} {xs : XS} (he : es.toList = xs.map (ent w)) (j : Nat) : es[j]? = (xs[j]?).map (ent w) := by
  rw [← Array.getElem?_toList, he, List.getElem?_map]
theorem ent_size {es : Array DictEntry} {xs : XS} (he : es.toList = xs.map (ent w)) : es.size = xs.length := by
  have := congrArg List.length he
  simpa using this

/-- the entries one after another: none of the key so far, or the one -/
def Hits (xs : XS) (k : NestedKey) (i : Nat) (hit : Option Nat) : Prop := (hit = none ∧ ∀ (j : Nat) (p : Value × Value), j < i → xs[j]? ≠ some (k, p)) ∨ ∃ j p, hit = some j ∧ j < i ∧ xs[j]? = some (k, p)
theorem Hits.skip {xs : XS} {k : NestedKey} {i x : Nat} {hit : Option Nat} (h : Hits xs k i hit) (hix : i ≤ x) (no : ∀ (j : Nat) (p : Value × Value), i ≤ j → j < x → xs[j]? ≠ some (k, p)) : Hits xs k x hit := by
  rcases h with ⟨h0, hn⟩ | ⟨j, p, h1, h2, h3⟩
  · refine .inl ⟨h0, fun j p hj => ?_⟩
    by_cases c : j < i
    · exact hn j p c
    · exact no j p (by omega) hj
  · exact .inr ⟨j, p, h1, by omega, h3⟩
theorem Hits.next {xs : XS} {k k' : NestedKey} {x : Nat} {hit : Option Nat} {p : Value × Value} (h : Hits xs k x hit) (hx : xs[x]? = some (k', p)) (ne : ¬ k' = k) : Hits xs k (x + 1) hit := by
  rcases h with ⟨h0, hn⟩ | ⟨j, q, h1, h2, h3⟩
  · refine .inl ⟨h0, fun j q hj z => ?_⟩
    by_cases c : j < x
    · exact hn j q c z
    · have e : j = x := by omega
      rw [e, hx] at z
      cases z
      exact ne rfl
  · exact .inr ⟨j, q, h1, by omega, h3⟩
theorem Hits.fin {xs : XS} {k : NestedKey} {hit : Option Nat} (hn : (xs.map (·.1)).Nodup) (h : Hits xs k xs.length hit) : hit = fi xs k := by
  rcases h with ⟨h0, h1⟩ | ⟨j, q, h1, h2, h3⟩
  · rw [h0, fi_no]
    intro j p z
    by_cases c : j < xs.length
    · exact h1 j p c z
    · rw [List.getElem?_eq_none (by omega)] at z; cases z
  · rw [h1, fi_of hn h3]

theorem find_m {d : Addr} {o : Obj} {es : Array DictEntry} {ep : Nat} {xs : XS} {k : NestedKey} {v : Value} {Q : Option Nat → Shared → Prop} (hu : A.units + 8 < cLine) (hk : NestedIs s.heap k v) (hkd : k.depth ≤ 8)
    (ho : s.heap.get? d = some o) (hd : o.data = .dict es ep) (he : es.toList = xs.map (ent w)) (his : ∀ x ∈ xs, NestedIs s.heap x.1 x.2.1 ∧ x.1.depth ≤ 8) (hn : (xs.map (·.1)).Nodup) (h : Q (fi xs k) s) :
    wpAny (model prog w) A (dictFind d v (k.hash w)) Q E s := by
  have hsz := ent_size he
  generalize hp : placesWithHash es.size (fun i => es[i]?.map (·.hash)) (k.hash w) = places
  have hplaces : places = (List.range' 0 (es.size - 0)).filter (fun i => (es[i]?.map (·.hash)) == some (k.hash w)) := by rw [← hp, placesWithHash, List.range_eq_range', Nat.sub_zero]
  have hash_of : ∀ (j : Nat) (p : Value × Value), xs[j]? = some (k, p) → ((es[j]?.map fun z : DictEntry => z.hash) == some (k.hash w)) = true := fun j p e => by
    rw [ent_at he j, e]
    simp [ent]
  have stored : ∀ u ∈ places.filterMap (fun i => es[i]?.map (·.key)), ∃ k', NestedIs s.heap k' u ∧ k'.depth ≤ 8 := fun u hu' => by
    obtain ⟨i, _, hi⟩ := List.mem_filterMap.mp hu'
    rw [ent_at he i] at hi
    cases q : xs[i]? with
    | none => rw [q] at hi; cases hi
    | some y =>
      rw [q] at hi
      have e : y.2.1 = u := by simpa [ent] using hi
      rw [← e]
      exact ⟨y.1, his y (List.mem_of_getElem? q)⟩
  -- one turn's facts
  have turn : ∀ {x i : Nat} {rest : List Nat}, x :: rest = (List.range' i (es.size - i)).filter (fun i => (es[i]?.map (·.hash)) == some (k.hash w)) → i ≤ es.size →
      ∃ k' kv vv, xs[x]? = some (k', kv, vv) ∧ es[x]? = some ⟨k'.hash w, kv, vv⟩ ∧ i ≤ x ∧ x < es.size ∧ (∀ (j : Nat) (p : Value × Value), i ≤ j → j < x → xs[j]? ≠ some (k, p)) ∧
        rest = (List.range' (x + 1) (es.size - (x + 1))).filter (fun i => (es[i]?.map (·.hash)) == some (k.hash w)) := fun {x i rest} e hi => by
    obtain ⟨a1, a2, a3, a4, a5⟩ := filter_range'_cons _ _ _ _ _ e.symm
    have lt : x < es.size := by omega
    have e5 : i + (es.size - i) - (x + 1) = es.size - (x + 1) := by omega
    rw [e5] at a5
    obtain ⟨⟨k', kv, vv⟩, hy⟩ : ∃ y, xs[x]? = some y := ⟨_, List.getElem?_eq_getElem (by rw [← hsz]; exact lt)⟩
    refine ⟨k', kv, vv, hy, by rw [ent_at he x, hy] <;> rfl, a1, lt, fun j p h1 h2 z => ?_, a5⟩
    have := a4 j h1 h2
    rw [hash_of j p z] at this
    cases this
  have last : ∀ {i : Nat}, [] = (List.range' i (es.size - i)).filter (fun i => (es[i]?.map (·.hash)) == some (k.hash w)) → i ≤ es.size → ∀ (j : Nat) (p : Value × Value), i ≤ j → j < es.size → xs[j]? ≠ some (k, p) := fun {i} e hi j p h1 h2 z => by
    have q := List.filter_eq_nil_iff.mp e.symm j (List.mem_range'_1.mpr ⟨h1, by omega⟩)
    rw [hash_of j p z] at q
    exact q rfl
  by_cases hst : ∃ x t, v = .str x t ∧ (es.all fun e => isExactStrKey e.key) = true
  · obtain ⟨x, t, rfl, hall⟩ := hst
    refine KTD.kt_dictFind_strs ho hd hall ?_
    have e : (es.findIdx? fun e => e.key.isStr x) = fi xs k := by
      cases hk
      have hes : es = (xs.map (ent w)).toArray := by rw [← he]
      rw [hes, List.findIdx?_toArray]
      refine fi_strs fun y hy => ?_
      have a : isExactStrKey y.2.1 = true := by
        rw [← Array.all_toList, he, List.all_eq_true] at hall
        exact hall _ (List.mem_map.mpr ⟨y, hy, rfl⟩)
      have b := (his y hy).1
      obtain ⟨yk, yv, yz⟩ := y
      cases yv with
      | str z u => cases b; exact ⟨z, u, rfl, rfl⟩
      | _ => cases a
    rw [e]
    exact h
  · unfold dictFind
    try with_reducible refine wpAny_holding ?_
    refine wpAny_bind (wpAny_dictEntries ho hd ?_)
    dsimp only
    rw [hp]
    have plain : ((v :: places.filterMap fun i => es[i]?.map (·.key)).all carriedByValue) = true → wpAny (model prog w) A (dictWalkPlain d v (k.hash w) es places) Q E s := fun _ => by
      unfold dictWalkPlain
      refine wpAny_bind (wpAny_forIn_list _
        (fun l b t => t = s ∧ b = (none, ()) ∧ ∃ i, l = (List.range' i (es.size - i)).filter (fun i => (es[i]?.map (·.hash)) == some (k.hash w)) ∧ i ≤ es.size ∧ Hits xs k i none) _ ?_ ?_ _ _
        ⟨rfl, rfl, 0, hplaces, Nat.zero_le _, .inl ⟨rfl, fun _ _ z => absurd z (Nat.not_lt_zero _)⟩⟩)
      · rintro x l b t ⟨rfl, rfl, i, hl, hi, hh⟩
        obtain ⟨k', kv, vv, hx, hex, hix, hlt, no, hr⟩ := turn hl hi
        have hh' := hh.skip hix no
        obtain ⟨hk1, hk2⟩ := his _ (List.mem_of_getElem? hx)
        rw [hex]
        dsimp only
        have more : ¬ k' = k → ∃ i, l = (List.range' i (es.size - i)).filter (fun i => (es[i]?.map (·.hash)) == some (k.hash w)) ∧ i ≤ es.size ∧ Hits xs k i none := fun ne => ⟨x + 1, hr, hlt, hh'.next hx ne⟩
        by_cases hq : (k'.hash w == k.hash w) = true
        · rw [if_pos hq]
          refine wpAny_bind (wpAny_dictEpoch ho hd (wpAny_bind (eq_key hu hk1 hk2 hk (wpAny_bind (wpAny_dictEpoch ho hd ?_)))))
          rw [if_neg (by simp)]
          by_cases c : k' = k
          · rw [if_pos (decide_eq_true c)]
            rw [c] at hx
            rw [fi_of hn hx] at h
            exact wpAny_bind (wpAny_rule (wpAny_pure (wpAny_pure h)))
          · rw [if_neg (by simpa using c)]
            exact wpAny_bind (wpAny_rule (wpAny_pure ⟨rfl, rfl, more c⟩))
        · rw [if_neg hq]
          exact wpAny_pure ⟨rfl, rfl, more fun c => hq (by rw [c]; simp)⟩
      · rintro b t ⟨rfl, rfl, i, hl, hi, hh⟩
        have hh' := hh.skip hi (last hl hi)
        rw [hsz] at hh'
        rw [← hh'.fin hn] at h
        exact wpAny_pure h
    have odd : (es.any fun e => e.key == v && e.hash != k.hash w) = false := by
      rw [← Array.any_toList, he, List.any_eq_false]
      intro e hin
      obtain ⟨y, hy, rfl⟩ := List.mem_map.mp hin
      intro z
      simp only [ent, Bool.and_eq_true, beq_iff_eq, bne_iff_ne, ne_eq] at z
      have q := (his y hy).1
      rw [z.1] at q
      exact z.2 (by rw [key_inj q hk])
    by_cases hall : ((v :: places.filterMap fun i => es[i]?.map (·.key)).all carriedByValue) = true
    · have pl := plain hall
      cases hk with
      | text x t =>
        dsimp only
        rw [if_neg fun q => hst ⟨_, _, rfl, q⟩, if_pos hall]
        exact pl
      | _ =>
        dsimp only
        rw [if_pos hall]
        exact pl
    · by_cases hone : ((places.filterMap fun i => es[i]?.map (·.key)) == [v]) = true
      all_goals have hv : v = .none ∨ (∃ b, v = .bool b) ∨ (∃ i t, v = .int i t) ∨ (∃ x t, v = .str x t) ∨ ∃ a, v = .ref a := by cases hk <;> simp
      all_goals rcases hv with rfl | ⟨b, rfl⟩ | ⟨i, t, rfl⟩ | ⟨x, t, rfl⟩ | ⟨a, rfl⟩
      all_goals dsimp only
      all_goals (try rw [if_neg fun q => hst ⟨_, _, rfl, q⟩])
      all_goals rw [if_neg hall]
      all_goals (try rw [odd, if_neg Bool.false_ne_true])
      all_goals first
        | rw [if_pos hone]
        | rw [if_neg hone]
      all_goals first
        | refine wpAny_bind (wpAny_pure ?_)
        | refine wpAny_bind (tell_no hk hkd stored ?_)
      all_goals rw [if_neg (by simp)]
      all_goals
        refine wpAny_bind (wpAny_forIn_list _
          (fun l b t => t = s ∧ ∃ i hit, b = (none, hit) ∧ l = (List.range' i (es.size - i)).filter (fun i => (es[i]?.map (·.hash)) == some (k.hash w)) ∧ i ≤ es.size ∧ Hits xs k i hit) _ ?_ ?_ _ _
          ⟨rfl, 0, none, rfl, hplaces, Nat.zero_le _, .inl ⟨rfl, fun _ _ z => absurd z (Nat.not_lt_zero _)⟩⟩)
      all_goals first
        | (rintro b t ⟨rfl, i, hit, rfl, hl, hi, hh⟩
           have hh' := hh.skip hi (last hl hi)
           rw [hsz] at hh'
           rw [← hh'.fin hn] at h
           exact wpAny_pure h)
        | (rintro x l b t ⟨rfl, i, hit, rfl, hl, hi, hh⟩
           obtain ⟨k', kv, vv, hx, hex, hix, hlt, no, hr⟩ := turn hl hi
           have hh' := hh.skip hix no
           obtain ⟨hk1, hk2⟩ := his _ (List.mem_of_getElem? hx)
           rw [hex]
           dsimp only
           have more : ¬ k' = k → ∃ i h2, (none, hit) = ((none : Option (Option Nat)), h2) ∧ l = (List.range' i (es.size - i)).filter (fun i => (es[i]?.map (·.hash)) == some (k.hash w)) ∧ i ≤ es.size ∧ Hits xs k i h2 := fun ne => ⟨x + 1, hit, rfl, hr, hlt, hh'.next hx ne⟩
           by_cases hq : (k'.hash w == k.hash w) = true
           · rw [if_pos hq]
             refine wpAny_bind (wpAny_dictEpoch ho hd (wpAny_bind (eq_key hu hk1 hk2 hk (wpAny_bind (wpAny_dictEpoch ho hd ?_)))))
             rw [if_neg (by simp)]
             by_cases c : k' = k
             · rw [if_pos (decide_eq_true c)]
               rw [c] at hx
               rcases hh' with ⟨z, _⟩ | ⟨j, p, _, z2, z3⟩
               · subst z
                 rw [if_neg (by simp)]
                 refine wpAny_bind (wpAny_rule ?_)
                 split
                 · rw [fi_of hn hx] at h
                   exact wpAny_pure (wpAny_pure h)
                 · exact wpAny_pure ⟨rfl, x + 1, some x, rfl, hr, hlt, .inr ⟨x, _, rfl, Nat.lt_succ_self x, hx⟩⟩
               · exact absurd (xs_at hn z3 hx) (by omega)
             · rw [if_neg (by simpa using c)]
               refine wpAny_bind (wpAny_rule ?_)
               first
                 | exact wpAny_pure ⟨rfl, more c⟩
                 | (rw [if_neg (by simp)]; exact wpAny_pure ⟨rfl, more c⟩)
           · rw [if_neg hq]
             exact wpAny_pure ⟨rfl, more fun c => hq (by rw [c]; simp)⟩)

/-! ### the dict as a whole -/
structure DictM (w : World) (h : Heap) (d : Addr) (xs : XS) : Prop where
  ob : ∃ es ep, h.DictRaw d es ep ∧ es.toList = xs.map (ent w)
  ks : ∀ x ∈ xs, NestedIs h x.1 x.2.1 ∧ x.1.depth ≤ 8
  nd : (xs.map (·.1)).Nodup
def putX (xs : XS) (k : NestedKey) (kv v : Value) : XS := match xs with
  | [] => [(k, kv, v)]
  | x :: r => if x.1 = k then (x.1, x.2.1, v) :: r else x :: putX r k kv v
def dropX (xs : XS) (k : NestedKey) : XS := match xs with
  | [] => []
  | x :: r => if x.1 = k then r else x :: dropX r k
def lookX (xs : XS) (k : NestedKey) : Option Value := match xs with
  | [] => none
  | x :: r => if x.1 = k then some x.2.2 else lookX r k
theorem lookX_fi : ∀ (xs : XS) (k : NestedKey), lookX xs k = (fi xs k).bind fun j => (xs[j]?).map fun x => x.2.2
  | [], _ => rfl
  | x :: r, k => by
    unfold lookX fi
    by_cases c : x.1 = k
    · rw [if_pos c, if_pos c] <;> rfl
    · rw [if_neg c, if_neg c, lookX_fi r k]
      cases fi r k <;> simp
theorem putX_new : ∀ {xs : XS} {k : NestedKey} (kv v : Value), fi xs k = none → putX xs k kv v = xs ++ [(k, kv, v)]
  | [], _, _, _, _ => rfl
  | x :: r, k, kv, v, h => by
    unfold fi at h
    by_cases c : x.1 = k
    · rw [if_pos c] at h; cases h
    · rw [if_neg c] at h
      have q : fi r k = none := by cases q : fi r k with | none => rfl | some i => rw [q] at h; cases h
      unfold putX
      rw [if_neg c, putX_new kv v q] <;> rfl
theorem putX_old {w : World} : ∀ {xs : XS} {k : NestedKey} {j : Nat} (kv v : Value), fi xs k = some j → (xs.map (ent w)).modify j (fun e => { e with val := v }) = (putX xs k kv v).map (ent w)
  | [], _, _, _, _, h => by cases h
  | x :: r, k, j, kv, v, h => by
    unfold fi at h
    unfold putX
    by_cases c : x.1 = k
    · rw [if_pos c] at h ⊢
      cases h
      rfl
    · rw [if_neg c] at h ⊢
      cases q : fi r k with
      | none => rw [q] at h; cases h
      | some i =>
        rw [q] at h
        cases h
        rw [List.map_cons, List.map_cons, ← putX_old kv v q] <;> rfl
theorem putX_keys : ∀ (xs : XS) (k : NestedKey) (kv v : Value), (putX xs k kv v).map (·.1) = if (fi xs k).isSome then xs.map (·.1) else xs.map (·.1) ++ [k]
  | [], _, _, _ => rfl
  | x :: r, k, kv, v => by
    unfold putX fi
    by_cases c : x.1 = k
    · rw [if_pos c, if_pos c] <;> rfl
    · rw [if_neg c, if_neg c, List.map_cons, putX_keys r k kv v]
      cases fi r k <;> rfl
theorem mem_fi : ∀ {xs : XS} {k : NestedKey}, fi xs k = none → k ∉ xs.map (·.1)
  | [], _, _ => by simp
  | x :: r, k, h => by
    unfold fi at h
    by_cases c : x.1 = k
    · rw [if_pos c] at h; cases h
    · rw [if_neg c] at h
      have q : fi r k = none := by cases q : fi r k with | none => rfl | some i => rw [q] at h; cases h
      rw [List.map_cons, List.mem_cons, not_or]
      exact ⟨fun e => c e.symm, mem_fi q⟩
theorem putX_nd {xs : XS} {k : NestedKey} (kv v : Value) (h : (xs.map (·.1)).Nodup) : ((putX xs k kv v).map (·.1)).Nodup := by
  rw [putX_keys]
  cases q : fi xs k with
  | some i => exact h
  | none =>
    show (xs.map (·.1) ++ [k]).Nodup
    rw [List.nodup_append]
    refine ⟨h, by simp, fun a ha b hb e => ?_⟩
    rw [List.mem_singleton] at hb
    exact mem_fi q (hb ▸ e ▸ ha)
theorem mem_putX : ∀ {xs : XS} {k : NestedKey} {kv v : Value} {y : NestedKey × Value × Value}, y ∈ putX xs k kv v → (∃ x ∈ xs, y.1 = x.1 ∧ y.2.1 = x.2.1) ∨ y = (k, kv, v)
  | [], _, _, _, _, h => .inr (by simpa [putX] using h)
  | x :: r, k, kv, v, y, h => by
    unfold putX at h
    by_cases c : x.1 = k
    · rw [if_pos c] at h
      rcases List.mem_cons.mp h with e | h
      · exact .inl ⟨x, List.mem_cons_self, by rw [e], by rw [e]⟩
      · exact .inl ⟨y, List.mem_cons_of_mem _ h, rfl, rfl⟩
    · rw [if_neg c] at h
      rcases List.mem_cons.mp h with e | h
      · exact .inl ⟨x, List.mem_cons_self, by rw [e], by rw [e]⟩
      · rcases mem_putX h with ⟨z, hz, a⟩ | e
        · exact .inl ⟨z, List.mem_cons_of_mem _ hz, a⟩
        · exact .inr e
theorem dropX_erase {w : World} : ∀ {xs : XS} {k : NestedKey} {j : Nat}, fi xs k = some j → (dropX xs k).map (ent w) = (xs.map (ent w)).eraseIdx j
  | [], _, _, h => by cases h
  | x :: r, k, j, h => by
    unfold fi at h
    unfold dropX
    by_cases c : x.1 = k
    · rw [if_pos c] at h ⊢
      cases h
      rfl
    · rw [if_neg c] at h ⊢
      cases q : fi r k with
      | none => rw [q] at h; cases h
      | some i =>
        rw [q] at h
        cases h
        rw [List.map_cons, List.map_cons, dropX_erase q] <;> rfl
theorem dropX_sub : ∀ (xs : XS) (k : NestedKey), (dropX xs k).Sublist xs
  | [], _ => List.Sublist.slnil
  | x :: r, k => by
    unfold dropX
    by_cases c : x.1 = k
    · rw [if_pos c]; exact List.sublist_cons_self x r
    · rw [if_neg c]; exact (dropX_sub r k).cons_cons x
theorem DictM.keep {h h' : Heap} {d : Addr} {xs : XS} (m : DictM w h d xs) (k : ∀ b o, h.get? b = some o → h'.get? b = some o) : DictM w h' d xs :=
  ⟨let ⟨es, ep, ⟨o, ho, r⟩, e⟩ := m.ob; ⟨es, ep, ⟨o, k _ _ ho, r⟩, e⟩, fun x hx => ⟨NestedIs.at (fun b o _ _ e _ => k b o e) _ _ (m.ks x hx).1, (m.ks x hx).2⟩, m.nd⟩
theorem DictM.typeIs {d : Addr} {xs : XS} (m : DictM w s.heap d xs) : s.TypeIs (.ref d) "dict" := let ⟨_, _, ⟨o, ho, hc, _⟩, _⟩ := m.ob; ⟨o, ho, hc.1⟩
theorem keys_but {h h' : Heap} {d : Addr} {o : Obj} {es : Array DictEntry} {ep : Nat} (ho : h.get? d = some o) (hd : o.data = .dict es ep) (sb : Heap.SameBut d h h') {k : NestedKey} {v : Value} (x : NestedIs h k v) : NestedIs h' k v :=
  NestedIs.at (fun b ob vs n hb hc => (sb.2 b fun e => by rw [e, ho] at hb; cases hb; rw [hd] at hc; cases hc).trans hb) _ _ x

theorem get_m {d : Addr} {xs : XS} {k : NestedKey} {v : Value} {Q : Option Value → Shared → Prop} (hu : A.units + 8 < cLine) (hk : NestedIs s.heap k v) (hkd : k.depth ≤ 8) (m : DictM w s.heap d xs)
    (h : Q (lookX xs k) { s with toks := s.toks + k.draws }) : wpAny (model prog w) A (dictGet d v) Q E s := by
  obtain ⟨⟨es, ep, ⟨o, ho, hc, hd⟩, he⟩, ks, nd⟩ := m
  unfold dictGet
  try with_reducible refine wpAny_holding ?_
  refine wpAny_bind (pyHash_key k v A s _ hk (by omega) (wpAny_bind (find_m (s := { s with toks := s.toks + k.draws }) hu hk hkd ho hd he ks nd ?_)))
  rw [lookX_fi] at h
  cases q : fi xs k with
  | none => rw [q] at h; exact wpAny_pure h
  | some j =>
    rw [q] at h
    refine wpAny_bind (wpAny_dictEntries (s := { s with toks := s.toks + k.draws }) ho hd ?_)
    rw [ent_at he j]
    obtain ⟨p, hp⟩ := fi_some q
    simp only [Option.bind_some, hp, Option.map_some] at h ⊢
    exact wpAny_pure h
theorem set_m {d : Addr} {xs : XS} {k : NestedKey} {v u : Value} {Q : Unit → Shared → Prop} (hu : A.units + 8 < cLine) (hk : NestedIs s.heap k v) (hkd : k.depth ≤ 8) (m : DictM w s.heap d xs) (hz : xs.length ≤ sizeLine)
    (h : ∀ h', DictM w h' d (putX xs k v u) → Heap.SameBut d s.heap h' → (∃ o, h'.get? d = some o) → Q () { s with heap := h', toks := s.toks + k.draws }) : wpAny (model prog w) A (dictSet d v u) Q E s := by
  obtain ⟨⟨es, ep, ⟨o, ho, hc, hd⟩, he⟩, ks, nd⟩ := m
  have ks' : ∀ h', Heap.SameBut d s.heap h' → ∀ y ∈ putX xs k v u, NestedIs h' y.1 y.2.1 ∧ y.1.depth ≤ 8 := fun h' sb y hy => by
    rcases mem_putX hy with ⟨x, hx, e1, e2⟩ | e
    · rw [e1, e2]; exact ⟨keys_but ho hd sb (ks x hx).1, (ks x hx).2⟩
    · rw [e]; exact ⟨keys_but ho hd sb hk, hkd⟩
  unfold dictSet
  try with_reducible refine wpAny_holding ?_
  refine wpAny_bind (pyHash_key k v A s _ hk (by omega) ?_)
  unfold dictSetHashed
  try with_reducible refine wpAny_holding ?_
  refine wpAny_bind (find_m (s := { s with toks := s.toks + k.draws }) hu hk hkd ho hd he ks nd ?_)
  cases q : fi xs k with
  | none =>
    have hsz := ent_size he
    refine wpAny_bind (wpAny_rule (wpAny_updateDictKeys (hz := by omega) (s := { s with toks := s.toks + k.draws }) ho hd (h _ ⟨⟨_, ep + 1, ⟨_, Heap.get?_update_self _ ho (Obj.isFreed_of_dict (Obj.data_mapDictKeys hd _)), hc.mapDictKeys _, Obj.data_mapDictKeys hd _⟩, ?_⟩,
      ks' _ (Heap.SameBut.update ..), putX_nd v u nd⟩ (Heap.SameBut.update ..) ⟨_, Heap.get?_update_self _ ho (Obj.isFreed_of_dict (Obj.data_mapDictKeys hd _))⟩)))
    rw [putX_new v u q]
    simp [he, ent]
  | some j =>
    refine wpAny_bind (wpAny_rule (wpAny_bind (wpAny_updateDict (s := { s with toks := s.toks + k.draws }) ho hd (wpAny_point (h _ ⟨⟨_, ep, ⟨_, Heap.get?_update_self _ ho (Obj.isFreed_of_dict (Obj.data_mapDict hd _)), hc.mapDict _, Obj.data_mapDict hd _⟩, ?_⟩,
      ks' _ (Heap.SameBut.update ..), putX_nd v u nd⟩ (Heap.SameBut.update ..) ⟨_, Heap.get?_update_self _ ho (Obj.isFreed_of_dict (Obj.data_mapDict hd _))⟩)))))
    have z := putX_old (w := w) v u q
    rw [← he] at z
    obtain ⟨l⟩ := es
    simpa using z
theorem take_m {d : Addr} {xs : XS} {k : NestedKey} {v : Value} {Q : Option DictEntry → Shared → Prop} (hu : A.units + 8 < cLine) (hk : NestedIs s.heap k v) (hkd : k.depth ≤ 8) (m : DictM w s.heap d xs) (hz : xs.length ≤ sizeLine)
    (h1 : lookX xs k = none → Q none { s with toks := s.toks + k.draws })
    (h2 : ∀ e, lookX xs k = some e.val → ∀ h', DictM w h' d (dropX xs k) → Heap.SameBut d s.heap h' → (∃ o, h'.get? d = some o) → Q (some e) { s with heap := h', toks := s.toks + k.draws }) :
    wpAny (model prog w) A (Builtin.Dict.takeOut d v) Q E s := by
  obtain ⟨⟨es, ep, ⟨o, ho, hc, hd⟩, he⟩, ks, nd⟩ := m
  unfold Builtin.Dict.takeOut
  try with_reducible refine wpAny_holding ?_
  refine wpAny_bind (pyHash_key k v A s _ hk (by omega) ?_)
  refine wpAny_bind (find_m (s := { s with toks := s.toks + k.draws }) hu hk hkd ho hd he ks nd ?_)
  rw [lookX_fi] at h1 h2
  cases q : fi xs k with
  | none => rw [q] at h1; exact wpAny_pure (h1 rfl)
  | some j =>
    obtain ⟨p, hp⟩ := fi_some q
    have hsz := ent_size he
    refine wpAny_bind (wpAny_dictEntries (s := { s with toks := s.toks + k.draws }) ho hd ?_)
    rw [ent_at he j, hp]
    refine wpAny_bind (wpAny_updateDictKeys (hz := by omega) (s := { s with toks := s.toks + k.draws }) ho hd (wpAny_pure (h2 _ (by rw [q]; simp [hp, ent]) _ ⟨⟨_, ep + 1, ⟨_, Heap.get?_update_self _ ho (Obj.isFreed_of_dict (Obj.data_mapDictKeys hd _)), hc.mapDictKeys _, Obj.data_mapDictKeys hd _⟩, ?_⟩,
      fun x hx => ?_, ?_⟩ (Heap.SameBut.update ..) ⟨_, Heap.get?_update_self _ ho (Obj.isFreed_of_dict (Obj.data_mapDictKeys hd _))⟩)))
    · rw [dropX_erase q, ← he]
      obtain ⟨l⟩ := es
      simp
    · have hx' := (dropX_sub xs k).subset hx
      exact ⟨keys_but ho hd (Heap.SameBut.update ..) (ks x hx').1, (ks x hx').2⟩
    · exact nd.sublist ((dropX_sub xs k).map _)

theorem contains_m {d : Addr} {xs : XS} {k : NestedKey} {v : Value} {Q : Bool → Shared → Prop} (hu : A.units + 9 < cLine) (hd : (d == sysModules) = false) (hk : NestedIs s.heap k v) (hkd : k.depth ≤ 8) (m : DictM w s.heap d xs)
    (h : Q (lookX xs k).isSome { s with toks := s.toks + k.draws }) : wpAny (model prog w) A (contains (.ref d) v) Q E s := by
  unfold contains
  try with_reducible refine wpAny_holding ?_
  refine wpAny_bind (wpAny_specialOf m.typeIs slot_dict_contains.lookup ?_)
  rw [show (some (Value.builtin "dict.__contains__") == some Value.none) = false from beq_builtin_none _, if_neg Bool.false_ne_true]
  refine wpAny_bind (wpAny_callSpecialUnlessNone?_slot (name := Str.ofString "__contains__") m.typeIs slot_dict_contains (wpAny_call_entry slot_dict_contains m.typeIs entry_dict_contains ?_ (args_dict_contains _ _)))
  show wpAny _ _ (dictGet d v >>= _) _ _ s
  refine wpAny_bind (get_m (by show A.units + 1 + 8 < _; omega) hk hkd m ?_)
  cases q : lookX xs k with
  | some u =>
    rw [q] at h
    show wpAny _ _ (ret (.bool true)) _ _ _
    exact wpAny_pure ⟨_, rfl, wpAny_truthy_bool h⟩
  | none =>
    rw [q] at h
    show wpAny _ _ (Builtin.Dict.pendingKey? d v >>= _) _ _ _
    exact wpAny_bind (wpAny_pendingKey_other hd (wpAny_pure ⟨_, rfl, wpAny_truthy_bool h⟩))
theorem in_m {d : Addr} {xs : XS} {k : NestedKey} {v : Value} {Q : Value → Shared → Prop} (hu : A.units + 9 < cLine) (hd : (d == sysModules) = false) (hk : NestedIs s.heap k v) (hkd : k.depth ≤ 8) (m : DictM w s.heap d xs)
    (h : Q (.bool (lookX xs k).isSome) { s with toks := s.toks + k.draws }) : wpAny (model prog w) A (compareOp .In v (.ref d)) Q E s := by
  show wpAny _ _ (contains (.ref d) v >>= fun b => pure (Value.bool b)) Q E s
  exact wpAny_bind (contains_m hu hd hk hkd m (wpAny_pure h))
theorem notin_m {d : Addr} {xs : XS} {k : NestedKey} {v : Value} {Q : Value → Shared → Prop} (hu : A.units + 9 < cLine) (hd : (d == sysModules) = false) (hk : NestedIs s.heap k v) (hkd : k.depth ≤ 8) (m : DictM w s.heap d xs)
    (h : Q (.bool (!(lookX xs k).isSome)) { s with toks := s.toks + k.draws }) : wpAny (model prog w) A (compareOp .NotIn v (.ref d)) Q E s := by
  show wpAny _ _ (contains (.ref d) v >>= fun b => pure (Value.bool (!b))) Q E s
  exact wpAny_bind (contains_m hu hd hk hkd m (wpAny_pure h))
theorem item_m {d : Addr} {xs : XS} {k : NestedKey} {v u : Value} {Q : Value → Shared → Prop} (hu : A.units + 9 < cLine) (hk : NestedIs s.heap k v) (hkd : k.depth ≤ 8) (m : DictM w s.heap d xs) (hx : lookX xs k = some u)
    (h : Q u { s with toks := s.toks + k.draws }) : wpAny (model prog w) A (getItem (.ref d) v) Q E s := by
  unfold getItem
  try with_reducible refine wpAny_holding ?_
  refine wpAny_bind (wpAny_sequenceKey m.typeIs (by decide) (wpAny_bind (wpAny_callSpecial?_slot (name := Str.ofString "__getitem__") m.typeIs slot_dict_getitem (wpAny_call_entry slot_dict_getitem m.typeIs entry_dict_getitem ?_ (args_dict_getitem _ _)))))
  show wpAny _ _ (dictGet d v >>= _) _ _ s
  refine wpAny_bind (get_m (by show A.units + 1 + 8 < _; omega) hk hkd m ?_)
  rw [hx]
  exact wpAny_pure ⟨u, rfl, wpAny_pure h⟩
theorem store_m {d : Addr} {xs : XS} {k : NestedKey} {v u : Value} {Q : Unit → Shared → Prop} (hu : A.units + 9 < cLine) (hk : NestedIs s.heap k v) (hkd : k.depth ≤ 8) (m : DictM w s.heap d xs) (hz : xs.length ≤ sizeLine)
    (h : ∀ h', DictM w h' d (putX xs k v u) → Heap.SameBut d s.heap h' → (∃ o, h'.get? d = some o) → Q () { s with heap := h', toks := s.toks + k.draws }) : wpAny (model prog w) A (setItem (.ref d) v u) Q E s := by
  unfold setItem
  try with_reducible refine wpAny_holding ?_
  refine wpAny_bind (wpAny_sequenceKey m.typeIs (by decide) (wpAny_bind (wpAny_callSpecial?_slot (name := Str.ofString "__setitem__") m.typeIs slot_dict_setitem (wpAny_call_entry slot_dict_setitem m.typeIs entry_dict_setitem ?_ (args_dict_setitem _ _ _)))))
  show wpAny _ _ (Builtin.Dict.notOrdered "__setitem__" ⟨[.ref d, v, u], []⟩ >>= _) _ _ s
  refine wpAny_bind (wpAny_notOrdered_dict m.typeIs ?_)
  show wpAny _ _ (dictSet d v u >>= _) _ _ s
  exact wpAny_bind (set_m (by show A.units + 1 + 8 < _; omega) hk hkd m hz fun h' m' sb ho => wpAny_pure ⟨.none, rfl, wpAny_pure (h h' m' sb ho)⟩)
theorem meets_get {d : Addr} {v dflt : Value} (more : List Value) (hm : more = [] ∧ dflt = .none ∨ more = [dflt]) (hd : (d == sysModules) = false) :
    MeetsIn prog w (Builtin.«dict.get» ⟨.ref d :: v :: more, []⟩) (fun A R s => A.in1.units + 8 < cLine ∧ ∃ k xs, NestedIs s.heap k v ∧ k.depth ≤ 8 ∧ DictM w s.heap d xs ∧ R (.ok (.ret ((lookX xs k).getD dflt))) { s with toks := s.toks + k.draws }) := by
  rcases hm with ⟨rfl, rfl⟩ | rfl
  all_goals
    refine .of_wp fun A R s ⟨hu, k, xs, hk, hkd, m, h⟩ => ?_
    show wpAny _ _ (dictGet d v >>= _) _ _ s
    refine wpAny_bind (get_m hu hk hkd m ?_)
    cases q : lookX xs k with
    | some u =>
      rw [q] at h
      exact wpAny_pure ⟨u, rfl, h⟩
    | none =>
      rw [q] at h
      show wpAny _ _ (Builtin.Dict.missed d v >>= _) _ _ _
      exact wpAny_bind (wpAny_missed_other hd (wpAny_pure ⟨_, rfl, h⟩))
theorem getOr_m {d : Addr} {xs : XS} {k : NestedKey} {v dflt : Value} {Q : Value → Shared → Prop} (hu : A.units + 9 < cLine) (hd : (d == sysModules) = false) (hk : NestedIs s.heap k v) (hkd : k.depth ≤ 8) (m : DictM w s.heap d xs)
    (h : Q ((lookX xs k).getD dflt) { s with toks := s.toks + k.draws }) : wpAny (model prog w) A (call (.builtin "dict.get") [.ref d, v, dflt]) Q E s :=
  call_meetsIn F.slot_dict_get m.typeIs F.entry_dict_get (F.args_dict_get_3 _ _ _) (meets_get [dflt] (.inr rfl) hd) ⟨by show A.units + 1 + 8 < _; omega, k, xs, hk, hkd, m, h⟩
theorem get1_m {d : Addr} {xs : XS} {k : NestedKey} {v : Value} {Q : Value → Shared → Prop} (hu : A.units + 9 < cLine) (hd : (d == sysModules) = false) (hk : NestedIs s.heap k v) (hkd : k.depth ≤ 8) (m : DictM w s.heap d xs)
    (h : Q ((lookX xs k).getD .none) { s with toks := s.toks + k.draws }) : wpAny (model prog w) A (call (.builtin "dict.get") [.ref d, v]) Q E s :=
  call_meetsIn F.slot_dict_get m.typeIs F.entry_dict_get (F.args_dict_get_2 _ _) (meets_get [] (.inl ⟨rfl, rfl⟩) hd) ⟨by show A.units + 1 + 8 < _; omega, k, xs, hk, hkd, m, h⟩
theorem meets_pop {d : Addr} {v : Value} (hd : (d == sysModules) = false) :
    MeetsIn prog w (Builtin.«dict.pop» ⟨[.ref d, v], []⟩) (fun A R s => A.in1.units + 8 < cLine ∧ ∃ k xs u, NestedIs s.heap k v ∧ k.depth ≤ 8 ∧ DictM w s.heap d xs ∧ xs.length ≤ sizeLine ∧ lookX xs k = some u ∧
      ∀ h', DictM w h' d (dropX xs k) → Heap.SameBut d s.heap h' → (∃ o, h'.get? d = some o) → R (.ok (.ret u)) { s with heap := h', toks := s.toks + k.draws }) :=
  .of_wp fun A R s ⟨hu, k, xs, u, hk, hkd, m, hz, hx, h⟩ => by
    obtain ⟨es, ep, ⟨o, ho, hc, hdat⟩, he⟩ := m.ob
    unfold Builtin.«dict.pop»
    refine wpAny_bind ?_
    unfold Builtin.Dict.keyAndDefault
    refine wpAny_bind (wpAny_notOrdered_dict m.typeIs ?_)
    show wpAny _ _ (pure (d, v, none)) _ _ s
    refine wpAny_pure ?_
    have ne : ¬ es.isEmpty = true := fun z => by
      have h0 : es.size = 0 := by simpa using z
      rw [ent_size he] at h0
      rw [List.length_eq_zero_iff.mp h0] at hx
      cases hx
    have tail : wpAny (model prog w) A.in1 (Builtin.Dict.takeOut d v) (fun old s' => ∃ e, old = some e ∧ R (.ok (.ret e.val)) s') (fun e s' => R (.error e) s') s := by
      refine take_m hu hk hkd m hz (fun no => by rw [no] at hx; cases hx) fun e he' h' m' sb ho' => ⟨e, rfl, ?_⟩
      rw [hx] at he'
      rw [← Option.some.inj he']
      exact h h' m' sb ho'
    dsimp only
    generalize (keyPart v).isSome = kp
    cases kp
    · rw [if_neg Bool.false_ne_true]
      refine wpAny_bind (wpAny_dictEntries ho hdat (wpAny_bind (wpAny_pure ?_)))
      rw [if_neg ne]
      refine wpAny_bind (wpAny_mono tail (fun old s' ⟨e, e1, q⟩ => ?_) fun _ _ z => z)
      subst e1
      rw [if_neg (by simp)]
      exact wpAny_bind (wpAny_letGo (wpAny_pure ⟨e.val, rfl, q⟩))
    · rw [if_pos rfl]
      refine wpAny_bind (wpAny_pure ?_)
      rw [if_neg Bool.false_ne_true]
      refine wpAny_bind (wpAny_mono tail (fun old s' ⟨e, e1, q⟩ => ?_) fun _ _ z => z)
      subst e1
      rw [if_neg (by simp)]
      exact wpAny_bind (wpAny_letGo (wpAny_pure ⟨e.val, rfl, q⟩))
theorem pop_m {d : Addr} {xs : XS} {k : NestedKey} {v u : Value} {Q : Value → Shared → Prop} (hu : A.units + 9 < cLine) (hd : (d == sysModules) = false) (hk : NestedIs s.heap k v) (hkd : k.depth ≤ 8) (m : DictM w s.heap d xs) (hz : xs.length ≤ sizeLine)
    (hx : lookX xs k = some u) (h : ∀ h', DictM w h' d (dropX xs k) → Heap.SameBut d s.heap h' → (∃ o, h'.get? d = some o) → Q u { s with heap := h', toks := s.toks + k.draws }) :
    wpAny (model prog w) A (call (.builtin "dict.pop") [.ref d, v]) Q E s :=
  call_meetsIn F.slot_dict_pop m.typeIs F.entry_dict_pop (F.args_dict_pop_2 _ _) (meets_pop hd) ⟨by show A.units + 1 + 8 < _; omega, k, xs, u, hk, hkd, m, hz, hx, h⟩
theorem len_m {d : Addr} {xs : XS} {Q : Value → Shared → Prop} (hd : (d == sysModules) = false) (m : DictM w s.heap d xs) (hz : xs.length ≤ sizeLine) (h : Q (.int xs.length (s.toks + 1)) { s with toks := s.toks + 1 + 1 }) :
    wpAny (model prog w) A (call (.builtin "len") [.ref d]) Q E s := by
  obtain ⟨es, ep, hr, he⟩ := m.ob
  have e := ent_size he
  refine call_len_slot (n := xs.length) m.typeIs F.slot_dict_len (fun Q' hq => call_len_raw hd hr (by rw [e]; exact hq)) (by omega) (by rw [sizeLine_eq] at hz; omega) h
end
end MP
end
section
/-! MP1: how the data and the memory of MP0 lie in the layer's heap. -/
namespace MP
open PySem PySem.Spec L2
open LamX (CodeO TabS Tabs)

theorem line_eq : (line : Nat) = sizeLine := by rw [sizeLine_eq]

/-- what the text's top has left -/
structure Gx where
  w : World
  K : PySem.W.Frag
  gl : String → Option V
  cls : String → Option Addr
  clo : String → Hp → List V → V → Prop
  flds : List String
  T : List (Addr × Str)
  exc : String → Option Addr := fun _ => none
  anc : String → List String := fun _ => []

mutual
def nk : D → NestedKey
  | .int i => .num i
  | .str s => .text s
  | .tup ds => .tup (nks ds)
  | _ => .none
def nks : List D → List NestedKey
  | [] => []
  | d :: ds => nk d :: nks ds
end

section
variable (G : Gx) (H : Hp)
mutual
def RV : D → V → Prop
  | .non, v => v = .non
  | .bl b, v => v = .bl b
  | .int i, v => v = .int i
  | .str s, v => v = .str s
  | .tup ds, v => ∃ p vs, v = .ref p ∧ SqT G.K H p vs ∧ RVs ds vs
  | .ref a, v => v = .ref a
  | .glo x, v => G.gl x = some v
  | .ty n, v => v = .ty n
  | .clo _ _, _ => False
def RVs : List D → List V → Prop
  | [], vs => vs = []
  | d :: ds, vs => ∃ v r, vs = v :: r ∧ RV d v ∧ RVs ds r
end
def RF : List (String × D) → List (Str × V) → Prop
  | [], vs => vs = []
  | p :: ps, vs => ∃ v r, vs = (Str.ofString p.1, v) :: r ∧ RV G H p.2 v ∧ RF ps r
def RX : List (D × D) → XS → Prop
  | [], xs => xs = []
  | p :: ps, xs => ∃ kv vv ku vu r, xs = (nk p.1, ku, vu) :: r ∧ RelV kv ku ∧ RV G H p.1 kv ∧ RelV vv vu ∧ RV G H p.2 vv ∧ RX ps r
/-- how an object of the memory lies at its place -/
def RU (a : Addr) : MO → HO → Prop
  | .lst ds, u => ∃ vs, u = .lst vs ∧ RVs G H ds vs
  | .dct kvs, u => ∃ (xs : XS) (es : Array DictEntry) (ep : Nat), u = .ext (fun h => h.DictRaw a es ep) ∧ es.toList = xs.map (ent G.w) ∧ RX G H kvs xs ∧ (a == sysModules) = false ∧ kvs.length ≤ line ∧
      (∀ p ∈ kvs, D.okey p.1 = true) ∧ (kvs.map (·.1)).Nodup
  | .ins c fs, u => ∃ C dx vfs, G.cls c = some C ∧ u = .ins C dx vfs ∧ RF G H fs vfs
  | .frz m, u => ∃ o u', u = .frz o u' ∧ RU a m u'
structure RM (M : Mem) : Prop where
  mem : ∀ a m, M a = some m → ∃ u, H a = some u ∧ RU G H a m u
  tab : Tabs G.T H
/-- a name's value: a function made by a lambda, too -/
def RVe : D → V → Prop
  | .clo l cap, v => ∃ vs, G.clo l H vs v ∧ RVs G H cap vs
  | d, v => RV G H d v
end
instance {G : Gx} {H : Hp} {M : Mem} : CoeFun (RM G H M) (fun _ => ∀ a m, M a = some m → ∃ u, H a = some u ∧ RU G H a m u) := ⟨RM.mem⟩
theorem heap_size (p : Nat) : ∃ h : Heap, h.objs.size = p := by
  induction p with
  | zero => exact ⟨⟨#[], {}⟩, rfl⟩
  | succ p ih =>
    obtain ⟨h, e⟩ := ih
    exact ⟨h.push { cls := .none, data := .fields #[] }, by rw [Heap.size_push, e]⟩
theorem dict_ne_code {p : Addr} {es : Array DictEntry} {ep : Nat} {q : Str} : (HO.ext fun h => h.DictRaw p es ep) ≠ CodeO p q := fun z => by
  unfold CodeO at z
  injection z with z
  obtain ⟨h, hs⟩ := heap_size p
  have h0 : (h.push { cls := .type "dict", data := .dict es ep }).get? p = some { cls := .type "dict", data := .dict es ep } := by rw [← hs]; exact Heap.get?_push_size _ rfl
  have h1 : (h.push { cls := .type "dict", data := .dict es ep }).DictRaw p es ep := ⟨_, h0, ⟨rfl, rfl, rfl⟩, rfl⟩
  have z1 : (h.push { cls := .type "dict", data := .dict es ep }).DictRaw p es ep = _ := congrFun z (h.push { cls := .type "dict", data := .dict es ep })
  rw [z1] at h1
  obtain ⟨oc, vs, t, e1, e2, _⟩ := h1
  rw [h0] at e1
  cases e1
  cases e2
theorem code_ne (o : HO) (h : ∀ φ, o ≠ .ext φ) (c : Addr) (q : Str) : o ≠ CodeO c q := fun z => by unfold CodeO at z; exact h _ z

/-- what is never changed -/
structure Kpt (H H' : Hp) : Prop where
  tup : ∀ b xs, H b = some (.tup xs) → H' b = some (.tup xs)
  ftup : ∀ b o xs, H b = some (.frz o (.tup xs)) → H' b = some (.frz o (.tup xs))
  obj : ∀ b o, H b = some (.frz o (.own 0)) → H' b = some (.frz o (.own 0))
  cod : ∀ b q, H b = some (CodeO b q) → H' b = some (CodeO b q)
theorem Kpt.refl (H : Hp) : Kpt H H := ⟨fun _ _ e => e, fun _ _ _ e => e, fun _ _ e => e, fun _ _ e => e⟩
theorem Kpt.trans {H H1 H2 : Hp} (a : Kpt H H1) (b : Kpt H1 H2) : Kpt H H2 := ⟨fun c xs e => b.tup c xs (a.tup c xs e), fun c o xs e => b.ftup c o xs (a.ftup c o xs e), fun c o e => b.obj c o (a.obj c o e), fun c q e => b.cod c q (a.cod c q e)⟩
/-- a step of the memory and the heap: what the memory does not tell of stands, nothing is lost -/
structure Stp (M : Mem) (H : Hp) (M' : Mem) (H' : Hp) : Prop where
  keep : ∀ b o, H b = some o → M b = none → (∀ ps, o ≠ .tbl ps) → H' b = some o ∧ M' b = none
  grow : ∀ b, H' b = none → H b = none
  frz : ∀ b m, M b = some (.frz m) → H' b = H b ∧ M' b = some (.frz m)
theorem Stp.refl (M : Mem) (H : Hp) : Stp M H M H := ⟨fun _ _ e n _ => ⟨e, n⟩, fun _ e => e, fun _ _ e => ⟨rfl, e⟩⟩
theorem Stp.trans {M M1 M2 : Mem} {H H1 H2 : Hp} (a : Stp M H M1 H1) (b : Stp M1 H1 M2 H2) : Stp M H M2 H2 :=
  ⟨fun c o e n t => let ⟨e1, n1⟩ := a.keep c o e n t; b.keep c o e1 n1 t, fun c e => a.grow c (b.grow c e), fun c m e => let ⟨e1, n1⟩ := a.frz c m e; let ⟨e2, n2⟩ := b.frz c m n1; ⟨e2.trans e1, n2⟩⟩

section
variable {G : Gx}
theorem RU.mut {H : Hp} {a : Addr} {m : MO} {u : HO} (h : RU G H a m u) : (∀ xs, u ≠ .tup xs) ∧ (∀ o xs, u ≠ .frz o (.tup xs)) ∧ (∀ o x, u ≠ .frz o (.own x)) ∧ (∀ ps, u ≠ .tbl ps) ∧ ∀ q, u ≠ CodeO a q := by
  cases m with
  | lst ds =>
    obtain ⟨vs, rfl, _⟩ := h
    exact ⟨fun _ => nofun, fun _ _ => nofun, fun _ _ => nofun, fun _ => nofun, fun q => code_ne _ (fun _ z => by cases z) _ _⟩
  | dct kvs =>
    obtain ⟨_, _, _, rfl, _⟩ := h
    exact ⟨fun _ => nofun, fun _ _ => nofun, fun _ _ => nofun, fun _ => nofun, fun q => dict_ne_code⟩
  | ins c fs =>
    obtain ⟨_, _, _, _, rfl, _⟩ := h
    exact ⟨fun _ => nofun, fun _ _ => nofun, fun _ _ => nofun, fun _ => nofun, fun q => code_ne _ (fun _ z => by cases z) _ _⟩
  | frz m =>
    obtain ⟨o, u', rfl, h'⟩ := h
    refine ⟨fun _ => nofun, fun _ _ e => ?_, fun _ _ e => ?_, fun _ => nofun, fun q => code_ne _ (fun _ z => by cases z) _ _⟩
    · injection e with _ e2
      exact (RU.mut h').1 _ e2
    · injection e with _ e2
      subst e2
      cases m with
      | lst ds => obtain ⟨_, z, _⟩ := h'; cases z
      | dct kvs => obtain ⟨_, _, _, z, _⟩ := h'; cases z
      | ins c fs => obtain ⟨_, _, _, _, z, _⟩ := h'; cases z
      | frz m => obtain ⟨_, _, z, _⟩ := h'; cases z
theorem RM.clear {M : Mem} {H : Hp} (r : RM G H M) {b : Addr} {o : HO} (e : H b = some o) (h : (∃ xs, o = .tup xs) ∨ (∃ o' xs, o = .frz o' (.tup xs)) ∨ (∃ o' x, o = .frz o' (.own x)) ∨ ∃ q, o = CodeO b q) : M b = none := by
  cases q : M b with
  | none => rfl
  | some m =>
    obtain ⟨u, e', hu⟩ := r b m q
    rw [e] at e'
    cases e'
    obtain ⟨a1, a2, a3, _, a5⟩ := hu.mut
    rcases h with ⟨xs, rfl⟩ | ⟨o', xs, rfl⟩ | ⟨o', x, rfl⟩ | ⟨q, rfl⟩
    · exact absurd rfl (a1 _)
    · exact absurd rfl (a2 _ _)
    · exact absurd rfl (a3 _ _)
    · exact absurd rfl (a5 _)
theorem Stp.kpt {M M' : Mem} {H H' : Hp} (s : Stp M H M' H') (r : RM G H M) : Kpt H H' :=
  ⟨fun b xs e => (s.keep b _ e (r.clear e (.inl ⟨_, rfl⟩)) (fun _ => nofun)).1, fun b o xs e => (s.keep b _ e (r.clear e (.inr (.inl ⟨_, _, rfl⟩))) (fun _ => nofun)).1,
    fun b o e => (s.keep b _ e (r.clear e (.inr (.inr (.inl ⟨_, _, rfl⟩)))) (fun _ => nofun)).1, fun b q e => (s.keep b _ e (r.clear e (.inr (.inr (.inr ⟨_, rfl⟩)))) (fun ps z => LamX.codeO_ne ps z)).1⟩
theorem Kpt.sqt {K : PySem.W.Frag} {H H' : Hp} (k : Kpt H H') {a : Addr} {xs : List V} (h : SqT K H a xs) : SqT K H' a xs := by
  rcases h with (h | ⟨o, h⟩) | h
  · exact .inl (.inl (k.tup _ _ h))
  · exact .inl (.inr ⟨o, k.ftup _ _ _ h⟩)
  · exact .inr h
/-- closures stay while what they hold stays -/
def GOk (G : Gx) : Prop := ∀ l (H H' : Hp) vs v, Kpt H H' → G.clo l H vs v → G.clo l H' vs v
mutual
theorem RV.mono (g : GOk G) {H H' : Hp} (k : Kpt H H') : ∀ {d : D} {v : V}, RV G H d v → RV G H' d v
  | .non, _, h | .bl _, _, h | .int _, _, h | .str _, _, h | .ref _, _, h | .glo _, _, h | .ty _, _, h => h
  | .tup ds, _, h => let ⟨p, vs, e, s, r⟩ := h; ⟨p, vs, e, k.sqt s, RVs.mono g k r⟩
  | .clo _ _, _, h => h
theorem RVs.mono (g : GOk G) {H H' : Hp} (k : Kpt H H') : ∀ {ds : List D} {vs : List V}, RVs G H ds vs → RVs G H' ds vs
  | [], _, h => h
  | d :: ds, _, h => let ⟨v, r, e, a, b⟩ := h; ⟨v, r, e, RV.mono g k a, RVs.mono g k b⟩
end
theorem RV.e {H : Hp} {d : D} {v : V} (h : RV G H d v) : RVe G H d v := by
  cases d <;> first | exact h | exact h.elim
theorem RVe.v {H : Hp} {d : D} {v : V} (n : d.nclo = true) (h : RVe G H d v) : RV G H d v := by
  cases d <;> first | exact h | cases n
theorem RVe.mono (g : GOk G) {H H' : Hp} (k : Kpt H H') {d : D} {v : V} (h : RVe G H d v) : RVe G H' d v := by
  cases d with
  | clo l cap => obtain ⟨vs, c, r⟩ := h; exact ⟨vs, g _ _ _ _ _ k c, RVs.mono g k r⟩
  | _ => exact RV.mono (d := _) g k h
/-- tables stay where all but tables stay -/
theorem TabS.at {H H' : Hp} {P : Addr} {q : Str} (t : TabS H P q) (h : ∀ ps, H P = some (.tbl ps) → H' P = some (.tbl ps)) (hc : ∀ c q, H c = some (CodeO c q) → H' c = some (CodeO c q)) : TabS H' P q := by
  obtain ⟨ps, h1, h2, h3⟩ := t
  refine ⟨ps, h _ h1, h2, fun pos cv e => ?_⟩
  obtain ⟨c, e1, e2⟩ := h3 pos cv e
  exact ⟨c, e1, hc _ _ e2⟩
theorem Tabs.at {T : List (Addr × Str)} {H H' : Hp} (t : Tabs T H) (h : ∀ b ps, H b = some (.tbl ps) → H' b = some (.tbl ps)) (hc : ∀ c q, H c = some (CodeO c q) → H' c = some (CodeO c q)) : Tabs T H' := fun p hp => MP.TabS.at (t p hp) (h p.1) hc
theorem RF.mono (g : GOk G) {H H' : Hp} (k : Kpt H H') : ∀ {fs : List (String × D)} {vs : List (Str × V)}, RF G H fs vs → RF G H' fs vs
  | [], _, h => h
  | _ :: _, _, h => let ⟨v, r, e, a, b⟩ := h; ⟨v, r, e, a.mono g k, RF.mono g k b⟩
theorem RX.mono (g : GOk G) {H H' : Hp} (k : Kpt H H') : ∀ {kvs : List (D × D)} {xs : XS}, RX G H kvs xs → RX G H' kvs xs
  | [], _, h => h
  | _ :: _, _, h => let ⟨kv, vv, ku, vu, r, e, a, b, c, d, f⟩ := h; ⟨kv, vv, ku, vu, r, e, a, b.mono g k, c, d.mono g k, RX.mono g k f⟩
theorem RU.mono (g : GOk G) {H H' : Hp} (k : Kpt H H') {a : Addr} : ∀ {m : MO} {u : HO}, RU G H a m u → RU G H' a m u
  | .lst _, _, h => let ⟨vs, e, r⟩ := h; ⟨vs, e, r.mono g k⟩
  | .dct _, _, h => let ⟨xs, es, ep, e, e2, r, z⟩ := h; ⟨xs, es, ep, e, e2, r.mono g k, z⟩
  | .ins _ _, _, h => let ⟨C, dx, vfs, e, e2, r⟩ := h; ⟨C, dx, vfs, e, e2, r.mono g k⟩
  | .frz _, _, h => let ⟨o, u', e, r⟩ := h; ⟨o, u', e, RU.mono g k r⟩

theorem RVs.length {H : Hp} : ∀ {ds : List D} {vs : List V}, RVs G H ds vs → ds.length = vs.length
  | [], _, h => by rw [show _ = [] from h] <;> rfl
  | _ :: _, _, h => by
    obtain ⟨v, r, rfl, _, b⟩ := h
    rw [List.length_cons, List.length_cons, RVs.length b]
theorem RVs.get {H : Hp} : ∀ {ds : List D} {vs : List V} {i : Nat} {d : D}, RVs G H ds vs → ds[i]? = some d → ∃ v, vs[i]? = some v ∧ RV G H d v
  | [], _, _, _, _, e => by simp at e
  | _ :: _, _, 0, _, h, e => by
    obtain ⟨v, r, rfl, a, _⟩ := h
    simp at e
    subst e
    exact ⟨v, rfl, a⟩
  | _ :: _, _, i + 1, _, h, e => by
    obtain ⟨v, r, rfl, _, b⟩ := h
    obtain ⟨u, e1, e2⟩ := RVs.get (i := i) b (by simpa using e)
    exact ⟨u, by simpa using e1, e2⟩
theorem RVs.append {H : Hp} : ∀ {ds es : List D} {vs us : List V}, RVs G H ds vs → RVs G H es us → RVs G H (ds ++ es) (vs ++ us)
  | [], _, _, _, h, h' => by
    rw [show _ = [] from h]
    exact h'
  | _ :: _, _, _, _, h, h' => by
    obtain ⟨v, r, rfl, a, b⟩ := h
    exact ⟨v, _, rfl, a, RVs.append b h'⟩
theorem RVs.take {H : Hp} : ∀ {ds : List D} {vs : List V} (n : Nat), RVs G H ds vs → RVs G H (ds.take n) (vs.take n)
  | _, _, 0, _ => by simp [RVs]
  | [], _, n + 1, h => by rw [show _ = [] from h]; simp [RVs]
  | _ :: _, _, n + 1, h => by
    obtain ⟨v, r, rfl, a, b⟩ := h
    exact ⟨v, _, rfl, a, RVs.take n b⟩
theorem RVs.drop {H : Hp} : ∀ {ds : List D} {vs : List V} (n : Nat), RVs G H ds vs → RVs G H (ds.drop n) (vs.drop n)
  | _, _, 0, h => by simpa using h
  | [], _, n + 1, h => by rw [show _ = [] from h]; simp [RVs]
  | _ :: _, _, n + 1, h => by
    obtain ⟨v, r, rfl, a, b⟩ := h
    exact RVs.drop n b
theorem RVs.set {H : Hp} {d : D} {v : V} (hv : RV G H d v) : ∀ {ds : List D} {vs : List V} (n : Nat), RVs G H ds vs → RVs G H (ds.set n d) (vs.set n v)
  | [], _, _, h => by rw [show _ = [] from h]; simp [RVs]
  | _ :: _, _, 0, h => by
    obtain ⟨u, r, rfl, a, b⟩ := h
    exact ⟨v, r, rfl, hv, b⟩
  | _ :: _, _, n + 1, h => by
    obtain ⟨u, r, rfl, a, b⟩ := h
    exact ⟨u, _, rfl, a, RVs.set hv n b⟩
theorem RVs.reverse {H : Hp} {ds : List D} {vs : List V} (h : RVs G H ds vs) : RVs G H ds.reverse vs.reverse := by
  induction ds generalizing vs with
  | nil => rw [show vs = [] from h]; simp [RVs]
  | cons d ds ih =>
    obtain ⟨v, r, rfl, a, b⟩ := h
    rw [List.reverse_cons, List.reverse_cons]
    exact (ih b).append ⟨v, [], rfl, a, rfl⟩
theorem RVs.one {H : Hp} {d : D} {v : V} (h : RV G H d v) : RVs G H [d] [v] := ⟨v, [], rfl, h, rfl⟩
theorem RVs.dropLast {H : Hp} {ds : List D} {vs : List V} (h : RVs G H ds vs) : RVs G H ds.dropLast vs.dropLast := by
  rw [List.dropLast_eq_take, List.dropLast_eq_take, h.length]
  exact h.take _

/-! ### dicts -/
mutual
theorem nk_inj : ∀ {a b : D}, D.key a = true → D.key b = true → nk a = nk b → a = b
  | .non, b, _, hb, e => by cases b <;> simp_all [nk, D.key]
  | .int i, b, _, hb, e => by cases b <;> simp_all [nk, D.key]
  | .str s, b, _, hb, e => by cases b <;> simp_all [nk, D.key]
  | .tup ds, .tup es, ha, hb, e => by
    rw [nk, nk] at e
    injection e with e
    rw [nks_inj (by rw [D.key] at ha; exact ha) (by rw [D.key] at hb; exact hb) e]
  | .tup ds, .non, _, _, e | .tup ds, .int _, _, _, e | .tup ds, .str _, _, _, e => by simp [nk] at e
  | .tup _, .bl _, _, hb, _ | .tup _, .ref _, _, hb, _ | .tup _, .glo _, _, hb, _ | .tup _, .ty _, _, hb, _ | .tup _, .clo _ _, _, hb, _ => by simp [D.key] at hb
  | .bl _, _, ha, _, _ | .ref _, _, ha, _, _ | .glo _, _, ha, _, _ | .ty _, _, ha, _, _ | .clo _ _, _, ha, _, _ => by simp [D.key] at ha
theorem nks_inj : ∀ {a b : List D}, D.keys a = true → D.keys b = true → nks a = nks b → a = b
  | [], [], _, _, _ => rfl
  | x :: xs, y :: ys, ha, hb, e => by
    rw [D.keys, Bool.and_eq_true] at ha hb
    rw [nks, nks] at e
    injection e with e1 e2
    rw [nk_inj ha.1 hb.1 e1, nks_inj ha.2 hb.2 e2]
  | [], _ :: _, _, _, e => by simp [nks] at e
  | _ :: _, [], _, _, e => by simp [nks] at e
end
mutual
theorem nk_depth : ∀ {a : D}, D.key a = true → (nk a).depth = D.depth a
  | .non, _ => by simp [nk, NestedKey.depth, D.depth]
  | .int _, _ => by simp [nk, NestedKey.depth, D.depth]
  | .str _, _ => by simp [nk, NestedKey.depth, D.depth]
  | .tup ds, h => by rw [nk, NestedKey.depth, D.depth, nks_depth (by rw [D.key] at h; exact h)]
  | .bl _, ha | .ref _, ha | .glo _, ha | .ty _, ha | .clo _ _, ha => by simp [D.key] at ha
theorem nks_depth : ∀ {a : List D}, D.keys a = true → NestedKey.depthAll (nks a) = D.depths a
  | [], _ => by simp [nks, NestedKey.depthAll, D.depths]
  | x :: xs, h => by
    rw [D.keys, Bool.and_eq_true] at h
    rw [nks, NestedKey.depthAll, D.depths, nk_depth h.1, nks_depth h.2]
end
theorem okey_key {d : D} (h : D.okey d = true) : D.key d = true := (Bool.and_eq_true_iff.mp h).1
theorem okey_depth {d : D} (h : D.okey d = true) : (nk d).depth ≤ 8 := by
  rw [nk_depth (okey_key h)]
  exact of_decide_eq_true (Bool.and_eq_true_iff.mp h).2
theorem RX.length {H : Hp} : ∀ {kvs : List (D × D)} {xs : XS}, RX G H kvs xs → kvs.length = xs.length
  | [], _, h => by rw [show _ = [] from h] <;> rfl
  | _ :: _, _, h => by
    obtain ⟨_, _, _, _, r, rfl, _, _, _, _, b⟩ := h
    rw [List.length_cons, List.length_cons, RX.length b]
theorem RX.keys {H : Hp} : ∀ {kvs : List (D × D)} {xs : XS}, RX G H kvs xs → xs.map (·.1) = kvs.map fun p => nk p.1
  | [], _, h => by rw [show _ = [] from h] <;> rfl
  | _ :: _, _, h => by
    obtain ⟨_, _, _, _, r, rfl, _, _, _, _, b⟩ := h
    rw [List.map_cons, List.map_cons, RX.keys b]
theorem RX.nd {H : Hp} {kvs : List (D × D)} {xs : XS} (r : RX G H kvs xs) (hk : ∀ p ∈ kvs, D.okey p.1 = true) (nd : (kvs.map (·.1)).Nodup) : (xs.map (·.1)).Nodup := by
  rw [r.keys]
  clear r
  induction kvs with
  | nil => simp
  | cons p ps ih =>
    rw [List.map_cons, List.nodup_cons] at nd ⊢
    refine ⟨fun hm => ?_, ih (fun q hq => hk q (List.mem_cons_of_mem _ hq)) nd.2⟩
    obtain ⟨q, hq, e⟩ := List.mem_map.mp hm
    have e' := nk_inj (okey_key (hk q (List.mem_cons_of_mem _ hq))) (okey_key (hk p List.mem_cons_self)) e
    exact nd.1 (List.mem_map.mpr ⟨q, hq, e'⟩)
theorem RX.look {H : Hp} {k : D} (hk : D.key k = true) : ∀ {kvs : List (D × D)} {xs : XS}, RX G H kvs xs → (∀ p ∈ kvs, D.okey p.1 = true) →
    (∀ d, MP.look kvs k = some d → ∃ v u, lookX xs (nk k) = some u ∧ RelV v u ∧ RV G H d v) ∧ (MP.look kvs k = none → lookX xs (nk k) = none)
  | [], _, h, _ => by
    rw [show _ = [] from h]
    exact ⟨fun d e => (nomatch e), fun _ => rfl⟩
  | p :: ps, _, h, hks => by
    obtain ⟨kv, vv, ku, vu, r, rfl, a1, a2, a3, a4, b⟩ := h
    have ih := RX.look hk b fun q hq => hks q (List.mem_cons_of_mem _ hq)
    unfold MP.look lookX
    by_cases c : p.1 = k
    · rw [if_pos c, if_pos (by rw [c])]
      exact ⟨fun d e => ⟨vv, vu, rfl, a3, by rw [← Option.some.inj e]; exact a4⟩, nofun⟩
    · rw [if_neg c, if_neg fun e => c (nk_inj (okey_key (hks p List.mem_cons_self)) hk e)]
      exact ih
theorem RX.put {H : Hp} {k d : D} {kv v : V} {ku u : Value} (hk : D.key k = true) (r1 : RelV kv ku) (r2 : RV G H k kv) (r3 : RelV v u) (r4 : RV G H d v) : ∀ {kvs : List (D × D)} {xs : XS}, RX G H kvs xs → (∀ p ∈ kvs, D.okey p.1 = true) →
    RX G H (MP.put kvs k d) (putX xs (nk k) ku u)
  | [], _, h, _ => by
    rw [show _ = [] from h]
    exact ⟨kv, v, ku, u, [], rfl, r1, r2, r3, r4, rfl⟩
  | p :: ps, _, h, hks => by
    obtain ⟨kv', vv, ku', vu, r, rfl, a1, a2, a3, a4, b⟩ := h
    unfold MP.put putX
    by_cases c : p.1 = k
    · rw [if_pos c, if_pos (by rw [c])]
      exact ⟨kv', v, ku', u, r, rfl, a1, a2, r3, r4, b⟩
    · rw [if_neg c, if_neg fun e => c (nk_inj (okey_key (hks p List.mem_cons_self)) hk e)]
      exact ⟨kv', vv, ku', vu, _, rfl, a1, a2, a3, a4, RX.put hk r1 r2 r3 r4 b fun q hq => hks q (List.mem_cons_of_mem _ hq)⟩
theorem RX.drop {H : Hp} {k : D} (hk : D.key k = true) : ∀ {kvs : List (D × D)} {xs : XS}, RX G H kvs xs → (∀ p ∈ kvs, D.okey p.1 = true) → RX G H (MP.drop kvs k) (dropX xs (nk k))
  | [], _, h, _ => by
    rw [show _ = [] from h]
    exact rfl
  | p :: ps, _, h, hks => by
    obtain ⟨kv', vv, ku', vu, r, rfl, a1, a2, a3, a4, b⟩ := h
    unfold MP.drop dropX
    by_cases c : p.1 = k
    · rw [if_pos c, if_pos (by rw [c])]
      exact b
    · rw [if_neg c, if_neg fun e => c (nk_inj (okey_key (hks p List.mem_cons_self)) hk e)]
      exact ⟨kv', vv, ku', vu, _, rfl, a1, a2, a3, a4, RX.drop hk b fun q hq => hks q (List.mem_cons_of_mem _ hq)⟩
theorem put_keys (k v : D) : ∀ kvs : List (D × D), (MP.put kvs k v).map (·.1) = if k ∈ kvs.map (·.1) then kvs.map (·.1) else kvs.map (·.1) ++ [k]
  | [] => by simp [MP.put]
  | p :: ps => by
    unfold MP.put
    by_cases c : p.1 = k
    · rw [if_pos c, if_pos (by simp [c])] <;> rfl
    · rw [if_neg c, List.map_cons, put_keys k v ps]
      by_cases c2 : k ∈ ps.map (·.1)
      · rw [if_pos c2, if_pos (show k ∈ (p :: ps).map (·.1) from List.mem_cons_of_mem _ c2)] <;> rfl
      · rw [if_neg c2, if_neg (show ¬ k ∈ (p :: ps).map (·.1) by rw [List.map_cons, List.mem_cons, not_or]; exact ⟨fun e => c e.symm, c2⟩)] <;> rfl
theorem put_nd {k v : D} {kvs : List (D × D)} (h : (kvs.map (·.1)).Nodup) : ((MP.put kvs k v).map (·.1)).Nodup := by
  rw [put_keys]
  by_cases c : k ∈ kvs.map (·.1)
  · rw [if_pos c]; exact h
  · rw [if_neg c, List.nodup_append]
    refine ⟨h, by simp, fun a ha b hb e => ?_⟩
    rw [List.mem_singleton] at hb
    exact c (hb ▸ e ▸ ha)
theorem put_len {k v : D} : ∀ (kvs : List (D × D)), (MP.put kvs k v).length ≤ kvs.length + 1
  | [] => by simp [MP.put]
  | p :: ps => by
    unfold MP.put
    by_cases c : p.1 = k
    · rw [if_pos c, List.length_cons, List.length_cons]; omega
    · have := put_len (k := k) (v := v) ps
      rw [if_neg c, List.length_cons, List.length_cons]; omega
theorem put_mem {k v : D} : ∀ {kvs : List (D × D)} {p : D × D}, p ∈ MP.put kvs k v → (∃ q ∈ kvs, p.1 = q.1) ∨ p.1 = k
  | [], _, h => .inr (by simp [MP.put] at h; rw [h])
  | q :: qs, p, h => by
    unfold MP.put at h
    by_cases c : q.1 = k
    · rw [if_pos c] at h
      rcases List.mem_cons.mp h with e | h
      · exact .inl ⟨q, List.mem_cons_self, by rw [e]⟩
      · exact .inl ⟨p, List.mem_cons_of_mem _ h, rfl⟩
    · rw [if_neg c] at h
      rcases List.mem_cons.mp h with e | h
      · exact .inl ⟨q, List.mem_cons_self, by rw [e]⟩
      · rcases put_mem h with ⟨z, hz, e⟩ | e
        · exact .inl ⟨z, List.mem_cons_of_mem _ hz, e⟩
        · exact .inr e
theorem drop_sub (k : D) : ∀ kvs : List (D × D), (MP.drop kvs k).Sublist kvs
  | [] => List.Sublist.slnil
  | x :: r => by
    unfold MP.drop
    by_cases c : x.1 = k
    · rw [if_pos c]; exact List.sublist_cons_self x r
    · rw [if_neg c]; exact (drop_sub k r).cons_cons x

/-! ### data as the library reads them -/
mutual
def pd : D → PyData
  | .bl b => .bool b
  | .int i => .int i
  | .str s => .str s
  | .tup ds => .tuple (pds ds)
  | _ => .none
def pds : List D → List PyData
  | [] => []
  | d :: ds => pd d :: pds ds
end
theorem pds_map : ∀ ds : List D, pds ds = ds.map pd
  | [] => by simp [pds]
  | d :: ds => by rw [pds, pds_map ds]; simp
mutual
theorem pd_plain : ∀ d : D, (pd d).plain = true
  | .non | .bl _ | .int _ | .str _ | .ref _ | .glo _ | .ty _ | .clo _ _ => by simp [pd, PyData.plain]
  | .tup ds => by rw [pd, PyData.plain]; exact pds_plain ds
theorem pds_plain : ∀ ds : List D, PyData.plainAll (pds ds) = true
  | [] => by simp [pds, PyData.plainAll]
  | d :: ds => by rw [pds, PyData.plainAll, pd_plain d, pds_plain ds]; rfl
end
mutual
theorem pd_depth : ∀ {n : Nat} {d : D}, D.ok n d = true → (pd d).depth ≤ n
  | _, .non, _ | _, .bl _, _ | _, .int _, _ | _, .str _, _ => by simp [pd, PyData.depth]
  | n + 1, .tup ds, h => by
    rw [pd, PyData.depth]
    have := pds_depth (by rw [D.ok] at h; exact h)
    omega
  | 0, .tup _, h => by simp [D.ok] at h
  | _, .ref _, h | _, .glo _, h | _, .ty _, h | _, .clo _ _, h => by simp [D.ok] at h
theorem pds_depth : ∀ {n : Nat} {ds : List D}, D.oks n ds = true → PyData.depthAll (pds ds) ≤ n
  | _, [], _ => by simp [pds, PyData.depthAll]
  | n, d :: ds, h => by
    rw [D.oks, Bool.and_eq_true] at h
    rw [pds, PyData.depthAll]
    have h1 := pd_depth h.1
    have h2 := pds_depth h.2
    omega
end
mutual
theorem pd_eqv : ∀ {n m : Nat} {x y : D}, D.ok n x = true → D.ok m y = true → PyData.eqv (pd x) (pd y) = D.eqv x y
  | n, m, .non, y, _, hy | n, m, .bl _, y, _, hy | n, m, .int _, y, _, hy | n, m, .str _, y, _, hy => by
    cases y <;> first
      | (simp [pd, PyData.eqv, D.eqv]; done)
      | (simp only [pd, PyData.eqv, D.eqv]; rw [Bool.eq_iff_iff]; simp; done)
      | (cases m <;> simp [D.ok] at hy; done)
  | n + 1, m + 1, .tup xs, .tup ys, hx, hy => by
    rw [pd, pd, PyData.eqv, D.eqv]
    exact pds_eqv (by rw [D.ok] at hx; exact hx) (by rw [D.ok] at hy; exact hy)
  | _, _, .tup xs, .non, _, _ | _, _, .tup xs, .bl _, _, _ | _, _, .tup xs, .int _, _, _ | _, _, .tup xs, .str _, _, _ => by simp [pd, PyData.eqv, D.eqv]
  | _, 0, .tup _, .tup _, _, hy => by simp [D.ok] at hy
  | 0, _, .tup _, _, hx, _ => by simp [D.ok] at hx
  | _, _, .tup _, .ref _, _, hy | _, _, .tup _, .glo _, _, hy | _, _, .tup _, .ty _, _, hy | _, _, .tup _, .clo _ _, _, hy => by simp [D.ok] at hy
  | _, _, .ref _, _, hx, _ | _, _, .glo _, _, hx, _ | _, _, .ty _, _, hx, _ | _, _, .clo _ _, _, hx, _ => by simp [D.ok] at hx
theorem pds_eqv : ∀ {n m : Nat} {xs ys : List D}, D.oks n xs = true → D.oks m ys = true → PyData.eqvAll (pds xs) (pds ys) = D.eqvs xs ys
  | _, _, [], [], _, _ => by simp [pds, PyData.eqvAll, D.eqvs]
  | _, _, [], _ :: _, _, _ => by simp [pds, PyData.eqvAll, D.eqvs]
  | _, _, _ :: _, [], _, _ => by simp [pds, PyData.eqvAll, D.eqvs]
  | _, _, x :: xs, y :: ys, hx, hy => by
    rw [D.oks, Bool.and_eq_true] at hx hy
    rw [pds, pds, PyData.eqvAll, D.eqvs, pd_eqv hx.1 hy.1, pds_eqv hx.2 hy.2]
end

/-! ### from the invariant -/
section
variable {X : Cx} {pins : List (Addr × Obj)} {σ : St} {H : Hp} {s : Shared}
mutual
theorem nested (I : Inv X pins σ H s) (hK : X.K = G.K) : ∀ {d : D} {v : V} {u : Value}, D.key d = true → RV G H d v → RelV v u → NestedIs s.heap (nk d) u
  | .non, _, _, _, h, r => by rw [show _ = _ from h] at r; rw [show _ = _ from r]; exact .none
  | .int i, _, _, _, h, r => by rw [show _ = _ from h] at r; obtain ⟨t, rfl⟩ := r; exact .int i t
  | .str x, _, _, _, h, r => by rw [show _ = _ from h] at r; obtain ⟨t, rfl⟩ := r; exact .text x t
  | .tup ds, _, _, hk, h, r => by
    obtain ⟨p, vs, rfl, hq, hr⟩ := h
    rw [show _ = _ from r]
    rw [← hK] at hq
    obtain ⟨its, rv, ⟨o, ho, hc, n, hd⟩, _⟩ := I.tuple hq
    rw [nk]
    exact .tup ho hc hd (nesteds I hK (by rw [D.key] at hk; exact hk) hr (by simpa using rv))
  | .bl _, _, _, hk, _, _ | .ref _, _, _, hk, _, _ | .glo _, _, _, hk, _, _ | .ty _, _, _, hk, _, _ | .clo _ _, _, _, hk, _, _ => by simp [D.key] at hk
theorem nesteds (I : Inv X pins σ H s) (hK : X.K = G.K) : ∀ {ds : List D} {vs : List V} {us : List Value}, D.keys ds = true → RVs G H ds vs → Vals vs us → NestedAll s.heap (nks ds) us
  | [], _, _, _, h, r => by rw [show _ = [] from h] at r; cases r; exact .nil
  | d :: ds, _, _, hk, h, r => by
    rw [D.keys, Bool.and_eq_true] at hk
    obtain ⟨v, vr, rfl, a, b⟩ := h
    cases r with
    | cons r1 r2 => exact .cons (nested I hK hk.1 a r1) (nesteds I hK hk.2 b r2)
end
mutual
theorem reads (I : Inv X pins σ H s) (hK : X.K = G.K) : ∀ {n : Nat} {d : D} {v : V} {u : Value}, D.ok n d = true → RV G H d v → RelV v u → Reads s.heap u (pd d) []
  | _, .non, _, _, _, h, r => by rw [show _ = _ from h] at r; rw [show _ = _ from r]; exact .none
  | _, .bl b, _, _, _, h, r => by rw [show _ = _ from h] at r; rw [show _ = _ from r]; exact .bool b
  | _, .int i, _, _, _, h, r => by rw [show _ = _ from h] at r; obtain ⟨t, rfl⟩ := r; exact .int i t
  | _, .str x, _, _, _, h, r => by rw [show _ = _ from h] at r; obtain ⟨t, rfl⟩ := r; exact .str x t
  | n + 1, .tup ds, _, _, hk, h, r => by
    obtain ⟨p, vs, rfl, hq, hr⟩ := h
    rw [show _ = _ from r]
    rw [← hK] at hq
    obtain ⟨its, rv, ⟨o, ho, hc, m, hd⟩, _⟩ := I.tuple hq
    rw [pd]
    exact .tuple ho hc hd (readss I hK (by rw [D.ok] at hk; exact hk) hr (by simpa using rv))
  | 0, .tup _, _, _, hk, _, _ => by simp [D.ok] at hk
  | _, .ref _, _, _, hk, _, _ | _, .glo _, _, _, hk, _, _ | _, .ty _, _, _, hk, _, _ | _, .clo _ _, _, _, hk, _, _ => by simp [D.ok] at hk
theorem readss (I : Inv X pins σ H s) (hK : X.K = G.K) : ∀ {n : Nat} {ds : List D} {vs : List V} {us : List Value}, D.oks n ds = true → RVs G H ds vs → Vals vs us → ReadsAll s.heap us (pds ds) []
  | _, [], _, _, _, h, r => by rw [show _ = [] from h] at r; cases r; exact .nil
  | n, d :: ds, _, _, hk, h, r => by
    rw [D.oks, Bool.and_eq_true] at hk
    obtain ⟨v, vr, rfl, a, b⟩ := h
    cases r with
    | cons r1 r2 => exact .cons (as := []) (bs := []) (reads I hK hk.1 a r1) (readss I hK hk.2 b r2)
end
/-- a list or a tuple as it lies: what HandS reads -/
theorem reads_list (I : Inv X pins σ H s) (hK : X.K = G.K) {n : Nat} {ds : List D} {vs : List V} {a : Addr} (ho : D.oks n ds = true) (hq : SqL G.K H a vs) (hr : RVs G H ds vs) : Reads s.heap (.ref a) (.list (pds ds)) [a] := by
  rw [← hK] at hq
  obtain ⟨its, rv, ⟨o, m, h1, h2, h3, h4⟩, _⟩ := I.list hq
  exact .list (as := []) h1 h2 h4 (by simpa using readss I hK ho hr rv)
theorem reads_tuple (I : Inv X pins σ H s) (hK : X.K = G.K) {n : Nat} {ds : List D} {vs : List V} {a : Addr} (ho : D.oks n ds = true) (hq : SqT G.K H a vs) (hr : RVs G H ds vs) : Reads s.heap (.ref a) (.tuple (pds ds)) [] := by
  rw [← hK] at hq
  obtain ⟨its, rv, ⟨o, ho', hc, m, hd⟩, _⟩ := I.tuple hq
  exact .tuple ho' hc hd (by simpa using readss I hK ho hr rv)
/-- a dict of the memory -/
theorem dict_at (I : Inv X pins σ H s) (hK : X.K = G.K) {a : Addr} {kvs : List (D × D)} {xs : XS} {es : Array DictEntry} {ep : Nat} (hr : s.heap.DictRaw a es ep) (he : es.toList = xs.map (ent G.w)) (rx : RX G H kvs xs) (hk : ∀ p ∈ kvs, D.okey p.1 = true) (nd : (kvs.map (·.1)).Nodup) :
    DictM G.w s.heap a xs := by
  refine ⟨⟨es, ep, hr, he⟩, ?_, rx.nd hk nd⟩
  clear he hr nd
  induction kvs generalizing xs with
  | nil => rw [show xs = [] from rx]; simp
  | cons p ps ih =>
    obtain ⟨kv, vv, ku, vu, r, rfl, a1, a2, a3, a4, b⟩ := rx
    intro x hx
    rcases List.mem_cons.mp hx with e | hx
    · rw [e]
      have := hk p List.mem_cons_self
      exact ⟨nested I hK (okey_key this) a2 a1, okey_depth this⟩
    · exact ih b (fun q hq => hk q (List.mem_cons_of_mem _ hq)) x hx
end
end
end MP
end
section
/-! MP2: what the operations do, over the layer. -/
namespace MP
open PySem PySem.Spec L2

def binOf : Bin → Operator
  | .add => .Add | .sub => .Sub | .mul => .Mult | .fdiv => .FloorDiv | .mod => .Mod | .pow => .Pow
def cmpOf : Cmp → CmpOp
  | .eq => .Eq | .ne => .NotEq | .lt => .Lt | .le => .LtE | .gt => .Gt | .ge => .GtE | .is => .Is | .isnot => .IsNot
/-! ### changes of the memory -/
section
variable {G : Gx} {M : Mem} {H : Hp}
theorem upd_self_ne {H : Hp} {p b : Addr} {o u : HO} (hp : H p = none) (e : H b = some o) : upd H p u b = some o := by rw [upd_ne (ne_of_none e hp)]; exact e
theorem Kpt.new {p : Addr} {o : HO} (hp : H p = none) : Kpt H (upd H p o) := ⟨fun b xs e => upd_self_ne hp e, fun b o' xs e => upd_self_ne hp e, fun b o' e => upd_self_ne hp e, fun b q e => upd_self_ne hp e⟩
theorem tabs_new {T : List (Addr × Str)} {p : Addr} {o : HO} (t : LamX.Tabs T H) (hp : H p = none) : LamX.Tabs T (upd H p o) := Tabs.at t (fun b ps e => upd_self_ne hp e) fun c q e => upd_self_ne hp e
theorem Stp.new {p : Addr} {o : HO} (r : RM G H M) (hp : H p = none) : Stp M H M (upd H p o) :=
  ⟨fun b u e n _ => ⟨upd_self_ne hp e, n⟩, fun b e => by
    by_cases c : b = p
    · rw [c]; exact hp
    · rwa [upd_ne c] at e, fun b m e => by
    obtain ⟨u, e', _⟩ := r b _ e
    exact ⟨by rw [upd_ne (ne_of_none e' hp)], e⟩⟩
theorem RM.new (g : GOk G) (r : RM G H M) {p : Addr} {o : HO} (hp : H p = none) : RM G (upd H p o) M := ⟨fun a m e => by
  obtain ⟨u, e', hu⟩ := r a m e
  exact ⟨u, upd_self_ne hp e', hu.mono g (.new hp)⟩, tabs_new r.tab hp⟩
theorem RM.free (r : RM G H M) {p : Addr} (hp : H p = none) : M p = none := by
  cases q : M p with
  | none => rfl
  | some m =>
    obtain ⟨u, e', _⟩ := r p m q
    rw [hp] at e'
    cases e'
theorem Stp.add {p : Addr} {o : HO} {m : MO} (r : RM G H M) (hp : H p = none) : Stp M H (M.set p m) (upd H p o) :=
  ⟨fun b u e n _ => ⟨upd_self_ne hp e, by rw [Mem.set_ne _ _ (ne_of_none e hp)]; exact n⟩, (Stp.new r hp).grow, fun b m e => by
    obtain ⟨u, e', _⟩ := r b _ e
    exact ⟨by rw [upd_ne (ne_of_none e' hp)], by rw [Mem.set_ne _ _ (ne_of_none e' hp)]; exact e⟩⟩
theorem RM.add (g : GOk G) (r : RM G H M) {p : Addr} {o : HO} {m : MO} (hp : H p = none) (hm : RU G (upd H p o) p m o) : RM G (upd H p o) (M.set p m) := ⟨fun a m' e => by
  by_cases c : a = p
  · subst c
    rw [Mem.set_same] at e
    cases e
    exact ⟨o, upd_same, hm⟩
  · rw [Mem.set_ne _ _ c] at e
    exact r.new g hp a m' e, tabs_new r.tab hp⟩
theorem tabs_chg {T : List (Addr × Str)} (t : LamX.Tabs T H) (r : RM G H M) {p : Addr} {o : HO} {m : MO} (hp : M p = some m) : LamX.Tabs T (upd H p o) := by
  obtain ⟨u, e, hu⟩ := r p m hp
  obtain ⟨_, _, _, a4, a5⟩ := hu.mut
  refine Tabs.at t (fun b ps z => ?_) fun c q z => ?_
  all_goals
    rw [upd_ne]
    · exact z
    · rintro rfl
      rw [e] at z
      cases z
      first
        | exact a4 _ rfl
        | exact a5 _ rfl
theorem Kpt.chg (r : RM G H M) {p : Addr} {o : HO} {m : MO} (hp : M p = some m) : Kpt H (upd H p o) := by
  obtain ⟨u, e, hu⟩ := r p m hp
  obtain ⟨a1, a2, a3, _, a5⟩ := hu.mut
  refine ⟨fun b xs z => ?_, fun b o' xs z => ?_, fun b o' z => ?_, fun b q z => ?_⟩
  all_goals
    rw [upd_ne]
    · exact z
    · rintro rfl
      rw [e] at z
      cases z
      first
        | exact a1 _ rfl
        | exact a2 _ _ rfl
        | exact a3 _ _ rfl
        | exact a5 _ rfl
theorem Stp.chg (r : RM G H M) {p : Addr} {o : HO} {m m' : MO} (hp : M p = some m) (hf : ∀ m0, m ≠ .frz m0 := by nofun) : Stp M H (M.set p m') (upd H p o) := by
  have hne : ∀ b, M b = none → b ≠ p := fun b n z => by rw [z, hp] at n; cases n
  obtain ⟨u, eu, _⟩ := r p m hp
  exact ⟨fun b u e n _ => ⟨by rw [upd_ne (hne b n)]; exact e, by rw [Mem.set_ne _ _ (hne b n)]; exact n⟩, fun b e => by
    by_cases c : b = p
    · rw [c, upd_same] at e; cases e
    · rwa [upd_ne c] at e, fun b m e => by
    have c : b ≠ p := fun z => by rw [z, hp] at e; cases e; exact hf _ rfl
    exact ⟨upd_ne c, by rw [Mem.set_ne _ _ c]; exact e⟩⟩
theorem RM.chg (g : GOk G) (r : RM G H M) {p : Addr} {o : HO} {m m' : MO} (hp : M p = some m) (hm : RU G (upd H p o) p m' o) : RM G (upd H p o) (M.set p m') := ⟨fun a k e => by
  by_cases c : a = p
  · subst c
    rw [Mem.set_same] at e
    cases e
    exact ⟨o, upd_same, hm⟩
  · rw [Mem.set_ne _ _ c] at e
    obtain ⟨u, e', hu⟩ := r a k e
    exact ⟨u, by rw [upd_ne c]; exact e', hu.mono g (.chg r hp)⟩, tabs_chg r.tab r hp⟩
theorem RM.del (r : RM G H M) (p : Addr) : RM G H (M.del p) := ⟨fun a m e => by
  by_cases c : a = p
  · rw [c, Mem.del_same] at e; cases e
  · rw [Mem.del_ne _ c] at e; exact r a m e, r.tab⟩
theorem Stp.del (p : Addr) (hf : ∀ m0, M p ≠ some (.frz m0)) : Stp M H (M.del p) H := ⟨fun b u e n _ => ⟨e, by
  by_cases c : b = p
  · rw [c]; exact Mem.del_same _ _
  · rw [Mem.del_ne _ c]; exact n⟩, fun _ e => e, fun b m e => ⟨rfl, by
  have c : b ≠ p := fun z => hf m (by rw [← z]; exact e)
  rw [Mem.del_ne _ c]; exact e⟩⟩
/-- what is read at a place -/
theorem RM.rd (r : RM G H M) {a : Addr} {m : MO} (e : M.rd a = some m) (hf : ∀ m', m ≠ .frz m') : ∃ u, Rd H a u ∧ RU G H a m u := by
  unfold Mem.rd at e
  cases q : M a with
  | none => rw [q] at e; cases e
  | some k =>
    rw [q] at e
    obtain ⟨u, e', hu⟩ := r a k q
    cases k with
    | frz o =>
      cases e
      obtain ⟨ob, u', rfl, hu'⟩ := hu
      exact ⟨u', .inr ⟨ob, e'⟩, hu'⟩
    | _ => cases e; exact ⟨u, .inl e', hu⟩
theorem RM.rdL (r : RM G H M) {a : Addr} {ds : List D} (e : M.rd a = some (.lst ds)) : ∃ vs, Rd H a (.lst vs) ∧ RVs G H ds vs := by
  obtain ⟨u, h, vs, rfl, hv⟩ := r.rd e (fun _ => nofun)
  exact ⟨vs, h, hv⟩
end

/-! ### what a context must have -/
/-- what a class of the text must have -/
structure ClsOk (K : PySem.W.Frag) (C : Addr) : Prop where
  cl : Cls K C
  ca : PySem.W.findIn K (.ref C) "__class__" = some (some (.builtin "object.__class__"))
  cg : PySem.W.specialIn K (.builtin "object.__class__") "__get__" = some (some (.builtin "getset_descriptor.__get__"))
  ct : PySem.W.takesIn K (.builtin "object.__class__") = some true
  cm : PySem.W.mroIn K C (.type "object") = some true
def tyNames : List String := ["int", "bool", "str", "tuple", "list", "dict"]
/-- an error's class without an own __init__ -/
structure ExOk (K : PySem.W.Frag) (C : Addr) : Prop where
  ex : PySem.W.excIn K C [.type "ValueError", .type "Exception", .type "BaseException", .type "object"] "ValueError.__new__" = true
  kp : PySem.W.keepIn K (.ref C) = true
  sb : PySem.W.subIn K (.ref C) (.type "BaseException") = some true
  ty : PySem.W.typeIn K (.ref C) = some (.type "type")
structure GF (G : Gx) : Prop where
  clo : GOk G
  cl : ∀ c C, G.cls c = some C → ClsOk G.K C
  isA : ∀ c C t, G.cls c = some C → t ∈ tyNames → PySem.W.kitOne G.K (.ref C) (.type t) = some false
  isB : ∀ c C t, G.cls c = some C → t ∈ "NoneType" :: tyNames → PySem.W.kitOne G.K (.type t) (.ref C) = some false
  isC : ∀ c C c' C', G.cls c = some C → G.cls c' = some C' → PySem.W.kitOne G.K (.ref C) (.ref C') = some (decide (c = c'))
  own : ∀ c C t, G.cls c = some C → t ∈ "NoneType" :: tyNames → c ≠ t
  na : ∀ c C f, G.cls c = some C → f ∈ G.flds → NoAttr G.K C (Str.ofString f)
  xo : ∀ c C, G.exc c = some C → ExOk G.K C
  xm : ∀ c C c' C', G.exc c = some C → G.exc c' = some C' → PySem.W.exmOne G.K (.ref C) (.ref C') = some (decide (c' ∈ G.anc c))
structure XG (X : Cx) (G : Gx) (k : Nat) : Prop where
  w : X.w = G.w
  K : X.K = G.K
  calm : X.calm = true
  nd : X.N.Nodup
  room : Room k X.A
  gf : GF G
theorem XG.ok {X : Cx} {G : Gx} {k : Nat} (g : XG X G k) : GOk G := g.gf.clo
theorem XG.units {X : Cx} {G : Gx} {k : Nat} (g : XG X G k) : X.A.units + 200 < cLine := by have := g.room.un; omega
/-- the end of an expression -/
def QV (G : Gx) (M : Mem) (H : Hp) (Q : VQ) : VK := fun v H' => ∃ d M', RV G H' d v ∧ RM G H' M' ∧ Stp M H M' H' ∧ Q d M'
abbrev EQ (X : Cx) (G : Gx) (pins : List (Addr × Obj)) (σ : St) (M : Mem) (H : Hp) (Q : VQ) : Value → Shared → Prop := EP X pins σ (QV G M H Q)
/-- the end of a test -/
def QB (G : Gx) (M : Mem) (H : Hp) (Q : Bool → Mem → Prop) : Bool → Hp → Prop := fun b H' => ∃ M', RM G H' M' ∧ Stp M H M' H' ∧ Q b M'
theorem QV.same {G : Gx} {M : Mem} {H : Hp} {Q : VQ} {d : D} {v : V} (r : RV G H d v) (rm : RM G H M) (q : Q d M) : QV G M H Q v H := ⟨d, M, r, rm, .refl _ _, q⟩
theorem QV.int {G : Gx} {M : Mem} {H : Hp} {Q : VQ} {i : Int} (rm : RM G H M) (q : Q (.int i) M) : QV G M H Q (.int i) H := .same (d := .int i) rfl rm q
theorem QV.bl {G : Gx} {M : Mem} {H : Hp} {Q : VQ} {b : Bool} (rm : RM G H M) (q : Q (.bl b) M) : QV G M H Q (.bl b) H := .same (d := .bl b) rfl rm q
theorem QV.non {G : Gx} {M : Mem} {H : Hp} {Q : VQ} (rm : RM G H M) (q : Q .non M) : QV G M H Q .non H := .same (d := .non) rfl rm q
theorem QV.str {G : Gx} {M : Mem} {H : Hp} {Q : VQ} {x : Str} (rm : RM G H M) (q : Q (.str x) M) : QV G M H Q (.str x) H := .same (d := .str x) rfl rm q
theorem QV.new {G : Gx} {M : Mem} {H : Hp} {Q : VQ} {d : D} {v : V} {p : Addr} {o : HO} (g : GOk G) (hp : H p = none) (r : RV G (upd H p o) d v) (rm : RM G H M) (q : Q d M) : QV G M H Q v (upd H p o) := ⟨d, M, r, rm.new g hp, .new rm hp, q⟩
theorem QV.step {G : Gx} {M M1 : Mem} {H H1 H2 : Hp} {Q : VQ} {v : V} (s : Stp M H M1 H1) (h : QV G M1 H1 Q v H2) : QV G M H Q v H2 :=
  let ⟨d, M', a, b, c, q⟩ := h; ⟨d, M', a, b, s.trans c, q⟩
theorem EQ.step {X : Cx} {G : Gx} {pins : List (Addr × Obj)} {σ : St} {M M1 : Mem} {H H1 : Hp} {Q : VQ} {u : Value} {s : Shared} (st : Stp M H M1 H1) (h : EQ X G pins σ M1 H1 Q u s) : EQ X G pins σ M H Q u s :=
  let ⟨v, H', I, r, q⟩ := h; ⟨v, H', I, r, q.step st⟩

section
variable {X : Cx} {G : Gx} {k : Nat} {pins : List (Addr × Obj)} {σ : St} {H : Hp} {s : Shared} {M : Mem} {Q : VQ} {x y : D} {xv yv : V} {v u : Value}
theorem small_ok {i : Int} (h : small i) : -(2 ^ 64) < i ∧ i < 2 ^ 64 := by
  obtain ⟨a, b⟩ := h
  exact ⟨by omega, by omega⟩
theorem atI_eq {α : Type} (xs : List α) (i : Int) : MP.atI xs i = L2.atI xs i := by
  unfold MP.atI L2.atI MP.ixN L2.ixN
  split <;> rename_i e <;> rw [e] <;> rfl
theorem rvs_rep {H : Hp} {ds : List D} {vs : List V} (h : RVs G H ds vs) : ∀ n : Nat, RVs G H (List.replicate n ds).flatten (List.replicate n vs).flatten
  | 0 => rfl
  | n + 1 => by
    rw [List.replicate_succ, List.replicate_succ, List.flatten_cons, List.flatten_cons]
    exact h.append (rvs_rep h n)
theorem bin_ok (g : XG X G k) (op : Bin) (I : Inv X pins σ H s) (rm : RM G H M) (rx : RV G H x xv) (rx' : RelV xv v) (ry : RV G H y yv) (ry' : RelV yv u) (h : wBin op x y M Q) :
    wpAny (model X.prog X.w) X.A (binaryOp (binOf op) v u) (EQ X G pins σ M H Q) X.xe s := by
  unfold wBin at h
  split at h
  · rw [show xv = _ from rx] at rx'
    rw [show yv = _ from ry] at ry'
    exact op_add pins s σ H _ _ v u _ I rx' ry' ⟨_, _, rfl, rfl, .int rm h⟩
  · rw [show xv = _ from rx] at rx'
    rw [show yv = _ from ry] at ry'
    refine op_add_str pins s σ H _ _ v u _ I rx' ry' ⟨_, _, rfl, rfl, by rw [← line_eq]; exact h.1, .same (d := .str _) (show _ = _ from ?_) rm h.2⟩
    rfl
  · rename_i a b
    obtain ⟨p, vs, rfl, sq, hv⟩ := rx
    obtain ⟨p', vs', rfl, sq', hv'⟩ := ry
    rw [← g.K] at sq sq'
    have hl := (hv.append hv').length
    rw [List.length_append] at hl
    obtain ⟨hz, hq⟩ := h
    rw [List.length_append] at hz
    have hall := hv.append hv'
    rw [List.length_append] at hl
    refine op_catA pins s σ H _ _ v u _ I rx' ry' ⟨p, p', vs, vs', rfl, rfl, sq, sq', by rw [← line_eq]; omega, fun e => ?_, fun e1 e2 => ?_, fun e1 e2 q hp => ?_⟩
    · refine .same (d := .tup (a ++ b)) ⟨p', vs', rfl, by rw [← g.K]; exact sq', ?_⟩ rm hq
      rw [e] at hall
      exact hall
    · refine .same (d := .tup (a ++ b)) ⟨p, vs, rfl, by rw [← g.K]; exact sq, ?_⟩ rm hq
      rw [e2, List.append_nil] at hall
      exact hall
    · exact .new (d := .tup (a ++ b)) g.ok hp ⟨q, _, rfl, .of upd_same, hall.mono g.ok (.new hp)⟩ rm hq
  · rw [show xv = _ from rx] at rx'
    rw [show yv = _ from ry] at ry'
    rename_i p q
    split at h
    · rename_i _ _ xs ys e1 e2
      obtain ⟨hz, hq⟩ := h
      obtain ⟨_, f1, vs, rfl, hv⟩ := rm p _ e1
      obtain ⟨_, f2, us, rfl, hu⟩ := rm q _ e2
      have hl := (hv.append hu).length
      rw [List.length_append (as := vs)] at hl
      refine op_cat pins s σ H _ _ v u _ I rx' ry' ⟨p, q, vs, us, rfl, rfl, f1, f2, by rw [← line_eq]; omega, fun r hr => ?_⟩
      exact ⟨.ref r, M.set r (.lst (xs ++ ys)), rfl, rm.add g.ok hr ⟨_, rfl, (hv.append hu).mono g.ok (.new hr)⟩, .add rm hr, hq r (rm.free hr)⟩
    · exact h.elim
  · rw [show xv = _ from rx] at rx'
    rw [show yv = _ from ry] at ry'
    exact op_sub pins s σ H _ _ v u _ I rx' ry' ⟨_, _, rfl, rfl, .int rm h⟩
  · rw [show xv = _ from rx] at rx'
    rw [show yv = _ from ry] at ry'
    exact op_mul pins s σ H _ _ v u _ I rx' ry' ⟨_, _, rfl, rfl, h.1.imp small_ok small_ok, .int rm h.2⟩
  · rw [show xv = _ from rx] at rx'
    rw [show yv = _ from ry] at ry'
    rename_i p k0
    split at h
    · rename_i xs e1
      obtain ⟨⟨k1, k2, hz⟩, hq⟩ := h
      obtain ⟨_, f1, vs, rfl, hv⟩ := rm p _ e1
      have hl := hv.length
      refine op_rep pins s σ H _ _ v u _ I rx' ry' ⟨p, k0, vs, rfl, rfl, f1, by omega, by omega, by rw [← line_eq, ← hl]; exact hz, fun r hr => ?_⟩
      exact ⟨.ref r, M.set r (.lst (List.replicate k0.toNat xs).flatten), rfl, rm.add g.ok hr ⟨_, rfl, (rvs_rep hv _).mono g.ok (.new hr)⟩, .add rm hr, hq r (rm.free hr)⟩
    · exact h.elim
  · rw [show yv = _ from ry] at ry'
    rename_i a k0
    obtain ⟨p, vs, rfl, sq, hv⟩ := rx
    rw [← g.K] at sq
    obtain ⟨⟨a1, k1, k2, k3⟩, hq⟩ := h
    have hl := hv.length
    refine op_repT pins s σ H _ _ v u _ I rx' ry' ⟨p, k0, vs, rfl, rfl, sq, fun z => a1 ?_, k1, k2, by omega, fun r hr => ?_⟩
    · rw [z] at hl
      exact List.length_eq_zero_iff.mp hl
    · exact .new (d := .tup _) g.ok hr ⟨r, _, rfl, .of upd_same, (rvs_rep hv _).mono g.ok (.new hr)⟩ rm hq
  · rw [show xv = _ from rx] at rx'
    rw [show yv = _ from ry] at ry'
    exact op_fdiv pins s σ H _ _ v u _ I rx' ry' ⟨_, _, rfl, rfl, h.1, .int rm h.2⟩
  · rw [show xv = _ from rx] at rx'
    rw [show yv = _ from ry] at ry'
    exact op_mod pins s σ H _ _ v u _ I rx' ry' ⟨_, _, rfl, rfl, h.1, .int rm h.2⟩
  · rw [show xv = _ from rx] at rx'
    rw [show yv = _ from ry] at ry'
    obtain ⟨⟨h1, h2, h3⟩, hq⟩ := h
    refine op_pow pins s σ H _ _ v u _ I rx' ry' ⟨_, _, rfl, rfl, ⟨h1, h2, ?_⟩, .int rm hq⟩
    have := small_ok h3
    omega
  · exact h.elim

theorem neg_ok (I : Inv X pins σ H s) (rm : RM G H M) (rx : RV G H x xv) (rx' : RelV xv v) (h : wNeg x M Q) : wpAny (model X.prog X.w) X.A (unaryOp .USub v) (EQ X G pins σ M H Q) X.xe s := by
  unfold wNeg at h
  split at h
  · rw [show xv = _ from rx] at rx'
    exact un_neg pins s σ H _ v _ I rx' ⟨_, rfl, .int rm h⟩
  · exact h.elim

/-! ### comparisons -/
/-- what eqD compares, as the library reads it -/
theorem data_reads (g : XG X G k) (I : Inv X pins σ H s) (rm : RM G H M) (rx : RV G H x xv) (rx' : RelV xv v) {t : Bool} {ds : List D} (h : dataOf M x = some (t, ds)) :
    ∃ p as, Reads s.heap v p as ∧ p.plain = true ∧ p.depth ≤ 61 ∧ D.oks 60 ds = true ∧ (t = true → p = .list (pds ds)) ∧ (t = false → ∃ d, ds = [d] ∧ p = pd d) := by
  have base : D.ok 60 x = true → t = false → ds = [x] → ∃ p as, Reads s.heap v p as ∧ p.plain = true ∧ p.depth ≤ 61 ∧ D.oks 60 ds = true ∧ (t = true → p = .list (pds ds)) ∧ (t = false → ∃ d, ds = [d] ∧ p = pd d) := fun ho ht hd => by
    subst ht hd
    refine ⟨pd x, [], reads I g.K ho rx rx', pd_plain x, by have := pd_depth ho; omega, by simp [D.oks, ho], nofun, fun _ => ⟨x, rfl, rfl⟩⟩
  unfold dataOf at h
  split at h
  · rename_i a
    split at h
    · rename_i es e
      split at h
      · rename_i ho
        cases h
        obtain ⟨vs, hr, hv⟩ := rm.rdL e
        rw [show xv = _ from rx] at rx'
        rw [show v = _ from rx']
        refine ⟨_, _, reads_list I g.K ho (.inl hr) hv, by rw [PyData.plain]; exact pds_plain _, ?_, ho, fun _ => rfl, nofun⟩
        rw [PyData.depth]
        have := pds_depth ho
        omega
      · cases h
    · cases h
  · split at h
    · rename_i ho
      injection h with h
      injection h with h1 h2
      exact base ho h1.symm h2.symm
    · cases h
theorem eqD_ok (g : XG X G k) (I : Inv X pins σ H s) (rm : RM G H M) (rx : RV G H x xv) (rx' : RelV xv v) (ry : RV G H y yv) (ry' : RelV yv u) {b : Bool} (h : eqD M x y = some b) :
    ∃ p q as bs, Reads s.heap v p as ∧ Reads s.heap u q bs ∧ p.plain = true ∧ q.plain = true ∧ X.A.units + min p.depth q.depth < cLine ∧ PyData.eqv p q = b := by
  unfold eqD at h
  split at h
  · rename_i t xs t' ys e1 e2
    cases h
    obtain ⟨p, as, r1, p1, d1, o1, l1, n1⟩ := data_reads g I rm rx rx' e1
    obtain ⟨q, bs, r2, p2, d2, o2, l2, n2⟩ := data_reads g I rm ry ry' e2
    have hu := g.units
    refine ⟨p, q, as, bs, r1, r2, p1, p2, by have := Nat.min_le_left p.depth q.depth; omega, ?_⟩
    cases t with
    | true =>
      cases t' with
      | true =>
        rw [l1 rfl, l2 rfl, PyData.eqv, pds_eqv o1 o2]
        simp
      | false =>
        obtain ⟨d, rfl, rfl⟩ := n2 rfl
        rw [l1 rfl]
        cases d <;> simp [pd, PyData.eqv]
    | false =>
      obtain ⟨c, rfl, rfl⟩ := n1 rfl
      cases t' with
      | true =>
        rw [l2 rfl]
        cases c <;> simp [pd, PyData.eqv]
      | false =>
        obtain ⟨d, rfl, rfl⟩ := n2 rfl
        rw [D.oks, Bool.and_eq_true] at o1 o2
        rw [pd_eqv o1.1 o2.1]
        simp [D.eqvs]
  · cases h
mutual
theorem pd_alike : ∀ {x y : D}, D.alike x y = true → PySem.W.alike (pd x) (pd y) = true
  | .int _, .int _, _ => by simp [pd, PySem.W.alike]
  | .str _, .str _, _ => by simp [pd, PySem.W.alike]
  | .tup xs, .tup ys, h => by rw [pd, pd, PySem.W.alike]; exact pds_alike (by rw [D.alike] at h; exact h)
  | .non, _, h | .bl _, _, h | .ref _, _, h | .glo _, _, h | .ty _, _, h | .clo _ _, _, h => by simp [D.alike] at h
  | .int _, .non, h | .int _, .bl _, h | .int _, .str _, h | .int _, .tup _, h | .int _, .ref _, h | .int _, .glo _, h | .int _, .ty _, h | .int _, .clo _ _, h => by simp [D.alike] at h
  | .str _, .non, h | .str _, .bl _, h | .str _, .int _, h | .str _, .tup _, h | .str _, .ref _, h | .str _, .glo _, h | .str _, .ty _, h | .str _, .clo _ _, h => by simp [D.alike] at h
  | .tup _, .non, h | .tup _, .bl _, h | .tup _, .int _, h | .tup _, .str _, h | .tup _, .ref _, h | .tup _, .glo _, h | .tup _, .ty _, h | .tup _, .clo _ _, h => by simp [D.alike] at h
theorem pds_alike : ∀ {xs ys : List D}, D.alikes xs ys = true → PySem.W.alikeAll (pds xs) (pds ys) = true
  | [], _, _ => by simp [pds, PySem.W.alikeAll]
  | _ :: _, [], _ => by simp [pds, PySem.W.alikeAll]
  | x :: xs, y :: ys, h => by
    rw [D.alikes, Bool.and_eq_true] at h
    rw [pds, pds, PySem.W.alikeAll, pd_alike h.1, pds_alike h.2]
    rfl
end
theorem pd_not_none {x y : D} (h : D.alike x y = true) : pd x ≠ .none := by
  cases x with
  | int _ => nofun
  | str _ => nofun
  | tup _ => nofun
  | _ => cases y <;> simp [D.alike] at h
mutual
theorem pd_lt : ∀ {n m : Nat} {x y : D}, D.ok n x = true → D.ok m y = true → D.alike x y = true → PySem.W.dataLt (pd x) (pd y) = D.lt x y
  | _, _, .int i, .int j, _, _, _ => by rw [pd, pd, PySem.W.dataLt_int, D.lt]
  | _, _, .str i, .str j, _, _, _ => by rw [pd, pd, PySem.W.dataLt_str, D.lt]
  | n + 1, m + 1, .tup xs, .tup ys, hx, hy, h => by
    rw [pd, pd, PySem.W.dataLt_tuple, D.lt]
    exact pds_lt (by rw [D.ok] at hx; exact hx) (by rw [D.ok] at hy; exact hy) (by rw [D.alike] at h; exact h)
  | 0, _, .tup _, _, hx, _, _ => by simp [D.ok] at hx
  | _, 0, .tup _, .tup _, _, hy, _ => by simp [D.ok] at hy
  | _, _, .non, _, _, _, h | _, _, .bl _, _, _, _, h | _, _, .ref _, _, _, _, h | _, _, .glo _, _, _, _, h | _, _, .ty _, _, _, _, h | _, _, .clo _ _, _, _, _, h => by simp [D.alike] at h
  | _, _, .int _, .non, _, _, h | _, _, .int _, .bl _, _, _, h | _, _, .int _, .str _, _, _, h | _, _, .int _, .tup _, _, _, h | _, _, .int _, .ref _, _, _, h | _, _, .int _, .glo _, _, _, h | _, _, .int _, .ty _, _, _, h | _, _, .int _, .clo _ _, _, _, h => by simp [D.alike] at h
  | _, _, .str _, .non, _, _, h | _, _, .str _, .bl _, _, _, h | _, _, .str _, .int _, _, _, h | _, _, .str _, .tup _, _, _, h | _, _, .str _, .ref _, _, _, h | _, _, .str _, .glo _, _, _, h | _, _, .str _, .ty _, _, _, h | _, _, .str _, .clo _ _, _, _, h => by simp [D.alike] at h
  | _, _, .tup _, .non, _, _, h | _, _, .tup _, .bl _, _, _, h | _, _, .tup _, .int _, _, _, h | _, _, .tup _, .str _, _, _, h | _, _, .tup _, .ref _, _, _, h | _, _, .tup _, .glo _, _, _, h | _, _, .tup _, .ty _, _, _, h | _, _, .tup _, .clo _ _, _, _, h => by simp [D.alike] at h
theorem pds_lt : ∀ {n m : Nat} {xs ys : List D}, D.oks n xs = true → D.oks m ys = true → D.alikes xs ys = true → PyProof.Rows.lexLt PyProof.Rows.itemOrd (PySem.W.keyToksAll (pds xs)) (PySem.W.keyToksAll (pds ys)) = D.lts xs ys
  | _, _, [], [], _, _, _ => PySem.W.firstLt_toks [] [] rfl ▸ rfl
  | _, _, [], y :: ys, _, _, _ => by
    have e := PySem.W.firstLt_toks [] (pd y :: pds ys) (by simp [PySem.W.alikeAll])
    rw [show pds [] = [] by simp [pds], show pds (y :: ys) = pd y :: pds ys by rw [pds], ← e]
    simp [SeqAt.firstLt, D.lts]
  | _, _, x :: xs, [], _, _, _ => by
    have e := PySem.W.firstLt_toks (pd x :: pds xs) [] (by simp [PySem.W.alikeAll])
    rw [show pds [] = [] by simp [pds], show pds (x :: xs) = pd x :: pds xs by rw [pds], ← e]
    simp [SeqAt.firstLt, D.lts]
  | _, _, x :: xs, y :: ys, hx, hy, h => by
    rw [D.oks, Bool.and_eq_true] at hx hy
    rw [D.alikes, Bool.and_eq_true] at h
    have e := pd_eqv hx.1 hy.1
    rw [show pds (x :: xs) = pd x :: pds xs by rw [pds], show pds (y :: ys) = pd y :: pds ys by rw [pds], D.lts]
    cases q : D.eqv x y with
    | true => rw [if_pos rfl, PySem.W.dataLt_all_yes (pd_alike h.1) (e.trans q), pds_lt hx.2 hy.2 h.2]
    | false => rw [if_neg Bool.false_ne_true, PySem.W.dataLt_all_no (pd_alike h.1) (e.trans q), pd_lt hx.1 hy.1 h.1]
end
theorem none_iff {b : Bool} (rx : RV G H x xv) (e : isNone x = some b) : decide (xv = V.non) = b := by
  cases x with
  | glo _ => cases e
  | clo _ _ => cases e
  | tup _ => obtain ⟨p, vs, rfl, _⟩ := rx; cases e; rfl
  | _ => rw [show xv = _ from rx]; cases e; rfl
theorem cmp_ok (g : XG X G k) (op : Cmp) (I : Inv X pins σ H s) (rm : RM G H M) (rx : RV G H x xv) (rx' : RelV xv v) (ry : RV G H y yv) (ry' : RelV yv u) (h : wCmp0 op x y M Q) :
    wpAny (model X.prog X.w) X.A (compareOp (cmpOf op) v u) (EQ X G pins σ M H Q) X.xe s := by
  unfold wCmp0 at h
  cases op with
  | eq =>
    dsimp only [cmpOf] at h ⊢
    split at h
    · rename_i b e
      obtain ⟨p, q, as, bs, r1, r2, p1, p2, hu, he⟩ := eqD_ok g I rm rx rx' ry ry' e
      subst he
      exact SeqAt.eq_plain r1 r2 p1 p2 hu (fin_bl I (.bl rm h) rfl)
    · exact h.elim
  | ne =>
    dsimp only [cmpOf] at h ⊢
    split at h
    · rename_i b e
      obtain ⟨p, q, as, bs, r1, r2, p1, p2, hu, he⟩ := eqD_ok g I rm rx rx' ry ry' e
      subst he
      exact SeqAt.ne_plain r1 r2 p1 p2 hu (fin_bl I (.bl rm h) rfl)
    · exact h.elim
  | lt =>
    dsimp only [cmpOf] at h ⊢
    obtain ⟨h1, h2⟩ := h
    rw [Bool.and_eq_true, Bool.and_eq_true] at h1
    obtain ⟨a1, a2, a3⟩ := h1
    have hu := g.units
    have hd := pd_depth a2
    have r1 := reads I g.K a2 rx rx'
    have r2 := reads I g.K a3 ry ry'
    refine PySem.W.rcLt_alike (pd x) (pd y) X.A s v u [] [] r1 r2 (pd_alike a1) (pd_not_none a1) (by have := Nat.min_le_left (pd x).depth (pd y).depth; omega) _ _ _ _ ?_
    rw [pd_lt a2 a3 a1]
    exact fin_bl I (.bl rm h2) rfl
  | gt =>
    dsimp only [cmpOf] at h ⊢
    split at h
    · rw [show xv = _ from rx] at rx'
      rw [show yv = _ from ry] at ry'
      exact op_gt pins s σ H _ _ v u _ I rx' ry' ⟨_, _, rfl, rfl, .bl rm h⟩
    · exact h.elim
  | le =>
    dsimp only [cmpOf] at h ⊢
    split at h
    · rw [show xv = _ from rx] at rx'
      rw [show yv = _ from ry] at ry'
      exact op_le pins s σ H _ _ v u _ I rx' ry' ⟨_, _, rfl, rfl, .bl rm h⟩
    · exact h.elim
  | ge =>
    dsimp only [cmpOf] at h ⊢
    split at h
    · rw [show xv = _ from rx] at rx'
      rw [show yv = _ from ry] at ry'
      exact op_ge pins s σ H _ _ v u _ I rx' ry' ⟨_, _, rfl, rfl, .bl rm h⟩
    · exact h.elim
  | is =>
    dsimp only [cmpOf] at h ⊢
    split at h
    · rename_i b e
      unfold isD at e
      split at e
      · rw [show yv = _ from ry] at ry'
        exact op_isN pins s σ H _ _ v u _ I rx' ry' ⟨rfl, by rw [none_iff rx e]; exact .bl rm h⟩
      · cases e
        rw [show xv = _ from rx] at rx'
        rw [show yv = _ from ry] at ry'
        exact op_is_bl pins s σ H _ _ v u _ I rx' ry' ⟨_, _, rfl, rfl, .bl rm h⟩
      · cases e
    · exact h.elim
  | isnot =>
    dsimp only [cmpOf] at h ⊢
    split at h
    · rename_i b e
      unfold isD at e
      split at e
      · rw [show yv = _ from ry] at ry'
        exact op_notN pins s σ H _ _ v u _ I rx' ry' ⟨rfl, by rw [none_iff rx e]; exact .bl rm h⟩
      · cases e
        rw [show xv = _ from rx] at rx'
        rw [show yv = _ from ry] at ry'
        exact op_isnot_bl pins s σ H _ _ v u _ I rx' ry' ⟨_, _, rfl, rfl, .bl rm h⟩
      · cases e
    · exact h.elim
end
end MP
end
section
/-! MP34: two dicts compared. -/
namespace MP
open PySem PySem.Spec PyProof.Rows PyProof.V PySem.W
section
variable {prog : Program} {w : World} {A : Around} {E : Value → Shared → Prop} {s : Shared}
inductive HitsM (A : Around) (s : Shared) (xb : XS) : XS → Bool → Prop
  | nil : HitsM A s xb [] true
  | miss {x : NestedKey × Value × Value} {r : XS} : lookX xb x.1 = none → HitsM A s xb (x :: r) false
  | hit {x : NestedKey × Value × Value} {y : Value} {r : XS} {e b : Bool} : lookX xb x.1 = some y → SeqAt.EqAt A s x.2.2 y e → HitsM A s xb r b → HitsM A s xb (x :: r) (e && b)
theorem HitsM.inv {xb r : XS} {x : NestedKey × Value × Value} {b : Bool} (h : HitsM A s xb (x :: r) b) :
    (lookX xb x.1 = none ∧ b = false) ∨ ∃ y e b', lookX xb x.1 = some y ∧ SeqAt.EqAt A s x.2.2 y e ∧ HitsM A s xb r b' ∧ b = (e && b') := by
  cases h with
  | miss hn => exact .inl ⟨hn, rfl⟩
  | hit hy he hr => exact .inr ⟨_, _, _, hy, he, hr, rfl⟩
theorem samePairs_m {nm : String} {a b : Addr} {xa xb : XS} {r : Bool} {Q : Bool → Shared → Prop} (hu : A.units + 8 < cLine) (ha : (a == sysModules) = false) (hb : (b == sysModules) = false)
    (ma : DictM w s.heap a xa) (mb : DictM w s.heap b xb) (hits : xa.length = xb.length → HitsM A s xb xa r) (h : Q (xa.length == xb.length && r) s) :
    wpAny (model prog w) A (Builtin.Dict.samePairs nm a b) Q E s := by
  obtain ⟨⟨es, ep, ⟨oa, hoa, _, hda⟩, hea⟩, ksa, nda⟩ := ma
  obtain ⟨⟨es', ep', ⟨ob, hob, _, hdb⟩, heb⟩, ksb, ndb⟩ := mb
  have hla : xa.length = es.size := (ent_size hea).symm
  have hlb : xb.length = es'.size := (ent_size heb).symm
  rw [hla, hlb] at h
  unfold Builtin.Dict.samePairs Builtin.Dict.showsAll
  rw [if_neg (show ¬ (a == sysModules) = true by rw [ha]; exact Bool.false_ne_true), if_neg (show ¬ (b == sysModules) = true by rw [hb]; exact Bool.false_ne_true)]
  refine wpAny_bind (wpAny_pure (wpAny_bind (wpAny_pure ?_)))
  refine wpAny_bind (wpAny_dictEntries hoa hda ?_)
  dsimp only
  refine wpAny_bind (wpAny_dictEntries hob hdb ?_)
  by_cases hsz : es.size = es'.size
  case neg =>
    rw [if_pos (by simpa using hsz)]
    have hbf : (es.size == es'.size) = false := by simpa using hsz
    rw [hbf, Bool.false_and] at h
    exact wpAny_bind (wpAny_rule (wpAny_pure h))
  case pos =>
    have h' : Q r s := by simpa [hsz] using h
    have hits' := hits (by rw [hla, hlb]; exact hsz)
    rw [if_neg (by rw [hsz]; simp)]
    refine wpAny_bind (wpAny_dictEpoch hoa hda ?_)
    refine wpAny_bind ?_
    rw [Std.Legacy.Range.forIn_eq_forIn_range']
    simp only [Std.Legacy.Range.size, Nat.sub_zero, Nat.add_sub_cancel, Nat.div_one]
    refine wpAny_forIn_list _
      (fun rest q s' => s' = s ∧ q = (none, ()) ∧ ∃ i, rest = List.range' i (es.size - i) ∧ i ≤ es.size ∧ HitsM A s xb (xa.drop i) r)
      _ ?_ ?_ _ _ ⟨rfl, rfl, 0, by simp, Nat.zero_le _, hits'⟩
    · rintro x rest q s' ⟨rfl, rfl, i, hr, hi, hpre⟩
      have hlt : i < es.size := by
        rcases Nat.lt_or_ge i es.size with h | h
        · exact h
        · rw [Nat.sub_eq_zero_of_le h] at hr; simp at hr
      obtain ⟨rfl, hrest⟩ : x = i ∧ rest = List.range' (i + 1) (es.size - (i + 1)) := by
        have e : es.size - i = (es.size - (i + 1)) + 1 := by omega
        rw [e, List.range'_succ] at hr
        injection hr with h1 h2
        exact ⟨h1, h2⟩
      refine wpAny_bind (wpAny_dictEntries hoa hda ?_)
      have hlt' : x < xa.length := by rw [hla]; exact hlt
      have gx : xa[x]? = some xa[x] := List.getElem?_eq_getElem hlt'
      have hdrop : xa.drop x = xa[x] :: xa.drop (x + 1) := List.drop_eq_getElem_cons hlt'
      have hmem := List.getElem_mem hlt'
      rw [hdrop] at hpre
      rw [ent_at hea x, gx]
      generalize xa[x] = y at gx hmem hpre
      obtain ⟨k, kv, v⟩ := y
      obtain ⟨hk, hkd⟩ := ksa _ hmem
      show wpAny _ _ (holding [kv, v] _ >>= _) _ _ _
      refine wpAny_bind (wpAny_holding (wpAny_bind (find_m hu hk hkd hob hdb heb ksb ndb ?_)))
      have lx := lookX_fi xb k
      cases hj : fi xb k with
      | none =>
        rw [hj] at lx
        have hn : lookX xb k = none := lx
        rcases hpre.inv with ⟨_, er⟩ | ⟨y, _, _, hy, _⟩
        · rw [er] at h'
          refine wpAny_pure ?_
          show wpAny _ _ (if (!false) = true then _ else _) _ _ _
          rw [if_pos (by decide)]
          exact wpAny_pure (wpAny_pure h')
        · rw [hn] at hy; exact nomatch hy
      | some j =>
        obtain ⟨⟨kv', v'⟩, hp⟩ := fi_some hj
        rw [hj] at lx
        have hv' : lookX xb k = some v' := by rw [lx]; simp [hp]
        refine wpAny_bind (wpAny_dictEntries hob hdb ?_)
        rw [ent_at heb j, hp]
        rcases hpre.inv with ⟨hn, _⟩ | ⟨y, e, b', hy, he, hrr, er⟩
        · rw [hv'] at hn; exact nomatch hn
        · have ey : v' = y := Option.some.inj (hv'.symm.trans hy)
          rw [← ey] at he
          refine wpAny_holding (he prog w _ _ ?_)
          cases e with
          | false =>
            rw [er, Bool.false_and] at h'
            show wpAny _ _ (if (!false) = true then _ else _) _ _ _
            rw [if_pos (by decide)]
            exact wpAny_pure (wpAny_pure h')
          | true =>
            rw [Bool.true_and] at er
            rw [← er] at hrr
            show wpAny _ _ (if (!true) = true then _ else _) _ _ _
            rw [if_neg (by decide)]
            refine wpAny_bind (wpAny_dictEpoch hoa hda ?_)
            rw [if_neg (by simp)]
            exact wpAny_pure ⟨rfl, rfl, x + 1, hrest, hlt, hrr⟩
    · rintro q s' ⟨rfl, rfl, i, hr, hi, hpre⟩
      have hin : i = es.size := by
        rcases Nat.lt_or_ge i es.size with h | h
        · have e : es.size - i = (es.size - (i + 1)) + 1 := by omega
          rw [e, List.range'_succ] at hr; exact nomatch hr
        · exact Nat.le_antisymm hi h
      refine wpAny_pure ?_
      rw [hin, ← hla, List.drop_length] at hpre
      cases hpre
      exact h'
theorem eq_m {a b : Addr} {xa xb : XS} {r : Bool} {Q : Value → Shared → Prop} (hu : A.units + 9 < cLine) (ha : (a == sysModules) = false) (hb : (b == sysModules) = false)
    (ma : DictM w s.heap a xa) (mb : DictM w s.heap b xb) (hits : xa.length = xb.length → HitsM A.in1 s xb xa r) (h : Q (.bool (xa.length == xb.length && r)) s) :
    wpAny (model prog w) A (compareOp .Eq (.ref a) (.ref b)) Q E s := by
  refine wpAny_richCompare_same_room (op := .Eq) ma.typeIs mb.typeIs PySem.F.slot_dict_eq (wpAny_call_entry PySem.F.slot_dict_eq ma.typeIs PySem.F.entry_dict_eq ?_ (PySem.F.args_dict_eq_2 _ _)) (by omega)
  show wpAny _ _ (Builtin.Dict.dictSlotArgs "__eq__" ⟨[.ref a, .ref b], []⟩ >>= _) _ _ s
  refine wpAny_bind ?_
  unfold Builtin.Dict.dictSlotArgs
  refine wpAny_bind (wpAny_notOrdered_dict ma.typeIs ?_)
  show wpAny _ _ (pure (Value.ref a, Value.ref b)) _ _ s
  refine wpAny_pure ?_
  refine wpAny_bind (wpAny_isInstance (T := "dict") mb.typeIs PySem.F.sub_dict_dict ?_)
  simp only [Bool.not_true, Bool.false_eq_true, if_false]
  refine wpAny_bind (wpAny_pure (wpAny_bind (wpAny_pure ?_)))
  refine wpAny_bind (samePairs_m (by show A.units + 1 + 8 < _; omega) ha hb ma mb hits ?_)
  refine wpAny_pure ⟨_, rfl, ?_, ?_⟩
  · exact fun x => nomatch x
  · simpa using h
theorem ne_m {a b : Addr} {xa xb : XS} {r : Bool} {Q : Value → Shared → Prop} (hu : A.units + 9 < cLine) (ha : (a == sysModules) = false) (hb : (b == sysModules) = false)
    (ma : DictM w s.heap a xa) (mb : DictM w s.heap b xb) (hits : xa.length = xb.length → HitsM A.in1 s xb xa r) (h : Q (.bool (!(xa.length == xb.length && r))) s) :
    wpAny (model prog w) A (compareOp .NotEq (.ref a) (.ref b)) Q E s := by
  refine wpAny_richCompare_same_room (op := .NotEq) ma.typeIs mb.typeIs PySem.F.slot_dict_ne (wpAny_call_entry PySem.F.slot_dict_ne ma.typeIs PySem.F.entry_dict_ne ?_ (PySem.F.args_dict_ne_2 _ _)) (by omega)
  show wpAny _ _ (Builtin.Dict.dictSlotArgs "__ne__" ⟨[.ref a, .ref b], []⟩ >>= _) _ _ s
  refine wpAny_bind ?_
  unfold Builtin.Dict.dictSlotArgs
  refine wpAny_bind (wpAny_notOrdered_dict ma.typeIs ?_)
  show wpAny _ _ (pure (Value.ref a, Value.ref b)) _ _ s
  refine wpAny_pure ?_
  refine wpAny_bind (wpAny_isInstance (T := "dict") mb.typeIs PySem.F.sub_dict_dict ?_)
  simp only [Bool.not_true, Bool.false_eq_true, if_false]
  refine wpAny_bind (wpAny_pure (wpAny_bind (wpAny_pure ?_)))
  refine wpAny_bind (samePairs_m (by show A.units + 1 + 8 < _; omega) ha hb ma mb hits ?_)
  refine wpAny_pure ⟨_, rfl, ?_, ?_⟩
  · exact fun x => nomatch x
  · simpa using h
end
end MP
end
section
/-! MP3: readings of the small language, and its operations on values, lists, dicts, instances. -/
namespace MP
open PySem PySem.Spec L2

/-! ### readings -/
def RS (G : Gx) (σ : St) (H : Hp) (env : Env) : Prop := env.length = σ.length ∧ ∀ i d, get env i = some d → ∃ v, σ[i]? = some (some v) ∧ RVe G H d v
def QVs (G : Gx) (M : Mem) (H : Hp) (Q : List D → Mem → Prop) : List V → Hp → Prop := fun vs H' => ∃ ds M', RVs G H' ds vs ∧ RM G H' M' ∧ Stp M H M' H' ∧ Q ds M'
/-- a list or a tuple that is read -/
def QS (G : Gx) (M : Mem) (H : Hp) (Q : List D → Mem → Prop) : VK := fun v H' => ∃ ds vs p M', v = .ref p ∧ (SqL G.K H' p vs ∨ SqT G.K H' p vs) ∧ RVs G H' ds vs ∧ RM G H' M' ∧ Stp M H M' H' ∧ Q ds M'
/-- a new list -/
def QL (G : Gx) (M : Mem) (H : Hp) (Q : List D → Mem → Prop) : VK := fun v H' => ∃ ds vs p M', v = .ref p ∧ H p = none ∧ H' p = some (.lst vs) ∧ M' p = none ∧ RVs G H' ds vs ∧ RM G H' M' ∧ Stp M H M' H' ∧ Q ds M'
def tW (G : Gx) (W : Env → Mem → VQ → Prop) : TE := fun σ H Q => ∃ env M Qd, RS G σ H env ∧ RM G H M ∧ W env M Qd ∧ ∀ v H', QV G M H Qd v H' → Q v H'
def tWs (G : Gx) (W : Env → Mem → (List D → Mem → Prop) → Prop) : TA := fun σ H Q => ∃ env M Qd, RS G σ H env ∧ RM G H M ∧ W env M Qd ∧ ∀ v H', QVs G M H Qd v H' → Q v H'
def tWq (G : Gx) (W : Env → Mem → (List D → Mem → Prop) → Prop) : TE := fun σ H Q => ∃ env M Qd, RS G σ H env ∧ RM G H M ∧ W env M Qd ∧ ∀ v H', QS G M H Qd v H' → Q v H'
def tWf (G : Gx) (W : Env → Mem → (List D → Mem → Prop) → Prop) : TE := fun σ H Q => ∃ env M Qd, RS G σ H env ∧ RM G H M ∧ W env M Qd ∧ ∀ v H', QL G M H Qd v H' → Q v H'
def tWb (G : Gx) (W : Env → Mem → (Bool → Mem → Prop) → Prop) : TT := fun σ H Q => ∃ env M Qd, RS G σ H env ∧ RM G H M ∧ W env M Qd ∧ ∀ b H', QB G M H Qd b H' → Q b H'
/-- operations by values -/
def r1 (G : Gx) (f : D → Mem → VQ → Prop) : V → Hp → VK → Prop := fun x H Q => ∃ M d Qd, RM G H M ∧ RV G H d x ∧ f d M Qd ∧ ∀ v H', QV G M H Qd v H' → Q v H'
def r2 (G : Gx) (f : D → D → Mem → VQ → Prop) : R2 := fun x y H Q => ∃ M d e Qd, RM G H M ∧ RV G H d x ∧ RV G H e y ∧ f d e M Qd ∧ ∀ v H', QV G M H Qd v H' → Q v H'
def rs (G : Gx) (f : List D → Mem → VQ → Prop) : List V → Hp → VK → Prop := fun xs H Q => ∃ M ds Qd, RM G H M ∧ RVs G H ds xs ∧ f ds M Qd ∧ ∀ v H', QV G M H Qd v H' → Q v H'
/-- .. of a list or a tuple that is read -/
def rq (G : Gx) (f : List D → Mem → VQ → Prop) : V → Hp → VK → Prop := fun x H Q => ∃ M ds vs p Qd, x = .ref p ∧ (SqL G.K H p vs ∨ SqT G.K H p vs) ∧ RVs G H ds vs ∧ RM G H M ∧ f ds M Qd ∧ ∀ v H', QV G M H Qd v H' → Q v H'
/-- .. of a list or a tuple that is read, to a new list -/
def rql (G : Gx) (f : List D → Mem → (List D → Mem → Prop) → Prop) : V → Hp → VK → Prop := fun x H Q => ∃ M ds vs p Qd, x = .ref p ∧ (SqL G.K H p vs ∨ SqT G.K H p vs) ∧ RVs G H ds vs ∧ RM G H M ∧ f ds M Qd ∧ ∀ v H', QL G M H Qd v H' → Q v H'

section
variable {G : Gx} {σ : St} {H H' : Hp} {env : Env} {M M1 : Mem}
theorem RS.mono (g : GOk G) (k : Kpt H H') (r : RS G σ H env) : RS G σ H' env := ⟨r.1, fun i d e => let ⟨v, h, q⟩ := r.2 i d e; ⟨v, h, q.mono g k⟩⟩
theorem QV.imp {Q Q' : VQ} {v : V} (h : QV G M H Q v H') (i : ∀ d M', Q d M' → Q' d M') : QV G M H Q' v H' := let ⟨d, M', a, b, c, q⟩ := h; ⟨d, M', a, b, c, i _ _ q⟩
theorem QL.qs {Q : List D → Mem → Prop} {v : V} (h : QL G M H Q v H') : QS G M H Q v H' := let ⟨ds, vs, p, M', e, _, h2, _, h4, h5, h6, q⟩ := h; ⟨ds, vs, p, M', e, .inl (.of h2), h4, h5, h6, q⟩
theorem emp_eq {H : Hp} {ds : List D} {vs : List V} (h : RVs G H ds vs) : (!ds.isEmpty) = !vs.isEmpty := by
  have := h.length
  cases ds <;> cases vs <;> simp_all
theorem QL.step {Q : List D → Mem → Prop} {v : V} {H1 : Hp} (s : Stp M H M1 H1) (h : QL G M1 H1 Q v H') : QL G M H Q v H' :=
  let ⟨ds, vs, p, M', e, h1, h2, h3, h4, h5, h6, q⟩ := h; ⟨ds, vs, p, M', e, s.grow p h1, h2, h3, h4, h5, s.trans h6, q⟩
theorem QS.step {Q : List D → Mem → Prop} {v : V} {H1 : Hp} (s : Stp M H M1 H1) (h : QS G M1 H1 Q v H') : QS G M H Q v H' :=
  let ⟨ds, vs, p, M', e, h2, h4, h5, h6, q⟩ := h; ⟨ds, vs, p, M', e, h2, h4, h5, s.trans h6, q⟩
theorem QVs.step {Q : List D → Mem → Prop} {v : List V} {H1 : Hp} (s : Stp M H M1 H1) (h : QVs G M1 H1 Q v H') : QVs G M H Q v H' :=
  let ⟨ds, M', h4, h5, h6, q⟩ := h; ⟨ds, M', h4, h5, s.trans h6, q⟩
theorem QB.step {Q : Bool → Mem → Prop} {v : Bool} {H1 : Hp} (s : Stp M H M1 H1) (h : QB G M1 H1 Q v H') : QB G M H Q v H' :=
  let ⟨M', h5, h6, q⟩ := h; ⟨M', h5, s.trans h6, q⟩
/-- a new list of these items -/
theorem QL.laid {Q : List D → Mem → Prop} {ds : List D} {vs : List V} {p : Addr} (g : GOk G) (hp : H p = none) (r : RVs G H ds vs) (rm : RM G H M) (q : Q ds M) : QL G M H Q (.ref p) (upd H p (.lst vs)) :=
  ⟨ds, vs, p, M, rfl, hp, upd_same, rm.free hp, r.mono g (.new hp), rm.new g hp, .new rm hp, q⟩
/-- a new list is taken into the memory -/
theorem QL.own {Q : VQ} {v : V} (h : QL G M H (fun ds M => wNew (.lst ds) M Q) v H') : QV G M H Q v H' := by
  obtain ⟨ds, vs, p, M', rfl, h1, h2, h3, h4, h5, h6, q⟩ := h
  refine ⟨.ref p, M'.set p (.lst ds), rfl, ⟨fun a m e => ?_, h5.tab⟩, ⟨fun b o e n t => ?_, h6.grow, fun b m e => ?_⟩, q p h3⟩
  · by_cases c : a = p
    · subst c
      rw [Mem.set_same] at e
      cases e
      exact ⟨_, h2, vs, rfl, h4⟩
    · rw [Mem.set_ne _ _ c] at e
      exact h5 a m e
  · obtain ⟨e1, n1⟩ := h6.keep b o e n t
    refine ⟨e1, ?_⟩
    rw [Mem.set_ne _ _ (ne_of_none e h1)]
    exact n1
  · obtain ⟨e1, n1⟩ := h6.frz b m e
    have c : b ≠ p := fun z => by rw [z, h3] at n1; cases n1
    exact ⟨e1, by rw [Mem.set_ne _ _ c]; exact n1⟩
theorem sq_len {X : Cx} {pins : List (Addr × Obj)} {s : Shared} {p : Addr} {vs : List V} (I : Inv X pins σ H s) (h : SqL X.K H p vs ∨ SqT X.K H p vs) : vs.length ≤ sizeLine := by
  rcases h with h | h
  · obtain ⟨_, _, _, z⟩ := I.list h; exact z
  · obtain ⟨_, _, _, z⟩ := I.tuple h; exact z
end

/-! ### readings in a row -/
section
variable {G : Gx} (g : GOk G) {σ : St} {H : Hp} {Q : VK}
include g
theorem tW_op {W Wa Wb : Env → Mem → VQ → Prop} {f : D → D → Mem → VQ → Prop} (h : ∀ e M Q, W e M Q → Wa e M fun x M => Wb e M fun y M => f x y M Q) : tW G W σ H Q → tOp (r2 G f) (tW G Wa) (tW G Wb) σ H Q := by
  rintro ⟨env, M, Qd, a, b, c, d⟩
  refine ⟨env, M, _, a, b, h _ _ _ c, fun v H1 ⟨x, M1, c1, c2, c3, c4⟩ => ?_⟩
  have k1 := c3.kpt b
  refine ⟨env, M1, _, a.mono g k1, c2, c4, fun u H2 ⟨y, M2, d1, d2, d3, d4⟩ => ?_⟩
  exact ⟨M2, x, y, Qd, d2, c1.mono g (d3.kpt c2), d1, d4, fun w H3 q => d w H3 (q.step (c3.trans d3))⟩
theorem tW_un {W Wa : Env → Mem → VQ → Prop} {f : D → Mem → VQ → Prop} (h : ∀ e M Q, W e M Q → Wa e M fun x M => f x M Q) : tW G W σ H Q → tUn (r1 G f) (tW G Wa) σ H Q := by
  rintro ⟨env, M, Qd, a, b, c, d⟩
  refine ⟨env, M, _, a, b, h _ _ _ c, fun v H1 ⟨x, M1, c1, c2, c3, c4⟩ => ?_⟩
  exact ⟨M1, x, Qd, c2, c1, c4, fun w H3 q => d w H3 (q.step c3)⟩
end
theorem _root_.L2.PE.imp {X : Cx} {e : Expr} {t t' : TE} (h : PE X e t) (i : ∀ σ H Q, t' σ H Q → t σ H Q) : PE X e t' := ⟨fun pins s σ H Q I q => h.run pins s σ H Q I (i _ _ _ q)⟩
theorem _root_.L2.PT.imp {X : Cx} {e : Expr} {t t' : TT} (h : PT X e t) (i : ∀ σ H Q, t' σ H Q → t σ H Q) : PT X e t' := ⟨fun pins s σ H Q I q => h.run pins s σ H Q I (i _ _ _ q)⟩
theorem _root_.L2.PA.imp {X : Cx} {e : List Expr} {t t' : TA} (h : PA X e t) (i : ∀ σ H Q, t' σ H Q → t σ H Q) : PA X e t' := ⟨fun pos pins s σ H Q I q => h.run pos pins s σ H Q I (i _ _ _ q)⟩
theorem EP.imp {X : Cx} {pins : List (Addr × Obj)} {σ : St} {Q Q' : VK} {u : Value} {s : Shared} (h : EP X pins σ Q u s) (i : ∀ v H, Q v H → Q' v H) : EP X pins σ Q' u s := let ⟨v, H, a, b, c⟩ := h; ⟨v, H, a, b, i _ _ c⟩

/-! ### the operations -/
section
variable {X : Cx} {G : Gx} {k : Nat}
theorem op_bin (g : XG X G k) (op : Bin) : OpR X (binaryOp (binOf op)) (r2 G (wBin op)) := by
  intro pins s σ H x y v u Q I rx ry ⟨M, d, e, Qd, a, b, c, h, i⟩
  exact thn (bin_ok g op I a b rx c ry h) fun _ _ q => EP.imp q i
theorem un_negW : UnR X (unaryOp .USub) (r1 G wNeg) := by
  intro pins s σ H x v Q I rx ⟨M, d, Qd, a, b, h, i⟩
  exact thn (neg_ok I a b rx h) fun _ _ q => EP.imp q i
/-- truth -/
theorem tru_w (g : XG X G k) : TruR X (fun x H Q => ∃ M d Qd, RM G H M ∧ RV G H d x ∧ wTruth d M Qd ∧ ∀ b H', QB G M H Qd b H' → Q b H') := by
  intro pins s σ H x v Q I rx ⟨M, d, Qd, rm, rd, h, i⟩
  unfold wTruth at h
  cases e : truth M d with
  | none => rw [e] at h; exact h.elim
  | some b =>
    rw [e] at h
    refine tru_ok pins s σ H x v Q I rx ⟨b, ?_, i b H ⟨M, rm, .refl _ _, h⟩⟩
    unfold truth at e
    split at e
    · cases e; rw [show x = _ from rd]; rfl
    · cases e; rw [show x = _ from rd]; rfl
    · cases e; rw [show x = _ from rd]
      show _ = (_ != _)
      rename_i j
      by_cases c : j = 0
      · subst c; rfl
      · rw [decide_eq_true c]; exact (bne_iff_ne.mpr c).symm
    · split at e
      · rename_i z hz
        cases e
        rw [show x = _ from rd]
        refine ⟨by rw [← line_eq]; exact hz, ?_⟩
        show _ = (((z.cps.size : Nat) : Int) != 0)
        by_cases c : z.cps.size = 0
        · rw [c]; rfl
        · rw [decide_eq_true c]
          exact (bne_iff_ne.mpr (by omega)).symm
      · cases e
    · cases e
      obtain ⟨p, vs, rfl, sq, hv⟩ := rd
      exact .inr (.inl ⟨vs, by rw [g.K]; exact sq, emp_eq hv⟩)
    · rename_i a
      split at e
      · rename_i ds e2
        cases e
        obtain ⟨vs, hr, hv⟩ := rm.rdL e2
        rw [show x = _ from rd]
        exact .inl ⟨vs, .inl hr, emp_eq hv⟩
      · cases e
    · cases e
/-- what a dict is at its place, now -/
theorem rd_dict {pins : List (Addr × Obj)} {σ : St} {H : Hp} {s : Shared} {M : Mem} (I : Inv X pins σ H s) (g : XG X G k) (rm : RM G H M) {a : Addr} {kvs : List (D × D)} (e : M.rd a = some (.dct kvs)) :
    ∃ xs, DictM X.w s.heap a xs ∧ RX G H kvs xs ∧ (a == sysModules) = false ∧ kvs.length ≤ line ∧ (∀ p ∈ kvs, D.okey p.1 = true) ∧ (kvs.map (·.1)).Nodup := by
  obtain ⟨u, h, xs, es, ep, rfl, he, rx, hs, hl, hk, nd⟩ := rm.rd e (fun _ => nofun)
  have ho : s.heap.DictRaw a es ep := by
    rcases h with h | ⟨o, h⟩
    · exact (I.hok a _ h).1
    · obtain ⟨_, q⟩ := I.hok a _ h
      exact q.1
  exact ⟨xs, by rw [g.w]; exact dict_at I g.K ho he rx hk nd, rx, hs, hl, hk, nd⟩
theorem nk_draw {pins : List (Addr × Obj)} {σ : St} {H : Hp} {s : Shared} {v : V} {u : Value} {Q : VK} (I : Inv X pins σ H s) (r : RelV v u) (q : Q v H) (n : Nat) : EP X pins σ Q u { s with toks := n } := ⟨v, H, I.tok n, r, q⟩
theorem ix_w (g : XG X G k) : IxR X (r2 G wIx) := by
  intro value slice pins s σ H x y v u Q I rx ry ⟨M, d, e, Qd, rm, rd, re, h, i⟩ hs
  have hu := g.units
  unfold wIx at h
  split at h
  · rename_i ds j
    obtain ⟨p, vs, rfl, sq, hv⟩ := rd
    rw [show y = _ from re] at ry
    split at h
    · rename_i c hc
      rw [atI_eq] at hc
      have ⟨j', e1, e2⟩ : ∃ j', L2.ixN ds.length j = some j' ∧ ds[j']? = some c := by
        unfold L2.atI at hc
        cases q : L2.ixN ds.length j with
        | none => rw [q] at hc; cases hc
        | some j' => rw [q] at hc; exact ⟨j', rfl, hc⟩
      obtain ⟨w, e3, e4⟩ := hv.get e2
      exact ix_tup value slice pins s σ H _ _ v u Q I rx ry ⟨p, vs, j, w, rfl, rfl, by rw [g.K]; exact sq, by unfold L2.atI; rw [← hv.length, e1]; exact e3, i _ _ (.same e4 rm h)⟩ hs
    · exact h.elim
  · rename_i z j
    rw [show x = _ from rd] at rx
    rw [show y = _ from re] at ry
    obtain ⟨hz, h⟩ := h
    split at h
    · rename_i c hc
      rw [atI_eq] at hc
      exact ix_str value slice pins s σ H _ _ v u Q I rx ry ⟨z, j, c, rfl, rfl, by rw [← line_eq]; exact hz, hc, i _ _ (.str rm h)⟩ hs
    · exact h.elim
  · rename_i kd a
    rw [show x = _ from rd] at rx
    split at h
    · rename_i ds e1
      split at h
      · rename_i j
        rw [show y = _ from re] at ry
        split at h
        · rename_i c hc
          rw [atI_eq] at hc
          obtain ⟨vs, hr, hv⟩ := rm.rdL e1
          have ⟨j', e1, e2⟩ : ∃ j', L2.ixN ds.length j = some j' ∧ ds[j']? = some c := by
            unfold L2.atI at hc
            cases q : L2.ixN ds.length j with
            | none => rw [q] at hc; cases hc
            | some j' => rw [q] at hc; exact ⟨j', rfl, hc⟩
          obtain ⟨w, e3, e4⟩ := hv.get e2
          exact ix_list value slice pins s σ H _ _ v u Q I rx ry ⟨a, vs, j, w, rfl, rfl, .inl hr, by unfold L2.atI; rw [← hv.length, e1]; exact e3, i _ _ (.same e4 rm h)⟩ hs
        · exact h.elim
      · exact h.elim
    · rename_i kvs e1
      obtain ⟨hk, h⟩ := h
      split at h
      · rename_i c hc
        obtain ⟨xs, dm, rxs, hsy, hl, hks, nd⟩ := rd_dict I g rm e1
        obtain ⟨w, t, l1, l2, l3⟩ := (rxs.look (okey_key hk) hks).1 c hc
        rw [show v = _ from rx] at hs ⊢
        have kn := nested I g.K (okey_key hk) re ry
        exact PyProof.Rows.tail_any dm.typeIs slot_dict_getitem.lookup (item_m (by omega) kn (okey_depth hk) dm l1 (nk_draw I l2 (i _ _ (.same l3 rm h)) _)) hs
      · exact h.elim
    · exact h.elim
  · exact h.elim
theorem vOk_reads {H : Hp} {d : D} (h : vOk d = true) : D.ok 60 d = true ∧ SeqAt.shaped (pd d) = true := by
  cases d with
  | int i => exact ⟨by simp [D.ok], by simp [pd, SeqAt.shaped, PyData.canLay0, PyData.depth]⟩
  | bl b => exact ⟨by simp [D.ok], by simp [pd, SeqAt.shaped, PyData.canLay0, PyData.depth]⟩
  | non => exact ⟨by simp [D.ok], by simp [pd, SeqAt.shaped, PyData.canLay0, PyData.depth]⟩
  | _ => cases h
theorem look_ok2 {x v : D} : ∀ {kvs : List (D × D)}, dctOk kvs = true → look kvs x = some v → vOk v = true
  | [], _, e => by simp [look] at e
  | p :: r, h, e => by
    unfold dctOk at h
    rw [List.all_cons, Bool.and_eq_true] at h
    simp only [look] at e
    split at e
    · injection e with e; rw [← e]; exact h.1
    · exact look_ok2 (kvs := r) h.2 e
theorem hits_of {pins : List (Addr × Obj)} {σ : St} {H : Hp} {s : Shared} (g : XG X G k) (I : Inv X pins σ H s) {ls : List (D × D)} {xb : XS} (rb : RX G H ls xb) (okb : dctOk ls = true) (hksb : ∀ p ∈ ls, D.okey p.1 = true) :
    ∀ {ks : List (D × D)} {xa : XS}, RX G H ks xa → dctOk ks = true → (∀ p ∈ ks, D.okey p.1 = true) → HitsM X.A.in1 s xb xa (ks.all (dctHit ls))
  | [], _, h, _, _ => by rw [show _ = [] from h]; exact .nil
  | p :: ps, _, h, ok, hks => by
    obtain ⟨kv, vv, ku, vu, r, rfl, a1, a2, a3, a4, b⟩ := h
    unfold dctOk at ok
    rw [List.all_cons, Bool.and_eq_true] at ok
    have hk : D.key p.1 = true := by
      have := hks p List.mem_cons_self
      unfold D.okey at this
      exact (Bool.and_eq_true_iff.mp this).1
    have ⟨l1, l2⟩ := RX.look hk rb hksb
    have hu := g.units
    rw [List.all_cons]
    cases e : look ls p.1 with
    | none =>
      have : dctHit ls p = false := by unfold dctHit; rw [e]
      rw [this, Bool.false_and]
      exact .miss (l2 e)
    | some d =>
      have : dctHit ls p = D.eqv p.2 d := by unfold dctHit; rw [e]
      rw [this]
      obtain ⟨v, u, q1, q2, q3⟩ := l1 d e
      obtain ⟨o1, o2⟩ := vOk_reads (H := H) ok.1
      obtain ⟨o3, o4⟩ := vOk_reads (H := H) (look_ok2 okb e)
      have r1 := reads I g.K o1 a4 a3
      have r2 := reads I g.K o3 q3 q2
      have he := PySem.W.keq_at (A := X.A) r1 r2 o2 o4 (by show X.A.units + 1 + 64 < _; omega)
      rw [pd_eqv o1 o3] at he
      exact .hit q1 he (hits_of g I rb okb hksb b ok.2 fun q hq => hks q (List.mem_cons_of_mem _ hq))
theorem cmpD_ok {pins : List (Addr × Obj)} {σ : St} {H : Hp} {s : Shared} {M : Mem} {x y : D} {xv yv : V} {v u : Value} {Q : VQ} (g : XG X G k) (op : Cmp) (I : Inv X pins σ H s) (rm : RM G H M) (rx : RV G H x xv) (rx' : RelV xv v) (ry : RV G H y yv) (ry' : RelV yv u) (h : wCmpD op x y M Q) :
    wpAny (model X.prog X.w) X.A (compareOp (cmpOf op) v u) (EQ X G pins σ M H Q) X.xe s := by
  have hu := g.units
  unfold wCmpD at h
  split at h
  · rename_i p q
    rw [show xv = _ from rx] at rx'
    rw [show yv = _ from ry] at ry'
    obtain rfl : v = Value.ref p := rx'
    obtain rfl : u = Value.ref q := ry'
    split at h
    · rename_i ks ls e1 e2
      obtain ⟨ok, h⟩ := h
      rw [Bool.and_eq_true] at ok
      obtain ⟨xa, ma, ra, sa, la, ka, na⟩ := rd_dict I g rm e1
      obtain ⟨xb, mb, rb, sb, lb, kb, nb⟩ := rd_dict I g rm e2
      refine eq_m (r := ks.all (dctHit ls)) (by omega) sa sb ma mb (fun _ => hits_of g I rb ok.2 kb ra ok.1 ka) ?_
      rw [← ra.length, ← rb.length]
      exact fin_bl I (.bl rm h) rfl
    · exact h.elim
  · rename_i p q
    rw [show xv = _ from rx] at rx'
    rw [show yv = _ from ry] at ry'
    obtain rfl : v = Value.ref p := rx'
    obtain rfl : u = Value.ref q := ry'
    split at h
    · rename_i ks ls e1 e2
      obtain ⟨ok, h⟩ := h
      rw [Bool.and_eq_true] at ok
      obtain ⟨xa, ma, ra, sa, la, ka, na⟩ := rd_dict I g rm e1
      obtain ⟨xb, mb, rb, sb, lb, kb, nb⟩ := rd_dict I g rm e2
      refine ne_m (r := ks.all (dctHit ls)) (by omega) sa sb ma mb (fun _ => hits_of g I rb ok.2 kb ra ok.1 ka) ?_
      rw [← ra.length, ← rb.length]
      exact fin_bl I (.bl rm h) rfl
    · exact h.elim
  · exact h.elim
theorem op_cmp (g : XG X G k) (op : Cmp) : OpR X (compareOp (cmpOf op)) (r2 G (wCmp op)) := by
  intro pins s σ H x y v u Q I rx ry ⟨M, d, e, Qd, a, b, c, h, i⟩
  rcases h with h | h
  · exact thn (cmp_ok g op I a b rx c ry h) fun _ _ q => EP.imp q i
  · exact thn (cmpD_ok g op I a b rx c ry h) fun _ _ q => EP.imp q i
end
end MP
end
section
/-! MP4: operations, second part: cuts, lengths, fields, classes, methods. -/
namespace MP
open PySem PySem.Spec L2

theorem ofS_inj {a b : String} (h : Str.ofString a = Str.ofString b) : a = b := by
  rw [Str.ofString_eq_toList, Str.ofString_eq_toList] at h
  have h1 : (a.toList.map Char.toNat).toArray = (b.toList.map Char.toNat).toArray := by injection h
  have h2 : a.toList.map Char.toNat = b.toList.map Char.toNat := by simpa using congrArg Array.toList h1
  have inj : ∀ x y : Char, x.toNat = y.toNat → x = y := fun x y e => Char.ext (UInt32.toNat_inj.mp e)
  have go : ∀ l m : List Char, l.map Char.toNat = m.map Char.toNat → l = m := by
    intro l
    induction l with
    | nil => intro m e; cases m with
      | nil => rfl
      | cons _ _ => cases e
    | cons x xs ih => intro m e; cases m with
      | nil => cases e
      | cons y ys =>
        rw [List.map_cons, List.map_cons] at e
        injection e with e1 e2
        rw [inj _ _ e1, ih _ e2]
  exact String.toList_inj.mp (go _ _ h2)

section
variable {G : Gx} {H : Hp}
theorem RF.get {f : String} {d : D} : ∀ {fs : List (String × D)} {vs : List (Str × V)}, RF G H fs vs → fget fs f = some d → ∃ v, vs.lookup (Str.ofString f) = some v ∧ RV G H d v
  | [], _, _, e => by cases e
  | p :: ps, _, h, e => by
    obtain ⟨v, r, rfl, a, b⟩ := h
    unfold fget at e
    by_cases c : p.1 = f
    · rw [if_pos c] at e
      cases e
      exact ⟨v, by rw [← c]; simp, a⟩
    · rw [if_neg c] at e
      obtain ⟨u, h1, h2⟩ := RF.get b e
      refine ⟨u, ?_, h2⟩
      rw [List.lookup_cons]
      have : (Str.ofString f == Str.ofString p.1) = false := beq_eq_false_iff_ne.mpr fun z => c (ofS_inj z).symm
      rw [this]
      exact h1
theorem RF.put {f : String} {d : D} {v : V} (hv : RV G H d v) : ∀ {fs : List (String × D)} {vs : List (Str × V)}, RF G H fs vs → RF G H (fput fs f d) (putF (Str.ofString f) v vs)
  | [], _, h => by
    rw [show _ = [] from h]
    exact ⟨v, [], rfl, hv, rfl⟩
  | p :: ps, _, h => by
    obtain ⟨u, r, rfl, a, b⟩ := h
    unfold fput putF
    by_cases c : p.1 = f
    · rw [if_pos c, if_pos (by rw [c])]
      exact ⟨v, r, rfl, hv, b⟩
    · rw [if_neg c, if_neg fun z => c (ofS_inj z)]
      exact ⟨u, _, rfl, a, RF.put hv b⟩
theorem RF.length : ∀ {fs : List (String × D)} {vs : List (Str × V)}, RF G H fs vs → fs.length = vs.length
  | [], _, h => by rw [show _ = [] from h] <;> rfl
  | p :: ps, _, h => by
    obtain ⟨v, r, rfl, a, b⟩ := h
    rw [List.length_cons, List.length_cons, RF.length b]
end

section
variable {X : Cx} {G : Gx} {k : Nat}
/-! ### cuts -/
def optD : D → Option Int → Prop
  | .non, o => o = none
  | .int i, o => o = some i
  | _, _ => False
theorem bnd_eq {n d : Nat} {x : D} {o : Option Int} {j : Nat} (h : optD x o) (e : bnd n d x = some j) : HT.sIx n d o = j := by
  cases x with
  | non => rw [show o = none from h]; cases e; rfl
  | int i => rw [show o = some i from h]; cases e; rfl
  | _ => exact (show False from h).elim
theorem cutL_eq (xs : List V) {i j : Nat} {lo hi : Option Int} (h1 : HT.sIx xs.length 0 lo = i) (h2 : HT.sIx xs.length xs.length hi = j) : cutV xs lo hi = cutL xs i j := by
  unfold cutV cutL
  rw [h1, h2]
theorem RVs.cut {H : Hp} {ds : List D} {vs : List V} (h : RVs G H ds vs) (i j : Nat) : RVs G H (cutL ds i j) (cutL vs i j) := (h.drop i).take _
def rCut (G : Gx) : V → Option Int → Option Int → Hp → VK → Prop := fun x lo hi H Q => ∃ M d dl dh Qd, RM G H M ∧ RV G H d x ∧ optD dl lo ∧ optD dh hi ∧ wCut d dl dh M Qd ∧ ∀ v H', QV G M H Qd v H' → Q v H'
def rCutL (G : Gx) : V → Option Int → Option Int → Hp → VK → Prop := fun x lo hi H Q => ∃ M d dl dh Qd, RM G H M ∧ RV G H d x ∧ optD dl lo ∧ optD dh hi ∧ wCutL d dl dh M Qd ∧ ∀ v H', QL G M H Qd v H' → Q v H'
theorem cut_w (g : XG X G k) : SlR X (rCut G) := by
  intro pins s σ H x v vl vu lo hi sl Q I rx hs pl pu ⟨M, d, dl, dh, Qd, rm, rd, o1, o2, h, i⟩
  unfold wCut at h
  split at h
  · rename_i ds
    obtain ⟨p, vs, rfl, sq, hv⟩ := rd
    split at h
    · rename_i a b e1 e2
      rw [hv.length] at e1 e2
      have f1 := bnd_eq o1 e1
      have f2 := bnd_eq o2 e2
      refine sl_tupA pins s σ H _ v vl vu lo hi sl Q I rx hs pl pu ⟨p, vs, rfl, by rw [g.K]; exact sq, fun ⟨z1, z2⟩ => ?_, fun _ q hq => ?_⟩
      · refine i _ _ (.same (d := .tup (cutL ds a b)) ⟨p, vs, rfl, sq, ?_⟩ rm h)
        have : cutL ds a b = ds := by
          unfold cutL
          rw [← f1, ← f2, z1, z2, ← hv.length]
          simp
        rw [this]
        exact hv
      · refine i _ _ (.new (d := .tup (cutL ds a b)) g.ok hq ⟨q, _, rfl, .of upd_same, ?_⟩ rm h)
        rw [cutL_eq vs f1 f2]
        exact (hv.cut a b).mono g.ok (.new hq)
    · exact h.elim
  · exact h.elim
theorem cutL_w (g : XG X G k) : SlR X (rCutL G) := by
  intro pins s σ H x v vl vu lo hi sl Q I rx hs pl pu ⟨M, d, dl, dh, Qd, rm, rd, o1, o2, h, i⟩
  unfold wCutL at h
  split at h
  · rename_i p
    rw [show x = _ from rd] at rx
    split at h
    · rename_i ds e0
      obtain ⟨vs, hr, hv⟩ := rm.rdL e0
      split at h
      · rename_i a b e1 e2
        rw [hv.length] at e1 e2
        have f1 := bnd_eq o1 e1
        have f2 := bnd_eq o2 e2
        refine sl_list pins s σ H _ v vl vu lo hi sl Q I rx hs pl pu ⟨p, vs, rfl, .inl hr, fun q hq => i _ _ ?_⟩
        rw [cutL_eq vs f1 f2]
        exact .laid g.ok hq (hv.cut a b) rm h
      · exact h.elim
    · exact h.elim
  · exact h.elim
/-- what stands at a bound -/
def tWo (G : Gx) (W : Env → Mem → VQ → Prop) : TO := fun σ H Q => ∃ env M Qd, RS G σ H env ∧ RM G H M ∧ W env M Qd ∧ ∀ o H', (∃ d M', optD d o ∧ RM G H' M' ∧ Stp M H M' H' ∧ Qd d M') → Q o H'
theorem po_no (W : Env → Mem → VQ → Prop) (h : ∀ e M Q, W e M Q → Q .non M) : PO X none (tWo G W) := by
  refine ⟨fun pins s σ H Q I ⟨env, M, Qd, a, b, c, d⟩ => ?_⟩
  rw [evalPart_none]
  exact wpAny_pure ⟨none, H, I, .none, d _ _ ⟨.non, M, rfl, b, .refl _ _, h _ _ _ c⟩⟩
theorem po_yes {e : Expr} {W W' : Env → Mem → VQ → Prop} (he : PE X e (tW G W')) (h : ∀ e M Q, W e M Q → W' e M fun x M => isPt x = true ∧ Q x M) : PO X (some e) (tWo G W) := by
  refine ⟨fun pins s σ H Q I ⟨env, M, Qd, a, b, c, d⟩ => ?_⟩
  rw [evalPart_some]
  refine thn (he.run pins s σ H (QV G M H fun x M => isPt x = true ∧ Qd x M) I ⟨env, M, _, a, b, h _ _ _ c, fun _ _ q => q⟩) fun u s1 ⟨x, H1, I1, r1, dx, M', q1, q2, q3, q4, q5⟩ => ?_
  cases dx with
  | non =>
    rw [show x = _ from q1] at r1
    rw [show u = _ from r1]
    exact ⟨none, H1, I1, .none, d _ _ ⟨.non, M', rfl, q2, q3, q5⟩⟩
  | int i =>
    rw [show x = _ from q1] at r1
    obtain ⟨t, rfl⟩ := r1
    exact ⟨some i, H1, I1, .int i t, d _ _ ⟨.int i, M', rfl, q2, q3, q5⟩⟩
  | _ => cases q4

/-! ### lengths -/
theorem len_w (g : XG X G k) : CallR X (.builtin "len") (fun xs H Q => ∃ x, xs = [x] ∧ r1 G wLen x H Q) := by
  intro pins s σ H xs us Q I r ⟨x, e, M, d, Qd, rm, rd, h, i⟩
  subst e
  unfold wLen at h
  split at h
  · rename_i ds
    obtain ⟨p, vs, rfl, sq, hv⟩ := rd
    exact call_len pins s σ H _ us Q I r ⟨_, _, rfl, .inr ⟨vs, by rw [g.K]; exact sq, rfl⟩, by rw [← hv.length]; exact i _ _ (.int rm h)⟩
  · rename_i z
    rw [show x = _ from rd] at r
    obtain ⟨hz, h⟩ := h
    exact call_len pins s σ H _ us Q I r ⟨_, _, rfl, ⟨by rw [← line_eq]; exact hz, rfl⟩, i _ _ (.int rm h)⟩
  · rename_i a
    rw [show x = _ from rd] at r
    split at h
    · rename_i ds e1
      obtain ⟨vs, hr, hv⟩ := rm.rdL e1
      exact call_len pins s σ H _ us Q I r ⟨_, _, rfl, .inl ⟨vs, .inl hr, rfl⟩, by rw [← hv.length]; exact i _ _ (.int rm h)⟩
    · rename_i kvs e1
      obtain ⟨xs, dm, rxs, hsy, hl, hks, nd⟩ := rd_dict I g rm e1
      rw [Vals.ref1 r]
      refine len_m hsy dm (by rw [← rxs.length, ← line_eq]; exact hl) ⟨.int xs.length, H, I.tok _, ⟨_, rfl⟩, ?_⟩
      rw [← rxs.length]
      exact i _ _ (.int rm h)
    · exact h.elim
  · exact h.elim
theorem lenq_w (g : XG X G k) : CallR X (.builtin "len") (fun xs H Q => ∃ x, xs = [x] ∧ rq G (fun ds M Q => Q (.int ds.length) M) x H Q) := by
  intro pins s σ H xs us Q I r ⟨x, e, M, ds, vs, p, Qd, e2, sq, hv, rm, h, i⟩
  subst e e2
  refine call_len pins s σ H _ us Q I r ⟨_, _, rfl, sq.imp (fun z => ⟨vs, by rw [g.K]; exact z, rfl⟩) (fun z => ⟨vs, by rw [g.K]; exact z, rfl⟩), ?_⟩
  rw [← hv.length]
  exact i _ _ (.int rm h)
/-! ### list(..), tuple(..) -/
theorem listq_w (g : XG X G k) : CallR X (.type "list") (fun xs H Q => ∃ x, xs = [x] ∧ rql G (fun ds M Q => Q ds M) x H Q) := by
  intro pins s σ H xs us Q I r ⟨x, e, M, ds, vs, p, Qd, e2, sq, hv, rm, h, i⟩
  subst e e2
  exact call_list_of pins s σ H _ us Q I r ⟨p, vs, rfl, sq.imp (fun z => by rw [g.K]; exact z) (fun z => by rw [g.K]; exact z), fun l hl => i _ _ (.laid g.ok hl hv rm h)⟩
theorem tupq_w (g : XG X G k) : CallR X (.type "tuple") (fun xs H Q => ∃ x, xs = [x] ∧ rq G (fun ds M Q => Q (.tup ds) M) x H Q) := by
  intro pins s σ H xs us Q I r ⟨x, e, M, ds, vs, p, Qd, e2, sq, hv, rm, h, i⟩
  subst e e2
  refine call_tuple_of pins s σ H _ us Q I r ⟨p, vs, rfl, ?_⟩
  rcases sq with z | z
  · exact .inl ⟨by rw [g.K]; exact z, fun l hl => i _ _ (.new (d := .tup ds) g.ok hl ⟨l, vs, rfl, .of upd_same, hv.mono g.ok (.new hl)⟩ rm h)⟩
  · exact .inr ⟨by rw [g.K]; exact z, i _ _ (.same (d := .tup ds) ⟨p, vs, rfl, z, hv⟩ rm h)⟩
/-! ### all, any, sum, min, max of a new list -/
theorem bools_map : ∀ {ds : List D} {bs : List Bool}, bools ds = some bs → ds = bs.map D.bl
  | [], bs, e => by cases e; rfl
  | .bl b :: r, bs, e => by
    unfold bools at e
    cases q : bools r with
    | none => rw [q] at e; cases e
    | some cs => rw [q] at e; cases e; rw [bools_map q]; rfl
  | .non :: _, _, e | .int _ :: _, _, e | .str _ :: _, _, e | .tup _ :: _, _, e | .ref _ :: _, _, e | .glo _ :: _, _, e | .ty _ :: _, _, e | .clo _ _ :: _, _, e => by cases e
theorem ints_map : ∀ {ds : List D} {bs : List Int}, MP.nums ds = some bs → ds = bs.map D.int
  | [], bs, e => by cases e; rfl
  | .int b :: r, bs, e => by
    unfold MP.nums at e
    cases q : MP.nums r with
    | none => rw [q] at e; cases e
    | some cs => rw [q] at e; cases e; rw [ints_map q]; rfl
  | .non :: _, _, e | .bl _ :: _, _, e | .str _ :: _, _, e | .tup _ :: _, _, e | .ref _ :: _, _, e | .glo _ :: _, _, e | .ty _ :: _, _, e | .clo _ _ :: _, _, e => by cases e
theorem RVs.bls {H : Hp} : ∀ {bs : List Bool} {vs : List V}, RVs G H (bs.map D.bl) vs → vs = bs.map V.bl
  | [], _, h => h
  | b :: bs, _, h => by
    obtain ⟨v, r, rfl, a, b⟩ := h
    rw [show v = _ from a, RVs.bls b]; rfl
theorem RVs.nums {H : Hp} : ∀ {bs : List Int} {vs : List V}, RVs G H (bs.map D.int) vs → vs = bs.map V.int
  | [], _, h => h
  | b :: bs, _, h => by
    obtain ⟨v, r, rfl, a, b⟩ := h
    rw [show v = _ from a, RVs.nums b]; rfl
/-- .. of a list -/
def rl (G : Gx) (f : List D → Mem → VQ → Prop) : V → Hp → VK → Prop := fun x H Q => ∃ M ds vs p Qd, x = .ref p ∧ SqL G.K H p vs ∧ RVs G H ds vs ∧ RM G H M ∧ f ds M Qd ∧ ∀ v H', QV G M H Qd v H' → Q v H'
theorem all_w (g : XG X G k) : CallR X (.builtin "all") (fun xs H Q => ∃ x, xs = [x] ∧ rl G (fun ds M Q => match bools ds with | some bs => Q (.bl (bs.all id)) M | none => False) x H Q) := by
  intro pins s σ H xs us Q I r ⟨x, e, M, ds, vs, p, Qd, e2, sq, hv, rm, h, i⟩
  subst e e2
  dsimp only at h
  cases q : bools ds with
  | none => rw [q] at h; exact h.elim
  | some bs =>
    rw [q] at h
    rw [bools_map q] at hv
    rw [hv.bls] at sq
    exact cr_all g.calm pins s σ H _ us Q I r ⟨p, bs, rfl, by rw [g.K]; exact sq, i _ _ (.bl rm h)⟩
theorem RVs.get' {H : Hp} : ∀ {ds : List D} {vs : List V} {i : Nat} {v : V}, RVs G H ds vs → vs[i]? = some v → ∃ d, ds[i]? = some d ∧ RV G H d v
  | [], _, _, _, h, e => by rw [show _ = [] from h] at e; simp at e
  | d :: _, _, 0, _, h, e => by
    obtain ⟨v, r, rfl, a, _⟩ := h
    simp at e
    subst e
    exact ⟨d, rfl, a⟩
  | _ :: _, _, i + 1, _, h, e => by
    obtain ⟨v, r, rfl, _, b⟩ := h
    obtain ⟨u, e1, e2⟩ := RVs.get' (i := i) b (by simpa using e)
    exact ⟨u, by simpa using e1, e2⟩
theorem Vals.back : ∀ {xs : List V} {us : List Value} {i : Nat} {u : Value}, Vals xs us → us[i]? = some u → ∃ x, xs[i]? = some x ∧ RelV x u
  | _, _, _, _, .nil, e => by simp at e
  | _, _, 0, _, .cons r _, e => by simp at e; subst e; exact ⟨_, rfl, r⟩
  | _, _, i + 1, _, .cons _ rs, e => by simpa using Vals.back rs (by simpa using e)
theorem truths_get : ∀ {ds : List D} {bs : List Bool} {i : Nat} {d : D}, truths ds = some bs → ds[i]? = some d → (∃ b, d = .bl b ∧ bs[i]? = some b) ∨ ∃ j : Int, d = .int j ∧ bs[i]? = some (decide (j ≠ 0))
  | [], _, _, _, _, e => by simp at e
  | .bl b :: r, _, i, d, h, e => by
    rw [truths] at h
    obtain ⟨bs, h1, rfl⟩ := Option.map_eq_some_iff.mp h
    cases i with
    | zero => simp at e; exact .inl ⟨b, e.symm, rfl⟩
    | succ i => simpa using truths_get h1 (by simpa using e)
  | .int j :: r, _, i, d, h, e => by
    rw [truths] at h
    obtain ⟨bs, h1, rfl⟩ := Option.map_eq_some_iff.mp h
    cases i with
    | zero => simp at e; exact .inr ⟨j, e.symm, by simp⟩
    | succ i => simpa using truths_get h1 (by simpa using e)
  | .non :: _, _, _, _, h, _ | .str _ :: _, _, _, _, h, _ | .tup _ :: _, _, _, _, h, _ | .ref _ :: _, _, _, _, h, _ | .glo _ :: _, _, _, _, h, _ | .ty _ :: _, _, _, _, h, _ | .clo _ _ :: _, _, _, _, h, _ => by simp [truths] at h
theorem truths_len : ∀ {ds : List D} {bs : List Bool}, truths ds = some bs → bs.length = ds.length
  | [], _, h => by simp [truths] at h; subst h; rfl
  | .bl b :: r, _, h => by
    rw [truths] at h
    obtain ⟨bs, h1, rfl⟩ := Option.map_eq_some_iff.mp h
    simp [truths_len h1]
  | .int j :: r, _, h => by
    rw [truths] at h
    obtain ⟨bs, h1, rfl⟩ := Option.map_eq_some_iff.mp h
    simp [truths_len h1]
  | .non :: _, _, h | .str _ :: _, _, h | .tup _ :: _, _, h | .ref _ :: _, _, h | .glo _ :: _, _, h | .ty _ :: _, _, h | .clo _ _ :: _, _, h => by simp [truths] at h
theorem any_w (g : XG X G k) : CallR X (.builtin "any") (fun xs H Q => ∃ x, xs = [x] ∧ rl G (fun ds M Q => match truths ds with | some bs => Q (.bl (bs.any id)) M | none => False) x H Q) := by
  intro pins s σ H xs us Q I r ⟨x, e, M, ds, vs, p, Qd, e2, sq, hv, rm, h, i⟩
  subst e e2
  dsimp only at h
  cases q : truths ds with
  | none => rw [q] at h; exact h.elim
  | some bs =>
    rw [q] at h
    rw [← g.K] at sq
    obtain ⟨its, rv, hl, _⟩ := I.list sq
    rw [Vals.ref1 r]
    have hlen : its.length = bs.length := by rw [← rv.length, ← hv.length, truths_len q]
    refine PySem.call_any_walk (iter_any hl.isList fun s₂ e2 st hne => ?_)
    subst e2
    refine ⟨_, _, _, _, _, _, _, rfl, Walks.list (A := X.A.in1) (I.ok.hd g.calm) _ p hne its.toArray, st, (fun j u s3 Q3 E3 hu hq => ?_ : TruthOf X.prog X.w X.A.in1 (fun i v => its.toArray[i]? = some v) (fun i => bs.getD i false)), fun h' tk hk => ?_⟩
    · have hu' : its[j]? = some u := by simpa using hu
      obtain ⟨v, q1, q2⟩ := Vals.back rv hu'
      obtain ⟨d, q3, q4⟩ := hv.get' q1
      have hq' : Q3 (bs.getD j false) s3 := hq
      rcases truths_get q q3 with ⟨b, rfl, hb⟩ | ⟨n, rfl, hb⟩
      · rw [List.getD_eq_getElem?_getD, hb] at hq'
        rw [show v = _ from q4] at q2
        rw [show u = _ from q2]
        exact wpAny_truthy_bool hq'
      · rw [List.getD_eq_getElem?_getD, hb] at hq'
        rw [show v = _ from q4] at q2
        obtain ⟨t, rfl⟩ := q2
        refine PySem.P.truthy_int ?_
        have e : (n != 0) = decide (n ≠ 0) := by by_cases z : n = 0 <;> simp [z]
        rw [e]
        exact hq'
    · refine ⟨.bl (bs.any id), H, I.kept fun b o eo => hk b o (fun hmem => ?_) (Heap.get?_push_of_some _ eo), ?_, i _ _ (.bl rm h)⟩
      · rcases List.mem_cons.mp hmem with e1 | hmem
        · exact absurd (e1 ▸ Heap.lt_size eo) (Nat.lt_irrefl _)
        · cases hmem
      · show Value.bool _ = Value.bool _
        rw [← any_range, List.size_toArray, hlen]
theorem sum_w (g : XG X G k) : CallR X (.builtin "sum") (fun xs H Q => ∃ x, xs = [x] ∧ rl G (fun ds M Q => match MP.nums ds with | some is => Q (.int is.sum) M | none => False) x H Q) := by
  intro pins s σ H xs us Q I r ⟨x, e, M, ds, vs, p, Qd, e2, sq, hv, rm, h, i⟩
  subst e e2
  dsimp only at h
  cases q : MP.nums ds with
  | none => rw [q] at h; exact h.elim
  | some bs =>
    rw [q] at h
    rw [ints_map q] at hv
    rw [hv.nums] at sq
    exact cr_sum g.calm pins s σ H _ us Q I r ⟨p, bs, rfl, by rw [g.K]; exact sq, i _ _ (.int rm h)⟩
theorem leastI_mem : ∀ (xs : List Int) (x : Int), leastI x xs ∈ x :: xs ∧ ∀ y ∈ x :: xs, leastI x xs ≤ y
  | [], x => ⟨by simp [leastI], by simp [leastI]⟩
  | z :: zs, x => by
    have ⟨a, b⟩ := leastI_mem zs (if z < x then z else x)
    rw [show leastI x (z :: zs) = leastI (if z < x then z else x) zs from rfl]
    generalize leastI (if z < x then z else x) zs = m at a b
    have b0 := b _ List.mem_cons_self
    constructor
    · rcases List.mem_cons.mp a with q | q
      · rw [q]; split <;> simp
      · exact List.mem_cons_of_mem _ (List.mem_cons_of_mem _ q)
    · intro y hy
      rcases List.mem_cons.mp hy with q | hy
      · split at b0 <;> omega
      · rcases List.mem_cons.mp hy with q | hy
        · split at b0 <;> omega
        · exact b y (List.mem_cons_of_mem _ hy)
theorem mostI_mem : ∀ (xs : List Int) (x : Int), mostI x xs ∈ x :: xs ∧ ∀ y ∈ x :: xs, y ≤ mostI x xs
  | [], x => ⟨by simp [mostI], by simp [mostI]⟩
  | z :: zs, x => by
    have ⟨a, b⟩ := mostI_mem zs (if x < z then z else x)
    rw [show mostI x (z :: zs) = mostI (if x < z then z else x) zs from rfl]
    generalize mostI (if x < z then z else x) zs = m at a b
    have b0 := b _ List.mem_cons_self
    constructor
    · rcases List.mem_cons.mp a with q | q
      · rw [q]; split <;> simp
      · exact List.mem_cons_of_mem _ (List.mem_cons_of_mem _ q)
    · intro y hy
      rcases List.mem_cons.mp hy with q | hy
      · split at b0 <;> omega
      · rcases List.mem_cons.mp hy with q | hy
        · split at b0 <;> omega
        · exact b y (List.mem_cons_of_mem _ hy)
theorem least_w (g : XG X G k) : CallR X (.builtin "min") (fun xs H Q => ∃ x, xs = [x] ∧ rl G (fun ds M Q => match MP.nums ds with | some (i :: is) => Q (.int (leastI i is)) M | _ => False) x H Q) := by
  intro pins s σ H xs us Q I r ⟨x, e, M, ds, vs, p, Qd, e2, sq, hv, rm, h, i⟩
  subst e e2
  dsimp only at h
  cases q : MP.nums ds with
  | none => rw [q] at h; exact h.elim
  | some bs =>
    rw [q] at h
    rw [ints_map q] at hv
    rw [hv.nums] at sq
    cases bs with
    | nil => exact h.elim
    | cons b bs =>
      have ⟨m1, m2⟩ := leastI_mem bs b
      refine cr_min g.calm pins s σ H _ us Q I r ⟨p, b :: bs, rfl, by rw [g.K]; exact sq, Nat.succ_pos _, fun m hm hl => ?_⟩
      have : m = leastI b bs := Int.le_antisymm (hl _ m1) (m2 _ hm)
      rw [this]
      exact i _ _ (.int rm h)
theorem most_w (g : XG X G k) : CallR X (.builtin "max") (fun xs H Q => ∃ x, xs = [x] ∧ rl G (fun ds M Q => match MP.nums ds with | some (i :: is) => Q (.int (mostI i is)) M | _ => False) x H Q) := by
  intro pins s σ H xs us Q I r ⟨x, e, M, ds, vs, p, Qd, e2, sq, hv, rm, h, i⟩
  subst e e2
  dsimp only at h
  cases q : MP.nums ds with
  | none => rw [q] at h; exact h.elim
  | some bs =>
    rw [q] at h
    rw [ints_map q] at hv
    rw [hv.nums] at sq
    cases bs with
    | nil => exact h.elim
    | cons b bs =>
      have ⟨m1, m2⟩ := mostI_mem bs b
      refine cr_max g.calm pins s σ H _ us Q I r ⟨p, b :: bs, rfl, by rw [g.K]; exact sq, Nat.succ_pos _, fun m hm hl => ?_⟩
      have : m = mostI b bs := Int.le_antisymm (m2 _ hm) (hl _ m1)
      rw [this]
      exact i _ _ (.int rm h)
end
end MP
end
section
/-! MP5: operations, third part: classes, fields, membership, methods, dicts, sorting. -/
namespace MP
open PySem PySem.Spec L2

theorem kitTT (K : PySem.W.Frag) : ∀ a ∈ "NoneType" :: tyNames, ∀ t ∈ tyNames, PySem.W.kitOne K (.type a) (.type t) = some (a == t || (a == "bool" && t == "int")) := by
  simp only [tyNames, List.forall_mem_cons, List.not_mem_nil, false_implies, implies_true, and_true]
  refine ⟨?_, ?_, ?_, ?_, ?_, ?_, ?_⟩ <;> refine ⟨?_, ?_, ?_, ?_, ?_, ?_⟩ <;> kernel_rfl

section
variable {X : Cx} {G : Gx} {k : Nat}
/-- a class as a value -/
def clsV (G : Gx) (t : String) (c : V) : Prop := (t ∈ tyNames ∧ c = .ty t) ∨ ∃ C, G.cls t = some C ∧ c = .ref C
theorem isi_b (g : XG X G k) {pins : List (Addr × Obj)} {σ : St} {H : Hp} {s : Shared} {x c : V} {t a : String} {us : List Value} {b : Bool} {Q : VK} (I : Inv X pins σ H s) (r : Vals [x, c] us) (hc : clsV G t c) (ha : a ∈ "NoneType" :: tyNames)
    (ty : TyX X.K H x (.type a)) (e : b = (a == t || (a == "bool" && t == "int"))) (q : Q (.bl b) H) : wpAny (model X.prog X.w) X.A (call (.builtin "isinstance") us) (EP X pins σ Q) X.xe s := by
  rcases hc with ⟨ht, rfl⟩ | ⟨C, hC, rfl⟩
  · exact call_isi pins s σ H _ us Q I r ⟨x, _, _, _, b, rfl, .ty t, ty, by rw [kitTT _ a ha t ht, e], q⟩
  · have ne := g.gf.own t C a hC ha
    have h1 : b = false := by
      rw [e]
      have : (a == t) = false := beq_eq_false_iff_ne.mpr fun z => ne z.symm
      rw [this]
      by_cases h : t = "int"
      · exact absurd h (g.gf.own t C "int" hC (by simp [tyNames]))
      · have : (t == "int") = false := beq_eq_false_iff_ne.mpr h
        rw [this]; simp
    exact call_isi pins s σ H _ us Q I r ⟨x, _, _, _, b, rfl, .own C, ty, by rw [h1, g.K]; exact g.gf.isB t C a hC ha, q⟩
theorem isi_w (g : XG X G k) (t : String) : CallR X (.builtin "isinstance") (fun xs H Q => ∃ x c, xs = [x, c] ∧ clsV G t c ∧ r1 G (fun d M Q => match isType M d t with | some b => Q (.bl b) M | none => False) x H Q) := by
  intro pins s σ H xs us Q I r ⟨x, c, e, hc, M, d, Qd, rm, rd, h, i⟩
  subst e
  dsimp only at h
  cases q : isType M d t with
  | none => rw [q] at h; exact h.elim
  | some b =>
    rw [q] at h
    have fin := i _ _ (.bl rm h)
    unfold isType at q
    split at q
    · cases q
      rw [show x = _ from rd] at r
      refine isi_b g I r hc (a := "NoneType") (by simp) (.base .non) ?_ fin
      rcases hc with ⟨ht, _⟩ | ⟨C, hC, _⟩
      · simp [tyNames] at ht
        rcases ht with rfl | rfl | rfl | rfl | rfl | rfl <;> rfl
      · have : ("NoneType" == t) = false := beq_eq_false_iff_ne.mpr fun z => g.gf.own t C "NoneType" hC (by simp) z.symm
        rw [this]; rfl
    · cases q
      rw [show x = _ from rd] at r
      refine isi_b g I r hc (a := "bool") (by simp [tyNames]) (.base (.bl _)) ?_ fin
      rw [Bool.beq_comm (a := "bool")]; simp [Bool.beq_comm]
    · cases q
      rw [show x = _ from rd] at r
      refine isi_b g I r hc (a := "int") (by simp [tyNames]) (.base (.int _)) ?_ fin
      rw [Bool.beq_comm (a := "int")]; simp
    · cases q
      rw [show x = _ from rd] at r
      refine isi_b g I r hc (a := "str") (by simp [tyNames]) (.base (.str _)) ?_ fin
      rw [Bool.beq_comm (a := "str")]; simp
    · cases q
      obtain ⟨p, vs, rfl, sq, hv⟩ := rd
      have ty : TyX X.K H (.ref p) (.type "tuple") := by
        rcases sq with (z | ⟨o, z⟩) | ⟨o, its, n, z, zc, _⟩
        · exact .base (.tup z)
        · exact .fTuple z
        · exact .kTuple (by rw [g.K]; exact z) zc
      refine isi_b g I r hc (a := "tuple") (by simp [tyNames]) ty ?_ fin
      rw [Bool.beq_comm (a := "tuple")]; simp
    · rename_i a
      rw [show x = _ from rd] at r
      split at q
      · rename_i c' fs e1
        cases q
        obtain ⟨u, hu, C', dx, vfs, hC', e2, hf⟩ := rm a _ e1
        subst e2
        have ok := g.gf.cl c' C' hC'
        rw [← g.K] at ok
        have ty : TyX X.K H (.ref a) (.ref C') := .base (.ins hu ok.cl ok.ca ok.cg ok.ct ok.cm)
        rcases hc with ⟨ht, rfl⟩ | ⟨C, hC, rfl⟩
        · refine call_isi pins s σ H _ us Q I r ⟨_, _, _, _, _, rfl, .ty t, ty, by rw [g.K]; exact g.gf.isA c' C' t hC' ht, ?_⟩
          have : (t == c') = false := beq_eq_false_iff_ne.mpr fun z => g.gf.own c' C' t hC' (List.mem_cons_of_mem _ ht) z.symm
          rw [this] at fin
          exact fin
        · refine call_isi pins s σ H _ us Q I r ⟨_, _, _, _, _, rfl, .own C, ty, by rw [g.K]; exact g.gf.isC c' C' t C hC' hC, ?_⟩
          have : decide (c' = t) = (t == c') := by
            by_cases h : c' = t
            · subst h; simp
            · rw [decide_eq_false h]; exact (beq_eq_false_iff_ne.mpr fun z => h z.symm).symm
          rw [this]
          exact fin
      · split at q
        · rename_i ds e1
          cases q
          obtain ⟨vs, hr, hv⟩ := rm.rdL e1
          have ty : TyX X.K H (.ref a) (.type "list") := by
            rcases hr with z | ⟨o, z⟩
            · exact .base (.lst z)
            · exact .base (.frz z)
          refine isi_b g I r hc (a := "list") (by simp [tyNames]) ty ?_ fin
          rw [Bool.beq_comm (a := "list")]; simp
        · rename_i kvs e1
          cases q
          obtain ⟨xs, dm, _⟩ := rd_dict I g rm e1
          obtain ⟨es, ep, ⟨o, ho, hx, hdat⟩, he⟩ := dm.ob
          obtain ⟨u1, u2, rfl, r1, r2⟩ := vals2 r
          rw [show u1 = _ from r1]
          rcases hc with ⟨ht, rfl⟩ | ⟨C, hC, rfl⟩
          · rw [show u2 = _ from r2]
            refine PySem.W.kia_one PySem.W.kitx_dict I.kIn ⟨o, ho, hx.1⟩ (kitTT X.K "dict" (by simp [tyNames]) t ht) (fun z => nomatch z) fun tk => ⟨.bl _, H, I.tok tk, rfl, ?_⟩
            rw [Bool.beq_comm (a := t)] at fin
            simpa using fin
          · rw [show u2 = _ from r2]
            refine PySem.W.kia_one PySem.W.kitx_dict I.kIn ⟨o, ho, hx.1⟩ (by rw [g.K]; exact g.gf.isB t C "dict" hC (by simp [tyNames])) (fun z => nomatch z) fun tk => ⟨.bl _, H, I.tok tk, rfl, ?_⟩
            have : (t == "dict") = false := beq_eq_false_iff_ne.mpr (g.gf.own t C "dict" hC (by simp [tyNames]))
            rw [this] at fin
            exact fin
        · cases q
    · cases q
end
end MP
end
section
/-! MP6: operations, fourth part: fields, membership, methods, dicts, sorting. -/
namespace MP
open PySem PySem.Spec L2
section
variable {X : Cx} {G : Gx} {k : Nat}
/-! ### fields -/
theorem fld_w (g : XG X G k) {f : String} (hf : f ∈ G.flds) {b : Bool} : ∀ (pins : List (Addr × Obj)) (s : Shared) (σ : St) (H : Hp) (x : V) (v : Value) (Q : VK), Inv X pins σ H s → RelV x v → r1 G (fun o M Q => wFld o f M Q) x H Q →
    wpAny (model X.prog X.w) X.A (getAttr v (Str.ofString f) b) (EP X pins σ Q) X.xe s := by
  intro pins s σ H x v Q I rx ⟨M, d, Qd, rm, rd, h, i⟩
  dsimp only [wFld] at h
  split at h
  · rename_i a
    rw [show x = _ from rd] at rx
    rw [show v = _ from rx]
    split at h
    · rename_i c fs e1
      obtain ⟨u, hu, C, dx, vfs, hC, e2, hv⟩ := rm a _ e1
      subst e2
      split at h
      · rename_i d hd
        obtain ⟨w, hl, hw⟩ := hv.get hd
        refine getattr_ok I hu (by rw [g.K]; exact (g.gf.cl c C hC).cl) (by rw [g.K]; exact g.gf.na c C f hC hf) hl fun u s' I' ru => ⟨w, H, I', ru, i _ _ (.same hw rm h)⟩
      · exact h.elim
    · exact h.elim
  · exact h.elim
/-- a statement's end: the memory -/
def QM (G : Gx) (M : Mem) (H : Hp) (R : Mem → Prop) : Hp → Prop := fun H' => ∃ M', RM G H' M' ∧ Stp M H M' H' ∧ R M'
theorem setfld_w (g : XG X G k) {f : String} (hf : f ∈ G.flds) {pins : List (Addr × Obj)} {σ : St} {H : Hp} {s : Shared} {M : Mem} {o d : D} {x y : V} {v u : Value} {R : Mem → Prop} (I : Inv X pins σ H s) (rm : RM G H M) (rd : RV G H o x) (rx : RelV x v) (re : RV G H d y) (ry : RelV y u)
    (h : wSetFld o f d M R) : wpAny (model X.prog X.w) X.A (setAttr v (Str.ofString f) u) (fun _ s' => ∃ H', Inv X pins σ H' s' ∧ QM G M H R H') X.xe s := by
  unfold wSetFld at h
  split at h
  · rename_i a
    rw [show x = _ from rd] at rx
    rw [show v = _ from rx]
    split at h
    · rename_i c fs e1
      obtain ⟨hz, h⟩ := h
      obtain ⟨w, hu, C, dx, vfs, hC, e2, hv⟩ := rm a _ e1
      subst e2
      refine setattr_ok I hu (by rw [g.K]; exact (g.gf.cl c C hC).cl) (by rw [g.K]; exact g.gf.na c C f hC hf) (by rw [← hv.length]; omega) ry fun s' I' => ⟨_, I', _, rm.chg (m' := .ins c (fput fs f d)) g.ok e1 ⟨C, dx, _, hC, rfl, (hv.put re).mono g.ok (.chg rm e1)⟩, .chg rm e1, h⟩
    · exact h.elim
  · exact h.elim
/-! ### membership -/
theorem pds_any {x : D} {n : Nat} (hx : D.ok n x = true) : ∀ {m : Nat} {ds : List D}, D.oks m ds = true → (pds ds).any (fun y => PyData.eqv y (pd x)) = ds.any fun d => D.eqv d x
  | _, [], _ => by simp [pds]
  | m, d :: ds, h => by
    rw [D.oks, Bool.and_eq_true] at h
    rw [pds, List.any_cons, List.any_cons, pd_eqv h.1 hx, pds_any hx h.2]
def r2q (G : Gx) (f : D → List D → Mem → VQ → Prop) : R2 := fun x y H Q => ∃ M d ds vs p Qd, RV G H d x ∧ y = .ref p ∧ (SqL G.K H p vs ∨ SqT G.K H p vs) ∧ RVs G H ds vs ∧ RM G H M ∧ f d ds M Qd ∧ ∀ v H', QV G M H Qd v H' → Q v H'
theorem in_w (g : XG X G k) (n : Bool) : OpR X (compareOp (if n = true then .NotIn else .In)) (r2q G fun x ds M Q => D.ok 60 x = true ∧ D.oks 60 ds = true ∧ Q (.bl (n != ds.any fun d => D.eqv d x)) M) := by
  intro pins s σ H x y v u Q I rx ry ⟨M, d, ds, vs, p, Qd, rd, e, sq, hv, rm, ⟨h1, h2, h3⟩, i⟩
  subst e
  rw [show u = _ from ry]
  have hu := g.units
  have r := reads I g.K h1 rd rx
  have hd := pd_depth h1
  have hm : X.A.units + 1 + min (PyData.depthAll (pds ds)) (pd d).depth < cLine := by have := Nat.min_le_right (PyData.depthAll (pds ds)) (pd d).depth; omega
  have hany := pds_any h1 h2
  cases n with
  | false =>
    rw [show (if (false = true) then CmpOp.NotIn else .In) = .In from rfl]
    have fin : EP X pins σ Q (.bool ((pds ds).any fun y => PyData.eqv y (pd d))) s := by
      rw [hany]
      refine ⟨.bl _, H, I, rfl, i _ _ (.bl rm ?_)⟩
      simpa using h3
    rcases sq with z | z
    · exact SeqAt.in_list_data (reads_list I g.K h2 z hv) r (pds_plain _) (pd_plain _) hm fin
    · exact SeqAt.in_tuple_data (reads_tuple I g.K h2 z hv) r (pds_plain _) (pd_plain _) hm fin
  | true =>
    rw [if_pos rfl]
    have fin : EP X pins σ Q (.bool (!(pds ds).any fun y => PyData.eqv y (pd d))) s := by
      rw [hany]
      refine ⟨.bl _, H, I, rfl, i _ _ (.bl rm ?_)⟩
      simpa using h3
    rcases sq with z | z
    · exact SeqAt.notIn_list_data (reads_list I g.K h2 z hv) r (pds_plain _) (pd_plain _) hm fin
    · exact SeqAt.notIn_tuple_data (reads_tuple I g.K h2 z hv) r (pds_plain _) (pd_plain _) hm fin
theorem RX.isSm {H : Hp} {k : D} {kvs : List (D × D)} {xs : XS} (r : RX G H kvs xs) (hk : D.key k = true) (hks : ∀ p ∈ kvs, D.okey p.1 = true) : (lookX xs (nk k)).isSome = (MP.look kvs k).isSome := by
  have ⟨a, b⟩ := r.look hk hks
  cases q : MP.look kvs k with
  | none => rw [b q]; rfl
  | some d =>
    obtain ⟨v, u, e, _⟩ := a d q
    rw [e]; rfl
theorem ind_w (g : XG X G k) (n : Bool) : OpR X (compareOp (if n = true then .NotIn else .In)) (r2 G (wInD n)) := by
  intro pins s σ H x y v u Q I rx ry ⟨M, d, e, Qd, rm, rd, re, h, i⟩
  unfold wInD at h
  have hu := g.units
  split at h
  · rename_i p
    rw [show y = _ from re] at ry
    rw [show u = _ from ry]
    split at h
    · rename_i kvs e1
      obtain ⟨hk, h⟩ := h
      obtain ⟨xs, dm, rxs, hsy, hl, hks, nd⟩ := rd_dict I g rm e1
      have kn := nested I g.K (okey_key hk) rd rx
      have hs := rxs.isSm (okey_key hk) hks
      cases n with
      | false =>
        refine in_m (by omega) hsy kn (okey_depth hk) dm ⟨.bl _, H, I.tok _, rfl, i _ _ (.bl rm ?_)⟩
        rw [hs]; simpa using h
      | true =>
        refine notin_m (by omega) hsy kn (okey_depth hk) dm ⟨.bl _, H, I.tok _, rfl, i _ _ (.bl rm ?_)⟩
        rw [hs]; simpa using h
    · exact h.elim
  · exact h.elim
/-! ### methods of lists -/
/-- a list of the memory is changed -/
theorem QV.lst {M : Mem} {H : Hp} {Q : VQ} {p : Addr} {ds es : List D} {vs us : List V} {v : V} {d : D} (g : GOk G) (rm : RM G H M) (e : M p = some (.lst ds)) (r : RVs G H es us) (rv : RV G H d v) (q : Q d (M.set p (.lst es))) : QV G M H Q v (upd H p (.lst us)) :=
  ⟨d, _, rv.mono g (.chg rm e), rm.chg (m' := .lst es) g e ⟨us, rfl, r.mono g (.chg rm e)⟩, .chg rm e, q⟩
theorem pop_w (g : XG X G k) : MtR X "list.pop" (fun x xs H Q => xs = [] ∧ r1 G wPop x H Q) := by
  intro pins s σ H x xs v us Q I rx r ⟨e, M, d, Qd, rm, rd, h, i⟩
  subst e
  unfold wPop at h
  split at h
  · rename_i p
    rw [show x = _ from rd] at rx
    split at h
    · rename_i ds e1
      obtain ⟨w, hu, vs, e2, hv⟩ := rm p _ e1
      subst e2
      split at h
      · rename_i c hc
        rw [List.getLast?_eq_getElem?] at hc
        obtain ⟨y, h1, h2⟩ := hv.get hc
        rw [hv.length] at h1
        exact mt_pop pins s σ H _ [] v us Q I rx r ⟨p, vs, y, rfl, rfl, hu, h1, i _ _ (.lst (vs := vs) g.ok rm e1 hv.dropLast h2 h)⟩
      · exact h.elim
    · exact h.elim
  · exact h.elim
theorem append_w (g : XG X G k) : MtR X "list.append" (fun x xs H Q => ∃ y, xs = [y] ∧ r2 G wAppend x y H Q) := by
  intro pins s σ H x xs v us Q I rx r ⟨y, e, M, d, dy, Qd, rm, rd, re, h, i⟩
  subst e
  unfold wAppend at h
  split at h
  · rename_i p
    rw [show x = _ from rd] at rx
    split at h
    · rename_i ds e1
      obtain ⟨w, hu, vs, e2, hv⟩ := rm p _ e1
      subst e2
      obtain ⟨hz, h⟩ := h
      exact mt_append pins s σ H _ _ v us Q I rx r ⟨p, vs, y, rfl, rfl, hu, by rw [← line_eq, ← hv.length]; exact hz, i _ _ (.lst (vs := vs) (d := .non) g.ok rm e1 (hv.append (RVs.one re)) rfl h)⟩
    · exact h.elim
  · exact h.elim
theorem reverse_w (g : XG X G k) : MtR X "list.reverse" (fun x xs H Q => xs = [] ∧ r1 G wReverse x H Q) := by
  intro pins s σ H x xs v us Q I rx r ⟨e, M, d, Qd, rm, rd, h, i⟩
  subst e
  unfold wReverse at h
  split at h
  · rename_i p
    rw [show x = _ from rd] at rx
    split at h
    · rename_i ds e1
      obtain ⟨w, hu, vs, e2, hv⟩ := rm p _ e1
      subst e2
      exact mt_reverse pins s σ H _ [] v us Q I rx r ⟨p, vs, rfl, rfl, hu, i _ _ (.lst (vs := vs) (d := .non) g.ok rm e1 hv.reverse rfl h)⟩
    · exact h.elim
  · exact h.elim
/-- two things: a value and a list that is tracked as it is -/
def r2l (G : Gx) (f : D → List D → Mem → VQ → Prop) : R2 := fun x y H Q => ∃ M d ds vs p Qd, RV G H d x ∧ y = .ref p ∧ H p = some (.lst vs) ∧ RVs G H ds vs ∧ RM G H M ∧ f d ds M Qd ∧ ∀ v H', QV G M H Qd v H' → Q v H'
theorem extend_w (g : XG X G k) : MtR X "list.extend" (fun x xs H Q => ∃ y, xs = [y] ∧ r2l G wExtend x y H Q) := by
  intro pins s σ H x xs v us Q I rx r ⟨y, e, M, d, es, ws, q, Qd, rd, e3, hq, hw, rm, h, i⟩
  subst e e3
  unfold wExtend at h
  split at h
  · rename_i p
    rw [show x = _ from rd] at rx
    split at h
    · rename_i ds e1
      obtain ⟨w, hu, vs, e2, hv⟩ := rm p _ e1
      subst e2
      obtain ⟨hz, h⟩ := h
      have hl := (hv.append hw).length
      rw [List.length_append (as := vs)] at hl
      exact mt_extend pins s σ H _ _ v us Q I rx r ⟨p, q, vs, ws, rfl, rfl, hu, hq, by rw [← line_eq]; omega, i _ _ (.lst (vs := vs) (d := .non) g.ok rm e1 (hv.append hw) rfl h)⟩
    · exact h.elim
  · exact h.elim
/-! ### storing -/
theorem RU.dct {H : Hp} {p : Addr} {kvs : List (D × D)} {xs : XS} {es : Array DictEntry} {ep : Nat} (he : es.toList = xs.map (ent G.w)) (rx : RX G H kvs xs) (hs : (p == sysModules) = false) (hl : kvs.length ≤ line) (hk : ∀ q ∈ kvs, D.okey q.1 = true) (nd : (kvs.map (·.1)).Nodup) :
    RU G H p (.dct kvs) (.ext fun h => h.DictRaw p es ep) := ⟨xs, es, ep, rfl, he, rx, hs, hl, hk, nd⟩
/-- a dict of the memory is changed -/
theorem Inv.dict {pins : List (Addr × Obj)} {σ : St} {H : Hp} {s : Shared} {p : Addr} {o : HO} {h' : Heap} {es : Array DictEntry} {ep : Nat} (I : Inv X pins σ H s) (hm : Mut (H p)) (hr : h'.DictRaw p es ep) (sb : Heap.SameBut p s.heap h') (n : Nat) :
    Inv X pins σ (upd H p (.ext fun h => h.DictRaw p es ep)) { s with heap := h', toks := n } := by
  obtain ⟨o, ho, hx⟩ := id hr
  refine I.write (e := p) (t' := n) hm (.inl rfl) (fun b u hb q => (sb.2 b hb).trans q) ⟨o, ho⟩ ⟨hr, ⟨o, ho⟩, fun h1 h2 ⟨o1, a, b⟩ k => ⟨o1, k _ a, b⟩⟩
theorem setix_w (g : XG X G k) {pins : List (Addr × Obj)} {σ : St} {H : Hp} {s : Shared} {M : Mem} {o d c : D} {x y z : V} {v u w : Value} {R : Mem → Prop} (I : Inv X pins σ H s) (rm : RM G H M) (rd : RV G H o x) (rx : RelV x v) (re : RV G H d y) (ry : RelV y u) (rc : RV G H c z) (rz : RelV z w)
    (h : wSetIx o d c M R) : wpAny (model X.prog X.w) X.A (setItem v u w) (fun _ s' => ∃ H', Inv X pins σ H' s' ∧ QM G M H R H') X.xe s := by
  unfold wSetIx at h
  have hu := g.units
  split at h
  · rename_i p
    rw [show x = _ from rd] at rx
    split at h
    · rename_i ds e1
      split at h
      · rename_i j
        rw [show y = _ from re] at ry
        split at h
        · rename_i n hn
          obtain ⟨_, hp, vs, e2, hv⟩ := rm p _ e1
          subst e2
          rw [hv.length] at hn
          refine set_list pins s σ H _ _ z v u w _ I rx ry rz ⟨p, vs, j, n, rfl, rfl, hp, hn, ?_⟩
          exact ⟨_, rm.chg (m' := .lst (ds.set n c)) g.ok e1 ⟨_, rfl, (RVs.set rc n hv).mono g.ok (.chg rm e1)⟩, .chg rm e1, h⟩
        · exact h.elim
      · exact h.elim
    · rename_i kvs e1
      obtain ⟨hk, hl, h⟩ := h
      have e1' : M.rd p = some (.dct kvs) := by unfold Mem.rd; rw [e1]
      obtain ⟨xs, dm, rxs, hsy, _, hks, nd⟩ := rd_dict I g rm e1'
      have kn := nested I g.K (okey_key hk) re ry
      have hm : Mut (H p) := by
        obtain ⟨_, hp, _, _, _, rfl, _⟩ := rm p _ e1
        rw [hp]; exact True.intro
      rw [show v = _ from rx]
      refine store_m (by omega) kn (okey_depth hk) dm (by rw [← rxs.length, ← line_eq]; omega) fun h' dm' sb ho => ?_
      obtain ⟨es, ep, hr, he⟩ := dm'.ob
      have rx' := rxs.put (okey_key hk) ry re rz rc hks
      refine ⟨_, Inv.dict (o := .lst []) I hm hr sb _, M.set p (.dct (put kvs d c)), rm.chg g.ok e1 ?_, .chg rm e1, h⟩
      refine RU.dct (by rw [← g.w]; exact he) (rx'.mono g.ok (.chg rm e1)) hsy (by have := put_len (k := d) (v := c) kvs; omega) (fun q hq => ?_) (put_nd nd)
      rcases put_mem hq with ⟨q', hq', e⟩ | e
      · rw [e]; exact hks q' hq'
      · rw [e]; exact hk
    · exact h.elim
  · exact h.elim
end
end MP
end
section
/-! MP7: operations, fifth part: dicts as lists, dict.get, dict.pop, sorting, int, abs. -/
namespace MP
open PySem PySem.Spec L2
section
variable {X : Cx} {G : Gx} {k : Nat}
/-! ### list(d) -/
theorem RX.kvals {H : Hp} : ∀ {kvs : List (D × D)} {xs : XS}, RX G H kvs xs → ∃ vs, RVs G H (kvs.map (·.1)) vs ∧ Vals vs (xs.map (·.2.1))
  | [], _, h => by rw [show _ = [] from h]; exact ⟨[], rfl, .nil⟩
  | p :: ps, _, h => by
    obtain ⟨kv, vv, ku, vu, r, rfl, a1, a2, a3, a4, b⟩ := h
    obtain ⟨vs, h1, h2⟩ := RX.kvals b
    exact ⟨kv :: vs, ⟨kv, vs, rfl, a2, h1⟩, .cons a1 h2⟩
theorem keys_items {xs : XS} {es : Array DictEntry} {w : World} (he : es.toList = xs.map (ent w)) {acc : List Value} (hl : acc.length = es.size) (h : ∀ (j : Nat) (v : Value), acc[j]? = some v → ∃ hi : j < es.size, v = es[j].key) : acc = xs.map (·.2.1) := by
  have e1 : xs.map (·.2.1) = es.toList.map (·.key) := by rw [he, List.map_map]; rfl
  rw [e1]
  refine List.ext_getElem? fun j => ?_
  cases q : acc[j]? with
  | none =>
    have : es.size ≤ j := by rw [← hl]; exact List.getElem?_eq_none_iff.mp q
    exact (List.getElem?_eq_none_iff.mpr (by simpa using this)).symm
  | some v =>
    obtain ⟨hi, e⟩ := h j v q
    rw [List.getElem?_map, Array.getElem?_toList, Array.getElem?_eq_getElem hi, e]
    rfl
theorem listd_w (g : XG X G k) : CallR X (.type "list") (fun xs H Q => ∃ x, xs = [x] ∧ ∃ M d Qd, RM G H M ∧ RV G H d x ∧ wKeys d M Qd ∧ ∀ v H', QL G M H Qd v H' → Q v H') := by
  intro pins s σ H xs us Q I r ⟨x, e, M, d, Qd, rm, rd, h, i⟩
  subst e
  unfold wKeys at h
  split at h
  · rename_i p
    rw [show x = _ from rd] at r
    split at h
    · rename_i kvs e1
      obtain ⟨ys, dm, rxs, hsy, hl, hks, nd⟩ := rd_dict I g rm e1
      obtain ⟨es, ep, hr, he⟩ := dm.ob
      obtain ⟨vs, hv, hv'⟩ := rxs.kvals
      have hsz : es.size = ys.length := ent_size he
      rw [Vals.ref1 r]
      refine PySem.W.kdl_call (PySem.KdlSrc.rawDict hsy) (I.ok.hd g.calm) hr (by rw [hsz, ← rxs.length, ← line_eq]; exact hl) fun h' tk acc c kp hD hacc => ?_
      have ha : acc.toList = ys.map (·.2.1) := keys_items he (by rw [Array.length_toList]; exact hacc.1) fun j v e => hacc.2 j v (by rw [← Array.getElem?_toList]; exact e)
      have hn := I.hok.fresh (Nat.le_refl _)
      have hlen : vs.length ≤ sizeLine := by rw [← hv.length, List.length_map, ← line_eq]; exact hl
      refine ⟨.ref s.heap.objs.size, upd H s.heap.objs.size (.lst vs), I.laid (t' := tk) kp (Nat.le_refl _) ⟨hlen, acc.toList, c, by rw [ha]; exact hv', by rw [hD]⟩, rfl, i _ _ (.laid g.ok hn hv rm h)⟩
    · exact h.elim
  · exact h.elim
/-! ### sorted(..) -/
theorem srt_each {H : Hp} {ds : List D} {pins : List (Addr × Obj)} {σ : St} {s : Shared} (I : Inv X pins σ H s) (hK : X.K = G.K) {n : Nat} : ∀ {es : List {d // d ∈ ds}} {vs : List V} {us : List Value}, (∀ d ∈ es, D.ok n d.1 = true) → RVs G H (es.map (·.1)) vs → Vals vs us →
    PySem.W.EachIs (fun u (b : {d // d ∈ ds}) => ∃ v, RelV v u ∧ RV G H b.1 v) us es ∧ PySem.W.EachIs (fun u (b : {d // d ∈ ds}) => Reads s.heap u (pd b.1) []) us es
  | [], _, us, _, h, r => by
    rw [show _ = [] from h] at r
    cases r
    exact ⟨.nil, .nil⟩
  | e :: es, _, us, ho, h, r => by
    obtain ⟨v, vr, rfl, a, b⟩ := h
    cases r with
    | cons r1 r2 =>
      have ⟨x, y⟩ := srt_each I hK (fun d hd => ho d (List.mem_cons_of_mem _ hd)) b r2
      exact ⟨.cons ⟨v, r1, a⟩ x, .cons (reads I hK (ho e List.mem_cons_self) a r1) y⟩
theorem srt_back {H : Hp} {ds : List D} : ∀ {es : List {d // d ∈ ds}} {us : List Value}, PySem.W.EachIs (fun u (b : {d // d ∈ ds}) => ∃ v, RelV v u ∧ RV G H b.1 v) us es → ∃ vs, RVs G H (es.map (·.1)) vs ∧ Vals vs us
  | _, _, .nil => ⟨[], rfl, .nil⟩
  | _, _, .cons ⟨v, a, b⟩ t => by
    obtain ⟨vs, h1, h2⟩ := srt_back t
    exact ⟨v :: vs, ⟨v, vs, rfl, b, h1⟩, .cons a h2⟩
theorem oks_mem {n : Nat} : ∀ {ds : List D}, D.oks n ds = true → ∀ d ∈ ds, D.ok n d = true
  | [], _, _, h => by cases h
  | d :: ds, h, x, hx => by
    rw [D.oks, Bool.and_eq_true] at h
    rcases List.mem_cons.mp hx with e | hx
    · rw [e]; exact h.1
    · exact oks_mem h.2 x hx
/-- the plain facts of sorting -/
theorem srt_data {ds : List D} (h : srt ds = true) : (∀ d ∈ ds, D.ok 60 d = true) ∧ PySem.W.AllAlike (ds.attach.map fun b => pd b.1) ∧ PySem.W.Sortable (ds.attach.map fun b => pd b.1) ∧
    (ds.attach.mergeSort (PySem.W.dataLe false fun b => pd b.1)).map (·.1) = sortD ds := by
  unfold srt at h
  rw [Bool.and_eq_true, Bool.and_eq_true] at h
  obtain ⟨⟨h1, h2⟩, h3⟩ := h
  have hm := oks_mem h1
  have al : ∀ a ∈ ds, ∀ b ∈ ds, D.alike a b = true := fun a ha b hb => List.all_eq_true.mp (List.all_eq_true.mp h2 a ha) b hb
  refine ⟨hm, ?_, ?_, ?_⟩
  · intro x hx y hy
    obtain ⟨a, _, rfl⟩ := List.mem_map.mp hx
    obtain ⟨b, _, rfl⟩ := List.mem_map.mp hy
    exact pd_alike (al a.1 a.2 b.1 b.2)
  · rw [Bool.or_eq_true] at h3
    rcases h3 with h3 | h3
    · refine .inl fun x hx => ?_
      obtain ⟨a, _, rfl⟩ := List.mem_map.mp hx
      have := List.all_eq_true.mp h3 a.1 a.2
      obtain ⟨d, hd⟩ := a
      cases d with
      | tup es =>
        cases es with
        | nil => cases this
        | cons e es => exact ⟨pd e, pds es, by simp [pd, pds]⟩
      | _ => cases this
    · refine .inr fun x hx => ?_
      obtain ⟨a, _, rfl⟩ := List.mem_map.mp hx
      have t := List.all_eq_true.mp h3 a.1 a.2
      refine ⟨pd_not_none (al a.1 a.2 a.1 a.2), fun xs e => ?_⟩
      obtain ⟨d, hd⟩ := a
      cases d with
      | tup es => cases t
      | _ => simp [pd] at e
  · unfold sortD
    rw [List.map_mergeSort (s := D.le), List.attach_map_subtype_val]
    intro a _ b _
    rw [PySem.W.dataLe_eq]
    show (!PySem.W.dataLt (pd b.1) (pd a.1)) = _
    rw [pd_lt (hm b.1 b.2) (hm a.1 a.2) (al b.1 b.2 a.1 a.2)]
    rfl
theorem sortq_w (g : XG X G k) : CallR X (.builtin "sorted") (fun xs H Q => ∃ x, xs = [x] ∧ ∃ M ds vs p Qd, x = .ref p ∧ SqL G.K H p vs ∧ RVs G H ds vs ∧ RM G H M ∧ (srt ds = true ∧ Qd (sortD ds) M) ∧ ∀ v H', QL G M H Qd v H' → Q v H') := by
  intro pins s σ H xs us Q I r ⟨x, e, M, ds, vs, p, Qd, e2, sq, hv, rm, ⟨hs, h⟩, i⟩
  subst e e2
  have hu := g.units
  rw [← g.K] at sq
  obtain ⟨its, rv, hl, hz⟩ := I.list sq
  obtain ⟨hm, hal, hso, hms⟩ := srt_data hs
  have ⟨e1, e2⟩ := srt_each (ds := ds) (es := ds.attach) I g.K (fun d _ => hm d.1 d.2) (by rw [List.attach_map_subtype_val]; exact hv) rv
  rw [Vals.ref1 r]
  refine PySem.W.sorted_data hl.isList e1 (e2.mono fun _ _ q => ⟨[], q⟩) hal hso (by rw [List.length_attach, hv.length]; exact hz) (fun b _ => by have := pd_depth (hm b.1 b.2); omega) fun out ho eo => ?_
  obtain ⟨ws, hw, hw'⟩ := srt_back eo
  rw [hms] at hw
  obtain ⟨ep, he'⟩ := PyProof.Rows.sortedAll_at s.heap its out.toArray
  have hn : H (s.heap.objs.size + 1) = none := I.hok.fresh (Nat.le_succ _)
  refine ⟨.ref _, upd H (s.heap.objs.size + 1) (.lst ws), I.laid (t' := s.toks) (fun _ _ => PyProof.Rows.sortedAll_old) (Nat.le_succ _) ⟨?_, out, ep, hw', he'⟩, rfl, i _ _ (.laid g.ok hn hw rm h)⟩
  rw [hw'.length, ho, List.length_attach, hv.length]
  exact hz
/-! ### int, abs -/
theorem abs_w : CallR X (.builtin "abs") (fun xs H Q => ∃ x, xs = [x] ∧ r1 G wAbs x H Q) := by
  intro pins s σ H xs us Q I r ⟨x, e, M, d, Qd, rm, rd, h, i⟩
  subst e
  unfold wAbs at h
  split at h
  · rw [show x = _ from rd] at r
    exact call_abs pins s σ H _ us Q I r ⟨_, rfl, i _ _ (.int rm h)⟩
  · exact h.elim
theorem int_w : CallR X (.type "int") (fun xs H Q => ∃ x, xs = [x] ∧ r1 G wInt x H Q) := by
  intro pins s σ H xs us Q I r ⟨x, e, M, d, Qd, rm, rd, h, i⟩
  subst e
  unfold wInt at h
  split at h
  · rw [show x = _ from rd] at r
    exact call_int1 pins s σ H _ us Q I r (.inl ⟨_, rfl, i _ _ (.int rm h)⟩)
  · rw [show x = _ from rd] at r
    exact call_int1 pins s σ H _ us Q I r (.inr ⟨_, rfl, i _ _ (.int rm h)⟩)
  · exact h.elim
/-! ### dict.get, dict.pop -/
theorem dget_w (g : XG X G k) : MtR X "dict.get" (fun x xs H Q => (∃ y z, xs = [y, z] ∧ ∃ M d e c Qd, RM G H M ∧ RV G H d x ∧ RV G H e y ∧ RV G H c z ∧ wDget d e c M Qd ∧ ∀ v H', QV G M H Qd v H' → Q v H') ∨ ∃ y, xs = [y] ∧ r2 G (fun d e M Q => wDget d e .non M Q) x y H Q) := by
  intro pins s σ H x xs v us Q I rx r hh
  have hu := g.units
  rcases hh with ⟨y, z, rfl, M, d, e, c, Qd, rm, rd, re, rc, h, i⟩ | ⟨y, rfl, M, d, e, Qd, rm, rd, re, h, i⟩
  · obtain ⟨u1, u2, rfl, r1, r2⟩ := vals2 r
    unfold wDget at h
    split at h
    · rename_i p
      rw [show x = _ from rd] at rx
      rw [show v = _ from rx]
      split at h
      · rename_i kvs e1
        obtain ⟨hk, h⟩ := h
        obtain ⟨ys, dm, rxs, hsy, hl, hks, nd⟩ := rd_dict I g rm e1
        have kn := nested I g.K (okey_key hk) re r1
        have ⟨l1, l2⟩ := rxs.look (okey_key hk) hks
        refine getOr_m (by omega) hsy kn (okey_depth hk) dm ?_
        cases q : MP.look kvs e with
        | none => rw [q] at h; rw [l2 q]; exact nk_draw I r2 (i _ _ (.same rc rm h)) _
        | some d' =>
          rw [q] at h
          obtain ⟨w, t, l3, l4, l5⟩ := l1 d' q
          rw [l3]; exact nk_draw I l4 (i _ _ (.same l5 rm h)) _
      · exact h.elim
    · exact h.elim
  · obtain ⟨u1, rfl, r1⟩ := vals1 r
    unfold wDget at h
    split at h
    · rename_i p
      rw [show x = _ from rd] at rx
      rw [show v = _ from rx]
      split at h
      · rename_i kvs e1
        obtain ⟨hk, h⟩ := h
        obtain ⟨ys, dm, rxs, hsy, hl, hks, nd⟩ := rd_dict I g rm e1
        have kn := nested I g.K (okey_key hk) re r1
        have ⟨l1, l2⟩ := rxs.look (okey_key hk) hks
        refine get1_m (by omega) hsy kn (okey_depth hk) dm ?_
        cases q : MP.look kvs e with
        | none => rw [q] at h; rw [l2 q]; exact nk_draw (v := .non) I rfl (i _ _ (.non rm h)) _
        | some d' =>
          rw [q] at h
          obtain ⟨w, t, l3, l4, l5⟩ := l1 d' q
          rw [l3]; exact nk_draw I l4 (i _ _ (.same l5 rm h)) _
      · exact h.elim
    · exact h.elim
theorem dpop_w (g : XG X G k) : MtR X "dict.pop" (fun x xs H Q => ∃ y, xs = [y] ∧ r2 G wDpop x y H Q) := by
  intro pins s σ H x xs v us Q I rx r ⟨y, e0, M, d, e, Qd, rm, rd, re, h, i⟩
  subst e0
  have hu := g.units
  obtain ⟨u1, rfl, r1⟩ := vals1 r
  unfold wDpop at h
  split at h
  · rename_i p
    rw [show x = _ from rd] at rx
    rw [show v = _ from rx]
    split at h
    · rename_i kvs e1
      obtain ⟨hk, h⟩ := h
      have e1' : M.rd p = some (.dct kvs) := by unfold Mem.rd; rw [e1]
      obtain ⟨ys, dm, rxs, hsy, hl, hks, nd⟩ := rd_dict I g rm e1'
      have kn := nested I g.K (okey_key hk) re r1
      have ⟨l1, l2⟩ := rxs.look (okey_key hk) hks
      split at h
      · rename_i c hc
        obtain ⟨w, t, l3, l4, l5⟩ := l1 c hc
        have hm : Mut (H p) := by
          obtain ⟨_, hp, _, _, _, rfl, _⟩ := rm p _ e1
          rw [hp]; exact True.intro
        refine pop_m (by omega) hsy kn (okey_depth hk) dm (by rw [← rxs.length, ← line_eq]; exact hl) l3 fun h' dm' sb ho => ?_
        obtain ⟨es, ep, hr, he⟩ := dm'.ob
        have sub := drop_sub e kvs
        refine ⟨w, _, Inv.dict (o := .lst []) I hm hr sb _, l4, i _ _ ⟨c, M.set p (.dct (drop kvs e)), l5.mono g.ok (.chg rm e1), rm.chg g.ok e1 ?_, .chg rm e1, h⟩⟩
        exact RU.dct (by rw [← g.w]; exact he) ((rxs.drop (okey_key hk) hks).mono g.ok (.chg rm e1)) hsy (by have := sub.length_le; omega) (fun q hq => hks q (sub.subset hq)) (nd.sublist (sub.map _))
      · exact h.elim
    · exact h.elim
  · exact h.elim
/-! ### dict.clear -/
theorem dclear_w (g : XG X G k) : MtR X "dict.clear" (fun x xs H Q => xs = [] ∧ r1 G wDclear x H Q) := by
  intro pins s σ H x xs v us Q I rx r ⟨e0, M, d, Qd, rm, rd, h, i⟩
  subst e0
  cases r
  unfold wDclear at h
  split at h
  · rename_i p
    rw [show x = _ from rd] at rx
    rw [show v = _ from rx]
    split at h
    · rename_i kvs e1
      have e1' : M.rd p = some (.dct kvs) := by unfold Mem.rd; rw [e1]
      obtain ⟨ys, dm, rxs, hsy, hl, hks, nd⟩ := rd_dict I g rm e1'
      obtain ⟨es, ep, hr, he⟩ := dm.ob
      have hm : Mut (H p) := by
        obtain ⟨_, hp, _, _, _, rfl, _⟩ := rm p _ e1
        rw [hp]; exact True.intro
      refine call_meetsIn PySem.F.slot_dict_clear dm.typeIs PySem.F.entry_dict_clear (PySem.F.args_dict_clear_1 _) (meets_dict_clear_raw p) ⟨es, ep, hr, by rw [ent_size he, ← rxs.length, ← line_eq]; exact hl, fun h' hr' sb => ?_⟩
      refine ⟨.non, _, Inv.dict (o := .lst []) I hm hr' sb s.toks, rfl, i _ _ ⟨.non, M.set p (.dct []), rfl, rm.chg g.ok e1 ?_, .chg rm e1, h⟩⟩
      exact RU.dct (xs := []) rfl rfl hsy (Nat.zero_le _) (fun q hq => by cases hq) .nil
    · exact h.elim
  · exact h.elim
end
end MP
end
section
/-! MP8: targets, iterators, list comprehensions. -/
namespace MP
open PySem PySem.Spec L2

/-- a lambda with one parameter or none: its name with us, its parameters, what it captures, its names, its text with us -/
structure LamE where
  l : String
  ps : List Str
  fr : List Str
  N : List Str
  bd : CS
/-- what is known of a def's text ahead of its run -/
structure Sx where
  N : List Str
  sc : Scope
  top : Bool
  fns : List String
  clss : List String
  flds : List String
  cons : List (String × D)
  lm : Bool := false
  cv : Bool := false
  lams : List LamE := []
  lamB : String → Arguments → Expr → Scope → Bool := fun _ _ _ _ => false
  own : Str → Bool := fun _ => false
  al : List (String × String) := []
  excs : List (String × List String) := []
/-- the text's name of a def that has another one with us -/
def Sx.tx (S : Sx) (f : String) : String := (S.al.lookup f).getD f
/-- the built-ins that are used -/
def bltNames : List String := ["len", "tuple", "list", "int", "abs", "all", "any", "sum", "min", "max", "sorted", "range", "isinstance", "bool", "str", "dict", "enumerate", "zip", "set"]
theorem ty_blt : ∀ t ∈ tyNames, t ∈ bltNames := by decide
structure Ctx (S : Sx) (X : Cx) (G : Gx) (k : Nat) : Prop where
  xg : XG X G k
  sc : X.env.scope = S.sc
  N : X.N = S.N
  fn : S.top = true → ∀ x, X.fn x = true
  ow : ∀ x, S.own x = true → X.fn x = true
  flds : G.flds = S.flds
  blt : ∀ b ∈ bltNames, X.mg (Str.ofString b) = none
  cons : ∀ p ∈ S.cons, ∃ u v, X.mg (Str.ofString p.1) = some u ∧ RelV v u ∧ ∀ H, RV G H p.2 v

/-! ### targets -/
def RSo (G : Gx) (σ : L2.St) (H : Hp) (env : Env) (Ex : Nat → Prop) : Prop := env.length = σ.length ∧ ∀ i d, ¬ Ex i → get env i = some d → ∃ v, σ[i]? = some (some v) ∧ RVe G H d v
theorem RSo.of {G : Gx} {σ : L2.St} {H : Hp} {env : Env} (r : RS G σ H env) (Ex : Nat → Prop) : RSo G σ H env Ex := ⟨r.1, fun i d _ => r.2 i d⟩
theorem RSo.rs {G : Gx} {σ : L2.St} {H : Hp} {env : Env} {Ex : Nat → Prop} (r : RSo G σ H env Ex) (h : ∀ i, ¬ Ex i) : RS G σ H env := ⟨r.1, fun i d => r.2 i d (h i)⟩
theorem RSo.imp {G : Gx} {σ : L2.St} {H : Hp} {env : Env} {Ex Ex' : Nat → Prop} (r : RSo G σ H env Ex) (h : ∀ i, ¬ Ex' i → ¬ Ex i) : RSo G σ H env Ex' := ⟨r.1, fun i d n => r.2 i d (h i n)⟩
theorem get_eq : ∀ (e : Env) (i : Nat), get e i = (e[i]?).getD none
  | [], i => by simp [get]
  | x :: r, 0 => by simp [get]
  | x :: r, i + 1 => by simp [get, get_eq r i]
theorem RSo.set {G : Gx} {σ : L2.St} {H : Hp} {env : Env} {Ex : Nat → Prop} {d : D} {v : V} (r : RSo G σ H env Ex) (i : Nat) (rv : RV G H d v) (hi : i < σ.length) : RSo G (σ.set i (some v)) H (env.set i (some d)) (fun j => Ex j ∧ j ≠ i) := by
  refine ⟨by simp [r.1], fun j c n e => ?_⟩
  rw [get_eq] at e
  by_cases hj : j = i
  · subst hj
    rw [List.getElem?_set_self (by rw [r.1]; exact hi)] at e
    cases e
    exact ⟨v, List.getElem?_set_self hi, rv.e⟩
  · rw [List.getElem?_set_ne (Ne.symm hj)] at e
    rw [List.getElem?_set_ne (Ne.symm hj)]
    exact r.2 j c (fun z => n ⟨z, hj⟩) (by rw [get_eq]; exact e)
mutual
/-- the names of a target -/
def tn : CT → List Nat
  | .name i => [i]
  | .tup ts => tns ts
def tns : List CT → List Nat
  | [] => []
  | t :: ts => tn t ++ tns ts
end
def agree (vs : List Nat) (σ σ' : L2.St) : Prop := σ'.length = σ.length ∧ ∀ i, i ∉ vs → σ'[i]? = σ[i]?
theorem agree.refl (vs : List Nat) (σ : L2.St) : agree vs σ σ := ⟨rfl, fun _ _ => rfl⟩
def tG (G : Gx) (t : CT) : TG := fun v σ H Q => ∃ d M env env' Ex, RV G H d v ∧ RM G H M ∧ RSo G σ H env Ex ∧ bind M t d env = some env' ∧
  ∀ σ', RSo G σ' H env' (fun j => Ex j ∧ j ∉ tn t) → agree (tn t) σ σ' → Q σ' H
def tGs (G : Gx) (ts : List CT) : TGs := fun vs σ H Q => ∃ ds M env env' Ex, RVs G H ds vs ∧ RM G H M ∧ RSo G σ H env Ex ∧ bind.binds ts ds env = some env' ∧
  ∀ σ', RSo G σ' H env' (fun j => Ex j ∧ j ∉ tns ts) → agree (tns ts) σ σ' → Q σ' H
def ckName (S : Sx) (i : Nat) (x : Str) : Bool := decide (S.N[i]? = some x) && (match S.sc.names.lookup x with | some .local => true | some .cell => S.own x | _ => false)
def asName : Expr → Option Str
  | .Name x _ => some x
  | _ => none
def asTuple : Expr → Option (List Expr)
  | .Tuple es _ _ => some es
  | _ => none
theorem asName_eq {e : Expr} {x : Str} (h : asName e = some x) : ∃ p, e = .Name x p := by cases e <;> first | (cases h; exact ⟨_, rfl⟩) | cases h
theorem asTuple_eq {e : Expr} {es : List Expr} (h : asTuple e = some es) : ∃ k p, e = .Tuple es k p := by cases e <;> first | (cases h; exact ⟨_, _, rfl⟩) | cases h
mutual
def ckT (S : Sx) : CT → Expr → Bool
  | .name i, e => (match asName e with | some x => ckName S i x | none => false)
  | .tup ts, e => (match asTuple e with | some es => ckTs S ts es | none => false)
def ckTs (S : Sx) : List CT → List Expr → Bool
  | [], [] => true
  | t :: ts, e :: es => ckT S t e && ckTs S ts es
  | _, _ => false
end
theorem ckT_star {S : Sx} {t : CT} {e : Expr} (h : ckT S t e = true) : ∀ (es : List Expr) (env : PySem.Env), assignEach (e :: es) env = (false, assign e env) :: assignEach es env := by
  cases t with
  | name i => cases e <;> first | (intros; rfl) | (rw [ckT] at h; cases h)
  | tup ts => cases e <;> first | (intros; rfl) | (rw [ckT] at h; cases h)
theorem ckTs_each {S : Sx} : ∀ {ts : List CT} {es : List Expr} (env : PySem.Env), ckTs S ts es = true → (assignEach es env).length = ts.length ∧ (assignEach es env).findIdx? (·.1) = none
  | [], [], _, _ => ⟨rfl, rfl⟩
  | t :: ts, e :: es, env, h => by
    rw [ckTs, Bool.and_eq_true] at h
    obtain ⟨a, b⟩ := ckTs_each env h.2
    rw [ckT_star h.1, List.length_cons, List.length_cons, a, List.findIdx?_cons, b]
    exact ⟨rfl, rfl⟩
  | [], _ :: _, _, h | _ :: _, [], _, h => by simp [ckTs] at h
theorem agree.set {i : Nat} {σ : L2.St} {v : Option V} {vs : List Nat} (hi : i ∈ vs) : agree vs σ (σ.set i v) := ⟨by simp, fun j hj => by rw [List.getElem?_set_ne]; rintro rfl; exact hj hi⟩
theorem agree.trans {vs ws us : List Nat} {σ σ1 σ2 : L2.St} (a : agree vs σ σ1) (b : agree ws σ1 σ2) (h1 : ∀ i ∈ vs, i ∈ us) (h2 : ∀ i ∈ ws, i ∈ us) : agree us σ σ2 :=
  ⟨b.1.trans a.1, fun i hi => (b.2 i fun z => hi (h2 i z)).trans (a.2 i fun z => hi (h1 i z))⟩
theorem RVs.nil_of {G : Gx} {H : Hp} {vs : List V} (h : RVs G H [] vs) : vs = [] := h
section
variable {S : Sx} {X : Cx} {G : Gx} {k : Nat}
theorem RVs.unc {H : Hp} {d : D} {ds : List D} {vs : List V} (h : RVs G H (d :: ds) vs) : ∃ v r, vs = v :: r ∧ RV G H d v ∧ RVs G H ds r := h
/-- an assignment to a tuple of targets, of a tuple or a list -/
theorem unp_ok {es : List Expr} {kk : Nat} {pos : Pos} {t : TGs} (hc : X.calm = true) (h : PGs X es t) {n : Nat} (hn : (assignEach es X.env).length = n) (hst : (assignEach es X.env).findIdx? (·.1) = none) :
    PG X (.Tuple es kk pos) (fun v σ H Q => ∃ a xs, v = .ref a ∧ (SqL X.K H a xs ∨ SqT X.K H a xs) ∧ xs.length = n ∧ t xs σ H Q) := by
  refine ⟨fun pins s σ H v u Q I r ⟨a, xs, e, hq, hl, hw⟩ => ?_⟩
  subst e
  rcases hq with hq | hq
  · rw [show u = _ from r]
    obtain ⟨its, rv, ht, hz⟩ := I.list hq
    rw [PyProof.Rows.assign_Tuple]
    refine wpAny_bind (wpAny_standAt ?_)
    unfold unpack
    rw [hst, show (assignEach es X.env).length = its.toArray.size by rw [hn, ← hl, rv.length, List.size_toArray]]
    refine wpAny_bind (wpAny_holding (PySem.W.kun_itemsOf (I.ok.hd hc) ht.isList fun h' hx => ?_))
    have I1 : Inv X pins σ H { s with heap := h' } := I.kept (t' := s.toks) fun b o e => hx b o (Nat.ne_of_lt (Heap.lt_size e)) e
    exact h.run pins _ σ H xs _ Q I1 (by simpa using rv) hw
  · exact (pg_tup (X := X) (pos := pos) (k := kk) hc h hn hst).run pins s σ H _ u Q I r ⟨a, xs, rfl, hq, hl, hw⟩
theorem binds_len : ∀ {ts : List CT} {ds : List D} {env env' : Env}, bind.binds ts ds env = some env' → ds.length = ts.length
  | [], [], _, _, _ => rfl
  | .name i :: ts, d :: ds, _, _, h => by rw [bind.binds] at h; rw [List.length_cons, List.length_cons, binds_len h]
  | .tup us :: ts, .tup cs :: ds, _, _, h => by
    rw [bind.binds] at h
    split at h
    · rw [List.length_cons, List.length_cons, binds_len h]
    · cases h
  | [], _ :: _, _, _, h => by simp [bind.binds] at h
  | .name _ :: _, [], _, _, h => by simp [bind.binds] at h
  | .tup _ :: _, [], _, _, h => by simp [bind.binds] at h
  | .tup _ :: _, .non :: _, _, _, h | .tup _ :: _, .bl _ :: _, _, _, h | .tup _ :: _, .int _ :: _, _, _, h | .tup _ :: _, .str _ :: _, _, _, h | .tup _ :: _, .ref _ :: _, _, _, h | .tup _ :: _, .glo _ :: _, _, _, h | .tup _ :: _, .ty _ :: _, _, _, h | .tup _ :: _, .clo _ _ :: _, _, _, h => by simp [bind.binds] at h
theorem name_ok (c : Ctx S X G k) {i : Nat} {x : Str} {pos : Pos} (h : ckName S i x = true) : PG X (.Name x pos) (gName i) ∧ X.N[i]? = some x := by
  unfold ckName at h
  rw [Bool.and_eq_true, decide_eq_true_eq] at h
  obtain ⟨h1, h2⟩ := h
  rw [← c.N] at h1
  rw [← c.sc] at h2
  refine ⟨?_, h1⟩
  split at h2
  · rename_i e
    exact pg_name c.xg.nd h1 (.inl e) (.inr e)
  · rename_i e
    exact pg_name c.xg.nd h1 (.inr e) (.inl (c.ow x h2))
  · cases h2
theorem _root_.L2.PG.imp {e : Expr} {t t' : TG} (h : PG X e t) (i : ∀ pins s v σ H Q, Inv X pins σ H s → t' v σ H Q → t v σ H Q) : PG X e t' := ⟨fun pins s σ H v u Q I r q => h.run pins s σ H v u Q I r (i _ _ _ _ _ _ I q)⟩
theorem _root_.L2.PGs.imp {e : List Expr} {t t' : TGs} (h : PGs X e t) (i : ∀ pins s v σ H Q, Inv X pins σ H s → t' v σ H Q → t v σ H Q) : PGs X e t' := ⟨fun pins s σ H v u Q I r q => h.run pins s σ H v u Q I r (i _ _ _ _ _ _ I q)⟩
mutual
theorem tg_ok (c : Ctx S X G k) : ∀ (t : CT) {e : Expr}, ckT S t e = true → PG X e (tG G t)
  | .name i, e, h => by
    rw [ckT] at h
    split at h
    · rename_i x hx
      obtain ⟨p0, rfl⟩ := asName_eq hx
      obtain ⟨p, hi⟩ := name_ok (pos := p0) c h
      refine PG.imp p fun pins s v σ H Q I ⟨d, M, env, env', Ex, a1, a2, a3, a4, a5⟩ => ?_
      rw [bind] at a4
      cases a4
      have hl : i < σ.length := by rw [I.len]; exact (List.getElem?_eq_some_iff.mp hi).1
      refine a5 _ ((a3.set i a1 hl).imp fun j n z => n ⟨z.1, by simp [tn]; exact z.2⟩) (agree.set (by simp [tn]))
    · cases h
  | .tup ts, e, h => by
    rw [ckT] at h
    split at h
    · rename_i es hx
      obtain ⟨kk, pos, rfl⟩ := asTuple_eq hx
      obtain ⟨n1, n2⟩ := ckTs_each X.env h
      refine PG.imp (unp_ok c.xg.calm (tgs_ok c ts h) n1 n2) fun pins s v σ H Q I ⟨d, M, env, env', Ex, a1, a2, a3, a4, a5⟩ => ?_
      have e1 : tn (.tup ts) = tns ts := by rw [tn]
      rw [e1] at a5
      cases d with
      | tup ds =>
        rw [bind] at a4
        obtain ⟨p, vs, rfl, sq, hv⟩ := a1
        exact ⟨p, vs, rfl, .inr (by rw [c.xg.K]; exact sq), by rw [← hv.length, binds_len a4], ds, M, env, env', Ex, hv, a2, a3, a4, a5⟩
      | ref a =>
        rw [bind] at a4
        split at a4
        · rename_i ds e2
          obtain ⟨vs, hr, hv⟩ := a2.rdL e2
          rw [show v = _ from a1]
          exact ⟨a, vs, rfl, .inl (.inl hr), by rw [← hv.length, binds_len a4], ds, M, env, env', Ex, hv, a2, a3, a4, a5⟩
        · cases a4
      | _ => simp [bind] at a4
    · cases h
theorem tgs_ok (c : Ctx S X G k) : ∀ (ts : List CT) {es : List Expr}, ckTs S ts es = true → PGs X es (tGs G ts)
  | [], [], _ => by
    refine PGs.imp pgs_nil fun pins s v σ H Q I ⟨ds, M, env, env', Ex, a1, a2, a3, a4, a5⟩ => ?_
    cases ds with
    | nil => rw [bind.binds] at a4; cases a4; exact ⟨a1, a5 σ (a3.imp fun j n z => n ⟨z, by simp [tns]⟩) (.refl _ _)⟩
    | cons _ _ => simp [bind.binds] at a4
  | .name i :: ts, e :: es, h => by
    rw [ckTs, Bool.and_eq_true] at h
    refine PGs.imp (pgs_cons (tg_ok c (.name i) h.1) (tgs_ok c ts h.2) (by rw [ckT_star h.1]; rfl)) fun pins s v σ H Q I ⟨ds, M, env, env', Ex, a1, a2, a3, a4, a5⟩ => ?_
    cases ds with
    | nil => simp [bind.binds] at a4
    | cons d ds =>
      rw [bind.binds] at a4
      obtain ⟨w, r, rfl, b1, b2⟩ := a1
      refine ⟨w, r, rfl, d, M, env, env.set i (some d), Ex, b1, a2, a3, rfl, fun σ' r1 g1 => ?_⟩
      refine ⟨ds, M, _, env', _, b2, a2, r1, a4, fun σ2 r2 g2 => ?_⟩
      refine a5 σ2 (r2.imp fun j n z => n ⟨z.1.1, ?_⟩) (g1.trans g2 (fun j hj => ?_) fun j hj => ?_)
      · rw [tns, List.mem_append, not_or]; exact ⟨z.1.2, z.2⟩
      · rw [tns]; exact List.mem_append_left _ hj
      · rw [tns]; exact List.mem_append_right _ hj
  | .tup us :: ts, e :: es, h => by
    rw [ckTs, Bool.and_eq_true] at h
    refine PGs.imp (pgs_cons (tg_ok c (.tup us) h.1) (tgs_ok c ts h.2) (by rw [ckT_star h.1]; rfl)) fun pins s v σ H Q I ⟨ds, M, env, env', Ex, a1, a2, a3, a4, a5⟩ => ?_
    cases ds with
    | nil => simp [bind.binds] at a4
    | cons d ds =>
      cases d with
      | tup cs =>
        rw [bind.binds] at a4
        split at a4
        · rename_i e1 h1
          obtain ⟨w, r, rfl, b1, b2⟩ := a1
          refine ⟨w, r, rfl, .tup cs, M, env, e1, Ex, b1, a2, a3, by rw [bind]; exact h1, fun σ' r1 g1 => ?_⟩
          refine ⟨ds, M, _, env', _, b2, a2, r1, a4, fun σ2 r2 g2 => ?_⟩
          refine a5 σ2 (r2.imp fun j n z => n ⟨z.1.1, ?_⟩) (g1.trans g2 (fun j hj => ?_) fun j hj => ?_)
          · rw [tns, List.mem_append, not_or]; exact ⟨z.1.2, z.2⟩
          · rw [tns]; exact List.mem_append_left _ hj
          · rw [tns]; exact List.mem_append_right _ hj
        · cases a4
      | _ => simp [bind.binds] at a4
  | [], _ :: _, h | _ :: _, [], h => by simp [ckTs] at h
end
end
end MP
end
section
/-! MP9: iterators, list comprehensions, for. -/
namespace MP
open PySem PySem.Spec L2

def Same (fp : List Addr) (M1 : Mem) (H1 : Hp) (M : Mem) (H : Hp) : Prop := ∀ b ∈ fp, H b = H1 b ∧ M b = M1 b
/-- an iterator of the layer that walks the items of I; M0, H0: ahead of it; M1, H1: behind its making; fp: what it leans on -/
structure IR (X : Cx) (G : Gx) (I : MP.It) (J : L2.It) (fp : List Addr) (M0 : Mem) (H0 : Hp) (M1 : Mem) (H1 : Hp) : Prop where
  fix : ∀ b ∈ fp, (∃ o, H1 b = some o ∧ M1 b = none ∧ ∀ ps, o ≠ .tbl ps) ∨ ∃ m u, M1 b = some (.frz m) ∧ H1 b = some u
  go : ∀ i M H, i < I.ds.length → Same fp M1 H1 M H → Kpt H1 H → RM G H M → I.ok M → J.go i H
  stop : ∀ M H, Same fp M1 H1 M H → Kpt H1 H → RM G H M → I.ok M → J.stop I.ds.length H
  yld : ∀ i M H x H', Same fp M1 H1 M H → Kpt H1 H → RM G H M → I.ok M → J.yld i H x H' → i < I.ds.length → ∃ d, I.ds[i]? = some d ∧ RV G H' d x ∧ RM G H' M ∧ Stp M H M H' ∧ ∀ b o, H b = some o → H' b = some o
  fin : ∀ (pins : List (Addr × Obj)) (σ : L2.St) (M : Mem) (H : Hp) (s : Shared), Inv X pins σ H s → Same fp M1 H1 M H → RM G H M → Stp M0 H0 M H →
    ∃ H2, Inv X pins σ H2 s ∧ RM G H2 (I.fin M) ∧ Stp M0 H0 (I.fin M) H2 ∧ Kpt H H2 ∧ ∀ b, b ∉ fp → H2 b = H b ∧ (I.fin M) b = M b
def tWi (X : Cx) (G : Gx) (W : Env → Mem → (MP.It → Mem → Prop) → Prop) : TI := fun σ H R => ∃ env M Rd, RS G σ H env ∧ RM G H M ∧ W env M Rd ∧
  ∀ I J fp M' H', IR X G I J fp M H M' H' → RM G H' M' → Stp M H M' H' → Rd I M' → R J H'
theorem Same.refl (fp : List Addr) (M : Mem) (H : Hp) : Same fp M H M H := fun _ _ => ⟨rfl, rfl⟩
theorem Same.step {fp : List Addr} {M1 M M' : Mem} {H1 H H' : Hp} (s : Same fp M1 H1 M H) (f : ∀ b ∈ fp, (∃ o, H1 b = some o ∧ M1 b = none ∧ ∀ ps, o ≠ .tbl ps) ∨ ∃ m u, M1 b = some (.frz m) ∧ H1 b = some u) (t : Stp M H M' H') : Same fp M1 H1 M' H' := fun b hb => by
  obtain ⟨h1, m1⟩ := s b hb
  rcases f b hb with ⟨o, a1, a2, a3⟩ | ⟨m, u, a1, a2⟩
  · obtain ⟨e1, e2⟩ := t.keep b o (h1.trans a1) (m1.trans a2) a3
    exact ⟨e1.trans a1.symm, e2.trans a2.symm⟩
  · obtain ⟨e1, e2⟩ := t.frz b m (m1.trans a1)
    exact ⟨e1.trans h1, e2.trans a1.symm⟩
theorem Same.own {fp : List Addr} {M1 M : Mem} {H1 H : Hp} {D : Addr} {o : HO} (s : Same fp M1 H1 M H) (hD : D ∉ fp) : Same fp M1 H1 M (upd H D o) := fun b hb => by
  obtain ⟨h1, m1⟩ := s b hb
  exact ⟨by rw [upd_ne fun z => hD (by rw [← z]; exact hb)]; exact h1, m1⟩
/-- an own list is changed -/
theorem Kpt.own {H : Hp} {D : Addr} {xs : List V} {o : HO} (h : H D = some (.lst xs)) : Kpt H (upd H D o) := by
  refine ⟨fun b ys e => ?_, fun b o ys e => ?_, fun b o e => ?_, fun b q e => ?_⟩
  all_goals
    rw [upd_ne]
    · exact e
    · rintro rfl
      rw [h] at e
      cases e
theorem RM.own {G : Gx} {M : Mem} {H : Hp} {D : Addr} {xs : List V} {o : HO} (g : GOk G) (r : RM G H M) (h : H D = some (.lst xs)) (n : M D = none) : RM G (upd H D o) M := ⟨fun a m e => by
  obtain ⟨u, e1, hu⟩ := r a m e
  have c : a ≠ D := fun z => by rw [z, n] at e; cases e
  exact ⟨u, by rw [upd_ne c]; exact e1, hu.mono g (.own h)⟩, Tabs.at r.tab (fun b ps e => by rw [upd_ne fun z => by rw [z, h] at e; cases e]; exact e) fun c q e => (Kpt.own h).cod c q e⟩
theorem Stp.own {M0 M : Mem} {H0 H : Hp} {D : Addr} {o : HO} (s : Stp M0 H0 M H) (h : H0 D = none) (r0 : ∀ m, M0 D ≠ some m) : Stp M0 H0 M (upd H D o) :=
  ⟨fun b u e n t => by
    obtain ⟨e1, n1⟩ := s.keep b u e n t
    exact ⟨by rw [upd_ne (ne_of_none e h)]; exact e1, n1⟩, fun b e => by
    by_cases c : b = D
    · rw [c]; exact h
    · rw [upd_ne c] at e; exact s.grow b e, fun b m e => by
    obtain ⟨e1, n1⟩ := s.frz b m e
    exact ⟨by rw [upd_ne fun z => r0 _ (z ▸ e)]; exact e1, n1⟩⟩

section
variable {S : Sx} {X : Cx} {G : Gx} {k : Nat}
/-! ### what is walked -/
theorem IR.fin_id {I : MP.It} {fp : List Addr} {M0 M1 : Mem} {H0 H1 : Hp} (h : I.fin = id) : ∀ (pins : List (Addr × Obj)) (σ : L2.St) (M : Mem) (H : Hp) (s : Shared), Inv X pins σ H s → Same fp M1 H1 M H → RM G H M → Stp M0 H0 M H →
    ∃ H2, Inv X pins σ H2 s ∧ RM G H2 (I.fin M) ∧ Stp M0 H0 (I.fin M) H2 ∧ Kpt H H2 ∧ ∀ b, b ∉ fp → H2 b = H b ∧ (I.fin M) b = M b := fun pins σ M H s I _ r st => by
  rw [h]
  exact ⟨H, I, r, st, .refl _, fun _ _ => ⟨rfl, rfl⟩⟩
theorem RVs.some {H : Hp} {ds : List D} {vs : List V} (h : RVs G H ds vs) {i : Nat} (hi : i < ds.length) : ∃ v, vs[i]? = some v := by
  rw [h.length] at hi
  exact ⟨vs[i], List.getElem?_eq_getElem hi⟩
/-- an own list (new, or given up) -/
theorem ir_own {ds : List D} {vs : List V} {p : Addr} {M0 M1 : Mem} {H0 H1 : Hp} (g : XG X G k) (hp : H1 p = some (.lst vs)) (hm : M1 p = none) (hv : RVs G H1 ds vs) :
    IR X G ⟨ds, fun _ => True, id⟩ (Itl X.K p) [p] M0 H0 M1 H1 := by
  have at_ : ∀ M H, Same [p] M1 H1 M H → SqL X.K H p vs := fun M H s => .of ((s p (by simp)).1.trans hp)
  refine ⟨fun b hb => ?_, fun i M H hi s kp r _ => ?_, fun M H s kp r _ => ?_, fun i M H x H' s kp r _ y hi => ?_, IR.fin_id rfl⟩
  · have e : b = p := List.mem_singleton.mp hb
    subst e
    exact .inl ⟨_, hp, hm, nofun⟩
  · obtain ⟨v, hv'⟩ := hv.some hi
    exact ⟨vs, v, at_ M H s, hv'⟩
  · exact ⟨vs, at_ M H s, Nat.le_of_eq hv.length.symm⟩
  · obtain ⟨rfl, y⟩ := y
    obtain ⟨d, e1, e2⟩ := hv.get' (y vs (at_ M _ s))
    exact ⟨d, e1, e2.mono g.ok kp, r, .refl _ _, fun _ _ e => e⟩
/-- a tuple -/
theorem ir_tup {ds : List D} {vs : List V} {p : Addr} {M0 M1 : Mem} {H0 H1 : Hp} (g : XG X G k) (hp : SqT X.K H1 p vs) (hv : RVs G H1 ds vs) :
    IR X G ⟨ds, fun _ => True, id⟩ (Itt X.K p) [] M0 H0 M1 H1 := by
  refine ⟨fun b hb => (by cases hb), fun i M H hi s kp r _ => ?_, fun M H s kp r _ => ?_, fun i M H x H' s kp r _ y hi => ?_, IR.fin_id rfl⟩
  · obtain ⟨v, hv'⟩ := hv.some hi
    exact ⟨vs, v, kp.sqt hp, hv'⟩
  · exact ⟨vs, kp.sqt hp, Nat.le_of_eq hv.length.symm⟩
  · obtain ⟨rfl, y⟩ := y
    obtain ⟨d, e1, e2⟩ := hv.get' (y vs (kp.sqt hp))
    exact ⟨d, e1, e2.mono g.ok kp, r, .refl _ _, fun _ _ e => e⟩
/-- a list that is walked as it stands, and must stand -/
theorem ir_live {ds : List D} {p : Addr} {M0 M1 : Mem} {H0 H1 : Hp} (g : XG X G k) : IR X G ⟨ds, fun M => M.rd p = some (.lst ds), id⟩ (Itl X.K p) [] M0 H0 M1 H1 := by
  refine ⟨fun b hb => (by cases hb), fun i M H hi s kp r ok => ?_, fun M H s kp r ok => ?_, fun i M H x H' s kp r ok y hi => ?_, IR.fin_id rfl⟩
  · obtain ⟨vs, hr, hv⟩ := r.rdL ok
    obtain ⟨v, hv'⟩ := hv.some hi
    exact ⟨vs, v, .inl hr, hv'⟩
  · obtain ⟨vs, hr, hv⟩ := r.rdL ok
    exact ⟨vs, .inl hr, Nat.le_of_eq hv.length.symm⟩
  · obtain ⟨vs, hr, hv⟩ := r.rdL ok
    obtain ⟨rfl, y⟩ := y
    obtain ⟨d, e1, e2⟩ := hv.get' (y vs (.inl hr))
    exact ⟨d, e1, e2, r, .refl _ _, fun _ _ e => e⟩
/-- a range -/
theorem ir_rng {i j : Int} {M0 M1 : Mem} {H0 H1 : Hp} : IR X G ⟨rangeD i j, fun _ => True, id⟩ (Itr i (j - i).toNat) [] M0 H0 M1 H1 := by
  have hl : (rangeD i j).length = (j - i).toNat := by simp [rangeD]
  refine ⟨fun b hb => (by cases hb), fun n M H hi s kp r _ => ?_, fun M H s kp r _ => ?_, fun n M H x H' s kp r _ y hi => ?_, IR.fin_id rfl⟩
  · rw [← hl]; exact hi
  · exact Nat.le_of_eq hl.symm
  · obtain ⟨rfl, rfl⟩ := y
    refine ⟨.int (i + n), ?_, rfl, r, .refl _ _, fun _ _ e => e⟩
    rw [hl] at hi
    simp [rangeD, hi]
/-! ### list comprehensions -/
def lcStep (t : CT) (Wt : Env → Mem → (Bool → Mem → Prop) → Prop) (We : Env → Mem → VQ → Prop) (e : Env) (d : D) (M : Mem) (R : Option D → Mem → Prop) : Prop := match bind M t d e with
  | some e => Wt e M fun b M => if b = true then We e M (fun x M => R (some x) M) else R none M
  | none => False
theorem agree_wipe {vs ws : List Nat} {σ σ' : L2.St} (a : agree vs σ σ') (h : ∀ i ∈ vs, i ∈ ws) : wipe σ' ws = wipe σ ws := by
  have sub : ∀ (us : List Nat) (i : Nat), (wipe σ' us)[i]? = (wipe σ us)[i]? ∨ (i ∈ vs ∧ i ∉ us) := by
    intro us
    induction us with
    | nil => intro i; by_cases hi : i ∈ vs
             · exact .inr ⟨hi, by simp⟩
             · exact .inl (a.2 i hi)
    | cons u us ih =>
      intro i
      unfold wipe
      by_cases hu : i = u
      · subst hu
        left
        rw [List.getElem?_set, List.getElem?_set, wipe_length, wipe_length, a.1]; simp
      · rw [List.getElem?_set_ne (Ne.symm hu), List.getElem?_set_ne (Ne.symm hu)]
        rcases ih i with z | ⟨z1, z2⟩
        · exact .inl z
        · exact .inr ⟨z1, by simp [z2, hu]⟩
  refine List.ext_getElem? fun i => ?_
  rcases sub ws i with z | ⟨z1, z2⟩
  · exact z
  · exact absurd (h i z1) z2
theorem RS.wipe {σ : L2.St} {H : Hp} {env : Env} (r : RS G σ H env) (vs : List Nat) : RSo G (L2.wipe σ vs) H env (· ∈ vs) := by
  refine ⟨by rw [wipe_length]; exact r.1, fun i d hi e => ?_⟩
  obtain ⟨v, e1, e2⟩ := r.2 i d e
  exact ⟨v, by rw [wipe_out hi]; exact e1, e2⟩
/-- what a comprehension has at its end, ahead of what its iterator does then -/
def LcPost (X : Cx) (G : Gx) (M : Mem) (H : Hp) (Qd : List D → Mem → Prop) : VK := fun v H' => ∃ (I : MP.It) (J : L2.It) (fp : List Addr) (M1 : Mem) (H1 : Hp) (D : Addr) (M' : Mem) (ds : List MP.D) (vs : List V), v = .ref D ∧ IR X G I J fp M H M1 H1 ∧ Same fp M1 H1 M' H' ∧ H' D = some (.lst vs) ∧ D ∉ fp ∧ H D = none ∧ M' D = none ∧ RVs G H' ds vs ∧ RM G H' M' ∧ Stp M H M' H' ∧ Qd ds (I.fin M')
theorem LcPost.fin {pins : List (Addr × Obj)} {σ : L2.St} {H H' : Hp} {s : Shared} {M : Mem} {Qd : List D → Mem → Prop} {v : V} (g : XG X G k) (h : LcPost X G M H Qd v H') (I1 : Inv X pins σ H' s) : ∃ H2, Inv X pins σ H2 s ∧ QL G M H Qd v H2 := by
  obtain ⟨It, J, fp, M1, H1, D, M', ds, vs, q1, ir, q2, q3, q4, q5, q6, q7, q8, q9, q10⟩ := h
  obtain ⟨H2, I2, rm2, st2, k2, oth⟩ := ir.fin pins σ M' H' s I1 q2 q8 q9
  obtain ⟨o1, o2⟩ := oth D q4
  exact ⟨H2, I2, ds, vs, D, It.fin M', q1, q5, o1.trans q3, o2.trans q6, q7.mono g.ok k2, rm2, st2, q10⟩
theorem lc_rd {t : CT} {Wi : Env → Mem → (MP.It → Mem → Prop) → Prop} {Wt : Env → Mem → (Bool → Mem → Prop) → Prop} {We : Env → Mem → VQ → Prop} {own : List (Str × Nat)} {σ : L2.St} {H : Hp} {env : Env} {M : Mem} {Qd : List D → Mem → Prop}
    (g : XG X G k) (hown : ∀ i, i ∈ own.map (·.2) ↔ i ∈ tn t) (rs : RS G σ H env) (rm : RM G H M) (h : Wi env M fun J M => lcLoop J (lcStep t Wt We env) Qd J.ds [] M) {Q : VK} (hQ : ∀ v H', LcPost X G M H Qd v H' → Q v H') :
    tLc (tWi X G Wi) (tG G t) (tWb G Wt) (tW G We) (own.map (·.2)) σ H Q := by
  refine ⟨env, M, _, rs, rm, h, fun It J fp M1 H1 ir rm1 st1 hl => ?_⟩
  intro D hD
  have hD0 : H D = none := st1.grow D hD
  have hM1 : M1 D = none := rm1.free hD
  have hfp : D ∉ fp := fun z => by
    rcases ir.fix D z with ⟨o, e, _⟩ | ⟨m, u, _, e⟩ <;> (rw [hD] at e; cases e)
  have hM0 : ∀ m, M D ≠ some m := fun m e => by rw [rm.free hD0] at e; cases e
  refine ⟨fun i m H' => m = It.ds.length - i ∧ i ≤ It.ds.length ∧ ∃ M' acc vs, H' D = some (.lst vs) ∧ M' D = none ∧ RVs G H' acc vs ∧ RM G H' M' ∧ Same fp M1 H1 M' H' ∧ Kpt H1 H' ∧ Stp M H M' H' ∧ lcLoop It (lcStep t Wt We env) Qd (It.ds.drop i) acc M', ⟨_, rfl, Nat.zero_le _, M1, [], [], upd_same, hM1, rfl, rm1.new g.ok hD, Same.own (.refl _ _ _) hfp, .new hD, st1.own hD0 hM0, hl⟩, ?_⟩
  rintro i m H' ⟨rfl, hile, M', acc, vs, e1, e2, e3, e4, e5, e6, e7, e8⟩
  by_cases hlt : i < It.ds.length
  · right
    rw [List.drop_eq_getElem_cons hlt] at e8
    unfold lcLoop at e8
    obtain ⟨hok, e8⟩ := e8
    refine ⟨ir.go i M' H' hlt e5 e6 e4 hok, fun H'' => ∃ M'' acc' vs', H'' D = some (.lst vs') ∧ M'' D = none ∧ RVs G H'' acc' vs' ∧ RM G H'' M'' ∧ Same fp M1 H1 M'' H'' ∧ Kpt H1 H'' ∧ Stp M H M'' H'' ∧ lcLoop It (lcStep t Wt We env) Qd (It.ds.drop (i + 1)) acc' M'', ?_, ?_⟩
    · rintro H'' hh
      exact ⟨It.ds.length - (i + 1), by omega, rfl, hlt, hh⟩
    · intro x H2 hy
      obtain ⟨d, d1, d2, d3, d4, d5⟩ := ir.yld i M' H' x H2 e5 e6 e4 hok hy hlt
      have hd : d = It.ds[i] := by rw [List.getElem?_eq_getElem hlt] at d1; exact (Option.some.inj d1).symm
      unfold lcStep at e8
      rw [← hd] at e8
      split at e8
      · rename_i env' hb
        have k2 := d4.kpt e4
        have s2 := e5.step ir.fix d4
        have st2 := e7.trans d4
        have kk : Kpt H H2 := st2.kpt rm
        refine ⟨d, M', env, env', (· ∈ own.map (·.2)), d2, d3, (rs.mono g.ok kk).wipe _, hb, fun σ' r' ag => ?_⟩
        have r2 : RS G σ' H2 env' := r'.rs fun j ⟨z1, z2⟩ => z2 ((hown j).mp z1)
        refine ⟨?_, env', M', _, r2, d3, e8, fun b H3 ⟨M3, b1, b2, b3⟩ => ?_⟩
        · rw [agree_wipe ag (fun j hj => (hown j).mpr hj)]
          have : ∀ (vs : List Nat) (σ : L2.St), wipe (wipe σ vs) vs = wipe σ vs := fun vs σ => by
            refine List.ext_getElem? fun j => ?_
            by_cases hj : j ∈ vs
            · have nn : ∀ (σ : L2.St), (wipe σ vs)[j]? = if j < σ.length then some none else none := by
                intro σ
                cases q : (wipe σ vs)[j]? with
                | none =>
                  have := List.getElem?_eq_none_iff.mp q
                  rw [wipe_length] at this
                  rw [if_neg (by omega)]
                | some o =>
                  have := (List.getElem?_eq_some_iff.mp q).1
                  rw [wipe_length] at this
                  rw [if_pos this]
                  cases o with
                  | none => rfl
                  | some x => exact absurd hj (wipe_some q).2
              rw [nn, nn, wipe_length]
            · rw [wipe_out hj]
          exact this _ _
        · have s3 := s2.step ir.fix b2
          have k3 := e6.trans (k2.trans (b2.kpt d3))
          have st3 := st2.trans b2
          have l3 := (d4.trans b2).keep D _ e1 e2 nofun
          cases b with
          | false =>
            refine PyProof.Rows.ite_ff ?_
            simp only [Bool.false_eq_true, if_false] at b3
            exact ⟨M3, acc, vs, l3.1, l3.2, e3.mono g.ok (k2.trans (b2.kpt d3)), b1, s3, k3, st3, b3⟩
          | true =>
            refine PyProof.Rows.ite_tt ?_
            simp only [if_true] at b3
            refine ⟨env', M3, _, r2.mono g.ok (b2.kpt d3), b1, b3, fun y H4 ⟨c, M4, c1, c2, c3, c4, c5⟩ => ?_⟩
            obtain ⟨l4, n4⟩ := c3.keep D _ l3.1 l3.2 nofun
            have k4 := k2.trans ((b2.kpt d3).trans (c3.kpt b1))
            have e3' := e3.mono g.ok k4
            refine ⟨vs, l4, by rw [← line_eq, ← e3.length]; exact c4, M4, acc ++ [c], vs ++ [y], upd_same, n4, (e3'.append (RVs.one c1)).mono g.ok (.own l4), c2.own g.ok l4 n4, Same.own (s3.step ir.fix c3) hfp, (e6.trans k4).trans (.own l4), (st3.trans c3).own hD0 hM0, c5⟩
      · exact e8.elim
  · left
    have hi : i = It.ds.length := by omega
    subst hi
    rw [List.drop_length] at e8
    unfold lcLoop at e8
    exact ⟨ir.stop M' H' e5 e6 e4 e8.1, hQ _ _ ⟨It, J, fp, M1, H1, D, M', acc, vs, rfl, ir, e5, e1, hfp, hD0, e2, e3, e4, e7, e8.2⟩⟩
theorem pe_lcW {elt tg iter : Expr} {ifs : List Expr} {scope : Scope} {own : List (Str × Nat)} {pos : Pos} {t : CT} {Wi : Env → Mem → (MP.It → Mem → Prop) → Prop} {Wt : Env → Mem → (Bool → Mem → Prop) → Prop} {We : Env → Mem → VQ → Prop}
    (g : XG X G k) (hi : PI X tg iter (tWi X G Wi)) (ok : BlkOk X.N X.env.scope scope own) (hown : ∀ i, i ∈ own.map (·.2) ↔ i ∈ tn t)
    (hg : ∀ (s : Shared) (H : Hp) (C : Addr) (cl : List (Str × Addr)) (fp : List Addr), PG (X.blk s H scope (compEnvC scope cl C X.env) fp) tg (tG G t)) (ht : ∀ (s : Shared) (H : Hp) (C : Addr) (cl : List (Str × Addr)) (fp : List Addr), PTs (X.blk s H scope (compEnvC scope cl C X.env) fp) ifs (tWb G Wt))
    (he : ∀ (s : Shared) (H : Hp) (C : Addr) (cl : List (Str × Addr)) (fp : List Addr), PE (X.blk s H scope (compEnvC scope cl C X.env) fp) elt (tW G We)) (hs : ∀ x, foldedSetIterable iter X.env x = pure x) :
    PE X (.ListComp elt [⟨tg, iter, ifs, 0⟩] scope pos) (tWf G fun e M Q => Wi e M fun J M => lcLoop J (lcStep t Wt We e) Q J.ds [] M) := by
  refine ⟨fun pins s σ H Q I ⟨env, M, Qd, rs, rm, h, fin⟩ => ?_⟩
  refine thn ((pe_lc g.calm g.nd hi ok hg ht he hs).run pins s σ H (LcPost X G M H Qd) I (lc_rd g hown rs rm h fun _ _ q => q)) fun u s1 ⟨v, H', I1, r1, q⟩ => ?_
  obtain ⟨H2, I2, q2⟩ := q.fin g I1
  exact ⟨v, H2, I2, r1, fin _ _ q2⟩
end
end MP
end
section
/-! MP10: the text's parts against the small language's; what is needed of each. -/
namespace MP
open PySem PySem.Spec L2

/-! ### taking expressions apart -/
def asConst : Expr → Option D
  | .Constant .none _ _ => some .non
  | .Constant (.bool b) _ _ => some (.bl b)
  | .Constant (.int i) _ _ => some (.int i)
  | .Constant (.str x) _ _ => some (.str x)
  | _ => none
def asBin : Expr → Option (Expr × Operator × Expr)
  | .BinOp a o b _ => some (a, o, b)
  | _ => none
def asUn : Expr → Option (UnaryOp × Expr)
  | .UnaryOp o a _ => some (o, a)
  | _ => none
def asCmp1 : Expr → Option (Expr × CmpOp × Expr)
  | .Compare a [o] [b] _ => some (a, o, b)
  | _ => none
def asCmp2 : Expr → Option (Expr × CmpOp × Expr × CmpOp × Expr)
  | .Compare a [o, o'] [b, c] _ => some (a, o, b, o', c)
  | _ => none
def asBool : Expr → Option (BoolOp × Expr × Expr × List Expr × Pos)
  | .BoolOp o (a :: b :: r) p => some (o, a, b, r, p)
  | _ => none
def boolTail (o : BoolOp) (p : Pos) (b : Expr) : List Expr → Expr
  | [] => b
  | c :: r => .BoolOp o (b :: c :: r) p
def asIf : Expr → Option (Expr × Expr × Expr)
  | .IfExp c a b _ => some (c, a, b)
  | _ => none
def asAttr : Expr → Option (Expr × Str)
  | .Attribute a f _ => some (a, f)
  | _ => none
def asSub : Expr → Option (Expr × Expr)
  | .Subscript a b _ => some (a, b)
  | _ => none
def asSlice : Expr → Option (Option Expr × Option Expr)
  | .Slice l h none _ => some (l, h)
  | _ => none
def asSliceR : Expr → Option Expr
  | .Slice none none (some z) _ => some z
  | _ => none
def asCall : Expr → Option (Str × List Expr)
  | .Call (.Name x _) es [] _ => some (x, es)
  | _ => none
def asMeth : Expr → Option (Expr × Str × List Expr × Bool)
  | .Call (.Attribute o m ap) es [] cp => some (o, m, es, ap.endLine == cp.line)
  | _ => none
def asCallL : Expr → Option (Str × Expr × Arguments × Expr × Scope)
  | .Call (.Name x _) [a, .Lambda ps b sc _] [] _ => some (x, a, ps, b, sc)
  | _ => none
def asCallL0 : Expr → Option (Str × Arguments × Expr × Scope)
  | .Call (.Name x _) [.Lambda ps b sc _] [] _ => some (x, ps, b, sc)
  | _ => none
def asList : Expr → Option (List Expr)
  | .List es _ => some es
  | _ => none
def asDC : Expr → Option (Expr × Expr × Expr × Expr × List Expr × Scope)
  | .DictComp kx vx [⟨tg, it, ifs, 0⟩] sc _ => some (kx, vx, tg, it, ifs, sc)
  | _ => none
theorem asDC_eq {e kx vx tg it : Expr} {cs : List Expr} {sc : Scope} (h : asDC e = some (kx, vx, tg, it, cs, sc)) : ∃ p, e = .DictComp kx vx [⟨tg, it, cs, 0⟩] sc p := by
  unfold asDC at h
  split at h
  · cases h; exact ⟨_, rfl⟩
  · cases h
def asLC : Expr → Option (Expr × Expr × Expr × List Expr × Scope)
  | .ListComp elt [⟨tg, it, ifs, 0⟩] sc _ => some (elt, tg, it, ifs, sc)
  | _ => none
def isDict0 : Expr → Bool
  | .Dict [] [] _ => true
  | _ => false
def notStar : Expr → Bool
  | .Starred _ _ => false
  | _ => true
def notSlice : Expr → Bool
  | .Slice _ _ _ _ => false
  | _ => true
def notSet : Expr → Bool
  | .Set _ _ _ => false
  | _ => true
/-- no call without arguments -/
def plainB : Expr → Bool
  | .Call (.Name _ _) [] [] _ => false
  | _ => true
/-- its test is its value's truth -/
def plainT : Expr → Bool
  | .UnaryOp .Not _ _ => false
  | .BoolOp _ _ _ => false
  | .IfExp _ _ _ _ => false
  | .Compare _ _ _ _ => false
  | _ => true
section
variable {e a b c : Expr}
theorem asConst_eq {d : D} (h : asConst e = some d) : (∃ k p, e = .Constant .none k p ∧ d = .non) ∨ (∃ b k p, e = .Constant (.bool b) k p ∧ d = .bl b) ∨ (∃ i k p, e = .Constant (.int i) k p ∧ d = .int i) ∨ ∃ x k p, e = .Constant (.str x) k p ∧ d = .str x := by
  unfold asConst at h
  split at h
  · cases h; exact .inl ⟨_, _, rfl, rfl⟩
  · cases h; exact .inr (.inl ⟨_, _, _, rfl, rfl⟩)
  · cases h; exact .inr (.inr (.inl ⟨_, _, _, rfl, rfl⟩))
  · cases h; exact .inr (.inr (.inr ⟨_, _, _, rfl, rfl⟩))
  · cases h
theorem asBin_eq {o} (h : asBin e = some (a, o, b)) : ∃ p, e = .BinOp a o b p := by unfold asBin at h; split at h <;> cases h; exact ⟨_, rfl⟩
theorem asUn_eq {o} (h : asUn e = some (o, a)) : ∃ p, e = .UnaryOp o a p := by unfold asUn at h; split at h <;> cases h; exact ⟨_, rfl⟩
theorem asCmp1_eq {o} (h : asCmp1 e = some (a, o, b)) : ∃ p, e = .Compare a [o] [b] p := by unfold asCmp1 at h; split at h <;> cases h; exact ⟨_, rfl⟩
theorem asCmp2_eq {o o'} (h : asCmp2 e = some (a, o, b, o', c)) : ∃ p, e = .Compare a [o, o'] [b, c] p := by unfold asCmp2 at h; split at h <;> cases h; exact ⟨_, rfl⟩
theorem asBool_eq {o r p} (h : asBool e = some (o, a, b, r, p)) : e = .BoolOp o (a :: b :: r) p := by unfold asBool at h; split at h <;> cases h; rfl
theorem asIf_eq (h : asIf e = some (c, a, b)) : ∃ p, e = .IfExp c a b p := by unfold asIf at h; split at h <;> cases h; exact ⟨_, rfl⟩
theorem asAttr_eq {f} (h : asAttr e = some (a, f)) : ∃ p, e = .Attribute a f p := by unfold asAttr at h; split at h <;> cases h; exact ⟨_, rfl⟩
theorem asSub_eq (h : asSub e = some (a, b)) : ∃ p, e = .Subscript a b p := by unfold asSub at h; split at h <;> cases h; exact ⟨_, rfl⟩
theorem asSlice_eq {l r} (h : asSlice e = some (l, r)) : ∃ p, e = .Slice l r none p := by unfold asSlice at h; split at h <;> cases h; exact ⟨_, rfl⟩
theorem asSliceR_eq {z} (h : asSliceR e = some z) : ∃ p, e = .Slice none none (some z) p := by unfold asSliceR at h; split at h <;> cases h; exact ⟨_, rfl⟩
theorem asCall_eq {x es} (h : asCall e = some (x, es)) : ∃ p q, e = .Call (.Name x p) es [] q := by unfold asCall at h; split at h <;> cases h; exact ⟨_, _, rfl⟩
theorem asCallL_eq {x ps sc} (h : asCallL e = some (x, a, ps, b, sc)) : ∃ p q lp, e = .Call (.Name x p) [a, .Lambda ps b sc lp] [] q := by unfold asCallL at h; split at h <;> cases h; exact ⟨_, _, _, rfl⟩
theorem asCallL0_eq {x ps sc} (h : asCallL0 e = some (x, ps, b, sc)) : ∃ p q lp, e = .Call (.Name x p) [.Lambda ps b sc lp] [] q := by unfold asCallL0 at h; split at h <;> cases h; exact ⟨_, _, _, rfl⟩
theorem asMeth_eq {x m es l} (h : asMeth e = some (x, m, es, l)) : ∃ ap cp, e = .Call (.Attribute x m ap) es [] cp ∧ (ap.endLine == cp.line) = l := by unfold asMeth at h; split at h <;> cases h; exact ⟨_, _, rfl, rfl⟩
theorem asList_eq {es} (h : asList e = some es) : ∃ p, e = .List es p := by unfold asList at h; split at h <;> cases h; exact ⟨_, rfl⟩
theorem asLC_eq {ifs sc} (h : asLC e = some (a, b, c, ifs, sc)) : ∃ p, e = .ListComp a [⟨b, c, ifs, 0⟩] sc p := by unfold asLC at h; split at h <;> cases h; exact ⟨_, rfl⟩
def asDict1 : Expr → Option (Expr × Expr)
  | .Dict [some a] [b] _ => some (a, b)
  | _ => none
theorem asDict1_eq (h : asDict1 e = some (a, b)) : ∃ p, e = .Dict [some a] [b] p := by unfold asDict1 at h; split at h <;> cases h; exact ⟨_, rfl⟩
theorem isDict0_eq (h : isDict0 e = true) : ∃ p, e = .Dict [] [] p := by unfold isDict0 at h; split at h <;> first | exact ⟨_, rfl⟩ | cases h
theorem star1 {es : List Expr} {env : PySem.Env} (h : notStar e = true) : starEach (e :: es) env = (false, eval e env) :: starEach es env := by
  cases e <;> first | rfl | cases h
theorem starN {es : List Expr} {env : PySem.Env} {pos : Pos} (h : es.all notStar = true) : (backTo pos (starEach es env)).any (·.1) = false := by
  induction es with
  | nil => rfl
  | cons e es ih =>
    rw [List.all_cons, Bool.and_eq_true] at h
    rw [star1 h.1]
    show (false || _) = false
    exact ih h.2
theorem starM {es : List Expr} {env : PySem.Env} {pos : Pos} (h : es.all notStar = true) : (backTo pos (starEach es env)).all (fun x => !x.1) = true := by
  induction es with
  | nil => rfl
  | cons e es ih =>
    rw [List.all_cons, Bool.and_eq_true] at h
    rw [star1 h.1]
    show (true && _) = true
    exact ih h.2
theorem plainIx_of (h : notSlice b = true) : PlainIx b := by
  intro o i
  cases b <;> first | rfl | cases h
theorem noMark {op : CmpOp} (h : notSet b = true) : behindInMarks op b = false := by cases b <;> first | rfl | cases h
theorem base_of {f : Str} {env : PySem.Env} (h : plainB e = true) (w : Sem Value) : attributeBase e f env w = w := by
  unfold attributeBase
  split
  · rename_i e'
    cases h
  · rfl
theorem isTrue_pl {env : PySem.Env} (h : plainT e = true) (w : Sem Value) : isTrue e env w = (do let v ← w; standAt e.pos; holding [v] (truthy v)) := by
  cases e with
  | UnaryOp o _ _ => cases o <;> first | rfl | cases h
  | BoolOp _ _ _ => cases h
  | IfExp _ _ _ _ => cases h
  | Compare _ _ _ _ => cases h
  | _ => rfl
theorem folded_of {env : PySem.Env} (h : notSet e = true) (x : Value) : foldedSetIterable e env x = pure x := by
  unfold foldedSetIterable
  split
  · cases h
  · rfl
end
end MP
end
section
/-! MP11: the checker of expressions, and that it is right. -/
namespace MP
open PySem PySem.Spec L2

/-! ### the checker -/
def okNm (x : Str) : Bool := decide (x ≠ "__debug__") && decide (x ≠ "__classdict__") && decide (x ≠ "__name__")
def visB (S : Sx) (x : Str) : Bool := match S.sc.names.lookup x with
  | some .local | some .cell | some .free => true
  | _ => false
def glB (S : Sx) (x : Str) : Bool := match S.sc.names.lookup x with
  | some .globalImplicit => okNm x
  | _ => false
/-- a call of the built-in n -/
def asB (S : Sx) (n : String) (e : Expr) : Option (List Expr) := match asCall e with
  | some (x, es) => if (decide (x = Str.ofString n) && glB S x && es.all notStar) = true then some es else none
  | none => none
def asM (n : String) (e : Expr) : Option (Expr × List Expr) := match asMeth e with
  | some (o, m, es, l) => if (decide (m = Str.ofString n) && l && plainB o && es.all notStar && decide (es.length < 20)) = true then some (o, es) else none
  | none => none
def ckCls (S : Sx) (t : String) (e : Expr) : Bool := match asName e with
  | some x => decide (x = Str.ofString t) && glB S x && (decide (t ∈ tyNames) || decide (t ∈ S.clss))
  | none => false
def isNon : CE → Bool
  | .con .non => true
  | _ => false
def isZero : CE → Bool
  | .con (.int 0) => true
  | _ => false
/-- the block of a comprehension -/
def ownOf (N : List Str) (is : List Nat) : List (Str × Nat) := is.map fun i => (N.getD i Str.empty, i)
def Sx.blk (S : Sx) (sc : Scope) : Sx := { S with sc := relS sc S.sc, top := false, lm := false, own := fun x => sc.names.lookup x == some .cell }
def noDefaults : Arguments → Bool
  | ⟨_, _, _, _, [], _, []⟩ => true
  | _ => false
/-- a lambda handed to a def -/
def ckLam (S : Sx) (l : String) (cap : List Nat) (ps : Arguments) (b : Expr) (sc : Scope) : Bool := S.top && S.lm && S.lamB l ps b sc && noDefaults ps && (match S.lams.find? (fun E => E.l == l) with
  | some E => (sc.names.all fun y => !decide (y.2 = .free) || decide (S.sc.names.lookup y.1 = some .cell) || decide (S.sc.names.lookup y.1 = some .free)) && (E.fr.all fun y => decide ((y, NameKind.free) ∈ sc.names)) && decide (cap.map (fun j => S.N[j]?) = E.fr.map some)
  | none => false)
mutual
def ckE (S : Sx) : CE → Expr → Bool
  | .var i, e => (match asName e with | some x => decide (S.N[i]? = some x) && visB S x && okNm x | none => false)
  | .con d, e => (match asConst e with
    | some c => decide (c = d)
    | none => (match asName e with | some x => glB S x && S.cons.any (fun p => decide (Str.ofString p.1 = x) && decide (p.2 = d)) | none => false))
  | .bin op a b, e => (match asBin e with | some (x, o, y) => decide (o = binOf op) && (ckE S a x && ckE S b y) | none => false)
  | .neg a, e => (match asUn e with | some (o, x) => decide (o = .USub) && ckE S a x | none => false)
  | .cmp op a b, e => (match asCmp1 e with | some (x, o, y) => decide (o = cmpOf op) && notSet y && (ckE S a x && ckE S b y) | none => false)
  | .chain o1 o2 a b c, e => (match asCmp2 e with | some (x, p, y, q, z) => decide (p = cmpOf o1) && decide (q = cmpOf o2) && notSet z && (ckE S a x && (ckE S b y && ckE S c z)) | none => false)
  | .and_ a b, e => (match asBool e with | some (o, x, y, r, p) => decide (o = .And) && (ckE S a x && ckE S b (boolTail .And p y r)) | none => false)
  | .or_ a b, e => (match asBool e with | some (o, x, y, r, p) => decide (o = .Or) && (ckE S a x && ckE S b (boolTail .Or p y r)) | none => false)
  | .not_ a, e => (match asUn e with | some (o, x) => decide (o = .Not) && ckE S a x | none => false)
  | .ite c a b, e => (match asIf e with | some (x, y, z) => ckE S c x && (ckE S a y && ckE S b z) | none => false)
  | .fld a f, e => (match asAttr e with | some (x, g) => decide (g = Str.ofString f) && decide (f ∈ S.flds) && plainB x && ckE S a x | none => false)
  | .ix a b, e => (match asSub e with | some (x, y) => notSlice y && (ckE S a x && ckE S b y) | none => false)
  | .cut a lo hi, e => (match asSub e with
    | some (x, y) => (match asSlice y with
      | some (l, h) => ckE S a x && ((match l with | some l => ckE S lo l | none => isNon lo) && (match h with | some h => ckE S hi h | none => isNon hi))
      | none => false)
    | none => false)
  | .rev a b, e => (match asSub e with
    | some (x, y) => (match asSliceR y with
      | some z => ckE S a x && ckE S b z
      | none => false)
    | none => false)
  | .tup es, e => (match asTuple e with | some l => ckEs S es l | none => false)
  | .tupq q, e => (match asB S "tuple" e with | some [x] => ckQ S q x | _ => false)
  | .mkl f, e => ckF S f e
  | .len q, e => (match asB S "len" e with | some [x] => ckQ S q x | _ => false)
  | .lenv a, e => (match asB S "len" e with | some [x] => ckE S a x | _ => false)
  | .all (.fr f), e => (match asB S "all" e with | some [x] => ckF S f x | _ => false)
  | .any (.fr f), e => (match asB S "any" e with | some [x] => ckF S f x | _ => false)
  | .sum (.fr f), e => (match asB S "sum" e with | some [x] => ckF S f x | _ => false)
  | .least (.fr f), e => (match asB S "min" e with | some [x] => ckF S f x | _ => false)
  | .most (.fr f), e => (match asB S "max" e with | some [x] => ckF S f x | _ => false)
  | .inq n a q, e => (match asCmp1 e with | some (x, o, y) => decide (o = if n = true then .NotIn else .In) && notSet y && (ckE S a x && ckQ S q y) | none => false)
  | .ind n a b, e => (match asCmp1 e with | some (x, o, y) => decide (o = if n = true then .NotIn else .In) && notSet y && (ckE S a x && ckE S b y) | none => false)
  | .dnew .nil, e => isDict0 e
  | .dnew (.cons k v .nil), e => (match asDict1 e with | some (x, y) => ckE S k x && ckE S v y | none => false)
  | .dcopy a, e => (match asB S "dict" e with | some [x] => ckE S a x | _ => false)
  | .dcomp i t ifs k v, e => (match asDC e with
    | some (kx, vx, tg, it, cs, sc) => ckI S i tg it && notSet it && blkC S.N S.sc sc (ownOf S.N (tn t)) && (ckT (S.blk sc) t tg && (ckIfs (S.blk sc) ifs cs && (ckE (S.blk sc) k kx && ckE (S.blk sc) v vx)))
    | none => false)
  | .dget d k x, e => (match asM "get" e with
    | some (o, [a, b]) => ckE S d o && (ckE S k a && ckE S x b)
    | some (o, [a]) => ckE S d o && (ckE S k a && isNon x)
    | _ => false)
  | .dpop d k, e => (match asM "pop" e with | some (o, [a]) => ckE S d o && ckE S k a | _ => false)
  | .abs a, e => (match asB S "abs" e with | some [x] => ckE S a x | _ => false)
  | .int a, e => (match asB S "int" e with | some [x] => ckE S a x | _ => false)
  | .isi a [t], e => (match asB S "isinstance" e with | some [x, c] => ckCls S t c && ckE S a x | _ => false)
  | .two most a b, e => (match asB S (if most = true then "max" else "min") e with | some [x, y] => ckE S a x && ckE S b y | _ => false)
  | .call f es, e => (match asCall e with | some (x, l) => decide (x = Str.ofString (S.tx f)) && decide (f ∈ S.fns) && glB S x && ckEs S es l | none => false)
  | .make c es, e => (match asCall e with | some (x, l) => decide (x = Str.ofString c) && decide (c ∈ S.clss) && glB S x && !l.isEmpty && ckEs S es l | none => false)
  | .callv i es, e => (match asCall e with | some (x, l) => decide (S.N[i]? = some x) && visB S x && okNm x && S.cv && !l.isEmpty && ckEs S es l | none => false)
  | .callL f .nil l cap, e => (match asCallL0 e with
    | some (x, ps, b, sc) => decide (x = Str.ofString (S.tx f)) && decide (f ∈ S.fns) && glB S x && ckLam S l cap ps b sc
    | none => false)
  | .callL f (.cons a .nil) l cap, e => (match asCallL e with
    | some (x, y, ps, b, sc) => decide (x = Str.ofString (S.tx f)) && decide (f ∈ S.fns) && glB S x && notStar y && ckLam S l cap ps b sc && ckE S a y
    | none => false)
  | .pop a, e => (match asM "pop" e with | some (o, []) => ckE S a o | _ => false)
  | .append a b, e => (match asM "append" e with | some (o, [x]) => ckE S a o && ckE S b x | _ => false)
  | .extend a q, e => (match asM "extend" e with | some (o, [x]) => ckE S a o && ckQ S q x | _ => false)
  | .reverse a, e => (match asM "reverse" e with | some (o, []) => ckE S a o | _ => false)
  | .dclear a, e => (match asM "clear" e with | some (o, []) => ckE S a o | _ => false)
  | _, _ => false
def ckEs (S : Sx) : CEs → List Expr → Bool
  | .nil, [] => true
  | .cons c cs, e :: es => notStar e && (ckE S c e && ckEs S cs es)
  | _, _ => false
/-- at most one test -/
def ckIfs (S : Sx) : CEs → List Expr → Bool
  | .nil, [] => true
  | .cons c .nil, [e] => ckE S c e
  | _, _ => false
def ckF (S : Sx) : CF → Expr → Bool
  | .disp es, e => (match asList e with | some l => ckEs S es l | none => false)
  | .lc i t ifs a, e => (match asLC e with
    | some (elt, tg, it, cs, sc) => ckI S i tg it && notSet it && blkC S.N S.sc sc (ownOf S.N (tn t)) && (ckT (S.blk sc) t tg && (ckIfs (S.blk sc) ifs cs && ckE (S.blk sc) a elt))
    | none => false)
  | .list q, e => (match asB S "list" e with | some [x] => ckQ S q x | _ => false)
  | .keys a, e => (match asB S "list" e with | some [x] => ckE S a x | _ => false)
  | .sorted (.fr (.keys a)), e => (match asB S "sorted" e with | some [x] => ckE S a x || ckF S (.keys a) x | _ => false)
  | .sorted (.fr (.cut a (.con .non) (.con .non))), e => (match asB S "sorted" e with | some [x] => ckE S a x | _ => false)
  | .sorted (.fr f), e => (match asB S "sorted" e with | some [x] => ckF S f x | _ => false)
  | .sset q, e => (match asB S "sorted" e with | some [x] => (match asB S "set" x with | some [y] => ckQ S q y | _ => false) | _ => false)
  | .cat (.of a) q, e => (match asBin e with | some (x, o, y) => decide (o = .Add) && (ckE S a x && ckQ S q y) | none => false)
  | .cat (.fr f) q, e => (match asBin e with | some (x, o, y) => decide (o = .Add) && (ckF S f x && ckQ S q y) | none => false)
  | .cut a lo hi, e => (match asSub e with
    | some (x, y) => (match asSlice y with
      | some (l, h) => ckE S a x && ((match l with | some l => ckE S lo l | none => isNon lo) && (match h with | some h => ckE S hi h | none => isNon hi))
      | none => false)
    | none => false)
  | _, _ => false
def ckQ (S : Sx) : CQ → Expr → Bool
  | .of c, e => ckE S c e
  | .fr f, e => ckF S f e
/-- the target, the thing walked: enumerate wants a tuple for its target -/
def ckI (S : Sx) : CI → Expr → Expr → Bool
  | .seq (.of a), _, e => ckE S a e
  | .seq (.fr f), _, e => ckF S f e
  | .live a, _, e => ckE S a e
  | .rng lo hi, _, e => (match asB S "range" e with
    | some [x] => isZero lo && ckE S hi x
    | some [x, y] => ckE S lo x && ckE S hi y
    | _ => false)
  | .enum (.seq (.of a)), tg, e => (asTuple tg).isSome && (match asB S "enumerate" e with | some [x] => ckE S a x | _ => false)
  | .zipT a b, tg, e => (asTuple tg).isSome && (match asB S "zip" e with | some [x, y] => ckE S a x && ckE S b y | _ => false)
  | .keys a, _, e => ckE S a e
  | _, _, _ => false
end
end MP
end
section
/-! MP12: pieces of the proof that the checker of expressions is right. -/
namespace MP
open PySem PySem.Spec L2

def QLs (G : Gx) (M : Mem) (H : Hp) (Q : List D → Mem → Prop) : VK := fun v H' => ∃ ds vs p M', v = .ref p ∧ H' p = some (.lst vs) ∧ RVs G H' ds vs ∧ RM G H' M' ∧ Stp M H M' H' ∧ Q ds M'
def tWl (G : Gx) (W : Env → Mem → (List D → Mem → Prop) → Prop) : TE := fun σ H Q => ∃ env M Qd, RS G σ H env ∧ RM G H M ∧ W env M Qd ∧ ∀ v H', QLs G M H Qd v H' → Q v H'
theorem QL.qls {G : Gx} {M : Mem} {H H' : Hp} {Q : List D → Mem → Prop} {v : V} (h : QL G M H Q v H') : QLs G M H Q v H' := let ⟨ds, vs, p, M', e, _, h2, _, h4, h5, h6, q⟩ := h; ⟨ds, vs, p, M', e, h2, h4, h5, h6, q⟩

def RAs (G : Gx) (H : Hp) : List D → List V → Prop
  | [], vs => vs = []
  | d :: ds, vs => ∃ v r, vs = v :: r ∧ RVe G H d v ∧ RAs G H ds r
theorem RVs.as {G : Gx} {H : Hp} : ∀ {ds : List D} {vs : List V}, RVs G H ds vs → RAs G H ds vs
  | [], _, h => h
  | _ :: _, _, h => let ⟨v, r, e, a, b⟩ := h; ⟨v, r, e, a.e, RVs.as b⟩
theorem RAs.length {G : Gx} {H : Hp} : ∀ {ds : List D} {vs : List V}, RAs G H ds vs → ds.length = vs.length
  | [], _, h => by rw [show _ = [] from h] <;> rfl
  | _ :: _, _, h => by
    obtain ⟨v, r, rfl, _, b⟩ := h
    rw [List.length_cons, List.length_cons, RAs.length b]
theorem RAs.get {G : Gx} {H : Hp} : ∀ {ds : List D} {vs : List V} {i : Nat} {d : D}, RAs G H ds vs → ds[i]? = some d → ∃ v, vs[i]? = some v ∧ RVe G H d v
  | [], _, _, _, _, e => by simp at e
  | _ :: _, _, 0, _, h, e => by
    obtain ⟨v, r, rfl, a, _⟩ := h
    simp at e
    subst e
    exact ⟨v, rfl, a⟩
  | _ :: _, _, i + 1, _, h, e => by
    obtain ⟨v, r, rfl, _, b⟩ := h
    obtain ⟨u, e1, e2⟩ := RAs.get (i := i) b (by simpa using e)
    exact ⟨u, by simpa using e1, e2⟩
/-- an error -/
def RXc (G : Gx) (x : DX) (cls : Value) : Prop := ∃ C, cls = .ref C ∧ G.exc x.cls = some C ∧ x.anc = G.anc x.cls
def QX (G : Gx) (M : Mem) (H : Hp) (Xd : XQ) : XK := fun cls _ H' => ∃ x M', RXc G x cls ∧ RM G H' M' ∧ Stp M H M' H' ∧ Xd x M'
theorem QX.step {G : Gx} {M M1 : Mem} {H H1 : Hp} {Xd : XQ} {cls : Value} {d : Option Addr} {H' : Hp} (q : QX G M1 H1 Xd cls d H') (st : Stp M H M1 H1) : QX G M H Xd cls d H' := let ⟨x, M', a, b, c, e⟩ := q; ⟨x, M', a, b, st.trans c, e⟩
theorem QX.no {G : Gx} {M : Mem} {H : Hp} {cls : Value} {d : Option Addr} {H' : Hp} (q : QX G M H noX cls d H') : False := let ⟨_, _, _, _, _, e⟩ := q; e
/-- the calls: what a function of the text does -/
def spD (G : Gx) (φ : CallSem) (f : String) : Sp := fun vs H Q E => ∃ ds M Qd Xd, RAs G H ds vs ∧ RM G H M ∧ φ f ds M Qd Xd ∧ (∀ v H', QV G M H Qd v H' → Q v H') ∧ ∀ cls d H', QX G M H Xd cls d H' → E cls d H'
abbrev noE : XK := fun _ _ _ => False
def FnI (X : Cx) (G : Gx) (φ : CallSem) (t f : String) : Prop := ∃ (CX : CXT) (_ : CX = L2.CX X.prog X.w) (a : Addr) (fd : FuncData) (ps : List Str) (k : Nat), FnOk X.prog X.w X.K X.mg X.base CX k a fd ps (spD G φ f) ∧ Room k X.A ∧ X.mg (Str.ofString t) = some (.ref a) ∧ PySem.W.keepIn X.K (.ref a) = true ∧ Binds X.K fd ps [] ∧ ∀ outer H s e s', CX outer H s noE e s' → False
def MkI (X : Cx) (G : Gx) (φ : CallSem) (c : String) : Prop := ∃ (CX : CXT) (_ : CX = L2.CX X.prog X.w) (C a : Addr) (fd : FuncData) (ps : List Str) (k : Nat), Mk X.K C a ∧ FnOk X.prog X.w X.K X.mg X.base CX k a fd ps (spD G φ (c ++ ".__init__")) ∧ Room (k + 1) X.A ∧ X.mg (Str.ofString c) = some (.ref C) ∧ G.cls c = some C ∧ Binds X.K fd ps [] ∧ ∀ outer H s e s', CX outer H s noE e s' → False
/-- a lambda of the text -/
structure LamD where
  qual : Str
  params : Arguments
  body : Expr
  scope : Scope
  ps : List Str
  fr : List Str
  N : List Str
/-- what its captured cells hold -/
structure CapH (cl : List (Str × Addr)) (fr : List Str) (vs : List V) (H : Hp) : Prop where
  len : vs.length = fr.length
  all : ∀ y c, cl.lookup y = some c → ∃ o u, H c = some (.frz o (.own 0)) ∧ o.data = .cell u
  mem : ∀ p ∈ cl, ∃ y, cl.lookup y = some p.2
  inj : ∀ x y c, cl.lookup x = some c → cl.lookup y = some c → x = y
  has : ∀ (i : Nat) (y : Str) (v : V), fr[i]? = some y → vs[i]? = some v → ∃ c o u, cl.lookup y = some c ∧ H c = some (.frz o (.own 0)) ∧ o.data = .cell (some u) ∧ RelV v u
  hs : ∀ y ∈ fr, ∃ c, cl.lookup y = some c
def cloL (L : String → LamD → Prop) (l : String) (H : Hp) (vs : List V) (v : V) : Prop := ∃ d, L l d ∧ ∃ (f c' : Addr) (pm ctv : Value) (cl : List (Str × Addr)), v = .ref f ∧
  H f = some (.frz (PySem.W.kla_obj "<lambda>" d.qual d.params d.body d.scope cl pm c' ctv) (.own 0)) ∧ H c' = some (LamX.CodeO c' d.qual) ∧ CapH cl d.fr vs H
/-- the function of a lambda keeps its promise -/
def LamOk (P : Program) (w : World) (K : PySem.W.Frag) (mg : Str → Option Value) (base : Heap) (k : Nat) (G : Gx) (φ : CallSem) (l : String) : Prop :=
  ∀ (A : Around) (outer : List PySem.Env) (s : Shared) (H : Hp) (us : List Value) (vs cvs : List V) (ds cap : List D) (M : Mem) (Qd : VQ) (Xd : XQ) (Q : VK) (E : XK) (f : Addr), Room k A → Env0 P w K mg base A outer s H → G.clo l H cvs (.ref f) → RVs G H cap cvs → RVs G H ds vs → Vals vs us → RM G H M → φ l (ds ++ cap) M Qd Xd →
    (∀ v H', QV G M H Qd v H' → Q v H') → (∀ cls d H', QX G M H Xd cls d H' → E cls d H') → codeAny (model P w) A (.call (.ref f) ⟨us, []⟩) (CR (L2.CX P w) outer P w H s Q E) s
theorem cx_no {P : Program} {w : World} {outer : List PySem.Env} {H : Hp} {s : Shared} {e : Value} {s' : Shared} (h : L2.CX P w outer H s noE e s') : False := by
  obtain ⟨_, _, _, _, _, _, _, _, _, _, _, _, z⟩ := h
  exact z
/-- a call that may raise -/
def tWX (G : Gx) (W : WX) (Wc : Env → Mem → VQ → XQ → Prop) : TE := fun σ H Q => ∃ env M Qd Xd, RS G σ H env ∧ RM G H M ∧ Wc env M Qd Xd ∧ (∀ v H', QV G M H Qd v H' → Q v H') ∧ ∀ cls d H', QX G M H Xd cls d H' → W cls d σ H'
/-- what is known of the lambdas' functions -/
def LamI (X : Cx) (G : Gx) (φ : CallSem) (L : String → LamD → Prop) : Prop := G.clo = cloL L ∧ ∃ k, Room k X.A ∧ ∀ l d, L l d → LamOk X.prog X.w X.K X.mg X.base k G φ l
structure CtxC (S : Sx) (X : Cx) (G : Gx) (k : Nat) (φ : CallSem) : Prop extends Ctx S X G k where
  fns : ∀ f ∈ S.fns, FnI X G φ (S.tx f) f
  clss : ∀ c ∈ S.clss, MkI X G φ c
  exc : ∀ p ∈ S.excs, ∃ C, G.exc p.1 = some C ∧ G.anc p.1 = p.2 ∧ X.mg (Str.ofString p.1) = some (.ref C)
  lamI : S.cv = true → ∃ L, LamI X G φ L
  lamM : S.lm = true → ∃ L, G.clo = cloL L ∧ (∀ l ps b sc E, S.lams.find? (fun E => E.l == l) = some E → S.lamB l ps b sc = true → L l ⟨X.env.qual ++ "<lambda>", ps, b, sc, E.ps, E.fr, E.N⟩) ∧
    ∃ cc P, LamX.TabB X.base X.mg cc P ∧ X.env.code = .ref cc ∧ (P, X.env.qual ++ "<lambda>") ∈ G.T ∧ ∀ p ∈ G.T, p.1 = P → p.2 = X.env.qual ++ "<lambda>"

section
variable {S : Sx} {X : Cx} {G : Gx} {k : Nat} {φ : CallSem} {e x y z : Expr}
theorem okNm_d {x : Str} (h : okNm x = true) : (x == ("__debug__" : Str)) = false := by
  unfold okNm at h
  rw [Bool.and_eq_true, Bool.and_eq_true, decide_eq_true_eq] at h
  exact beq_eq_false_iff_ne.mpr h.1.1
theorem okNm_c {x : Str} (h : okNm x = true) : (x == ("__classdict__" : Str)) = false := by
  unfold okNm at h
  rw [Bool.and_eq_true, Bool.and_eq_true, decide_eq_true_eq, decide_eq_true_eq] at h
  exact beq_eq_false_iff_ne.mpr h.1.2
theorem okNm_n {x : Str} (h : okNm x = true) : x ≠ "__name__" := by
  unfold okNm at h
  rw [Bool.and_eq_true, decide_eq_true_eq (p := x ≠ "__name__")] at h
  exact h.2
theorem glB_of (c : Ctx S X G k) {x : Str} (h : glB S x = true) : Gl X x ∧ okNm x = true := by
  unfold glB at h
  split at h
  · rename_i q
    exact ⟨by show X.env.scope.names.lookup x = _; rw [c.sc]; exact q, h⟩
  · cases h
theorem visB_of (c : Ctx S X G k) {x : Str} (h : visB S x = true) : Vis X.env.scope x := by
  unfold visB at h
  unfold Vis
  rw [c.sc]
  split at h
  · exact .inl (by assumption)
  · exact .inr (.inl (by assumption))
  · exact .inr (.inr (by assumption))
  · cases h
theorem asB_eq {n : String} {es : List Expr} (h : asB S n e = some es) : (∃ p q, e = .Call (.Name (Str.ofString n) p) es [] q) ∧ glB S (Str.ofString n) = true ∧ es.all notStar = true := by
  unfold asB at h
  split at h
  · rename_i x l hx
    split at h
    · rename_i hc
      cases h
      rw [Bool.and_eq_true, Bool.and_eq_true, decide_eq_true_eq] at hc
      obtain ⟨⟨rfl, h2⟩, h3⟩ := hc
      exact ⟨asCall_eq hx, h2, h3⟩
    · cases h
  · cases h
theorem asM_eq {n : String} {es : List Expr} (h : asM n e = some (x, es)) : (∃ ap cp, e = .Call (.Attribute x (Str.ofString n) ap) es [] cp ∧ (ap.endLine == cp.line) = true) ∧ plainB x = true ∧ es.all notStar = true ∧ es.length < 20 := by
  unfold asM at h
  split at h
  · rename_i o m l b hx
    split at h
    · rename_i hc
      cases h
      simp only [Bool.and_eq_true, decide_eq_true_eq] at hc
      obtain ⟨⟨⟨⟨rfl, h2⟩, h3⟩, h4⟩, h5⟩ := hc
      subst h2
      exact ⟨asMeth_eq hx, h3, h4, h5⟩
    · cases h
  · cases h
/-- a call of a built-in with one thing -/
theorem callB1 {n id : String} {f : V → Hp → VK → Prop} {ta : TE} (c : Ctx S X G k) (hv : bootBuiltins (Str.ofString n) = some (.builtin id)) (hc : CallR X (.builtin id) (fun xs H Q => ∃ x, xs = [x] ∧ f x H Q)) (h : asB S n e = some [x]) (ha : PE X x ta) (hn : n ∈ bltNames := by decide) : PE X e (tUn f ta) := by
  obtain ⟨⟨p, q, rfl⟩, h2, h3⟩ := asB_eq h
  obtain ⟨g1, g2⟩ := glB_of c h2
  have h4 : notStar x = true := by simpa using h3
  refine (pe_callB hc g1 (c.blt n hn) hv (pa_cons ha pa_nil (star1 h4)) (okNm_n g2) (okNm_d g2) (star1 h4) rfl).imp fun σ H Q hh => ?_
  exact hh |> fun (hh : ta σ H fun x H1 => f x H1 Q) => show ta σ H fun x H1 => ∃ y, [x] = [y] ∧ f y H1 Q from by
    have : (fun x H1 => ∃ y, [x] = [y] ∧ f y H1 Q) = fun x H1 => f x H1 Q := by
      funext x H1
      refine propext ⟨fun ⟨y, e, q⟩ => ?_, fun q => ⟨x, rfl, q⟩⟩
      cases e; exact q
    rw [this]; exact hh
theorem callT1 {n : String} {f : V → Hp → VK → Prop} {ta : TE} (c : Ctx S X G k) (hv : bootBuiltins (Str.ofString n) = some (.type n)) (hc : CallR X (.type n) (fun xs H Q => ∃ x, xs = [x] ∧ f x H Q)) (h : asB S n e = some [x]) (ha : PE X x ta) (hn : n ∈ bltNames := by decide) : PE X e (tUn f ta) := by
  obtain ⟨⟨p, q, rfl⟩, h2, h3⟩ := asB_eq h
  obtain ⟨g1, g2⟩ := glB_of c h2
  have h4 : notStar x = true := by simpa using h3
  refine (pe_callTy hc g1 (c.blt n hn) hv (pa_cons ha pa_nil (star1 h4)) (okNm_n g2) (okNm_d g2) (star1 h4) rfl).imp fun σ H Q hh => ?_
  exact hh |> fun (hh : ta σ H fun x H1 => f x H1 Q) => show ta σ H fun x H1 => ∃ y, [x] = [y] ∧ f y H1 Q from by
    have : (fun x H1 => ∃ y, [x] = [y] ∧ f y H1 Q) = fun x H1 => f x H1 Q := by
      funext x H1
      refine propext ⟨fun ⟨y, e, q⟩ => ?_, fun q => ⟨x, rfl, q⟩⟩
      cases e; exact q
    rw [this]; exact hh
/-! ### readings in a row, more -/
theorem tWq_un {W : Env → Mem → VQ → Prop} {Wq : Env → Mem → (List D → Mem → Prop) → Prop} {f : List D → Mem → VQ → Prop} (h : ∀ e M Q, W e M Q → Wq e M fun ds M => f ds M Q) {σ : L2.St} {H : Hp} {Q : VK} : tW G W σ H Q → tUn (rq G f) (tWq G Wq) σ H Q := by
  rintro ⟨env, M, Qd, a, b, c, d⟩
  refine ⟨env, M, _, a, b, h _ _ _ c, fun v H1 ⟨ds, vs, p, M1, e, c1, c2, c3, c4, c5⟩ => ?_⟩
  exact ⟨M1, ds, vs, p, Qd, e, c1, c2, c3, c5, fun w H3 q => d w H3 (q.step c4)⟩
theorem tWl_un {W : Env → Mem → VQ → Prop} {Wq : Env → Mem → (List D → Mem → Prop) → Prop} {f : List D → Mem → VQ → Prop} (h : ∀ e M Q, W e M Q → Wq e M fun ds M => f ds M Q) {σ : L2.St} {H : Hp} {Q : VK} : tW G W σ H Q → tUn (rl G f) (tWf G Wq) σ H Q := by
  rintro ⟨env, M, Qd, a, b, c, d⟩
  refine ⟨env, M, _, a, b, h _ _ _ c, fun v H1 q => ?_⟩
  obtain ⟨ds, vs, p, M1, e, _, c1, _, c2, c3, c4, c5⟩ := q
  exact ⟨M1, ds, vs, p, Qd, e, .of c1, c2, c3, c5, fun w H3 q => d w H3 (q.step c4)⟩
theorem tWql_un {W : Env → Mem → (List D → Mem → Prop) → Prop} {Wq : Env → Mem → (List D → Mem → Prop) → Prop} {f : List D → Mem → (List D → Mem → Prop) → Prop} (h : ∀ e M Q, W e M Q → Wq e M fun ds M => f ds M Q) {σ : L2.St} {H : Hp} {Q : VK} : tWf G W σ H Q → tUn (rql G f) (tWq G Wq) σ H Q := by
  rintro ⟨env, M, Qd, a, b, c, d⟩
  refine ⟨env, M, _, a, b, h _ _ _ c, fun v H1 ⟨ds, vs, p, M1, e, c1, c2, c3, c4, c5⟩ => ?_⟩
  exact ⟨M1, ds, vs, p, Qd, e, c1, c2, c3, c5, fun w H3 q => d w H3 (q.step c4)⟩
theorem pt_of (g : XG X G k) {W : Env → Mem → VQ → Prop} (he : PE X e (tW G W)) (hp : plainT e = true) : PT X e (tWb G fun en M Q => W en M fun x M => wTruth x M Q) := by
  refine ⟨fun pins s σ H Q I ⟨env, M, Qd, a, b, c, d⟩ => ?_⟩
  refine PyProof.Rows.isTrue_plain (thn (he.run pins s σ H (QV G M H fun x M => wTruth x M Qd) I ⟨env, M, _, a, b, c, fun _ _ q => q⟩) fun v s1 ⟨x, H1, I1, r1, d1, M1, q1, q2, q3, q4⟩ => ?_) (isTrue_pl hp _)
  exact tru_w g pins s1 σ H1 x v Q I1 r1 ⟨M1, d1, Qd, q2, q1, q4, fun b H' q => d b H' (q.step q3)⟩
theorem wCmp_bl {op : Cmp} {x y : D} {M : Mem} {Q : VQ} (h : wCmp op x y M Q) : wCmp op x y M fun d M => ∃ k, d = .bl k ∧ Q d M := by
  rcases h with h | h
  case inr =>
    refine .inr ?_
    unfold wCmpD at h ⊢
    split at h
    · split at h
      · exact ⟨h.1, _, rfl, h.2⟩
      · exact h.elim
    · split at h
      · exact ⟨h.1, _, rfl, h.2⟩
      · exact h.elim
    · exact h.elim
  refine .inl ?_
  unfold wCmp0 at h ⊢
  cases op <;> dsimp only at h ⊢
  · split at h
    · exact ⟨_, rfl, h⟩
    · exact h.elim
  · split at h
    · exact ⟨_, rfl, h⟩
    · exact h.elim
  · exact ⟨h.1, _, rfl, h.2⟩
  · split at h
    · exact ⟨_, rfl, h⟩
    · exact h.elim
  · split at h
    · exact ⟨_, rfl, h⟩
    · exact h.elim
  · split at h
    · exact ⟨_, rfl, h⟩
    · exact h.elim
  · split at h
    · exact ⟨_, rfl, h⟩
    · exact h.elim
  · split at h
    · exact ⟨_, rfl, h⟩
    · exact h.elim
theorem QV.dat {M : Mem} {H H' : Hp} {Q : VQ} {k : Bool} {v : V} (h : QV G M H (fun d M => ∃ k, d = .bl k ∧ Q d M) v H') : ∃ k, v = .bl k ∧ QV G M H Q v H' := by
  obtain ⟨d, M', a, b, c, k, e, q⟩ := h
  subst e
  exact ⟨k, a, .bl k, M', a, b, c, q⟩
/-- a comparison -/
theorem cmp_pe (c : Ctx S X G k) {op : Cmp} {Wa Wb : Env → Mem → VQ → Prop} (h : asCmp1 e = some (x, cmpOf op, y)) (hy : notSet y = true) (ha : PE X x (tW G Wa)) (hb : PE X y (tW G Wb)) :
    PE X e (tW G fun en M Q => Wa en M fun x M => Wb en M fun y M => wCmp op x y M Q) := by
  obtain ⟨p, rfl⟩ := asCmp1_eq h
  exact (pe_cmpR (op_cmp c.xg op) ha hb (noMark hy)).imp fun σ H Q hh => tW_op c.xg.ok (fun _ _ _ q => q) hh
theorem tW_tb (W : Env → Mem → VQ → Prop) (hw : ∀ e M Q, (W e M Q) → W e M Q) {σ : L2.St} {H : Hp} {Q : Bool → Hp → Prop} {W' : Env → Mem → (Bool → Mem → Prop) → Prop} (hb : ∀ e M Q, W' e M Q → W e M fun d M => ∃ k, d = .bl k ∧ Q k M) : tWb G W' σ H Q → tTest (tW G W) σ H Q := by
  rintro ⟨env, M, Qd, a, b, c, d⟩
  refine ⟨env, M, _, a, b, hb _ _ _ c, fun v H1 ⟨x, M1, q1, q2, q3, k, e, q4⟩ => ?_⟩
  subst e
  exact ⟨k, q1, d _ _ ⟨M1, q2, q3, q4⟩⟩
end
end MP
namespace MP
open PySem PySem.Spec L2
section
variable {X : Cx} {G : Gx} {k : Nat}
/-- xs.sort() of a list that is tracked as it is -/
theorem sort_own {pins : List (Addr × Obj)} {σ : L2.St} {H : Hp} {s : Shared} {A : Around} {E : Value → Shared → Prop} {Q : Value → Shared → Prop} {D : Addr} {ds : List MP.D} {vs : List V} (g : XG X G k) (hA : A.units + 100 < cLine) (I : Inv X pins σ H s) (hD : H D = some (.lst vs)) (hv : RVs G H ds vs) (hs : srt ds = true)
    (h : ∀ ws s', RVs G H (sortD ds) ws → Inv X pins σ (upd H D (.lst ws)) s' → Q .none s') : wpAny (model X.prog X.w) A (call (.builtin "list.sort") [.ref D]) Q E s := by
  obtain ⟨hm, hal, hso, hms⟩ := srt_data hs
  obtain ⟨its, n, rv, ho, hz⟩ := I.lst hD
  have ⟨e1, e2⟩ := srt_each (ds := ds) (es := ds.attach) I g.K (fun d _ => hm d.1 d.2) (by rw [List.attach_map_subtype_val]; exact hv) rv
  have hln : ds.attach.length ≤ sizeLine := by rw [List.length_attach, hv.length]; exact hz
  refine PySem.W.list_sort_data ho e1 (e2.mono fun _ _ q => ⟨[], q, by simp⟩) hal hso hln (fun b _ => by have := pd_depth (hm b.1 b.2); omega) fun out hou eo => ?_
  obtain ⟨ws, hw, hw'⟩ := srt_back eo
  rw [hms] at hw
  obtain ⟨ep', he'⟩ := PyProof.Rows.sortedHeap_at (out := out.toArray) ho
  have hlw : ws.length ≤ sizeLine := by rw [hw'.length, hou]; exact hln
  refine h ws _ hw ?_
  exact I.write (x := D) (e := D) (t' := s.toks) (by rw [hD]; exact True.intro) (.inl rfl) (fun b u hb q => (PyProof.Rows.sortedHeap_old hb (Heap.lt_size q)).trans q) ⟨_, he'⟩ ⟨hlw, out, ep', hw', he'⟩
/-- sorted(d), d a dict: its keys -/
theorem sortd_w (g : XG X G k) : CallR X (.builtin "sorted") (fun xs H Q => ∃ x, xs = [x] ∧ ∃ M d Qd, RM G H M ∧ RV G H d x ∧ (wKeys d M fun ds M => srt ds = true ∧ Qd (sortD ds) M) ∧ ∀ v H', QL G M H Qd v H' → Q v H') := by
  intro pins s σ H xs us Q I r ⟨x, e, M, d, Qd, rm, rd, h, i⟩
  subst e
  have hu := g.units
  unfold wKeys at h
  split at h
  · rename_i p
    rw [show x = _ from rd] at r
    split at h
    · rename_i kvs e1
      obtain ⟨hs, h⟩ := h
      obtain ⟨ys, dm, rxs, hsy, hl, hks, nd⟩ := rd_dict I g rm e1
      obtain ⟨es, ep, hr, he⟩ := dm.ob
      obtain ⟨vs, hv, hv'⟩ := rxs.kvals
      have hsz : es.size = ys.length := ent_size he
      have hn : es.size ≤ sizeLine := by rw [hsz, ← rxs.length, ← line_eq]; exact hl
      rw [Vals.ref1 r]
      refine PySem.Calls.call_function_entry PyProof.Rows.kind_sorted PyProof.Rows.plain_sorted PyProof.Rows.entry_sorted (PyProof.Rows.args_sorted1 _) ?_
      unfold Builtin.«sorted»
      refine wpAny_bind (m := checkCount "sorted" 1 1 _) (wpAny_pure ?_)
      refine wpAny_bind (PySem.W.kdu_collect (A := X.A.in1) (PySem.KdlSrc.rawDict hsy) (I.ok.hd g.calm) hr hn fun h' tk acc kp hacc => ?_)
      have ha : acc.toList = ys.map (·.2.1) := keys_items he (by rw [Array.length_toList]; exact hacc.1) fun j v e => hacc.2 j v (by rw [← Array.getElem?_toList]; exact e)
      rw [ha]
      refine wpAny_bind (wpAny_newList ?_ (by rw [List.length_map, ← hsz]; exact hn))
      have I0 : Inv X pins σ H { s with heap := h', toks := tk } := I.kept (t' := tk) kp
      have hlv : vs.length ≤ sizeLine := by rw [← hv.length, List.length_map, ← line_eq]; exact hl
      have hno : H h'.objs.size = none := I0.hok.fresh (Nat.le_refl _)
      have I1 : Inv X pins σ (upd H h'.objs.size (.lst vs)) { s with heap := h'.push { cls := .type "list", data := .seq (ys.map (·.2.1)).toArray }, toks := tk } :=
        I0.laid (t' := tk) (fun b o e => Heap.get?_push_of_some _ e) (Nat.le_refl _) ⟨hlv, _, 0, hv', Heap.get?_push_size _ rfl⟩
      have hvn : RVs G (upd H h'.objs.size (.lst vs)) (kvs.map (·.1)) vs := hv.mono g.ok (.new hno)
      refine wpAny_bind (wpAny_holding (wpAny_mono (sort_own (A := X.A.in1) (E := X.xe) (Q := fun _ s2 => EP X pins σ Q (.ref h'.objs.size) s2) g (by show X.A.units + 1 + 100 < _; omega) I1 upd_same hvn hs fun ws s2 hw I2 => ?_) (fun _ _ q => ?_) fun _ _ z => z))
      · rw [upd_upd] at I2
        have hw2 : RVs G (upd H h'.objs.size (.lst ws)) (sortD (kvs.map (·.1))) ws := hw.mono g.ok (by
          have := Kpt.own (o := .lst ws) (upd_same (H := H) (a := h'.objs.size) (o := .lst vs))
          rw [upd_upd] at this
          exact this)
        exact ⟨.ref h'.objs.size, _, I2, rfl, i _ _ ⟨sortD (kvs.map (·.1)), ws, h'.objs.size, M, rfl, hno, upd_same, rm.free hno, hw2, rm.new g.ok hno, .new rm hno, h⟩⟩
      · exact wpAny_pure ⟨_, rfl, q⟩
    · exact h.elim
  · exact h.elim
end
end MP
end
section
/-! MP13: the checker of expressions is right. -/
namespace MP
open PySem PySem.Spec L2

section
variable {G : Gx} {k : Nat} {φ : CallSem}
theorem and_iff {a b : Bool} : (a && b) = true ↔ a = true ∧ b = true := by simp
section
variable {S : Sx} {X : Cx} {e x y : Expr}
theorem isNon_eq {c : CE} (h : isNon c = true) : c = .con .non := by
  unfold isNon at h
  split at h
  · rfl
  · cases h
/-- and, or -/
theorem and_pe (c : Ctx S X G k) {Wa Wb : Env → Mem → VQ → Prop} {r : List Expr} {p : Pos} (ha : PE X x (tW G Wa)) (hb : PE X (boolTail .And p y r) (tW G Wb)) :
    PE X (.BoolOp .And (x :: y :: r) p) (tW G fun en M Q => Wa en M fun x M => wTruth x M fun k M => if k = true then Wb en M Q else Q x M) := by
  have hb' : PE X (.BoolOp .And (y :: r) p) (tW G Wb) := by
    cases r with
    | nil => exact ⟨fun pins s σ H Q I h => PyProof.Rows.BoolOp_one (hb.run pins s σ H Q I h)⟩
    | cons z r => exact hb
  refine ⟨fun pins s σ H Q I ⟨env, M, Qd, a, b, w, d⟩ => ?_⟩
  refine PyProof.Rows.BoolOp_and (thn (ha.run pins s σ H (QV G M H fun x M => wTruth x M fun k M => if k = true then Wb env M Qd else Qd x M) I ⟨env, M, _, a, b, w, fun _ _ q => q⟩) fun v s1 ⟨xv, H1, I1, r1, d1, M1, q1, q2, q3, q4⟩ => ?_)
  refine thn (tru_w c.xg pins s1 σ H1 xv v (fun b H' => QB G M1 H1 (fun k M => if k = true then Wb env M Qd else Qd d1 M) b H') I1 r1 ⟨M1, d1, _, q2, q1, q4, fun _ _ q => q⟩) fun b s2 ⟨H2, I2, M2, t1, t2, t3⟩ => ?_
  have st := q3.trans t2
  cases b with
  | true =>
    refine PyProof.Rows.ite_tt (hb'.run pins s2 σ H2 Q I2 ⟨env, M2, Qd, a.mono c.xg.ok (st.kpt b), t1, by simpa using t3, fun v H' q => d v H' (q.step st)⟩)
  | false => exact PyProof.Rows.ite_ff ⟨xv, H2, I2, r1, d _ _ ⟨d1, M2, q1.mono c.xg.ok (t2.kpt q2), t1, st, by simpa using t3⟩⟩
theorem or_pe (c : Ctx S X G k) {Wa Wb : Env → Mem → VQ → Prop} {r : List Expr} {p : Pos} (ha : PE X x (tW G Wa)) (hb : PE X (boolTail .Or p y r) (tW G Wb)) :
    PE X (.BoolOp .Or (x :: y :: r) p) (tW G fun en M Q => Wa en M fun x M => wTruth x M fun k M => if k = true then Q x M else Wb en M Q) := by
  have hb' : PE X (.BoolOp .Or (y :: r) p) (tW G Wb) := by
    cases r with
    | nil => exact ⟨fun pins s σ H Q I h => PyProof.Rows.BoolOp_one (hb.run pins s σ H Q I h)⟩
    | cons z r => exact hb
  refine ⟨fun pins s σ H Q I ⟨env, M, Qd, a, b, w, d⟩ => ?_⟩
  refine PyProof.Rows.BoolOp_or (thn (ha.run pins s σ H (QV G M H fun x M => wTruth x M fun k M => if k = true then Qd x M else Wb env M Qd) I ⟨env, M, _, a, b, w, fun _ _ q => q⟩) fun v s1 ⟨xv, H1, I1, r1, d1, M1, q1, q2, q3, q4⟩ => ?_)
  refine thn (tru_w c.xg pins s1 σ H1 xv v (fun b H' => QB G M1 H1 (fun k M => if k = true then Qd d1 M else Wb env M Qd) b H') I1 r1 ⟨M1, d1, _, q2, q1, q4, fun _ _ q => q⟩) fun b s2 ⟨H2, I2, M2, t1, t2, t3⟩ => ?_
  have st := q3.trans t2
  cases b with
  | true => exact PyProof.Rows.ite_tt ⟨xv, H2, I2, r1, d _ _ ⟨d1, M2, q1.mono c.xg.ok (t2.kpt q2), t1, st, by simpa using t3⟩⟩
  | false => refine PyProof.Rows.ite_ff (hb'.run pins s2 σ H2 Q I2 ⟨env, M2, Qd, a.mono c.xg.ok (st.kpt b), t1, by simpa using t3, fun v H' q => d v H' (q.step st)⟩)
/-- and, or as tests -/
theorem and_pt (c : Ctx S X G k) {Wa Wb : Env → Mem → (Bool → Mem → Prop) → Prop} {r : List Expr} {p : Pos} (ha : PT X x (tWb G Wa)) (hb : PT X (boolTail .And p y r) (tWb G Wb)) :
    PT X (.BoolOp .And (x :: y :: r) p) (tWb G fun en M Q => Wa en M fun k M => if k = true then Wb en M Q else Q false M) := by
  have hb' : ∀ (wh : Sem Value) (pins : List (Addr × Obj)) (s : Shared) (σ : L2.St) (H : Hp) (Q : Bool → Hp → Prop), Inv X pins σ H s → tWb G Wb σ H Q → wpAny (model X.prog X.w) X.A (isTrue (.BoolOp .And (y :: r) p) X.env wh) (TP X pins σ Q) X.xe s := by
    intro wh pins s σ H Q I h
    cases r with
    | nil =>
      refine PyProof.Rows.isTrue_and (thn (hb.run pins s σ H Q I h) fun b s1 q => ?_)
      cases b with
      | true => exact PyProof.Rows.isTrue_and_nil q
      | false => exact q
    | cons z r => exact hb.run pins s σ H Q I h
  refine ⟨fun pins s σ H Q I ⟨env, M, Qd, a, b, w, d⟩ => ?_⟩
  refine PyProof.Rows.isTrue_and (thn (ha.run pins s σ H (QB G M H fun k M => if k = true then Wb env M Qd else Qd false M) I ⟨env, M, _, a, b, w, fun _ _ q => q⟩) fun v s1 ⟨H1, I1, M1, q2, q3, q4⟩ => ?_)
  cases v with
  | true => exact PyProof.Rows.ite_tt (hb' _ pins s1 σ H1 Q I1 ⟨env, M1, Qd, a.mono c.xg.ok (q3.kpt b), q2, by simpa using q4, fun v H' q => d v H' (q.step q3)⟩)
  | false => exact PyProof.Rows.ite_ff ⟨H1, I1, d _ _ ⟨M1, q2, q3, by simpa using q4⟩⟩
theorem or_pt (c : Ctx S X G k) {Wa Wb : Env → Mem → (Bool → Mem → Prop) → Prop} {r : List Expr} {p : Pos} (ha : PT X x (tWb G Wa)) (hb : PT X (boolTail .Or p y r) (tWb G Wb)) :
    PT X (.BoolOp .Or (x :: y :: r) p) (tWb G fun en M Q => Wa en M fun k M => if k = true then Q true M else Wb en M Q) := by
  have hb' : ∀ (wh : Sem Value) (pins : List (Addr × Obj)) (s : Shared) (σ : L2.St) (H : Hp) (Q : Bool → Hp → Prop), Inv X pins σ H s → tWb G Wb σ H Q → wpAny (model X.prog X.w) X.A (isTrue (.BoolOp .Or (y :: r) p) X.env wh) (TP X pins σ Q) X.xe s := by
    intro wh pins s σ H Q I h
    cases r with
    | nil =>
      refine PyProof.Rows.isTrue_or (thn (hb.run pins s σ H Q I h) fun b s1 q => ?_)
      cases b with
      | true => exact q
      | false => exact PyProof.Rows.isTrue_or_nil q
    | cons z r => exact hb.run pins s σ H Q I h
  refine ⟨fun pins s σ H Q I ⟨env, M, Qd, a, b, w, d⟩ => ?_⟩
  refine PyProof.Rows.isTrue_or (thn (ha.run pins s σ H (QB G M H fun k M => if k = true then Qd true M else Wb env M Qd) I ⟨env, M, _, a, b, w, fun _ _ q => q⟩) fun v s1 ⟨H1, I1, M1, q2, q3, q4⟩ => ?_)
  cases v with
  | true => exact PyProof.Rows.ite_tt ⟨H1, I1, d _ _ ⟨M1, q2, q3, by simpa using q4⟩⟩
  | false => exact PyProof.Rows.ite_ff (hb' _ pins s1 σ H1 Q I1 ⟨env, M1, Qd, a.mono c.xg.ok (q3.kpt b), q2, by simpa using q4, fun v H' q => d v H' (q.step q3)⟩)
theorem not_pe (c : Ctx S X G k) {Wa : Env → Mem → VQ → Prop} {p : Pos} (ha : PE X x (tW G Wa)) : PE X (.UnaryOp .Not x p) (tW G fun en M Q => Wa en M fun x M => wTruth x M fun k M => Q (.bl (!k)) M) := by
  refine ⟨fun pins s σ H Q I ⟨env, M, Qd, a, b, w, d⟩ => ?_⟩
  refine PyProof.Rows.UnaryOp_ (thn (ha.run pins s σ H (QV G M H fun x M => wTruth x M fun k M => Qd (.bl (!k)) M) I ⟨env, M, _, a, b, w, fun _ _ q => q⟩) fun v s1 ⟨xv, H1, I1, r1, d1, M1, q1, q2, q3, q4⟩ => ?_)
  refine PyProof.Rows.not_of (thn (tru_w c.xg pins s1 σ H1 xv v (fun b H' => QB G M1 H1 (fun k M => Qd (.bl (!k)) M) b H') I1 r1 ⟨M1, d1, _, q2, q1, q4, fun _ _ q => q⟩) fun b s2 ⟨H2, I2, M2, t1, t2, t3⟩ => ?_)
  exact ⟨.bl (!b), H2, I2, rfl, d _ _ ⟨.bl (!b), M2, rfl, t1, q3.trans t2, t3⟩⟩
theorem not_pt {W : Env → Mem → (Bool → Mem → Prop) → Prop} {p : Pos} (ha : PT X x (tWb G W)) : PT X (.UnaryOp .Not x p) (tWb G fun en M Q => W en M fun k M => Q (!k) M) := by
  refine ⟨fun pins s σ H Q I ⟨env, M, Qd, a, b, w, d⟩ => ?_⟩
  refine PyProof.Rows.isTrue_not (thn (ha.run pins s σ H (QB G M H fun k M => Qd (!k) M) I ⟨env, M, _, a, b, w, fun _ _ q => q⟩) fun b s1 ⟨H1, I1, M1, q2, q3, q4⟩ => ⟨H1, I1, d _ _ ⟨M1, q2, q3, q4⟩⟩)
/-- a if c else b -/
theorem ite_pe (c : Ctx S X G k) {Wc : Env → Mem → (Bool → Mem → Prop) → Prop} {Wa Wb : Env → Mem → VQ → Prop} {z : Expr} {p : Pos} (hc : PT X z (tWb G Wc)) (ha : PE X x (tW G Wa)) (hb : PE X y (tW G Wb)) :
    PE X (.IfExp z x y p) (tW G fun en M Q => Wc en M fun k M => if k = true then Wa en M Q else Wb en M Q) := by
  refine ⟨fun pins s σ H Q I ⟨env, M, Qd, a, b, w, d⟩ => ?_⟩
  refine wpAny_IfExp (thn (hc.run pins s σ H (QB G M H fun k M => if k = true then Wa env M Qd else Wb env M Qd) I ⟨env, M, _, a, b, w, fun _ _ q => q⟩) fun v s1 ⟨H1, I1, M1, q2, q3, q4⟩ => ?_)
  have a' := a.mono c.xg.ok (q3.kpt b)
  cases v with
  | true => exact PyProof.Rows.ite_tt (ha.run pins s1 σ H1 Q I1 ⟨env, M1, Qd, a', q2, by simpa using q4, fun v H' q => d v H' (q.step q3)⟩)
  | false => exact PyProof.Rows.ite_ff (hb.run pins s1 σ H1 Q I1 ⟨env, M1, Qd, a', q2, by simpa using q4, fun v H' q => d v H' (q.step q3)⟩)
theorem ite_pt (c : Ctx S X G k) {Wc Wa Wb : Env → Mem → (Bool → Mem → Prop) → Prop} {z : Expr} {p : Pos} (hc : PT X z (tWb G Wc)) (ha : PT X x (tWb G Wa)) (hb : PT X y (tWb G Wb)) :
    PT X (.IfExp z x y p) (tWb G fun en M Q => Wc en M fun k M => if k = true then Wa en M Q else Wb en M Q) := by
  refine ⟨fun pins s σ H Q I ⟨env, M, Qd, a, b, w, d⟩ => ?_⟩
  show wpAny _ _ (do if ← isTrue z X.env (eval z X.env) then isTrue x X.env (eval x X.env) else isTrue y X.env (eval y X.env)) _ _ s
  refine wpAny_bind (thn (hc.run pins s σ H (QB G M H fun k M => if k = true then Wa env M Qd else Wb env M Qd) I ⟨env, M, _, a, b, w, fun _ _ q => q⟩) fun v s1 ⟨H1, I1, M1, q2, q3, q4⟩ => ?_)
  have a' := a.mono c.xg.ok (q3.kpt b)
  cases v with
  | true =>
    simp only [if_true]
    exact ha.run pins s1 σ H1 Q I1 ⟨env, M1, Qd, a', q2, by simpa using q4, fun v H' q => d v H' (q.step q3)⟩
  | false =>
    simp only [Bool.false_eq_true, if_false]
    exact hb.run pins s1 σ H1 Q I1 ⟨env, M1, Qd, a', q2, by simpa using q4, fun v H' q => d v H' (q.step q3)⟩
/-- a chain of two comparisons -/
theorem chain_rd (g : GOk G) {Wa Wb Wc : Env → Mem → VQ → Prop} {o1 o2 : Cmp} {W : Env → Mem → VQ → Prop}
    (h : ∀ e M Q, W e M Q → Wa e M fun x M => Wb e M fun y M => wCmp o1 x y M fun t M => wTruth t M fun k M => if k = true then Wc e M fun z M => wCmp o2 y z M Q else Q (.bl false) M) {σ : L2.St} {H : Hp} {Q : VK} :
    tW G W σ H Q → tChain (r2 G (wCmp o1)) (r2 G (wCmp o2)) (tW G Wa) (tW G Wb) (tW G Wc) σ H Q := by
  rintro ⟨env, M, Qd, a, b, c, d⟩
  refine ⟨env, M, _, a, b, h _ _ _ c, fun v H1 ⟨x, M1, c1, c2, c3, c4⟩ => ?_⟩
  refine ⟨env, M1, _, a.mono g (c3.kpt b), c2, c4, fun u H2 ⟨y, M2, d1, d2, d3, d4⟩ => ?_⟩
  have k2 := d3.kpt c2
  refine ⟨M2, x, y, _, d2, c1.mono g k2, d1, wCmp_bl d4, fun w H3 ⟨t, M3, t1, t2, t3, kk, e, t4⟩ => ?_⟩
  subst e
  have st := (c3.trans d3).trans t3
  have t4' : (if kk = true then Wc env M3 fun z M => wCmp o2 y z M Qd else Qd (.bl false) M3) := t4
  refine ⟨kk, t1, ?_⟩
  cases kk with
  | true =>
    refine PyProof.Rows.ite_tt ⟨env, M3, fun z M => wCmp o2 y z M Qd, a.mono g (st.kpt b), t2, by simpa using t4', fun w' H4 ⟨z, M4, z1, z2, z3, z4⟩ => ?_⟩
    exact ⟨M4, y, z, Qd, z2, d1.mono g ((t3.kpt d2).trans (z3.kpt t2)), z1, z4, fun w H5 q => d w H5 (q.step (st.trans z3))⟩
  | false => exact PyProof.Rows.ite_ff (d _ _ ⟨.bl false, M3, rfl, t2, st, by simpa using t4'⟩)
/-- a field -/
theorem fld_pe (c : Ctx S X G k) {f : String} {W : Env → Mem → VQ → Prop} {p : Pos} (hf : f ∈ S.flds) (hb : plainB x = true) (ha : PE X x (tW G W)) : PE X (.Attribute x (Str.ofString f) p) (tW G fun en M Q => W en M fun x M => wFld x f M Q) := by
  refine ⟨fun pins s σ H Q I ⟨env, M, Qd, a, b, w, d⟩ => ?_⟩
  refine attr_of (base_of hb _) (thn (ha.run pins s σ H (QV G M H fun x M => wFld x f M Qd) I ⟨env, M, _, a, b, w, fun _ _ q => q⟩) fun v s1 ⟨xv, H1, I1, r1, d1, M1, q1, q2, q3, q4⟩ => ?_)
  exact fld_w c.xg (by rw [c.flds]; exact hf) pins s1 σ H1 xv v Q I1 r1 ⟨M1, d1, Qd, q2, q1, q4, fun w H5 q => d w H5 (q.step q3)⟩
/-- a method of a list, of a dict; t: what is known of its kind ahead of the arguments -/
theorem kindL {pins : List (Addr × Obj)} {σ : L2.St} {H : Hp} {s : Shared} {M : Mem} {d : D} {x : V} {v : Value} (I : Inv X pins σ H s) (rm : RM G H M) (rd : RV G H d x) (r : RelV x v) (h : isL M d = true) : s.TypeIs v "list" ∧ ∀ a, v = .ref a → ∃ ob, s.heap.get? a = some ob ∧ ob.dict = none := by
  unfold isL at h
  split at h
  · rename_i p
    split at h
    · rename_i ds e
      obtain ⟨vs, hr, hv⟩ := rm.rdL e
      rw [show x = _ from rd] at r
      exact tyV_is I r (.inl ⟨rfl, vs, .inl hr⟩)
    · cases h
  · cases h
theorem kindD (g : XG X G k) {pins : List (Addr × Obj)} {σ : L2.St} {H : Hp} {s : Shared} {M : Mem} {d : D} {x : V} {v : Value} (I : Inv X pins σ H s) (rm : RM G H M) (rd : RV G H d x) (r : RelV x v) (h : isDct M d = true) : s.TypeIs v "dict" ∧ ∀ a, v = .ref a → ∃ ob, s.heap.get? a = some ob ∧ ob.dict = none := by
  unfold isDct at h
  split at h
  · rename_i p
    split at h
    · rename_i kvs e
      obtain ⟨xs, dm, _⟩ := rd_dict I g rm e
      obtain ⟨es, ep, ⟨o, ho, hx, _⟩, _⟩ := dm.ob
      rw [show x = _ from rd] at r
      rw [show v = _ from r]
      refine ⟨⟨o, ho, hx.1⟩, fun a e => ?_⟩
      cases e
      exact ⟨o, ho, hx.2.1⟩
    · cases h
  · cases h
theorem meth0_pe {T name id : String} {W : Env → Mem → VQ → Prop} {f : D → Mem → VQ → Prop} {r : V → List V → Hp → VK → Prop} {W' : Env → Mem → VQ → Prop} (pa : PlainAttrs T) (slot : Slot T (Str.ofString name) id) (hty : typeOf (.builtin id) = pure (.type "method_descriptor")) (hm : MtR X id r)
    (h : asM name e = some (x, [])) (ha : PE X x (tW G W)) (hw : ∀ en M Q, W' en M Q → W en M fun x M => f x M Q)
    (kind : ∀ pins σ H s M d v u Q, Inv X pins σ H s → RM G H M → RV G H d v → RelV v u → f d M Q → s.TypeIs u T ∧ ∀ a, u = .ref a → ∃ ob, s.heap.get? a = some ob ∧ ob.dict = none)
    (hr : ∀ v H Q, r1 G f v H Q → r v [] H Q) : PE X e (tW G W') := by
  obtain ⟨⟨ap, cp, rfl, hl⟩, h2, _, _⟩ := asM_eq h
  refine ⟨fun pins s σ H Q I ⟨env, M, Qd, a, b, w, d⟩ => ?_⟩
  refine wpAny_Call_method0_late (base_of h2 _) hl (thn (ha.run pins s σ H (QV G M H fun x M => f x M Qd) I ⟨env, M, _, a, b, hw _ _ _ w, fun _ _ q => q⟩) fun v s1 ⟨xv, H1, I1, r1, d1, M1, q1, q2, q3, q4⟩ => ?_)
  obtain ⟨h3, h4⟩ := kind _ _ _ _ _ _ _ _ _ I1 q2 q1 r1 q4
  exact ⟨T, id, pa, slot, hty, h3, h4, Calls.callWith_builtin rfl (PySem.evalArgs_none (hm pins s1 σ H1 xv [] v [] Q I1 r1 .nil (hr _ _ _ ⟨M1, d1, Qd, q2, q1, q4, fun w H5 q => d w H5 (q.step q3)⟩)))⟩
end
end
end MP
end
section
/-! MP14: methods with arguments, calls, makings, displays. -/
namespace MP
open PySem PySem.Spec L2
section
variable {G : Gx} {k : Nat} {φ : CallSem} {S : Sx} {X : Cx} {e x y : Expr}
theorem methA_pe {T name id : String} {ta : TE} {t' : TE} {tA : TA} {a : Expr} {as : List Expr} {Kd : V → Hp → Prop} {r : V → List V → Hp → VK → Prop} (pa : PlainAttrs T) (slot : Slot T (Str.ofString name) id) (hty : typeOf (.builtin id) = pure (.type "method_descriptor")) (hm : MtR X id r)
    (h : asM name e = some (x, a :: as)) (ha : PE X x ta) (hA : PA X (a :: as) tA)
    (kind : ∀ pins σ H s v u, Inv X pins σ H s → RelV v u → Kd v H → s.TypeIs u T ∧ ∀ a, u = .ref a → ∃ ob, s.heap.get? a = some ob ∧ ob.dict = none)
    (hq : ∀ σ H Q, t' σ H Q → ta σ H fun v H1 => Kd v H1 ∧ tA σ H1 fun vs H2 => r v vs H2 Q) : PE X e t' := by
  obtain ⟨⟨ap, cp, rfl, hl⟩, h2, h3, h5⟩ := asM_eq h
  have hs := star1 (es := as) (env := X.env) (by rw [List.all_cons, Bool.and_eq_true] at h3; exact h3.1)
  have hp := starN (env := X.env) (pos := cp) (by rw [List.all_cons, Bool.and_eq_true] at h3; exact h3.2)
  refine ⟨fun pins s σ H Q I hh => ?_⟩
  refine wpAny_Call_method_late (base_of h2 _) (by rw [starM h3]; simp only [Bool.true_and]; exact and_iff.mpr ⟨rfl, decide_eq_true (by simp only [List.length_nil]; show (a :: as).length + 0 + (if ([] : List Keyword).isEmpty = true then 0 else 1) < 30; simp only [List.isEmpty_nil, if_true]; omega)⟩) hl rfl (thn (ha.run pins s σ H _ I (hq _ _ _ hh)) fun v s1 ⟨xv, H1, I1, r1, q1, q2⟩ => ?_)
  obtain ⟨h6, h7⟩ := kind _ _ _ _ _ _ I1 r1 q1
  refine ⟨T, id, pa, slot, hty, h6, h7, ?_⟩
  have hB := hA.run cp pins s1 σ H1 _ I1 q2
  rw [hs] at hB ⊢
  refine Calls.callWith_builtin (by show (false || (backTo cp (starEach as X.env)).any (·.1)) = false; rw [hp] <;> rfl) (Calls.evalArgs_plain ?_)
  exact thn hB fun us s2 ⟨vs, H2, I2, r2, q3⟩ => hm pins s2 σ H2 xv vs v us Q I2 r1 r2 q3
/-- the kind of a thing, as it is met -/
def KdL (G : Gx) (v : V) (H : Hp) : Prop := ∃ M d, RM G H M ∧ RV G H d v ∧ isL M d = true
def KdD (G : Gx) (v : V) (H : Hp) : Prop := ∃ M d, RM G H M ∧ RV G H d v ∧ isDct M d = true
theorem append_pe (c : Ctx S X G k) {Wa Wb : Env → Mem → VQ → Prop} (h : asM "append" e = some (x, [y])) (ha : PE X x (tW G Wa)) (hb : PE X y (tW G Wb)) :
    PE X e (tW G fun en M Q => Wa en M fun x M => isL M x = true ∧ Wb en M fun y M => wAppend x y M Q) := by
  have h3 := (asM_eq h).2.2.1
  refine methA_pe (Kd := KdL G) PySem.F.plainAttrs_list PySem.F.slot_list_append PySem.F.type_list_append (append_w c.xg) h ha (pa_cons hb pa_nil (star1 (by simpa using h3))) (fun pins σ H s v u I r ⟨M, d, a, b, q⟩ => kindL I a b r q) fun σ H Q ⟨env, M, Qd, a, b, w, d⟩ => ?_
  refine ⟨env, M, _, a, b, w, fun v H1 ⟨dx, M1, c1, c2, c3, c4, c5⟩ => ⟨⟨M1, dx, c2, c1, c4⟩, ?_⟩⟩
  refine ⟨env, M1, _, a.mono c.xg.ok (c3.kpt b), c2, c5, fun u H2 ⟨dy, M2, d1, d2, d3, d4⟩ => ⟨u, rfl, M2, dx, dy, Qd, d2, c1.mono c.xg.ok (d3.kpt c2), d1, d4, fun w H5 q => d w H5 (q.step (c3.trans d3))⟩⟩
theorem extend_pe (c : Ctx S X G k) {Wa : Env → Mem → VQ → Prop} {Wb : Env → Mem → (List D → Mem → Prop) → Prop} (h : asM "extend" e = some (x, [y])) (ha : PE X x (tW G Wa)) (hb : PE X y (tWl G Wb)) :
    PE X e (tW G fun en M Q => Wa en M fun x M => isL M x = true ∧ Wb en M fun ds M => wExtend x ds M Q) := by
  have h3 := (asM_eq h).2.2.1
  refine methA_pe (Kd := KdL G) PySem.F.plainAttrs_list PySem.F.slot_list_extend PySem.F.type_list_extend (extend_w c.xg) h ha (pa_cons hb pa_nil (star1 (by simpa using h3))) (fun pins σ H s v u I r ⟨M, d, a, b, q⟩ => kindL I a b r q) fun σ H Q ⟨env, M, Qd, a, b, w, d⟩ => ?_
  refine ⟨env, M, _, a, b, w, fun v H1 ⟨dx, M1, c1, c2, c3, c4, c5⟩ => ⟨⟨M1, dx, c2, c1, c4⟩, ?_⟩⟩
  refine ⟨env, M1, _, a.mono c.xg.ok (c3.kpt b), c2, c5, fun u H2 ⟨ds, vs, p, M2, e, d1, d2, d3, d4, d5⟩ => ⟨u, rfl, M2, dx, ds, vs, p, Qd, c1.mono c.xg.ok (d4.kpt c2), e, d1, d2, d3, d5, fun w H5 q => d w H5 (q.step (c3.trans d4))⟩⟩
theorem dpop_pe (c : Ctx S X G k) {Wa Wb : Env → Mem → VQ → Prop} (h : asM "pop" e = some (x, [y])) (ha : PE X x (tW G Wa)) (hb : PE X y (tW G Wb)) :
    PE X e (tW G fun en M Q => Wa en M fun x M => isDct M x = true ∧ Wb en M fun y M => wDpop x y M Q) := by
  have h3 := (asM_eq h).2.2.1
  refine methA_pe (Kd := KdD G) PySem.F.plainAttrs_dict PySem.F.slot_dict_pop PySem.F.type_dict_pop (dpop_w c.xg) h ha (pa_cons hb pa_nil (star1 (by simpa using h3))) (fun pins σ H s v u I r ⟨M, d, a, b, q⟩ => kindD c.xg I a b r q) fun σ H Q ⟨env, M, Qd, a, b, w, d⟩ => ?_
  refine ⟨env, M, _, a, b, w, fun v H1 ⟨dx, M1, c1, c2, c3, c4, c5⟩ => ⟨⟨M1, dx, c2, c1, c4⟩, ?_⟩⟩
  refine ⟨env, M1, _, a.mono c.xg.ok (c3.kpt b), c2, c5, fun u H2 ⟨dy, M2, d1, d2, d3, d4⟩ => ⟨u, rfl, M2, dx, dy, Qd, d2, c1.mono c.xg.ok (d3.kpt c2), d1, d4, fun w H5 q => d w H5 (q.step (c3.trans d3))⟩⟩
theorem dget1_pe (c : Ctx S X G k) {Wa Wb : Env → Mem → VQ → Prop} (h : asM "get" e = some (x, [y])) (ha : PE X x (tW G Wa)) (hb : PE X y (tW G Wb)) :
    PE X e (tW G fun en M Q => Wa en M fun x M => isDct M x = true ∧ Wb en M fun y M => wDget x y .non M Q) := by
  have h3 := (asM_eq h).2.2.1
  refine methA_pe (Kd := KdD G) PySem.F.plainAttrs_dict PySem.F.slot_dict_get PySem.F.type_dict_get (dget_w c.xg) h ha (pa_cons hb pa_nil (star1 (by simpa using h3))) (fun pins σ H s v u I r ⟨M, d, a, b, q⟩ => kindD c.xg I a b r q) fun σ H Q ⟨env, M, Qd, a, b, w, d⟩ => ?_
  refine ⟨env, M, _, a, b, w, fun v H1 ⟨dx, M1, c1, c2, c3, c4, c5⟩ => ⟨⟨M1, dx, c2, c1, c4⟩, ?_⟩⟩
  refine ⟨env, M1, _, a.mono c.xg.ok (c3.kpt b), c2, c5, fun u H2 ⟨dy, M2, d1, d2, d3, d4⟩ => .inr ⟨u, rfl, M2, dx, dy, Qd, d2, c1.mono c.xg.ok (d3.kpt c2), d1, d4, fun w H5 q => d w H5 (q.step (c3.trans d3))⟩⟩
theorem dget2_pe (c : Ctx S X G k) {z : Expr} {Wa Wb Wc : Env → Mem → VQ → Prop} (h : asM "get" e = some (x, [y, z])) (ha : PE X x (tW G Wa)) (hb : PE X y (tW G Wb)) (hc : PE X z (tW G Wc)) :
    PE X e (tW G fun en M Q => Wa en M fun x M => isDct M x = true ∧ Wb en M fun y M => Wc en M fun z M => wDget x y z M Q) := by
  have h3 := (asM_eq h).2.2.1
  simp only [List.all_cons, List.all_nil, Bool.and_true, Bool.and_eq_true] at h3
  refine methA_pe (Kd := KdD G) PySem.F.plainAttrs_dict PySem.F.slot_dict_get PySem.F.type_dict_get (dget_w c.xg) h ha (pa_cons hb (pa_cons hc pa_nil (star1 h3.2)) (star1 h3.1)) (fun pins σ H s v u I r ⟨M, d, a, b, q⟩ => kindD c.xg I a b r q) fun σ H Q ⟨env, M, Qd, a, b, w, d⟩ => ?_
  refine ⟨env, M, _, a, b, w, fun v H1 ⟨dx, M1, c1, c2, c3, c4, c5⟩ => ⟨⟨M1, dx, c2, c1, c4⟩, ?_⟩⟩
  refine ⟨env, M1, _, a.mono c.xg.ok (c3.kpt b), c2, c5, fun u H2 ⟨dy, M2, d1, d2, d3, d4⟩ => ?_⟩
  refine ⟨env, M2, _, a.mono c.xg.ok ((c3.trans d3).kpt b), d2, d4, fun u3 H3 ⟨dz, M3, e1, e2, e3, e4⟩ => .inl ⟨u, u3, rfl, M3, dx, dy, dz, Qd, e2, c1.mono c.xg.ok ((d3.kpt c2).trans (e3.kpt d2)), d1.mono c.xg.ok (e3.kpt d2), e1, e4, fun w H5 q => d w H5 (q.step ((c3.trans d3).trans e3))⟩⟩
/-! ### calls -/
theorem call_pe (c : CtxC S X G k φ) {f : String} {es : List Expr} {Ws : Env → Mem → (List D → Mem → Prop) → Prop} {p q : Pos} (hf : f ∈ S.fns) (hg : glB S (Str.ofString (S.tx f)) = true) (hs : es.all notStar = true) (hn : es ≠ []) (ha : PA X es (tWs G Ws)) :
    PE X (.Call (.Name (Str.ofString (S.tx f)) p) es [] q) (tW G fun en M Q => Ws en M fun ds M => φ f ds M Q noX) := by
  obtain ⟨CX, _, a, fd, ps, k', F, hr, hm, hk, hb, hx⟩ := c.fns f hf
  obtain ⟨g1, g2⟩ := glB_of c.toCtx hg
  have key : ∀ σ H Q, tW G (fun en M Q => Ws en M fun ds M => φ f ds M Q noX) σ H Q → tCall (spD G φ f) [] noE (tWs G Ws) σ H Q := by
    rintro σ H Q ⟨env, M, Qd, a, b, w, d⟩
    refine ⟨env, M, _, a, b, w, fun vs H1 ⟨ds, M1, c1, c2, c3, c4⟩ => ?_⟩
    exact ⟨ds, M1, Qd, noX, by rw [List.append_nil]; exact RVs.as c1, c2, c4, fun v H' q => d v H' (q.step c3), fun _ _ _ q => q.no⟩
  cases es with
  | nil => exact absurd rfl hn
  | cons e es =>
    rw [List.all_cons, Bool.and_eq_true] at hs
    exact (pe_call F hr g1 hm hk hb .nil (fun _ _ _ _ _ _ _ q => (hx _ _ _ _ _ q).elim) ha (okNm_d g2) (star1 hs.1) (starN hs.2)).imp key
theorem call0_pe (c : CtxC S X G k φ) {f : String} {p q : Pos} (hf : f ∈ S.fns) (hg : glB S (Str.ofString (S.tx f)) = true) : PE X (.Call (.Name (Str.ofString (S.tx f)) p) [] [] q) (tW G fun en M Q => φ f [] M Q noX) := by
  obtain ⟨CX, _, a, fd, ps, k', F, hr, hm, hk, hb, hx⟩ := c.fns f hf
  obtain ⟨g1, g2⟩ := glB_of c.toCtx hg
  refine (pe_call0 F hr g1 hm hk hb .nil (fun _ _ _ _ _ _ _ q => (hx _ _ _ _ _ q).elim) (okNm_d g2)).imp fun σ H Q ⟨env, M, Qd, a, b, w, d⟩ => ?_
  exact ⟨[], M, Qd, noX, rfl, b, w, d, fun _ _ _ q => q.no⟩
theorem make_pe (c : CtxC S X G k φ) {f : String} {es : List Expr} {Ws : Env → Mem → (List D → Mem → Prop) → Prop} {p q : Pos} (hf : f ∈ S.clss) (hg : glB S (Str.ofString f) = true) (hs : es.all notStar = true) (hn : es ≠ []) (ha : PA X es (tWs G Ws)) :
    PE X (.Call (.Name (Str.ofString f) p) es [] q) (tW G fun en M Q => Ws en M fun ds M => ∀ p, M p = none → φ (f ++ ".__init__") (.ref p :: ds) (M.set p (.ins f [])) (fun d M => d = .non ∧ Q (.ref p) M) noX) := by
  obtain ⟨CX, _, C, a, fd, ps, k', mk, F, hr, hm, hC, hb, hx⟩ := c.clss f hf
  obtain ⟨g1, g2⟩ := glB_of c.toCtx hg
  have key : ∀ σ H Q, tW G (fun en M Q => Ws en M fun ds M => ∀ p, M p = none → φ (f ++ ".__init__") (.ref p :: ds) (M.set p (.ins f [])) (fun d M => d = .non ∧ Q (.ref p) M) noX) σ H Q → tMake C (spD G φ (f ++ ".__init__")) [] noE (tWs G Ws) σ H Q := by
    rintro σ H Q ⟨env, M, Qd, a, b, w, d⟩
    refine ⟨env, M, _, a, b, w, fun vs H1 ⟨ds, M1, c1, c2, c3, c4⟩ x dx hx hdx hne => ?_⟩
    have g := c.xg.ok
    have hx' : upd H1 dx (.own x) x = none := by rw [upd_ne (Ne.symm hne)]; exact hx
    have r1 : RM G (upd H1 dx (.own x)) M1 := c2.new g hdx
    have s1 : Stp M1 H1 M1 (upd H1 dx (.own x)) := .new c2 hdx
    have r2 : RM G (upd (upd H1 dx (.own x)) x (.ins C dx [])) (M1.set x (.ins f [])) := r1.add g hx' ⟨C, dx, [], hC, rfl, rfl⟩
    have s2 : Stp M1 (upd H1 dx (.own x)) (M1.set x (.ins f [])) (upd (upd H1 dx (.own x)) x (.ins C dx [])) := .add r1 hx'
    have k2 := (s1.trans s2).kpt c2
    refine ⟨.ref x :: ds, _, _, noX, ⟨.ref x, vs, by rw [List.append_nil], rfl, RVs.as (c1.mono g k2)⟩, r2, c4 x (c2.free hx), fun v H' ⟨dv, M', q1, q2, q3, q4, q5⟩ => ?_, fun _ _ _ q => q.no⟩
    subst q4
    exact ⟨q1, d _ _ ⟨.ref x, M', rfl, q2, (c3.trans (s1.trans s2)).trans q3, q5⟩⟩
  cases es with
  | nil => exact absurd rfl hn
  | cons e es =>
    rw [List.all_cons, Bool.and_eq_true] at hs
    exact (pe_make mk F hr g1 hm hb .nil (fun _ _ _ _ _ _ _ q => (hx _ _ _ _ _ q).elim) ha (okNm_d g2) (star1 hs.1) (starN hs.2)).imp key
end
end MP
end
section
/-! MP15: the checker of expressions is right. -/
namespace MP
open PySem PySem.Spec L2
section
variable {G : Gx} {k : Nat} {φ : CallSem}
abbrev WE (φ : CallSem) (c : CE) : Env → Mem → VQ → Prop := fun en M Q => wE φ c en M Q noX
/-- the test of an expression -/
abbrev WT (φ : CallSem) (c : CE) : Env → Mem → (Bool → Mem → Prop) → Prop := fun en M Q => wE φ c en M (fun x M => wTruth x M Q) noX
structure EOk (φ : CallSem) (G : Gx) (c : CE) (X : Cx) (e : Expr) : Prop where
  pe : PE X e (tW G (WE φ c))
  pt : PT X e (tWb G (WT φ c))
theorem EOk.plain {c : CE} {X : Cx} {e : Expr} (g : XG X G k) (h : PE X e (tW G (WE φ c))) (hp : plainT e = true) : EOk φ G c X e := ⟨h, pt_of g h hp⟩
section
variable {S : Sx} {X : Cx} {e x y : Expr}
theorem call_plain {f : Expr} {es : List Expr} {p : Pos} : plainT (.Call f es [] p) = true := rfl
theorem asB_plain {n : String} {es : List Expr} (h : asB S n e = some es) : plainT e = true := by obtain ⟨⟨p, q, rfl⟩, _⟩ := asB_eq h; rfl
theorem asM_plain {n : String} {es : List Expr} (h : asM n e = some (x, es)) : plainT e = true := by obtain ⟨⟨p, q, rfl, _⟩, _⟩ := asM_eq h; rfl
theorem QLs.step {M M1 : Mem} {H H1 H' : Hp} {Q : List D → Mem → Prop} {v : V} (s : Stp M H M1 H1) (h : QLs G M1 H1 Q v H') : QLs G M H Q v H' := let ⟨ds, vs, p, M', e, h2, h4, h5, h6, q⟩ := h; ⟨ds, vs, p, M', e, h2, h4, h5, s.trans h6, q⟩
/-- reading a list or a tuple off a value -/
theorem q_of {W : Env → Mem → VQ → Prop} (h : PE X x (tW G W)) : PE X x (tWq G fun en M Q => W en M fun d M => wSeq d M Q) := by
  refine ⟨fun pins s σ H Q I ⟨env, M, Qd, a, b, w, d⟩ => ?_⟩
  refine thn (h.run pins s σ H (QV G M H fun d M => wSeq d M Qd) I ⟨env, M, _, a, b, w, fun _ _ q => q⟩) fun v s1 ⟨xv, H1, I1, r1, d1, M1, q1, q2, q3, q4⟩ => ?_
  dsimp only [wSeq] at q4
  split at q4
  · rename_i ds
    obtain ⟨p, vs, rfl, sq, hv⟩ := q1
    exact ⟨_, H1, I1, r1, d _ _ ⟨ds, vs, p, M1, rfl, .inr sq, hv, q2, q3, q4⟩⟩
  · rename_i p
    split at q4
    · rename_i ds e1
      obtain ⟨vs, hr, hv⟩ := q2.rdL e1
      rw [show xv = _ from q1] at r1
      exact ⟨_, H1, I1, r1, d _ _ ⟨ds, vs, p, M1, rfl, .inl (.inl hr), hv, q2, q3, q4⟩⟩
    · exact q4.elim
  · exact q4.elim
theorem l_of {W : Env → Mem → VQ → Prop} (h : PE X x (tW G W)) : PE X x (tWl G fun en M Q => W en M fun d M => wSeqL d M Q) := by
  refine ⟨fun pins s σ H Q I ⟨env, M, Qd, a, b, w, d⟩ => ?_⟩
  refine thn (h.run pins s σ H (QV G M H fun d M => wSeqL d M Qd) I ⟨env, M, _, a, b, w, fun _ _ q => q⟩) fun v s1 ⟨xv, H1, I1, r1, d1, M1, q1, q2, q3, q4⟩ => ?_
  dsimp only [wSeqL] at q4
  split at q4
  · rename_i p
    split at q4
    · rename_i ds e1
      obtain ⟨u, hu, vs, rfl, hv⟩ := q2 p _ e1
      rw [show xv = _ from q1] at r1
      exact ⟨_, H1, I1, r1, d _ _ ⟨ds, vs, p, M1, rfl, hu, hv, q2, q3, q4⟩⟩
    · exact q4.elim
  · exact q4.elim
theorem f_q {W : Env → Mem → (List D → Mem → Prop) → Prop} (h : PE X x (tWf G W)) : PE X x (tWq G W) := ⟨fun pins s σ H Q I ⟨env, M, Qd, a, b, w, d⟩ => h.run pins s σ H Q I ⟨env, M, Qd, a, b, w, fun v H' q => d v H' q.qs⟩⟩
theorem f_l {W : Env → Mem → (List D → Mem → Prop) → Prop} (h : PE X x (tWf G W)) : PE X x (tWl G W) := ⟨fun pins s σ H Q I ⟨env, M, Qd, a, b, w, d⟩ => h.run pins s σ H Q I ⟨env, M, Qd, a, b, w, fun v H' q => d v H' q.qls⟩⟩
theorem f_e {W : Env → Mem → (List D → Mem → Prop) → Prop} (h : PE X x (tWf G W)) : PE X x (tW G fun en M Q => W en M fun ds M => wNew (.lst ds) M Q) := ⟨fun pins s σ H Q I ⟨env, M, Qd, a, b, w, d⟩ => h.run pins s σ H Q I ⟨env, M, _, a, b, w, fun v H' q => d v H' q.own⟩⟩
/-- lists in a row -/
theorem nil_pa {Ws : Env → Mem → (List D → Mem → Prop) → Prop} (h : ∀ en M Q, Ws en M Q → Q [] M) : PA X [] (tWs G Ws) := pa_nil.imp fun σ H Q ⟨env, M, Qd, a, b, w, d⟩ => d _ _ ⟨[], M, rfl, b, .refl _ _, h _ _ _ w⟩
theorem cons_pa (g : GOk G) {es : List Expr} {W : Env → Mem → VQ → Prop} {Ws W' : Env → Mem → (List D → Mem → Prop) → Prop} (h : ∀ en M Q, W' en M Q → W en M fun d M => Ws en M fun ds M => Q (d :: ds) M) (hn : notStar e = true) (ha : PE X e (tW G W)) (hb : PA X es (tWs G Ws)) : PA X (e :: es) (tWs G W') := by
  refine (pa_cons ha hb (star1 hn)).imp fun σ H Q ⟨env, M, Qd, a, b, w, d⟩ => ?_
  refine ⟨env, M, _, a, b, h _ _ _ w, fun v H1 ⟨dx, M1, c1, c2, c3, c4⟩ => ⟨env, M1, _, a.mono g (c3.kpt b), c2, c4, fun vs H2 ⟨ds, M2, d1, d2, d3, d4⟩ => ?_⟩⟩
  exact d _ _ ⟨dx :: ds, M2, ⟨v, vs, rfl, c1.mono g (d3.kpt c2), d1⟩, d2, c3.trans d3, d4⟩
theorem tup_pe (g : GOk G) {es : List Expr} {kk : Nat} {p : Pos} {Ws : Env → Mem → (List D → Mem → Prop) → Prop} (h : PA X es (tWs G Ws)) : PE X (.Tuple es kk p) (tW G fun en M Q => Ws en M fun ds M => ds.length ≤ line ∧ Q (.tup ds) M) := by
  refine (pe_tup h).imp fun σ H Q ⟨env, M, Qd, a, b, w, d⟩ => ?_
  refine ⟨env, M, _, a, b, w, fun vs H1 ⟨ds, M1, c1, c2, c3, c4, c5⟩ => ⟨by rw [← line_eq, ← c1.length]; exact c4, fun p hp => ?_⟩⟩
  exact d _ _ (QV.step c3 (.new (d := .tup ds) g hp ⟨p, vs, rfl, .of upd_same, c1.mono g (.new hp)⟩ c2 c5))
theorem lst_pe (g : GOk G) {es : List Expr} {p : Pos} {Ws : Env → Mem → (List D → Mem → Prop) → Prop} (h : PA X es (tWs G Ws)) : PE X (.List es p) (tWf G fun en M Q => Ws en M fun ds M => ds.length ≤ line ∧ Q ds M) := by
  refine (pe_lst h).imp fun σ H Q ⟨env, M, Qd, a, b, w, d⟩ => ?_
  refine ⟨env, M, _, a, b, w, fun vs H1 ⟨ds, M1, c1, c2, c3, c4, c5⟩ => ⟨by rw [← line_eq, ← c1.length]; exact c4, fun p hp => ?_⟩⟩
  exact d _ _ (QL.step c3 (.laid g hp c1 c2 c5))
theorem dict_pe (c : Ctx S X G k) {p : Pos} : PE X (.Dict [] [] p) (tW G fun en M Q => ∀ p, M p = none → M p = none ∧ Q (.ref p) (M.set p (.dct []))) := by
  refine ⟨fun pins s σ H Q I ⟨env, M, Qd, a, b, w, d⟩ => ?_⟩
  have hp := I.hok.fresh (Nat.le_refl s.heap.objs.size)
  have hs : (s.heap.objs.size == sysModules) = false := beq_eq_false_iff_ne.mpr (Ne.symm (Nat.ne_of_lt I.big))
  have hr : (s.heap.push { cls := .type "dict", data := .dict #[] }).DictRaw s.heap.objs.size #[] 0 := ⟨_, Heap.get?_push_size _ rfl, ⟨rfl, rfl, rfl⟩, rfl⟩
  refine wpAny_Dict_empty ⟨.ref s.heap.objs.size, upd H s.heap.objs.size (.ext fun h => h.DictRaw s.heap.objs.size #[] 0), I.laid (t' := s.toks) (fun _ _ q => Heap.get?_push_of_some _ q) (Nat.le_refl _)
    ⟨hr, ⟨_, Heap.get?_push_size _ rfl⟩, fun h1 h2 ⟨o1, a, b⟩ k => ⟨o1, k _ a, b⟩⟩, rfl, d _ _ ⟨.ref _, _, rfl, b.add c.xg.ok hp (RU.dct (kvs := []) (xs := []) (by simp) rfl hs (Nat.zero_le _) (by simp) (by simp)), .add b hp, (w _ (b.free hp)).2⟩⟩
/-- a call with two things -/
theorem isi_pe (c : CtxC S X G k φ) {t : String} {W : Env → Mem → VQ → Prop} (h : asB S "isinstance" e = some [x, y]) (hc : ckCls S t y = true) (ha : PE X x (tW G W)) :
    PE X e (tW G fun en M Q => W en M fun d M => match isType M d t with | some b => Q (.bl b) M | none => False) := by
  obtain ⟨⟨p, q, rfl⟩, h2, h3⟩ := asB_eq h
  obtain ⟨g1, g2⟩ := glB_of c.toCtx h2
  simp only [List.all_cons, List.all_nil, Bool.and_true, Bool.and_eq_true] at h3
  unfold ckCls at hc
  split at hc
  · rename_i z hz
    obtain ⟨p2, rfl⟩ := asName_eq hz
    simp only [Bool.and_eq_true, Bool.or_eq_true, decide_eq_true_eq] at hc
    obtain ⟨⟨rfl, hg⟩, ht⟩ := hc
    obtain ⟨g3, g4⟩ := glB_of c.toCtx hg
    have key : ∃ cv, clsV G t cv ∧ PE X (.Name (Str.ofString t) p2) (tC cv) := by
      rcases ht with ht | ht
      · refine ⟨.ty t, .inl ⟨ht, rfl⟩, ?_⟩
        have hb : bootBuiltins (Str.ofString t) = some (.type t) := by
          simp only [tyNames, List.mem_cons, List.not_mem_nil, or_false] at ht
          rcases ht with rfl | rfl | rfl | rfl | rfl | rfl <;> kernel_rfl
        exact pe_bltn g3 (c.blt t (ty_blt t ht)) hb rfl (okNm_n g4) (okNm_d g4)
      · obtain ⟨CX, _, C, a, fd, ps, k', mk, F, hr, hm, hC, hb, hx⟩ := c.clss t ht
        exact ⟨.ref C, .inr ⟨C, hC, rfl⟩, pe_glob g3 hm rfl (okNm_d g4)⟩
    obtain ⟨cv, hcv, hp⟩ := key
    have hbi : bootBuiltins (Str.ofString "isinstance") = some (.builtin "isinstance") := by kernel_rfl
    refine (pe_callB (isi_w c.xg t) g1 (c.blt "isinstance" (by decide)) hbi (pa_cons ha (pa_cons hp pa_nil (star1 h3.2)) (star1 h3.1)) (okNm_n g2) (okNm_d g2) (star1 h3.1) (starN (by simpa using h3.2))).imp fun σ H Q ⟨env, M, Qd, a, b, w, d⟩ => ?_
    exact ⟨env, M, _, a, b, w, fun v H1 ⟨dx, M1, c1, c2, c3, c4⟩ => ⟨v, cv, rfl, hcv, M1, dx, Qd, c2, c1, c4, fun w H5 q => d w H5 (q.step c3)⟩⟩
  · cases hc
end
end
end MP
end
section
/-! MP21: functions made by lambdas: what they are in the heap, their call. -/
namespace MP
open PySem PySem.Spec L2
open LamX (CodeO TabS Tabs ExtN)

/-- the tuples stay -/
structure KT (H H' : Hp) : Prop where
  tup : ∀ b xs, H b = some (.tup xs) → H' b = some (.tup xs)
  ftup : ∀ b o xs, H b = some (.frz o (.tup xs)) → H' b = some (.frz o (.tup xs))
section
variable {G : Gx} {H H' : Hp}
theorem KT.sqt {K : PySem.W.Frag} (k : KT H H') {a : Addr} {xs : List V} (h : SqT K H a xs) : SqT K H' a xs := by
  rcases h with (h | ⟨o, h⟩) | h
  · exact .inl (.inl (k.tup _ _ h))
  · exact .inl (.inr ⟨o, k.ftup _ _ _ h⟩)
  · exact .inr h
mutual
theorem RV.kt (k : KT H H') : ∀ {d : D} {v : V}, RV G H d v → RV G H' d v
  | .non, _, h | .bl _, _, h | .int _, _, h | .str _, _, h | .ref _, _, h | .glo _, _, h | .ty _, _, h | .clo _ _, _, h => h
  | .tup ds, _, h => let ⟨p, vs, e, s, r⟩ := h; ⟨p, vs, e, k.sqt s, RVs.kt k r⟩
theorem RVs.kt (k : KT H H') : ∀ {ds : List D} {vs : List V}, RVs G H ds vs → RVs G H' ds vs
  | [], _, h => h
  | d :: ds, _, h => let ⟨v, r, e, a, b⟩ := h; ⟨v, r, e, RV.kt k a, RVs.kt k b⟩
end
theorem RF.kt (k : KT H H') : ∀ {fs : List (String × D)} {vs : List (Str × V)}, RF G H fs vs → RF G H' fs vs
  | [], _, h => h
  | _ :: _, _, h => let ⟨v, r, e, a, b⟩ := h; ⟨v, r, e, a.kt k, RF.kt k b⟩
theorem RX.kt (k : KT H H') : ∀ {kvs : List (D × D)} {xs : XS}, RX G H kvs xs → RX G H' kvs xs
  | [], _, h => h
  | _ :: _, _, h => let ⟨kv, vv, ku, vu, r, e, a, b, c, d, f⟩ := h; ⟨kv, vv, ku, vu, r, e, a, b.kt k, c, d.kt k, RX.kt k f⟩
theorem RU.kt (k : KT H H') {a : Addr} : ∀ {m : MO} {u : HO}, RU G H a m u → RU G H' a m u
  | .lst _, _, h => let ⟨vs, e, r⟩ := h; ⟨vs, e, r.kt k⟩
  | .dct _, _, h => let ⟨xs, es, ep, e, e2, r, z⟩ := h; ⟨xs, es, ep, e, e2, r.kt k, z⟩
  | .ins _ _, _, h => let ⟨C, dx, vfs, e, e2, r⟩ := h; ⟨C, dx, vfs, e, e2, r.kt k⟩
  | .frz _, _, h => let ⟨o, u', e, r⟩ := h; ⟨o, u', e, RU.kt k r⟩
end
/-! ### places that are hidden for a while: cells -/
def hid (cs : List Addr) (H : Hp) : Hp := fun b => if b ∈ cs then none else H b
/-- .. shown as they stand in the heap -/
def shw (cs : List Addr) (h : Heap) (H : Hp) : Hp := fun b => if b ∈ cs then (h.get? b).map fun o => .frz o (.own 0) else H b
theorem hid_out {cs : List Addr} {H : Hp} {b : Addr} (h : b ∉ cs) : hid cs H b = H b := by unfold hid; rw [if_neg h]
theorem hid_in {cs : List Addr} {H : Hp} {b : Addr} (h : b ∈ cs) : hid cs H b = none := by unfold hid; rw [if_pos h]
theorem shw_out {cs : List Addr} {h : Heap} {H : Hp} {b : Addr} (e : b ∉ cs) : shw cs h H b = H b := by unfold shw; rw [if_neg e]
theorem shw_in {cs : List Addr} {h : Heap} {H : Hp} {b : Addr} {o : Obj} (e : b ∈ cs) (g : h.get? b = some o) : shw cs h H b = some (.frz o (.own 0)) := by unfold shw; rw [if_pos e, g]; rfl
/-- two abstract heaps that are one but for the places cs, where one has nothing and the other the things as they stand -/
structure Apart (cs : List Addr) (h : Heap) (Hn Hs : Hp) : Prop where
  out : ∀ b, b ∉ cs → Hn b = Hs b
  non : ∀ b, b ∈ cs → Hn b = none
  frz : ∀ b, b ∈ cs → ∃ o, Hs b = some (.frz o (.own 0)) ∧ h.get? b = some o
section
variable {G : Gx} {cs : List Addr} {h : Heap} {Hn Hs : Hp} {M : Mem} {P : Program} {w : World}
theorem Apart.nin (a : Apart cs h Hn Hs) {b : Addr} {o : HO} (e : Hn b = some o) : b ∉ cs := fun z => by rw [a.non b z] at e; cases e
theorem Apart.ns (a : Apart cs h Hn Hs) {b : Addr} {o : HO} (e : Hn b = some o) : Hs b = some o := by rw [← a.out b (a.nin e)]; exact e
theorem Apart.sn (a : Apart cs h Hn Hs) {b : Addr} {o : HO} (e : Hs b = some o) (n : ∀ o', o ≠ .frz o' (.own 0)) : Hn b = some o := by
  rw [a.out b fun z => ?_]
  · exact e
  · obtain ⟨o', e', _⟩ := a.frz b z
    rw [e] at e'
    exact n o' (Option.some.inj e')
theorem Apart.kns (a : Apart cs h Hn Hs) : Kpt Hn Hs := ⟨fun b xs e => a.ns e, fun b o xs e => a.ns e, fun b o e => a.ns e, fun b q e => a.ns e⟩
theorem Apart.ksn (a : Apart cs h Hn Hs) : KT Hs Hn := ⟨fun b xs e => a.sn e (fun _ => nofun), fun b o xs e => a.sn e (fun o' z => by cases z)⟩
theorem RU.nfr {H : Hp} {a : Addr} {m : MO} {u : HO} (r : RU G H a m u) : ∀ o', u ≠ .frz o' (.own 0) := fun o' => r.mut.2.2.1 o' 0
theorem Apart.rm_ns (a : Apart cs h Hn Hs) (g : GOk G) (r : RM G Hn M) : RM G Hs M := ⟨fun b m e => let ⟨u, e1, hu⟩ := r b m e; ⟨u, a.ns e1, hu.mono g a.kns⟩, Tabs.at r.tab (fun b ps e => a.ns e) fun c q e => a.ns e⟩
theorem Apart.rm_sn (a : Apart cs h Hn Hs) (r : RM G Hs M) : RM G Hn M := ⟨fun b m e => let ⟨u, e1, hu⟩ := r b m e; ⟨u, a.sn e1 hu.nfr, hu.kt a.ksn⟩, Tabs.at r.tab (fun b ps e => a.sn e (fun _ => nofun)) fun c q e => a.sn e (fun o' => code_ne _ (fun _ z => by cases z) _ _ |> Ne.symm)⟩
theorem Apart.ok_ns (a : Apart cs h Hn Hs) (x : HOk P w Hn h) : HOk P w Hs h := fun b o e => by
  by_cases hb : b ∈ cs
  · obtain ⟨o', e', g⟩ := a.frz b hb
    rw [e] at e'
    cases e'
    exact ⟨g, _, g⟩
  · rw [← a.out b hb] at e
    exact (x b o e).stay (fun _ _ _ q => q) (fun c q => a.ns q) fun c xs q => a.ns q
theorem Apart.ok_sn (a : Apart cs h Hn Hs) (x : HOk P w Hs h) : HOk P w Hn h := fun b o e => (x b o (a.ns e)).stay (fun _ _ _ q => q) (fun c q => a.sn q (fun _ => nofun)) fun c xs q => a.sn q (fun _ => nofun)
theorem Apart.st_ns (a : Apart cs h Hn Hs) {M' : Mem} {h' : Heap} {Hn' Hs' : Hp} (a' : Apart cs h' Hn' Hs') (r' : RM G Hn' M') (r : RM G Hn M) (s : Stp M Hn M' Hn') (same : ∀ b ∈ cs, Hs' b = Hs b) : Stp M Hs M' Hs' := by
  refine ⟨fun b o e n t => ?_, fun b e => ?_, fun b m e => ?_⟩
  · by_cases hb : b ∈ cs
    · refine ⟨(same b hb).trans e, ?_⟩
      cases q : M' b with
      | none => rfl
      | some m =>
        obtain ⟨u, e1, _⟩ := r' b m q
        rw [a'.non b hb] at e1
        cases e1
    · rw [← a.out b hb] at e
      obtain ⟨e1, n1⟩ := s.keep b o e n t
      exact ⟨a'.ns e1, n1⟩
  · by_cases hb : b ∈ cs
    · obtain ⟨o, e1, _⟩ := a'.frz b hb
      rw [e] at e1
      cases e1
    · rw [← a'.out b hb] at e
      rw [← a.out b hb]
      exact s.grow b e
  · obtain ⟨u, e1, _⟩ := r b _ e
    have hb := a.nin e1
    obtain ⟨e2, n2⟩ := s.frz b m e
    exact ⟨by rw [← a'.out b hb, ← a.out b hb]; exact e2, n2⟩
theorem Apart.st_sn (a : Apart cs h Hn Hs) {M' : Mem} {h' : Heap} {Hn' Hs' : Hp} (a' : Apart cs h' Hn' Hs') (r : RM G Hs M) (s : Stp M Hs M' Hs') : Stp M Hn M' Hn' := by
  refine ⟨fun b o e n t => ?_, fun b e => ?_, fun b m e => ?_⟩
  · have hb := a.nin e
    rw [a.out b hb] at e
    obtain ⟨e1, n1⟩ := s.keep b o e n t
    exact ⟨by rw [a'.out b hb]; exact e1, n1⟩
  · by_cases hb : b ∈ cs
    · exact a.non b hb
    · rw [a'.out b hb] at e
      rw [a.out b hb]
      exact s.grow b e
  · obtain ⟨u, e1, hu⟩ := r b _ e
    have hb := a.nin (a.sn e1 hu.nfr)
    obtain ⟨e2, n2⟩ := s.frz b m e
    exact ⟨by rw [a'.out b hb, a.out b hb]; exact e2, n2⟩
theorem Apart.un_ns (a : Apart cs h Hn Hs) {fs : List Addr} {h' : Heap} {Hn' Hs' : Hp} (a' : Apart cs h' Hn' Hs') (same : ∀ b ∈ cs, Hs' b = Hs b) (u : Un fs [] Hn Hn' h h') : Un fs [] Hs Hs' h h' := by
  have non : ∀ b, Hs b = none → b ∉ cs ∧ Hn b = none := fun b e => by
    have hb : b ∉ cs := fun z => by obtain ⟨o, e1, _⟩ := a.frz b z; rw [e] at e1; cases e1
    exact ⟨hb, (a.out b hb).trans e⟩
  refine ⟨fun b o e n f x => u.keep b o e (non b n).2 f x, fun b o e n f x => u.slot b o e (non b n).2 f x, fun b o e n x => ?_, u.there, fun b xs e => a'.ns (u.tups b xs (a.sn e (fun _ => nofun))), fun b o v e => ?_, fun b ps e => ?_⟩
  · obtain ⟨h1, h2⟩ := non b n
    rw [← a'.out b h1]
    exact u.free b o e h2 x
  · by_cases hb : b ∈ cs
    · exact (same b hb).trans e
    · rw [← a.out b hb] at e
      exact a'.ns (u.frzs b o v e)
  · obtain ⟨more, q⟩ := u.tbls b ps (a.sn e (fun _ => nofun))
    exact ⟨more, a'.ns q⟩
theorem Apart.un_sn (a : Apart cs h Hn Hs) {fs : List Addr} {h' : Heap} {Hn' Hs' : Hp} (a' : Apart cs h' Hn' Hs') (u : Un fs [] Hs Hs' h h') : Un fs [] Hn Hn' h h' := by
  have gone : ∀ b ∈ cs, ∃ o, h.get? b = some o ∧ h'.get? b = some o ∧ Hs' b = some (.frz o (.own 0)) := fun b hb => by
    obtain ⟨o, e1, e2⟩ := a.frz b hb
    have e3 := u.frzs b o _ e1
    obtain ⟨o', e4, e5⟩ := a'.frz b hb
    rw [e3] at e4
    cases e4
    exact ⟨o, e2, e5, e3⟩
  refine ⟨fun b o e n f x => ?_, fun b o e n f x => ?_, fun b o e n x => ?_, u.there, fun b xs e => a'.sn (u.tups b xs (a.ns e)) (fun _ => nofun), fun b o v e => ?_, fun b ps e => ?_⟩
  · by_cases hb : b ∈ cs
    · obtain ⟨o', e1, e2, _⟩ := gone b hb
      rw [e] at e1
      cases e1
      exact e2
    · rw [a.out b hb] at n
      exact u.keep b o e n f x
  · by_cases hb : b ∈ cs
    · obtain ⟨o', e1, e2, _⟩ := gone b hb
      rw [e] at e1
      cases e1
      exact ⟨o.slots, e2⟩
    · rw [a.out b hb] at n
      exact u.slot b o e n f x
  · by_cases hb : b ∈ cs
    · exact a'.non b hb
    · rw [a.out b hb] at n
      rw [a'.out b hb]
      exact u.free b o e n x
  · have hb := a.nin e
    rw [a'.out b hb]
    exact u.frzs b o v (a.ns e)
  · obtain ⟨more, q⟩ := u.tbls b ps (a.ns e)
    exact ⟨more, a'.sn q (fun _ => nofun)⟩
end
end MP
end
section
/-! MP22: functions made by lambdas: their call. -/
namespace MP
open PySem PySem.Spec L2
open LamX (CodeO TabS Tabs ExtN)

theorem cloL_ok {L : String → LamD → Prop} (l : String) (H H' : Hp) (vs : List V) (v : V) (k : Kpt H H') (h : cloL L l H vs v) : cloL L l H' vs v := by
  obtain ⟨d, e, f, c', pm, ctv, cl, e1, e2, e3, C⟩ := h
  refine ⟨d, e, f, c', pm, ctv, cl, e1, k.obj _ _ e2, k.cod _ _ e3, C.len, fun y c z => ?_, C.mem, C.inj, fun i y v z1 z2 => ?_, C.hs⟩
  · obtain ⟨o, u, q1, q2⟩ := C.all y c z
    exact ⟨o, u, k.obj _ _ q1, q2⟩
  · obtain ⟨c, o, u, q1, q2, q3⟩ := C.has i y v z1 z2
    exact ⟨c, o, u, q1, k.obj _ _ q2, q3⟩
theorem frz_at {P : Program} {w : World} {H : Hp} {h : Heap} {a : Addr} {o : Obj} {u : HO} (ok : HOk P w H h) (e : H a = some (.frz o u)) : h.get? a = some o := (ok a _ e).1
/-- hiding the cells of a closure -/
theorem cap_apart {P : Program} {w : World} {cl : List (Str × Addr)} {fr : List Str} {vs : List V} {H : Hp} {h : Heap} (C : CapH cl fr vs H) (ok : HOk P w H h) : Apart (cl.map (·.2)) h (hid (cl.map (·.2)) H) H := by
  refine ⟨fun b hb => hid_out hb, fun b hb => hid_in hb, fun b hb => ?_⟩
  obtain ⟨p, hp, rfl⟩ := List.mem_map.mp hb
  obtain ⟨y, hy⟩ := C.mem p hp
  obtain ⟨o, u, q1, q2⟩ := C.all y _ hy
  exact ⟨o, q1, frz_at ok q1⟩
structure LamSc (d : LamD) : Prop where
  sc : NdefX.NScope d.N d.ps d.fr d.scope
section
variable {P : Program} {w : World} {K : PySem.W.Frag} {mg : Str → Option Value} {base : Heap} {G : Gx} {k : Nat} {L : String → LamD → Prop} {l : String} {d : LamD}
theorem get_start {H : Hp} {N : List Str} {ds : List D} {vs : List V} (r : RAs G H ds vs) (hl : vs.length ≤ N.length) : RS G (L2.start N vs) H (startE N.length ds) := by
  have e := r.length
  refine ⟨?_, fun i d h => ?_⟩
  · unfold startE L2.start
    simp [e]
  · rw [get_eq] at h
    unfold startE at h
    by_cases hi : i < ds.length
    · rw [List.getElem?_append_left (by simpa using hi), List.getElem?_map, List.getElem?_eq_getElem hi] at h
      have h' : some ds[i] = some d := h
      obtain ⟨v, e1, e2⟩ := r.get (i := i) (d := d) (by rw [List.getElem?_eq_getElem hi]; exact h')
      refine ⟨v, ?_, e2⟩
      unfold L2.start
      rw [List.getElem?_append_left (by rw [List.length_map, ← e]; exact hi), List.getElem?_map, e1]
      rfl
    · rw [List.getElem?_append_right (by simpa using hi), List.getElem?_replicate] at h
      split at h <;> cases h
/-- what lies in the frame's slots when it begins -/
theorem startF_rs {H : Hp} {N : List Str} {ds cap : List D} {vs cvs : List V} (r1 : RVs G H ds vs) (r2 : RVs G H cap cvs) (hl : vs.length + cvs.length ≤ N.length) : RS G (NdefX.startF N vs (cvs.map some)) H (startE N.length (ds ++ cap)) := by
  have e : NdefX.startF N vs (cvs.map some) = L2.start N (vs ++ cvs) := by
    unfold NdefX.startF L2.start
    rw [List.map_append, List.append_assoc, List.length_append, List.length_map, Nat.sub_sub]
  rw [e]
  exact get_start (RVs.as (r1.append r2)) (by rw [List.length_append]; exact hl)
/-- an exception that a lambda lets out -/
theorem cx_apart {P : Program} {w : World} {outer : List PySem.Env} {cs : List Addr} {s : Shared} {Hn Hs : Hp} {M : Mem} {Xd : XQ} {E : XK} {e : Value} {s' : Shared} (g : GOk G) (ap : Apart cs s.heap Hn Hs) (rmn : RM G Hn M) (nfr : ∀ b ∈ frs outer, b ∉ cs)
    (hE : ∀ cls d H', QX G M Hs Xd cls d H' → E cls d H') (h : L2.CX P w outer Hn s (fun cls d H' => QX G M Hn Xd cls d H') e s') : L2.CX P w outer Hs s E e s' := by
  obtain ⟨a, B, H', cls, d, rfl, fl, hok, ub, na, os, bare, x, M', rx, rm', st, w⟩ := h
  have key : ∀ b ∈ cs, ∃ o, Hs b = some (.frz o (.own 0)) ∧ B.get? b = some o ∧ H' b = none := fun b hb => by
    obtain ⟨o, e1, e2⟩ := ap.frz b hb
    exact ⟨o, e1, ub.keep b o e2 (ap.non b hb) (fun z => nfr b z hb), ub.free b o e2 (ap.non b hb)⟩
  have ap' : Apart cs B H' (shw cs B H') := ⟨fun b hb => (shw_out hb).symm, fun b hb => (key b hb).choose_spec.2.2, fun b hb => by
    obtain ⟨o, _, e2, _⟩ := key b hb
    exact ⟨o, shw_in hb e2, e2⟩⟩
  have same : ∀ b ∈ cs, shw cs B H' b = Hs b := fun b hb => by
    obtain ⟨o, e1, e2, _⟩ := key b hb
    rw [shw_in hb e2, e1]
  have hn : ∀ b, Hs b = none → Hn b = none := fun b e => by
    by_cases hb : b ∈ cs
    · exact ap.non b hb
    · rw [ap.out b hb]; exact e
  have up : ∀ b o', Hs b = some o' → (∀ o, o' ≠ .frz o (.own 0)) → Hn b = some o' := fun b o' e n => ap.sn e n
  refine ⟨a, B, shw cs B H', cls, d, rfl, fl, ap'.ok_ns hok, ⟨fun b o e1 e2 e3 => ub.keep b o e1 (hn b e2) e3, ub.slot, fun b o e1 e2 => ?_, ub.there, fun b xs e => ?_, fun b o xs e => ?_, fun b ps e => ?_⟩, ?_, os, bare, hE _ _ _ ⟨x, M', rx, ap'.rm_ns g rm', ap.st_ns ap' rm' rmn st same, w⟩⟩
  · have hb : b ∉ cs := fun hb => by obtain ⟨o', q1, _⟩ := key b hb; rw [e2] at q1; cases q1
    rw [shw_out hb]
    exact ub.free b o e1 (hn b e2)
  · exact ap'.ns (ub.tups b xs (up b _ e (fun _ => nofun)))
  · by_cases hb : b ∈ cs
    · rw [same b hb]; exact e
    · rw [shw_out hb]
      exact ub.frzs b o xs (by rw [ap.out b hb]; exact e)
  · obtain ⟨more, q⟩ := ub.tbls b ps (up b _ e (fun _ => nofun))
    exact ⟨more, ap'.ns q⟩
  · have hb : a ∉ cs := fun hb => by
      obtain ⟨o, _, q2, _⟩ := key a hb
      rw [fl.2.1] at q2
      cases q2
    rw [shw_out hb]
    exact na
theorem lam_ok (hG : G.clo = cloL L) (hK : G.K = K) (hw : G.w = w) (gf : GF G) {φ' : CallSem} (hL : ∀ d, L l d → NdefX.NScope d.N d.ps d.fr d.scope ∧
    (∀ (cl : List (Str × Addr)) (pm cv ctv : Value) (us : List Value), us.length = d.ps.length → bindArgs (PySem.W.kla_fn "<lambda>" d.qual d.params d.body d.scope cl pm cv ctv) ⟨us, []⟩ = pure (d.ps.zip us)) ∧
    ∃ (bW : Env → Mem → VQ → XQ → Prop), (∀ ds M Q Xd, φ' l ds M Q Xd → ds.length = d.ps.length + d.fr.length ∧ bW (startE d.N.length ds) M Q Xd) ∧
    ∀ (F : NdefX.NF) (f : Addr) (A : Around) (outer : List PySem.Env) (s : Shared) (H : Hp) (E : XK), F.scope = d.scope → Room k (NdefX.ncx (L2.CX P w) P w K mg base d.N F f A outer s H E).A → PE (NdefX.ncx (L2.CX P w) P w K mg base d.N F f A outer s H E) d.body (tWX G (fun cls dd _ H => E cls dd H) bW)) :
    LamOk P w K mg base (k + 1) G φ' l := by
  intro A outer s H us vs cvs ds cap M Qd Xd Q E f hr e0 hc rc rv r rm h hQ hE
  rw [hG] at hc
  obtain ⟨d', hd', f', c', pm, ctv, cl, ef, hf, hcode, C⟩ := hc
  obtain ⟨Sc, hb, bW, hφ, hbody⟩ := hL d' hd'
  generalize d' = d at *
  cases ef
  obtain ⟨hlen, hbd⟩ := hφ _ _ _ _ h
  have l1 := rc.length
  have l2 := rv.length
  have l3 := r.length
  have l4 := C.len
  rw [List.length_append] at hlen
  have hvs : vs.length = d.ps.length := by omega
  have g := gf.clo
  have ap := cap_apart C e0.hok
  have hof : s.heap.get? f = some (PySem.W.kla_obj "<lambda>" d.qual d.params d.body d.scope cl pm c' ctv) := frz_at e0.hok hf
  have lim : s.heap.NoLimit := e0.mod.nolimit.keeps fun b o e => (e0.bs b o e).1
  have nfr : ∀ b ∈ frs outer, b ∉ cl.map (·.2) := fun b hb z => by
    obtain ⟨o, e1, _⟩ := ap.frz b z
    rw [e0.frf b hb] at e1
    cases e1
  have e1 : Env0 P w K mg base A outer s (hid (cl.map (·.2)) H) := ⟨e0.frames, e0.mod, fun b o e => ⟨(e0.bs b o e).1, by
    by_cases hb : b ∈ cl.map (·.2)
    · exact hid_in hb
    · rw [hid_out hb]; exact (e0.bs b o e).2⟩, e0.bsz, e0.funs, fun b hb => by rw [hid_out (nfr b hb)]; exact e0.frf b hb, ap.ok_sn e0.hok, e0.bare⟩
  refine PySem.W.kla_callFunE hr.depth hof rfl Sc.co Sc.gen rfl (NdefX.codeO_at e0.hok hcode) ?_
  rw [hb cl pm (.ref c') ctv us (by omega)]
  let F : NdefX.NF := ⟨"<lambda>", d.qual, d.params, [], d.scope, cl, c'⟩
  refine wpAny_pure (wpAny_newFunctionEnv Sc.nocell (fun ⟨n, _⟩ hy => Sc.par n (List.of_mem_zip hy).1) (fun h₁ hns hsb => ⟨lim.fresh _ hsb, ?_⟩) Sc.kind)
  show codeAny _ _ (.expr d.body (NdefX.envF F f s.heap.objs.size)) _ _
  have kp : ∀ b o, s.heap.get? b = some o → h₁.get? b = some o := fun b o e => hsb.extBut b o (Nat.ne_of_lt (Heap.lt_size e)) (Heap.get?_push_of_some _ e)
  have CA : NdefX.CellsAt F.cl d.fr (cvs.map some) s.heap (hid (cl.map (·.2)) H) := by
    refine ⟨by rw [List.length_map]; exact C.len, fun y c e => ?_, C.inj, fun i y e => ?_⟩
    · obtain ⟨o, u, q1, q2⟩ := C.all y c e
      exact ⟨hid_in (List.mem_map.mpr ⟨(y, c), PySem.mem_of_lookup e, rfl⟩), u, o, frz_at e0.hok q1, q2⟩
    · obtain ⟨c, hc⟩ := C.hs y (List.mem_of_getElem? e)
      refine ⟨c, hc, fun v ev => ?_⟩
      rw [List.getElem?_map] at ev
      cases q : cvs[i]? with
      | none => rw [q] at ev; cases ev
      | some v' =>
        rw [q] at ev
        cases ev
        obtain ⟨c2, o, u, q1, q2, q3, q4⟩ := C.has i y v e q
        rw [hc] at q1
        cases q1
        exact ⟨u, q4, o, frz_at e0.hok q2, q3⟩
  have J : Inv (NdefX.ncx (L2.CX P w) P w K mg base d.N F f A outer s (hid (cl.map (·.2)) H) (fun cls dd H' => QX G M (hid (cl.map (·.2)) H) Xd cls dd H')) [] (NdefX.startF d.N vs (cvs.map some)) (hid (cl.map (·.2)) H) { s with heap := h₁, toks := s.toks + (d.ps.zip us).length } := NdefX.inv_startN (F := F) Sc hr.hd e1 hvs r CA hns kp
  have rmn := ap.rm_sn rm
  have hN : vs.length + cvs.length ≤ d.N.length := by
    have q := congrArg List.length Sc.pre
    rw [List.length_take, List.length_append] at q
    omega
  have hpe := (hbody F f A outer s (hid (cl.map (·.2)) H) (fun cls dd H' => QX G M (hid (cl.map (·.2)) H) Xd cls dd H') rfl (hr.deeper _)).run [] _ _ _ (QV G M (hid (cl.map (·.2)) H) Qd) J ⟨_, M, Qd, Xd, startF_rs (rv.kt ap.ksn) (rc.kt ap.ksn) hN, rmn, hbd, fun _ _ q => q, fun _ _ _ q => q⟩
  have cxa : ∀ e' s'', L2.CX P w outer (hid (cl.map (·.2)) H) s (fun cls dd H' => QX G M (hid (cl.map (·.2)) H) Xd cls dd H') e' s'' → CR (L2.CX P w) outer P w H s Q E (.error e') s'' := fun e' s'' hx => cx_apart g ap rmn nfr hE hx
  refine PySem.W.kla_codeExpr (wpAny_mono hpe (fun v s' hq => ?_) fun e s' hq => wpAny_mono hq (fun _ s'' hx => cxa _ _ hx) fun _ s'' hx => cxa _ _ hx)
  obtain ⟨w', H', J', rv', dd, M', q1, q2, q3, q4⟩ := hq
  have ap' : Apart (cl.map (·.2)) s'.heap H' (shw (cl.map (·.2)) s'.heap H') := by
    have key : ∀ b ∈ cl.map (·.2), ∃ o, H b = some (.frz o (.own 0)) ∧ s'.heap.get? b = some o ∧ H' b = none := fun b hb => by
      obtain ⟨o, e1, e2⟩ := ap.frz b hb
      have n := hid_in (H := H) hb
      refine ⟨o, e1, J'.base.keep b o e2 n (fun z => nfr b z hb) (by simp [NdefX.ncx]), J'.base.free b o e2 n (by simp [NdefX.ncx])⟩
    refine ⟨fun b hb => (shw_out hb).symm, fun b hb => (key b hb).choose_spec.2.2, fun b hb => ?_⟩
    obtain ⟨o, _, e2, _⟩ := key b hb
    exact ⟨o, shw_in hb e2, e2⟩
  have same : ∀ b ∈ cl.map (·.2), shw (cl.map (·.2)) s'.heap H' b = H b := fun b hb => by
    obtain ⟨o, e1, e2⟩ := ap.frz b hb
    rw [shw_in hb (J'.base.keep b o e2 (hid_in hb) (fun z => nfr b z hb) (by simp [NdefX.ncx])), e1]
  exact ⟨w', shw (cl.map (·.2)) s'.heap H', J'.os, J'.bare, ap.un_ns ap' same J'.base, Apart.ok_ns (P := P) (w := w) ap' J'.hok, rv', hQ _ _ ⟨dd, M', q1.mono g ap'.kns, ap'.rm_ns g q2, ap.st_ns ap' q2 rmn q3 same, q4⟩⟩
end
end MP
end
section
/-! MP23: functions made by lambdas: their making, the calls that hand them on. -/
namespace MP
open PySem PySem.Spec L2
open LamX (CodeO TabS Tabs ExtN TabB)
section
variable {X : Cx} {pins : List (Addr × Obj)} {σ : L2.St} {H : Hp} {s : Shared}
/-- the lambda is made, its function is known from now on -/
theorem lam_make3 {T : List (Addr × Str)} {c P : Addr} {params : Arguments} {body : Expr} {scope : Scope} {pos : Pos} {E : Value → Shared → Prop} {Q : Value → Shared → Prop} (I : Inv X pins σ H s) (TB : TabB X.base X.mg c P) (hcode : X.env.code = .ref c)
    (hm : (P, X.env.qual ++ "<lambda>") ∈ T) (hu : ∀ p ∈ T, p.1 = P → p.2 = X.env.qual ++ "<lambda>") (hT : Tabs T H) (hdef : defaultsOf params X.env = ([], [])) (hfree : ∀ y ∈ scope.names, y.2 = .free → ∃ c, X.env.cells.lookup y.1 = some c)
    (h : ∀ (f c' : Addr) (pm ctv : Value) (H1 : Hp) (s' : Shared), Inv X pins σ H1 s' → ExtN H H1 → (∀ b, H1 b = none → H b = none) → Tabs T H1 →
      H1 f = some (.frz (PySem.W.kla_obj "<lambda>" (X.env.qual ++ "<lambda>") params body scope (cloFrom X.env.cells scope.names []) pm c' ctv) (.own 0)) → H1 c' = some (CodeO c' (X.env.qual ++ "<lambda>")) → Q (.ref f) s') :
    wpAny (model X.prog X.w) X.A (eval (.Lambda params body scope pos) X.env) Q E s := by
  obtain ⟨ps, hP, ht, ha⟩ := hT _ hm
  refine PySem.W.kla_eval hdef ?_
  have bP : s.heap.BuiltinsAt X.mg P := TB.bm.keeps I.bk
  have hP' : s.heap.get? P = some { cls := .none, data := .fields ps } := I.hok P _ hP
  have lay : ∀ {H1 : Hp} {h' : Heap} {tk : Nat} {o : Obj}, Inv X pins σ H1 { s with heap := h', toks := tk } → o.isFreed = false → Inv X pins σ (upd H1 h'.objs.size (.frz o (.own 0))) { s with heap := h'.push o, toks := tk } := fun {H1 h' tk o} I1 hf =>
    I1.laid (t' := tk) (fun b u e => Heap.get?_push_of_some _ e) (Nat.le_refl _) ⟨Heap.get?_push_size _ hf, _, Heap.get?_push_size _ hf⟩
  cases hc : codeAmong pos ps.toList with
  | none =>
    refine PySem.W.kla_makeFunction (mg := X.mg) (c := c) (P := P) (ps := ps) (closure_ok hfree) I.ok.glob (I.mod.glob.keeps I.bk) hcode (TB.code.keeps I.bk) hP' ht hc TB.gP bP fun c' ctv h' tk hx hge hlt hrec htb => ?_
    obtain ⟨c2, oc, vs, t, e2, hoc, hd, hv⟩ := hrec
    cases e2
    have nC : H c' = none := I.hok.fresh hge
    have I1 := LamX.inv_table (t' := tk) (more := #[rawInt pos.line, rawInt pos.col, .ref c']) (h' := h') I hP (fun b o hb e => hx b o hb e) htb hge ⟨oc, vs, t, hoc, hd, hv⟩
    have I2 := lay (o := PySem.W.kla_obj "<lambda>" (X.env.qual ++ "<lambda>") params body scope (cloFrom X.env.cells scope.names []) ((X.mg "__name__").getD .none) c' ctv) I1 rfl
    have nF : upd (upd H P (.tbl (ps ++ #[rawInt pos.line, rawInt pos.col, .ref c']))) c' (CodeO c' (X.env.qual ++ "<lambda>")) h'.objs.size = none := I1.hok.fresh (Nat.le_refl _)
    have hE1 : ExtN H (upd (upd H P (.tbl (ps ++ #[rawInt pos.line, rawInt pos.col, .ref c']))) c' (CodeO c' (X.env.qual ++ "<lambda>"))) := fun b o e n => by
      rw [upd_ne (ne_of_none e nC), upd_ne (fun z => n ps (Option.some.inj (e.symm.trans (by rw [z]; exact hP))))]
      exact e
    have hE2 : ∀ b o, upd (upd H P (.tbl (ps ++ #[rawInt pos.line, rawInt pos.col, .ref c']))) c' (CodeO c' (X.env.qual ++ "<lambda>")) b = some o → upd (upd (upd H P (.tbl (ps ++ #[rawInt pos.line, rawInt pos.col, .ref c']))) c' (CodeO c' (X.env.qual ++ "<lambda>"))) h'.objs.size
        (.frz (PySem.W.kla_obj "<lambda>" (X.env.qual ++ "<lambda>") params body scope (cloFrom X.env.cells scope.names []) ((X.mg "__name__").getD .none) c' ctv) (.own 0)) b = some o := fun b o e => by rw [upd_ne (ne_of_none e nF)]; exact e
    have eL : (ps ++ #[rawInt pos.line, rawInt pos.col, .ref c']).toList = ps.toList ++ [rawInt pos.line, rawInt pos.col, .ref c'] := by simp
    refine h h'.objs.size c' ((X.mg "__name__").getD .none) ctv _ _ I2 (hE1.trans (.of hE2)) (fun b e => ?_) (LamX.Tabs.ext (fun p hp => ?_) hE2) upd_same (hE2 _ _ upd_same)
    · by_cases b1 : b = h'.objs.size
      · rw [b1, upd_same] at e; cases e
      · rw [upd_ne b1] at e
        by_cases b2 : b = c'
        · rw [b2, upd_same] at e; cases e
        · rw [upd_ne b2] at e
          by_cases b3 : b = P
          · rw [b3, upd_same] at e; cases e
          · rwa [upd_ne b3] at e
    · by_cases hb : p.1 = P
      · rw [hu p hp hb, hb]
        refine ⟨_, by rw [upd_ne (ne_of_none hP nC), upd_same], by rw [eL]; exact PySem.TriplesOk_snoc _ _ _ _ ht, fun p' cv hcv => ?_⟩
        rw [eL] at hcv
        rcases LamX.among_app _ ht hcv with z | z
        · obtain ⟨c0, e1, e2⟩ := ha p' cv z
          exact ⟨c0, e1, hE1 _ _ e2 LamX.codeO_ne⟩
        · exact ⟨c', z, upd_same⟩
      · obtain ⟨ps', a1, a2, a3⟩ := hT p hp
        refine ⟨ps', by rw [upd_ne (ne_of_none a1 nC), upd_ne hb]; exact a1, a2, fun p' cv hcv => ?_⟩
        obtain ⟨c0, e1, e2⟩ := a3 p' cv hcv
        exact ⟨c0, e1, hE1 _ _ e2 LamX.codeO_ne⟩
  | some cv =>
    obtain ⟨c', e, hco⟩ := ha pos cv hc
    subst e
    refine PySem.W.kla_makeFunctionHit (mg := X.mg) (c := c) (P := P) (ps := ps) (closure_ok hfree) I.ok.glob (I.mod.glob.keeps I.bk) hcode (TB.code.keeps I.bk) hP' ht hc bP fun ctv h' tk hx hsz => ?_
    have I1 : Inv X pins σ H { s with heap := h', toks := tk } := I.kept fun b o e => hx b o e
    have I2 := lay (o := PySem.W.kla_obj "<lambda>" (X.env.qual ++ "<lambda>") params body scope (cloFrom X.env.cells scope.names []) ((X.mg "__name__").getD .none) c' ctv) I1 rfl
    have nF : H h'.objs.size = none := I1.hok.fresh (Nat.le_refl _)
    have hE2 : ∀ b o, H b = some o → upd H h'.objs.size (.frz (PySem.W.kla_obj "<lambda>" (X.env.qual ++ "<lambda>") params body scope (cloFrom X.env.cells scope.names []) ((X.mg "__name__").getD .none) c' ctv) (.own 0)) b = some o := fun b o e => by rw [upd_ne (ne_of_none e nF)]; exact e
    refine h h'.objs.size c' ((X.mg "__name__").getD .none) ctv _ _ I2 (.of hE2) (fun b e => ?_) (LamX.Tabs.ext hT hE2) upd_same (hE2 _ _ hco)
    by_cases b1 : b = h'.objs.size
    · rw [b1, upd_same] at e; cases e
    · rwa [upd_ne b1] at e
end
section
variable {G : Gx} {k : Nat} {φ : CallSem} {S : Sx} {X : Cx} {e x y : Expr} {L : String → LamD → Prop}
theorem fnAt {f c' : Addr} {qual : Str} {params : Arguments} {body : Expr} {scope : Scope} {cl : List (Str × Addr)} {pm ctv : Value} {P : Program} {w : World} {H : Hp} {h : Heap} (ok : HOk P w H h) (e : H f = some (.frz (PySem.W.kla_obj "<lambda>" qual params body scope cl pm c' ctv) (.own 0))) : PySem.W.FnAt f h := ⟨_, _, _, _, frz_at ok e⟩
theorem callv_pe (c : CtxC S X G k φ) (hl : LamI X G φ L) {i : Nat} {nm : Str} {es : List Expr} {Ws : Env → Mem → (List D → Mem → Prop) → Prop} {p q : Pos} (hN : S.N[i]? = some nm) (hv : visB S nm = true) (ho : okNm nm = true) (hs : (e :: es).all notStar = true) (ha : PA X (e :: es) (tWs G Ws)) :
    PE X (.Call (.Name nm p) (e :: es) [] q) (tW G fun en M Q => match get en i with | some (.clo l cap) => Ws en M fun ds M => φ l (ds ++ cap) M Q noX | _ => False) := by
  obtain ⟨hG, kl, hr, hk⟩ := hl
  have g := c.xg.ok
  rw [List.all_cons, Bool.and_eq_true] at hs
  refine ⟨fun pins s σ H Q I ⟨env, M, Qd, a, b, w, d⟩ => ?_⟩
  dsimp only at w
  split at w
  · rename_i l cap hget
    obtain ⟨v, e1, cvs, hc, rc⟩ := a.2 i _ hget
    have hc0 := hc
    rw [hG] at hc
    obtain ⟨dl, hL, f, c', pm, ctv, cl, ev, hf, hcode, C⟩ := hc
    subst ev
    refine wpAny_Call_Name_kw (thn ((pe_var (pos := p) (by rw [c.N]; exact hN) (visB_of c.toCtx hv) (okNm_d ho) (okNm_c ho)).run pins s σ H (fun v H1 => v = .ref f ∧ H1 = H) I ⟨.ref f, e1, rfl, rfl⟩) fun u s1 ⟨v, H1, I1, r1, q1⟩ => ?_)
    obtain ⟨ev, eH⟩ := q1
    subst ev
    rw [eH] at I1
    obtain rfl : u = Value.ref f := r1
    refine PySem.W.callWith_F (first := []) (fnAt I1.hok hf) (thn (ha.run q pins s1 σ H (QVs G M H fun ds M => φ l (ds ++ cap) M Qd noX) I1 ⟨env, M, _, a, b, w, fun _ _ q => q⟩) fun us s2 ⟨vs, H2, I2, r, ds, M2, d1, d2, d3, d4⟩ => ⟨?_, ?_⟩) (star1 hs.1) (starN hs.2)
    · have kp := d3.kpt b
      exact fnAt I2.hok (kp.obj _ _ hf)
    · show wpAny _ _ (call (.ref f) us) _ _ _
      have kp := d3.kpt b
      refine wpAny_call (codeAny_mono (hk l dl hL X.A X.stack s2 H2 us vs cvs ds cap M2 Qd noX (QV G M2 H2 Qd) noE f hr I2.env0 (g _ _ _ _ _ kp hc0) (rc.mono g kp) d1 r d2 d4 (fun _ _ q => q) fun _ _ _ q => q.no) fun r s' hq => ?_)
      cases r with
      | error e => exact (cx_no hq).elim
      | ok fl =>
        cases fl with
        | ret u =>
          obtain ⟨v, H', I', rv, q⟩ := I2.after hq
          exact ⟨v, H', I', rv, d _ _ (q.step d3)⟩
        | next => exact False.elim hq
        | brk => exact False.elim hq
        | cont => exact False.elim hq
  · exact w.elim
theorem caps_vals {σ : L2.St} {H : Hp} {en : Env} (r : RS G σ H en) : ∀ {cap : List Nat} {cs : List D}, cap.mapM (get en) = some cs → D.nclos cs = true → ∃ cvs, RVs G H cs cvs ∧ cap.map (NdefX.slotAt σ) = cvs.map some
  | [], cs, h, _ => by
    rw [List.mapM_nil] at h
    cases h
    exact ⟨[], rfl, rfl⟩
  | j :: cap, cs, h, n => by
    rw [List.mapM_cons] at h
    cases e1 : get en j with
    | none => rw [e1] at h; cases h
    | some d =>
      cases e2 : cap.mapM (get en) with
      | none => rw [e1, e2] at h; cases h
      | some ds =>
        rw [e1, e2] at h
        cases h
        rw [D.nclos, Bool.and_eq_true] at n
        obtain ⟨v, q1, q2⟩ := r.2 j d e1
        obtain ⟨vs, q3, q4⟩ := caps_vals r e2 n.2
        exact ⟨v :: vs, ⟨v, vs, rfl, q2.v n.1, q3⟩, by rw [List.map_cons, List.map_cons, q4, NdefX.slotAt_of q1]⟩
/-- a lambda's reading -/
def tLamE (G : Gx) (qual : Str) (params : Arguments) (body : Expr) (scope : Scope) (cl : List (Str × Addr)) : TE := fun _ H Q => Tabs G.T H ∧ ∀ (f c' : Addr) (pm ctv : Value) (H1 : Hp), ExtN H H1 → (∀ b, H1 b = none → H b = none) → Tabs G.T H1 →
  H1 f = some (.frz (PySem.W.kla_obj "<lambda>" qual params body scope cl pm c' ctv) (.own 0)) → H1 c' = some (CodeO c' qual) → Q (.ref f) H1
theorem ExtN.kpt {H H1 : Hp} (e : ExtN H H1) : Kpt H H1 := ⟨fun b xs h => e _ _ h (fun _ => nofun), fun b o xs h => e _ _ h (fun _ => nofun), fun b o h => e _ _ h (fun _ => nofun), fun b q h => e _ _ h fun ps => LamX.codeO_ne ps⟩
theorem rm_ext {H H1 : Hp} {M : Mem} (g : GOk G) (r : RM G H M) (e : ExtN H H1) (t : Tabs G.T H1) : RM G H1 M := ⟨fun a m q => let ⟨u, e1, hu⟩ := r a m q; ⟨u, e _ _ e1 hu.mut.2.2.2.1, hu.mono g (ExtN.kpt e)⟩, t⟩
theorem st_ext {H H1 : Hp} {M : Mem} (r : RM G H M) (e : ExtN H H1) (gr : ∀ b, H1 b = none → H b = none) : Stp M H M H1 := ⟨fun b o q n t => ⟨e _ _ q t, n⟩, gr, fun b m q => let ⟨u, e1, hu⟩ := r b _ q; ⟨(e _ _ e1 hu.mut.2.2.2.1).trans e1.symm, q⟩⟩
theorem callL_pe (c : CtxC S X G k φ) (hG : G.clo = cloL L) {f l : String} {cap : List Nat} {d : LamD} {W1 : Env → Mem → VQ → Prop} {p q lp : Pos} {cc P : Addr} (hL : L l d) (hf : f ∈ S.fns) (hg : glB S (Str.ofString (S.tx f)) = true) (hs : notStar x = true) (ha : PE X x (tW G W1))
    (htop : S.top = true) (TB : TabB X.base X.mg cc P) (hcode : X.env.code = .ref cc) (hqual : d.qual = X.env.qual ++ "<lambda>") (hm : (P, X.env.qual ++ "<lambda>") ∈ G.T) (hu : ∀ p ∈ G.T, p.1 = P → p.2 = X.env.qual ++ "<lambda>")
    (hdef : defaultsOf d.params X.env = ([], [])) (hfree : ∀ y ∈ d.scope.names, y.2 = .free → S.sc.names.lookup y.1 = some .cell ∨ S.sc.names.lookup y.1 = some .free) (hfr : ∀ y ∈ d.fr, (y, NameKind.free) ∈ d.scope.names) (hjs : cap.map (fun j => S.N[j]?) = d.fr.map some) :
    PE X (.Call (.Name (Str.ofString (S.tx f)) p) [x, .Lambda d.params d.body d.scope lp] [] q) (tW G fun en M Q => W1 en M fun d1 M => match cap.mapM (get en) with | some cs => D.nclos cs = true ∧ φ f [d1, .clo l cs] M Q noX | none => False) := by
  obtain ⟨CX, _, a, fd, ps, k', F, hr, hmg, hk, hb, hx⟩ := c.fns f hf
  obtain ⟨g1, g2⟩ := glB_of c.toCtx hg
  have g := c.xg.ok
  rw [← c.sc] at hfree
  rw [← c.N] at hjs
  have hlam : PE X (.Lambda d.params d.body d.scope lp) (tLamE G d.qual d.params d.body d.scope (cloFrom X.env.cells d.scope.names [])) := by
    refine ⟨fun pins s σ H Q I ⟨hT, h⟩ => ?_⟩
    refine lam_make3 I TB hcode hm hu hT hdef (fun y hy e => (hfree y hy e).elim (fun z => I.ok.has _ (.inl z)) fun z => I.ok.has _ (.inr z)) fun fl c' pm ctv H1 s' I1 e1 e2 e3 e4 e5 => ?_
    exact ⟨.ref fl, H1, I1, rfl, h fl c' pm ctv H1 e1 e2 e3 (by rw [hqual]; exact e4) (by rw [hqual]; exact e5)⟩
  refine ⟨fun pins s σ H Q I ⟨env, M, Qd, a1, b, w, dd⟩ => ?_⟩
  refine wpAny_Call_Name_kw (ld_glob I g1 hmg ?_ (okNm_d g2))
  have hp := pa_cons ha (pa_cons hlam pa_nil (star1 rfl)) (star1 (es := [.Lambda d.params d.body d.scope lp]) (env := X.env) hs)
  refine PySem.W.callWith_K (h₀ := X.base) I.ok.mod.kin hk (thn (hp.run q pins s σ H (fun vs H1 => ∃ v1 fl c' pm ctv d1 M1, vs = [v1, .ref fl] ∧ RV G H1 d1 v1 ∧ RM G H1 M1 ∧ Stp M H M1 H1 ∧
      H1 fl = some (.frz (PySem.W.kla_obj "<lambda>" d.qual d.params d.body d.scope (cloFrom X.env.cells d.scope.names []) pm c' ctv) (.own 0)) ∧ H1 c' = some (CodeO c' d.qual) ∧ (match cap.mapM (get env) with | some cs => D.nclos cs = true ∧ φ f [d1, .clo l cs] M1 Qd noX | none => False)) I ?_) fun us s1 ⟨vs, H1, I1, r, v1, fl, c', pm, ctv, d1, M1, ev, rv, rm, st, hfl, hcd, hw⟩ => ⟨I1.kIn, ?_⟩) (star1 hs) (starN rfl)
  · refine ⟨env, M, _, a1, b, w, fun v H1 ⟨d1, M1, c1, c2, c3, c4⟩ => ⟨c2.tab, fun fl c' pm ctv H2 e1 e2 e3 e4 e5 => ?_⟩⟩
    exact ⟨v, fl, c', pm, ctv, d1, M1, rfl, c1.mono g (ExtN.kpt e1), rm_ext g c2 e1 e3, c3.trans (st_ext c2 e1 e2), e4, e5, c4⟩
  · subst ev
    split at hw
    · rename_i cs hcs
      obtain ⟨hn, hw⟩ := hw
      have rs1 := a1.mono g (st.kpt b)
      obtain ⟨cvs, rc, hcv⟩ := caps_vals rs1 hcs hn
      have hcaps := NdefX.Caps.made (scope := d.scope) I1.ok hfree hfr hjs
      have C := NdefX.cells_of I1 hcaps
      generalize hcl : cloFrom X.env.cells d.scope.names [] = cl at *
      have memc : ∀ pr ∈ cl, cl.lookup pr.1 = some pr.2 := fun pr hpr => by
        rw [← hcl] at hpr ⊢
        obtain ⟨c2, h2⟩ := mem_lookup (n := pr.1) (c := pr.2) hpr
        have m2 := PySem.mem_of_lookup h2
        rcases cloFrom_mem hpr with z | ⟨_, z⟩
        · cases z
        · rcases cloFrom_mem m2 with z2 | ⟨_, z2⟩
          · cases z2
          · rw [h2, z, z2]
      have cellB : ∀ b ∈ cl.map (·.2), H1 b = none ∧ (∃ o u, s1.heap.get? b = some o ∧ o.data = .cell u) ∧ X.s_0.heap.objs.size ≤ b ∧ b ≠ X.env.locals := fun b hb => by
        obtain ⟨pr, hpr, rfl⟩ := List.mem_map.mp hb
        have hlk := memc pr hpr
        obtain ⟨q1, u, o, q2, q3⟩ := C.all _ _ hlk
        have hce := hcaps.sub _ _ hlk
        exact ⟨q1, ⟨o, u, q2, q3⟩, I1.ok.cab _ _ (c.fn htop _) hce, I1.cne _ _ hce⟩
      have ap : Apart (cl.map (·.2)) s1.heap H1 (shw (cl.map (·.2)) s1.heap H1) := ⟨fun b hb => (shw_out hb).symm, fun b hb => (cellB b hb).1, fun b hb => by
        obtain ⟨_, ⟨o, u, q2, q3⟩, _⟩ := cellB b hb
        exact ⟨o, shw_in hb q2, q2⟩⟩
      have e0 : Env0 X.prog X.w X.K X.mg X.base X.A X.stack s1 (shw (cl.map (·.2)) s1.heap H1) := by
        have z := I1.env0
        refine ⟨z.frames, z.mod, fun b o e => ⟨(z.bs b o e).1, ?_⟩, z.bsz, z.funs, fun b hb => ?_, ap.ok_ns z.hok, z.bare⟩
        · rw [shw_out fun hb => ?_]
          · exact (z.bs b o e).2
          · have h1 := (cellB b hb).2.2.1
            have h2 := Heap.lt_size e
            have h3 := I1.ok.bsz
            exact absurd (Nat.lt_of_lt_of_le h2 (Nat.le_trans h3 h1)) (Nat.lt_irrefl _)
        · rw [shw_out fun hc => ?_]
          · exact z.frf b hb
          · obtain ⟨_, _, h1, h2⟩ := cellB b hc
            rcases List.mem_cons.mp (I1.stkSub b hb) with e | e
            · exact h2 e
            · obtain ⟨_, o, ho, _⟩ := I1.ok.funs.mem e
              exact absurd (Nat.lt_of_lt_of_le (Heap.lt_size ho) h1) (Nat.lt_irrefl _)
      have CH : CapH cl d.fr cvs (shw (cl.map (·.2)) s1.heap H1) := by
        have lenc : cvs.length = d.fr.length := by
          have := C.len
          rw [hcv, List.length_map] at this
          exact this
        refine ⟨lenc, fun y c2 e => ?_, fun pr hpr => ⟨pr.1, memc pr hpr⟩, C.inj, fun i y v e1 e2 => ?_, fun y hy => ?_⟩
        · have hb : c2 ∈ cl.map (·.2) := List.mem_map.mpr ⟨(y, c2), PySem.mem_of_lookup e, rfl⟩
          obtain ⟨_, ⟨o, u, q2, q3⟩, _⟩ := cellB c2 hb
          exact ⟨o, u, shw_in hb q2, q3⟩
        · obtain ⟨c2, h2, h3⟩ := C.has i y e1
          have hb : c2 ∈ cl.map (·.2) := List.mem_map.mpr ⟨(y, c2), PySem.mem_of_lookup h2, rfl⟩
          obtain ⟨u, ru, o, q2, q3⟩ := h3 v (by rw [hcv, List.getElem?_map, e2]; rfl)
          exact ⟨c2, o, u, h2, shw_in hb q2, q3, ru⟩
        · obtain ⟨i, hi⟩ := List.mem_iff_getElem?.mp hy
          obtain ⟨c2, h2, _⟩ := C.has i y hi
          exact ⟨c2, h2⟩
      have hclo : G.clo l (shw (cl.map (·.2)) s1.heap H1) cvs (.ref fl) := by
        rw [hG]
        exact ⟨d, hL, fl, c', pm, ctv, cl, rfl, ap.ns hfl, ap.ns hcd, CH⟩
      have sp : spD G φ f [v1, .ref fl] (shw (cl.map (·.2)) s1.heap H1) (QV G M1 (shw (cl.map (·.2)) s1.heap H1) Qd) noE :=
        ⟨[d1, .clo l cs], M1, Qd, noX, ⟨v1, _, rfl, (rv.mono g ap.kns).e, .ref fl, [], rfl, ⟨cvs, hclo, rc.mono g ap.kns⟩, rfl⟩, ap.rm_ns g rm, hw, fun _ _ q => q, fun _ _ _ q => q.no⟩
      have hlen := F.len _ _ _ _ sp
      refine wpAny_call (codeAny_mono (F.run X.A X.stack s1 _ ⟨us, []⟩ us _ _ _ hr e0 (by
        have := hb s1 us I1.kIn (by rw [List.append_nil, ← r.length]; exact hlen)
        rw [List.append_nil] at this
        exact this) r sp) fun r2 s' hq => ?_)
      cases r2 with
      | error e => exact (hx _ _ _ _ _ hq).elim
      | ok fl2 =>
        cases fl2 with
        | ret u =>
          obtain ⟨v, H', os, bare, un, hok, rv', q⟩ := hq
          have ap' : Apart (cl.map (·.2)) s'.heap (hid (cl.map (·.2)) H') H' := ⟨fun b hb => hid_out hb, fun b hb => hid_in hb, fun b hb => by
            obtain ⟨o, e1, e2⟩ := ap.frz b hb
            have e3 := un.frzs b o _ e1
            exact ⟨o, e3, frz_at hok e3⟩⟩
          obtain ⟨d2, M', q1, q2, q3, q4⟩ := q
          obtain ⟨v', H2, I2, rv2, q5⟩ := I1.after (Q := QV G M1 H1 Qd) ⟨v, hid (cl.map (·.2)) H', os, bare, ap.un_sn ap' un, ap'.ok_sn hok, rv', d2, M', q1.kt ap'.ksn, ap'.rm_sn q2, ap.st_sn ap' (ap.rm_ns g rm) q3, q4⟩
          exact ⟨v', H2, I2, rv2, dd _ _ (q5.step st)⟩
        | next => exact False.elim hq
        | brk => exact False.elim hq
        | cont => exact False.elim hq
    · exact hw.elim
theorem callL0_pe (c : CtxC S X G k φ) (hG : G.clo = cloL L) {f l : String} {cap : List Nat} {d : LamD} {p q lp : Pos} {cc P : Addr} (hL : L l d) (hf : f ∈ S.fns) (hg : glB S (Str.ofString (S.tx f)) = true)
    (htop : S.top = true) (TB : TabB X.base X.mg cc P) (hcode : X.env.code = .ref cc) (hqual : d.qual = X.env.qual ++ "<lambda>") (hm : (P, X.env.qual ++ "<lambda>") ∈ G.T) (hu : ∀ p ∈ G.T, p.1 = P → p.2 = X.env.qual ++ "<lambda>")
    (hdef : defaultsOf d.params X.env = ([], [])) (hfree : ∀ y ∈ d.scope.names, y.2 = .free → S.sc.names.lookup y.1 = some .cell ∨ S.sc.names.lookup y.1 = some .free) (hfr : ∀ y ∈ d.fr, (y, NameKind.free) ∈ d.scope.names) (hjs : cap.map (fun j => S.N[j]?) = d.fr.map some) :
    PE X (.Call (.Name (Str.ofString (S.tx f)) p) [.Lambda d.params d.body d.scope lp] [] q) (tW G fun en M Q => match cap.mapM (get en) with | some cs => D.nclos cs = true ∧ φ f [.clo l cs] M Q noX | none => False) := by
  obtain ⟨CX, _, a, fd, ps, k', F, hr, hmg, hk, hb, hx⟩ := c.fns f hf
  obtain ⟨g1, g2⟩ := glB_of c.toCtx hg
  have g := c.xg.ok
  rw [← c.sc] at hfree
  rw [← c.N] at hjs
  have hlam : PE X (.Lambda d.params d.body d.scope lp) (tLamE G d.qual d.params d.body d.scope (cloFrom X.env.cells d.scope.names [])) := by
    refine ⟨fun pins s σ H Q I ⟨hT, h⟩ => ?_⟩
    refine lam_make3 I TB hcode hm hu hT hdef (fun y hy e => (hfree y hy e).elim (fun z => I.ok.has _ (.inl z)) fun z => I.ok.has _ (.inr z)) fun fl c' pm ctv H1 s' I1 e1 e2 e3 e4 e5 => ?_
    exact ⟨.ref fl, H1, I1, rfl, h fl c' pm ctv H1 e1 e2 e3 (by rw [hqual]; exact e4) (by rw [hqual]; exact e5)⟩
  refine ⟨fun pins s σ H Q I ⟨env, M, Qd, a1, b, w, dd⟩ => ?_⟩
  refine wpAny_Call_Name_kw (ld_glob I g1 hmg ?_ (okNm_d g2))
  have hp := pa_cons hlam pa_nil (star1 rfl)
  refine PySem.W.callWith_K (h₀ := X.base) I.ok.mod.kin hk (thn (hp.run q pins s σ H (fun vs H1 => ∃ fl c' pm ctv M1, vs = [.ref fl] ∧ RM G H1 M1 ∧ Stp M H M1 H1 ∧
      H1 fl = some (.frz (PySem.W.kla_obj "<lambda>" d.qual d.params d.body d.scope (cloFrom X.env.cells d.scope.names []) pm c' ctv) (.own 0)) ∧ H1 c' = some (CodeO c' d.qual) ∧ (match cap.mapM (get env) with | some cs => D.nclos cs = true ∧ φ f [.clo l cs] M1 Qd noX | none => False)) I ?_) fun us s1 ⟨vs, H1, I1, r, fl, c', pm, ctv, M1, ev, rm, st, hfl, hcd, hw⟩ => ⟨I1.kIn, ?_⟩) (star1 rfl) (starN rfl)
  · refine ⟨b.tab, fun fl c' pm ctv H2 e1 e2 e3 e4 e5 => ?_⟩
    exact ⟨fl, c', pm, ctv, M, rfl, rm_ext g b e1 e3, st_ext b e1 e2, e4, e5, w⟩
  · subst ev
    split at hw
    · rename_i cs hcs
      obtain ⟨hn, hw⟩ := hw
      have rs1 := a1.mono g (st.kpt b)
      obtain ⟨cvs, rc, hcv⟩ := caps_vals rs1 hcs hn
      have hcaps := NdefX.Caps.made (scope := d.scope) I1.ok hfree hfr hjs
      have C := NdefX.cells_of I1 hcaps
      generalize hcl : cloFrom X.env.cells d.scope.names [] = cl at *
      have memc : ∀ pr ∈ cl, cl.lookup pr.1 = some pr.2 := fun pr hpr => by
        rw [← hcl] at hpr ⊢
        obtain ⟨c2, h2⟩ := mem_lookup (n := pr.1) (c := pr.2) hpr
        have m2 := PySem.mem_of_lookup h2
        rcases cloFrom_mem hpr with z | ⟨_, z⟩
        · cases z
        · rcases cloFrom_mem m2 with z2 | ⟨_, z2⟩
          · cases z2
          · rw [h2, z, z2]
      have cellB : ∀ b ∈ cl.map (·.2), H1 b = none ∧ (∃ o u, s1.heap.get? b = some o ∧ o.data = .cell u) ∧ X.s_0.heap.objs.size ≤ b ∧ b ≠ X.env.locals := fun b hb => by
        obtain ⟨pr, hpr, rfl⟩ := List.mem_map.mp hb
        have hlk := memc pr hpr
        obtain ⟨q1, u, o, q2, q3⟩ := C.all _ _ hlk
        have hce := hcaps.sub _ _ hlk
        exact ⟨q1, ⟨o, u, q2, q3⟩, I1.ok.cab _ _ (c.fn htop _) hce, I1.cne _ _ hce⟩
      have ap : Apart (cl.map (·.2)) s1.heap H1 (shw (cl.map (·.2)) s1.heap H1) := ⟨fun b hb => (shw_out hb).symm, fun b hb => (cellB b hb).1, fun b hb => by
        obtain ⟨_, ⟨o, u, q2, q3⟩, _⟩ := cellB b hb
        exact ⟨o, shw_in hb q2, q2⟩⟩
      have e0 : Env0 X.prog X.w X.K X.mg X.base X.A X.stack s1 (shw (cl.map (·.2)) s1.heap H1) := by
        have z := I1.env0
        refine ⟨z.frames, z.mod, fun b o e => ⟨(z.bs b o e).1, ?_⟩, z.bsz, z.funs, fun b hb => ?_, ap.ok_ns z.hok, z.bare⟩
        · rw [shw_out fun hb => ?_]
          · exact (z.bs b o e).2
          · have h1 := (cellB b hb).2.2.1
            have h2 := Heap.lt_size e
            have h3 := I1.ok.bsz
            exact absurd (Nat.lt_of_lt_of_le h2 (Nat.le_trans h3 h1)) (Nat.lt_irrefl _)
        · rw [shw_out fun hc => ?_]
          · exact z.frf b hb
          · obtain ⟨_, _, h1, h2⟩ := cellB b hc
            rcases List.mem_cons.mp (I1.stkSub b hb) with e | e
            · exact h2 e
            · obtain ⟨_, o, ho, _⟩ := I1.ok.funs.mem e
              exact absurd (Nat.lt_of_lt_of_le (Heap.lt_size ho) h1) (Nat.lt_irrefl _)
      have CH : CapH cl d.fr cvs (shw (cl.map (·.2)) s1.heap H1) := by
        have lenc : cvs.length = d.fr.length := by
          have := C.len
          rw [hcv, List.length_map] at this
          exact this
        refine ⟨lenc, fun y c2 e => ?_, fun pr hpr => ⟨pr.1, memc pr hpr⟩, C.inj, fun i y v e1 e2 => ?_, fun y hy => ?_⟩
        · have hb : c2 ∈ cl.map (·.2) := List.mem_map.mpr ⟨(y, c2), PySem.mem_of_lookup e, rfl⟩
          obtain ⟨_, ⟨o, u, q2, q3⟩, _⟩ := cellB c2 hb
          exact ⟨o, u, shw_in hb q2, q3⟩
        · obtain ⟨c2, h2, h3⟩ := C.has i y e1
          have hb : c2 ∈ cl.map (·.2) := List.mem_map.mpr ⟨(y, c2), PySem.mem_of_lookup h2, rfl⟩
          obtain ⟨u, ru, o, q2, q3⟩ := h3 v (by rw [hcv, List.getElem?_map, e2]; rfl)
          exact ⟨c2, o, u, h2, shw_in hb q2, q3, ru⟩
        · obtain ⟨i, hi⟩ := List.mem_iff_getElem?.mp hy
          obtain ⟨c2, h2, _⟩ := C.has i y hi
          exact ⟨c2, h2⟩
      have hclo : G.clo l (shw (cl.map (·.2)) s1.heap H1) cvs (.ref fl) := by
        rw [hG]
        exact ⟨d, hL, fl, c', pm, ctv, cl, rfl, ap.ns hfl, ap.ns hcd, CH⟩
      have sp : spD G φ f [.ref fl] (shw (cl.map (·.2)) s1.heap H1) (QV G M1 (shw (cl.map (·.2)) s1.heap H1) Qd) noE :=
        ⟨[.clo l cs], M1, Qd, noX, ⟨.ref fl, [], rfl, ⟨cvs, hclo, rc.mono g ap.kns⟩, rfl⟩, ap.rm_ns g rm, hw, fun _ _ q => q, fun _ _ _ q => q.no⟩
      have hlen := F.len _ _ _ _ sp
      refine wpAny_call (codeAny_mono (F.run X.A X.stack s1 _ ⟨us, []⟩ us _ _ _ hr e0 (by
        have := hb s1 us I1.kIn (by rw [List.append_nil, ← r.length]; exact hlen)
        rw [List.append_nil] at this
        exact this) r sp) fun r2 s' hq => ?_)
      cases r2 with
      | error e => exact (hx _ _ _ _ _ hq).elim
      | ok fl2 =>
        cases fl2 with
        | ret u =>
          obtain ⟨v, H', os, bare, un, hok, rv', q⟩ := hq
          have ap' : Apart (cl.map (·.2)) s'.heap (hid (cl.map (·.2)) H') H' := ⟨fun b hb => hid_out hb, fun b hb => hid_in hb, fun b hb => by
            obtain ⟨o, e1, e2⟩ := ap.frz b hb
            have e3 := un.frzs b o _ e1
            exact ⟨o, e3, frz_at hok e3⟩⟩
          obtain ⟨d2, M', q1, q2, q3, q4⟩ := q
          obtain ⟨v', H2, I2, rv2, q5⟩ := I1.after (Q := QV G M1 H1 Qd) ⟨v, hid (cl.map (·.2)) H', os, bare, ap.un_sn ap' un, ap'.ok_sn hok, rv', d2, M', q1.kt ap'.ksn, ap'.rm_sn q2, ap.st_sn ap' (ap.rm_ns g rm) q3, q4⟩
          exact ⟨v', H2, I2, rv2, dd _ _ (q5.step st)⟩
        | next => exact False.elim hq
        | brk => exact False.elim hq
        | cont => exact False.elim hq
    · exact hw.elim
end
end MP
end
section
/-! MP24: dict comprehensions, whatever keys a dict may have. -/
namespace MP
open PySem PySem.Spec L2
open LamX (CodeO TabS Tabs)
/-- the new dict as it grows -/
def DAt (G : Gx) (H : Hp) (L : Addr) (acc : List (D × D)) : Prop := (acc = [] ∧ H L = some (.dK [])) ∨ ∃ o, H L = some o ∧ RU G H L (.dct acc) o
theorem DAt.mut {G : Gx} {H : Hp} {L : Addr} {acc : List (D × D)} (h : DAt G H L acc) : ∃ o, H L = some o ∧ Mut (some o) ∧ (∀ xs, o ≠ .tup xs) ∧ (∀ o' xs, o ≠ .frz o' (.tup xs)) ∧ (∀ o' x, o ≠ .frz o' (.own x)) ∧ (∀ ps, o ≠ .tbl ps) ∧ ∀ q, o ≠ CodeO L q := by
  rcases h with ⟨_, h⟩ | ⟨o, h, ru⟩
  · exact ⟨_, h, True.intro, fun _ => nofun, fun _ _ => nofun, fun _ _ => nofun, fun _ => nofun, fun q => code_ne _ (fun _ z => by cases z) _ _⟩
  · obtain ⟨xs, es, ep, rfl, _⟩ := id ru
    exact ⟨_, h, True.intro, ru.mut⟩
theorem DAt.kpt {G : Gx} {H : Hp} {L : Addr} {acc : List (D × D)} {o : HO} (h : DAt G H L acc) : Kpt H (upd H L o) := by
  obtain ⟨u, hu, _, a1, a2, a3, a4, a5⟩ := h.mut
  refine ⟨fun b ys e => ?_, fun b o ys e => ?_, fun b o e => ?_, fun b q e => ?_⟩
  all_goals
    rw [upd_ne]
    · exact e
    · rintro rfl
      rw [hu] at e
      cases e
      first | exact a1 _ rfl | exact a2 _ _ rfl | exact a3 _ _ rfl | exact a5 _ rfl
theorem DAt.tabs {G : Gx} {H : Hp} {L : Addr} {acc : List (D × D)} {o : HO} {T : List (Addr × Str)} (h : DAt G H L acc) (t : LamX.Tabs T H) : LamX.Tabs T (upd H L o) := by
  obtain ⟨u, hu, _, a1, a2, a3, a4, a5⟩ := h.mut
  refine Tabs.at t (fun b ps e => ?_) (h.kpt).cod
  rw [upd_ne]
  · exact e
  · rintro rfl; rw [hu] at e; cases e; exact a4 _ rfl
theorem DAt.mono {G : Gx} {H H' : Hp} {L : Addr} {acc : List (D × D)} (g : GOk G) (h : DAt G H L acc) (k : Kpt H H') (e : H' L = H L) : DAt G H' L acc := by
  rcases h with ⟨h1, h2⟩ | ⟨o, h, ru⟩
  · exact .inl ⟨h1, e.trans h2⟩
  · exact .inr ⟨o, e.trans h, ru.mono g k⟩
theorem RM.at {G : Gx} {M : Mem} {H : Hp} {L : Addr} {acc : List (D × D)} {o : HO} (g : GOk G) (r : RM G H M) (h : DAt G H L acc) (n : M L = none) : RM G (upd H L o) M := ⟨fun a m e => by
  obtain ⟨u, e1, hu⟩ := r a m e
  have c : a ≠ L := fun z => by rw [z, n] at e; cases e
  exact ⟨u, by rw [upd_ne c]; exact e1, hu.mono g h.kpt⟩, h.tabs r.tab⟩
section
variable {X : Cx} {G : Gx} {k : Nat}
/-- told of by the memory's words -/
theorem dat_ext {pins : List (Addr × Obj)} {σ : L2.St} {H : Hp} {s : Shared} {L : Addr} {acc : List (D × D)} (gk : GOk G) (I : Inv X pins σ H s) (h : DAt G H L acc) : ∃ o, Inv X pins σ (upd H L o) s ∧ RU G (upd H L o) L (.dct acc) o := by
  rcases id h with ⟨rfl, h2⟩ | ⟨o, h2, ru⟩
  · obtain ⟨z, hd, vs, kv, o, es, ep, ho, hx, hdat, hks, hps, hn⟩ := dk_of I.hok h2
    have hr : s.heap.DictRaw L es ep := ⟨o, ho, hx, hdat⟩
    cases kv
    have he : es.toList = [] := by
      generalize es.toList = l at hps
      cases hps
      rfl
    exact ⟨_, Inv.dict (s := s) (h' := s.heap) (o := .lst []) I (by rw [h2]; exact True.intro) hr ⟨rfl, fun _ _ => rfl⟩ s.toks, RU.dct (xs := []) he rfl hd (by simp) (fun _ q => nomatch q) (by simp)⟩
  · refine ⟨o, ?_, ru.mono gk h.kpt⟩
    have e : upd H L o = H := by
      funext b
      by_cases c : b = L
      · rw [c, upd_same]; exact h2.symm
      · rw [upd_ne c]
    rw [e]
    exact I
/-- one more pair -/
theorem dat_set {pins : List (Addr × Obj)} {σ : L2.St} {H : Hp} {s : Shared} {L : Addr} {acc : List (D × D)} {d c : D} {y z : V} {u w : Value} {EE : Value → Shared → Prop} (hw : X.w = G.w) (hK : X.K = G.K) (hu : X.A.units + 200 < cLine) (gk : GOk G) (I : Inv X pins σ H s) (h : DAt G H L acc)
    (hk : D.okey d = true) (hl : acc.length < line) (re : RV G H d y) (ry : RelV y u) (rc : RV G H c z) (rz : RelV z w) : wpAny (model X.prog X.w) X.A (dictSet L u w) (fun _ s' => ∃ o, Inv X pins σ (upd H L o) s' ∧ RU G (upd H L o) L (.dct (put acc d c)) o) EE s := by
  obtain ⟨o, I1, ru⟩ := dat_ext gk I h
  have k1 : Kpt H (upd H L o) := h.kpt
  have re := re.mono gk k1
  have rc := rc.mono gk k1
  have h1 : DAt G (upd H L o) L acc := .inr ⟨o, upd_same, ru⟩
  have uu : ∀ o', upd (upd H L o) L o' = upd H L o' := fun o' => upd_upd
  generalize hH1 : upd H L o = H1 at I1 ru k1 re rc h1 uu
  obtain ⟨xs, es, ep, eo, he, rx, hsy, hln, hks, nd⟩ := ru
  have hL : H1 L = some (.ext fun h => h.DictRaw L es ep) := by rw [← hH1, upd_same, eo]
  have hr : s.heap.DictRaw L es ep := (I1.hok L _ hL).1
  have dm : DictM X.w s.heap L xs := by rw [hw]; exact dict_at I1 hK hr he rx hks nd
  have kn := nested I1 hK (okey_key hk) re ry
  refine set_m (by omega) kn (okey_depth hk) dm (by rw [← rx.length, ← line_eq]; omega) fun h' dm' sb ho => ?_
  obtain ⟨es', ep', hr', he'⟩ := dm'.ob
  have rx' := rx.put (okey_key hk) ry re rz rc hks
  refine ⟨_, by rw [← uu]; exact Inv.dict (o := .lst []) I1 (by rw [hL]; exact True.intro) hr' sb _, ?_⟩
  rw [← uu]
  refine RU.dct (by rw [← hw]; exact he') (rx'.mono gk h1.kpt) hsy (by have := put_len (k := d) (v := c) acc; omega) (fun q hq => ?_) (put_nd nd)
  rcases put_mem hq with ⟨q', hq', e⟩ | e
  · rw [e]; exact hks q' hq'
  · rw [e]; exact hk
/-- the pair is set, whoever runs -/
def SetD (X : Cx) (L : Addr) (y z : V) (H : Hp) (Nx : Hp → Prop) : Prop := ∀ (Y : Cx), Y.prog = X.prog → Y.w = X.w → Y.K = X.K → Y.A = X.A → ∀ (pins : List (Addr × Obj)) (σ : L2.St) (s : Shared) (u r : Value) (EE : Value → Shared → Prop), Inv Y pins σ H s → RelV y u → RelV z r →
  wpAny (model X.prog X.w) X.A (dictSet L u r) (fun _ s' => ∃ H6, Inv Y pins σ H6 s' ∧ Nx H6) EE s
def tDv (X : Cx) (wi : TI) (g : TG) (tt : TT) (tk tv : TE) (vs : List Nat) : TE := fun σ H Q => wi σ H fun J H1 => ∀ L, H1 L = none → ∃ W : Nat → Nat → Hp → Prop, (∃ m, W 0 m (upd H1 L (.dK []))) ∧ ∀ i m H, W i m H →
  (J.stop i H ∧ Q (.ref L) H) ∨ (J.go i H ∧ ∃ Nx : Hp → Prop, (∀ H', Nx H' → ∃ m', m' < m ∧ W (i + 1) m' H') ∧ ∀ x H', J.yld i H x H' → g x (wipe σ vs) H' fun σ2 H2 => wipe σ2 vs = wipe σ vs ∧ tt σ2 H2 fun b H3 =>
    if b = true then tk σ2 H3 fun y H4 => tv σ2 H4 fun z H5 => SetD X L y z H5 Nx else Nx H3)
theorem dv_core {pins : List (Addr × Obj)} {s : Shared} {σ : L2.St} {H : Hp} {Q : VK} {kx vx tg iter : Expr} {ifs : List Expr} {scope : Scope} {own : List (Str × Nat)} {pos pos' : Pos} {wi : TI} {g : TG} {tt : TT} {tk tv : TE} {use : Option (Value → Sem Unit)} {Qf : Value → Shared → Prop}
    (calm : X.calm = true) (nd : X.N.Nodup) (I : Inv X pins σ H s) (hi : PI X tg iter wi) (ok : BlkOk X.N X.env.scope scope own) (hg : ∀ (s : Shared) (H : Hp) (C : Addr) (cl : List (Str × Addr)) (fp : List Addr), PG (X.blk s H scope (compEnvC scope cl C X.env) fp) tg g)
    (ht : ∀ (s : Shared) (H : Hp) (C : Addr) (cl : List (Str × Addr)) (fp : List Addr), PTs (X.blk s H scope (compEnvC scope cl C X.env) fp) ifs tt) (hk : ∀ (s : Shared) (H : Hp) (C : Addr) (cl : List (Str × Addr)) (fp : List Addr), PE (X.blk s H scope (compEnvC scope cl C X.env) fp) kx tk)
    (he : ∀ (s : Shared) (H : Hp) (C : Addr) (cl : List (Str × Addr)) (fp : List Addr), PE (X.blk s H scope (compEnvC scope cl C X.env) fp) vx tv) (hs : ∀ x, foldedSetIterable iter X.env x = pure x) (h : tDv X wi g tt tk tv (own.map (·.2)) σ H Q)
    (hRR : ∀ L C s' m H', Inv X pins σ H' s' → Q (.ref L) H' → s'.heap.Ns C m → FpOk X pins H' C → compPost (model X.prog X.w) X.A X.xe use Qf (.ref L) C (.ok .next) s') :
    wpAny (model X.prog X.w) X.A (comprehension (.DictComp kx vx [⟨tg, iter, ifs, 0⟩] scope pos) scope X.env pos' newDict false (eval iter X.env) use) Qf X.xe s := by
  have free : ∀ y ∈ scope.names, y.2 = .free → ∃ c, X.env.cells.lookup y.1 = some c := fun y hy e => (ok.free y hy e).elim (fun q => I.ok.has _ (.inl q)) fun q => I.ok.has _ (.inr q)
  refine wpAny_comprehension_free (use := use) rfl hs (closure_ok free) ok.kind (fun y hy e => by rw [ok.uniq y hy, e]) (thn (hi.run pins s σ H _ I h) fun xv s1 hx => thn hx fun itv s2 hh => ?_)
  obtain ⟨it, fp, tn, J, H2, rfl, I2, T, st2, f2, q⟩ := hh
  refine wpAny_newObj_type (newEnv_comp ?_)
  have dn : H2 s2.heap.objs.size = none := I2.hok.fresh (Nat.le_refl _)
  obtain ⟨W, ⟨m0, w0⟩, turn⟩ := q s2.heap.objs.size dn
  have newD : ObjOk X.prog X.w (upd H2 s2.heap.objs.size (.dK [])) (s2.heap.push { cls := .type "dict", data := .dict #[] }) s2.heap.objs.size (.dK []) := dk_empty s2.heap I2.big
  generalize eL : s2.heap.objs.size = L at dn w0 turn newD
  generalize e3 : ({ s2 with heap := s2.heap.push { cls := .type "dict", data := .dict #[] } } : Shared) = t3
  have hp3 : t3.heap = s2.heap.push { cls := .type "dict", data := .dict #[] } := by rw [← e3]
  have I3 : Inv X pins σ (upd H2 L (.dK [])) t3 := by
    rw [← e3]
    exact I2.laid (t' := s2.toks) (fun b o e => Heap.get?_push_of_some _ e) (Nat.le_of_eq eL) newD
  have lt : ∀ b ∈ fp, b < s2.heap.objs.size := fun b hb => let ⟨o, e, _⟩ := T.obj _ _ st2 b hb; Heap.lt_size e
  have f3 : ∀ b ∈ fp, FpOk X pins (upd H2 L (.dK [])) b ∧ b < t3.heap.objs.size := fun b hb => by
    have h1 := lt b hb
    exact ⟨⟨(upd_ne (by rw [← eL]; exact Nat.ne_of_lt h1)).trans (f2 b hb).1, (f2 b hb).2⟩, by rw [hp3, Heap.size_push]; exact Nat.lt_succ_of_lt h1⟩
  have st3 : tn 0 t3.heap := T.keep _ _ _ st2 fun b _ o e => by rw [hp3]; exact Heap.get?_push_of_some _ e
  have I4 := block_start I3 ok nd f3
  have pg := hg t3 (upd H2 L (.dK [])) t3.heap.objs.size (cellsFrom (t3.heap.objs.size + 1) scope.names (cloFrom X.env.cells scope.names [])) fp
  have pt := ht t3 (upd H2 L (.dK [])) t3.heap.objs.size (cellsFrom (t3.heap.objs.size + 1) scope.names (cloFrom X.env.cells scope.names [])) fp
  have pk := hk t3 (upd H2 L (.dK [])) t3.heap.objs.size (cellsFrom (t3.heap.objs.size + 1) scope.names (cloFrom X.env.cells scope.names [])) fp
  have pv := he t3 (upd H2 L (.dK [])) t3.heap.objs.size (cellsFrom (t3.heap.objs.size + 1) scope.names (cloFrom X.env.cells scope.names [])) fp
  show codeAny _ _ (.compStart (.DictComp kx vx [⟨tg, iter, ifs, 0⟩] scope pos) 0 (.ref it) (.ref L) (compEnvC scope (cellsFrom (t3.heap.objs.size + 1) scope.names (cloFrom X.env.cells scope.names [])) t3.heap.objs.size X.env)) (compPost (model X.prog X.w) X.A X.xe use Qf (.ref L) t3.heap.objs.size) { t3 with heap := pushCells (t3.heap.push { cls := .type "dict", data := .dict #[] }) scope.names }
  have nfp : ∀ b ∈ fp, (upd H2 L (.dK [])) b = none := fun b hb => (f3 b hb).1.1
  generalize eC : compEnvC scope (cellsFrom (t3.heap.objs.size + 1) scope.names (cloFrom X.env.cells scope.names [])) t3.heap.objs.size X.env = ce at I4 pg pt pk pv ⊢
  have cL : ce.locals = t3.heap.objs.size := by rw [← eC]; rfl
  generalize eH : upd H2 L (.dK []) = G3 at I3 I4 pg pt pk pv w0 nfp f3
  generalize e4 : ({ t3 with heap := pushCells (t3.heap.push { cls := .type "dict", data := .dict #[] }) scope.names } : Shared) = t4 at I4 ⊢
  have st4 : tn 0 t4.heap := T.keep _ _ _ st3 fun b _ o e => by rw [← e4]; exact pushCells_keeps _ _ _ _ (Heap.get?_push_of_some _ e)
  have fpo : ∀ {σ' : L2.St} {H' : Hp} {s' : Shared}, Inv (X.blk t3 G3 scope ce fp) [] σ' H' s' → (∀ b ∈ fp, H' b = none) → ∀ b ∈ fp, FpOk (X.blk t3 G3 scope ce fp) [] H' b := fun {σ' H' s'} I' hn b hb => ⟨hn b hb, (I'.ok.exf b hb).1, I'.ok.exfs b hb, .inl hb, fun x c e => (I'.ok.exf b hb).2 x c e, fun p hp => absurd (show p ∈ ([] : List (Addr × Obj)) ++ [] from hp) (by simp)⟩
  have loop : codeAny (model X.prog X.w) X.A (.compLoop (.DictComp kx vx [⟨tg, iter, ifs, 0⟩] scope pos) 0 (.ref it) (.ref L) ce) (compPost (model X.prog X.w) X.A X.xe use Qf (.ref L) t3.heap.objs.size) t4 := by
    refine compLoop_anyD (fun n s' => ∃ i H', Inv (X.blk t3 G3 scope ce fp) [] (wipe σ (own.map (·.2))) H' s' ∧ tn i s'.heap ∧ (∀ b ∈ fp, H' b = none) ∧ W i n H') ?_ m0 ⟨0, G3, I4, st4, nfp, w0⟩
    rintro n s5 ⟨i, H5, I5, st5, n5, w5⟩
    rcases turn i n H5 w5 with ⟨stop, qq⟩ | ⟨go, Nx, hNx, step⟩
    · have td := T.done (X.blk t3 G3 scope ce fp) rfl rfl rfl calm i [] s5 _ H5 (fun _ _ => False) I5 (fpo I5 n5) st5 stop
      refine thnF td fun r s6 ⟨er, I6⟩ => ?_
      subst er
      have I7 : Inv X pins σ H5 s6 := I3.call' (ch := fp) I6.os I6.base I6.hok I6.bare fun b hb => let f := (f3 b hb).1; ⟨f.2.2.2.1, f.2.1, f.2.2.2.2.1, f.2.2.2.2.2⟩
      have nC : H5 t3.heap.objs.size = none := by
        have z : H5 ce.locals = none := I6.free
        rwa [cL] at z
      obtain ⟨m, hn, _⟩ := I6.loc
      have hn : s6.heap.Ns ce.locals m := hn
      rw [cL] at hn
      exact hRR L t3.heap.objs.size s6 m H5 I7 qq hn (I3.fpOk (Nat.le_refl _) nC)
    · have ti := T.item (X.blk t3 G3 scope ce fp) rfl rfl rfl calm i [] s5 _ H5 (fun _ _ => False) I5 (fpo I5 n5) st5 go
      refine thnF ti fun r s6 ⟨u, er, h6⟩ => ?_
      subst er
      refine thnF h6 fun _ s7 ⟨x, H7, I7, r7, y7, st7, n7⟩ => ?_
      have I7' := I7.pinned (fpo I7 n7) (T.obj _ _ st7)
      refine thnF (pg.run _ s7 _ H7 x u _ I7' r7 (step x H7 y7)) fun _ s8 ⟨σ8, H8, I8, hw8, q8⟩ => ?_
      refine thnF (pt.run _ s8 σ8 H8 _ I8 q8) fun b s9 ⟨H9, I9, q9⟩ => ?_
      have fin : ∀ {s' : Shared} {H' : Hp}, Inv (X.blk t3 G3 scope ce fp) ([] ++ pinsAt fp s7.heap) σ8 H' s' → Nx H' → ∃ m, m < n ∧ ∃ i H', Inv (X.blk t3 G3 scope ce fp) [] (wipe σ (own.map (·.2))) H' s' ∧ tn i s'.heap ∧ (∀ b ∈ fp, H' b = none) ∧ W i m H' := fun {s' H'} I' nx => by
        obtain ⟨m', hm, w'⟩ := hNx H' nx
        have pn : ∀ b ∈ fp, ∀ o, s7.heap.get? b = some o → s'.heap.get? b = some o ∧ H' b = none := fun b hb o e => let z := I'.pin (b, o) (List.mem_append_right _ (List.mem_append_right _ (mem_pinsAt hb e))); ⟨z.1, z.2.1⟩
        refine ⟨m', hm, i + 1, H', (I'.unpinned (pins := [])).weak (by rw [← hw8, wipe_length]) (fun j v e => (wipe_some (by rw [← hw8] at e; exact e)).1), T.keep _ _ _ st7 fun b hb o e => (pn b hb o e).1, fun b hb => ?_, w'⟩
        obtain ⟨o, e, _⟩ := T.obj _ _ st7 b hb
        exact (pn b hb o e).2
      cases b with
      | false =>
        simp only [Bool.false_eq_true, if_false] at q9 ⊢
        exact fin I9 q9
      | true =>
        simp only [if_true] at q9 ⊢
        refine thnF (pk.run _ s9 σ8 H9 _ I9 q9) fun z s10 ⟨yk, H10, I10, r10, q10⟩ => thnF (pv.run _ s10 σ8 H10 _ I10 q10) fun z2 s11 ⟨yv, H11, I11, r11, nx⟩ => ?_
        exact wpAny_mono (nx (X.blk t3 G3 scope ce fp) rfl rfl rfl rfl _ _ _ _ _ _ I11 r10 r11) (fun _ s12 ⟨H12, I12, n12⟩ => fin I12 n12) fun _ _ z => z
  exact codeAny_compStart_dict loop (T.self X.A 0 _ _ _ st4 loop)
end
section
variable {X : Cx} {G : Gx} {k : Nat}
def dcStep (t : CT) (Wt : Env → Mem → (Bool → Mem → Prop) → Prop) (Wk Wv : Env → Mem → VQ → Prop) (e : Env) (d : MP.D) (M : Mem) (R : Option (MP.D × MP.D) → Mem → Prop) : Prop := match bind M t d e with
  | some e => Wt e M fun b M => if b = true then Wk e M (fun x M => Wv e M (fun y M => R (some (x, y)) M)) else R none M
  | none => False
theorem wipe_wipe (vs : List Nat) (σ : L2.St) : wipe (wipe σ vs) vs = wipe σ vs := by
  refine List.ext_getElem? fun j => ?_
  by_cases hj : j ∈ vs
  · have nn : ∀ (σ : L2.St), (wipe σ vs)[j]? = if j < σ.length then some none else none := by
      intro σ
      cases q : (wipe σ vs)[j]? with
      | none =>
        have := List.getElem?_eq_none_iff.mp q
        rw [wipe_length] at this
        rw [if_neg (by omega)]
      | some o =>
        have := (List.getElem?_eq_some_iff.mp q).1
        rw [wipe_length] at this
        rw [if_pos this]
        cases o with
        | none => rfl
        | some x => exact absurd hj (wipe_some q).2
    rw [nn, nn, wipe_length]
  · rw [wipe_out hj]
def DcPost (X : Cx) (G : Gx) (M : Mem) (H : Hp) (Qd : List (MP.D × MP.D) → Mem → Prop) : VK := fun v H' => ∃ (I : MP.It) (J : L2.It) (fp : List Addr) (M1 : Mem) (H1 : Hp) (L : Addr) (M' : Mem) (ds : List (MP.D × MP.D)), v = .ref L ∧ IR X G I J fp M H M1 H1 ∧ Same fp M1 H1 M' H' ∧ DAt G H' L ds ∧ L ∉ fp ∧ H L = none ∧ M' L = none ∧ RM G H' M' ∧ Stp M H M' H' ∧ Qd ds (I.fin M')
theorem Stp.layA {M0 M : Mem} {H0 H : Hp} {L : Addr} {o : HO} {m : MO} (s : Stp M0 H0 M H) (h : H0 L = none) (r0 : ∀ m, M0 L ≠ some m) : Stp M0 H0 (M.set L m) (upd H L o) :=
  ⟨fun b u e n t => by
    obtain ⟨e1, n1⟩ := s.keep b u e n t
    exact ⟨by rw [upd_ne (ne_of_none e h)]; exact e1, by rw [Mem.set_ne _ _ (ne_of_none e h)]; exact n1⟩, fun b e => (s.own h r0).grow b e, fun b m' e => by
    obtain ⟨e1, n1⟩ := s.frz b m' e
    have c : b ≠ L := fun z => r0 _ (z ▸ e)
    exact ⟨by rw [upd_ne c]; exact e1, by rw [Mem.set_ne _ _ c]; exact n1⟩⟩
theorem DcPost.fin {pins : List (Addr × Obj)} {σ : L2.St} {H H' : Hp} {s : Shared} {M : Mem} {Qd : VQ} {v : V} (g : XG X G k) (rm0 : RM G H M) (h : DcPost X G M H (fun kvs M => wNew (.dct kvs) M Qd) v H') (I1 : Inv X pins σ H' s) : ∃ H2, Inv X pins σ H2 s ∧ QV G M H Qd v H2 := by
  obtain ⟨It, J, fp, M1, H1, L, M', ds, rfl, ir, q2, q3, q4, q5, q6, q8, q9, q10⟩ := h
  obtain ⟨H2, I2, rm2, st2, k2, oth⟩ := ir.fin pins σ M' H' s I1 q2 q8 q9
  obtain ⟨o1, o2⟩ := oth L q4
  have hM : It.fin M' L = none := o2.trans q6
  have dA := q3.mono g.ok k2 o1
  obtain ⟨o, I3, ru⟩ := dat_ext g.ok I2 dA
  refine ⟨_, I3, .ref L, _, rfl, ⟨fun a m e => ?_, dA.tabs rm2.tab⟩, st2.layA q5 (fun m e => by rw [rm0.free q5] at e; cases e), q10 L hM⟩
  by_cases c : a = L
  · subst c
    rw [Mem.set_same] at e
    cases e
    exact ⟨o, upd_same, ru⟩
  · rw [Mem.set_ne _ _ c] at e
    exact (rm2.at g.ok dA hM).mem a m e
theorem dc_rd {t : CT} {Wi : Env → Mem → (MP.It → Mem → Prop) → Prop} {Wt : Env → Mem → (Bool → Mem → Prop) → Prop} {Wk Wv : Env → Mem → VQ → Prop} {own : List (Str × Nat)} {σ : L2.St} {H : Hp} {env : Env} {M : Mem} {Qd : List (MP.D × MP.D) → Mem → Prop}
    (g : XG X G k) (hown : ∀ i, i ∈ own.map (·.2) ↔ i ∈ tn t) (rs : RS G σ H env) (rm : RM G H M) (h : Wi env M fun J M => dcLoop J (dcStep t Wt Wk Wv env) Qd J.ds [] M) {Q : VK} (hQ : ∀ v H', DcPost X G M H Qd v H' → Q v H') :
    tDv X (tWi X G Wi) (tG G t) (tWb G Wt) (tW G Wk) (tW G Wv) (own.map (·.2)) σ H Q := by
  refine ⟨env, M, _, rs, rm, h, fun It J fp M1 H1 ir rm1 st1 hl => ?_⟩
  intro L hD
  have hD0 : H L = none := st1.grow L hD
  have hM1 : M1 L = none := rm1.free hD
  have hfp : L ∉ fp := fun z => by
    rcases ir.fix L z with ⟨o, e, _⟩ | ⟨m, u, _, e⟩ <;> (rw [hD] at e; cases e)
  have hM0 : ∀ m, M L ≠ some m := fun m e => by rw [rm.free hD0] at e; cases e
  let St_ : Nat → Hp → Prop := fun i H' => ∃ M' acc, DAt G H' L acc ∧ M' L = none ∧ RM G H' M' ∧ Same fp M1 H1 M' H' ∧ Kpt H1 H' ∧ Stp M H M' H' ∧ dcLoop It (dcStep t Wt Wk Wv env) Qd (It.ds.drop i) acc M'
  refine ⟨fun i m H' => m = It.ds.length - i ∧ i ≤ It.ds.length ∧ St_ i H', ⟨_, rfl, Nat.zero_le _, M1, [], .inl ⟨rfl, upd_same⟩, hM1, rm1.new g.ok hD, Same.own (.refl _ _ _) hfp, .new hD, st1.own hD0 hM0, hl⟩, ?_⟩
  rintro i m H' ⟨rfl, hile, M', acc, e1, e2, e4, e5, e6, e7, e8⟩
  by_cases hlt : i < It.ds.length
  · right
    rw [List.drop_eq_getElem_cons hlt] at e8
    unfold dcLoop at e8
    obtain ⟨hok, e8⟩ := e8
    refine ⟨ir.go i M' H' hlt e5 e6 e4 hok, St_ (i + 1), ?_, ?_⟩
    · rintro H'' hh
      exact ⟨It.ds.length - (i + 1), by omega, rfl, hlt, hh⟩
    · intro x H2 hy
      obtain ⟨d, d1, d2, d3, d4, d5⟩ := ir.yld i M' H' x H2 e5 e6 e4 hok hy hlt
      have hd : d = It.ds[i] := by rw [List.getElem?_eq_getElem hlt] at d1; exact (Option.some.inj d1).symm
      unfold dcStep at e8
      rw [← hd] at e8
      split at e8
      · rename_i env' hb
        have k2 := d4.kpt e4
        have s2 := e5.step ir.fix d4
        have st2 := e7.trans d4
        have kk : Kpt H H2 := st2.kpt rm
        -- the new dict stands where the program cannot write
        have hold : ∀ {Ma Mb : Mem} {Ha Hb : Hp}, Stp Ma Ha Mb Hb → RM G Ha Ma → Ma L = none → DAt G Ha L acc → DAt G Hb L acc ∧ Mb L = none := fun {Ma Mb Ha Hb} st r n da => by
          obtain ⟨o, ho, _, _, _, _, a4, _⟩ := da.mut
          obtain ⟨z1, z2⟩ := st.keep L o ho n a4
          exact ⟨da.mono g.ok (st.kpt r) (z1.trans ho.symm), z2⟩
        refine ⟨d, M', env, env', (· ∈ own.map (·.2)), d2, d3, (rs.mono g.ok kk).wipe _, hb, fun σ' r' ag => ?_⟩
        have r2 : RS G σ' H2 env' := r'.rs fun j ⟨z1, z2⟩ => z2 ((hown j).mp z1)
        refine ⟨?_, env', M', _, r2, d3, e8, fun b H3 ⟨M3, b1, b2, b3⟩ => ?_⟩
        · rw [agree_wipe ag (fun j hj => (hown j).mpr hj)]
          exact wipe_wipe _ _
        · have s3 := s2.step ir.fix b2
          have k3 := e6.trans (k2.trans (b2.kpt d3))
          have st3 := st2.trans b2
          obtain ⟨l3, n3⟩ := hold (d4.trans b2) e4 e2 e1
          cases b with
          | false =>
            refine PyProof.Rows.ite_ff ?_
            simp only [Bool.false_eq_true, if_false] at b3
            exact ⟨M3, acc, l3, n3, b1, s3, k3, st3, b3⟩
          | true =>
            refine PyProof.Rows.ite_tt ?_
            simp only [if_true] at b3
            refine ⟨env', M3, _, r2.mono g.ok (b2.kpt d3), b1, b3, fun y H4 ⟨ck, M4, c1, c2, c3, c4⟩ => ?_⟩
            refine ⟨env', M4, _, (r2.mono g.ok (b2.kpt d3)).mono g.ok (c3.kpt b1), c2, c4, fun z H5 ⟨cv, M5, f1, f2, f3, f4, f5, f6⟩ => ?_⟩
            obtain ⟨l5, n5⟩ := hold (c3.trans f3) b1 n3 l3
            have kc := (c3.kpt b1).trans (f3.kpt c2)
            have k4 := k2.trans ((b2.kpt d3).trans kc)
            have st5 := st3.trans (c3.trans f3)
            intro Y p1 p2 p3 p4 pins σ' s' u r EE I5 ru rr
            rw [← p1, ← p2, ← p4]
            refine wpAny_mono (dat_set (X := Y) (G := G) (p2.trans g.w) (p3.trans g.K) (by rw [p4]; exact g.units) g.ok I5 l5 f4 f5 (c1.mono g.ok (f3.kpt c2)) ru f1 rr) (fun _ s6 ⟨o, I6, ru6⟩ => ⟨_, I6, M5, _, .inr ⟨o, upd_same, ru6⟩, n5, f2.at g.ok l5 n5, Same.own (s3.step ir.fix (c3.trans f3)) hfp, (e6.trans k4).trans l5.kpt, st5.own hD0 hM0, f6⟩) fun _ _ z => z
      · exact e8.elim
  · left
    have hi : i = It.ds.length := by omega
    subst hi
    rw [List.drop_length] at e8
    unfold dcLoop at e8
    exact ⟨ir.stop M' H' e5 e6 e4 e8.1, hQ _ _ ⟨It, J, fp, M1, H1, L, M', acc, rfl, ir, e5, e1, hfp, hD0, e2, e4, e7, e8.2⟩⟩
theorem pe_dcW {kx vx tg iter : Expr} {ifs : List Expr} {scope : Scope} {own : List (Str × Nat)} {pos : Pos} {t : CT} {Wi : Env → Mem → (MP.It → Mem → Prop) → Prop} {Wt : Env → Mem → (Bool → Mem → Prop) → Prop} {Wk Wv : Env → Mem → VQ → Prop}
    (g : XG X G k) (hi : PI X tg iter (tWi X G Wi)) (ok : BlkOk X.N X.env.scope scope own) (hown : ∀ i, i ∈ own.map (·.2) ↔ i ∈ tn t)
    (hg : ∀ (s : Shared) (H : Hp) (C : Addr) (cl : List (Str × Addr)) (fp : List Addr), PG (X.blk s H scope (compEnvC scope cl C X.env) fp) tg (tG G t)) (ht : ∀ (s : Shared) (H : Hp) (C : Addr) (cl : List (Str × Addr)) (fp : List Addr), PTs (X.blk s H scope (compEnvC scope cl C X.env) fp) ifs (tWb G Wt))
    (hk : ∀ (s : Shared) (H : Hp) (C : Addr) (cl : List (Str × Addr)) (fp : List Addr), PE (X.blk s H scope (compEnvC scope cl C X.env) fp) kx (tW G Wk))
    (he : ∀ (s : Shared) (H : Hp) (C : Addr) (cl : List (Str × Addr)) (fp : List Addr), PE (X.blk s H scope (compEnvC scope cl C X.env) fp) vx (tW G Wv)) (hs : ∀ x, foldedSetIterable iter X.env x = pure x) :
    PE X (.DictComp kx vx [⟨tg, iter, ifs, 0⟩] scope pos) (tW G fun e M Q => Wi e M fun J M => dcLoop J (dcStep t Wt Wk Wv e) (fun kvs M => wNew (.dct kvs) M Q) J.ds [] M) := by
  refine ⟨fun pins s σ H Q I ⟨env, M, Qd, rs, rm, h, fin⟩ => ?_⟩
  rw [arm_eval_DictComp]
  refine dv_core (Q := DcPost X G M H fun kvs M => wNew (.dct kvs) M Qd) g.calm g.nd I hi ok hg ht hk he hs (dc_rd g hown rs rm h fun _ _ q => q) fun L C s1 m H1 I1 q hn f => ⟨m, hn, fun h3 sb => ?_⟩
  obtain ⟨f0, f1, f2, f3, f4, f5⟩ := f
  have I2 := I1.turned (t' := s1.toks) (fun b o hb e => (sb.2 b hb).trans e) f0 f1 f3 f4 f5
  obtain ⟨H2, I3, q2⟩ := q.fin g rm I2
  exact ⟨.ref L, H2, I3, rfl, fin _ _ q2⟩
end
end MP
end
section
/-! MP16: more pieces for the checker of expressions. -/
namespace MP
open PySem PySem.Spec L2
section
variable {G : Gx} {k : Nat} {φ : CallSem}
theorem bb_len : bootBuiltins (Str.ofString "len") = some (.builtin "len") := by kernel_rfl
theorem bb_tuple : bootBuiltins (Str.ofString "tuple") = some (.type "tuple") := by kernel_rfl
theorem bb_list : bootBuiltins (Str.ofString "list") = some (.type "list") := by kernel_rfl
theorem bb_int : bootBuiltins (Str.ofString "int") = some (.type "int") := by kernel_rfl
theorem bb_abs : bootBuiltins (Str.ofString "abs") = some (.builtin "abs") := by kernel_rfl
theorem bb_all : bootBuiltins (Str.ofString "all") = some (.builtin "all") := by kernel_rfl
theorem bb_any : bootBuiltins (Str.ofString "any") = some (.builtin "any") := by kernel_rfl
theorem bb_sum : bootBuiltins (Str.ofString "sum") = some (.builtin "sum") := by kernel_rfl
theorem bb_min : bootBuiltins (Str.ofString "min") = some (.builtin "min") := by kernel_rfl
theorem bb_max : bootBuiltins (Str.ofString "max") = some (.builtin "max") := by kernel_rfl
theorem bb_sorted : bootBuiltins (Str.ofString "sorted") = some (.builtin "sorted") := by kernel_rfl
theorem bb_set : bootBuiltins (Str.ofString "set") = some (.type "set") := by kernel_rfl
theorem bb_range : bootBuiltins (Str.ofString "range") = some (.type "range") := by kernel_rfl
theorem ckEs_star {S : Sx} : ∀ {cs : CEs} {es : List Expr}, ckEs S cs es = true → es.all notStar = true
  | .nil, [], _ => rfl
  | .cons c cs, e :: es, h => by
    rw [ckEs, and_iff] at h
    rw [List.all_cons, h.1, ckEs_star (and_iff.mp h.2).2]; rfl
  | .nil, _ :: _, h => by simp [ckEs] at h
  | .cons _ _, [], h => by simp [ckEs] at h
/-! ### tests -/
theorem wCmp_eq (op : Cmp) (x y : D) (M : Mem) (Q : Bool → Mem → Prop) : wCmp op x y M (fun t M => wTruth t M Q) = wCmp op x y M (fun t M => ∃ k, t = .bl k ∧ Q k M) := by
  have e : ∀ (b : Bool) (M : Mem), (∃ k, D.bl b = .bl k ∧ Q k M) = Q b M := fun b M => propext ⟨fun ⟨k, e, q⟩ => by cases e; exact q, fun q => ⟨b, rfl, q⟩⟩
  have e0 : wCmp0 op x y M (fun t M => wTruth t M Q) = wCmp0 op x y M (fun t M => ∃ k, t = .bl k ∧ Q k M) := by
    unfold wCmp0
    cases op <;> simp only [e] <;> rfl
  have e1 : wCmpD op x y M (fun t M => wTruth t M Q) = wCmpD op x y M (fun t M => ∃ k, t = .bl k ∧ Q k M) := by
    unfold wCmpD
    simp only [e]
    rfl
  unfold wCmp
  rw [e0, e1]
theorem and_eq (φ : CallSem) (a b : CE) (en : Env) (M : Mem) (Q : Bool → Mem → Prop) : WT φ (.and_ a b) en M Q = WT φ a en M fun k M => if k = true then WT φ b en M Q else Q false M := by
  show wE φ (.and_ a b) en M _ noX = wE φ a en M _ noX
  rw [wE]
  congr 1
  funext x M'
  unfold wTruth
  cases e : truth M' x with
  | none => rfl
  | some v => cases v <;> first | rfl | (simp only [Bool.false_eq_true, if_false, if_true, e])
theorem or_eq (φ : CallSem) (a b : CE) (en : Env) (M : Mem) (Q : Bool → Mem → Prop) : WT φ (.or_ a b) en M Q = WT φ a en M fun k M => if k = true then Q true M else WT φ b en M Q := by
  show wE φ (.or_ a b) en M _ noX = wE φ a en M _ noX
  rw [wE]
  congr 1
  funext x M'
  unfold wTruth
  cases e : truth M' x with
  | none => rfl
  | some v => cases v <;> first | rfl | (simp only [Bool.false_eq_true, if_false, if_true, e])
section
variable {S : Sx} {X : Cx} {e x y : Expr}
theorem cmp_pt (c : Ctx S X G k) {op : Cmp} {Wa Wb : Env → Mem → VQ → Prop} (h : asCmp1 e = some (x, cmpOf op, y)) (hy : notSet y = true) (ha : PE X x (tW G Wa)) (hb : PE X y (tW G Wb)) :
    PT X e (tWb G fun en M Q => Wa en M fun x M => Wb en M fun y M => wCmp op x y M fun t M => wTruth t M Q) := by
  obtain ⟨p, rfl⟩ := asCmp1_eq h
  refine (pt_cmpR (op_cmp c.xg op) ha hb (noMark hy)).imp fun σ H Q ⟨env, M, Qd, a, b, w, d⟩ => ?_
  simp only [wCmp_eq] at w
  refine ⟨env, M, _, a, b, w, fun v H1 ⟨dx, M1, c1, c2, c3, c4⟩ => ⟨env, M1, _, a.mono c.xg.ok (c3.kpt b), c2, c4, fun u H2 ⟨dy, M2, d1, d2, d3, d4⟩ => ⟨M2, dx, dy, fun t M => ∃ k, t = .bl k ∧ Qd k M, d2, c1.mono c.xg.ok (d3.kpt c2), d1, d4, fun w H5 ⟨t, M', q1, q2, q3, kk, e, q4⟩ => ?_⟩⟩⟩
  subst e
  exact ⟨kk, q1, d _ _ ⟨M', q2, (c3.trans d3).trans q3, q4⟩⟩
theorem chain_pe (c : Ctx S X G k) {z : Expr} {o1 o2 : Cmp} {Wa Wb Wc : Env → Mem → VQ → Prop} (h : asCmp2 e = some (x, cmpOf o1, y, cmpOf o2, z)) (hz : notSet z = true) (ha : PE X x (tW G Wa)) (hb : PE X y (tW G Wb)) (hc : PE X z (tW G Wc)) :
    PE X e (tW G fun en M Q => Wa en M fun x M => Wb en M fun y M => wCmp o1 x y M fun t M => wTruth t M fun k M => if k = true then Wc en M fun z M => wCmp o2 y z M Q else Q (.bl false) M) := by
  obtain ⟨p, rfl⟩ := asCmp2_eq h
  exact (pe_chain (op_cmp c.xg o1) (op_cmp c.xg o2) ha hb hc (by show behindInMarks _ z = false; exact noMark hz)).imp fun σ H Q hh => chain_rd c.xg.ok (fun _ _ _ w => w) hh
theorem chain_pt (c : Ctx S X G k) {z : Expr} {o1 o2 : Cmp} {Wa Wb Wc : Env → Mem → VQ → Prop} (h : asCmp2 e = some (x, cmpOf o1, y, cmpOf o2, z)) (hz : notSet z = true) (ha : PE X x (tW G Wa)) (hb : PE X y (tW G Wb)) (hc : PE X z (tW G Wc)) :
    PT X e (tWb G fun en M Q => Wa en M fun x M => Wb en M fun y M => wCmp o1 x y M fun t M => wTruth t M fun k M => if k = true then Wc en M fun z M => wCmp o2 y z M fun t M => wTruth t M Q else wTruth (.bl false) M Q) := by
  obtain ⟨p, rfl⟩ := asCmp2_eq h
  refine (pt_chain (op_cmp c.xg o1) (op_cmp c.xg o2) ha hb hc (by show behindInMarks _ z = false; exact noMark hz)).imp fun σ H Q ⟨env, M, Qd, a, b, w, d⟩ => ?_
  simp only [wCmp_eq o2] at w
  have e0 : ∀ M, (wTruth (.bl false) M Qd) = ∃ k, D.bl false = .bl k ∧ Qd k M := fun M => propext ⟨fun q => ⟨false, rfl, q⟩, fun ⟨k, e, q⟩ => by cases e; exact q⟩
  simp only [e0] at w
  refine chain_rd (W := fun en M Q => Wa en M fun x M => Wb en M fun y M => wCmp o1 x y M fun t M => wTruth t M fun k M => if k = true then Wc en M fun z M => wCmp o2 y z M Q else Q (.bl false) M) c.xg.ok (fun _ _ _ w => w) ⟨env, M, fun t M => ∃ k, t = .bl k ∧ Qd k M, a, b, w, fun v H' ⟨t, M', q1, q2, q3, kk, e, q4⟩ => ?_⟩
  subst e
  exact ⟨kk, q1, d _ _ ⟨M', q2, q3, q4⟩⟩
/-! ### cuts -/
theorem cut_pe (c : Ctx S X G k) {lo hi : Option Expr} {p p2 : Pos} {Wa Wl Wh : Env → Mem → VQ → Prop} (ha : PE X x (tW G Wa)) (hl : PO X lo (tWo G fun en M Q => Wl en M fun x M => isPt x = true ∧ Q x M)) (hh : PO X hi (tWo G fun en M Q => Wh en M fun x M => isPt x = true ∧ Q x M)) :
    PE X (.Subscript x (.Slice lo hi none p2) p) (tW G fun en M Q => Wa en M fun x M => Wl en M fun y M => isPt y = true ∧ Wh en M fun z M => isPt z = true ∧ wCut x y z M Q) := by
  refine (pe_slice (cut_w c.xg) ha hl hh).imp fun σ H Q ⟨env, M, Qd, a, b, w, d⟩ => ?_
  refine ⟨env, M, _, a, b, w, fun v H1 ⟨dx, M1, c1, c2, c3, c4⟩ => ⟨env, M1, _, a.mono c.xg.ok (c3.kpt b), c2, c4, fun l H2 ⟨dl, M2, l1, l2, l3, l4⟩ => ⟨env, M2, _, a.mono c.xg.ok ((c3.trans l3).kpt b), l2, l4, fun h H3 ⟨dh, M3, h1, h2, h3, h4⟩ => ?_⟩⟩⟩
  exact ⟨M3, dx, dl, dh, Qd, h2, c1.mono c.xg.ok ((l3.trans h3).kpt c2), l1, h1, h4, fun w H5 q => d w H5 (q.step ((c3.trans l3).trans h3))⟩
theorem cutL_pe (c : Ctx S X G k) {lo hi : Option Expr} {p p2 : Pos} {Wa Wl Wh : Env → Mem → VQ → Prop} (ha : PE X x (tW G Wa)) (hl : PO X lo (tWo G fun en M Q => Wl en M fun x M => isPt x = true ∧ Q x M)) (hh : PO X hi (tWo G fun en M Q => Wh en M fun x M => isPt x = true ∧ Q x M)) :
    PE X (.Subscript x (.Slice lo hi none p2) p) (tWf G fun en M Q => Wa en M fun x M => Wl en M fun y M => isPt y = true ∧ Wh en M fun z M => isPt z = true ∧ wCutL x y z M Q) := by
  refine (pe_slice (cutL_w c.xg) ha hl hh).imp fun σ H Q ⟨env, M, Qd, a, b, w, d⟩ => ?_
  refine ⟨env, M, _, a, b, w, fun v H1 ⟨dx, M1, c1, c2, c3, c4⟩ => ⟨env, M1, _, a.mono c.xg.ok (c3.kpt b), c2, c4, fun l H2 ⟨dl, M2, l1, l2, l3, l4⟩ => ⟨env, M2, _, a.mono c.xg.ok ((c3.trans l3).kpt b), l2, l4, fun h H3 ⟨dh, M3, h1, h2, h3, h4⟩ => ?_⟩⟩⟩
  exact ⟨M3, dx, dl, dh, Qd, h2, c1.mono c.xg.ok ((l3.trans h3).kpt c2), l1, h1, h4, fun w H5 q => d w H5 (QL.step ((c3.trans l3).trans h3) q)⟩
/-! ### lists of two -/
theorem catO_pe (c : Ctx S X G k) {p : Pos} {Wa : Env → Mem → VQ → Prop} {Wb : Env → Mem → (List D → Mem → Prop) → Prop} (ha : PE X x (tW G Wa)) (hb : PE X y (tWl G Wb)) :
    PE X (.BinOp x .Add y p) (tWf G fun en M Q => Wa en M fun x M => Wb en M fun ys M => wSeqL x M fun xs M => (xs ++ ys).length ≤ line ∧ Q (xs ++ ys) M) := by
  refine (pe_op op_cat ha hb).imp fun σ H Q ⟨env, M, Qd, a, b, w, d⟩ => ?_
  refine ⟨env, M, _, a, b, w, fun v H1 ⟨dx, M1, c1, c2, c3, c4⟩ => ⟨env, M1, _, a.mono c.xg.ok (c3.kpt b), c2, c4, fun u H2 ⟨ds, vs, p, M2, e, d1, d2, d3, d4, d5⟩ => ?_⟩⟩
  subst e
  dsimp only [wSeqL] at d5
  clear ha hb
  split at d5
  · rename_i _ q _
    rw [show v = _ from c1]
    split at d5
    · rename_i es e1
      obtain ⟨_, f1, ws, rfl, hw⟩ := d3 q _ e1
      have hl := (hw.append d2).length
      rw [List.length_append (as := ws)] at hl
      exact ⟨q, p, ws, vs, rfl, rfl, f1, d1, by rw [← line_eq]; omega, fun r hr => d _ _ (QL.step (c3.trans d4) (.laid c.xg.ok hr (hw.append d2) d3 d5.2))⟩
    · exact d5.elim
  · exact d5.elim
theorem catF_pe (c : Ctx S X G k) {p : Pos} {Wa Wb : Env → Mem → (List D → Mem → Prop) → Prop} (ha : PE X x (tWf G Wa)) (hb : PE X y (tWl G Wb)) :
    PE X (.BinOp x .Add y p) (tWf G fun en M Q => Wa en M fun xs M => Wb en M fun ys M => (xs ++ ys).length ≤ line ∧ Q (xs ++ ys) M) := by
  refine (pe_op op_cat ha hb).imp fun σ H Q ⟨env, M, Qd, a, b, w, d⟩ => ?_
  refine ⟨env, M, _, a, b, w, fun v H1 ⟨es, ws, q, M1, e0, c0, c1, cn, c2, c3, c4, c5⟩ => ⟨env, M1, _, a.mono c.xg.ok (c4.kpt b), c3, c5, fun u H2 ⟨ds, vs, p, M2, e, d1, d2, d3, d4, d5⟩ => ?_⟩⟩
  subst e e0
  obtain ⟨l1, l2⟩ := d4.keep q _ c1 cn nofun
  have hw := c2.mono c.xg.ok (d4.kpt c3)
  have hl := (hw.append d2).length
  rw [List.length_append (as := ws)] at hl
  exact ⟨q, p, ws, vs, rfl, rfl, l1, d1, by rw [← line_eq]; omega, fun r hr => d _ _ (QL.step (c4.trans d4) (.laid c.xg.ok hr (hw.append d2) d3 d5.2))⟩
/-! ### what is walked -/
theorem it_one {tg : Expr} {pins : List (Addr × Obj)} {σ : L2.St} {H : Hp} {s : Shared} {R : L2.It → Hp → Prop} {E : Value → Shared → Prop} {a : Addr} {vs : List V} (I : Inv X pins σ H s) (h : (SqL X.K H a vs ∧ R (Itl X.K a) H) ∨ (SqT X.K H a vs ∧ R (Itt X.K a) H)) :
    wpAny (model X.prog X.w) X.A (pyIter (.ref a)) (PIE X pins σ tg R) E s := by
  rcases h with ⟨hq, q⟩ | ⟨hq, q⟩
  · obtain ⟨its, rv, p, hz⟩ := I.list hq
    exact wpAny_pyIter_list p.isList (pi_one (tk := s.toks) I _ (turn_list a _) ⟨_, Heap.get?_push_size _ rfl, rfl, rfl⟩ q)
  · obtain ⟨its, rv, p, hz⟩ := I.tuple hq
    exact wpAny_pyIter_tuple (show s.heap.IsTuple a its.toArray from p) (pi_one (tk := s.toks) I _ (turn_tuple a _) ⟨_, Heap.get?_push_size _ rfl, rfl, rfl⟩ q)
def wSeqI (x : D) (M : Mem) (R : MP.It → Mem → Prop) : Prop := match x with
  | .tup ds => R ⟨ds, fun _ => True, id⟩ M
  | .ref p => (match M.rd p with | some (.lst ds) => R ⟨ds, fun M => M.rd p = some (.lst ds), id⟩ M | _ => False)
  | _ => False
theorem seqO_pi (c : Ctx S X G k) {tg : Expr} {W : Env → Mem → VQ → Prop} (h : PE X x (tW G W)) : PI X tg x (tWi X G fun en M R => W en M fun d M => wSeqI d M R) := by
  refine ⟨fun pins s σ H R I ⟨env, M, Rd, a, b, w, d⟩ => ?_⟩
  refine thn (h.run pins s σ H (QV G M H fun d M => wSeqI d M Rd) I ⟨env, M, _, a, b, w, fun _ _ q => q⟩) fun v s1 ⟨xv, H1, I1, r1, d1, M1, q1, q2, q3, q4⟩ => ?_
  dsimp only [wSeqI] at q4
  split at q4
  · rename_i ds
    obtain ⟨p, vs, rfl, sq, hv⟩ := q1
    rw [show v = _ from r1]
    rw [← c.xg.K] at sq
    exact it_one I1 (.inr ⟨sq, d _ _ _ _ _ (ir_tup c.xg sq hv) q2 q3 q4⟩)
  · rename_i p
    split at q4
    · rename_i ds e1
      obtain ⟨vs, hr, hv⟩ := q2.rdL e1
      rw [show xv = _ from q1] at r1
      rw [show v = _ from r1]
      exact it_one I1 (.inl ⟨.inl hr, d _ _ _ _ _ (ir_live c.xg) q2 q3 q4⟩)
    · exact q4.elim
  · exact q4.elim
theorem seqF_pi (c : Ctx S X G k) {tg : Expr} {W : Env → Mem → (List D → Mem → Prop) → Prop} (h : PE X x (tWf G W)) : PI X tg x (tWi X G fun en M R => W en M fun ds M => R ⟨ds, fun _ => True, id⟩ M) := by
  refine ⟨fun pins s σ H R I ⟨env, M, Rd, a, b, w, d⟩ => ?_⟩
  refine thn (h.run pins s σ H (QL G M H fun ds M => Rd ⟨ds, fun _ => True, id⟩ M) I ⟨env, M, _, a, b, w, fun _ _ q => q⟩) fun v s1 ⟨xv, H1, I1, r1, ds, vs, p, M1, e, h1, h2, h3, h4, h5, h6, q⟩ => ?_
  subst e
  rw [show v = _ from r1]
  exact it_one I1 (.inl ⟨.of h2, d _ _ _ _ _ (ir_own c.xg h2 h3 h4) h5 h6 q⟩)
def wLiveI (x : D) (M : Mem) (R : MP.It → Mem → Prop) : Prop := match x with
  | .ref p => (match M.rd p with | some (.lst ds) => R ⟨ds, fun M => M.rd p = some (.lst ds), id⟩ M | _ => False)
  | _ => False
theorem live_pi (c : Ctx S X G k) {tg : Expr} {W : Env → Mem → VQ → Prop} (h : PE X x (tW G W)) : PI X tg x (tWi X G fun en M R => W en M fun d M => wLiveI d M R) := by
  refine ⟨fun pins s σ H R I ⟨env, M, Rd, a, b, w, d⟩ => ?_⟩
  refine thn (h.run pins s σ H (QV G M H fun d M => wLiveI d M Rd) I ⟨env, M, _, a, b, w, fun _ _ q => q⟩) fun v s1 ⟨xv, H1, I1, r1, d1, M1, q1, q2, q3, q4⟩ => ?_
  dsimp only [wLiveI] at q4
  split at q4
  · rename_i p
    split at q4
    · rename_i ds e1
      obtain ⟨vs, hr, hv⟩ := q2.rdL e1
      rw [show xv = _ from q1] at r1
      rw [show v = _ from r1]
      exact it_one I1 (.inl ⟨.inl hr, d _ _ _ _ _ (ir_live c.xg) q2 q3 q4⟩)
    · exact q4.elim
  · exact q4.elim
def wRngI (x y : D) (M : Mem) (R : MP.It → Mem → Prop) : Prop := match x, y with
  | .int i, .int j => (small i ∧ i < 4611686018427387904 ∧ -4611686018427387904 ≤ i ∧ -4611686018427387904 ≤ j ∧ j < 4611686018427387904) ∧ R ⟨rangeD i j, fun _ => True, id⟩ M
  | _, _ => False
theorem rng2_pi (c : Ctx S X G k) {tg : Expr} {Wa Wb : Env → Mem → VQ → Prop} (h : asB S "range" e = some [x, y]) (ha : PE X x (tW G Wa)) (hb : PE X y (tW G Wb)) : PI X tg e (tWi X G fun en M R => Wa en M fun x M => Wb en M fun y M => wRngI x y M R) := by
  obtain ⟨⟨p, q, rfl⟩, h2, h3⟩ := asB_eq h
  obtain ⟨g1, g2⟩ := glB_of c h2
  simp only [List.all_cons, List.all_nil, Bool.and_true, Bool.and_eq_true] at h3
  refine ⟨fun pins s σ H R I ⟨env, M, Rd, a, b, w, d⟩ => ?_⟩
  refine (pi_range2 (X := X) (tg := tg) g1 (c.blt "range" (by decide)) (pa_cons ha (pa_cons hb pa_nil (star1 h3.2)) (star1 h3.1)) (by rw [star1 h3.1, star1 h3.2]; rfl) (by rw [star1 h3.2]; rfl)).run pins s σ H R I ?_
  refine ⟨env, M, _, a, b, w, fun v H1 ⟨dx, M1, c1, c2, c3, c4⟩ => ⟨env, M1, _, a.mono c.xg.ok (c3.kpt b), c2, c4, fun u H2 ⟨dy, M2, d1, d2, d3, d4⟩ => ?_⟩⟩
  dsimp only [wRngI] at d4
  split at d4
  · rw [show v = _ from c1, show u = _ from d1]
    obtain ⟨⟨_, z1, z2, z3, z4⟩, d4⟩ := d4
    exact ⟨_, _, rfl, ⟨by omega, by omega, by omega, by omega⟩, d _ _ [] _ _ ir_rng d2 (c3.trans d3) d4⟩
  · exact d4.elim
theorem rng1_pi (c : Ctx S X G k) {tg : Expr} {Wb : Env → Mem → VQ → Prop} (h : asB S "range" e = some [y]) (hb : PE X y (tW G Wb)) : PI X tg e (tWi X G fun en M R => Wb en M fun y M => wRngI (.int 0) y M R) := by
  obtain ⟨⟨p, q, rfl⟩, h2, h3⟩ := asB_eq h
  obtain ⟨g1, g2⟩ := glB_of c h2
  simp only [List.all_cons, List.all_nil, Bool.and_true, Bool.and_eq_true] at h3
  refine ⟨fun pins s σ H R I ⟨env, M, Rd, a, b, w, d⟩ => ?_⟩
  refine (pi_range1 (X := X) (tg := tg) g1 (c.blt "range" (by decide)) (pa_cons hb pa_nil (star1 h3)) (by rw [star1 h3]; rfl)).run pins s σ H R I ?_
  refine ⟨env, M, _, a, b, w, fun u H2 ⟨dy, M2, d1, d2, d3, d4⟩ => ?_⟩
  dsimp only [wRngI] at d4
  split at d4
  · rename_i i j e1
    cases e1
    rw [show u = _ from d1]
    obtain ⟨⟨_, z1, z2, z3, z4⟩, d4⟩ := d4
    have := d _ _ [] _ _ (ir_rng (X := X) (G := G) (i := 0) (j := j) (M0 := M) (H0 := H) (M1 := M2) (H1 := H2)) d2 d3 d4
    rw [show (j - 0).toNat = j.toNat by simp] at this
    exact ⟨j, rfl, by omega, by omega, this⟩
  · exact d4.elim
end
end
end MP
end
section
/-! MP28: enumerate over a tuple or a list; a dict's keys walked. -/
namespace MPE
open PySem
open Sem (wp)
open AutoSeq1 (wpAny_loadPart')
set_option maxHeartbeats 1000000 in
theorem new_begun {v : Value} {o : Obj} {Hh : Heap → Prop} (B : Begins v o Hh) : Meets (Builtin.«enumerate.__new__» ⟨[.type "enumerate", v], []⟩) (fun _ R s => Hh s.heap ∧ R (.ok (.ret (.ref (s.heap.push o).objs.size))) { s with heap := (s.heap.push o).push { cls := .type "enumerate", data := .fields #[.none, .bool false, .ref s.heap.objs.size, rawInt 0, .none, .none] } }) :=
  .of_wp fun pr w A R s ht => by
    obtain ⟨hp, g, d, tk, os⟩ := s
    obtain ⟨h1, ht⟩ := ht
    have hsub := sub_enumerate
    have q1 : ∀ {A' : Around} {EE : Value → Shared → Prop} {Q : Value → Shared → Prop}, Q (.ref hp.objs.size) ⟨hp.push o, g, d, tk, os⟩ → wpAny (model pr w) A' (pyIter v) Q EE ⟨hp, g, d, tk, os⟩ := fun q => B.iter pr w _ _ ⟨hp, g, d, tk, os⟩ _ h1 q
    wp_walk using q1
    refine wpAny_stack_any fun st => wpAny_pure ?_
    split
    · rename_i c _ _ _ _ _
      cases (c == Value.type "enumerate") <;> (wp_walk using q1; exact ⟨_, rfl, ht⟩)
    · wp_walk using q1
      exact ⟨_, rfl, ht⟩
theorem call_begun {pr : Program} {w : World} {A : Around} {EE : Value → Shared → Prop} {s : Shared} {v : Value} {o : Obj} {Hh : Heap → Prop} {Q : Value → Shared → Prop} (B : Begins v o Hh) (h1 : Hh s.heap)
    (ht : ∀ h', IsEnum h' (s.heap.objs.size + 1) s.heap.objs.size 0 .none → h'.get? s.heap.objs.size = some o → h'.objs.size = s.heap.objs.size + 2 → (∀ b u, s.heap.get? b = some u → h'.get? b = some u) → Q (.ref (s.heap.objs.size + 1)) { s with heap := h' }) :
    wpAny (model pr w) A (call (.type "enumerate") [v]) Q EE s := by
  refine callType_new F.called_enumerate (by decide) (F.typeCall_enumerate_1 _) (F.newCall_enumerate_1 _) (fun x => F.args_object_init_2 x _) F.entry_enumerate_new (new_begun B) ⟨h1, ?_⟩
  have z : (s.heap.push o).objs.size = s.heap.objs.size + 1 := Heap.size_push ..
  show _ ∧ _
  rw [z]
  have he : IsEnum ((s.heap.push o).push { cls := .type "enumerate", data := .fields #[.none, .bool false, .ref s.heap.objs.size, rawInt 0, .none, .none] }) (s.heap.objs.size + 1) s.heap.objs.size 0 .none := by
    have q := Heap.get?_push_size (s.heap.push o) (o := { cls := .type "enumerate", data := .fields #[.none, .bool false, .ref s.heap.objs.size, rawInt 0, .none, .none] }) rfl
    rw [z] at q
    exact q
  exact ⟨⟨_, he, rfl⟩, ht _ he (Heap.get?_push_of_some _ (Heap.get?_push_size _ B.free)) (by rw [Heap.size_push, z]) fun b u x => Heap.get?_push_of_some _ (Heap.get?_push_of_some _ x)⟩
end MPE
namespace MP
open PySem PySem.Spec L2
/-! ### enumerate of a tuple -/
def ItE (K : PySem.W.Frag) (a : Addr) : L2.It where
  go i H := ∃ (xs : List V) (x : V), SqT K H a xs ∧ xs[i]? = some x
  yld i H v H' := ∃ T x, v = .ref T ∧ H T = none ∧ H' = upd H T (.tup [.int (i : Nat), x]) ∧ ∀ xs, SqT K H a xs → xs[i]? = some x
  stop i H := ∃ xs : List V, SqT K H a xs ∧ xs.length ≤ i
theorem turnE {P : Program} {w : World} {K : PySem.W.Frag} {elts : List Expr} {kk : Nat} {tp : Pos} (a e it : Addr) :
    Turn P w K (.Tuple elts kk tp) (ItE K a) [e, it] e (fun i h => (∃ old, IsEnum h e it ((i : Nat) : Int) old) ∧ h.IsTupleIter it a i ∧ e ≠ it ∧ a ≠ it ∧ a ≠ e) where
  mem := by simp
  obj i h st b hb := by
    obtain ⟨⟨old, he⟩, ⟨o, ho, hc, hd⟩, _⟩ := st
    rcases (by simpa using hb : b = e ∨ b = it) with rfl | rfl
    · exact ⟨_, he, fun v q => nomatch q⟩
    · exact ⟨o, ho, fun v q => by rw [hd] at q; cases q⟩
  keep i h h' st k := by
    obtain ⟨⟨old, he⟩, hi, hne⟩ := st
    exact ⟨⟨old, k e (by simp) _ he⟩, hi.at fun o q => k it (by simp) o q, hne⟩
  item := by
    intro X hP hw hK hc i pins s σ H E I hf st hg
    subst hP hw hK
    obtain ⟨⟨old, he⟩, hit, hne, hai, hae⟩ := st
    obtain ⟨xs, x, hq, hx⟩ := hg
    obtain ⟨its, rv, p, hz⟩ := I.tuple hq
    obtain ⟨u, hu, ru⟩ := rv.get hx
    have hel : e < s.heap.objs.size := Heap.lt_size he
    have hil : it < s.heap.objs.size := by obtain ⟨_, q, _⟩ := hit; exact Heap.lt_size q
    have hi : i < its.toArray.size := by rw [List.size_toArray]; exact (List.getElem?_eq_some_iff.mp hu).1
    have hT : s.heap.IsTuple a its.toArray := p
    refine wpAny_pyNext_enum_itemD (Draws.tuple (A := X.A.in1) (I.ok.hd hc) it a hai its.toArray) he ⟨hit, hT⟩ hi hne (by simp [hne, Ne.symm hae]) fun x' h' tk hx' ho hst hTu hsz hk => ?_
    have ex : x' = u := by
      rw [List.getElem?_toArray, hu] at hx'
      exact (Option.some.inj hx').symm
    subst ex
    refine ⟨_, rfl, wpAny_letOwnedTupleGo_enum (s := { s with heap := h', toks := tk + 1 }) ho fun h2 he2 sb => ?_⟩
    have hT2 : h2.get? s.heap.objs.size = some { cls := .type "tuple", data := .seq #[.int i tk, x'] } := (sb.2 _ (Nat.ne_of_gt hel)).trans hTu
    have new : ObjOk X.prog X.w (upd H s.heap.objs.size (.tup [.int (i : Nat), x])) h2 s.heap.objs.size (.tup [.int (i : Nat), x]) :=
      ⟨by show 2 ≤ sizeLine; decide, [.int i tk, x'], .cons ⟨_, rfl⟩ (.cons ru .nil), ⟨_, hT2, rfl, _, rfl⟩⟩
    have I1 : Inv X pins σ (upd H s.heap.objs.size (.tup [.int (i : Nat), x])) { s with heap := h2, toks := tk + 1 } :=
      I.turnedNew (ch := [e, it]) (fun b ob hb q => (sb.2 b (fun z => hb (by simp [z]))).trans (hk b ob (fun z => hb (by simp [z])) (fun z => hb (by simp [z])) q)) hf (Nat.le_refl _) new
    refine ⟨.ref s.heap.objs.size, _, I1, rfl, ⟨_, x, rfl, I.hok.fresh (Nat.le_refl _), rfl, fun ys hy => by rw [I.tuple_inj hy hq]; exact hx⟩, ⟨⟨x', ?_⟩, hst.1.at fun o q => (sb.2 it (Ne.symm hne)).trans q, hne, hai, hae⟩, fun b hb => ?_⟩
    · rw [show ((i + 1 : Nat) : Int) = (i : Int) + 1 by omega]
      exact he2
    · have lt : b < s.heap.objs.size := by
        rcases (by simpa using hb : b = e ∨ b = it) with rfl | rfl
        · exact hel
        · exact hil
      rw [upd_ne (Nat.ne_of_lt lt)]
      exact (hf b hb).1
  done := by
    intro X hP hw hK hc i pins s σ H E I hf st hg
    subst hP hw hK
    obtain ⟨⟨old, he⟩, hit, hne, hai, hae⟩ := st
    obtain ⟨xs, hq, hx⟩ := hg
    obtain ⟨its, rv, p, hz⟩ := I.tuple hq
    obtain ⟨f0, f1, f2, f3, f4, f5⟩ := hf it (by simp)
    have hT : s.heap.IsTuple a its.toArray := p
    have hl := rv.length
    by_cases hi : i = its.toArray.size
    · subst hi
      exact wpAny_pyNext_enum_endD (Draws.tuple (A := X.A.in1) (I.ok.hd hc) it a hai its.toArray) he ⟨hit, hT⟩ fun h' eb => ⟨rfl, I.turned (t' := s.toks) (fun b o hb q => eb b o hb q) f0 f1 f3 f4 f5⟩
    · -- further than the end: the same look
      have D : Draws X.prog X.w X.A.in1 it [it, a] i (fun j v => its.toArray[j]? = some v) (fun j h => h.IsTupleIter it a j ∧ h.IsTuple a its.toArray ∧ j = i) := by
        refine ⟨fun _ _ st => let ⟨o, ho, _⟩ := st.1; ⟨o, ho⟩, fun _ _ _ st hk => ⟨st.1.at fun o e => hk it (by simp) o e, st.2.1.at fun o e => hk a (by simp) o e, st.2.2⟩, fun j s' Q E hj st hQ => ?_, fun s' Q E st hE => ?_⟩
        · exact absurd st.2.2 (Nat.ne_of_lt hj)
        · exact wpAny_nextOf_tuple_end (I.ok.hd hc) st.1 st.2.1 (Array.getElem?_eq_none (by rw [List.size_toArray]; omega)) hE
      exact wpAny_pyNext_enum_endD D he ⟨hit, hT, rfl⟩ fun h' eb => ⟨rfl, I.turned (t' := s.toks) (fun b o hb q => eb b o hb q) f0 f1 f3 f4 f5⟩
  self A i s Q E st h := by
    obtain ⟨⟨_, he⟩, _⟩ := st
    exact wpAny_pyIter_enum he h
section
variable {S : Sx} {X : Cx} {G : Gx} {k : Nat} {e x y z : Expr}
theorem enumD_len : ∀ (n : Nat) (ds : List D), (enumD n ds).length = ds.length
  | _, [] => rfl
  | n, d :: ds => by rw [enumD, List.length_cons, List.length_cons, enumD_len (n + 1) ds]
theorem enumD_get : ∀ (ds : List D) (n i : Nat) (d : D), ds[i]? = some d → (enumD n ds)[i]? = some (.tup [.int ((n + i : Nat) : Int), d])
  | [], _, _, _, h => by simp at h
  | d0 :: ds, n, 0, d, h => by
    simp at h; subst h; rfl
  | d0 :: ds, n, i + 1, d, h => by
    rw [enumD, List.getElem?_cons_succ, enumD_get ds (n + 1) i d (by simpa using h)]
    rw [show n + 1 + i = n + (i + 1) by omega]
theorem rv_pair {H : Hp} {T : Addr} {i : Nat} {d : D} {v : V} (g : GOk G) (hT : H T = none) (h : RV G H d v) : RV G (upd H T (.tup [.int (i : Nat), v])) (.tup [.int ((i : Nat) : Int), d]) (.ref T) := by
  have kp : Kpt H (upd H T (.tup [.int (i : Nat), v])) := .new hT
  exact ⟨T, [.int (i : Nat), v], rfl, .inl (.inl upd_same), .int (i : Nat), [v], rfl, rfl, v, [], rfl, h.mono g kp, rfl⟩
theorem ir_enumT {ds : List D} {vs : List V} {p : Addr} {M0 M1 : Mem} {H0 H1 : Hp} (g : XG X G k) (hp : SqT X.K H1 p vs) (hv : RVs G H1 ds vs) : IR X G ⟨enumD 0 ds, fun _ => True, id⟩ (ItE X.K p) [] M0 H0 M1 H1 := by
  refine ⟨fun b hb => (by cases hb), fun i M H hi s kp r _ => ?_, fun M H s kp r _ => ?_, fun i M H x H' s kp r _ yy hi => ?_, IR.fin_id rfl⟩
  · rw [enumD_len] at hi
    obtain ⟨v, hv'⟩ := hv.some hi
    exact ⟨vs, v, kp.sqt hp, hv'⟩
  · refine ⟨vs, kp.sqt hp, ?_⟩
    show vs.length ≤ (enumD 0 ds).length
    rw [enumD_len, hv.length]
    exact Nat.le_refl _
  · obtain ⟨T, v, rfl, hT, rfl, h2⟩ := yy
    obtain ⟨d, e1, e2⟩ := hv.get' (h2 vs (kp.sqt hp))
    refine ⟨.tup [.int (i : Nat), d], ?_, rv_pair g.ok hT (e2.mono g.ok kp), r.new g.ok hT, .new r hT, fun b o eb => ?_⟩
    · have := enumD_get ds 0 i d e1
      rw [Nat.zero_add] at this
      exact this
    · rw [upd_ne (ne_of_none eb hT)]; exact eb
theorem ir_enumL {ds : List D} {p : Addr} {M0 M1 : Mem} {H0 H1 : Hp} (g : XG X G k) : IR X G ⟨enumD 0 ds, fun M => M.rd p = some (.lst ds), id⟩ (Ite X.K p) [] M0 H0 M1 H1 := by
  refine ⟨fun b hb => (by cases hb), fun i M H hi s kp r ok => ?_, fun M H s kp r ok => ?_, fun i M H x H' s kp r ok yy hi => ?_, IR.fin_id rfl⟩
  · obtain ⟨vs, hr, hv⟩ := r.rdL ok
    rw [enumD_len] at hi
    obtain ⟨v, hv'⟩ := hv.some hi
    exact ⟨vs, v, .inl hr, hv'⟩
  · obtain ⟨vs, hr, hv⟩ := r.rdL ok
    refine ⟨vs, .inl hr, ?_⟩
    show vs.length ≤ (enumD 0 ds).length
    rw [enumD_len, hv.length]
    exact Nat.le_refl _
  · obtain ⟨vs, hr, hv⟩ := r.rdL ok
    obtain ⟨T, v, rfl, hT, rfl, h2⟩ := yy
    obtain ⟨d, e1, e2⟩ := hv.get' (h2 vs (.inl hr))
    refine ⟨.tup [.int (i : Nat), d], ?_, rv_pair g.ok hT e2, r.new g.ok hT, .new r hT, fun b o eb => ?_⟩
    · have := enumD_get ds 0 i d e1
      rw [Nat.zero_add] at this
      exact this
    · rw [upd_ne (ne_of_none eb hT)]; exact eb
def wEnumI (x : D) (M : Mem) (R : MP.It → Mem → Prop) : Prop := wSeqI x M fun J M => R ⟨enumD 0 J.ds, J.ok, J.fin⟩ M
theorem enum_pi (c : Ctx S X G k) {elts : List Expr} {kk : Nat} {tp : Pos} {W : Env → Mem → VQ → Prop} (h : asB S "enumerate" e = some [x]) (ha : PE X x (tW G W)) : PI X (.Tuple elts kk tp) e (tWi X G fun en M R => W en M fun d M => wEnumI d M R) := by
  obtain ⟨⟨p, q, rfl⟩, h2, h3⟩ := asB_eq h
  obtain ⟨g1, g2⟩ := glB_of c h2
  have h4 : notStar x = true := by simpa using h3
  refine ⟨fun pins s σ H R I ⟨env, M, Rd, a, b, w, d⟩ => ?_⟩
  refine PyProof.Rows.Call_ (ld_blt I g1 (c.blt "enumerate" (by decide)) PyProof.Rows.boot_enumerate (PyProof.Rows.callWith_type1 (thn ((pa_cons ha pa_nil (star1 h4)).run q pins s σ H (fun vs H' => ∃ v, vs = [v] ∧ QV G M H (fun d M => wEnumI d M Rd) v H') I ⟨env, M, _, a, b, w, fun v H' qq => ⟨v, rfl, qq⟩⟩) fun us s1 ⟨vs, H1, I1, r1, v, ev, d1, M1, q1, q2, q3, q4⟩ => ?_) (star1 h4) rfl))
  subst ev
  cases r1 with
  | @cons _ u _ _ r rr =>
    cases rr
    dsimp only [wEnumI, wSeqI] at q4
    split at q4
    · rename_i ds
      obtain ⟨pp, vs, rfl, sq, hv⟩ := q1
      rw [show u = _ from r]
      rw [← c.xg.K] at sq
      obtain ⟨its, rv, pt, hz⟩ := I1.tuple sq
      have hT : s1.heap.IsTuple pp its.toArray := pt
      have lp : pp < s1.heap.objs.size := by obtain ⟨o, ho, _⟩ := id hT; exact Heap.lt_size ho
      refine MPE.call_begun (begins_tuple pp its.toArray) hT fun h' he hit hsz hk => wpAny_pyIter_enum he ?_
      have I2 : Inv X pins σ H1 { s1 with heap := h' } := I1.kept (t' := s1.toks) hk
      refine ⟨s1.heap.objs.size + 1, [s1.heap.objs.size + 1, s1.heap.objs.size], _, _, H1, rfl, I2, turnE pp (s1.heap.objs.size + 1) s1.heap.objs.size, ⟨⟨.none, he⟩, ⟨_, hit, rfl, rfl⟩, Nat.succ_ne_self _, Nat.ne_of_lt lp, Nat.ne_of_lt (Nat.lt_succ_of_lt lp)⟩, fun b hb => ?_, d _ _ _ _ _ (ir_enumT c.xg sq hv) q2 q3 q4⟩
      have hle : s1.heap.objs.size ≤ b := by
        rcases (by simpa using hb : b = s1.heap.objs.size + 1 ∨ b = s1.heap.objs.size) with rfl | rfl
        · exact Nat.le_succ _
        · exact Nat.le_refl _
      exact I1.fpOk hle (I1.hok.fresh hle)
    · rename_i pp
      split at q4
      · rename_i ds e1
        obtain ⟨vs, hr, hv⟩ := q2.rdL e1
        rw [show v = _ from q1] at r
        rw [show u = _ from r]
        obtain ⟨its, rv, pt, hz⟩ := I1.list (xs := vs) (.inl hr)
        refine MPE.call_begun (begins_list pp its.toArray) pt.isList fun h' he hit hsz hk => wpAny_pyIter_enum he ?_
        have I2 : Inv X pins σ H1 { s1 with heap := h' } := I1.kept (t' := s1.toks) hk
        refine ⟨s1.heap.objs.size + 1, [s1.heap.objs.size + 1, s1.heap.objs.size], _, _, H1, rfl, I2, turn_enum pp (s1.heap.objs.size + 1) s1.heap.objs.size, ⟨⟨.none, he⟩, ⟨_, hit, rfl, rfl⟩, Nat.succ_ne_self _⟩, fun b hb => ?_, d _ _ _ _ _ (ir_enumL c.xg) q2 q3 q4⟩
        have hle : s1.heap.objs.size ≤ b := by
          rcases (by simpa using hb : b = s1.heap.objs.size + 1 ∨ b = s1.heap.objs.size) with rfl | rfl
          · exact Nat.le_succ _
          · exact Nat.le_refl _
        exact I1.fpOk hle (I1.hok.fresh hle)
      · exact q4.elim
    · exact q4.elim
end
end MP
end
section
/-! MP29: a dict's keys walked. -/
namespace MP
open PySem PySem.Spec L2
/-- the keys of the locked dict at d -/
def ItK (d : Addr) (o : Obj) (ks : List V) : L2.It where
  go i H := (∃ u, H d = some (.frz o u)) ∧ i < ks.length
  yld i H x H' := H' = H ∧ ks[i]? = some x
  stop i H := (∃ u, H d = some (.frz o u)) ∧ ks.length ≤ i
theorem frzAt {X : Cx} {pins : List (Addr × Obj)} {σ : L2.St} {H : Hp} {s : Shared} {d : Addr} {o : Obj} (I : Inv X pins σ H s) (h : ∃ u, H d = some (.frz o u)) : s.heap.get? d = some o := by
  obtain ⟨u, h⟩ := h
  exact (I.hok d _ h).1
theorem turnK {P : Program} {w : World} {K : PySem.W.Frag} {tg : Expr} {d it : Addr} {o : Obj} {es : Array DictEntry} {ep : Nat} {ks : List V} (hx : o.ExactDict) (hod : o.data = .dict es ep) (hl : es.size = ks.length) (hr : ∀ (i : Nat) (v : V), ks[i]? = some v → ∃ en : DictEntry, es[i]? = some en ∧ RelV v en.key) :
    Turn P w K tg (ItK d o ks) [it] it (fun i h => h.IsKeyIter it d i es.size ep) where
  mem := by simp
  obj i h st b hb := by
    rw [show b = it by simpa using hb]
    obtain ⟨oi, e, c, dd⟩ := st
    exact ⟨oi, e, fun v z => by rw [dd] at z; cases z⟩
  keep i h h' st k := st.at fun oi e => k it (by simp) oi e
  item := by
    intro X hP hw hK hc i pins s σ H E I hf st hg
    subst hP hw hK
    obtain ⟨hd, hi⟩ := hg
    obtain ⟨f0, f1, f2, f3, f4, f5⟩ := hf it (by simp)
    have hgd := frzAt I hd
    have hm : s.heap.DictRaw d es ep := ⟨o, hgd, hx, hod⟩
    have hks : ks[i]? = some ks[i] := List.getElem?_eq_getElem hi
    obtain ⟨en, e1, e2⟩ := hr i _ hks
    have hlt : i < es.size := by rw [hl]; exact hi
    have een : es[i] = en := by
      rw [Array.getElem?_eq_getElem hlt] at e1
      exact Option.some.inj e1
    refine wpAny_pyNext_keys_item_raw st hm hlt fun h' st' sb => ?_
    have I1 : Inv X pins σ H { s with heap := h' } := I.turned (t' := s.toks) (fun b ob hb e => (sb.2 b hb).trans e) f0 f1 f3 f4 f5
    obtain ⟨oi, e, c, dd⟩ := id st'
    exact ⟨es[i].key, rfl, go_of (s := { s with heap := h' }) e c dd (by decide) ⟨ks[i], H, I1, by rw [een]; exact e2, ⟨rfl, hks⟩, st', fun b hb => (hf b hb).1⟩⟩
  done := by
    intro X hP hw hK hc i pins s σ H E I hf st hg
    subst hP hw hK
    obtain ⟨hd, hi⟩ := hg
    obtain ⟨f0, f1, f2, f3, f4, f5⟩ := hf it (by simp)
    have hm : s.heap.DictRaw d es ep := ⟨o, frzAt I hd, hx, hod⟩
    exact wpAny_pyNext_keys_end_raw (I.ok.hd hc) st hm (by rw [hl]; exact hi) fun h' eb => ⟨rfl, I.turned (t' := s.toks) (fun b ob hb e => eb b ob hb e) f0 f1 f3 f4 f5⟩
  self A i s Q E st h := wpAny_pyIter_keyiter st h
section
variable {S : Sx} {X : Cx} {G : Gx} {k : Nat} {e x y z : Expr}
theorem RX.kl {H : Hp} : ∀ {kvs : List (D × D)} {xs : XS}, RX G H kvs xs → ∃ ks : List V, ks.length = kvs.length ∧ (∀ (i : Nat) (v : V), ks[i]? = some v → ∃ z : NestedKey × Value × Value, xs[i]? = some z ∧ RelV v z.2.1) ∧ ∀ (i : Nat) (v : V), ks[i]? = some v → ∃ p : D × D, kvs[i]? = some p ∧ RV G H p.1 v
  | [], _, h => ⟨[], rfl, fun i v e => by simp at e, fun i v e => by simp at e⟩
  | p :: kvs, _, h => by
    obtain ⟨kv, vv, ku, vu, r, rfl, a, b, c, d, f⟩ := h
    obtain ⟨ks, e1, e2, e3⟩ := RX.kl f
    refine ⟨kv :: ks, by simp [e1], fun i v e => ?_, fun i v e => ?_⟩
    · cases i with
      | zero => simp at e; subst e; exact ⟨_, rfl, a⟩
      | succ i => simpa using e2 i v (by simpa using e)
    · cases i with
      | zero => simp at e; subst e; exact ⟨p, rfl, b⟩
      | succ i => simpa using e3 i v (by simpa using e)
/-- a locked dict's keys, whoever locked it -/
theorem ir_keysF {kvs : List (D × D)} {p : Addr} {M0 M1 : Mem} {H0 H1 : Hp} {o : Obj} {u : HO} {ks : List V} {fin : Mem → Mem} (g : XG X G k) (hp : H1 p = some (.frz o u)) (hm : M1 p = some (.frz (.dct kvs))) (hl : ks.length = kvs.length) (hk : ∀ (i : Nat) (v : V), ks[i]? = some v → ∃ q : D × D, kvs[i]? = some q ∧ RV G H1 q.1 v)
    (hfin : ∀ (pins : List (Addr × Obj)) (σ : L2.St) (M : Mem) (H : Hp) (s : Shared), Inv X pins σ H s → Same [p] M1 H1 M H → RM G H M → Stp M0 H0 M H → ∃ H2, Inv X pins σ H2 s ∧ RM G H2 (fin M) ∧ Stp M0 H0 (fin M) H2 ∧ Kpt H H2 ∧ ∀ b, b ∉ [p] → H2 b = H b ∧ (fin M) b = M b) :
    IR X G ⟨kvs.map (·.1), fun _ => True, fin⟩ (ItK p o ks) [p] M0 H0 M1 H1 := by
  refine ⟨fun b hb => ?_, fun i M H hi s kp r _ => ?_, fun M H s kp r _ => ?_, fun i M H x H' s kp r _ yy hi => ?_, hfin⟩
  · rw [show b = p by simpa using hb]
    exact .inr ⟨_, _, hm, hp⟩
  · exact ⟨⟨u, ((s p (by simp)).1).trans hp⟩, by rw [hl]; simpa using hi⟩
  · refine ⟨⟨u, ((s p (by simp)).1).trans hp⟩, ?_⟩
    show ks.length ≤ (kvs.map (·.1)).length
    rw [hl, List.length_map]
    exact Nat.le_refl _
  · obtain ⟨rfl, e⟩ := yy
    obtain ⟨q, e1, e2⟩ := hk i _ e
    exact ⟨q.1, by rw [List.getElem?_map, e1]; rfl, e2.mono g.ok kp, r, .refl _ _, fun _ _ z => z⟩
def wKeysI (x : D) (M : Mem) (R : MP.It → Mem → Prop) : Prop := match x with
  | .ref p => (match M.rd p with | some (.dct kvs) => R ⟨kvs.map (·.1), fun _ => True, M.thawer p⟩ (M.freeze p) | _ => False)
  | _ => False
theorem Kpt.frzE {H : Hp} {p : Addr} {o : Obj} {φ : Heap → Prop} (h : H p = some (.frz o (.ext φ))) : Kpt H (upd H p (.ext φ)) := by
  refine ⟨fun b ys e => ?_, fun b o ys e => ?_, fun b o e => ?_, fun b q e => ?_⟩
  all_goals
    rw [upd_ne]
    · exact e
    · rintro rfl
      rw [h] at e
      cases e
theorem Kpt.lockE {H : Hp} {p : Addr} {o : Obj} {es : Array DictEntry} {ep : Nat} (h : H p = some (.ext fun h => h.DictRaw p es ep)) : Kpt H (upd H p (.frz o (.ext fun h => h.DictRaw p es ep))) := by
  refine ⟨fun b ys e => ?_, fun b o ys e => ?_, fun b o e => ?_, fun b q e => ?_⟩
  · rw [upd_ne]; exact e
    rintro rfl; rw [h] at e; cases e
  · rw [upd_ne]; exact e
    rintro rfl; rw [h] at e; cases e
  · rw [upd_ne]; exact e
    rintro rfl; rw [h] at e; cases e
  · rw [upd_ne]; exact e
    rintro rfl
    rw [h] at e
    exact absurd (Option.some.inj e) dict_ne_code
theorem keys_pi (c : Ctx S X G k) {tg : Expr} {W : Env → Mem → VQ → Prop} (h : PE X x (tW G W)) : PI X tg x (tWi X G fun en M R => W en M fun d M => wKeysI d M R) := by
  refine ⟨fun pins s σ H R I ⟨env, M, Rd, a, b, w, d⟩ => ?_⟩
  refine thn (h.run pins s σ H (QV G M H fun d M => wKeysI d M Rd) I ⟨env, M, _, a, b, w, fun _ _ q => q⟩) fun v s1 ⟨xv, H1, I1, r1, d1, M1, q1, q2, q3, q4⟩ => ?_
  dsimp only [wKeysI] at q4
  split at q4
  · rename_i p
    split at q4
    · rename_i kvs e1
      rw [show xv = _ from q1] at r1
      rw [show v = _ from r1]
      -- what is needed of the dict's object
      have go : ∀ {H2 : Hp} {o : Obj} {xs : XS} {es : Array DictEntry} {ep : Nat} {fin : Mem → Mem} {M2 : Mem}, Inv X pins σ H2 s1 → H2 p = some (.frz o (.ext fun h => h.DictRaw p es ep)) → (p == sysModules) = false → es.toList = xs.map (ent G.w) → RX G H2 kvs xs →
          (∀ {ks : List V}, ks.length = kvs.length → (∀ (i : Nat) (v : V), ks[i]? = some v → ∃ q : D × D, kvs[i]? = some q ∧ RV G H2 q.1 v) → R (ItK p o ks) H2) → wpAny (model X.prog X.w) X.A (pyIter (.ref p)) (PIE X pins σ tg R) X.xe s1 := by
        intro H2 o xs es ep fin M2 I2 hp hsy hes rx hR
        obtain ⟨hgd, hφ⟩ := I2.hok p _ hp
        have hraw : s1.heap.DictRaw p es ep := hφ.1
        obtain ⟨o', ho', hx', hd'⟩ := id hraw
        rw [hgd] at ho'
        cases ho'
        obtain ⟨ks, k1, k2, k3⟩ := rx.kl
        have hsz : es.size = xs.length := ent_size hes
        have hln : xs.length = ks.length := by rw [k1, rx.length]
        refine wpAny_pyIter_dict_raw hsy hraw (pi_one (tk := s1.toks) I2 _ (turnK (d := p) (o := o) (ks := ks) hx' hd' (hsz.trans hln) fun i v ev => ?_) ⟨_, Heap.get?_push_size _ rfl, rfl, rfl⟩ (hR k1 k3))
        obtain ⟨z, z1, z2⟩ := k2 i v ev
        exact ⟨ent G.w z, by rw [ent_at hes, z1]; rfl, z2⟩
      -- locked already, or locked now
      unfold Mem.rd at e1
      cases qm : M1 p with
      | none => rw [qm] at e1; cases e1
      | some m =>
        rw [qm] at e1
        obtain ⟨u, hu, ru⟩ := q2 p m qm
        cases m with
        | frz m0 =>
          cases e1
          obtain ⟨o, u', rfl, ru'⟩ := ru
          obtain ⟨xs, es, ep, rfl, e2, rx, hsy, hln, hok, nd⟩ := ru'
          have ef : M1.freeze p = M1 := by unfold Mem.freeze; rw [qm]
          have et : M1.thawer p = id := by unfold Mem.thawer; rw [qm]
          rw [ef, et] at q4
          exact go (fin := id) (M2 := M1) I1 hu hsy e2 rx fun k1 k3 => d _ _ [p] _ _ (ir_keysF c.xg hu qm k1 k3 (IR.fin_id (I := ⟨[], fun _ => True, id⟩) rfl)) q2 q3 q4
        | dct kk =>
          cases e1
          obtain ⟨xs, es, ep, rfl, e2, rx, hsy, hln, hok, nd⟩ := ru
          have ef : M1.freeze p = M1.set p (.frz (.dct kvs)) := by unfold Mem.freeze; rw [qm]
          have et : M1.thawer p = fun N => N.thaw p := by unfold Mem.thawer; rw [qm]
          rw [ef, et] at q4
          obtain ⟨od, I2⟩ := I1.lock hu trivial
          have nf := I1.nofrz hu trivial
          have kl := Kpt.lockE (o := od) hu
          have rm2 : RM G (upd H1 p (.frz od (.ext fun h => h.DictRaw p es ep))) (M1.set p (.frz (.dct kvs))) := by
            refine ⟨fun b m e => ?_, Tabs.at q2.tab (fun b ps e => by rw [upd_ne fun z => by rw [z, hu] at e; cases e]; exact e) kl.cod⟩
            by_cases hb : b = p
            · subst hb
              rw [Mem.set_same] at e
              cases e
              exact ⟨_, upd_same, od, _, rfl, xs, es, ep, rfl, e2, rx.mono c.xg.ok kl, hsy, hln, hok, nd⟩
            · rw [Mem.set_ne _ _ hb] at e
              obtain ⟨u, e3, ru⟩ := q2 b m e
              exact ⟨u, by rw [upd_ne hb]; exact e3, ru.mono c.xg.ok kl⟩
          have st2 : Stp M H (M1.set p (.frz (.dct kvs))) (upd H1 p (.frz od (.ext fun h => h.DictRaw p es ep))) := by
            refine ⟨fun b o e n t => ?_, fun b e => ?_, fun b m e => ?_⟩
            · obtain ⟨e3, n3⟩ := q3.keep b o e n t
              have hb : b ≠ p := fun z => by rw [z, qm] at n3; cases n3
              exact ⟨by rw [upd_ne hb]; exact e3, by rw [Mem.set_ne _ _ hb]; exact n3⟩
            · by_cases hb : b = p
              · rw [hb, upd_same] at e; cases e
              · rw [upd_ne hb] at e; exact q3.grow b e
            · obtain ⟨e3, n3⟩ := q3.frz b m e
              have hb : b ≠ p := fun z => by rw [z, qm] at n3; cases n3
              exact ⟨by rw [upd_ne hb]; exact e3, by rw [Mem.set_ne _ _ hb]; exact n3⟩
          refine go (fin := fun N => N.thaw p) (M2 := M1.set p (.frz (.dct kvs))) I2 upd_same hsy e2 (rx.mono c.xg.ok kl) fun k1 k3 => d _ _ [p] _ _ (ir_keysF c.xg upd_same (Mem.set_same _ _ _) k1 k3 ?_) rm2 st2 q4
          intro pins' σ' M' H' s' I' sm rm' st'
          obtain ⟨s1, s2⟩ := sm p (by simp)
          rw [upd_same] at s1
          rw [Mem.set_same] at s2
          have et2 : M'.thaw p = M'.set p (.dct kvs) := by unfold Mem.thaw; rw [s2]
          have kf := Kpt.frzE s1
          show ∃ H2, Inv X pins' σ' H2 s' ∧ RM G H2 (M'.thaw p) ∧ Stp M H (M'.thaw p) H2 ∧ Kpt H' H2 ∧ ∀ b, b ∉ [p] → H2 b = H' b ∧ (M'.thaw p) b = M' b
          rw [et2]
          refine ⟨upd H' p (.ext fun h => h.DictRaw p es ep), I'.unlock s1 nf, ⟨fun b m e => ?_, Tabs.at rm'.tab (fun b ps e => by rw [upd_ne fun z => by rw [z, s1] at e; cases e]; exact e) kf.cod⟩, ⟨fun b o e n t => ?_, fun b e => ?_, fun b m e => ?_⟩, kf, fun b hb => ?_⟩
          · by_cases hb : b = p
            · subst hb
              rw [Mem.set_same] at e
              cases e
              obtain ⟨u, e3, ru⟩ := rm' b _ s2
              rw [s1] at e3
              cases e3
              obtain ⟨o4, u4, e4, ru4⟩ := ru
              cases e4
              exact ⟨_, upd_same, RU.mono c.xg.ok kf ru4⟩
            · rw [Mem.set_ne _ _ hb] at e
              obtain ⟨u, e3, ru⟩ := rm' b m e
              exact ⟨u, by rw [upd_ne hb]; exact e3, ru.mono c.xg.ok kf⟩
          · obtain ⟨e3, n3⟩ := st'.keep b o e n t
            have hb : b ≠ p := fun z => by rw [z, s2] at n3; cases n3
            exact ⟨by rw [upd_ne hb]; exact e3, by rw [Mem.set_ne _ _ hb]; exact n3⟩
          · by_cases hb : b = p
            · rw [hb, upd_same] at e; cases e
            · rw [upd_ne hb] at e; exact st'.grow b e
          · have hb : b ≠ p := fun z => by
              have n3 := (q3.frz b m e).2
              rw [z, qm] at n3
              cases n3
            obtain ⟨e3, n3⟩ := st'.frz b m e
            exact ⟨by rw [upd_ne hb]; exact e3, by rw [Mem.set_ne _ _ hb]; exact n3⟩
          · have hb : b ≠ p := by simpa using hb
            exact ⟨upd_ne hb, Mem.set_ne _ _ hb⟩
        | lst _ => cases e1
        | ins _ _ => cases e1
    · exact q4.elim
  · exact q4.elim
end
end MP
end
section
/-! MP30: a dict's display with one pair; dict(d). -/
namespace MPE
open PySem
open Sem (wp)
theorem merge_raw {pr : Program} {w : World} {A : Around} {EE : Value → Shared → Prop} {s : Shared} {nm : String} {d o : Addr} {es : Array DictEntry} {ep ep0 : Nat} {Q : Unit → Shared → Prop} (hdo : d ≠ o) (hoS : (o == sysModules) = false) (hd : s.heap.DictRaw d #[] ep0) (ho : s.heap.DictRaw o es ep) (hsz : es.size ≤ sizeLine)
    (hq : ∀ e ∈ es.toList, KeyApart s es e) (hr : ∀ e ∈ es.toList, ∃ a, e.key = .ref a) (ht : ∀ h' ep', h'.DictRaw d es ep' → (∀ b u, b ≠ d → s.heap.get? b = some u → h'.get? b = some u) → Q () { s with heap := h' }) : wpAny (model pr w) A (Builtin.Dict.mergeDict nm d o) Q EE s := by
  obtain ⟨od, gd, cd, dd⟩ := id hd
  obtain ⟨oo, go, co, dO⟩ := id ho
  unfold Builtin.Dict.mergeDict
  rw [if_neg (by simpa using hdo)]
  unfold Builtin.Dict.showsAll
  rw [if_neg (by rw [hoS]; exact Bool.false_ne_true)]
  refine wpAny_bind (wpAny_pure (wpAny_bind (wpAny_dictEntries go dO ?_)))
  dsimp only
  by_cases h0 : es = #[]
  · subst h0
    rw [if_neg (by simp)]
    refine wpAny_bind (wpAny_dictEpoch go dO (wpAny_bind (wpAny_dictEntries go dO ?_)))
    simp only [Std.Legacy.Range.forIn_eq_forIn_range', Std.Legacy.Range.size, Array.size_empty]
    exact wpAny_bind (wpAny_pure (wpAny_pure (ht s.heap ep0 hd fun _ _ _ e => e)))
  · have few : (decide (es.size ≤ 8) && es.all fun e => (keyPart e.key).isSome) = false := by
      rw [Bool.and_eq_false_iff]
      right
      rw [← Bool.not_eq_true, Array.all_eq_true]
      intro z
      have pos : 0 < es.size := Nat.pos_of_ne_zero fun q => h0 (Array.eq_empty_of_size_eq_zero q)
      have z0 := z 0 pos
      obtain ⟨a, e⟩ := hr es[0] (by simp)
      rw [e] at z0
      cases z0
    simp only [few, Bool.not_false, if_true]
    refine wpAny_bind (wpAny_dictEntries gd dd ?_)
    rw [if_pos (by rfl)]
    refine wpAny_bind (wpAny_entriesForEmpty_raw go dO hq ?_)
    rw [if_pos (by simpa using h0)]
    exact wpAny_bind (wpAny_updateDictKeysTo gd dd (wpAny_pure (ht _ (ep0 + 1) ⟨_, Heap.get?_update_self _ gd (Obj.isFreed_of_dict (Obj.data_mapDictKeys dd _)), cd.mapDictKeys _, Obj.data_mapDictKeys dd _⟩ fun b u hb e => ((Heap.SameBut.update ..).2 b hb).trans e)) (by omega))
theorem call_dict_raw {pr : Program} {w : World} {A : Around} {EE : Value → Shared → Prop} {s : Shared} {o : Addr} {es : Array DictEntry} {ep : Nat} {Q : Value → Shared → Prop} (hoS : (o == sysModules) = false) (ho : s.heap.DictRaw o es ep) (hsz : es.size ≤ sizeLine)
    (hq : ∀ e ∈ es.toList, KeyApart s es e) (hr : ∀ e ∈ es.toList, ∃ a, e.key = .ref a) (ht : ∀ h' ep', h'.DictRaw s.heap.objs.size es ep' → (∀ b u, s.heap.get? b = some u → h'.get? b = some u) → Q (.ref s.heap.objs.size) { s with heap := h' }) :
    wpAny (model pr w) A (call (.type "dict") [.ref o]) Q EE s := by
  refine callType_codes (Q₁ := fun obj s₁ => obj = .ref s.heap.objs.size ∧ s₁ = { s with heap := s.heap.push { cls := .type "dict", data := .dict #[] } }) F.kt_called_dict (F.kt_typeCall_dict_1 _) F.entry_dict_init (kt_code_dict_new _ ⟨rfl, rfl⟩) ?_
  rintro obj s₁ ⟨rfl, rfl⟩
  generalize hh : s.heap.push { cls := .type "dict", data := .dict #[] } = h1
  have keep : ∀ b u, s.heap.get? b = some u → h1.get? b = some u := fun b u e => by rw [← hh]; exact Heap.get?_push_of_some _ e
  have hn : h1.get? s.heap.objs.size = some { cls := .type "dict", data := .dict #[] } := by rw [← hh]; exact Heap.get?_push_size _ rfl
  have hnew : h1.DictRaw s.heap.objs.size #[] 0 := ⟨_, hn, ⟨rfl, rfl, rfl⟩, rfl⟩
  have ho1 : h1.DictRaw o es ep := ho.at fun u e => keep _ _ e
  have hdo : s.heap.objs.size ≠ o := fun e => by
    obtain ⟨_, hg, _⟩ := ho
    exact absurd (Heap.lt_size hg) (by rw [e]; exact Nat.lt_irrefl _)
  have hq1 : ∀ e ∈ es.toList, KeyApart { s with heap := h1 } es e := fun e he => by
    rcases hq e he with z | ⟨a, z1, ⟨ob, z2, z3⟩, z4⟩
    · exact .inl z
    · exact .inr ⟨a, z1, ⟨ob, keep _ _ z2, z3⟩, z4⟩
  have tn : Shared.TypeIs { s with heap := h1 } (.ref s.heap.objs.size) "dict" := hnew.typeIs
  have to : Shared.TypeIs { s with heap := h1 } (.ref o) "dict" := ho1.typeIs
  refine ⟨tn, F.args_dict_init_2 _ _, ?_⟩
  unfold Builtin.«dict.__init__»
  refine wpAny_bind ?_
  unfold Builtin.Dict.selfAndRest
  refine wpAny_bind (wpAny_notOrdered_dict tn (wpAny_pure ?_))
  show wpAny _ _ (Builtin.Dict.updateFrom "dict.__init__" s.heap.objs.size (.ref o) [] .none) _ _ _
  unfold Builtin.Dict.updateFrom
  refine wpAny_bind (wpAny_typeOf to ?_)
  rw [if_neg (by decide)]
  refine wpAny_bind ?_
  unfold Builtin.Dict.merge
  refine wpAny_bind ?_
  unfold Builtin.Dict.readDirectly
  refine wpAny_bind (wpAny_isInstance to isSubtype_dict_dict ?_)
  simp only [Bool.not_true, Bool.false_eq_true, if_false]
  refine wpAny_bind (wpAny_specialOf to F.slot_dict_iter.lookup (wpAny_pure ?_))
  simp only [beq_self_eq_true, if_true]
  refine wpAny_bind (wpAny_pure ?_)
  refine merge_raw (s := { s with heap := h1 }) hdo hoS hnew ho1 hsz hq1 hr fun h' ep' hd k => ?_
  show wpAny _ _ (Builtin.Dict.addKeywords s.heap.objs.size [] >>= _) _ _ _
  exact wpAny_bind (wpAny_pure (wpAny_pure ⟨rfl, ht h' ep' hd fun b u e => k b u (fun z => by rw [z] at e; exact absurd (Heap.lt_size e) (Nat.lt_irrefl _)) (keep b u e)⟩))
end MPE
namespace MP
open PySem PySem.Spec L2
section
variable {S : Sx} {X : Cx} {G : Gx} {k : Nat} {e x y z : Expr}
theorem disp1_pe (c : Ctx S X G k) {p : Pos} {Wk Wv : Env → Mem → VQ → Prop} (hk : PE X x (tW G Wk)) (hv : PE X y (tW G Wv)) :
    PE X (.Dict [some x] [y] p) (tW G fun en M Q => ∀ q, M q = none → Wk en M fun a M => Wv en M fun b M => D.okey a = true ∧ (M q = none → Q (.ref q) (M.set q (.dct (put [] a b))))) := by
  refine ⟨fun pins s σ H Q I ⟨env, M, Qd, a, b, w, d⟩ => ?_⟩
  have hp := I.hok.fresh (Nat.le_refl s.heap.objs.size)
  rw [arm_eval_Dict, zip_pairTrees [some x] [y] X.env p rfl rfl, dictDisplay_pairs (pairTrees [some x] [y] X.env p) (by simp [pairTrees]) (by simp [pairTrees])]
  refine wpAny_bind (wpAny_standAt (wpAny_bind ?_))
  unfold subDict
  refine wpAny_bind (wpAny_alloc ?_)
  refine wpAny_bind (wpAny_holding ?_)
  rw [if_pos (by simp [pairTrees])]
  have I1 : Inv X pins σ (upd H s.heap.objs.size (.dK [])) { s with heap := s.heap.push { cls := .type "dict", data := .dict #[] } } := I.laid (t' := s.toks) (fun _ _ q => Heap.get?_push_of_some _ q) (Nat.le_refl _) (dk_empty s.heap I.big)
  generalize s.heap.objs.size = n at hp I1 ⊢
  have w1 := w n (b.free hp)
  have kp : Kpt H (upd H n (.dK [])) := .new hp
  refine wpAny_bind (wpAny_mono ((pps_cons hk hv pps_nil).run pins _ σ (upd H n (.dK [])) (fun ps H2 => ∃ v1 v2 d1 d2 M2, ps = [(v1, v2)] ∧ RV G H2 d1 v1 ∧ RV G H2 d2 v2 ∧ RM G H2 M2 ∧ Stp M (upd H n (.dK [])) M2 H2 ∧ D.okey d1 = true ∧ (M2 n = none → Qd (.ref n) (M2.set n (.dct (put [] d1 d2))))) I1 ⟨env, M, _, a.mono c.xg.ok kp, b.new c.xg.ok hp, w1, fun v1 H1 ⟨d1, M1, q1, q2, q3, q4⟩ => ⟨env, M1, _, (a.mono c.xg.ok kp).mono c.xg.ok (q3.kpt (b.new c.xg.ok hp)), q2, q4, fun v2 H2 ⟨d2, M2, r1, r2, r3, r5, r6⟩ => ?_⟩⟩) (fun vs s2 ⟨ps, H2, I2, rel, v1, v2, d1, d2, M2, eps, e1, e2, rm2, st2, ok1, q0⟩ => ?_) fun _ _ z => z)
  · exact ⟨v1, v2, d1, d2, M2, rfl, q1.mono c.xg.ok (r3.kpt q2), r1, r2, q3.trans r3, r5, r6⟩
  · subst eps
    cases rel with
    | @cons _ uv _ _ r rr =>
      cases rr
      obtain ⟨u, w⟩ := uv
      obtain ⟨ru, rw'⟩ := r
      refine wpAny_holding ?_
      have hn2 : H2 n = some (.dK []) := (st2.keep n _ upd_same (b.free hp) nofun).1
      have mn : M2 n = none := (st2.keep n _ upd_same (b.free hp) nofun).2
      have q := q0 mn
      rw [List.forIn_cons]
      refine wpAny_bind (wpAny_bind (wpAny_bind (wpAny_mono (dat_set c.xg.w c.xg.K c.xg.units c.xg.ok I2 (.inl ⟨rfl, hn2⟩) ok1 (by decide) e1 ru e2 rw') (fun _ s3 ⟨o, I3, ru3⟩ => wpAny_pure ?_) fun _ _ z => z)))
      dsimp only
      rw [List.forIn_nil]
      have dA : DAt G H2 n [] := .inl ⟨rfl, hn2⟩
      refine wpAny_pure (wpAny_pure (wpAny_pure (wpAny_pure ⟨.ref n, _, I3, rfl, d _ _ ⟨.ref n, M2.set n (.dct (put [] d1 d2)), rfl, ⟨fun b' m e' => ?_, dA.tabs rm2.tab⟩, ?_, q⟩⟩)))
      · by_cases hb : b' = n
        · subst hb
          rw [Mem.set_same] at e'
          cases e'
          exact ⟨o, upd_same, ru3⟩
        · rw [Mem.set_ne _ _ hb] at e'
          exact (rm2.at c.xg.ok dA mn).mem b' m e'
      · have st0 : Stp M H M2 H2 := (Stp.new b hp).trans st2
        exact st0.layA hp fun m e' => by rw [b.free hp] at e'; cases e'
theorem tupH_eq (hs : List Int) : Builtin.Tuple.tupleHashOf hs = tupH hs := rfl
def tupFin (z : Nat) : Int := if z == 2 ^ 64 - 1 then 1546275796 else if z < 2 ^ 63 then z else (z : Int) - (2 ^ 64 : Nat)
theorem tupH_range (hs : List Int) : -(2 ^ 63 : Int) ≤ tupH hs ∧ tupH hs < 2 ^ 63 := by
  obtain ⟨z, hz⟩ : ∃ z : Nat, tupH hs = tupFin (z % 2 ^ 64) := ⟨_, rfl⟩
  rw [hz]
  have h2 : z % 2 ^ 64 < 2 ^ 64 := Nat.mod_lt _ (by decide)
  generalize z % 2 ^ 64 = t at h2
  unfold tupFin
  split
  · omega
  · split <;> omega
theorem red_eq (hs : List Int) : reduceHash (Builtin.Tuple.tupleHashOf hs) = redH (tupH hs) := by
  obtain ⟨h1, h2⟩ := tupH_range hs
  rw [tupH_eq]
  unfold reduceHash redH
  rw [if_pos (by simp only [Bool.and_eq_true, decide_eq_true_eq]; exact ⟨h1, h2⟩)]
  by_cases h : tupH hs = -1
  · rw [if_pos h, if_pos (by simp [h])]
  · rw [if_neg h, if_neg (by simp [h])]
theorem hashInt_small {i : Int} (h : 0 ≤ i ∧ i < 1000000) : hashInt i = i := by
  obtain ⟨n, rfl⟩ := Int.eq_ofNat_of_zero_le h.1
  have hn : n < 1000000 := by omega
  have hm : n % (2 ^ 61 - 1) = n := Nat.mod_eq_of_lt (by omega)
  unfold hashInt rawHash
  simp only [Int.natAbs_natCast, hm]
  have : ¬ ((n : Int) < 0) := by omega
  simp [this]
  omega
theorem smalls_hash {w : World} : ∀ {ds : List D} {is : List Int}, smalls ds = some is → NestedKey.hashes w (nks ds) = is
  | [], is, h => by cases h; rfl
  | .int i :: r, is, h => by
    unfold smalls at h
    split at h
    · rename_i hi
      obtain ⟨js, e1, e2⟩ := Option.map_eq_some_iff.mp h
      subst e2
      rw [nks, nk, NestedKey.hashes, NestedKey.hash, hashInt_small hi, smalls_hash e1]
    · cases h
  | .non :: _, _, h | .bl _ :: _, _, h | .str _ :: _, _, h | .tup _ :: _, _, h | .ref _ :: _, _, h | .glo _ :: _, _, h | .ty _ :: _, _, h | .clo _ _ :: _, _, h => by cases h
theorem hsh_hash {w : World} {d : D} {t : Int} (h : d.hsh = some t) : (∃ ds, d = .tup ds) ∧ (nk d).hash w = t := by
  cases d with
  | tup ds =>
    unfold D.hsh at h
    obtain ⟨is, e1, e2⟩ := Option.map_eq_some_iff.mp h
    refine ⟨⟨ds, rfl⟩, ?_⟩
    rw [nk, NestedKey.hash, smalls_hash e1, red_eq]
    exact e2
  | _ => cases h
theorem RX.hsh {H : Hp} {w : World} : ∀ {kvs : List (D × D)} {xs : XS}, RX G H kvs xs → (∀ p ∈ kvs, (D.hsh p.1).isSome = true) → xs.map (fun z => some (z.1.hash w)) = kvs.map fun p => D.hsh p.1
  | [], _, h, _ => by rw [show _ = [] from h]; rfl
  | p :: kvs, _, h, ho => by
    obtain ⟨kv, vv, ku, vu, r, rfl, a, b, c, d, f⟩ := h
    rw [List.map_cons, List.map_cons, RX.hsh f fun q hq => ho q (List.mem_cons_of_mem _ hq)]
    obtain ⟨t, ht⟩ := Option.isSome_iff_exists.mp (ho p List.mem_cons_self)
    rw [ht, (hsh_hash (w := w) ht).2]
theorem bb_dict : bootBuiltins (Str.ofString "dict") = some (.type "dict") := by kernel_rfl
theorem dcopy_w (g : XG X G k) : CallR X (.type "dict") (fun xs H Q => ∃ x, xs = [x] ∧ r1 G wDcopy x H Q) := by
  intro pins s σ H xs us Q I r ⟨x, e, M, d, Qd, rm, rd, h, i⟩
  subst e
  unfold wDcopy at h
  split at h
  · rename_i p
    split at h
    · rename_i kvs e1
      obtain ⟨hok, h⟩ := h
      rw [show x = _ from rd] at r
      rw [Vals.ref1 r]
      unfold hashOk at hok
      rw [Bool.and_eq_true, List.all_eq_true, decide_eq_true_eq] at hok
      obtain ⟨ho, hn⟩ := hok
      obtain ⟨xs, dm, rx, hsy, hl, hks, nd⟩ := rd_dict I g rm e1
      obtain ⟨es, ep, hr, he⟩ := dm.ob
      have hsz : es.size = xs.length := ent_size he
      have key : ∀ z ∈ xs, ∃ a o, z.2.1 = .ref a ∧ s.heap.get? a = some o ∧ o.cls = .type "tuple" := fun z hz => by
        obtain ⟨j, hj⟩ := List.mem_iff_getElem?.mp hz
        have hk : ∃ p ∈ kvs, z.1 = nk p.1 := by
          have e := rx.keys
          have : z.1 ∈ xs.map (·.1) := List.mem_map.mpr ⟨z, hz, rfl⟩
          rw [e] at this
          obtain ⟨p, hp, e⟩ := List.mem_map.mp this
          exact ⟨p, hp, e.symm⟩
        obtain ⟨p, hp, e2⟩ := hk
        obtain ⟨t, ht⟩ := Option.isSome_iff_exists.mp (ho p hp)
        obtain ⟨⟨ds, e3⟩, _⟩ := hsh_hash (w := X.w) ht
        have ni := (dm.ks z hz).1
        rw [e2, e3, nk] at ni
        generalize hv : z.2.1 = v at ni
        cases ni with
        | tup h1 h2 h3 h4 => exact ⟨_, _, rfl, h1, h2⟩
      have hnod : (es.toList.map (·.hash)).Nodup := by
        rw [he, List.map_map]
        have e := RX.hsh (w := X.w) rx ho
        rw [← e] at hn
        have : xs.map (fun z => some (z.1.hash X.w)) = (xs.map ((fun x : DictEntry => x.hash) ∘ ent X.w)).map some := by rw [List.map_map]; rfl
        rw [this] at hn
        exact (List.pairwise_map.mp hn).imp fun hh e => hh (congrArg some e)
      refine MPE.call_dict_raw hsy hr (by rw [hsz, ← rx.length, ← line_eq]; exact hl) (fun e hm => ?_) (fun e hm => ?_) fun h' ep' hd' keep => ?_
      · rw [he] at hm
        obtain ⟨z, hz, rfl⟩ := List.mem_map.mp hm
        obtain ⟨a, o, z1, z2, z3⟩ := key z hz
        refine .inr ⟨a, z1, ⟨o, z2, z3⟩, ?_⟩
        rw [← Array.length_toList, Array.toList_filter]
        exact filter_le_one (fun x : DictEntry => x.hash) _ _ hnod
      · rw [he] at hm
        obtain ⟨z, hz, rfl⟩ := List.mem_map.mp hm
        obtain ⟨a, o, z1, z2, z3⟩ := key z hz
        exact ⟨a, z1⟩
      · have hp := I.hok.fresh (Nat.le_refl s.heap.objs.size)
        have hs : (s.heap.objs.size == sysModules) = false := beq_eq_false_iff_ne.mpr (Ne.symm (Nat.ne_of_lt I.big))
        obtain ⟨oo, go, co, dd⟩ := id hd'
        refine ⟨.ref s.heap.objs.size, upd H s.heap.objs.size (.ext fun h => h.DictRaw s.heap.objs.size es ep'), I.laid (t' := s.toks) (fun b u q => keep b u q) (Nat.le_refl _) ⟨hd', ⟨oo, go⟩, fun h1 h2 ⟨o1, a, b⟩ k => ⟨o1, k _ a, b⟩⟩, rfl, i _ _ ⟨.ref _, _, rfl, rm.add g.ok hp (RU.dct (by rw [← g.w]; exact he) (rx.mono g.ok (.new hp)) hs hl hks nd), .add rm hp, h _ (rm.free hp)⟩⟩
    · exact h.elim
  · exact h.elim
theorem dcopy_pe (c : Ctx S X G k) {W : Env → Mem → VQ → Prop} (h : asB S "dict" e = some [x]) (ha : PE X x (tW G W)) : PE X e (tW G fun en M Q => W en M fun x M => wDcopy x M Q) :=
  (callT1 c bb_dict (dcopy_w c.xg) h ha).imp fun σ H Q hh => tW_un c.xg.ok (fun en M Q w => w) hh
end
end MP
end
section
/-! MP31: min and max of two numbers (its wMin2 goes to MP0 when the core gets the construct). -/
namespace MP
open PySem PySem.Spec L2
section
variable {S : Sx} {X : Cx} {G : Gx} {k : Nat} {e x y : Expr}
theorem callB2 {n id : String} {f : R2} {ta tb : TE} (c : Ctx S X G k) (hv : bootBuiltins (Str.ofString n) = some (.builtin id)) (hc : CallR X (.builtin id) (fun xs H Q => ∃ x y, xs = [x, y] ∧ f x y H Q)) (h : asB S n e = some [x, y]) (ha : PE X x ta) (hb : PE X y tb) (hn : n ∈ bltNames := by decide) : PE X e (tOp f ta tb) := by
  obtain ⟨⟨p, q, rfl⟩, h2, h3⟩ := asB_eq h
  obtain ⟨g1, g2⟩ := glB_of c h2
  have h4 : notStar x = true ∧ notStar y = true := by simpa using h3
  refine (pe_callB hc g1 (c.blt n hn) hv (pa_cons ha (pa_cons hb pa_nil (star1 h4.2)) (star1 h4.1)) (okNm_n g2) (okNm_d g2) (star1 h4.1) (by rw [star1 h4.2]; rfl)).imp fun σ H Q hh => ?_
  show ta σ H fun x H1 => tb σ H1 fun y H2 => ∃ a b, [x, y] = [a, b] ∧ f a b H2 Q
  have e : ∀ x y H2, (∃ a b, [x, y] = [a, b] ∧ f a b H2 Q) = f x y H2 Q := fun x y H2 => propext ⟨fun ⟨a, b, e, q⟩ => by cases e; exact q, fun q => ⟨x, y, rfl, q⟩⟩
  simp only [e]
  exact hh
theorem least2_w (g : XG X G k) : CallR X (.builtin "min") (fun xs H Q => ∃ x y, xs = [x, y] ∧ r2 G (wMin2 false) x y H Q) := by
  intro pins s σ H xs us Q I r ⟨x, y, e, M, d, d', Qd, rm, rd, rd', h, i⟩
  subst e
  unfold wMin2 at h
  split at h
  · rw [show x = _ from rd, show y = _ from rd'] at r
    exact call_min2 g.calm pins s σ H _ us Q I r ⟨_, _, rfl, i _ _ (.int rm h)⟩
  · exact h.elim
theorem most2_w (g : XG X G k) : CallR X (.builtin "max") (fun xs H Q => ∃ x y, xs = [x, y] ∧ r2 G (wMin2 true) x y H Q) := by
  intro pins s σ H xs us Q I r ⟨x, y, e, M, d, d', Qd, rm, rd, rd', h, i⟩
  subst e
  unfold wMin2 at h
  split at h
  · rw [show x = _ from rd, show y = _ from rd'] at r
    exact call_max2 g.calm pins s σ H _ us Q I r ⟨_, _, rfl, i _ _ (.int rm h)⟩
  · exact h.elim
end
end MP
end
section
/-! MP32: zip of two tuples. -/
namespace MP
open PySem PySem.Spec L2
section
variable {S : Sx} {X : Cx} {G : Gx} {k : Nat} {e x y z : Expr}
theorem rv_pair2 {H : Hp} {T : Addr} {d d2 : D} {v v2 : V} (g : GOk G) (hT : H T = none) (h : RV G H d v) (h2 : RV G H d2 v2) : RV G (upd H T (.tup [v, v2])) (.tup [d, d2]) (.ref T) := by
  have kp : Kpt H (upd H T (.tup [v, v2])) := .new hT
  exact ⟨T, [v, v2], rfl, .inl (.inl upd_same), v, [v2], rfl, h.mono g kp, v2, [], rfl, h2.mono g kp, rfl⟩
theorem ir_zipT {ds es : List D} {vs us : List V} {p q : Addr} {M0 M1 : Mem} {H0 H1 : Hp} (g : XG X G k) (hp : SqT X.K H1 p vs) (hv : RVs G H1 ds vs) (hq : SqT X.K H1 q us) (hu : RVs G H1 es us) : IR X G ⟨(ds.zip es).map fun z => D.tup [z.1, z.2], fun _ => True, id⟩ (RZ.ItzT X.K p q) [] M0 H0 M1 H1 := by
  refine ⟨fun b hb => (by cases hb), fun i M H hi s kp r _ => ?_, fun M H s kp r _ => ?_, fun i M H x H' s kp r _ yy hi => ?_, IR.fin_id rfl⟩
  · have hi : i < ((ds.zip es).map fun z => D.tup [z.1, z.2]).length := hi
    rw [List.length_map, List.length_zip] at hi
    obtain ⟨v, hv'⟩ := hv.some (i := i) (by omega)
    obtain ⟨u, hu'⟩ := hu.some (i := i) (by omega)
    exact ⟨vs, us, v, u, kp.sqt hp, kp.sqt hq, hv', hu'⟩
  · refine ⟨vs, us, kp.sqt hp, kp.sqt hq, ?_⟩
    show vs.length ≤ ((ds.zip es).map fun z => D.tup [z.1, z.2]).length ∨ us.length ≤ ((ds.zip es).map fun z => D.tup [z.1, z.2]).length
    rw [List.length_map, List.length_zip, hv.length, hu.length]
    omega
  · obtain ⟨T, v, u, rfl, hT, rfl, h2, h3⟩ := yy
    obtain ⟨d, e1, e2⟩ := hv.get' (h2 vs (kp.sqt hp))
    obtain ⟨d2, e3, e4⟩ := hu.get' (h3 us (kp.sqt hq))
    refine ⟨.tup [d, d2], ?_, rv_pair2 g.ok hT (e2.mono g.ok kp) (e4.mono g.ok kp), r.new g.ok hT, .new r hT, fun b o eb => ?_⟩
    · show ((ds.zip es).map fun z => D.tup [z.1, z.2])[i]? = _
      have : (ds.zip es)[i]? = some (d, d2) := List.getElem?_zip_eq_some.mpr ⟨e1, e3⟩
      rw [List.getElem?_map, this]
      rfl
    · rw [upd_ne (ne_of_none eb hT)]; exact eb
theorem zipT_pi (c : Ctx S X G k) {elts : List Expr} {kk : Nat} {tp : Pos} {Wa Wb : Env → Mem → VQ → Prop} (h : asB S "zip" e = some [x, y]) (ha : PE X x (tW G Wa)) (hb : PE X y (tW G Wb)) : PI X (.Tuple elts kk tp) e (tWi X G fun en M R => Wa en M fun d M => Wb en M fun d' M => wZipT d d' M R) := by
  obtain ⟨⟨p, q, rfl⟩, h2, h3⟩ := asB_eq h
  obtain ⟨g1, g2⟩ := glB_of c h2
  have h4 : notStar x = true ∧ notStar y = true := by simpa using h3
  refine ⟨fun pins s σ H R I ⟨env, M, Rd, a, b, w, d⟩ => ?_⟩
  refine (RZ.pi_zipA (p := p) (pos := q) g1 (c.blt "zip" (by decide)) (pa_cons ha (pa_cons hb pa_nil (star1 h4.2)) (star1 h4.1)) (star1 h4.1) (by rw [star1 h4.2]; rfl)).run pins s σ H R I ?_
  show tW G Wa σ H fun v H1 => tW G Wb σ H1 fun u H2 => _
  refine ⟨env, M, _, a, b, w, fun v H1 ⟨dx, M1, c1, c2, c3, c4⟩ => ⟨env, M1, _, a.mono c.xg.ok (c3.kpt b), c2, c4, fun u H2 ⟨dy, M2, d1, d2, d3, d4⟩ => ?_⟩⟩
  dsimp only [wZipT] at d4
  split at d4
  · rename_i ds es
    obtain ⟨p1, vs, rfl, sq, hv⟩ := c1.mono c.xg.ok (d3.kpt c2)
    obtain ⟨p2, us, rfl, sq2, hu⟩ := d1
    rw [← c.xg.K] at sq sq2
    exact ⟨p1, p2, vs, us, rfl, .inr ⟨sq, sq2, d _ _ _ _ _ (ir_zipT c.xg sq hv sq2 hu) d2 (c3.trans d3) d4⟩⟩
  · exact d4.elim
end
end MP
end
section
/-! MP33: a tuple turned about: t[::-1]. -/
namespace MP
open PySem PySem.Spec PyProof.Rows HT L2
section
variable {prog : Program} {w : World} {A : Around} {E : Value → Shared → Prop} {s : Shared}
theorem adjust_rev (n : Nat) : Builtin.Slice.sliceAdjust none none (-1) (n : Int) = ((n : Int) - 1, -1) := by
  unfold Builtin.Slice.sliceAdjust
  simp
theorem places_rev (n : Nat) : Builtin.Slice.slicePlaces ((n : Int) - 1) (-1) (-1) = n := by
  unfold Builtin.Slice.slicePlaces
  have h1 : ¬ ((-1 : Int) > 0) := by omega
  simp only [h1, if_false]
  split
  · have : (- (-1 : Int)) = 1 := by decide
    rw [this, Int.ediv_one]; omega
  · omega
theorem sliceApplied_rev {sl : Addr} {t : Tok} {n : Nat} {Q : Int × Int × Nat → Shared → Prop} (hs : s.heap.IsSliceOf sl .none .none (.int (-1) t))
    (h : Q ((n : Int) - 1, -1, n) s) : wpAny (model prog w) A (Builtin.Slice.sliceApplied (.ref sl) (pure (n : Int))) Q E s := by
  obtain ⟨os, hos, hcs, hds⟩ := id hs
  unfold Builtin.Slice.sliceApplied Builtin.Slice.sliceFields
  refine wpAny_bind (wpAny_bind (wpAny_field hos hds (x := .none) rfl (wpAny_bind (wpAny_field hos hds (x := .none) rfl (wpAny_bind (wpAny_field hos hds (x := .int (-1) t) rfl (wpAny_pure ?_)))))))
  refine wpAny_bind (slicePart_int ?_)
  show wpAny _ _ (if ((-1 : Int) == 0) = true then _ else _) _ _ s
  rw [if_neg (by decide)]
  refine wpAny_bind (slicePart_none (wpAny_bind (slicePart_none (wpAny_bind (wpAny_pure ?_)))))
  show wpAny _ _ (match Builtin.Slice.sliceAdjust none none (-1) (n : Int) with | (lo, hi) => pure (lo, (-1 : Int), Builtin.Slice.slicePlaces lo hi (-1))) _ _ s
  rw [adjust_rev n]
  show wpAny _ _ (pure ((n : Int) - 1, (-1 : Int), Builtin.Slice.slicePlaces ((n : Int) - 1) (-1) (-1))) _ _ s
  rw [places_rev]
  exact wpAny_pure h
theorem pick_rev {α : Type} (xs : List α) : ((List.range xs.length).filterMap fun (m : Nat) => xs[(((xs.length : Int) - 1) + (m : Int) * (-1)).toNat]?) = xs.reverse := by
  have e : (List.range xs.length).filterMap (fun (m : Nat) => xs[(((xs.length : Int) - 1) + (m : Int) * (-1)).toNat]?) = (List.range xs.length).filterMap (fun m => xs.reverse[m]?) := by
    have go : ∀ ms : List Nat, (∀ m ∈ ms, m < xs.length) → ms.filterMap (fun (m : Nat) => xs[(((xs.length : Int) - 1) + (m : Int) * (-1)).toNat]?) = ms.filterMap (fun m => xs.reverse[m]?) := by
      intro ms
      induction ms with
      | nil => intro _; rfl
      | cons m ms ih =>
        intro h
        have hm := h m List.mem_cons_self
        have e1 : xs[(((xs.length : Int) - 1) + (m : Int) * (-1)).toNat]? = xs.reverse[m]? := by
          rw [List.getElem?_reverse hm]
          congr 1
          omega
        rw [List.filterMap_cons, List.filterMap_cons, e1, ih fun x hx => h x (List.mem_cons_of_mem _ hx)]
    exact go _ fun m hm => List.mem_range.mp hm
  rw [e]
  have key : ∀ (l : List α) (k : Nat), k ≤ l.length → (List.range k).filterMap (fun m => l[m]?) = l.take k := by
    intro l k
    induction k with
    | zero => simp
    | succ k ih =>
      intro h
      rw [List.range_succ, List.filterMap_append, ih (by omega), List.take_add_one]
      congr 1
  rw [key _ _ (by rw [List.length_reverse]; exact Nat.le_refl _)]
  exact List.take_of_length_le (by rw [List.length_reverse]; exact Nat.le_refl _)
theorem getItem_tuple_rev {t sl : Addr} {items : Array Value} {u : Tok} {Q : Value → Shared → Prop} (ht : IsTup s.heap t items) (hs : s.heap.IsSliceOf sl .none .none (.int (-1) u))
    (h : Q (.ref s.heap.objs.size) { s with heap := s.heap.push { cls := .type "tuple", data := .seq (items.toList.reverse).toArray } })
    (hsz : items.size ≤ sizeLine) : wpAny (model prog w) A (getItem (.ref t) (.ref sl)) Q E s := by
  have htake : sizeOk (.seq (items.toList.reverse).toArray) := by
    show (items.toList.reverse).toArray.size ≤ sizeLine
    rw [List.size_toArray, List.length_reverse, Array.length_toList]
    exact hsz
  obtain ⟨os, hos, hcs, hds⟩ := id hs
  have hTs : s.TypeIs (.ref sl) "slice" := ⟨os, hos, hcs⟩
  unfold getItem
  try with_reducible refine wpAny_holding ?_
  first | refine wpAny_bind (wpAny_pure ?_) | skip
  refine wpAny_bind (wpAny_sequenceKey ht.typeIs (by decide) ?_)
  refine wpAny_bind (wpAny_callSpecial?_slot (name := Str.ofString "__getitem__") ht.typeIs PyProof.Rows.slot_tuple_getitem
    (wpAny_call_entry PyProof.Rows.slot_tuple_getitem ht.typeIs entry_tuple_getitem ?_ (args_tuple_getitem _ _)))
  show wpAny _ _ (Builtin.Tuple.tupleItemsOf (.ref t) >>= _) _ _ s
  refine wpAny_bind (tupleItemsOf_ ht ?_)
  refine wpAny_bind (wpAny_typeOf hTs ?_)
  rw [if_pos (by decide)]
  refine wpAny_bind (sliceApplied_rev hs ?_)
  have hno : ¬ ((((items.size : Int) - 1) == 0 && (-1 : Int) == 1 && items.size == items.size) = true) := by
    intro q
    rw [Bool.and_eq_true, Bool.and_eq_true] at q
    exact absurd q.1.2 (by decide)
  show wpAny _ _ (if (((items.size : Int) - 1) == 0 && (-1 : Int) == 1 && items.size == items.size) = true then _ else _) _ _ s
  have pk : ((List.range items.size).filterMap fun (m : Nat) => items[(((items.size : Int) - 1) + (m : Int) * (-1)).toNat]?).toArray = (items.toList.reverse).toArray := by
    have := pick_rev items.toList
    rw [← this]
    simp only [Array.length_toList, Array.getElem?_toList]
  rw [if_neg hno, pk]
  first
    | exact wpAny_bind (m := Builtin.Tuple.tupleExact _) (wpAny_newObj_type (wpAny_pure ⟨_, rfl, wpAny_pure h⟩) htake)
    | exact wpAny_bind (m := Builtin.Tuple.tupleExact _) (wpAny_newObj_type (wpAny_bind (wpAny_pure (wpAny_pure ⟨_, rfl, wpAny_pure h⟩))) htake)
    | exact wpAny_bind (wpAny_bind (m := Builtin.Tuple.tupleExact _) (wpAny_newObj_type (wpAny_pure (wpAny_pure ⟨_, rfl, wpAny_pure h⟩)) htake))
    | exact wpAny_bind (wpAny_bind (m := Builtin.Tuple.tupleExact _) (wpAny_newObj_type (wpAny_pure ⟨_, rfl, wpAny_pure h⟩) htake))
end
section
variable {X : Cx}
/-- t[::y], y is -1 -/
theorem pe_rev {e st : Expr} {p2 pos : Pos} {te ts : TE} {r : R2} (he : PE X e te) (hs : PE X st ts)
    (hr : ∀ (pins : List (Addr × Obj)) (s : Shared) (σ : L2.St) (H : Hp) (x y : V) (v u : Value) (Q : VK), Inv X pins σ H s → RelV x v → RelV y u → r x y H Q → y = .int (-1) ∧ ∃ a xs, x = .ref a ∧ SqT X.K H a xs ∧ ∀ p, H p = none → Q (.ref p) (upd H p (.tup xs.reverse))) :
    PE X (.Subscript e (.Slice none none (some st) p2) pos) (tOp r te ts) := by
  refine ⟨fun pins s σ H Q I h => ?_⟩
  refine Subscript_ (thn (he.run pins s σ H _ I h) fun v s1 ⟨x, H1, I1, r1, q1⟩ => ?_)
  refine wpAny_Slice ?_
  rw [evalPart_none]
  refine wpAny_pure ?_
  refine wpAny_pure ?_
  rw [evalPart_some]
  refine thn (hs.run pins s1 σ H1 _ I1 q1) fun u s3 ⟨y, H3, I3, r2, q2⟩ => ?_
  obtain ⟨rfl, a, xs, rfl, hx, q⟩ := hr pins s3 σ H3 x y v u Q I3 r1 r2 q2
  obtain ⟨t, rfl⟩ := r2
  cases r1
  have I4 : Inv X pins σ H3 { s3 with heap := s3.heap.push { cls := .type "slice", data := .fields #[.none, .none, .int (-1) t] } } := I3.kept (t' := s3.toks) fun b ob q => Heap.get?_push_of_some _ q
  obtain ⟨its, r, ht, hz⟩ := I4.tuple hx
  have hlen : its.toArray.size = xs.length := by rw [List.size_toArray]; exact r.length.symm
  have hg : wpAny (model X.prog X.w) X.A (getItem (.ref a) (.ref s3.heap.objs.size)) (EP X pins σ Q) X.xe { s3 with heap := s3.heap.push { cls := .type "slice", data := .fields #[.none, .none, .int (-1) t] } } := by
    refine getItem_tuple_rev ht (Heap.IsSliceOf.new ..) ?_ (by rw [hlen]; exact hz)
    refine ⟨.ref (s3.heap.push { cls := .type "slice", data := .fields #[.none, .none, .int (-1) t] }).objs.size, _, I4.laid (t' := s3.toks) (o := .tup xs.reverse) (fun b ob q => Heap.get?_push_of_some _ q) (Nat.le_refl _) ?_, rfl, q _ (I4.hok.fresh (Nat.le_refl _))⟩
    exact ⟨by rw [List.length_reverse]; exact hz, _, r.reverse, IsTup.new _ _⟩
  show wpAny (model X.prog X.w) X.A (subscriptTail e (.Slice none none (some st) p2) (.ref a) (.ref s3.heap.objs.size)) (EP X pins σ Q) X.xe { s3 with heap := s3.heap.push { cls := .type "slice", data := .fields #[.none, .none, .int (-1) t] } }
  exact PyProof.Rows.tail_any (ops := [.ref a, .ref s3.heap.objs.size]) ht.typeIs PyProof.Rows.slot_tuple_getitem.lookup hg (by with_unfolding_all rfl)
end
section
variable {X : Cx} {G : Gx} {k : Nat}
theorem rev_w (g : XG X G k) (pins : List (Addr × Obj)) (s : Shared) (σ : L2.St) (H : Hp) (x y : V) (v u : Value) (Q : VK) (I : L2.Inv X pins σ H s) (rx : L2.RelV x v) (ry : L2.RelV y u) (h : r2 G wRev x y H Q) : y = .int (-1) ∧ ∃ a xs, x = .ref a ∧ SqT X.K H a xs ∧ ∀ p, H p = none → Q (.ref p) (upd H p (.tup xs.reverse)) := by
  obtain ⟨M, d, e, Qd, rm, rd, re, h, i⟩ := h
  unfold wRev at h
  split at h
  · rename_i ds j
    obtain ⟨p, vs, rfl, sq, hv⟩ := rd
    obtain ⟨rfl, h⟩ := h
    refine ⟨re, p, vs, rfl, by rw [g.K]; exact sq, fun q hq => i _ _ (.new (d := .tup ds.reverse) g.ok hq ⟨q, _, rfl, .of upd_same, ?_⟩ rm h)⟩
    exact hv.reverse.mono g.ok (.new hq)
  · exact h.elim
end
end MP
end
section
/-! MP36: min of a list of alike data. -/
namespace MP
open PySem PySem.Spec L2
section
open PySem.W PySem.SeqAt PyProof.Rows
variable {prog : Program} {w : World} {A : Around} {E : Value → Shared → Prop} {s : Shared}
/-- min of a list of alike data: which item -/
theorem min_list_at {l : Addr} {vs : Array Value} {x : PyData} {xs : List PyData} {as : List Addr} {Q : Value → Shared → Prop} (hh : A.handled = none) (hl : s.heap.IsList l vs) (hr : ReadsAll s.heap vs.toList (x :: xs) as) (ha : AlikeAll (x :: xs)) (hu : A.units + 1 + PyData.depthAll (x :: xs) < cLine)
    (h : ∀ v h' tk, vs[argBest (fun i j => dataLt ((x :: xs).getD i .none) ((x :: xs).getD j .none)) xs.length]? = some v → (∀ b o, s.heap.get? b = some o → h'.get? b = some o) → Q v { s with heap := h', toks := tk }) :
    wpAny (model prog w) A (call (.builtin "min") [.ref l]) Q E s := by
  have hn : vs.size = xs.length + 1 := readsAll_len hr
  refine call_min_walkH (iter_listW (A := A.in1) hh hl fun s₂ e W st hfp hw hk => ?_)
  refine ⟨_, _, _, _, _, _, _, s.heap, _, rfl, W, st, hfp, by omega, hw, hk, cmpIn_lt (A := A.in1) hr ha (by show A.units + 1 + _ < _; exact hu), fun v s' hP m => ?_⟩
  obtain ⟨h', tk, rfl, hk'⟩ := moved_old e rfl m
  have e1 : vs.size - 1 = xs.length := by omega
  rw [e1] at hP
  exact h v h' tk hP hk'
end
section
variable {X : Cx} {G : Gx} {k : Nat}
theorem leastD_eq (f : D → D → Bool) : ∀ (r : List D) (d : D), (∀ a ∈ d :: r, ∀ b ∈ d :: r, f a b = D.lt a b) → r.foldl (fun m y => if f y m = true then y else m) d = leastD d r ∧ leastD d r ∈ d :: r
  | [], d, _ => ⟨rfl, by simp [leastD]⟩
  | y :: r, d, h => by
    have e : f y d = D.lt y d := h y (by simp) d (by simp)
    have hm : (if D.lt y d = true then y else d) ∈ d :: y :: r := by split <;> simp
    have sub : ∀ z ∈ (if D.lt y d = true then y else d) :: r, z ∈ d :: y :: r := fun z hz => by
      rcases List.mem_cons.mp hz with rfl | hz
      · exact hm
      · simp [hz]
    obtain ⟨i1, i2⟩ := leastD_eq f r (if D.lt y d = true then y else d) fun a ha b hb => h a (sub a ha) b (sub b hb)
    have e2 : leastD d (y :: r) = leastD (if D.lt y d = true then y else d) r := rfl
    rw [e2]
    refine ⟨?_, sub _ i2⟩
    rw [List.foldl_cons, e]
    exact i1
theorem leastD_w (g : XG X G k) : CallR X (.builtin "min") (fun xs H Q => ∃ x, xs = [x] ∧ rl G wLeast x H Q) := by
  intro pins s σ H xs us Q I r ⟨x, e, M, ds, vs, p, Qd, e2, sq, hv, rm, h, i⟩
  unfold wLeast at h
  split at h
  · rename_i j js hn
    exact least_w g pins s σ H xs us Q I r ⟨x, e, M, ds, vs, p, Qd, e2, sq, hv, rm, by dsimp only; rw [hn]; exact h, i⟩
  · subst e e2
    obtain ⟨hs, h⟩ := h
    split at h
    · rename_i d r0 hnn
      have hu := g.units
      have sq0 := sq
      rw [← g.K] at sq
      obtain ⟨its, rv, hl, hz⟩ := I.list sq
      have hs' := hs
      unfold srt at hs'
      rw [Bool.and_eq_true, Bool.and_eq_true] at hs'
      obtain ⟨⟨h1, h2⟩, _⟩ := hs'
      have hm := oks_mem h1
      have al : ∀ a ∈ d :: r0, ∀ b ∈ d :: r0, D.alike a b = true := fun a ha b hb => List.all_eq_true.mp (List.all_eq_true.mp h2 a ha) b hb
      have hr := readss I g.K h1 hv rv
      rw [pds_map, List.map_cons] at hr
      have dep : ∀ ds : List D, (∀ a ∈ ds, D.ok 60 a = true) → PyData.depthAll (ds.map pd) ≤ 60 := by
        intro ds
        induction ds with
        | nil => intro _; simp [PyData.depthAll]
        | cons a ds ih =>
          intro ha
          have x1 := pd_depth (ha a (by simp))
          have x2 := ih fun b hb => ha b (by simp [hb])
          simp only [List.map_cons, PyData.depthAll]
          omega
      have hd := dep (d :: r0) hm
      rw [List.map_cons] at hd
      rw [Vals.ref1 r]
      refine min_list_at (A := X.A) (I.ok.hd g.calm) hl.isList (by simpa using hr) ⟨fun a ha b hb => ?_, fun a ha => ?_⟩ (by omega) fun v h' tk hP hk => ?_
      · rw [← List.map_cons] at ha hb
        obtain ⟨a', ha', rfl⟩ := List.mem_map.mp ha
        obtain ⟨b', hb', rfl⟩ := List.mem_map.mp hb
        exact pd_alike (al a' ha' b' hb')
      · rw [← List.map_cons] at ha
        obtain ⟨a', ha', rfl⟩ := List.mem_map.mp ha
        exact pd_not_none (al a' ha' a' ha')
      · have gD : ∀ j, ((pd d :: r0.map pd).getD j PyData.none) = pd ((d :: r0).getD j .non) := fun j => by
          rw [← List.map_cons, List.getD_eq_getElem?_getD, List.getD_eq_getElem?_getD, List.getElem?_map]
          cases (d :: r0)[j]? <;> simp [pd]
        have eb : (fun i j => PySem.W.dataLt ((pd d :: r0.map pd).getD i .none) ((pd d :: r0.map pd).getD j .none)) = fun i j => PySem.W.dataLt (pd ((d :: r0).getD i .non)) (pd ((d :: r0).getD j .non)) := by
          funext i j; rw [gD, gD]
        rw [eb, List.length_map] at hP
        obtain ⟨f1, f2⟩ := PySem.W.argBest_fold (fun a b => PySem.W.dataLt (pd a) (pd b)) D.non d r0 r0.length (Nat.le_refl _)
        rw [List.take_length] at f2
        obtain ⟨l1, l2⟩ := leastD_eq (fun a b => PySem.W.dataLt (pd a) (pd b)) r0 d fun a ha b hb => pd_lt (hm a ha) (hm b hb) (al a ha b hb)
        rw [l1] at f2
        generalize PySem.argBest (fun i j => PySem.W.dataLt (pd ((d :: r0).getD i .non)) (pd ((d :: r0).getD j .non))) r0.length = j at hP f1 f2
        have hj : (d :: r0)[j]? = some (leastD d r0) := by
          have hlt : j < (d :: r0).length := by simp; omega
          rw [List.getD_eq_getElem?_getD, List.getElem?_eq_getElem hlt] at f2
          rw [List.getElem?_eq_getElem hlt]
          simpa using f2
        obtain ⟨v1, q1, q2⟩ := hv.get hj
        obtain ⟨u1, q3, q4⟩ := rv.get q1
        have : u1 = v := by
          have hP' : its[j]? = some v := by simpa using hP
          rw [q3] at hP'
          exact Option.some.inj hP'
        subst this
        exact ⟨v1, H, I.kept (t' := tk) hk, q4, i _ _ ⟨_, M, q2, rm, .refl _ _, h⟩⟩
    · exact h.elim
end
end MP
end
section
set_option maxHeartbeats 4000000
/-! MP37: sorted(set(q)): what q holds, each once, in order. -/
namespace MP
open PySem PySem.Spec L2 PyProof.Rows
/-! ### set(q) of a list or a tuple -/
abbrev newSet (w : World) : Obj := { cls := .type "set", dict := none, data := .set #[] 0 (.fresh 0 0 (!w.params.followText "set-order")) }
/-- a list's or a tuple's object -/
def IsSq (T : String) (h : Heap) (l : Addr) (items : Array Value) : Prop := ∃ o, h.get? l = some o ∧ o.cls = .type T ∧ ∃ n, o.data = .seq items n
structure SrcT (T : String) : Prop where
  s1 : isSubtype (.type T) (.type "set") = pure false
  s2 : isSubtype (.type T) (.type "frozenset") = pure false
  s3 : (Value.type T == Value.type "dict") = false
  walk : ∀ {P : Program} {w : World} {A : Around} {E : Value → Shared → Prop} {s : Shared} {l : Addr} {items : Array Value} {Q : Value → Shared → Prop}, IsSq T s.heap l items →
    (∀ ob St, (∀ A' : Around, A'.handled = none → WalksS P w A' s.heap.objs.size [s.heap.objs.size, l] [s.heap.objs.size] (fun a b => b = a) items.size (fun i v => items[i]? = some v) St) → St 0 { s with heap := s.heap.push ob } → Q (.ref s.heap.objs.size) { s with heap := s.heap.push ob }) →
    wpAny (model P w) A (pyIter (.ref l)) Q E s
theorem src_list : SrcT "list" := ⟨F.sub_list_set, F.sub_list_frozenset, by decide, fun {P w A E s l items Q} hl q => by
  obtain ⟨o, ho, hc, n, hd⟩ := hl
  have hl : s.heap.IsList l items := ⟨o, ho, hc, n, hd⟩
  refine wpAny_pyIter_list hl (q _ _ (fun A' hh => (Walks.list hh _ l (Nat.ne_of_lt (Heap.lt_size ho)) items).toS) ⟨⟨_, Heap.get?_push_size _ rfl, rfl, rfl⟩, hl.push _⟩)⟩
theorem src_tuple : SrcT "tuple" := ⟨F.sub_tuple_set, F.sub_tuple_frozenset, by decide, fun {P w A E s l items Q} hl q => by
  obtain ⟨o, ho, hc, n, hd⟩ := hl
  have hl : s.heap.IsTuple l items := ⟨o, ho, hc, n, hd⟩
  refine wpAny_pyIter_tuple hl (q _ _ (fun A' hh => (Walks.tuple hh _ l (Nat.ne_of_lt (Heap.lt_size ho)) items).toS) ⟨⟨_, Heap.get?_push_size _ rfl, rfl, rfl⟩, hl.push _⟩)⟩
/-- what set.update leaves behind a walk over these items: Φ of the heap -/
def Fills (P : Program) (w : World) (S : Addr) (items : Array Value) (h0 : Heap) (Φ : Heap → Prop) (A : Around) : Prop :=
  ∀ {I : Addr} {fp : List Addr} {St : Nat → Shared → Prop} {R : Result → Shared → Prop} {s : Shared}, (∀ A' : Around, A'.handled = none → WalksS P w A' I fp [I] (fun a b => b = a) items.size (fun i v => items[i]? = some v) St) →
    S ∉ fp → h0.get? S = none → h0.get? I = none → St 0 s → (∀ b o, h0.get? b = some o → s.heap.get? b = some o) → s.heap.get? S = some (newSet w) →
    (∀ s', Moved [S, I] (fun a b => b = a) s s' → Φ s'.heap → (∀ b o, h0.get? b = some o → s'.heap.get? b = some o) → R (.ok (.ret .none)) s') →
    codeAny (model P w) A (.builtin "set.update.loop" ⟨[.ref S, .ref I], []⟩) R s
section
variable {P : Program} {w : World} {A : Around} {E : Value → Shared → Prop} {s : Shared}
theorem set_made {T : String} (hT : SrcT T) {l : Addr} {items : Array Value} {Φ : Heap → Prop} {Q : Value → Shared → Prop} (hh : A.handled = none) (hl : IsSq T s.heap l items)
    (hF : ∀ A' : Around, A'.handled = none → A'.units ≤ A.units + 2 → Fills P w s.heap.objs.size items s.heap Φ A')
    (h : ∀ (h' : Heap) (tk : Nat), Φ h' → (∀ b o, s.heap.get? b = some o → h'.get? b = some o) → Q (.ref s.heap.objs.size) { s with heap := h', toks := tk }) :
    wpAny (model P w) A (call (.type "set") [.ref l]) Q E s := by
  obtain ⟨c, tl, hmro⟩ := F.called_set.mro
  have hmade := F.called_set.made
  have hsub := F.called_set.sub
  refine wpAny_call (codeAny_of_tree ?_)
  show wpAny _ _ (callAny (.type "set") _) _ _ _
  refine wpAny_pure ⟨Code.quiet_builtin _ (by decide +kernel), codeAny_builtin F.entry_type_call ?_⟩
  rw [Around.under_plain (weight_type_call_type "set" [.ref l] []) rfl]
  have h1 := F.called_set.notType
  have h2 := F.called_set.canCreate
  have hct := F.typeCall_set_1 (.ref l)
  repeat (any_goals (first | assumption | wp_step))
  refine codeAny_mono (code_set_led1 (.ref l) (E := E) (Q₁ := fun obj s₁ => obj = .ref s.heap.objs.size ∧ s₁ = { s with heap := s.heap.push (newSet w) }) ⟨rfl, rfl⟩) fun r s₁ hr => ?_
  match r with
  | .error e => exact hr
  | .ok (.ret obj) =>
    obtain ⟨rfl, rfl⟩ := hr
    have hS : (s.heap.push (newSet w)).get? s.heap.objs.size = some (newSet w) := Heap.get?_push_size _ rfl
    have hT2 : Shared.TypeIs { s with heap := s.heap.push (newSet w) } (.ref s.heap.objs.size) "set" := ⟨_, hS, rfl⟩
    have hli := F.called_set.init.lookup
    have hbi := F.called_set.init.bind (.ref s.heap.objs.size)
    repeat (any_goals (first | assumption | wp_step))
    refine codeAny_mono (codeAny_call_builtin (R := wants (fun r s₂ => r = .none ∧ ∃ h' tk, s₂ = { s with heap := h', toks := tk } ∧ Φ h' ∧ (∀ b o, s.heap.get? b = some o → h'.get? b = some o)) E) F.called_set.init.plain F.entry_set_init (check_set_init_1 hT2 ?_)) fun r₂ s₂ hr₂ => ?_
    · obtain ⟨⟨ocls, odict, odata, oslots⟩, hol, hcl, nl, hdl⟩ := hl
      simp only at hcl hdl
      subst hcl; subst hdl
      have hol' : (s.heap.push (newSet w)).get? l = some { cls := .type T, dict := odict, data := .seq items nl, slots := oslots } := Heap.get?_push_of_some _ hol
      have hsls := hT.s1
      have hslf := hT.s2
      have hne := hT.s3
      have hl1 : IsSq T (s.heap.push (newSet w)) l items := ⟨_, hol', rfl, nl, rfl⟩
      unfold Builtin.«set.__init__» noKeywords Builtin.Frozenset.updateFrom
      generalize hPI : pyIter = PI
      wp_walk
      subst hPI
      refine hT.walk hl1 fun ob St hW hst => ?_
      refine wpAny_bind (wpAny_runValue ?_)
      have hlS : l < s.heap.objs.size := Heap.lt_size hol
      have hz1 : (s.heap.push (newSet w)).objs.size = s.heap.objs.size + 1 := Heap.size_push ..
      have none_of : ∀ b, s.heap.objs.size ≤ b → s.heap.get? b = none := fun b hb => by
        cases q : s.heap.get? b with
        | none => rfl
        | some o => exact absurd (Nat.lt_of_lt_of_le (Heap.lt_size q) hb) (Nat.lt_irrefl _)
      refine hF _ ?hh ?hu hW ?hfp (none_of _ (Nat.le_refl _)) (none_of _ (by rw [Heap.size_push]; exact Nat.le_succ _)) hst (fun b o e => Heap.get?_push_of_some _ (Heap.get?_push_of_some _ e)) (Heap.get?_push_of_some _ hS) fun s' hm hΦ hk => ?_
      case hh => simp [hh]
      case hu => exact Nat.le_refl (A.units + 2)
      case hfp =>
        intro hb
        rw [Heap.size_push] at hb
        simp only [List.mem_cons, List.not_mem_nil, or_false] at hb
        rcases hb with hb | hb
        · exact absurd hb (Nat.ne_of_lt (Nat.lt_succ_self _))
        · exact absurd hb (Nat.ne_of_gt hlS)
      obtain ⟨h', g2, d', tk', os'⟩ := s'
      have eg : g2 = s.gens := hm.gens
      have ed : d' = s.drawn := hm.drawn
      have eo : os' = s.os := hm.os
      subst eg; subst ed; subst eo
      refine wpAny_pure ?_
      show wpAny _ _ (ret Value.none) _ _ _
      exact wpAny_pure ⟨rfl, h', tk', rfl, hΦ, hk⟩
    · match r₂ with
      | .error e => exact hr₂
      | .ok (.ret r) =>
        obtain ⟨rfl, h', tk, rfl, hS', hk'⟩ := hr₂
        repeat (any_goals (first | assumption | wp_step))
        exact h _ _ hS' hk'
/-- the set's values, said of the heap -/
def SetU (w : World) (h : Heap) (a : Addr) (us : List Value) : Prop := ∃ o es ep t, h.get? a = some o ∧ o.cls = .type "set" ∧ o.data = .set es ep t ∧ t.fits es.size = true ∧ es.size < scanBound ∧ Ris t.place.toList ∧
  (w.params.followText "set-order" = true ∨ t.led = true) ∧ es.toList.map (·.2) = us
theorem fills_ints {S : Addr} {items : Array Value} {h0 : Heap} (ns : List Int) (hit : IntsAre items.toList ns) (hb : ns.length + 1 < scanBound) {A : Around} (hh : A.handled = none) :
    Fills P w S items h0 (fun h' => ∃ c, SetR w h' S (fun j => decide (j ∈ ns)) c) A := fun {I fp St R s} W hSf hS0 hI0 hst hk hS hR => by
  have hisz : items.size = ns.length := by
    have q := IntsAre.length hit
    rw [Array.length_toList] at q
    exact q
  have hval : ∀ (i : Nat) (v : Value), items[i]? = some v → ∃ k t, ns[i]? = some k ∧ v = .int k t := fun i v hv => by
    have hi : i < ns.length := by rw [← hisz]; exact (Array.getElem?_eq_some_iff.mp hv).1
    obtain ⟨t, e⟩ := PyProof.Rows.IntsAre.int_at hit i v (by rw [Array.getElem?_toList]; exact hv)
    refine ⟨ns[i], t, List.getElem?_eq_getElem hi, ?_⟩
    rw [e, List.getD_eq_getElem?_getD, List.getElem?_eq_getElem hi] <;> rfl
  refine set_update_ints (W A.in1 hh) S hSf ns hisz hb hval (items.size - 0) 0 _ (by omega) (Nat.zero_le _) hst ⟨0, Nat.le_refl 0, setR_new_at hS⟩ fun s' c hm _ hS' => ?_
  refine hR s' hm ⟨c, hS'⟩ fun b o e => hm.heap b o (fun hb => ?_) (hk b o e)
  rcases List.mem_cons.mp hb with z | z
  · rw [z, hS0] at e; cases e
  · rw [List.mem_singleton.mp z, hI0] at e; cases e
theorem fills_tups {S : Addr} {items : Array Value} {h0 : Heap} (ks : List (Addr × List Int)) (hit : items.toList = ks.map fun p => Value.ref p.1) (hk0 : ∀ p ∈ ks, IsT P w h0 p.2 p.1) (hfew : ks.length < 64) {A : Around} (hh : A.handled = none) (hu : A.in1.units < cLine) :
    Fills P w S items h0 (fun h' => ∃ L es ep t, SetTR P w h' S L es ep t ∧ Got ks ks.length L) A := fun {I fp St R s} W hSf hS0 hI0 hst hk hS hR => by
  have hisz : items.size = ks.length := by
    have q := congrArg List.length hit
    rw [Array.length_toList, List.length_map] at q
    exact q
  have hval : ∀ (i : Nat) (v : Value), items[i]? = some v → ∃ p, ks[i]? = some p ∧ v = .ref p.1 := fun i v hv => by
    have q : items.toList[i]? = some v := by rw [Array.getElem?_toList]; exact hv
    rw [hit, List.getElem?_map] at q
    obtain ⟨p, h1, h2⟩ := Option.map_eq_some_iff.mp q
    exact ⟨p, h1, h2.symm⟩
  refine set_update_tups (W A.in1 hh) S hSf ks hisz hfew hval h0 hk0 hS0 (fun b hb => by rw [List.mem_singleton.mp hb]; exact hI0) hu (items.size - 0) 0 _ (by omega) (Nat.zero_le _) hst hk ⟨[], #[], 0, _, setTR_fresh hS, Got.zero ks⟩ fun s' L es ep t hm hS' g hk' => ?_
  rw [hisz] at g
  exact hR s' hm ⟨L, es, ep, t, hS', g⟩ hk'
end
section
variable {X : Cx} {G : Gx} {k : Nat}
def setO (w : World) (a : Addr) (us : List Value) : HO := .ext fun h => SetU w h a us
theorem setO_ok {P : Program} {w : World} {H : Hp} {h : Heap} {a : Addr} {us : List Value} (R : SetU w h a us) : ObjOk P w H h a (setO w a us) := by
  have ⟨o, es, ep, t, ho, r⟩ := R
  refine ⟨R, ⟨o, ho⟩, fun h1 h2 p k => ?_⟩
  have ⟨o', es', ep', t', ho', r'⟩ := (show SetU w h1 a us from p)
  exact ⟨o', es', ep', t', k o' ho', r'⟩
theorem rvs_ints {H : Hp} : ∀ {ns : List Int} {vs : List V}, RVs G H (ns.map .int) vs → vs = ns.map V.int
  | [], vs, h => h
  | n :: ns, vs, h => by
    obtain ⟨v, r, rfl, a, b⟩ := h
    rw [rvs_ints b, show v = V.int n from a]; rfl
theorem rvs_intsI {H : Hp} : ∀ (ns : List Int), RVs G H (ns.map .int) (ns.map V.int)
  | [] => rfl
  | n :: ns => ⟨V.int n, _, rfl, rfl, rvs_intsI ns⟩
theorem map_int_inj : ∀ {l m : List Int}, l.map D.int = m.map D.int → l = m
  | [], [], _ => rfl
  | a :: l, b :: m, h => by
    simp only [List.map_cons, List.cons.injEq, D.int.injEq] at h
    rw [h.1, map_int_inj h.2]
theorem rvs_rows {H : Hp} : ∀ {ks : List (List Int)} {vs : List V}, RVs G H (ks.map fun r => D.tup (r.map .int)) vs → ∃ qs : List (Addr × List Int), vs = qs.map (fun p => V.ref p.1) ∧ qs.map (·.2) = ks ∧ ∀ p ∈ qs, SqT G.K H p.1 (p.2.map V.int)
  | [], vs, h => ⟨[], h, rfl, fun _ h => nomatch h⟩
  | x :: ks, vs, h => by
    obtain ⟨v, r, rfl, ⟨p, ws, e1, e2, e3⟩, b⟩ := h
    obtain ⟨qs, rfl, h2, h3⟩ := rvs_rows b
    rw [rvs_ints e3] at e2
    exact ⟨(p, x) :: qs, by rw [e1]; rfl, by simp [h2], fun q hq => by
      rcases List.mem_cons.mp hq with rfl | hq
      · exact e2
      · exact h3 q hq⟩
theorem rvs_rowsI {H : Hp} : ∀ (qs : List (Addr × List Int)), (∀ p ∈ qs, SqT G.K H p.1 (p.2.map V.int)) → RVs G H (qs.map fun p => D.tup (p.2.map .int)) (qs.map fun p => V.ref p.1)
  | [], _ => rfl
  | q :: qs, h => ⟨_, _, rfl, ⟨q.1, q.2.map V.int, rfl, h q (by simp), rvs_intsI q.2⟩, rvs_rowsI qs fun p hp => h p (by simp [hp])⟩
theorem vals_keys : ∀ {es : List (Int × Value)}, (∀ e ∈ es, GoodE e) → Vals ((es.map keyOf).map V.int) (es.map (·.2))
  | [], _ => .nil
  | e :: es, h => by
    obtain ⟨n, tk, e1, _⟩ := h e (by simp)
    refine .cons ?_ (vals_keys fun x hx => h x (by simp [hx]))
    have e2 : keyOf e = n := by unfold keyOf; rw [e1]
    rw [e2]
    exact ⟨tk, e1⟩
theorem nd_len {α : Type} [DecidableEq α] : ∀ {l m : List α}, l.Nodup → (∀ x ∈ l, x ∈ m) → l.length ≤ m.length
  | [], _, _, _ => Nat.zero_le _
  | x :: l, m, h, s => by
    obtain ⟨h1, h2⟩ := List.nodup_cons.mp h
    have hx := s x (by simp)
    have ih := nd_len (m := m.erase x) h2 fun y hy => (List.mem_erase_of_ne (fun z => h1 (by rw [← z]; exact hy))).mpr (s y (by simp [hy]))
    rw [List.length_erase_of_mem hx] at ih
    have := List.length_pos_of_mem hx
    simp
    omega
/-- set(q) -/
theorem set_w (g : XG X G k) : CallR X (.type "set") (fun xs H Q => ∃ x, xs = [x] ∧ ∃ ds vs p, x = .ref p ∧ (SqL G.K H p vs ∨ SqT G.K H p vs) ∧ RVs G H ds vs ∧ SsOk ds ∧
    ∀ a us ds' vs', H a = none → RVs G H ds' vs' → Vals vs' us → ds'.Nodup → (∀ x, x ∈ ds' ↔ x ∈ ds) → us.length < 64 → Q (.ref a) (upd H a (setO X.w a us))) := by
  intro pins s σ H xs us Q I r ⟨x, e, ds, vs, p, e2, sq, hv, ⟨l64, hs⟩, q⟩
  subst e e2
  have hu := g.units
  rw [← g.K] at sq
  rw [Vals.ref1 r]
  have hh := I.ok.hd g.calm
  have hn : H s.heap.objs.size = none := I.hok.fresh (Nat.le_refl _)
  obtain ⟨T, items, hT, hsq, rv⟩ : ∃ (T : String) (items : Array Value), SrcT T ∧ IsSq T s.heap p items ∧ Vals vs items.toList := by
    rcases sq with sq | sq
    · obtain ⟨its, rv, pl, _⟩ := I.list sq
      obtain ⟨o, ho, hc, n, hd⟩ := pl.isList
      exact ⟨"list", its.toArray, src_list, ⟨o, ho, hc, n, hd⟩, by simpa using rv⟩
    · obtain ⟨its, rv, ⟨o, ho, hc, n, hd⟩, _⟩ := I.tuple sq
      exact ⟨"tuple", its.toArray, src_tuple, ⟨o, ho, hc, n, hd⟩, by simpa using rv⟩
  rcases hs with ⟨ns, rfl⟩ | ⟨ks, rfl⟩
  · rw [rvs_ints hv] at rv
    rw [List.length_map] at l64
    refine set_made (Φ := fun h' => ∃ c, SetR X.w h' s.heap.objs.size (fun j => decide (j ∈ ns)) c) hT hh hsq (fun A' hA _ => fills_ints ns (ints_of_vals rv) (by unfold scanBound; omega) hA) fun h' tk ⟨c, R⟩ kp => ?_
    obtain ⟨o, es, ep, t, ho, hex, hd, gE, nd, hm, hb, hf, hn2, hr, hl⟩ := R
    have hU : SetU X.w h' s.heap.objs.size (es.toList.map (·.2)) := ⟨o, es, ep, t, ho, hex.1, hd, hf, hb, hr, hl, rfl⟩
    have len : (es.toList.map keyOf).length < 64 := by
      have := nd_len nd (m := ns) fun x hx => by
        have := (hm x).mpr hx
        simpa using this
      omega
    refine ⟨.ref s.heap.objs.size, upd H s.heap.objs.size (setO X.w s.heap.objs.size (es.toList.map (·.2))), I.laid (t' := tk) kp (Nat.le_refl _) (setO_ok hU), rfl, q _ _ ((es.toList.map keyOf).map .int) _ hn (rvs_intsI _) (vals_keys gE) ?_ (fun x => ?_) (by simpa using len)⟩
    · exact List.Pairwise.map _ (fun a b h z => h (by injection z)) nd
    · rw [List.mem_map, List.mem_map]
      exact ⟨fun ⟨i, hi, e⟩ => ⟨i, by simpa using (hm i).mpr hi, e⟩, fun ⟨i, hi, e⟩ => ⟨i, (hm i).mp (by simpa using hi), e⟩⟩
  · obtain ⟨qs, rfl, hk2, hk3⟩ := rvs_rows hv
    have lq : qs.length < 64 := by
      have := congrArg List.length hk2
      simp at this l64
      omega
    rw [← g.K] at hk3
    refine set_made (Φ := fun h' => ∃ L es ep t, SetTR X.prog X.w h' s.heap.objs.size L es ep t ∧ Got qs qs.length L) hT hh hsq (fun A' hA hA2 => fills_tups qs (refs_of_vals rv) (fun p hp => I.isT (hk3 p hp)) lq hA (by show A'.units + 1 < cLine; omega)) fun h' tk ⟨L, es, ep, t, R, got⟩ kp => ?_
    obtain ⟨o, ho, hex, hd⟩ := R.ob
    have sub : ∀ p ∈ L, p ∈ qs := fun p hp => List.mem_of_mem_take (got.sub p hp)
    have hU : SetU X.w h' s.heap.objs.size (L.map fun p => Value.ref p.1) := ⟨o, es, ep, t, ho, hex.1, hd, SetTR.fits (s := { s with heap := h', toks := tk }) R, by rw [SetTR.size (s := { s with heap := h', toks := tk }) R]; have := R.few; unfold scanBound; omega, R.tab.ris, R.led, by
      rw [R.rows]; unfold rowsOf; rw [List.map_map]; rfl⟩
    refine ⟨.ref s.heap.objs.size, upd H s.heap.objs.size (setO X.w s.heap.objs.size (L.map fun p => Value.ref p.1)), I.laid (t' := tk) kp (Nat.le_refl _) (setO_ok hU), rfl, q _ _ (L.map fun p => D.tup (p.2.map .int)) _ hn (rvs_rowsI L fun p hp => by rw [← g.K]; exact hk3 p (sub p hp)) (vals_of_refs L) ?_ (fun x => ?_) (by rw [List.length_map]; exact R.few)⟩
    · have nd := R.nd
      unfold List.Nodup at nd ⊢
      rw [List.pairwise_map] at nd ⊢
      exact nd.imp fun h z => h (by
        injection z with z
        exact map_int_inj z)
    · rw [← hk2, List.mem_map, List.map_map, List.mem_map]
      constructor
      · rintro ⟨p, hp, e⟩
        exact ⟨p, sub p hp, e⟩
      · rintro ⟨p, hp, e⟩
        have h2 := got.all p (by rw [List.take_length]; exact hp)
        obtain ⟨p', h3, h4⟩ := List.mem_map.mp h2
        exact ⟨p', h3, by rw [← e]; simp [h4]⟩
theorem oks_of {n : Nat} : ∀ {ds : List D}, (∀ d ∈ ds, D.ok n d = true) → D.oks n ds = true
  | [], _ => rfl
  | d :: ds, h => by
    rw [D.oks, Bool.and_eq_true]
    exact ⟨h d (by simp), oks_of fun x hx => h x (by simp [hx])⟩
theorem srt_sub {ds ds1 : List D} (h : srt ds = true) (s : ∀ x ∈ ds1, x ∈ ds) : srt ds1 = true := by
  unfold srt at h ⊢
  rw [Bool.and_eq_true, Bool.and_eq_true] at h ⊢
  obtain ⟨⟨h1, h2⟩, h3⟩ := h
  refine ⟨⟨oks_of fun x hx => oks_mem h1 x (s x hx), List.all_eq_true.mpr fun a ha => List.all_eq_true.mpr fun b hb => List.all_eq_true.mp (List.all_eq_true.mp h2 a (s a ha)) b (s b hb)⟩, ?_⟩
  rw [Bool.or_eq_true] at h3 ⊢
  rcases h3 with h3 | h3
  · exact .inl (List.all_eq_true.mpr fun a ha => List.all_eq_true.mp h3 a (s a ha))
  · exact .inr (List.all_eq_true.mpr fun a ha => List.all_eq_true.mp h3 a (s a ha))
/-- the values in another order -/
theorem rv_perm {H : Hp} {us out : List Value} (p : out.Perm us) : ∀ {ds : List D} {vs : List V}, RVs G H ds vs → Vals vs us → ∃ ds1 vs1, ds1.Perm ds ∧ RVs G H ds1 vs1 ∧ Vals vs1 out := by
  induction p with
  | nil => exact fun {ds vs} a b => ⟨ds, vs, .refl _, a, b⟩
  | @cons x l1 l2 _ ih =>
    intro ds vs a b
    cases b with
    | @cons v u vs us r t =>
      cases ds with
      | nil => cases (show _ = [] from a)
      | cons d ds =>
        obtain ⟨v', r', e, a1, a2⟩ := a
        injection e with e1 e2
        subst e1 e2
        obtain ⟨ds1, vs1, q1, q2, q3⟩ := ih a2 t
        exact ⟨d :: ds1, _ :: vs1, q1.cons d, ⟨_, _, rfl, a1, q2⟩, .cons r q3⟩
  | @swap x y l =>
    intro ds vs a b
    cases b with
    | @cons v u vs us r t =>
      cases t with
      | @cons v2 u2 vs2 us2 r2 t2 =>
        match ds, a with
        | [], a => cases (show _ = [] from a)
        | [d], ⟨v', r', e, a1, a2⟩ =>
          injection e with e1 e2
          rw [show r' = [] from a2] at e2
          cases e2
        | d :: d2 :: ds, ⟨v', r', e, a1, ⟨v3, r3, e3, a3, a4⟩⟩ =>
          injection e with e1 e2
          subst e1 e2
          injection e3 with e4 e5
          subst e4 e5
          exact ⟨d2 :: d :: ds, _, .swap _ _ _, ⟨_, _, rfl, a3, ⟨_, _, rfl, a1, a4⟩⟩, .cons r2 (.cons r t2)⟩
  | trans _ _ ih1 ih2 =>
    intro ds vs a b
    obtain ⟨ds1, vs1, q1, q2, q3⟩ := ih2 a b
    obtain ⟨ds2, vs2, q4, q5, q6⟩ := ih1 q2 q3
    exact ⟨ds2, vs2, q4.trans q1, q5, q6⟩
/-- sorted(s), s a set that was made here -/
theorem sorts_w (g : XG X G k) : CallR X (.builtin "sorted") (fun xs H Q => ∃ x, xs = [x] ∧ ∃ M a us ds vs Qd, x = .ref a ∧ H a = some (setO X.w a us) ∧ RVs G H ds vs ∧ Vals vs us ∧ us.length < 64 ∧ RM G H M ∧ srt ds = true ∧ (∀ ds1 : List D, ds1.Perm ds → Qd (sortD ds1) M) ∧ ∀ v H', QL G M H Qd v H' → Q v H') := by
  intro pins s σ H xs us0 Q I r ⟨x, e, M, a, us, ds, vs, Qd, e2, ha, hv, rvs, l64, rm, hs, q, i⟩
  subst e e2
  rw [Vals.ref1 r]
  have hu := g.units
  obtain ⟨o, es, ep, t, ho, hc, hd, hf, hsz, hr, hl, hus⟩ : SetU X.w s.heap a us := (I.hok a _ ha).1
  refine PySem.Calls.call_function_entry PyProof.Rows.kind_sorted PyProof.Rows.plain_sorted PyProof.Rows.entry_sorted (PyProof.Rows.args_sorted1 _) ?_
  unfold Builtin.«sorted»
  refine wpAny_bind (m := checkCount "sorted" 1 1 _) (wpAny_pure ?_)
  refine wpAny_bind (collect_set (A := X.A.in1) (I.ok.hd g.calm) ⟨o, ho, hc, hd⟩ hf hsz hr hl fun s1 out kp hz g1 o1 pm => ?_)
  rw [hus] at pm
  obtain ⟨ds1, vs1, pd, hv1, rv1⟩ := rv_perm pm hv rvs
  have lo : out.length ≤ sizeLine := by rw [pm.length_eq, sizeLine_eq]; omega
  refine wpAny_bind (wpAny_newList ?_ lo)
  have hno : H s1.heap.objs.size = none := I.hok.fresh hz
  have kp' : ∀ b u, s.heap.get? b = some u → (s1.heap.push { cls := .type "list", data := .seq out.toArray }).get? b = some u := fun b u e => Heap.get?_push_of_some _ (kp b u e)
  have es1 : s1 = { s with heap := s1.heap, gens := s1.gens, drawn := s1.drawn, toks := s1.toks } := by
    cases s1
    cases s
    cases o1
    rfl
  have I1 : Inv X pins σ (upd H s1.heap.objs.size (.lst vs1)) { s with heap := s1.heap.push { cls := .type "list", data := .seq out.toArray }, gens := s1.gens, drawn := s1.drawn, toks := s1.toks } :=
    I.call (ch := []) (Un.laid kp' hz hno) (I.hok.laid kp' hz ⟨by rw [rv1.length]; exact lo, out, 0, rv1, Heap.get?_push_size _ rfl⟩) (by rw [g1]; exact I.bare) (fun _ z => nomatch z)
  have e1 : ({ s with heap := s1.heap.push { cls := .type "list", data := .seq out.toArray }, gens := s1.gens, drawn := s1.drawn, toks := s1.toks } : Shared) = { s1 with heap := s1.heap.push { cls := .type "list", data := .seq out.toArray } } := by
    rw [es1]
  rw [e1] at I1
  have hvn : RVs G (upd H s1.heap.objs.size (.lst vs1)) ds1 vs1 := hv1.mono g.ok (.new hno)
  refine wpAny_bind (wpAny_holding (wpAny_mono (sort_own (A := X.A.in1) (E := X.xe) (Q := fun _ s2 => EP X pins σ Q (.ref s1.heap.objs.size) s2) g (by show X.A.units + 1 + 100 < _; omega) I1 upd_same hvn (srt_sub hs fun x hx => pd.mem_iff.mp hx) fun ws s2 hw I2 => ?_) (fun _ _ q => ?_) fun _ _ z => z))
  · rw [upd_upd] at I2
    have hw2 : RVs G (upd H s1.heap.objs.size (.lst ws)) (sortD ds1) ws := hw.mono g.ok (by
      have := Kpt.own (o := .lst ws) (upd_same (H := H) (a := s1.heap.objs.size) (o := .lst vs1))
      rw [upd_upd] at this
      exact this)
    exact ⟨.ref s1.heap.objs.size, _, I2, rfl, i _ _ ⟨sortD ds1, ws, s1.heap.objs.size, M, rfl, hno, upd_same, rm.free hno, hw2, rm.new g.ok hno, .new rm hno, q ds1 pd⟩⟩
  · exact wpAny_pure ⟨_, rfl, q⟩
end
end MP
end
section
/-! MP17: the checker of expressions is right: the proof. -/
namespace MP
open PySem PySem.Spec L2
section
variable {G : Gx} {k : Nat} {φ : CallSem}
theorem tW_cast {W W' : Env → Mem → VQ → Prop} {X : Cx} {e : Expr} (h : PE X e (tW G W)) (i : ∀ en M Q, W' en M Q → W en M Q) : PE X e (tW G W') := h.imp fun σ H Q ⟨env, M, Qd, a, b, w, d⟩ => ⟨env, M, Qd, a, b, i _ _ _ w, d⟩
theorem tWf_cast {W W' : Env → Mem → (List D → Mem → Prop) → Prop} {X : Cx} {e : Expr} (h : PE X e (tWf G W)) (i : ∀ en M Q, W' en M Q → W en M Q) : PE X e (tWf G W') := h.imp fun σ H Q ⟨env, M, Qd, a, b, w, d⟩ => ⟨env, M, Qd, a, b, i _ _ _ w, d⟩
theorem tWq_cast {W W' : Env → Mem → (List D → Mem → Prop) → Prop} {X : Cx} {e : Expr} (h : PE X e (tWq G W)) (i : ∀ en M Q, W' en M Q → W en M Q) : PE X e (tWq G W') := h.imp fun σ H Q ⟨env, M, Qd, a, b, w, d⟩ => ⟨env, M, Qd, a, b, i _ _ _ w, d⟩
theorem tWl_cast {W W' : Env → Mem → (List D → Mem → Prop) → Prop} {X : Cx} {e : Expr} (h : PE X e (tWl G W)) (i : ∀ en M Q, W' en M Q → W en M Q) : PE X e (tWl G W') := h.imp fun σ H Q ⟨env, M, Qd, a, b, w, d⟩ => ⟨env, M, Qd, a, b, i _ _ _ w, d⟩
theorem tWb_cast {W W' : Env → Mem → (Bool → Mem → Prop) → Prop} {X : Cx} {e : Expr} (h : PT X e (tWb G W)) (i : ∀ en M Q, W' en M Q → W en M Q) : PT X e (tWb G W') := h.imp fun σ H Q ⟨env, M, Qd, a, b, w, d⟩ => ⟨env, M, Qd, a, b, i _ _ _ w, d⟩
theorem tWi_cast {W W' : Env → Mem → (MP.It → Mem → Prop) → Prop} {X : Cx} {tg e : Expr} (h : PI X tg e (tWi X G W)) (i : ∀ en M Q, W' en M Q → W en M Q) : PI X tg e (tWi X G W') := ⟨fun pins s σ H R I ⟨env, M, Qd, a, b, w, d⟩ => h.run pins s σ H R I ⟨env, M, Qd, a, b, i _ _ _ w, d⟩⟩
theorem tWs_cast {W W' : Env → Mem → (List D → Mem → Prop) → Prop} {X : Cx} {e : List Expr} (h : PA X e (tWs G W)) (i : ∀ en M Q, W' en M Q → W en M Q) : PA X e (tWs G W') := h.imp fun σ H Q ⟨env, M, Qd, a, b, w, d⟩ => ⟨env, M, Qd, a, b, i _ _ _ w, d⟩
/-- a comprehension's block has what its surroundings have -/
theorem CtxC.blk {S : Sx} {X : Cx} (c : CtxC S X G k φ) (s : Shared) (H : Hp) (scope : Scope) (C : Addr) (cl : List (Str × Addr)) (fp : List Addr) : CtxC (S.blk scope) (X.blk s H scope (compEnvC scope cl C X.env) fp) G k φ := by
  refine ⟨⟨⟨c.xg.w, c.xg.K, c.xg.calm, c.xg.nd, c.xg.room, c.xg.gf⟩, ?_, c.N, nofun, fun _ h => h, c.flds, c.blt, c.cons⟩, c.fns, fun f hf => ?_, c.exc, fun h => c.lamI h, nofun⟩
  · show relabel scope X.env = relS scope S.sc
    rw [← c.sc]
    rfl
  · exact c.clss f hf
theorem own_ok {N : List Str} {is : List Nat} : (ownOf N is).map (·.2) = is := by
  unfold ownOf
  rw [List.map_map]
  exact List.map_id' is
theorem CtxC.fnI {S : Sx} {X : Cx} (c : CtxC S X G k φ) : ∀ f ∈ S.fns, FnI X G φ (S.tx f) f := c.fns
def wIfs1 (φ : CallSem) (ifs : CEs) : Env → Mem → (Bool → Mem → Prop) → Prop := fun en M Q => wIfs φ ifs en M Q noX
/-- comprehension -/
theorem lc_ok {S : Sx} {X : Cx} {e elt tg it : Expr} {cs : List Expr} {sc : Scope} {i : CI} {t : CT} {ifs : CEs} {a : CE} (cx : CtxC S X G k φ) (hx : asLC e = some (elt, tg, it, cs, sc)) (hs : notSet it = true) (hb : blkC S.N S.sc sc (ownOf S.N (tn t)) = true) (ht : ckT (S.blk sc) t tg = true)
    (hi : PI X tg it (tWi X G fun en M R => wI φ i en M R noX))
    (hifs : ∀ (s : Shared) (H : Hp) (C : Addr) (cl : List (Str × Addr)) (fp : List Addr), PTs (X.blk s H sc (compEnvC sc cl C X.env) fp) cs (tWb G (wIfs1 φ ifs)))
    (ha : ∀ (s : Shared) (H : Hp) (C : Addr) (cl : List (Str × Addr)) (fp : List Addr), PE (X.blk s H sc (compEnvC sc cl C X.env) fp) elt (tW G (WE φ a))) :
    PE X e (tWf G fun en M Q => wF φ (.lc i t ifs a) en M Q noX) := by
  obtain ⟨p, rfl⟩ := asLC_eq hx
  have ok := blkOk_by hb
  rw [← cx.N, ← cx.sc] at ok
  refine tWf_cast (pe_lcW cx.xg hi ok (fun j => by rw [own_ok]) (fun s H C cl fp => tg_ok (cx.blk s H sc C cl fp).toCtx t ht) hifs ha (folded_of hs)) fun en M Q w => ?_
  rw [wF] at w
  exact w
/-- sorted of a list that has a name -/
theorem sortl_w (g : XG X G k) : CallR X (.builtin "sorted") (fun xs H Q => ∃ x, xs = [x] ∧ ∃ M d Qd, RM G H M ∧ RV G H d x ∧ (wCutL d .non .non M fun ds M => srt ds = true ∧ Qd (sortD ds) M) ∧ ∀ v H', QL G M H Qd v H' → Q v H') := by
  intro pins s σ H xs us Q I r ⟨x, e, M, d, Qd, rm, rd, h, i⟩
  unfold wCutL at h
  split at h
  · rename_i p
    split at h
    · rename_i ds e1
      simp only [bnd, cutL, List.drop_zero, Nat.sub_zero, List.take_length] at h
      obtain ⟨vs, hr, hv⟩ := rm.rdL e1
      exact sortq_w g pins s σ H xs us Q I r ⟨x, e, M, ds, vs, p, Qd, rd, .inl hr, hv, rm, h, i⟩
    · exact h.elim
  · exact h.elim
/-- dict comprehension -/
theorem dc_ok {S : Sx} {X : Cx} {kx vx tg it : Expr} {cs : List Expr} {sc : Scope} {p : Pos} {i : CI} {t : CT} {ifs : CEs} {a b : CE} (cx : CtxC S X G k φ) (hs : notSet it = true) (hb : blkC S.N S.sc sc (ownOf S.N (tn t)) = true) (ht : ckT (S.blk sc) t tg = true)
    (hi : PI X tg it (tWi X G fun en M R => wI φ i en M R noX))
    (hifs : ∀ (s : Shared) (H : Hp) (C : Addr) (cl : List (Str × Addr)) (fp : List Addr), PTs (X.blk s H sc (compEnvC sc cl C X.env) fp) cs (tWb G (wIfs1 φ ifs)))
    (ha : ∀ (s : Shared) (H : Hp) (C : Addr) (cl : List (Str × Addr)) (fp : List Addr), PE (X.blk s H sc (compEnvC sc cl C X.env) fp) kx (tW G (WE φ a)))
    (hv : ∀ (s : Shared) (H : Hp) (C : Addr) (cl : List (Str × Addr)) (fp : List Addr), PE (X.blk s H sc (compEnvC sc cl C X.env) fp) vx (tW G (WE φ b))) :
    PE X (.DictComp kx vx [⟨tg, it, cs, 0⟩] sc p) (tW G (WE φ (.dcomp i t ifs a b))) := by
  have ok := blkOk_by hb
  rw [← cx.N, ← cx.sc] at ok
  refine tW_cast (pe_dcW cx.xg hi ok (fun j => by rw [own_ok]) (fun s H C cl fp => tg_ok (cx.blk s H sc C cl fp).toCtx t ht) hifs ha hv (folded_of hs)) fun en M Q w => ?_
  simp only [WE, wE] at w
  exact w
theorem sort_ok {S : Sx} {X : Cx} {e : Expr} {f : CF} (cx : CtxC S X G k φ) (h : (match asB S "sorted" e with | some [x] => ckF S f x | _ => false) = true) (ih : ∀ x, ckF S f x = true → PE X x (tWf G fun en M Q => wF φ f en M Q noX)) :
    PE X e (tWf G fun en M Q => wF φ (.sorted (.fr f)) en M Q noX) ∧ plainT e = true := by
  split at h
  · rename_i x hx
    refine ⟨(callB1 cx.toCtx bb_sorted (sortq_w cx.xg) hx (ih x h)).imp fun σ H Q ⟨env, M, Qd, a, b, w, d⟩ => ?_, asB_plain hx⟩
    simp only [wF, wQ] at w
    refine ⟨env, M, _, a, b, w, fun v H1 q => ?_⟩
    obtain ⟨ds, vs, p, M1, e, _, c1, _, c2, c3, c4, c5⟩ := q
    exact ⟨M1, ds, vs, p, Qd, e, .of c1, c2, c3, c5, fun w H5 q => d w H5 (QL.step c4 q)⟩
  · cases h
mutual
theorem e_ok : ∀ (c : CE) {S : Sx} {X : Cx} {e : Expr}, CtxC S X G k φ → ckE S c e = true → EOk φ G c X e
  | .var i, S, X, e, cx, h => by
    rw [ckE] at h
    split at h
    · rename_i x hx
      obtain ⟨p, rfl⟩ := asName_eq hx
      rw [and_iff, and_iff, decide_eq_true_eq] at h
      obtain ⟨⟨h1, h2⟩, h3⟩ := h
      refine .plain cx.xg ((pe_var (by rw [cx.N]; exact h1) (visB_of cx.toCtx h2) (okNm_d h3) (okNm_c h3)).imp fun σ H Q ⟨env, M, Qd, a, b, w, d⟩ => ?_) rfl
      simp only [WE, wE] at w
      split at w
      · rename_i dv hd
        obtain ⟨v, e1, e2⟩ := a.2 i dv hd
        exact ⟨v, e1, d _ _ (.same (e2.v w.1) b w.2)⟩
      · exact w.elim
    · cases h
  | .con dd, S, X, e, cx, h => by
    rw [ckE] at h
    split at h
    · rename_i c hc
      rw [decide_eq_true_eq] at h
      subst h
      rcases asConst_eq hc with ⟨k', p, rfl, rfl⟩ | ⟨b', k', p, rfl, rfl⟩ | ⟨i, k', p, rfl, rfl⟩ | ⟨x, k', p, rfl, rfl⟩
      · exact .plain cx.xg (pe_non.imp fun σ H Q ⟨env, M, Qd, a, b, w, d⟩ => by simp only [WE, wE] at w; exact d _ _ (.non b w)) rfl
      · exact .plain cx.xg (pe_bl.imp fun σ H Q ⟨env, M, Qd, a, b, w, d⟩ => by simp only [WE, wE] at w; exact d _ _ (.bl b w)) rfl
      · exact .plain cx.xg (pe_int.imp fun σ H Q ⟨env, M, Qd, a, b, w, d⟩ => by simp only [WE, wE] at w; exact d _ _ (.int b w)) rfl
      · exact .plain cx.xg (pe_str.imp fun σ H Q ⟨env, M, Qd, a, b, w, d⟩ => by simp only [WE, wE] at w; exact d _ _ (.str b w)) rfl
    · split at h
      · rename_i x hx
        obtain ⟨p, rfl⟩ := asName_eq hx
        rw [and_iff, List.any_eq_true] at h
        obtain ⟨hg, q, hq, hq2⟩ := h
        rw [and_iff, decide_eq_true_eq, decide_eq_true_eq] at hq2
        obtain ⟨g1, g2⟩ := glB_of cx.toCtx hg
        obtain ⟨u, v, m1, m2, m3⟩ := cx.cons q hq
        rw [hq2.1] at m1
        exact .plain cx.xg ((pe_glob g1 m1 m2 (okNm_d g2)).imp fun σ H Q ⟨env, M, Qd, a, b, w, d⟩ => by
          simp only [WE, wE] at w
          exact d _ _ (.same (m3 H) b (by rw [hq2.2]; exact w))) rfl
      · cases h
  | .bin op a b, S, X, e, cx, h => by
    rw [ckE] at h
    split at h
    · rename_i x o y hx
      obtain ⟨p, rfl⟩ := asBin_eq hx
      rw [and_iff, and_iff, decide_eq_true_eq] at h
      obtain ⟨rfl, h1, h2⟩ := h
      exact .plain cx.xg ((pe_op (op_bin cx.xg op) (e_ok a cx h1).pe (e_ok b cx h2).pe).imp fun σ H Q hh => tW_op cx.xg.ok (fun en M Q w => by simp only [WE, wE] at w; exact w) hh) rfl
    · cases h
  | .neg a, S, X, e, cx, h => by
    rw [ckE] at h
    split at h
    · rename_i o x hx
      obtain ⟨p, rfl⟩ := asUn_eq hx
      rw [and_iff, decide_eq_true_eq] at h
      obtain ⟨rfl, h1⟩ := h
      exact .plain cx.xg ((pe_un un_negW (e_ok a cx h1).pe).imp fun σ H Q hh => tW_un cx.xg.ok (fun en M Q w => by simp only [WE, wE] at w; exact w) hh) rfl
    · cases h
  | .cmp op a b, S, X, e, cx, h => by
    rw [ckE] at h
    split at h
    · rename_i x o y hx
      rw [and_iff, and_iff, and_iff, decide_eq_true_eq] at h
      obtain ⟨⟨rfl, hs⟩, h1, h2⟩ := h
      have ha := (e_ok a cx h1).pe
      have hb := (e_ok b cx h2).pe
      exact ⟨tW_cast (cmp_pe cx.toCtx hx hs ha hb) fun en M Q w => by simp only [WE, wE] at w; exact w, tWb_cast (cmp_pt cx.toCtx hx hs ha hb) fun en M Q w => by simp only [WT, wE] at w; exact w⟩
    · cases h
  | .chain o1 o2 a b c, S, X, e, cx, h => by
    rw [ckE] at h
    split at h
    · rename_i x p1 y p2 z hx
      simp only [and_iff, decide_eq_true_eq] at h
      obtain ⟨⟨⟨rfl, rfl⟩, hs⟩, h1, h2, h3⟩ := h
      have ha := (e_ok a cx h1).pe
      have hb := (e_ok b cx h2).pe
      have hc := (e_ok c cx h3).pe
      exact ⟨tW_cast (chain_pe cx.toCtx hx hs ha hb hc) fun en M Q w => by simp only [WE, wE] at w; exact w, tWb_cast (chain_pt cx.toCtx hx hs ha hb hc) fun en M Q w => by simp only [WT, wE] at w; exact w⟩
    · cases h
  | .and_ a b, S, X, e, cx, h => by
    rw [ckE] at h
    split at h
    · rename_i o x y r p hx
      have he := asBool_eq hx
      simp only [and_iff, decide_eq_true_eq] at h
      obtain ⟨rfl, h1, h2⟩ := h
      subst he
      have ha := e_ok a cx h1
      have hb := e_ok b cx h2
      exact ⟨tW_cast (and_pe cx.toCtx ha.pe hb.pe) fun en M Q w => by simp only [WE, wE] at w; exact w, tWb_cast (and_pt cx.toCtx ha.pt hb.pt) fun en M Q w => by rw [and_eq] at w; exact w⟩
    · cases h
  | .or_ a b, S, X, e, cx, h => by
    rw [ckE] at h
    split at h
    · rename_i o x y r p hx
      have he := asBool_eq hx
      simp only [and_iff, decide_eq_true_eq] at h
      obtain ⟨rfl, h1, h2⟩ := h
      subst he
      have ha := e_ok a cx h1
      have hb := e_ok b cx h2
      exact ⟨tW_cast (or_pe cx.toCtx ha.pe hb.pe) fun en M Q w => by simp only [WE, wE] at w; exact w, tWb_cast (or_pt cx.toCtx ha.pt hb.pt) fun en M Q w => by rw [or_eq] at w; exact w⟩
    · cases h
  | .not_ a, S, X, e, cx, h => by
    rw [ckE] at h
    split at h
    · rename_i o x hx
      obtain ⟨p, rfl⟩ := asUn_eq hx
      rw [and_iff, decide_eq_true_eq] at h
      obtain ⟨rfl, h1⟩ := h
      have ha := e_ok a cx h1
      exact ⟨tW_cast (not_pe cx.toCtx ha.pe) fun en M Q w => by simp only [WE, wE] at w; exact w, tWb_cast (not_pt ha.pt) fun en M Q w => by simp only [WT, wE] at w; exact w⟩
    · cases h
  | .ite c a b, S, X, e, cx, h => by
    rw [ckE] at h
    split at h
    · rename_i x y z hx
      obtain ⟨p, rfl⟩ := asIf_eq hx
      simp only [and_iff] at h
      obtain ⟨h1, h2, h3⟩ := h
      have hc := e_ok c cx h1
      have ha := e_ok a cx h2
      have hb := e_ok b cx h3
      exact ⟨tW_cast (ite_pe cx.toCtx hc.pt ha.pe hb.pe) fun en M Q w => by simp only [WE, wE] at w; exact w, tWb_cast (ite_pt cx.toCtx hc.pt ha.pt hb.pt) fun en M Q w => by simp only [WT, wE] at w; exact w⟩
    · cases h
  | .fld a f, S, X, e, cx, h => by
    rw [ckE] at h
    split at h
    · rename_i x g hx
      obtain ⟨p, rfl⟩ := asAttr_eq hx
      simp only [and_iff, decide_eq_true_eq] at h
      obtain ⟨⟨⟨rfl, hf⟩, hb⟩, h1⟩ := h
      exact .plain cx.xg (tW_cast (fld_pe cx.toCtx hf hb (e_ok a cx h1).pe) fun en M Q w => by simp only [WE, wE] at w; exact w) rfl
    · cases h
  | .ix a b, S, X, e, cx, h => by
    rw [ckE] at h
    split at h
    · rename_i x y hx
      obtain ⟨p, rfl⟩ := asSub_eq hx
      simp only [and_iff] at h
      obtain ⟨hn, h1, h2⟩ := h
      exact .plain cx.xg ((pe_ix (ix_w cx.xg) (e_ok a cx h1).pe (e_ok b cx h2).pe (plainIx_of hn)).imp fun σ H Q hh => tW_op cx.xg.ok (fun en M Q w => by simp only [WE, wE] at w; exact w) hh) rfl
    · cases h
  | .cut a lo hi, S, X, e, cx, h => by
    rw [ckE] at h
    split at h
    · rename_i x y hx
      obtain ⟨p, rfl⟩ := asSub_eq hx
      split at h
      · rename_i l r hy
        obtain ⟨p2, rfl⟩ := asSlice_eq hy
        simp only [and_iff] at h
        obtain ⟨h1, h2, h3⟩ := h
        have hl : PO X l (tWo G fun en M Q => WE φ lo en M fun x M => isPt x = true ∧ Q x M) := by
          split at h2
          · exact po_yes (e_ok lo cx h2).pe fun _ _ _ w => w
          · rw [isNon_eq h2]; exact po_no _ fun en M Q w => by simp only [WE, wE] at w; exact w.2
        have hh : PO X r (tWo G fun en M Q => WE φ hi en M fun x M => isPt x = true ∧ Q x M) := by
          split at h3
          · exact po_yes (e_ok hi cx h3).pe fun _ _ _ w => w
          · rw [isNon_eq h3]; exact po_no _ fun en M Q w => by simp only [WE, wE] at w; exact w.2
        exact .plain cx.xg (tW_cast (cut_pe cx.toCtx (e_ok a cx h1).pe hl hh) fun en M Q w => by simp only [WE, wE] at w; exact w) rfl
      · cases h
    · cases h
  | .rev a b, S, X, e, cx, h => by
    rw [ckE] at h
    split at h
    · rename_i x y hx
      obtain ⟨p, rfl⟩ := asSub_eq hx
      split at h
      · rename_i z hy
        obtain ⟨p2, rfl⟩ := asSliceR_eq hy
        simp only [and_iff] at h
        obtain ⟨h1, h2⟩ := h
        exact .plain cx.xg ((pe_rev (e_ok a cx h1).pe (e_ok b cx h2).pe (rev_w cx.xg)).imp fun σ H Q hh => tW_op cx.xg.ok (fun en M Q w => by simp only [WE, wE] at w; exact w) hh) rfl
      · cases h
    · cases h
  | .tup es, S, X, e, cx, h => by
    rw [ckE] at h
    split at h
    · rename_i l hx
      obtain ⟨kk, p, rfl⟩ := asTuple_eq hx
      exact .plain cx.xg (tW_cast (tup_pe cx.xg.ok (es_ok es cx h)) fun en M Q w => by simp only [WE, wE] at w; exact w) rfl
    · cases h
  | .tupq q, S, X, e, cx, h => by
    rw [ckE] at h
    split at h
    · rename_i x hx
      exact .plain cx.xg ((callT1 cx.toCtx bb_tuple (tupq_w cx.xg) hx (q_ok q cx h)).imp fun σ H Q hh => tWq_un (fun en M Q w => by simp only [WE, wE] at w; exact w) hh) (asB_plain hx)
    · cases h
  | .mkl f, S, X, e, cx, h => by
    rw [ckE] at h
    obtain ⟨h1, h2⟩ := f_ok f cx h
    exact .plain cx.xg (tW_cast (f_e h1) fun en M Q w => by simp only [WE, wE] at w; exact w) h2
  | .len q, S, X, e, cx, h => by
    rw [ckE] at h
    split at h
    · rename_i x hx
      exact .plain cx.xg ((callB1 cx.toCtx bb_len (lenq_w cx.xg) hx (q_ok q cx h)).imp fun σ H Q hh => tWq_un (fun en M Q w => by simp only [WE, wE] at w; exact w) hh) (asB_plain hx)
    · cases h
  | .lenv a, S, X, e, cx, h => by
    rw [ckE] at h
    split at h
    · rename_i x hx
      exact .plain cx.xg ((callB1 cx.toCtx bb_len (len_w cx.xg) hx (e_ok a cx h).pe).imp fun σ H Q hh => tW_un cx.xg.ok (fun en M Q w => by simp only [WE, wE] at w; exact w) hh) (asB_plain hx)
    · cases h
  | .all (.of _), S, X, e, cx, h => by simp [ckE] at h
  | .all (.fr f), S, X, e, cx, h => by
    rw [ckE] at h
    split at h
    · rename_i x hx
      exact .plain cx.xg ((callB1 cx.toCtx bb_all (all_w cx.xg) hx (f_ok f cx h).1).imp fun σ H Q hh => tWl_un (fun en M Q w => by simp only [WE, wE, wQ] at w; exact w) hh) (asB_plain hx)
    · cases h
  | .any (.of _), S, X, e, cx, h => by simp [ckE] at h
  | .any (.fr f), S, X, e, cx, h => by
    rw [ckE] at h
    split at h
    · rename_i x hx
      exact .plain cx.xg ((callB1 cx.toCtx bb_any (any_w cx.xg) hx (f_ok f cx h).1).imp fun σ H Q hh => tWl_un (fun en M Q w => by simp only [WE, wE, wQ] at w; exact w) hh) (asB_plain hx)
    · cases h
  | .sum (.of _), S, X, e, cx, h => by simp [ckE] at h
  | .sum (.fr f), S, X, e, cx, h => by
    rw [ckE] at h
    split at h
    · rename_i x hx
      exact .plain cx.xg ((callB1 cx.toCtx bb_sum (sum_w cx.xg) hx (f_ok f cx h).1).imp fun σ H Q hh => tWl_un (fun en M Q w => by simp only [WE, wE, wQ] at w; exact w) hh) (asB_plain hx)
    · cases h
  | .least (.of _), S, X, e, cx, h => by simp [ckE] at h
  | .least (.fr f), S, X, e, cx, h => by
    rw [ckE] at h
    split at h
    · rename_i x hx
      exact .plain cx.xg ((callB1 cx.toCtx bb_min (leastD_w cx.xg) hx (f_ok f cx h).1).imp fun σ H Q hh => tWl_un (fun en M Q w => by simp only [WE, wE, wQ] at w; exact w) hh) (asB_plain hx)
    · cases h
  | .most (.of _), S, X, e, cx, h => by simp [ckE] at h
  | .most (.fr f), S, X, e, cx, h => by
    rw [ckE] at h
    split at h
    · rename_i x hx
      exact .plain cx.xg ((callB1 cx.toCtx bb_max (most_w cx.xg) hx (f_ok f cx h).1).imp fun σ H Q hh => tWl_un (fun en M Q w => by simp only [WE, wE, wQ] at w; exact w) hh) (asB_plain hx)
    · cases h
  | .inq n a q, S, X, e, cx, h => by
    rw [ckE] at h
    split at h
    · rename_i x o y hx
      obtain ⟨p, rfl⟩ := asCmp1_eq hx
      simp only [and_iff, decide_eq_true_eq] at h
      obtain ⟨⟨rfl, hs⟩, h1, h2⟩ := h
      have ha := (e_ok a cx h1).pe
      have hq := q_ok q cx h2
      refine ⟨(pe_cmpR (in_w cx.xg n) ha hq (noMark hs)).imp fun σ H Q ⟨env, M, Qd, a, b, w, d⟩ => ?_, (pt_cmpR (in_w cx.xg n) ha hq (noMark hs)).imp fun σ H Q ⟨env, M, Qd, a, b, w, d⟩ => ?_⟩
      · simp only [WE, wE] at w
        refine ⟨env, M, _, a, b, w, fun v H1 ⟨dx, M1, c1, c2, c3, c4⟩ => ⟨env, M1, _, a.mono cx.xg.ok (c3.kpt b), c2, c4, fun u H2 ⟨ds, vs, p, M2, e, d1, d2, d3, d4, d5⟩ => ?_⟩⟩
        exact ⟨M2, dx, ds, vs, p, Qd, c1.mono cx.xg.ok (d4.kpt c2), e, d1, d2, d3, d5, fun w H5 q => d w H5 (q.step (c3.trans d4))⟩
      · simp only [WT, wE] at w
        refine ⟨env, M, _, a, b, w, fun v H1 ⟨dx, M1, c1, c2, c3, c4⟩ => ⟨env, M1, _, a.mono cx.xg.ok (c3.kpt b), c2, c4, fun u H2 ⟨ds, vs, p, M2, e, d1, d2, d3, d4, d5⟩ => ?_⟩⟩
        refine ⟨M2, dx, ds, vs, p, fun t M => ∃ k, t = .bl k ∧ Qd k M, c1.mono cx.xg.ok (d4.kpt c2), e, d1, d2, d3, ⟨d5.1, d5.2.1, _, rfl, d5.2.2⟩, fun w H5 ⟨t, M', q1, q2, q3, kk, e, q4⟩ => ?_⟩
        subst e
        exact ⟨kk, q1, d _ _ ⟨M', q2, (c3.trans d4).trans q3, q4⟩⟩
    · cases h
  | .ind n a b, S, X, e, cx, h => by
    rw [ckE] at h
    split at h
    · rename_i x o y hx
      obtain ⟨p, rfl⟩ := asCmp1_eq hx
      simp only [and_iff, decide_eq_true_eq] at h
      obtain ⟨⟨rfl, hs⟩, h1, h2⟩ := h
      have ha := (e_ok a cx h1).pe
      have hb := (e_ok b cx h2).pe
      refine ⟨(pe_cmpR (ind_w cx.xg n) ha hb (noMark hs)).imp fun σ H Q hh => tW_op cx.xg.ok (fun en M Q w => by simp only [WE, wE] at w; exact w) hh, (pt_cmpR (ind_w cx.xg n) ha hb (noMark hs)).imp fun σ H Q ⟨env, M, Qd, a, b, w, d⟩ => ?_⟩
      simp only [WT, wE] at w
      refine ⟨env, M, _, a, b, w, fun v H1 ⟨dx, M1, c1, c2, c3, c4⟩ => ⟨env, M1, _, a.mono cx.xg.ok (c3.kpt b), c2, c4, fun u H2 ⟨dy, M2, d1, d2, d3, d4⟩ => ?_⟩⟩
      have d4' : wInD n dx dy M2 fun t M => ∃ k, t = .bl k ∧ Qd k M := by
        dsimp only [wInD] at d4 ⊢
        split at d4
        · split at d4
          · exact ⟨d4.1, _, rfl, d4.2⟩
          · exact d4.elim
        · exact d4.elim
      refine ⟨M2, dx, dy, _, d2, c1.mono cx.xg.ok (d3.kpt c2), d1, d4', fun w H5 ⟨t, M', q1, q2, q3, kk, e, q4⟩ => ?_⟩
      subst e
      exact ⟨kk, q1, d _ _ ⟨M', q2, (c3.trans d3).trans q3, q4⟩⟩
    · cases h
  | .dnew .nil, S, X, e, cx, h => by
    rw [ckE] at h
    obtain ⟨p, rfl⟩ := isDict0_eq h
    exact .plain cx.xg (tW_cast (dict_pe cx.toCtx) fun en M Q w => by simp only [WE, wE, wKs] at w; exact fun p hp => ⟨hp, w p hp hp⟩) rfl
  | .dnew (.cons kk vv .nil), S, X, e, cx, h => by
    rw [ckE] at h
    split at h
    · rename_i x y hx
      simp only [and_iff] at h
      obtain ⟨p, rfl⟩ := asDict1_eq hx
      exact .plain cx.xg (tW_cast (disp1_pe cx.toCtx (e_ok kk cx h.1).pe (e_ok vv cx h.2).pe) fun en M Q w => by simp only [WE, wE, wKs] at w; exact w) rfl
    · cases h
  | .dnew (.cons _ _ (.cons _ _ _)), S, X, e, cx, h => by simp [ckE] at h
  | .dget dd kk xx, S, X, e, cx, h => by
    rw [ckE] at h
    split at h
    · rename_i o a b hx
      simp only [and_iff] at h
      exact .plain cx.xg (tW_cast (dget2_pe cx.toCtx hx (e_ok dd cx h.1).pe (e_ok kk cx h.2.1).pe (e_ok xx cx h.2.2).pe) fun en M Q w => by simp only [WE, wE] at w; exact w) (asM_plain hx)
    · rename_i o a hx
      simp only [and_iff] at h
      exact .plain cx.xg (tW_cast (dget1_pe cx.toCtx hx (e_ok dd cx h.1).pe (e_ok kk cx h.2.1).pe) fun en M Q w => by rw [isNon_eq h.2.2] at w; simp only [WE, wE] at w; exact w) (asM_plain hx)
    · cases h
  | .dpop dd kk, S, X, e, cx, h => by
    rw [ckE] at h
    split at h
    · rename_i o a hx
      simp only [and_iff] at h
      exact .plain cx.xg (tW_cast (dpop_pe cx.toCtx hx (e_ok dd cx h.1).pe (e_ok kk cx h.2).pe) fun en M Q w => by simp only [WE, wE] at w; exact w) (asM_plain hx)
    · cases h
  | .dcopy a, S, X, e, cx, h => by
    rw [ckE] at h
    split at h
    · rename_i x hx
      exact .plain cx.xg (tW_cast (dcopy_pe cx.toCtx hx (e_ok a cx h).pe) fun en M Q w => by simp only [WE, wE] at w; exact w) (asB_plain hx)
    · cases h
  | .abs a, S, X, e, cx, h => by
    rw [ckE] at h
    split at h
    · rename_i x hx
      exact .plain cx.xg ((callB1 cx.toCtx bb_abs abs_w hx (e_ok a cx h).pe).imp fun σ H Q hh => tW_un cx.xg.ok (fun en M Q w => by simp only [WE, wE] at w; exact w) hh) (asB_plain hx)
    · cases h
  | .int a, S, X, e, cx, h => by
    rw [ckE] at h
    split at h
    · rename_i x hx
      exact .plain cx.xg ((callT1 cx.toCtx bb_int int_w hx (e_ok a cx h).pe).imp fun σ H Q hh => tW_un cx.xg.ok (fun en M Q w => by simp only [WE, wE] at w; exact w) hh) (asB_plain hx)
    · cases h
  | .isi a [], S, X, e, cx, h => by simp [ckE] at h
  | .isi a [t], S, X, e, cx, h => by
    rw [ckE] at h
    split at h
    · rename_i x y hx
      simp only [and_iff] at h
      refine .plain cx.xg (tW_cast (isi_pe cx hx h.1 (e_ok a cx h.2).pe) fun en M Q w => ?_) (asB_plain hx)
      simp only [WE, wE] at w
      have e0 : ∀ (M : Mem) (d : D), isTypes M d [t] = isType M d t := fun M d => by
        simp only [isTypes]
        cases isType M d t <;> simp
      simp only [e0] at w
      exact w
    · cases h
  | .isi a (_ :: _ :: _), S, X, e, cx, h => by simp [ckE] at h
  | .call f es, S, X, e, cx, h => by
    rw [ckE] at h
    split at h
    · rename_i x l hx
      obtain ⟨p, q, rfl⟩ := asCall_eq hx
      simp only [and_iff, decide_eq_true_eq] at h
      obtain ⟨⟨⟨rfl, hf⟩, hg⟩, h1⟩ := h
      cases l with
      | nil =>
        cases es with
        | nil => exact .plain cx.xg (tW_cast (call0_pe cx hf hg) fun en M Q w => by simp only [WE, wE, wEs] at w; exact w) rfl
        | cons _ _ => simp [ckEs] at h1
      | cons y ys => exact .plain cx.xg (tW_cast (call_pe cx hf hg (ckEs_star h1) (by simp) (es_ok es cx h1)) fun en M Q w => by simp only [WE, wE] at w; exact w) rfl
    · cases h
  | .two most a b, S, X, e, cx, h => by
    rw [ckE] at h
    split at h
    · rename_i x y hx
      simp only [and_iff] at h
      cases most with
      | false => exact .plain cx.xg ((callB2 cx.toCtx bb_min (least2_w cx.xg) hx (e_ok a cx h.1).pe (e_ok b cx h.2).pe).imp fun σ H Q hh => tW_op cx.xg.ok (fun en M Q w => by simp only [WE, wE] at w; exact w) hh) (asB_plain hx)
      | true => exact .plain cx.xg ((callB2 cx.toCtx bb_max (most2_w cx.xg) hx (e_ok a cx h.1).pe (e_ok b cx h.2).pe).imp fun σ H Q hh => tW_op cx.xg.ok (fun en M Q w => by simp only [WE, wE] at w; exact w) hh) (asB_plain hx)
    · cases h
  | .make f es, S, X, e, cx, h => by
    rw [ckE] at h
    split at h
    · rename_i x l hx
      obtain ⟨p, q, rfl⟩ := asCall_eq hx
      simp only [and_iff, decide_eq_true_eq] at h
      obtain ⟨⟨⟨⟨rfl, hf⟩, hg⟩, hn⟩, h1⟩ := h
      exact .plain cx.xg (tW_cast (make_pe cx hf hg (ckEs_star h1) (by rintro rfl; cases hn) (es_ok es cx h1)) fun en M Q w => by simp only [WE, wE] at w; exact w) rfl
    · cases h
  | .pop a, S, X, e, cx, h => by
    rw [ckE] at h
    split at h
    · rename_i o hx
      refine .plain cx.xg (meth0_pe (f := wPop) PySem.F.plainAttrs_list PySem.F.slot_list_pop PySem.F.type_list_pop (pop_w cx.xg) hx (e_ok a cx h).pe (fun en M Q w => by simp only [WE, wE] at w; exact w) (fun pins σ H s M d v u Q I rm rd r q => kindL I rm rd r ?_) fun v H Q q => ⟨rfl, q⟩) (asM_plain hx)
      unfold wPop at q
      split at q
      · rename_i p
        split at q
        · rename_i ds e1
          unfold isL
          simp only [Mem.rd, e1]
        · exact q.elim
      · exact q.elim
    · cases h
  | .append a b, S, X, e, cx, h => by
    rw [ckE] at h
    split at h
    · rename_i o x hx
      simp only [and_iff] at h
      exact .plain cx.xg (tW_cast (append_pe cx.toCtx hx (e_ok a cx h.1).pe (e_ok b cx h.2).pe) fun en M Q w => by simp only [WE, wE] at w; exact w) (asM_plain hx)
    · cases h
  | .extend a q, S, X, e, cx, h => by
    rw [ckE] at h
    split at h
    · rename_i o x hx
      simp only [and_iff] at h
      exact .plain cx.xg (tW_cast (extend_pe cx.toCtx hx (e_ok a cx h.1).pe (ql_ok q cx h.2)) fun en M Q w => by simp only [WE, wE] at w; exact w) (asM_plain hx)
    · cases h
  | .reverse a, S, X, e, cx, h => by
    rw [ckE] at h
    split at h
    · rename_i o hx
      refine .plain cx.xg (meth0_pe (f := wReverse) PySem.F.plainAttrs_list PySem.F.slot_list_reverse PySem.F.type_list_reverse (reverse_w cx.xg) hx (e_ok a cx h).pe (fun en M Q w => by simp only [WE, wE] at w; exact w) (fun pins σ H s M d v u Q I rm rd r q => kindL I rm rd r ?_) fun v H Q q => ⟨rfl, q⟩) (asM_plain hx)
      unfold wReverse at q
      split at q
      · rename_i p
        split at q
        · rename_i ds e1
          unfold isL
          simp only [Mem.rd, e1]
        · exact q.elim
      · exact q.elim
    · cases h
  | .dclear a, S, X, e, cx, h => by
    rw [ckE] at h
    split at h
    · rename_i o hx
      refine .plain cx.xg (meth0_pe (f := wDclear) PySem.F.plainAttrs_dict PySem.F.slot_dict_clear PySem.F.type_dict_clear (dclear_w cx.xg) hx (e_ok a cx h).pe (fun en M Q w => by simp only [WE, wE] at w; exact w) (fun pins σ H s M d v u Q I rm rd r q => kindD cx.xg I rm rd r ?_) fun v H Q q => ⟨rfl, q⟩) (asM_plain hx)
      unfold wDclear at q
      split at q
      · rename_i p
        split at q
        · rename_i ds e1
          unfold isDct
          simp only [Mem.rd, e1]
        · exact q.elim
      · exact q.elim
    · cases h
  | .fnv _, S, X, e, cx, h => by simp [ckE] at h
  | .dcomp i t ifs k v, S, X, e, cx, h => by
    rw [ckE] at h
    split at h
    · rename_i kx vx tg it cs sc hx
      simp only [and_iff] at h
      obtain ⟨⟨⟨h1, h2⟩, h3⟩, h4, h5, h6, h7⟩ := h
      obtain ⟨p, rfl⟩ := asDC_eq hx
      exact .plain cx.xg (dc_ok cx h2 h3 h4 (i_ok i cx h1) (fun s H C cl fp => ifs_ok ifs (cx.blk s H sc C cl fp) h5) (fun s H C cl fp => (e_ok k (cx.blk s H sc C cl fp) h6).pe) fun s H C cl fp => (e_ok v (cx.blk s H sc C cl fp) h7).pe) rfl
    · cases h
  | .callL f .nil l cap, S, X, e, cx, h => by
    rw [ckE] at h
    split at h
    · rename_i x ps b sc hx
      obtain ⟨p, q, lp, rfl⟩ := asCallL0_eq hx
      simp only [and_iff, decide_eq_true_eq] at h
      obtain ⟨⟨⟨rfl, h1⟩, h2⟩, h4⟩ := h
      unfold ckLam at h4
      simp only [and_iff] at h4
      obtain ⟨⟨⟨⟨t1, t2⟩, t3⟩, t4⟩, t5⟩ := h4
      split at t5
      · rename_i E hE
        simp only [and_iff, List.all_eq_true, Bool.or_eq_true, Bool.not_eq_true', decide_eq_true_eq, decide_eq_false_iff_not] at t5
        obtain ⟨⟨u1, u2⟩, u3⟩ := t5
        obtain ⟨L, l1, l2, cc, P, l3, l4, l5, l6⟩ := cx.lamM t2
        have hdef : defaultsOf ps X.env = ([], []) := by
          unfold noDefaults at t4
          split at t4
          · rfl
          · cases t4
        refine .plain cx.xg (tW_cast (callL0_pe (d := ⟨X.env.qual ++ "<lambda>", ps, b, sc, E.ps, E.fr, E.N⟩) cx l1 (l2 l ps b sc E hE t3) h1 h2 t1 l3 l4 rfl l5 l6 hdef (fun z hz e => ?_) u2 u3) fun en M Q w => ?_) rfl
        · rcases u1 z hz with (w | w) | w
          · exact absurd e w
          · exact .inl w
          · exact .inr w
        · simp only [WE, wE, wEs] at w
          exact w
      · cases t5
    · cases h
  | .callL f (.cons _ (.cons _ _)) l cap, S, X, e, cx, h => by simp [ckE] at h
  | .callL f (.cons a .nil) l cap, S, X, e, cx, h => by
    rw [ckE] at h
    split at h
    · rename_i x y ps b sc hx
      obtain ⟨p, q, lp, rfl⟩ := asCallL_eq hx
      simp only [and_iff, decide_eq_true_eq] at h
      obtain ⟨⟨⟨⟨⟨rfl, h1⟩, h2⟩, h3⟩, h4⟩, h5⟩ := h
      unfold ckLam at h4
      simp only [and_iff] at h4
      obtain ⟨⟨⟨⟨t1, t2⟩, t3⟩, t4⟩, t5⟩ := h4
      split at t5
      · rename_i E hE
        simp only [and_iff, List.all_eq_true, Bool.or_eq_true, Bool.not_eq_true', decide_eq_true_eq, decide_eq_false_iff_not] at t5
        obtain ⟨⟨u1, u2⟩, u3⟩ := t5
        obtain ⟨L, l1, l2, cc, P, l3, l4, l5, l6⟩ := cx.lamM t2
        have hdef : defaultsOf ps X.env = ([], []) := by
          unfold noDefaults at t4
          split at t4
          · rfl
          · cases t4
        refine .plain cx.xg (tW_cast (callL_pe (d := ⟨X.env.qual ++ "<lambda>", ps, b, sc, E.ps, E.fr, E.N⟩) cx l1 (l2 l ps b sc E hE t3) h1 h2 h3 (e_ok a cx h5).pe t1 l3 l4 rfl l5 l6 hdef (fun z hz e => ?_) u2 u3) fun en M Q w => ?_) rfl
        · rcases u1 z hz with (w | w) | w
          · exact absurd e w
          · exact .inl w
          · exact .inr w
        · simp only [WE, wE, wEs] at w
          exact w
      · cases t5
    · cases h
  | .callv i es, S, X, e, cx, h => by
    rw [ckE] at h
    split at h
    · rename_i x l hx
      obtain ⟨p, q, rfl⟩ := asCall_eq hx
      simp only [and_iff, decide_eq_true_eq] at h
      obtain ⟨⟨⟨⟨⟨h1, h2⟩, h3⟩, h4⟩, h5⟩, h6⟩ := h
      obtain ⟨L, hL⟩ := cx.lamI h4
      cases l with
      | nil => cases h5
      | cons y ys => exact .plain cx.xg (tW_cast (callv_pe cx hL h1 h2 h3 (ckEs_star h6) (es_ok es cx h6)) fun en M Q w => by simp only [WE, wE] at w; exact w) rfl
    · cases h
theorem es_ok : ∀ (cs : CEs) {S : Sx} {X : Cx} {es : List Expr}, CtxC S X G k φ → ckEs S cs es = true → PA X es (tWs G fun en M Q => wEs φ cs en M Q noX)
  | .nil, S, X, [], cx, h => nil_pa fun en M Q w => by simp only [wEs] at w; exact w
  | .cons c cs, S, X, e :: es, cx, h => by
    rw [ckEs] at h
    simp only [and_iff] at h
    exact cons_pa cx.xg.ok (fun en M Q w => by simp only [wEs] at w; exact w) h.1 (e_ok c cx h.2.1).pe (es_ok cs cx h.2.2)
  | .nil, S, X, _ :: _, cx, h => by simp [ckEs] at h
  | .cons _ _, S, X, [], cx, h => by simp [ckEs] at h
theorem q_ok : ∀ (q : CQ) {S : Sx} {X : Cx} {e : Expr}, CtxC S X G k φ → ckQ S q e = true → PE X e (tWq G fun en M Q => wQ φ q en M Q noX)
  | .of c, S, X, e, cx, h => by
    rw [ckQ] at h
    exact tWq_cast (q_of (e_ok c cx h).pe) fun en M Q w => by simp only [wQ] at w; exact w
  | .fr f, S, X, e, cx, h => by
    rw [ckQ] at h
    exact tWq_cast (f_q (f_ok f cx h).1) fun en M Q w => by simp only [wQ] at w; exact w
theorem ql_ok : ∀ (q : CQ) {S : Sx} {X : Cx} {e : Expr}, CtxC S X G k φ → ckQ S q e = true → PE X e (tWl G fun en M Q => wQL φ q en M Q noX)
  | .of c, S, X, e, cx, h => by
    rw [ckQ] at h
    exact tWl_cast (l_of (e_ok c cx h).pe) fun en M Q w => by simp only [wQL] at w; exact w
  | .fr f, S, X, e, cx, h => by
    rw [ckQ] at h
    exact tWl_cast (f_l (f_ok f cx h).1) fun en M Q w => by simp only [wQL] at w; exact w
theorem f_ok : ∀ (f : CF) {S : Sx} {X : Cx} {e : Expr}, CtxC S X G k φ → ckF S f e = true → PE X e (tWf G fun en M Q => wF φ f en M Q noX) ∧ plainT e = true
  | .disp es, S, X, e, cx, h => by
    rw [ckF] at h
    split at h
    · rename_i l hx
      obtain ⟨p, rfl⟩ := asList_eq hx
      exact ⟨tWf_cast (lst_pe cx.xg.ok (es_ok es cx h)) fun en M Q w => by simp only [wF] at w; exact w, rfl⟩
    · cases h
  | .lc i t ifs a, S, X, e, cx, h => by
    rw [ckF] at h
    split at h
    · rename_i elt tg it cs sc hx
      simp only [and_iff] at h
      obtain ⟨⟨⟨h1, h2⟩, h3⟩, h4, h5, h6⟩ := h
      refine ⟨lc_ok cx hx h2 h3 h4 (i_ok i cx h1) (fun s H C cl fp => ifs_ok ifs (cx.blk s H sc C cl fp) h5) fun s H C cl fp => (e_ok a (cx.blk s H sc C cl fp) h6).pe, ?_⟩
      obtain ⟨p, rfl⟩ := asLC_eq hx
      rfl
    · cases h
  | .list q, S, X, e, cx, h => by
    rw [ckF] at h
    split at h
    · rename_i x hx
      exact ⟨(callT1 cx.toCtx bb_list (listq_w cx.xg) hx (q_ok q cx h)).imp fun σ H Q hh => tWql_un (fun en M Q w => by simp only [wF] at w; exact w) hh, asB_plain hx⟩
    · cases h
  | .keys a, S, X, e, cx, h => by
    rw [ckF] at h
    split at h
    · rename_i x hx
      refine ⟨(callT1 cx.toCtx bb_list (listd_w cx.xg) hx (e_ok a cx h).pe).imp fun σ H Q ⟨env, M, Qd, a, b, w, d⟩ => ?_, asB_plain hx⟩
      simp only [wF] at w
      exact ⟨env, M, _, a, b, w, fun v H1 ⟨dx, M1, c1, c2, c3, c4⟩ => ⟨M1, dx, Qd, c2, c1, c4, fun w H5 q => d w H5 (QL.step c3 q)⟩⟩
    · cases h
  | .sorted (.of _), S, X, e, cx, h => by simp [ckF] at h
  | .sorted (.fr (.keys a)), S, X, e, cx, h => by
    rw [ckF] at h
    split at h
    · rename_i x hx
      rw [Bool.or_eq_true] at h
      by_cases hd : ckE S a x = true
      · refine ⟨(callB1 cx.toCtx bb_sorted (sortd_w cx.xg) hx (e_ok a cx hd).pe).imp fun σ H Q ⟨env, M, Qd, a, b, w, d⟩ => ?_, asB_plain hx⟩
        simp only [wF, wQ] at w
        exact ⟨env, M, _, a, b, w, fun v H1 ⟨dx, M1, c1, c2, c3, c4⟩ => ⟨M1, dx, Qd, c2, c1, c4, fun w H5 q => d w H5 (QL.step c3 q)⟩⟩
      · have hk := h.resolve_left hd
        exact sort_ok cx (f := .keys a) (by rw [hx]; exact hk) fun y hy => (f_ok (.keys a) cx hy).1
    · cases h
  | .sorted (.fr (.disp es)), S, X, e, cx, h => by
    rw [ckF] at h
    · exact sort_ok cx h fun x hx => (f_ok (.disp es) cx hx).1
    all_goals nofun
  | .sorted (.fr (.lc i t ifs a)), S, X, e, cx, h => by
    rw [ckF] at h
    · exact sort_ok cx h fun x hx => (f_ok (.lc i t ifs a) cx hx).1
    all_goals nofun
  | .sorted (.fr (.list q)), S, X, e, cx, h => by
    rw [ckF] at h
    · exact sort_ok cx h fun x hx => (f_ok (.list q) cx hx).1
    all_goals nofun
  | .sorted (.fr (.sorted q)), S, X, e, cx, h => by
    rw [ckF] at h
    · exact sort_ok cx h fun x hx => (f_ok (.sorted q) cx hx).1
    all_goals nofun
  | .sorted (.fr (.sset q)), S, X, e, cx, h => by
    rw [ckF] at h
    · exact sort_ok cx h fun x hx => (f_ok (.sset q) cx hx).1
    all_goals nofun
  | .sorted (.fr (.cat p q)), S, X, e, cx, h => by
    rw [ckF] at h
    · exact sort_ok cx h fun x hx => (f_ok (.cat p q) cx hx).1
    all_goals nofun
  | .sorted (.fr (.cut a lo hi)), S, X, e, cx, h => by
    by_cases hq : lo = .con .non ∧ hi = .con .non
    · obtain ⟨rfl, rfl⟩ := hq
      rw [ckF] at h
      split at h
      · rename_i x hx
        refine ⟨(callB1 cx.toCtx bb_sorted (sortl_w cx.xg) hx (e_ok a cx h).pe).imp fun σ H Q ⟨env, M, Qd, a, b, w, d⟩ => ?_, asB_plain hx⟩
        simp only [wF, wQ, wE] at w
        exact ⟨env, M, _, a, b, w, fun v H1 ⟨dx, M1, c1, c2, c3, c4⟩ => ⟨M1, dx, Qd, c2, c1, c4.2.2, fun w H5 q => d w H5 (QL.step c3 q)⟩⟩
      · cases h
    · rw [ckF] at h
      · exact sort_ok cx h fun x hx => (f_ok (.cut a lo hi) cx hx).1
      all_goals first | exact fun a z => hq (by injection z with _ z2 z3; exact ⟨z2, z3⟩) | nofun
  | .sorted (.fr (.rng lo hi)), S, X, e, cx, h => by
    rw [ckF] at h
    · exact sort_ok cx h fun x hx => (f_ok (.rng lo hi) cx hx).1
    all_goals nofun
  | .sset q, S, X, e, cx, h => by
    rw [ckF] at h
    split at h
    · rename_i x hx
      split at h
      · rename_i y hy
        refine ⟨(callB1 cx.toCtx bb_sorted (sorts_w cx.xg) hx (callT1 cx.toCtx bb_set (set_w cx.xg) hy (q_ok q cx h))).imp fun σ H Q ⟨env, M, Qd, a, b, w, d⟩ => ?_, asB_plain hx⟩
        simp only [wF] at w
        refine ⟨env, M, _, a, b, w, fun v H1 q1 => ?_⟩
        obtain ⟨ds, vs, p, M1, e, sq, hv, rm, st, h1, h2, h3⟩ := q1
        have g := cx.xg.ok
        refine ⟨ds, vs, p, e, sq, hv, h1, fun a' us ds' vs' ha hv' rvs nd mem l64 => ?_⟩
        exact ⟨M1, a', us, ds', vs', Qd, rfl, upd_same, hv'.mono g (.new ha), rvs, l64, rm.new g ha, srt_sub h2 fun x hx => (mem x).mp hx, fun ds1 pd => h3 ds1 (pd.nodup_iff.mpr nd) fun x => pd.mem_iff.trans (mem x), fun w H5 q5 => d w H5 (QL.step (st.trans (.new rm ha)) q5)⟩
      · cases h
    · cases h
  | .cat (.of a) q, S, X, e, cx, h => by
    rw [ckF] at h
    split at h
    · rename_i x o y hx
      obtain ⟨p, rfl⟩ := asBin_eq hx
      simp only [and_iff, decide_eq_true_eq] at h
      obtain ⟨rfl, h1, h2⟩ := h
      exact ⟨tWf_cast (catO_pe cx.toCtx (e_ok a cx h1).pe (ql_ok q cx h2)) fun en M Q w => by simp only [wF] at w; exact w, rfl⟩
    · cases h
  | .cat (.fr f) q, S, X, e, cx, h => by
    rw [ckF] at h
    split at h
    · rename_i x o y hx
      obtain ⟨p, rfl⟩ := asBin_eq hx
      simp only [and_iff, decide_eq_true_eq] at h
      obtain ⟨rfl, h1, h2⟩ := h
      exact ⟨tWf_cast (catF_pe cx.toCtx (f_ok f cx h1).1 (ql_ok q cx h2)) fun en M Q w => by simp only [wF] at w; exact w, rfl⟩
    · cases h
  | .cut a lo hi, S, X, e, cx, h => by
    rw [ckF] at h
    split at h
    · rename_i x y hx
      obtain ⟨p, rfl⟩ := asSub_eq hx
      split at h
      · rename_i l r hy
        obtain ⟨p2, rfl⟩ := asSlice_eq hy
        simp only [and_iff] at h
        obtain ⟨h1, h2, h3⟩ := h
        have hl : PO X l (tWo G fun en M Q => WE φ lo en M fun x M => isPt x = true ∧ Q x M) := by
          split at h2
          · exact po_yes (e_ok lo cx h2).pe fun _ _ _ w => w
          · rw [isNon_eq h2]; exact po_no _ fun en M Q w => by simp only [WE, wE] at w; exact w.2
        have hh : PO X r (tWo G fun en M Q => WE φ hi en M fun x M => isPt x = true ∧ Q x M) := by
          split at h3
          · exact po_yes (e_ok hi cx h3).pe fun _ _ _ w => w
          · rw [isNon_eq h3]; exact po_no _ fun en M Q w => by simp only [WE, wE] at w; exact w.2
        exact ⟨tWf_cast (cutL_pe cx.toCtx (e_ok a cx h1).pe hl hh) fun en M Q w => by simp only [wF] at w; exact w, rfl⟩
      · cases h
    · cases h
  | .rng _ _, S, X, e, cx, h => by simp [ckF] at h
theorem i_ok : ∀ (i : CI) {S : Sx} {X : Cx} {tg e : Expr}, CtxC S X G k φ → ckI S i tg e = true → PI X tg e (tWi X G fun en M R => wI φ i en M R noX)
  | .seq (.of a), S, X, tg, e, cx, h => by
    rw [ckI] at h
    exact tWi_cast (seqO_pi cx.toCtx (e_ok a cx h).pe) fun en M R w => by simp only [wI] at w; exact w
  | .seq (.fr f), S, X, tg, e, cx, h => by
    rw [ckI] at h
    exact tWi_cast (seqF_pi cx.toCtx (f_ok f cx h).1) fun en M R w => by simp only [wI] at w; exact w
  | .live a, S, X, tg, e, cx, h => by
    rw [ckI] at h
    exact tWi_cast (live_pi cx.toCtx (e_ok a cx h).pe) fun en M R w => by simp only [wI] at w; exact w
  | .rng lo hi, S, X, tg, e, cx, h => by
    rw [ckI] at h
    split at h
    · rename_i x hx
      simp only [and_iff] at h
      obtain ⟨h0, h1⟩ := h
      have e0 : lo = .con (.int 0) := by
        unfold isZero at h0
        split at h0
        · rfl
        · cases h0
      subst e0
      exact tWi_cast (rng1_pi cx.toCtx hx (e_ok hi cx h1).pe) fun en M R w => by simp only [wI, wE] at w; exact w
    · rename_i x y hx
      simp only [and_iff] at h
      exact tWi_cast (rng2_pi cx.toCtx hx (e_ok lo cx h.1).pe (e_ok hi cx h.2).pe) fun en M R w => by simp only [wI] at w; exact w
    · cases h
  | .enum (.seq (.of a)), S, X, tg, e, cx, h => by
    rw [ckI] at h
    simp only [and_iff] at h
    obtain ⟨h0, h⟩ := h
    obtain ⟨l, hl⟩ := Option.isSome_iff_exists.mp h0
    obtain ⟨kk, tp, rfl⟩ := asTuple_eq hl
    split at h
    · rename_i x hx
      exact tWi_cast (enum_pi cx.toCtx hx (e_ok a cx h).pe) fun en M R w => by simp only [wI] at w; exact w
    · cases h
  | .enum (.seq (.fr _)), S, X, tg, e, cx, h | .enum (.live _), S, X, tg, e, cx, h | .enum (.rng _ _), S, X, tg, e, cx, h | .enum (.enum _), S, X, tg, e, cx, h | .enum (.zip _ _), S, X, tg, e, cx, h | .enum (.zipT _ _), S, X, tg, e, cx, h | .enum (.keys _), S, X, tg, e, cx, h | .enum (.items _), S, X, tg, e, cx, h => by simp [ckI] at h
  | .zip _ _, S, X, tg, e, cx, h => by simp [ckI] at h
  | .zipT a b, S, X, tg, e, cx, h => by
    rw [ckI] at h
    simp only [and_iff] at h
    obtain ⟨h0, h⟩ := h
    obtain ⟨l, hl⟩ := Option.isSome_iff_exists.mp h0
    obtain ⟨kk, tp, rfl⟩ := asTuple_eq hl
    split at h
    · rename_i x y hx
      simp only [and_iff] at h
      exact tWi_cast (zipT_pi cx.toCtx hx (e_ok a cx h.1).pe (e_ok b cx h.2).pe) fun en M R w => by simp only [wI] at w; exact w
    · cases h
  | .keys a, S, X, tg, e, cx, h => by
    rw [ckI] at h
    exact tWi_cast (keys_pi cx.toCtx (e_ok a cx h).pe) fun en M R w => by simp only [wI] at w; exact w
  | .items _, S, X, tg, e, cx, h => by simp [ckI] at h
theorem ifs_ok : ∀ (cs : CEs) {S : Sx} {X : Cx} {es : List Expr}, CtxC S X G k φ → ckIfs S cs es = true → PTs X es (tWb G (wIfs1 φ cs))
  | .nil, S, X, [], cx, h => ⟨fun pins s σ H Q I ⟨env, M, Qd, a, b, w, d⟩ => by
    simp only [wIfs1, wIfs] at w
    exact pts_nil.run pins s σ H Q I (d _ _ ⟨M, b, .refl _ _, w⟩)⟩
  | .cons c .nil, S, X, [e], cx, h => by
    rw [ckIfs] at h
    refine pts_one ((e_ok c cx h).pt.imp fun σ H Q ⟨env, M, Qd, a, b, w, d⟩ => ⟨env, M, Qd, a, b, ?_, d⟩)
    simp only [wIfs1, wIfs] at w
    have e0 : ∀ (kk : Bool) (M : Mem), (if kk = true then Qd true M else Qd false M) = Qd kk M := fun kk M => by cases kk <;> rfl
    simp only [e0] at w
    exact w
  | .nil, S, X, _ :: _, cx, h => by simp [ckIfs] at h
  | .cons _ .nil, S, X, [], cx, h => by simp [ckIfs] at h
  | .cons _ .nil, S, X, _ :: _ :: _, cx, h => by simp [ckIfs] at h
  | .cons _ (.cons _ _), S, X, _, cx, h => by simp [ckIfs] at h
end
end
end MP
end
section
/-! MP18: statements: their checker, their pieces. -/
namespace MP
open PySem PySem.Spec L2

/-! ### taking statements apart -/
def isLC : Expr → Bool
  | .ListComp _ _ _ _ => true
  | .SetComp _ _ _ _ => true
  | .DictComp _ _ _ _ _ => true
  | _ => false
/-- name = [..] on one line: the new list goes straight to the name -/
def swB (sc : Scope) (tg e : Expr) : Bool := match tg, e with
  | .Name y py, .ListComp _ _ scope p => (match sc.names.lookup y with | some .local => true | _ => false) && (py.line == p.line) && !(scope.names.any fun (n, k) => n == y && (k == .local || k == .cell))
  | _, _ => false
def isTup : Expr → Bool
  | .Tuple _ _ _ => true
  | _ => false
def isLst : Expr → Bool
  | .List _ _ => true
  | _ => false
def asAssign : Stmt → Option (Expr × Expr)
  | .Assign [t] e _ => some (t, e)
  | _ => none
def asExpr : Stmt → Option Expr
  | .Expr e _ => some e
  | _ => none
def asRet : Stmt → Option (Option Expr)
  | .Return e _ => some e
  | _ => none
def asIfS : Stmt → Option (Expr × List Stmt × List Stmt)
  | .If c a b _ => some (c, a, b)
  | _ => none
def asFor : Stmt → Option (Expr × Expr × List Stmt)
  | .For t i b [] _ => some (t, i, b)
  | _ => none
def asWhile : Stmt → Option (Expr × List Stmt)
  | .While c b [] _ => some (c, b)
  | _ => none
def asAug : Stmt → Option (Str × Operator × Expr)
  | .AugAssign (.Name x _) o e _ => some (x, o, e)
  | _ => none
def asRaise : Stmt → Option Str
  | .Raise (some (.Call (.Name x _) [] [] _)) none _ => some x
  | _ => none
theorem asRaise_eq {st : Stmt} {x : Str} (h : asRaise st = some x) : ∃ p q r, st = .Raise (some (.Call (.Name x p) [] [] q)) none r := by unfold asRaise at h; split at h <;> cases h; exact ⟨_, _, _, rfl⟩
/-- x = ("s", e) -/
def asPair : Expr → Option (Str × Expr)
  | .Tuple [.Constant (.str s) _ _, e] _ _ => some (s, e)
  | _ => none
theorem asPair_eq {e e' : Expr} {s : Str} (h : asPair e = some (s, e')) : ∃ j p k q, e = .Tuple [.Constant (.str s) j p, e'] k q := by unfold asPair at h; split at h <;> cases h; exact ⟨_, _, _, _, rfl⟩
def asTry : Stmt → Option (Stmt × List ExceptHandler)
  | .Try [b] hs [] [] _ => some (b, hs)
  | _ => none
theorem asTry_eq {st b : Stmt} {hs : List ExceptHandler} (h : asTry st = some (b, hs)) : ∃ p, st = .Try [b] hs [] [] p := by unfold asTry at h; split at h <;> cases h; exact ⟨_, rfl⟩
/-- except X: y = e -/
def asHd : ExceptHandler → Option (Str × Str × Expr)
  | .ExceptHandler (some (.Name x _)) none [.Assign [.Name y _] e _] _ => some (x, y, e)
  | _ => none
theorem asHd_eq {h : ExceptHandler} {x y : Str} {e : Expr} (q : asHd h = some (x, y, e)) : ∃ p1 p2 p3 p4, h = .ExceptHandler (some (.Name x p1)) none [.Assign [.Name y p2] e p3] p4 := by unfold asHd at q; split at q <;> cases q; exact ⟨_, _, _, _, rfl⟩
def isPass : Stmt → Bool
  | .Pass _ => true
  | .Expr (.Constant (.str _) _ _) _ => true
  | _ => false
def isBrk : Stmt → Bool
  | .Break _ => true
  | _ => false
def isCont : Stmt → Bool
  | .Continue _ => true
  | _ => false
section
variable {st : Stmt} {e t : Expr}
theorem asAssign_eq (h : asAssign st = some (t, e)) : ∃ p, st = .Assign [t] e p := by unfold asAssign at h; split at h <;> cases h; exact ⟨_, rfl⟩
theorem asExpr_eq (h : asExpr st = some e) : ∃ p, st = .Expr e p := by unfold asExpr at h; split at h <;> cases h; exact ⟨_, rfl⟩
theorem asRet_eq {o} (h : asRet st = some o) : ∃ p, st = .Return o p := by unfold asRet at h; split at h <;> cases h; exact ⟨_, rfl⟩
theorem asIfS_eq {a b} (h : asIfS st = some (e, a, b)) : ∃ p, st = .If e a b p := by unfold asIfS at h; split at h <;> cases h; exact ⟨_, rfl⟩
theorem asFor_eq {b} (h : asFor st = some (t, e, b)) : ∃ p, st = .For t e b [] p := by unfold asFor at h; split at h <;> cases h; exact ⟨_, rfl⟩
theorem asWhile_eq {b} (h : asWhile st = some (e, b)) : ∃ p, st = .While e b [] p := by unfold asWhile at h; split at h <;> cases h; exact ⟨_, rfl⟩
theorem asAug_eq {x o} (h : asAug st = some (x, o, e)) : ∃ p q, st = .AugAssign (.Name x p) o e q := by unfold asAug at h; split at h <;> cases h; exact ⟨_, _, rfl⟩
theorem isBrk_eq (h : isBrk st = true) : ∃ p, st = .Break p := by unfold isBrk at h; split at h <;> first | exact ⟨_, rfl⟩ | cases h
theorem isCont_eq (h : isCont st = true) : ∃ p, st = .Continue p := by unfold isCont at h; split at h <;> first | exact ⟨_, rfl⟩ | cases h
theorem sw_none {l : Nat} {env : PySem.Env} {tg : Option Expr} (h : isLC e = false) : swapsWith e tg l env = pure false := by cases e <;> first | rfl | cases h
theorem sw_other {l : Nat} {env : PySem.Env} (h : asName t = none) : swapsWith e (some t) l env = pure false := by
  cases e <;> first | rfl | (cases t <;> first | rfl | cases h)
theorem stores_none {env : PySem.Env} (h : (isTup t && isTup e) = false) (h2 : isLst t = false) : swappedStores [t] e env = pure none := by
  cases t <;> first | rfl | (cases h2; done) | (cases e <;> first | rfl | cases h)
end
/-- the value goes to the target the plain way -/
def noSw (sc : Scope) (tg e : Expr) : Bool := !isLC e || (match asName tg with | some y => !(sc.names.lookup y == some .local) | none => true)
theorem noSw_eq {sc : Scope} {tg e : Expr} {l : Nat} {env : PySem.Env} (hs : env.scope = sc) (h : noSw sc tg e = true) : swapsWith e (some tg) l env = pure false := by
  unfold noSw at h
  rw [Bool.or_eq_true] at h
  rcases h with h | h
  · exact sw_none (by simpa using h)
  · cases q : asName tg with
    | none => exact sw_other q
    | some y =>
      rw [q] at h
      obtain ⟨p, rfl⟩ := asName_eq q
      have hk : (env.kindOf y == some .local) = false := by
        have : env.kindOf y = sc.names.lookup y := by rw [← hs]; rfl
        rw [this]
        simpa using h
      cases e <;> first | rfl | ((unfold swapsWith; simp only [hk, Bool.and_false, Bool.false_and]) <;> rfl)
/-! ### the checker -/
def ckAsgP (S : Sx) (t : CT) (c : CE) (st : Stmt) : Bool := match asAssign st with
  | some (tg, e) => noSw S.sc tg e && !(isTup tg && isTup e) && ckT S t tg && ckE S c e
  | none => false
def ckAsgL (S : Sx) (t : CT) (c : CE) (st : Stmt) : Bool := match t, c with
  | .name i, .mkl (.lc ci t ifs a) => (match asAssign st with
    | some (tg, e) => (match asName tg with
      | some y => swB S.sc tg e && ckName S i y && (match asLC e with
        | some (elt, ctg, it, cs, sc) => ckI S ci ctg it && notSet it && blkC S.N S.sc sc (ownOf S.N (tn t)) && (ckT (S.blk sc) t ctg && (ckIfs (S.blk sc) ifs cs && ckE (S.blk sc) a elt))
        | none => false)
      | none => false)
    | none => false)
  | _, _ => false
/-- name = {..} on one line -/
def swD (sc : Scope) (tg e : Expr) : Bool := match tg, e with
  | .Name y py, .DictComp _ _ _ scope p => (match sc.names.lookup y with | some .local => true | _ => false) && (py.line == p.line) && !(scope.names.any fun (n, k) => n == y && (k == .local || k == .cell))
  | _, _ => false
def ckAsgD (S : Sx) (t : CT) (c : CE) (st : Stmt) : Bool := match t, c with
  | .name i, .dcomp ci t ifs a b => (match asAssign st with
    | some (tg, e) => (match asName tg with
      | some y => swD S.sc tg e && ckName S i y && (match asDC e with
        | some (kx, vx, ctg, it, cs, sc) => ckI S ci ctg it && notSet it && blkC S.N S.sc sc (ownOf S.N (tn t)) && (ckT (S.blk sc) t ctg && (ckIfs (S.blk sc) ifs cs && (ckE (S.blk sc) a kx && ckE (S.blk sc) b vx)))
        | none => false)
      | none => false)
    | none => false)
  | _, _ => false
def ckAsgA (S : Sx) (t : CT) (c : CE) (st : Stmt) : Bool := match t, c with
  | .name i, .bin .add (.var j) (.con (.int n)) => (match asAug st with
    | some (x, o, e) => decide (i = j) && decide (o = .Add) && ckName S i x && ckE S (.con (.int n)) e
    | none => false)
  | _, _ => false
/-- a call that may raise: as it stands in the target -/
def ckCall (S : Sx) (mk : Bool) (f : String) (es : CEs) (e : Expr) : Bool := match asCall e with
  | some (x, l) => (if mk = true then decide (x = Str.ofString f) && decide (f ∈ S.clss) else decide (x = Str.ofString (S.tx f)) && decide (f ∈ S.fns)) && glB S x && !l.isEmpty && ckEs S es l
  | none => false
def ckCallV (S : Sx) (i : Nat) (e : Expr) : Bool := match asCall e with
  | some (x, []) => decide (S.N[i]? = some x) && visB S x && okNm x && S.cv
  | _ => false
def ckXT (S : Sx) (t : XT) (mk : Bool) (f : String) (es : CEs) (st : Stmt) : Bool := match t with
  | .no => (match asExpr st with | some e => ckCall S mk f es e | none => false)
  | .rt => (match asRet st with | some (some e) => ckCall S mk f es e | _ => false)
  | .nm i => (match asAssign st with | some (tg, e) => (match asName tg with | some y => ckName S i y && ckCall S mk f es e | none => false) | none => false)
  | .pr i s => (match asAssign st with | some (tg, e) => (match asName tg, asPair e with | some y, some (s', e') => ckName S i y && decide (s' = s) && ckCall S mk f es e' | _, _ => false) | none => false)
/-- a constant -/
def ckK : D → Expr → Bool
  | .non, .Constant .none _ _ => true
  | .bl b, .Constant (.bool b') _ _ => decide (b = b')
  | .str s, .Constant (.str s') _ _ => decide (s = s')
  | .tup [.str s, .non], .Tuple [.Constant (.str s') _ _, .Constant .none _ _] _ _ => decide (s = s')
  | .tup [.str s, .str r], .Tuple [.Constant (.str s') _ _, .Constant (.str r') _ _] _ _ => decide (s = s') && decide (r = r')
  | _, _ => false
def ckHs (S : Sx) : List (String × Nat × D) → List ExceptHandler → Bool
  | [], [] => true
  | (c, i, d) :: r, h :: hs => (match asHd h with
    | some (x, y, e) => decide (x = Str.ofString c) && (S.excs.any fun p => p.1 == c) && glB S x && ckName S i y && ckK d e
    | none => false) && ckHs S r hs
  | _, _ => false
mutual
def ckS (S : Sx) : CS → Stmt → Bool
  | .skip, st => isPass st
  | .expr c, st => (match asExpr st with | some e => !isLC e && ckE S c e | none => false)
  | .ret c, st => (match asRet st with
    | some (some e) => ckE S c e
    | some none => isNon c
    | none => false)
  | .brk, st => isBrk st
  | .cont, st => isCont st
  | .asg t c, st => ckAsgP S t c st || ckAsgL S t c st || ckAsgA S t c st || ckAsgD S t c st
  | .asgIx o i v, st => (match asAssign st with
    | some (tg, e) => (match asSub tg with
      | some (x, y) => notSlice y && (ckE S v e && (ckE S o x && ckE S i y))
      | none => false)
    | none => false)
  | .asgFld o f v, st => (match asAssign st with
    | some (tg, e) => (match asAttr tg with
      | some (x, g) => decide (g = Str.ofString f) && decide (f ∈ S.flds) && (ckE S v e && ckE S o x)
      | none => false)
    | none => false)
  | .ife c a b, st => (match asIfS st with | some (x, y, z) => ckE S c x && (ckSs S a y && ckSs S b z) | none => false)
  | .for_ i t b, st => (match asFor st with | some (tg, it, bd) => notSet it && ckT S t tg && (ckI S i tg it && ckSs S b bd) | none => false)
  | .while_ c b, st => (match asWhile st with | some (x, bd) => ckE S c x && ckSs S b bd | none => false)
  | .never, _ => true
  | .raise c anc, st => (match asRaise st with | some x => decide (x = Str.ofString c) && decide ((c, anc) ∈ S.excs) && glB S x | none => false)
  | .callX t f es, st => ckXT S t false f es st
  | .makeX t f es, st => ckXT S t true f es st
  | .tryV j i hs, st => (match asTry st with
    | some (b, h :: hds) => (match asAssign b with | some (tg, e) => (match asName tg with | some y => ckName S j y && ckCallV S i e | none => false) | none => false) && ckHs S hs (h :: hds)
    | _ => false)
  | .tryC t mk f es hs, st => (match asTry st with | some (b, h :: hds) => ckXT S t mk f es b && ckHs S hs (h :: hds) | _ => false)
  | _, _ => false
def ckSs (S : Sx) : CS → List Stmt → Bool
  | .skip, [] => true
  | .seq a b, st :: sts => ckS S a st && ckSs S b sts
  | _, _ => false
end

/-! ### readings of statements -/
def tSt (G : Gx) (E : XK) (W : Env → Mem → Ends → Prop) : TS := fun D σ H => ∃ env M K, RS G σ H env ∧ RM G H M ∧ W env M K ∧ (∀ cls d H', QX G M H K.ex cls d H' → E cls d H') ∧
  (∀ σ' H' env' M', RS G σ' H' env' → RM G H' M' → Stp M H M' H' → K.nx env' M' → D.nx σ' H') ∧ (∀ v H', QV G M H K.rt v H' → D.rt v H') ∧
  (∀ σ' H' env' M', RS G σ' H' env' → RM G H' M' → Stp M H M' H' → K.bk env' M' → D.bk σ' H') ∧ (∀ σ' H' env' M', RS G σ' H' env' → RM G H' M' → Stp M H M' H' → K.ct env' M' → D.ct σ' H')
theorem _root_.L2.PS.imp {X : Cx} {st : Stmt} {t t' : TS} (h : PS X st t) (i : ∀ D σ H, t' D σ H → t D σ H) : PS X st t' := ⟨fun pins s σ H D I q => h.run pins s σ H D I (i _ _ _ q)⟩
theorem _root_.L2.PSs.imp {X : Cx} {st : List Stmt} {t t' : TS} (h : PSs X st t) (i : ∀ D σ H, t' D σ H → t D σ H) : PSs X st t' := ⟨fun pins s σ H D I q => h.run pins s σ H D I (i _ _ _ q)⟩
section
variable {G : Gx} {k : Nat} {φ : CallSem} {S : Sx} {X : Cx} {E : XK} {e x y : Expr}
theorem tSt_cast {W W' : Env → Mem → Ends → Prop} {st : Stmt} (h : PS X st (tSt G E W)) (i : ∀ en M K, W' en M K → W en M K) : PS X st (tSt G E W') := h.imp fun D σ H ⟨env, M, K, a, b, w, r⟩ => ⟨env, M, K, a, b, i _ _ _ w, r⟩
/-- an assignment to a target -/
theorem asg_ps (c : CtxC S X G k φ) {t : CT} {tg : Expr} {p : Pos} {W : Env → Mem → VQ → Prop} (he : PE X e (tW G W)) (ht : ckT S t tg = true) (hs : noSw S.sc tg e = true) (hw : (isTup tg && isTup e) = false) :
    PS X (.Assign [tg] e p) (tSt G E fun en M K => W en M fun d M => match bind M t d en with | some e => K.nx e M | none => False) := by
  have h2 : isLst tg = false := by
    cases t with
    | name i => cases tg <;> first | rfl | (rw [ckT] at ht; cases ht)
    | tup ts => cases tg <;> first | rfl | (rw [ckT] at ht; cases ht)
  refine (ps_asg he (tg_ok c.toCtx t ht) (noSw_eq c.sc hs) (stores_none hw h2) (by rw [ckT_star ht]; rfl)).imp fun D σ H ⟨env, M, K, a, b, w, hx, n1, n2, n3, n4⟩ => ?_
  refine ⟨env, M, _, a, b, w, fun v H1 ⟨d, M1, c1, c2, c3, c4⟩ => ?_⟩
  have c4' : (match bind M1 t d env with | some e => K.nx e M1 | none => False) := c4
  split at c4'
  · rename_i env' hb
    refine ⟨d, M1, env, env', fun _ => False, c1, c2, .of (a.mono c.xg.ok (c3.kpt b)) _, hb, fun σ' r ag => ?_⟩
    exact n1 _ _ _ _ (r.rs fun i => fun z => z.1) c2 c3 c4'
  · exact c4'.elim
theorem setLc_ps (cx : CtxC S X G k φ) {i : Nat} {tg elt ctg it : Expr} {cs : List Expr} {sc : Scope} {p : Pos} {y : Str} {ci : CI} {t : CT} {ifs : CEs} {a : CE} (hy : asName tg = some y) (hx : asLC e = some (elt, ctg, it, cs, sc)) (hsw : swB S.sc tg e = true) (hn : ckName S i y = true)
    (hs : notSet it = true) (hb : blkC S.N S.sc sc (ownOf S.N (tn t)) = true) (ht : ckT (S.blk sc) t ctg = true) (hi : PI X ctg it (tWi X G fun en M R => wI φ ci en M R noX)) (hifs : ckIfs (S.blk sc) ifs cs = true) (ha : ckE (S.blk sc) a elt = true) :
    PS X (.Assign [tg] e p) (tSt G E fun en M K => wF φ (.lc ci t ifs a) en M (fun ds M => wNew (.lst ds) M fun d M => K.nx (en.set i (some d)) M) noX) := by
  obtain ⟨py, rfl⟩ := asName_eq hy
  obtain ⟨pe, rfl⟩ := asLC_eq hx
  have ok := blkOk_by hb
  rw [← cx.N, ← cx.sc] at ok
  unfold swB at hsw
  simp only [and_iff, Bool.not_eq_true'] at hsw
  obtain ⟨⟨h1, h2⟩, h3⟩ := hsw
  have hl : X.env.scope.names.lookup y = some .local := by
    rw [cx.sc]
    split at h1
    · assumption
    · cases h1
  obtain ⟨_, hN⟩ := name_ok (pos := py) cx.toCtx hn
  refine ⟨fun pins s σ H D I ⟨env, M, K, a1, b, w, hx', n1, n2, n3, n4⟩ => ?_⟩
  have hil : i < σ.length := by rw [I.len]; exact (List.getElem?_eq_some_iff.mp hN).1
  simp only [wF] at w
  refine thn ((ps_setLc (i := i) (wi := tWi X G fun en M R => wI φ ci en M R noX) cx.xg.calm cx.xg.nd hN hl (sw_true I.ok.kind hl h2 h3) hi ok (fun s H C cl fp => tg_ok (cx.blk s H sc C cl fp).toCtx t ht) (fun s H C cl fp => ifs_ok ifs (cx.blk s H sc C cl fp) hifs) (fun s H C cl fp => (e_ok a (cx.blk s H sc C cl fp) ha).pe) (folded_of hs)).run pins s σ H
    { nx := fun σ' H' => ∃ v, σ' = σ.set i (some v) ∧ LcPost X G M H (fun ds M => wNew (.lst ds) M fun d M => K.nx (env.set i (some d)) M) v H', rt := fun _ _ => False } I ?_) fun f s1 q => ?_
  · exact lc_rd (X := X) (Wt := wIfs1 φ ifs) (We := WE φ a) (own := ownOf X.N (tn t)) (t := t) (Wi := fun en M R => wI φ ci en M R noX) cx.xg (fun j => by rw [own_ok]) a1 b w (Q := fun x H1 => ∃ v, σ.set i (some x) = σ.set i (some v) ∧ LcPost X G M H (fun ds M => wNew (.lst ds) M fun d M => K.nx (env.set i (some d)) M) v H1) fun v H' q => ⟨v, rfl, q⟩
  · cases f with
    | next =>
      obtain ⟨σ', H', I1, v, rfl, q⟩ := q
      obtain ⟨H2, I2, q2⟩ := q.fin cx.xg I1
      obtain ⟨d, M', q3, q4, q5, q6⟩ := q2.own
      refine ⟨_, H2, I2, n1 _ _ _ _ ?_ q4 q5 q6⟩
      have := (RSo.of (a1.mono cx.xg.ok (q5.kpt b)) fun _ => False).set i q3 hil
      exact this.rs fun j z => z.1
    | ret v => obtain ⟨_, _, _, _, _, q⟩ := q; exact q.elim
    | brk => obtain ⟨_, _, _, q⟩ := q; exact q.elim
    | cont => obtain ⟨_, _, _, q⟩ := q; exact q.elim
theorem swD_true {kx vx : Expr} {gs : List Comprehension} {scope : Scope} {pos py : Pos} {y : Str} {l : Nat} {env : PySem.Env} (hk : env.scope.kind = .function) (hy : env.scope.names.lookup y = some .local) (hl : (py.line == pos.line) = true)
    (ha : (scope.names.any fun (n, k) => n == y && (k == .local || k == .cell)) = false) : swapsWith (.DictComp kx vx gs scope pos) (some (.Name y py)) l env = pure true := by
  have a1 : env.kindOf y = some .local := hy
  have a2 : env.blockKind = .function := by unfold Env.blockKind; rw [hk]; rfl
  unfold swapsWith
  simp only [a2, a1, ha, Expr.pos, hl]
  rfl
theorem setDc_ps (cx : CtxC S X G k φ) {i : Nat} {tg kx vx ctg it : Expr} {cs : List Expr} {sc : Scope} {p pe : Pos} {y : Str} {ci : CI} {t : CT} {ifs : CEs} {a b : CE} (hy : asName tg = some y) (hsw : swD S.sc tg (.DictComp kx vx [⟨ctg, it, cs, 0⟩] sc pe) = true) (hn : ckName S i y = true)
    (hs : notSet it = true) (hb : blkC S.N S.sc sc (ownOf S.N (tn t)) = true) (ht : ckT (S.blk sc) t ctg = true) (hi : PI X ctg it (tWi X G fun en M R => wI φ ci en M R noX)) (hifs : ckIfs (S.blk sc) ifs cs = true) (ha : ckE (S.blk sc) a kx = true) (hv : ckE (S.blk sc) b vx = true) :
    PS X (.Assign [tg] (.DictComp kx vx [⟨ctg, it, cs, 0⟩] sc pe) p) (tSt G E fun en M K => wE φ (.dcomp ci t ifs a b) en M (fun d M => K.nx (en.set i (some d)) M) noX) := by
  obtain ⟨py, rfl⟩ := asName_eq hy
  have ok := blkOk_by hb
  rw [← cx.N, ← cx.sc] at ok
  unfold swD at hsw
  simp only [and_iff, Bool.not_eq_true'] at hsw
  obtain ⟨⟨h1, h2⟩, h3⟩ := hsw
  have hl : X.env.scope.names.lookup y = some .local := by
    rw [cx.sc]
    split at h1
    · assumption
    · cases h1
  obtain ⟨_, hN⟩ := name_ok (pos := py) cx.toCtx hn
  refine ⟨fun pins s σ H D I ⟨env, M, K, a1, b1, w, hx', n1, n2, n3, n4⟩ => ?_⟩
  have hil : i < σ.length := by rw [I.len]; exact (List.getElem?_eq_some_iff.mp hN).1
  simp only [wE] at w
  rw [exec_Assign_Name_used _ _ _ _ (swD_true (l := p.line) I.ok.kind hl h2 h3)]
  refine wpAny_bind (wpAny_standAt (wpAny_bind ?_))
  show wpAny _ X.A (do let _ ← comprehension (.DictComp kx vx [⟨ctg, it, cs, 0⟩] sc pe) sc X.env (firstIterPos [⟨ctg, it, cs, 0⟩] pe) newDict false (eval it X.env) (some (assign (.Name y py) X.env))) _ _ s
  have rd := dc_rd (X := X) (k := k) (Wt := wIfs1 φ ifs) (Wk := WE φ a) (Wv := WE φ b) (own := ownOf X.N (tn t)) (t := t) (Wi := fun en M R => wI φ ci en M R noX) (Qd := fun kvs M => wNew (.dct kvs) M fun d M => K.nx (env.set i (some d)) M) cx.xg (fun j => by rw [own_ok]) a1 b1 w (Q := DcPost X G M H fun kvs M => wNew (.dct kvs) M fun d M => K.nx (env.set i (some d)) M) fun v H' q => q
  refine wpAny_bind (thn (dv_core (Qf := fun _ s' => SP X pins D .next s') cx.xg.calm cx.xg.nd I hi ok (fun s H C cl fp => tg_ok (cx.blk s H sc C cl fp).toCtx t ht) (fun s H C cl fp => ifs_ok ifs (cx.blk s H sc C cl fp) hifs) (fun s H C cl fp => (e_ok a (cx.blk s H sc C cl fp) ha).pe) (fun s H C cl fp => (e_ok b (cx.blk s H sc C cl fp) hv).pe) (folded_of hs) rd fun L C s' m H' I' q hm f => ?_) fun _ s' hq => wpAny_pure (wpAny_pure hq))
  show wpAny _ _ (assign (.Name y py) X.env (.ref L)) _ _ _
  refine wpAny_assign_Name (store_ok2 (v := V.ref L) I' cx.xg.nd hN (.inl hl) rfl (fun s2 I2 ⟨c, sb, hc⟩ => ?_) (.inr hl))
  obtain ⟨f0, f1, f2, f3, f4, f5⟩ := f
  have hCc : C ≠ c := by
    rcases hc with z | z
    · rw [z]; exact f1
    · exact fun e => f4 y c z e.symm
  refine ⟨m, hm.sameBut sb hCc, fun h3 sb3 => ?_⟩
  obtain ⟨H2, I3, d, M', q3, q4, q5, q6⟩ := q.fin cx.xg b1 (I2.turned (t' := s2.toks) (fun b o hb e => (sb3.2 b hb).trans e) f0 f1 f3 f4 f5)
  refine ⟨_, H2, I3, n1 _ _ _ _ ?_ q4 q5 q6⟩
  have r := (RSo.of (a1.mono cx.xg.ok (q5.kpt b1)) fun _ => False).set i q3 hil
  exact r.rs fun j z => z.1
theorem asgIx_ps (cx : CtxC S X G k φ) {ov iv : Expr} {p p2 : Pos} {Wv Wo Wi : Env → Mem → VQ → Prop} (hn : notSlice iv = true) (hv : PE X e (tW G Wv)) (ho : PE X ov (tW G Wo)) (hi : PE X iv (tW G Wi)) :
    PS X (.Assign [.Subscript ov iv p2] e p) (tSt G E fun en M K => Wv en M fun z M => Wo en M fun x M => Wi en M fun y M => wSetIx x y z M fun M => K.nx en M) := by
  have hset : PSet X fun o i v H Q => ∃ M d c z R, RM G H M ∧ RV G H d o ∧ RV G H c i ∧ RV G H z v ∧ wSetIx d c z M R ∧ ∀ H', QM G M H R H' → Q H' := by
    intro pins s σ H o i v ov iv u Q I ro ri rv ⟨M, d, c, z, R, a1, a2, a3, a4, a5, a6⟩
    exact thn (setix_w cx.xg I a1 a2 ro a3 ri a4 rv a5) fun _ s2 ⟨H', I', q⟩ => ⟨H', I', a6 _ q⟩
  have hp : PG X (.Subscript ov iv p2) (gSub (tW G Wo) (tW G Wi) fun o i v H Q => ∃ M d c z R, RM G H M ∧ RV G H d o ∧ RV G H c i ∧ RV G H z v ∧ wSetIx d c z M R ∧ ∀ H', QM G M H R H' → Q H') :=
    pg_sub ho hi hset (by intro v; cases iv <;> first | rfl | cases hn)
  refine (ps_asg (pos := p) hv hp (sw_other (l := p.line) (env := X.env) (t := .Subscript ov iv p2) rfl) (stores_none rfl rfl) rfl).imp fun D σ H ⟨env, M, K, a, b, w, hx, n1, n2, n3, n4⟩ => ?_
  refine ⟨env, M, _, a, b, w, fun v H1 ⟨z, M1, c1, c2, c3, c4⟩ => ⟨env, M1, _, a.mono cx.xg.ok (c3.kpt b), c2, c4, fun o H2 ⟨x, M2, d1, d2, d3, d4⟩ => ⟨env, M2, _, a.mono cx.xg.ok ((c3.trans d3).kpt b), d2, d4, fun i H3 ⟨y, M3, e1, e2, e3, e4⟩ => ?_⟩⟩⟩
  refine ⟨M3, x, y, z, _, e2, d1.mono cx.xg.ok (e3.kpt d2), e1, c1.mono cx.xg.ok ((d3.kpt c2).trans (e3.kpt d2)), e4, fun H4 ⟨M4, f1, f2, f3⟩ => ?_⟩
  have st := ((c3.trans d3).trans e3).trans f2
  exact n1 _ _ _ _ (a.mono cx.xg.ok (st.kpt b)) f1 st f3
theorem asgFld_ps (cx : CtxC S X G k φ) {ov : Expr} {f : String} {p p2 : Pos} {Wv Wo : Env → Mem → VQ → Prop} (hf : f ∈ S.flds) (hv : PE X e (tW G Wv)) (ho : PE X ov (tW G Wo)) :
    PS X (.Assign [.Attribute ov (Str.ofString f) p2] e p) (tSt G E fun en M K => Wv en M fun z M => Wo en M fun x M => wSetFld x f z M fun M => K.nx en M) := by
  refine ⟨fun pins s σ H D I ⟨env, M, K, a, b, w, hx, n1, n2, n3, n4⟩ => ?_⟩
  refine plainObj_wpAny_Assign_Attribute (thn (hv.run pins s σ H (QV G M H fun z M => Wo env M fun x M => wSetFld x f z M fun M => K.nx env M) I ⟨env, M, _, a, b, w, fun _ _ q => q⟩) fun u s1 ⟨yv, H1, I1, ry, z, M1, c1, c2, c3, c4⟩ => ?_) (sw_other rfl)
  refine thn (ho.run pins s1 σ H1 (QV G M1 H1 fun x M => wSetFld x f z M fun M => K.nx env M) I1 ⟨env, M1, _, a.mono cx.xg.ok (c3.kpt b), c2, c4, fun _ _ q => q⟩) fun u2 s2 ⟨xv, H2, I2, rx, x, M2, d1, d2, d3, d4⟩ => ?_
  refine thn (setfld_w cx.xg (by rw [cx.flds]; exact hf) I2 d2 d1 rx (c1.mono cx.xg.ok (d3.kpt c2)) ry d4) fun _ s3 ⟨H3, I3, M3, f1, f2, f3⟩ => ?_
  have st := (c3.trans d3).trans f2
  exact ⟨σ, H3, I3, n1 _ _ _ _ (a.mono cx.xg.ok (st.kpt b)) f1 st f3⟩
theorem expr_ps (cx : CtxC S X G k φ) {p : Pos} {W : Env → Mem → VQ → Prop} (hl : isLC e = false) (h : PE X e (tW G W)) : PS X (.Expr e p) (tSt G E fun en M K => W en M fun _ M => K.nx en M) := by
  refine (ps_expr h (sw_none hl)).imp fun D σ H ⟨env, M, K, a, b, w, hx, n1, n2, n3, n4⟩ => ?_
  exact ⟨env, M, _, a, b, w, fun v H1 ⟨d, M1, c1, c2, c3, c4⟩ => n1 _ _ _ _ (a.mono cx.xg.ok (c3.kpt b)) c2 c3 c4⟩
theorem ret_ps {p : Pos} {W : Env → Mem → VQ → Prop} (h : PE X e (tW G W)) : PS X (.Return (some e) p) (tSt G E fun en M K => W en M K.rt) :=
  (ps_ret h).imp fun D σ H ⟨env, M, K, a, b, w, hx, n1, n2, n3, n4⟩ => ⟨env, M, _, a, b, w, fun v H1 q => n2 _ _ q⟩
theorem retN_ps {p : Pos} : PS X (.Return none p) (tSt G E fun en M K => K.rt .non M) :=
  ps_retN.imp fun D σ H ⟨env, M, K, a, b, w, hx, n1, n2, n3, n4⟩ => n2 _ _ (.non b w)
theorem skip_ps {st : Stmt} (h : isPass st = true) : PS X st (tSt G E fun en M K => K.nx en M) := by
  unfold isPass at h
  split at h
  · exact ps_pass.imp fun D σ H ⟨env, M, K, a, b, w, hx, n1, n2, n3, n4⟩ => n1 _ _ _ _ a b (.refl _ _) w
  · exact ps_doc.imp fun D σ H ⟨env, M, K, a, b, w, hx, n1, n2, n3, n4⟩ => n1 _ _ _ _ a b (.refl _ _) w
  · cases h
theorem brk_ps {p : Pos} : PS X (.Break p) (tSt G E fun en M K => K.bk en M) := ps_break.imp fun D σ H ⟨env, M, K, a, b, w, hx, n1, n2, n3, n4⟩ => n3 _ _ _ _ a b (.refl _ _) w
theorem cont_ps {p : Pos} : PS X (.Continue p) (tSt G E fun en M K => K.ct en M) := ps_continue.imp fun D σ H ⟨env, M, K, a, b, w, hx, n1, n2, n3, n4⟩ => n4 _ _ _ _ a b (.refl _ _) w
theorem never_ps {st : Stmt} {W : Env → Mem → Ends → Prop} (h : ∀ en M K, W en M K → False) : PS X st (tSt G E W) := ps_never.imp fun D σ H ⟨env, M, K, a, b, w, hx, _⟩ => h _ _ _ w
theorem nil_pss : PSs X [] (tSt G E fun en M K => K.nx en M) := pss_nil.imp fun D σ H ⟨env, M, K, a, b, w, hx, n1, n2, n3, n4⟩ => n1 _ _ _ _ a b (.refl _ _) w
theorem cons_pss (g : GOk G) {st : Stmt} {sts : List Stmt} {W1 W2 : Env → Mem → Ends → Prop} (h1 : PS X st (tSt G E W1)) (h2 : PSs X sts (tSt G E W2)) : PSs X (st :: sts) (tSt G E fun en M K => W1 en M { K with nx := fun e M => W2 e M K }) := by
  refine (pss_cons h1 h2).imp fun D σ H ⟨env, M, K, a, b, w, hx, n1, n2, n3, n4⟩ => ?_
  refine ⟨env, M, _, a, b, w, hx, fun σ' H' env' M' r1 r2 st q => ?_, n2, n3, n4⟩
  exact ⟨env', M', K, r1, r2, q, fun cls d H2 q => hx _ _ _ (q.step st), fun σ2 H2 e2 M2 s1 s2 s3 q => n1 _ _ _ _ s1 s2 (st.trans s3) q, fun v H2 q => n2 _ _ (q.step st), fun σ2 H2 e2 M2 s1 s2 s3 q => n3 _ _ _ _ s1 s2 (st.trans s3) q, fun σ2 H2 e2 M2 s1 s2 s3 q => n4 _ _ _ _ s1 s2 (st.trans s3) q⟩
theorem if_ps (g : GOk G) {a b : List Stmt} {p : Pos} {Wc : Env → Mem → (Bool → Mem → Prop) → Prop} {W1 W2 : Env → Mem → Ends → Prop} (hc : PT X e (tWb G Wc)) (h1 : PSs X a (tSt G E W1)) (h2 : PSs X b (tSt G E W2)) :
    PS X (.If e a b p) (tSt G E fun en M K => Wc en M fun k M => if k = true then W1 en M K else W2 en M K) := by
  refine (ps_if hc h1 h2).imp fun D σ H ⟨env, M, K, a, b, w, hx, n1, n2, n3, n4⟩ => ?_
  refine ⟨env, M, _, a, b, w, fun k H1 ⟨M1, c2, st, c4⟩ => ?_⟩
  have a' := a.mono g (st.kpt b)
  have c4' : (if k = true then W1 env M1 K else W2 env M1 K) := c4
  have tail : ∀ W : Env → Mem → Ends → Prop, W env M1 K → tSt G E W D σ H1 := fun W q => ⟨env, M1, K, a', c2, q, fun cls d H2 q => hx _ _ _ (q.step st), fun σ2 H2 e2 M2 s1 s2 s3 q => n1 _ _ _ _ s1 s2 (st.trans s3) q, fun v H2 q => n2 _ _ (q.step st), fun σ2 H2 e2 M2 s1 s2 s3 q => n3 _ _ _ _ s1 s2 (st.trans s3) q, fun σ2 H2 e2 M2 s1 s2 s3 q => n4 _ _ _ _ s1 s2 (st.trans s3) q⟩
  cases k with
  | true => exact PyProof.Rows.ite_tt (tail _ (by simpa using c4'))
  | false => exact PyProof.Rows.ite_ff (tail _ (by simpa using c4'))
end
end MP
end
section
/-! MP35: calls that may raise, errors made, what a try catches. -/
namespace MP
open PySem PySem.Spec L2
section
variable {X : Cx} {CX : CXT} {k : Nat} {f C : Addr} {fd : FuncData} {ps : List Str} {sp : Sp} {E : St → XK} {x : Str} {p pos : Pos} {e : Expr} {es : List Expr} {t : TA}
/-- a new instance, at the slots σ -/
theorem run_makeS {pins : List (Addr × Obj)} {σ : L2.St} {H : Hp} {s : Shared} {Q : VK} {us : List Value} {vs : List V} (M : Mk X.K C f) (F : FnOk X.prog X.w X.K X.mg X.base CX k f fd ps sp) (hr : Room (k + 1) X.A) (hb : Binds X.K fd ps [])
    (hx : PassesAt CX X σ (E σ)) (I : Inv X pins σ H s) (r : Vals vs us)
    (h : ∀ x dx, H x = none → H dx = none → dx ≠ x → sp (.ref x :: vs) (upd (upd H dx (.own x)) x (.ins C dx [])) (fun v H2 => v = .non ∧ Q (.ref x) H2) (E σ)) :
    wpAny (model X.prog X.w) X.A (call (.ref C) us) (EP X pins σ Q) X.xe s := by
  have hq := h (s.heap.objs.size + 1) s.heap.objs.size (I.hok.fresh (Nat.le_succ _)) (I.hok.fresh (Nat.le_refl _)) (Nat.ne_of_lt (Nat.lt_succ_self _))
  have I2 := Inv.made (C := C) I
  have r2 : Vals (V.ref (s.heap.objs.size + 1) :: vs) (Value.ref (s.heap.objs.size + 1) :: us) := .cons rfl r
  have hl : (Value.ref (s.heap.objs.size + 1) :: us).length = ps.length := by
    have e := r2.length
    rw [F.len _ _ _ _ hq] at e
    exact e.symm
  have b := hb _ (Value.ref (s.heap.objs.size + 1) :: us) I2.kIn (by rw [List.append_nil]; exact hl)
  rw [List.append_nil] at b
  refine wpAny_call (make_map (f := f) I.kIn M.makes M.init (beq_iff_eq.mp M.fn) (codeAny_mono (F.run _ X.stack _ _ ⟨Value.ref (s.heap.objs.size + 1) :: us, []⟩ (Value.ref (s.heap.objs.size + 1) :: us) _ _ (E σ) (hr.make C us [])
    (I2.env0.make C us []) b r2 hq) fun r s' hq' => ?_))
  cases r with
  | error e => exact hx pins _ _ e s' I2 hq'
  | ok fl =>
    cases fl with
    | ret u =>
      obtain ⟨v, H', I3, rv, ev, q3⟩ := I2.after hq'
      subst ev
      exact ⟨rv, ⟨V.ref (s.heap.objs.size + 1), H', I3, rfl, q3⟩⟩
    | next => exact False.elim hq'
    | brk => exact False.elim hq'
    | cont => exact False.elim hq'
def tMakeS (C : Addr) (sp : Sp) (E : St → XK) (t : TA) : TE := fun σ H Q => t σ H fun vs H1 => ∀ x dx, H1 x = none → H1 dx = none → dx ≠ x →
  sp (.ref x :: vs) (upd (upd H1 dx (.own x)) x (.ins C dx [])) (fun v H2 => v = .non ∧ Q (.ref x) H2) (E σ)
theorem pe_makeS (M : Mk X.K C f) (F : FnOk X.prog X.w X.K X.mg X.base CX k f fd ps sp) (hr : Room (k + 1) X.A) (hg : Gl X x) (hm : X.mg x = some (.ref C)) (hb : Binds X.K fd ps []) (hx : ∀ σ, PassesAt CX X σ (E σ))
    (ha : PA X (e :: es) t) (hdb : (x == ("__debug__" : Str)) = false := by decide) (he : starEach (e :: es) X.env = (false, eval e X.env) :: starEach es X.env := by rfl) (hpl : (backTo pos (starEach es X.env)).any (·.1) = false := by rfl) :
    PE X (.Call (.Name x p) (e :: es) [] pos) (tMakeS C sp E t) := by
  refine ⟨fun pins s σ H Q I h => ?_⟩
  refine wpAny_Call_Name_kw (ld_glob I hg hm ?_ hdb)
  refine PySem.W.callWith_K (h₀ := X.base) I.ok.mod.kin M.kp (thn (ha.run pos pins s σ H _ I h) fun us s1 ⟨vs, H1, I1, r, q⟩ => ⟨I1.kIn, ?_⟩) he hpl
  exact run_makeS M F hr hb (hx σ) I1 r q
/-- X(), X an own exception class without own __init__ -/
theorem pmk_own0 {C : Addr} {bmB : List Value} {B newId initId : String} (F : ExcBaseFacts B newId initId bmB) (q : PySem.W.excIn X.K C bmB newId = true) (gC : X.mg x = some (.ref C))
    (kC : PySem.W.keepIn X.K (.ref C) = true) (r : Raises X (.ref C)) (hg : Gl X x) (hdb : (x == ("__debug__" : Str)) = false := by decide) :
    PMk X (.Call (.Name x p) [] [] pos) (fun _ H Q => Q (.ref C) none H) := by
  intro pins s σ H Q I h
  refine wpAny_Call_Name_kw (ld_glob I hg gC ?_ hdb)
  refine PySem.W.callWith_K0 I.kIn kC ?_
  show wpAny _ _ (call (.ref C) []) _ _ _
  obtain ⟨bm, N, nm, qn, bs, hdct, sn, sub, ab, col, dd, k0, k1, k2, k3, k5, mN, hC, hN, hni, T⟩ := exc_obj I.kIn q
  refine wpAny_call_exc_subT F T hC hN hni (fun h' e hm => ?_) (Nat.zero_le _)
  exact mk_of I hm r h (I.hok.gone hm.new)
end
section
variable {S : Sx} {X : Cx} {G : Gx} {k : Nat} {φ : CallSem} {W : WX}
theorem callX_pe (c : CtxC S X G k φ) (tk : Takes X W) {f : String} {es : List Expr} {Ws : Env → Mem → (List D → Mem → Prop) → Prop} {p q : Pos} (hf : f ∈ S.fns) (hg : glB S (Str.ofString (S.tx f)) = true) (hs : es.all notStar = true) (hn : es ≠ []) (ha : PA X es (tWs G Ws)) :
    PE X (.Call (.Name (Str.ofString (S.tx f)) p) es [] q) (tWX G W fun en M Q Xd => Ws en M fun ds M => φ f ds M Q Xd) := by
  obtain ⟨CX, eCX, a, fd, ps, k', F, hr, hm, hk, hb, hx⟩ := c.fns f hf
  subst eCX
  obtain ⟨g1, g2⟩ := glB_of c.toCtx hg
  have key : ∀ σ H Q, tWX G W (fun en M Q Xd => Ws en M fun ds M => φ f ds M Q Xd) σ H Q → tCallS (spD G φ f) (L2.WE W) (tWs G Ws) σ H Q := by
    rintro σ H Q ⟨env, M, Qd, Xd, a, b, w, d, dx⟩
    refine ⟨env, M, _, a, b, w, fun vs H1 ⟨ds, M1, c1, c2, c3, c4⟩ => ?_⟩
    exact ⟨ds, M1, Qd, Xd, RVs.as c1, c2, c4, fun v H' q => d v H' (q.step c3), fun cls d' H' q => dx cls d' H' (q.step c3)⟩
  cases es with
  | nil => exact absurd rfl hn
  | cons e es =>
    rw [List.all_cons, Bool.and_eq_true] at hs
    exact (pe_callS F hr g1 hm hk hb (passAt tk) ha (okNm_d g2) (star1 hs.1) (starN hs.2)).imp key
theorem makeX_pe (c : CtxC S X G k φ) (tk : Takes X W) {f : String} {es : List Expr} {Ws : Env → Mem → (List D → Mem → Prop) → Prop} {p q : Pos} (hf : f ∈ S.clss) (hg : glB S (Str.ofString f) = true) (hs : es.all notStar = true) (hn : es ≠ []) (ha : PA X es (tWs G Ws)) :
    PE X (.Call (.Name (Str.ofString f) p) es [] q) (tWX G W fun en M Q Xd => Ws en M fun ds M => ∀ p, M p = none → φ (f ++ ".__init__") (.ref p :: ds) (M.set p (.ins f [])) (fun d M => d = .non ∧ Q (.ref p) M) Xd) := by
  obtain ⟨CX, eCX, C, a, fd, ps, k', mk, F, hr, hm, hC, hb, hx⟩ := c.clss f hf
  subst eCX
  obtain ⟨g1, g2⟩ := glB_of c.toCtx hg
  have key : ∀ σ H Q, tWX G W (fun en M Q Xd => Ws en M fun ds M => ∀ p, M p = none → φ (f ++ ".__init__") (.ref p :: ds) (M.set p (.ins f [])) (fun d M => d = .non ∧ Q (.ref p) M) Xd) σ H Q → tMakeS C (spD G φ (f ++ ".__init__")) (L2.WE W) (tWs G Ws) σ H Q := by
    rintro σ H Q ⟨env, M, Qd, Xd, a, b, w, d, dx0⟩
    refine ⟨env, M, _, a, b, w, fun vs H1 ⟨ds, M1, c1, c2, c3, c4⟩ x dx hx hdx hne => ?_⟩
    have g := c.xg.ok
    have hx' : upd H1 dx (.own x) x = none := by rw [upd_ne (Ne.symm hne)]; exact hx
    have r1 : RM G (upd H1 dx (.own x)) M1 := c2.new g hdx
    have s1 : Stp M1 H1 M1 (upd H1 dx (.own x)) := .new c2 hdx
    have r2 : RM G (upd (upd H1 dx (.own x)) x (.ins C dx [])) (M1.set x (.ins f [])) := r1.add g hx' ⟨C, dx, [], hC, rfl, rfl⟩
    have s2 : Stp M1 (upd H1 dx (.own x)) (M1.set x (.ins f [])) (upd (upd H1 dx (.own x)) x (.ins C dx [])) := .add r1 hx'
    have k2 := (s1.trans s2).kpt c2
    refine ⟨.ref x :: ds, _, _, Xd, ⟨.ref x, vs, rfl, rfl, RVs.as (c1.mono g k2)⟩, r2, c4 x (c2.free hx), fun v H' ⟨dv, M', q1, q2, q3, q4, q5⟩ => ?_, fun cls d' H' q => dx0 cls d' H' (q.step (c3.trans (s1.trans s2)))⟩
    subst q4
    exact ⟨q1, d _ _ ⟨.ref x, M', rfl, q2, (c3.trans (s1.trans s2)).trans q3, q5⟩⟩
  cases es with
  | nil => exact absurd rfl hn
  | cons e es =>
    rw [List.all_cons, Bool.and_eq_true] at hs
    exact (pe_makeS mk F hr g1 hm hb (passAt tk) ha (okNm_d g2) (star1 hs.1) (starN hs.2)).imp key
/-- a call of the lambda that a name holds, with no argument -/
theorem callvX_pe (c : CtxC S X G k φ) (hl : LamI X G φ L) (tk : Takes X W) {i : Nat} {nm : Str} {p q : Pos} (hN : S.N[i]? = some nm) (hv : visB S nm = true) (ho : okNm nm = true) :
    PE X (.Call (.Name nm p) [] [] q) (tWX G W fun en M Q Xd => match get en i with | some (.clo l cap) => φ l cap M Q Xd | _ => False) := by
  obtain ⟨hG, kl, hr, hk⟩ := hl
  have g := c.xg.ok
  refine ⟨fun pins s σ H Q I ⟨env, M, Qd, Xd, a, b, w, d, dx⟩ => ?_⟩
  dsimp only at w
  split at w
  · rename_i l cap hget
    obtain ⟨v, e1, cvs, hc, rc⟩ := a.2 i _ hget
    have hc0 := hc
    rw [hG] at hc
    obtain ⟨dl, hL, f, c', pm, ctv, cl, ev, hf, hcode, C⟩ := hc
    subst ev
    refine wpAny_Call_Name_kw (thn ((pe_var (pos := p) (by rw [c.N]; exact hN) (visB_of c.toCtx hv) (okNm_d ho) (okNm_c ho)).run pins s σ H (fun v H1 => v = .ref f ∧ H1 = H) I ⟨.ref f, e1, rfl, rfl⟩) fun u s1 ⟨v, H1, I1, r1, q1⟩ => ?_)
    obtain ⟨ev, eH⟩ := q1
    subst ev
    rw [eH] at I1
    obtain rfl : u = Value.ref f := r1
    refine PySem.W.callWith_F0 (first := []) (fnAt I1.hok hf) ?_
    · show wpAny _ _ (call (.ref f) []) _ _ _
      refine wpAny_call (codeAny_mono (hk l dl hL X.A X.stack s1 H [] [] cvs [] cap M Qd Xd (QV G M H Qd) (fun cls dd H' => QX G M H Xd cls dd H') f hr I1.env0 hc0 rc rfl .nil b (by simpa using w) (fun _ _ q => q) fun _ _ _ q => q) fun r s' hq => ?_)
      cases r with
      | error e => exact tk e s' (XE.of_call I1 (fun cls d' H' h => dx cls d' H' h) hq)
      | ok fl =>
        cases fl with
        | ret u =>
          obtain ⟨v, H', I', rv, q⟩ := I1.after hq
          exact ⟨v, H', I', rv, d _ _ q⟩
        | next => exact False.elim hq
        | brk => exact False.elim hq
        | cont => exact False.elim hq
  · exact w.elim
/-- what the call goes to -/
def tCX (G : Gx) (W : WX) (t : XT) (Wc : Env → Mem → VQ → XQ → Prop) : TS := fun D σ H => ∃ env M K Xd, RS G σ H env ∧ RM G H M ∧ Wc env M (fun d M => XT.fin t env d M K) Xd ∧
  (∀ σ' H' env' M', RS G σ' H' env' → RM G H' M' → Stp M H M' H' → K.nx env' M' → D.nx σ' H') ∧ (∀ v H', QV G M H K.rt v H' → D.rt v H') ∧ ∀ cls d H', QX G M H Xd cls d H' → W cls d σ H'
theorem ckCall_pe {mk : Bool} {f : String} {es : CEs} {e : Expr} (c : CtxC S X G k φ) (tk : Takes X W) (h : ckCall S mk f es e = true) : PE X e (tWX G W fun en M Q Xd => wEs φ es en M (fun ds M => wCall φ mk f ds M Q Xd) noX) := by
  unfold ckCall at h
  split at h
  · rename_i x l hx
    simp only [and_iff] at h
    obtain ⟨⟨⟨h1, h2⟩, h3⟩, h4⟩ := h
    have hn : l ≠ [] := by intro z; rw [z] at h3; cases h3
    have e1 := asCall_eq hx
    obtain ⟨p, q, rfl⟩ := e1
    have hs : l.all notStar = true := ckEs_star h4
    have ha := es_ok es c h4
    cases mk with
    | true =>
      rw [if_pos rfl, and_iff, decide_eq_true_eq, decide_eq_true_eq] at h1
      obtain ⟨rfl, h1⟩ := h1
      exact (makeX_pe c tk h1 h2 hs hn ha).imp fun σ H Q ⟨env, M, Qd, Xd, a, b, w, d⟩ => ⟨env, M, Qd, Xd, a, b, w, d⟩
    | false =>
      rw [if_neg (by decide), and_iff, decide_eq_true_eq, decide_eq_true_eq] at h1
      obtain ⟨rfl, h1⟩ := h1
      exact (callX_pe c tk h1 h2 hs hn ha).imp fun σ H Q ⟨env, M, Qd, Xd, a, b, w, d⟩ => ⟨env, M, Qd, Xd, a, b, w, d⟩
  · cases h
theorem asName_call {S : Sx} {mk : Bool} {f : String} {es : CEs} {e : Expr} (h : ckCall S mk f es e = true) : ∃ x l p q, e = .Call (.Name x p) l [] q := by
  unfold ckCall at h
  split at h
  · rename_i x l hx
    obtain ⟨p, q, rfl⟩ := asCall_eq hx
    exact ⟨_, _, _, _, rfl⟩
  · cases h
/-- the value goes to a name -/
theorem nmX_ps (c : CtxC S X G k φ) {i : Nat} {y : Str} {py p : Pos} {e : Expr} {Wc : Env → Mem → VQ → XQ → Prop} (hn : ckName S i y = true) (hl : isLC e = false) (he : PE X e (tWX G W Wc)) :
    PS X (.Assign [.Name y py] e p) (fun D σ H => ∃ (env : Env) (M : Mem) (K : MP.Ends) (Xd : XQ), RS G σ H env ∧ RM G H M ∧ Wc env M (fun d M => K.nx (env.set i (some d)) M) Xd ∧
      (∀ σ' H' env' M', RS G σ' H' env' → RM G H' M' → Stp M H M' H' → K.nx env' M' → D.nx σ' H') ∧ (∀ v H', QV G M H K.rt v H' → D.rt v H') ∧ ∀ cls d H', QX G M H Xd cls d H' → W cls d σ H') := by
  have ht : ckT S (.name i) (.Name y py) = true := by rw [ckT]; exact hn
  have hs : noSw S.sc (.Name y py) e = true := by unfold noSw; rw [hl]; rfl
  refine (ps_asg (pos := p) he (tg_ok c.toCtx (.name i) ht) (noSw_eq (l := p.line) c.sc hs) (stores_none (t := .Name y py) (e := e) rfl rfl) rfl).imp fun D σ H ⟨env, M, K, Xd, a, b, w, n1, n2, hx⟩ => ?_
  refine ⟨env, M, _, Xd, a, b, w, fun v H1 ⟨d, M1, c1, c2, c3, c4⟩ => ?_, hx⟩
  refine ⟨d, M1, env, env.set i (some d), fun _ => False, c1, c2, .of (a.mono c.xg.ok (c3.kpt b)) _, by rw [bind], fun σ' r ag => ?_⟩
  exact n1 _ _ _ _ (r.rs fun i => fun z => z.1) c2 c3 c4
/-- ("s", a call) -/
theorem pairX_pe (g : GOk G) {s : Str} {e : Expr} {j kk : Nat} {p p2 : Pos} {Wc : Env → Mem → VQ → XQ → Prop} (hn : notStar e = true) (he : PE X e (tWX G W Wc)) :
    PE X (.Tuple [.Constant (.str s) j p2, e] kk p) (tWX G W fun en M Q Xd => Wc en M (fun d M => Q (.tup [.str s, d]) M) Xd) := by
  refine (pe_tup (pa_cons (pe_str (X := X)) (pa_cons he pa_nil (star1 hn)) (star1 rfl))).imp fun σ H Q ⟨env, M, Qd, Xd, a, b, w, d, hx⟩ => ?_
  refine ⟨env, M, _, Xd, a, b, w, fun v H1 ⟨dx, M1, c1, c2, c3, c4⟩ => ?_, hx⟩
  refine ⟨by show 2 ≤ sizeLine; rw [sizeLine_eq]; omega, fun p hp => ?_⟩
  exact d _ _ (QV.step c3 (.new (d := .tup [.str s, dx]) g hp ⟨p, [.str s, v], rfl, .of upd_same, ⟨.str s, [v], rfl, rfl, ⟨v, [], rfl, c1.mono g (.new hp), rfl⟩⟩⟩ c2 c4))
theorem stX_ps (c : CtxC S X G k φ) (tk : Takes X W) {t : XT} {mk : Bool} {f : String} {es : CEs} {st : Stmt} (h : ckXT S t mk f es st = true) : PS X st (tCX G W t fun en M Q Xd => wEs φ es en M (fun ds M => wCall φ mk f ds M Q Xd) noX) := by
  cases t with
  | no =>
    unfold ckXT at h
    dsimp only at h
    split at h
    · rename_i e hx
      obtain ⟨p, rfl⟩ := asExpr_eq hx
      have hl : isLC e = false := by obtain ⟨_, _, _, _, rfl⟩ := asName_call h; rfl
      refine (ps_expr (ckCall_pe c tk h) (sw_none hl)).imp fun D σ H ⟨env, M, K, Xd, a, b, w, n1, n2, hx⟩ => ?_
      exact ⟨env, M, _, Xd, a, b, w, fun v H1 ⟨d, M1, c1, c2, c3, c4⟩ => n1 _ _ _ _ (a.mono c.xg.ok (c3.kpt b)) c2 c3 c4, hx⟩
    · cases h
  | rt =>
    unfold ckXT at h
    dsimp only at h
    split at h
    · rename_i e hx
      obtain ⟨p, rfl⟩ := asRet_eq hx
      exact (ps_ret (ckCall_pe c tk h)).imp fun D σ H ⟨env, M, K, Xd, a, b, w, n1, n2, hx⟩ => ⟨env, M, _, Xd, a, b, w, fun v H1 q => n2 _ _ q, hx⟩
    · cases h
  | nm i =>
    unfold ckXT at h
    dsimp only at h
    split at h
    · rename_i tg e hx
      obtain ⟨p, rfl⟩ := asAssign_eq hx
      split at h
      · rename_i y hy
        obtain ⟨py, rfl⟩ := asName_eq hy
        rw [and_iff] at h
        have hl : isLC e = false := by obtain ⟨_, _, _, _, rfl⟩ := asName_call h.2; rfl
        exact nmX_ps c h.1 hl (ckCall_pe c tk h.2)
      · cases h
    · cases h
  | pr i s =>
    unfold ckXT at h
    dsimp only at h
    split at h
    · rename_i tg e hx
      obtain ⟨p, rfl⟩ := asAssign_eq hx
      split at h
      · rename_i y s' e' hy hp
        obtain ⟨py, rfl⟩ := asName_eq hy
        obtain ⟨j, p2, kk, q, rfl⟩ := asPair_eq hp
        simp only [and_iff, decide_eq_true_eq] at h
        obtain ⟨⟨h1, rfl⟩, h2⟩ := h
        have hn : notStar e' = true := by obtain ⟨_, _, _, _, rfl⟩ := asName_call h2; rfl
        exact nmX_ps c h1 rfl (pairX_pe c.xg.ok hn (ckCall_pe c tk h2))
      · cases h
    · cases h
/-- a def's own context: what it lets out -/
structure TX (X : Cx) (E : XK) : Prop where
  tk : Takes X fun cls d _ H => E cls d H
  ps : PassesOwn (model X.prog X.w) X.A X.env X.xe
  hs : X.stack = X.env :: X.outer
  hf : X.env.frame = some X.env.locals
variable {E : XK}
theorem fin_ends {G : Gx} {M : Mem} {H : Hp} {K : Ends} {D : L2.Ends} : True := trivial
theorem raise_ps (c : CtxC S X G k φ) (T : TX X E) {x : String} {anc : List String} {p q r : Pos} (hx : (x, anc) ∈ S.excs) (hg : glB S (Str.ofString x) = true) :
    PS X (.Raise (some (.Call (.Name (Str.ofString x) p) [] [] q)) none r) (tSt G E fun _ M K => K.ex ⟨x, anc⟩ M) := by
  obtain ⟨C, e1, e2, e3⟩ := c.exc _ hx
  obtain ⟨g1, g2⟩ := glB_of c.toCtx hg
  have o := c.xg.gf.xo x C e1
  have hK := c.xg.K
  refine (ps_raise c.xg.calm T.tk (pmk_own0 PySem.F.excBase_ValueError (by rw [hK]; exact o.ex) e3 (by rw [hK]; exact o.kp) (raises_own (by rw [hK]; exact o.sb) (by rw [hK]; exact o.ty)) g1 (okNm_d g2))).imp fun D σ H ⟨env, M, K, a, b, w, hx, n1, n2, n3, n4⟩ => ?_
  exact hx _ _ _ ⟨⟨x, anc⟩, M, ⟨C, rfl, e1, e2.symm⟩, b, .refl _ _, w⟩
theorem callX_ps (c : CtxC S X G k φ) (T : TX X E) {t : XT} {mk : Bool} {f : String} {es : CEs} {st : Stmt} (h : ckXT S t mk f es st = true) :
    PS X st (tSt G E fun en M K => wEs φ es en M (fun ds M => wCall φ mk f ds M (fun d M => XT.fin t en d M K) K.ex) noX) :=
  (stX_ps c T.tk h).imp fun D σ H ⟨env, M, K, a, b, w, hx, n1, n2, n3, n4⟩ => ⟨env, M, K, K.ex, a, b, w, n1, n2, hx⟩
/-! ### try -/
/-- a constant, in any context -/
def tK (G : Gx) (d : D) : TE := fun σ H Q => ∃ M, RM G H M ∧ ∀ v H', RV G H' d v → RM G H' M → Stp M H M H' → Q v H'
theorem kon_pe {X' : Cx} (g : GOk G) {d : D} {e : Expr} (h : ckK d e = true) : PE X' e (tK G d) := by
  unfold ckK at h
  split at h
  · exact pe_non.imp fun σ H Q ⟨M, rm, q⟩ => q _ _ rfl rm (.refl _ _)
  · exact pe_bl.imp fun σ H Q ⟨M, rm, q⟩ => q _ _ (by rw [of_decide_eq_true h]; rfl) rm (.refl _ _)
  · exact pe_str.imp fun σ H Q ⟨M, rm, q⟩ => q _ _ (by rw [of_decide_eq_true h]; rfl) rm (.refl _ _)
  · rename_i s s' _ _ _ _ _ _
    refine (pe_tup (pa_cons (pe_str (X := X')) (pa_cons pe_non pa_nil (star1 rfl)) (star1 rfl))).imp fun σ H Q ⟨M, rm, q⟩ => ?_
    refine ⟨by show 2 ≤ sizeLine; rw [sizeLine_eq]; omega, fun p hp => ?_⟩
    have e1 := of_decide_eq_true h
    exact q _ _ ⟨p, [.str s', .non], rfl, .of upd_same, ⟨.str s', [.non], rfl, by rw [e1]; rfl, ⟨.non, [], rfl, rfl, rfl⟩⟩⟩ (rm.new g hp) (.new rm hp)
  · rename_i s r s' _ _ r' _ _ _ _
    rw [and_iff, decide_eq_true_eq, decide_eq_true_eq] at h
    obtain ⟨rfl, rfl⟩ := h
    refine (pe_tup (pa_cons (pe_str (X := X')) (pa_cons (pe_str (X := X')) pa_nil (star1 rfl)) (star1 rfl))).imp fun σ H Q ⟨M, rm, q⟩ => ?_
    refine ⟨by show 2 ≤ sizeLine; rw [sizeLine_eq]; omega, fun p hp => ?_⟩
    exact q _ _ ⟨p, [.str s, .str r], rfl, .of upd_same, ⟨.str s, [.str r], rfl, rfl, ⟨.str r, [], rfl, rfl, rfl⟩⟩⟩ (rm.new g hp) (.new rm hp)
  · cases h
theorem kon_notLC {d : D} {e : Expr} (h : ckK d e = true) : isLC e = false := by
  unfold ckK at h
  split at h <;> first | rfl | cases h
/-- a suite: name = constant -/
def tSu (G : Gx) (i : Nat) (d : D) : TS := fun D σ H => ∃ (env : Env) (M : Mem), RS G σ H env ∧ RM G H M ∧ ∀ σ' H', RS G σ' H' (env.set i (some d)) → RM G H' M → Stp M H M H' → D.nx σ' H'
theorem su_ps (c : CtxC S X G k φ) {i : Nat} {d : D} {y : Str} {py p : Pos} {e : Expr} (hn : ckName S i y = true) (he : ckK d e = true) (a : Addr) (pn : List (Addr × Obj)) : PSs (X.suite a pn) [.Assign [.Name y py] e p] (tSu G i d) := by
  have hN : X.N[i]? = some y := (name_ok (pos := py) c.toCtx hn).2
  have hp : PG (X.suite a pn) (.Name y py) (gName i) := by
    have hn' := hn
    unfold ckName at hn'
    rw [Bool.and_eq_true, decide_eq_true_eq] at hn'
    have h2 := hn'.2
    rw [← c.sc] at h2
    split at h2
    · rename_i q; exact pg_name (X := X.suite a pn) c.xg.nd hN (.inl q) (.inr q)
    · rename_i q; exact pg_name (X := X.suite a pn) c.xg.nd hN (.inr q) (.inl (c.ow y h2))
    · cases h2
  have hs : noSw S.sc (.Name y py) e = true := by unfold noSw; rw [kon_notLC he]; rfl
  have hp2 : PG (X.suite a pn) (.Name y py) (fun v σ H Q => ∃ (env : Env) (d : D), RS G σ H env ∧ RV G H d v ∧ ∀ σ', RS G σ' H (env.set i (some d)) → Q σ' H) :=
    PG.imp hp fun pins s v σ H Q I ⟨env, d, rs, rv, q⟩ => by
      have hl : i < σ.length := by rw [I.len]; exact (List.getElem?_eq_some_iff.mp hN).1
      exact q _ (((RSo.of rs fun _ => False).set i rv hl).rs fun _ z => z.1)
  refine (pss_one (ps_asg (X := X.suite a pn) (pos := p) (kon_pe c.xg.ok he) hp2 (noSw_eq (l := p.line) (env := X.env) c.sc hs) (stores_none (t := .Name y py) (e := e) rfl rfl) rfl)).imp fun D σ H ⟨env, M, rs, rm, q⟩ => ?_
  exact ⟨M, rm, fun v H' rv rm' st => ⟨env, d, rs.mono c.xg.ok (st.kpt rm), rv, fun σ' rs' => q _ _ rs' rm' st⟩⟩
/-- the clauses, as the layer has them -/
def hdl (G : Gx) (hs : List (String × Nat × D)) : List (Value × (Addr → Value → Option Addr → TS)) := hs.map fun h => (.ref ((G.exc h.1).getD 0), fun _ _ _ => tSu G h.2.1 h.2.2)
theorem hds_ok (c : CtxC S X G k φ) : ∀ {hs : List (String × Nat × D)} {hds : List ExceptHandler}, ckHs S hs hds = true → HdsOk X hds (hdl G hs)
  | [], [], _ => .nil
  | (x, i, d) :: r, h :: hds, q => by
    rw [ckHs, and_iff] at q
    obtain ⟨q, qr⟩ := q
    split at q
    · rename_i x' y e hh
      obtain ⟨p1, p2, p3, p4, rfl⟩ := asHd_eq hh
      simp only [and_iff, decide_eq_true_eq, List.any_eq_true] at q
      obtain ⟨⟨⟨⟨rfl, ⟨z, hz, e1⟩⟩, h2⟩, h3⟩, h4⟩ := q
      have e1 : z.1 = x := beq_iff_eq.mp e1
      obtain ⟨C, c1, _, c3⟩ := c.exc _ hz
      rw [e1] at c1 c3
      obtain ⟨g1, g2⟩ := glB_of c.toCtx h2
      have e2 : (hdl G ((x, i, d) :: r)) = (.ref C, fun _ _ _ => tSu G i d) :: hdl G r := by unfold hdl; rw [List.map_cons, c1]; rfl
      rw [e2]
      exact .cons ⟨g1, okNm_d g2, .inl c3⟩ (fun a oe cls dd pn _ _ => su_ps c h3 h4 a _) (hds_ok c qr)
    · cases q
  | [], _ :: _, q => by simp [ckHs] at q
  | _ :: _, [], q => by simp [ckHs] at q
theorem many_ok (c : CtxC S X G k φ) {DE : L2.Ends} {K : MP.Ends} {env : Env} {M M1 : Mem} {σ : L2.St} {H H1 : Hp} {x : DX} {cls : Value} {dd : Option Addr} (rs : RS G σ H1 env) (rx : RXc G x cls) (rm : RM G H1 M1) (st : Stp M H M1 H1)
    (n1 : ∀ σ' H' env' M', RS G σ' H' env' → RM G H' M' → Stp M H M' H' → K.nx env' M' → DE.nx σ' H') (hx : ∀ cls d H', QX G M H K.ex cls d H' → E cls d H') :
    ∀ {hs : List (String × Nat × D)} {hds : List ExceptHandler}, ckHs S hs hds = true → wHs hs x env M1 K → wMany X.K (fun cls d _ H => E cls d H) DE (hdl G hs) cls dd σ H1
  | [], [], _, w => hx _ _ _ ⟨x, M1, rx, rm, st, w⟩
  | (z, i, d) :: r, h :: hds, q, w => by
    rw [ckHs, and_iff] at q
    obtain ⟨q, qr⟩ := q
    split at q
    · rename_i x' y e hh
      simp only [and_iff, decide_eq_true_eq, List.any_eq_true] at q
      obtain ⟨⟨⟨⟨_, ⟨p, hp, e1⟩⟩, _⟩, _⟩, _⟩ := q
      have e1 : p.1 = z := beq_iff_eq.mp e1
      obtain ⟨C, c1, _, c3⟩ := c.exc _ hp
      rw [e1] at c1
      obtain ⟨C2, rfl, x1, x2⟩ := rx
      have e2 : (hdl G ((z, i, d) :: r)) = (.ref C, fun _ _ _ => tSu G i d) :: hdl G r := by unfold hdl; rw [List.map_cons, c1]; rfl
      rw [e2]
      rw [wHs] at w
      refine ⟨decide (z ∈ G.anc x.cls), by rw [c.xg.K]; exact c.xg.gf.xm _ _ _ _ x1 c1, fun hb a na => ?_, fun hb => ?_⟩
      · rw [if_pos (by rw [x2]; exact of_decide_eq_true hb)] at w
        exact ⟨env, M1, rs, rm, fun σ' H' rs' rm' st' => n1 _ _ _ _ rs' rm' (st.trans st') w⟩
      · rw [if_neg (by rw [x2]; exact of_decide_eq_false hb)] at w
        exact many_ok c rs ⟨C2, rfl, x1, x2⟩ rm st n1 hx qr w
    · cases q
  | [], _ :: _, q, _ => by simp [ckHs] at q
  | _ :: _, [], q, _ => by simp [ckHs] at q
theorem CtxC.tr (c : CtxC S X G k φ) (pn : List (Addr × Obj)) (xe : Value → Shared → Prop) : CtxC S (X.tr pn xe) G k φ :=
  ⟨⟨⟨c.xg.w, c.xg.K, c.xg.calm, c.xg.nd, c.xg.room, c.xg.gf⟩, c.sc, c.N, c.fn, c.ow, c.flds, c.blt, c.cons⟩, c.fns, c.clss, c.exc, c.lamI, c.lamM⟩
theorem try_ps (c : CtxC S X G k φ) (T : TX X E) {t : XT} {mk : Bool} {f : String} {es : CEs} {hs : List (String × Nat × D)} {b : Stmt} {h : ExceptHandler} {hds : List ExceptHandler} {p : Pos} (hb : ckXT S t mk f es b = true) (hh : ckHs S hs (h :: hds) = true) :
    PS X (.Try [b] (h :: hds) [] [] p) (tSt G E fun en M K => wEs φ es en M (fun ds M => wCall φ mk f ds M (fun d M => XT.fin t en d M K) fun x M => wHs hs x en M K) noX) := by
  refine (ps_try_many T.hs T.hf T.tk (tb := fun W D σ H => tCX G W t (fun en M Q Xd => wEs φ es en M (fun ds M => wCall φ mk f ds M Q Xd) noX) D σ H)
    (fun W pn xe tk hp => pss_one (stX_ps (c.tr pn xe) tk hb)) (hds_ok c hh)).imp fun D σ H ⟨env, M, K, a, b, w, hx, n1, n2, n3, n4⟩ => ?_
  refine ⟨env, M, K, fun x M => wHs hs x env M K, a, b, w, n1, n2, fun cls d H' ⟨x, M', rx, rm, st, w⟩ => ?_⟩
  exact many_ok c (a.mono c.xg.ok (st.kpt b)) rx rm st n1 hx hh w
theorem tryV_ps (c : CtxC S X G k φ) (T : TX X E) {j i : Nat} {hs : List (String × Nat × D)} {y : Str} {py pa : Pos} {e : Expr} {h : ExceptHandler} {hds : List ExceptHandler} {p : Pos} (hn : ckName S j y = true) (he : ckCallV S i e = true) (hh : ckHs S hs (h :: hds) = true) :
    PS X (.Try [.Assign [.Name y py] e pa] (h :: hds) [] [] p) (tSt G E fun en M K => match get en i with | some (.clo l cap) => φ l cap M (fun d M => K.nx (en.set j (some d)) M) fun x M => wHs hs x en M K | _ => False) := by
  unfold ckCallV at he
  split at he
  · rename_i x hx
    obtain ⟨p1, q1, rfl⟩ := asCall_eq hx
    simp only [and_iff, decide_eq_true_eq] at he
    obtain ⟨⟨⟨g1, g2⟩, g3⟩, g4⟩ := he
    obtain ⟨L, hl⟩ := c.lamI g4
    refine (ps_try_many T.hs T.hf T.tk (tb := fun W D σ H => tCX G W (.nm j) (fun en M Q Xd => match get en i with | some (.clo l cap) => φ l cap M Q Xd | _ => False) D σ H)
      (fun W pn xe tk hp => pss_one (nmX_ps (c.tr pn xe) hn rfl (callvX_pe (L := L) (c.tr pn xe) hl tk g1 g2 g3))) (hds_ok c hh)).imp fun D σ H ⟨env, M, K, a, b, w, hx, n1, n2, n3, n4⟩ => ?_
    refine ⟨env, M, K, fun x M => wHs hs x env M K, a, b, w, n1, n2, fun cls d H' ⟨x, M', rx, rm, st, w⟩ => ?_⟩
    exact many_ok c (a.mono c.xg.ok (st.kpt b)) rx rm st n1 hx hh w
  · cases he
end
end MP
end
section
/-! MP19: loops; the checker of statements is right. -/
namespace MP
open PySem PySem.Spec L2
section
variable {G : Gx} {k : Nat} {φ : CallSem}
section
variable {S : Sx} {X : Cx} {E : XK} {e x y : Expr}
def forStep (t : CT) (Wb : Env → Mem → Ends → Prop) (d : D) (e : Env) (M : Mem) (K : Ends) : Prop := match bind M t d e with
  | some e => Wb e M K
  | none => False
/-- behind a for, ahead of what its iterator does then -/
def ForPost (X : Cx) (G : Gx) (M : Mem) (H : Hp) (P : Hp → Mem → Mem → Prop) (H' : Hp) : Prop := ∃ (I : MP.It) (J : L2.It) (fp : List Addr) (M1 : Mem) (H1 : Hp) (M' : Mem), IR X G I J fp M H M1 H1 ∧ Same fp M1 H1 M' H' ∧ RM G H' M' ∧ Stp M H M' H' ∧ P H' M' (I.fin M')
theorem for_ps (cx : CtxC S X G k φ) {tg it : Expr} {bd : List Stmt} {p : Pos} {t : CT} {Wi : Env → Mem → (MP.It → Mem → Prop) → Prop} {Wb : Env → Mem → Ends → Prop} (hp : PassesOwn (model X.prog X.w) X.A X.env X.xe) (hs : notSet it = true) (ht : ckT S t tg = true) (hi : PI X tg it (tWi X G Wi)) (hb : PSs X bd (tSt G E Wb)) :
    PS X (.For tg it bd [] p) (tSt G E fun en M K => Wi en M fun J M => forLoop J (forStep t Wb) K J.ds en M) := by
  refine ⟨fun pins s σ H D I ⟨env, M, K, rs, rm, w, hx, n1, n2, n3, n4⟩ => ?_⟩
  have g := cx.xg.ok
  refine thn ((ps_for hp cx.xg.calm hi (tg_ok cx.toCtx t ht) hb (folded_of hs)).run pins s σ H
    { nx := fun σ' H' => ForPost X G M H (fun H' M' Mf => ∃ env', RS G σ' H' env' ∧ K.nx env' Mf) H', rt := fun v H' => ForPost X G M H (fun H' M' Mf => ∃ d, RV G H' d v ∧ K.rt d Mf) H' } I ?_) fun f s1 q => ?_
  · refine ⟨env, M, _, rs, rm, w, fun It J fp M1 H1 ir rm1 st1 hl => ?_⟩
    refine ⟨fun i m σ' H' => m = It.ds.length - i ∧ i ≤ It.ds.length ∧ ∃ env' M', RS G σ' H' env' ∧ RM G H' M' ∧ Same fp M1 H1 M' H' ∧ Kpt H1 H' ∧ Stp M H M' H' ∧ forLoop It (forStep t Wb) K (It.ds.drop i) env' M', ⟨_, rfl, Nat.zero_le _, env, M1, rs.mono g (st1.kpt rm), rm1, .refl _ _ _, .refl _, st1, hl⟩, ?_⟩
    rintro i m σ' H' ⟨rfl, hile, env', M', e1, e2, e3, e4, e5, e6⟩
    by_cases hlt : i < It.ds.length
    · right
      rw [List.drop_eq_getElem_cons hlt] at e6
      unfold forLoop at e6
      obtain ⟨hok, e6⟩ := e6
      refine ⟨ir.go i M' H' hlt e3 e4 e2 hok, fun σ'' H'' => ∃ env'' M'', RS G σ'' H'' env'' ∧ RM G H'' M'' ∧ Same fp M1 H1 M'' H'' ∧ Kpt H1 H'' ∧ Stp M H M'' H'' ∧ forLoop It (forStep t Wb) K (It.ds.drop (i + 1)) env'' M'', ?_, ?_⟩
      · rintro σ'' H'' hh
        exact ⟨It.ds.length - (i + 1), by omega, rfl, hlt, hh⟩
      · intro x H2 hy
        obtain ⟨d, d1, d2, d3, d4, d5⟩ := ir.yld i M' H' x H2 e3 e4 e2 hok hy hlt
        have hd : d = It.ds[i] := by rw [List.getElem?_eq_getElem hlt] at d1; exact (Option.some.inj d1).symm
        unfold forStep at e6
        rw [← hd] at e6
        split at e6
        · rename_i env2 hb2
          have k2 := d4.kpt e2
          have s2 := e3.step ir.fix d4
          have st2 := e5.trans d4
          refine ⟨d, M', env', env2, fun _ => False, d2, d3, .of (e1.mono g k2) _, hb2, fun σ2 r ag => ?_⟩
          have nxt : ∀ σ3 H3 env3 M3, RS G σ3 H3 env3 → RM G H3 M3 → Stp M' H2 M3 H3 → forLoop It (forStep t Wb) K (It.ds.drop (i + 1)) env3 M3 → ∃ env'' M'', RS G σ3 H3 env'' ∧ RM G H3 M'' ∧ Same fp M1 H1 M'' H3 ∧ Kpt H1 H3 ∧ Stp M H M'' H3 ∧ forLoop It (forStep t Wb) K (It.ds.drop (i + 1)) env'' M'' :=
            fun σ3 H3 env3 M3 z1 z2 z3 z4 => ⟨env3, M3, z1, z2, s2.step ir.fix z3, e4.trans (k2.trans (z3.kpt d3)), st2.trans z3, z4⟩
          refine ⟨env2, M', _, r.rs fun i => fun z => z.1, d3, e6, fun cls d H3 q => hx _ _ _ (q.step st2), nxt, fun v H3 ⟨dv, M3, z1, z2, z3, z4⟩ => ?_, fun σ3 H3 env3 M3 z1 z2 z3 z4 => ?_, nxt⟩
          · exact ⟨It, J, fp, M1, H1, M3, ir, s2.step ir.fix z3, z2, st2.trans z3, dv, z1, z4⟩
          · exact ⟨It, J, fp, M1, H1, M3, ir, s2.step ir.fix z3, z2, st2.trans z3, env3, z1, z4⟩
        · exact e6.elim
    · left
      have hi : i = It.ds.length := by omega
      subst hi
      rw [List.drop_length] at e6
      unfold forLoop at e6
      exact ⟨ir.stop M' H' e3 e4 e2 e6.1, It, J, fp, M1, H1, M', ir, e3, e2, e5, env', e1, e6.2⟩
  · cases f with
    | next =>
      obtain ⟨σ', H', I1, It, J, fp, M1, H1, M', ir, z1, z2, z3, env', z4, z5⟩ := q
      obtain ⟨H2, I2, rm2, st2, k2, oth⟩ := ir.fin pins σ' M' H' s1 I1 z1 z2 z3
      exact ⟨σ', H2, I2, n1 _ _ _ _ (z4.mono g k2) rm2 st2 z5⟩
    | ret u =>
      obtain ⟨v, σ', H', I1, rv, It, J, fp, M1, H1, M', ir, z1, z2, z3, d, z4, z5⟩ := q
      obtain ⟨H2, I2, rm2, st2, k2, oth⟩ := ir.fin pins σ' M' H' s1 I1 z1 z2 z3
      exact ⟨v, σ', H2, I2, rv, n2 _ _ ⟨d, It.fin M', z4.mono g k2, rm2, st2, z5⟩⟩
    | brk => obtain ⟨_, _, _, q⟩ := q; exact q.elim
    | cont => obtain ⟨_, _, _, q⟩ := q; exact q.elim
theorem while_ps (g : GOk G) {bd : List Stmt} {p : Pos} {Wc : Env → Mem → (Bool → Mem → Prop) → Prop} {Wb : Env → Mem → Ends → Prop} (hp : PassesOwn (model X.prog X.w) X.A X.env X.xe) (hc : PT X e (tWb G Wc)) (hb : PSs X bd (tSt G E Wb)) :
    PS X (.While e bd [] p) (tSt G E fun en M K => ∃ n, whileLoop Wc Wb K n en M) := by
  refine (ps_while hp hc hb).imp fun D σ H ⟨env, M, K, a, b, ⟨n, w⟩, hx, n1, n2, n3, n4⟩ => ?_
  refine ⟨fun m σ' H' => ∃ env' M', RS G σ' H' env' ∧ RM G H' M' ∧ Stp M H M' H' ∧ whileLoop Wc Wb K m env' M', ⟨n, env, M, a, b, .refl _ _, w⟩, ?_⟩
  rintro m σ' H' ⟨env', M', e1, e2, e3, e4⟩
  cases m with
  | zero => exact e4.elim
  | succ m =>
    unfold whileLoop at e4
    refine ⟨env', M', _, e1, e2, e4, fun k H1 ⟨M1, c2, st, c4⟩ => ?_⟩
    have a' := e1.mono g (st.kpt e2)
    cases k with
    | true =>
      simp only [if_true] at c4
      refine PyProof.Rows.ite_tt ⟨fun σ2 H2 => ∃ env2 M2, RS G σ2 H2 env2 ∧ RM G H2 M2 ∧ Stp M H M2 H2 ∧ whileLoop Wc Wb K m env2 M2, fun σ2 H2 q => ⟨m, Nat.lt_succ_self _, q⟩, ?_⟩
      have nxt : ∀ σ3 H3 env3 M3, RS G σ3 H3 env3 → RM G H3 M3 → Stp M1 H1 M3 H3 → whileLoop Wc Wb K m env3 M3 → ∃ env2 M2, RS G σ3 H3 env2 ∧ RM G H3 M2 ∧ Stp M H M2 H3 ∧ whileLoop Wc Wb K m env2 M2 :=
        fun σ3 H3 env3 M3 z1 z2 z3 z4 => ⟨env3, M3, z1, z2, (e3.trans st).trans z3, z4⟩
      exact ⟨env', M1, _, a', c2, c4, fun cls d H3 q => hx _ _ _ (q.step (e3.trans st)), nxt, fun v H3 q => n2 _ _ (q.step (e3.trans st)), fun σ3 H3 env3 M3 z1 z2 z3 z4 => n1 _ _ _ _ z1 z2 ((e3.trans st).trans z3) z4, nxt⟩
    | false =>
      simp only [Bool.false_eq_true, if_false] at c4
      exact PyProof.Rows.ite_ff (n1 _ _ _ _ a' c2 (e3.trans st) c4)
/-- x += c -/
theorem aug_ps (cx : CtxC S X G k φ) {i : Nat} {nm : Str} {p q : Pos} {c : CE} {W : Env → Mem → VQ → Prop} (hn : ckName S i nm = true) (h : PE X e (tW G W)) (hw : ∀ en M Q, W en M Q ↔ ∃ j : Int, c = .con (.int j) ∧ Q (.int j) M) :
    PS X (.AugAssign (.Name nm p) .Add e q) (tSt G E fun en M K => (match get en i with | some d => W en M fun y M => wBin .add d y M fun d M => K.nx (en.set i (some d)) M | none => False)) := by
  obtain ⟨_, hN⟩ := name_ok (pos := p) cx.toCtx hn
  have hloc : Loc X.env.scope nm ∧ (X.fn nm = true ∨ X.env.scope.names.lookup nm = some .local) := by
    unfold ckName at hn
    rw [and_iff] at hn
    have h2 := hn.2
    rw [← cx.sc] at h2
    split at h2
    · rename_i z; exact ⟨.inl z, .inr z⟩
    · rename_i z; exact ⟨.inr z, .inl (cx.ow nm h2)⟩
    · cases h2
  refine (ps_aug cx.xg.nd hN hloc.1 h ip_add hloc.2).imp fun D σ H ⟨env, M, K, a, b, w, hx, n1, n2, n3, n4⟩ => ?_
  dsimp only at w
  split at w
  · rename_i d hd
    obtain ⟨v, e1, e2⟩ := a.2 i d hd
    obtain ⟨j, hj, wj⟩ := (hw _ _ _).1 w
    refine ⟨v, e1, env, M, fun y M' => y = .int j ∧ wBin .add d y M' fun d M => K.nx (env.set i (some d)) M, a, b, (hw _ _ _).2 ⟨j, hj, rfl, wj⟩, fun y H1 ⟨dy, M1, c1, c2, c3, c4, c5⟩ => ?_⟩
    subst c4
    cases d with
    | int i0 =>
      have c5' : K.nx (env.set i (some (.int (i0 + j)))) M1 := c5
      have c1' : y = .int j := c1
      have e2' : v = .int i0 := e2
      refine ⟨i0, j, e2', c1', n1 _ _ _ _ ?_ c2 c3 c5'⟩
      refine ((RSo.of (a.mono cx.xg.ok (c3.kpt b)) fun _ => False).set (d := .int (i0 + j)) i rfl ?_).rs fun _ z => z.1
      exact (List.getElem?_eq_some_iff.mp e1).1
    | _ => exact (show False from c5).elim
  · exact w.elim
end
/-! ### the checker of statements is right -/
theorem bind_name (M : Mem) (i : Nat) (d : D) (e : Env) : bind M (.name i) d e = some (e.set i (some d)) := by rw [bind]
theorem asg_eq (φ : CallSem) (t : CT) (c : CE) (en : Env) (M : Mem) (K : Ends) : wS φ (.asg t c) en M K = wE φ c en M (fun d M => match bind M t d en with | some e => K.nx e M | none => False) noX := by
  (rw [wS]) <;> rfl
theorem tSt_castX {W W' : Env → Mem → Ends → Prop} {X : Cx} {E : XK} {st : Stmt} (h : PS X st (tSt G E W)) (i : ∀ en M K, W' en M K → W en M K) : PS X st (tSt G E W') := h.imp fun D σ H ⟨env, M, K, a, b, w, hx, r⟩ => ⟨env, M, K, a, b, i _ _ _ w, hx, r⟩
theorem tSts_castX {W W' : Env → Mem → Ends → Prop} {X : Cx} {E : XK} {st : List Stmt} (h : PSs X st (tSt G E W)) (i : ∀ en M K, W' en M K → W en M K) : PSs X st (tSt G E W') := h.imp fun D σ H ⟨env, M, K, a, b, w, hx, r⟩ => ⟨env, M, K, a, b, i _ _ _ w, hx, r⟩
/-- an assignment of the plain kind -/
theorem asgP_ok {S : Sx} {X : Cx} {E : XK} {st : Stmt} {t : CT} {c : CE} (cx : CtxC S X G k φ) (h : ckAsgP S t c st = true) : PS X st (tSt G E (wS φ (.asg t c))) := by
  unfold ckAsgP at h
  split at h
  · rename_i tg e hx
    obtain ⟨p, rfl⟩ := asAssign_eq hx
    simp only [and_iff, Bool.not_eq_true'] at h
    obtain ⟨⟨⟨h1, h2⟩, h3⟩, h4⟩ := h
    exact tSt_castX (asg_ps cx (e_ok c cx h4).pe h3 h1 h2) fun en M K w => by rw [asg_eq] at w; exact w
  · cases h
theorem asgL_ok {S : Sx} {X : Cx} {E : XK} {st : Stmt} {t : CT} {c : CE} (cx : CtxC S X G k φ) (h : ckAsgL S t c st = true) : PS X st (tSt G E (wS φ (.asg t c))) := by
  unfold ckAsgL at h
  split at h
  · rename_i i ci t ifs a
    split at h
    · rename_i tg e hx
      obtain ⟨p, rfl⟩ := asAssign_eq hx
      split at h
      · rename_i y hy
        rw [and_iff, and_iff] at h
        obtain ⟨⟨h1, h2⟩, h⟩ := h
        split at h
        · rename_i elt ctg it cs sc hl
          simp only [and_iff] at h
          obtain ⟨⟨⟨h3, h4⟩, h5⟩, h6, h7, h8⟩ := h
          refine tSt_castX (setLc_ps cx hy hl h1 h2 h4 h5 h6 (i_ok ci cx h3) h7 h8) fun en M K w => ?_
          rw [asg_eq] at w
          simp only [wE, bind_name] at w
          exact w
        · cases h
      · cases h
    · cases h
  · cases h
theorem asgD_ok {S : Sx} {X : Cx} {E : XK} {st : Stmt} {t : CT} {c : CE} (cx : CtxC S X G k φ) (h : ckAsgD S t c st = true) : PS X st (tSt G E (wS φ (.asg t c))) := by
  unfold ckAsgD at h
  split at h
  · rename_i i ci t ifs a b
    split at h
    · rename_i tg e hx
      obtain ⟨p, rfl⟩ := asAssign_eq hx
      split at h
      · rename_i y hy
        rw [and_iff, and_iff] at h
        obtain ⟨⟨h1, h2⟩, h⟩ := h
        split at h
        · rename_i kx vx ctg it cs sc hl
          simp only [and_iff] at h
          obtain ⟨⟨⟨h3, h4⟩, h5⟩, h6, h7, h8, h9⟩ := h
          obtain ⟨pe, rfl⟩ := asDC_eq hl
          refine tSt_castX (setDc_ps cx hy h1 h2 h4 h5 h6 (i_ok ci cx h3) h7 h8 h9) fun en M K w => ?_
          rw [asg_eq] at w
          simp only [bind_name] at w
          exact w
        · cases h
      · cases h
    · cases h
  · cases h
theorem asgA_ok {S : Sx} {X : Cx} {E : XK} {st : Stmt} {t : CT} {c : CE} (cx : CtxC S X G k φ) (h : ckAsgA S t c st = true) : PS X st (tSt G E (wS φ (.asg t c))) := by
  unfold ckAsgA at h
  split at h
  · rename_i i j n
    split at h
    · rename_i x o e hx
      obtain ⟨p, q, rfl⟩ := asAug_eq hx
      simp only [and_iff, decide_eq_true_eq] at h
      obtain ⟨⟨⟨rfl, rfl⟩, h2⟩, h3⟩ := h
      refine tSt_castX (aug_ps (c := .con (.int n)) (W := WE φ (.con (.int n))) cx h2 (e_ok _ cx h3).pe fun en M Q => ?_) fun en M K w => ?_
      · simp only [WE, wE]
        exact ⟨fun q => ⟨n, rfl, q⟩, fun ⟨j, e, q⟩ => by cases e; exact q⟩
      · rw [asg_eq] at w
        simp only [wE, bind_name] at w
        simp only [WE, wE]
        split at w
        · rename_i d hd
          first | exact w.2 | (rw [hd]; exact w.2)
        · exact w.elim
    · cases h
  · cases h
mutual
theorem s_ok : ∀ (c : CS) {S : Sx} {X : Cx} {E : XK} {st : Stmt}, CtxC S X G k φ → TX X E → ckS S c st = true → PS X st (tSt G E (wS φ c))
  | .skip, S, X, E, st, cx, hp, h => by
    rw [ckS] at h
    exact tSt_cast (skip_ps h) fun en M K w => by simp only [wS] at w; exact w
  | .expr c, S, X, E, st, cx, hp, h => by
    rw [ckS] at h
    split at h
    · rename_i e hx
      obtain ⟨p, rfl⟩ := asExpr_eq hx
      simp only [and_iff, Bool.not_eq_true'] at h
      exact tSt_castX (expr_ps cx h.1 (e_ok c cx h.2).pe) fun en M K w => by rw [wS] at w; exact w
    · cases h
  | .ret c, S, X, E, st, cx, hp, h => by
    rw [ckS] at h
    split at h
    · rename_i e hx
      obtain ⟨p, rfl⟩ := asRet_eq hx
      exact tSt_castX (ret_ps (e_ok c cx h).pe) fun en M K w => by rw [wS] at w; exact w
    · rename_i hx
      obtain ⟨p, rfl⟩ := asRet_eq hx
      exact tSt_castX retN_ps fun en M K w => by rw [isNon_eq h, wS, wE] at w; exact w
    · cases h
  | .brk, S, X, E, st, cx, hp, h => by
    rw [ckS] at h
    obtain ⟨p, rfl⟩ := isBrk_eq h
    exact tSt_cast brk_ps fun en M K w => by simp only [wS] at w; exact w
  | .cont, S, X, E, st, cx, hp, h => by
    rw [ckS] at h
    obtain ⟨p, rfl⟩ := isCont_eq h
    exact tSt_cast cont_ps fun en M K w => by simp only [wS] at w; exact w
  | .asg t c, S, X, E, st, cx, hp, h => by
    rw [ckS, Bool.or_eq_true, Bool.or_eq_true, Bool.or_eq_true] at h
    rcases h with ((h | h) | h) | h
    · exact asgP_ok cx h
    · exact asgL_ok cx h
    · exact asgA_ok cx h
    · exact asgD_ok cx h
  | .asgIx o i v, S, X, E, st, cx, hp, h => by
    rw [ckS] at h
    split at h
    · rename_i tg e hx
      obtain ⟨p, rfl⟩ := asAssign_eq hx
      split at h
      · rename_i x y hy
        obtain ⟨p2, rfl⟩ := asSub_eq hy
        simp only [and_iff] at h
        obtain ⟨h1, h2, h3, h4⟩ := h
        exact tSt_castX (asgIx_ps cx h1 (e_ok v cx h2).pe (e_ok o cx h3).pe (e_ok i cx h4).pe) fun en M K w => by rw [wS] at w; exact w
      · cases h
    · cases h
  | .asgFld o f v, S, X, E, st, cx, hp, h => by
    rw [ckS] at h
    split at h
    · rename_i tg e hx
      obtain ⟨p, rfl⟩ := asAssign_eq hx
      split at h
      · rename_i x y hy
        obtain ⟨p2, rfl⟩ := asAttr_eq hy
        simp only [and_iff, decide_eq_true_eq] at h
        obtain ⟨⟨rfl, h1⟩, h2, h3⟩ := h
        exact tSt_castX (asgFld_ps cx h1 (e_ok v cx h2).pe (e_ok o cx h3).pe) fun en M K w => by rw [wS] at w; exact w
      · cases h
    · cases h
  | .ife c a b, S, X, E, st, cx, hp, h => by
    rw [ckS] at h
    split at h
    · rename_i x y z hx
      obtain ⟨p, rfl⟩ := asIfS_eq hx
      simp only [and_iff] at h
      exact tSt_castX (if_ps cx.xg.ok (e_ok c cx h.1).pt (ss_ok a cx hp h.2.1) (ss_ok b cx hp h.2.2)) fun en M K w => by rw [wS] at w; exact w
    · cases h
  | .for_ i t b, S, X, E, st, cx, hp, h => by
    rw [ckS] at h
    split at h
    · rename_i tg it bd hx
      obtain ⟨p, rfl⟩ := asFor_eq hx
      simp only [and_iff] at h
      obtain ⟨⟨h1, h2⟩, h3, h4⟩ := h
      exact tSt_castX (for_ps cx hp.ps h1 h2 (i_ok i cx h3) (ss_ok b cx hp h4)) fun en M K w => by rw [wS] at w; exact w
    · cases h
  | .while_ c b, S, X, E, st, cx, hp, h => by
    rw [ckS] at h
    split at h
    · rename_i x bd hx
      obtain ⟨p, rfl⟩ := asWhile_eq hx
      simp only [and_iff] at h
      exact tSt_castX (while_ps cx.xg.ok hp.ps (e_ok c cx h.1).pt (ss_ok b cx hp h.2)) fun en M K w => by rw [wS] at w; exact w
    · cases h
  | .never, S, X, E, st, cx, hp, h => never_ps fun en M K w => by rw [wS] at w; exact w
  | .raise c anc, S, X, E, st, cx, hp, h => by
    rw [ckS] at h
    split at h
    · rename_i x hx
      obtain ⟨p, q, r, rfl⟩ := asRaise_eq hx
      simp only [and_iff, decide_eq_true_eq] at h
      obtain ⟨⟨rfl, h1⟩, h2⟩ := h
      exact tSt_castX (raise_ps cx hp h1 h2) fun en M K w => by rw [wS] at w; exact w
    · cases h
  | .callX t f es, S, X, E, st, cx, hp, h => by
    rw [ckS] at h
    exact tSt_castX (callX_ps cx hp h) fun en M K w => by rw [wS] at w; exact w
  | .makeX t f es, S, X, E, st, cx, hp, h => by
    rw [ckS] at h
    exact tSt_castX (callX_ps cx hp h) fun en M K w => by rw [wS] at w; exact w
  | .tryC t mk f es hs, S, X, E, st, cx, hp, h => by
    rw [ckS] at h
    split at h
    · rename_i b h0 hds hx
      obtain ⟨p, rfl⟩ := asTry_eq hx
      rw [and_iff] at h
      exact tSt_castX (try_ps cx hp h.1 h.2) fun en M K w => by rw [wS] at w; exact w
    · cases h
  | .tryV j i hs, S, X, E, st, cx, hp, h => by
    rw [ckS] at h
    split at h
    · rename_i b h0 hds hx
      obtain ⟨p, rfl⟩ := asTry_eq hx
      rw [and_iff] at h
      obtain ⟨h1, h2⟩ := h
      split at h1
      · rename_i tg e hy
        obtain ⟨pa, rfl⟩ := asAssign_eq hy
        split at h1
        · rename_i y hz
          obtain ⟨py, rfl⟩ := asName_eq hz
          rw [and_iff] at h1
          exact tSt_castX (tryV_ps cx hp h1.1 h1.2 h2) fun en M K w => by rw [wS] at w; exact w
        · cases h1
      · cases h1
    · cases h
  | .seq _ _, S, X, E, st, cx, hp, h => by simp [ckS] at h
theorem ss_ok : ∀ (c : CS) {S : Sx} {X : Cx} {E : XK} {sts : List Stmt}, CtxC S X G k φ → TX X E → ckSs S c sts = true → PSs X sts (tSt G E (wS φ c))
  | .skip, S, X, E, [], cx, hp, h => tSts_castX nil_pss fun en M K w => by rw [wS] at w; exact w
  | .seq a b, S, X, E, st :: sts, cx, hp, h => by
    rw [ckSs, and_iff] at h
    exact tSts_castX (cons_pss cx.xg.ok (s_ok a cx hp h.1) (ss_ok b cx hp h.2)) fun en M K w => by rw [wS] at w; exact w
  | .skip, S, X, E, _ :: _, cx, hp, h => by simp [ckSs] at h
  | .seq _ _, S, X, E, [], cx, hp, h => by simp [ckSs] at h
  | .expr _, S, X, E, _, cx, hp, h | .ret _, S, X, E, _, cx, hp, h | .brk, S, X, E, _, cx, hp, h | .cont, S, X, E, _, cx, hp, h | .asg _ _, S, X, E, _, cx, hp, h | .asgIx _ _ _, S, X, E, _, cx, hp, h | .asgFld _ _ _, S, X, E, _, cx, hp, h | .ife _ _ _, S, X, E, _, cx, hp, h | .for_ _ _ _, S, X, E, _, cx, hp, h | .while_ _ _, S, X, E, _, cx, hp, h | .never, S, X, E, _, cx, hp, h | .raise _ _, S, X, E, _, cx, hp, h | .callX _ _ _, S, X, E, _, cx, hp, h | .makeX _ _ _, S, X, E, _, cx, hp, h | .tryC _ _ _ _ _, S, X, E, _, cx, hp, h | .tryV _ _ _, S, X, E, _, cx, hp, h => by simp [ckSs] at h
end
end
end MP
end
section
/-! MP20: every def and every lambda of the text keeps its promise, by the level of the calls. -/
namespace MP
open PySem PySem.Spec L2
theorem bind1 (a : Arg) (q : Str) (body : Expr) (scope : Scope) (cl : List (Str × Addr)) (pm cv ctv u : Value) : bindArgs (PySem.W.kla_fn "<lambda>" q ⟨[], [a], none, [], [], none, []⟩ body scope cl pm cv ctv) ⟨[u], []⟩ = pure [(a.arg, u)] := by
  have e : (a.arg == a.arg) = true := beq_self_eq_true _
  have h0 : seqItems? Value.none = pure none := rfl
  unfold bindArgs
  simp [h0, e, List.lookup]
theorem bind0 (q : Str) (body : Expr) (scope : Scope) (cl : List (Str × Addr)) (pm cv ctv : Value) : bindArgs (PySem.W.kla_fn "<lambda>" q ⟨[], [], none, [], [], none, []⟩ body scope cl pm cv ctv) ⟨[], []⟩ = pure [] := by
  have h0 : seqItems? Value.none = pure none := rfl
  unfold bindArgs
  simp [h0, List.lookup]
def oneArg : Arguments → List Str → Bool
  | ⟨[], [ar], none, [], [], none, []⟩, [a] => decide (ar.arg = a)
  | ⟨[], [], none, [], [], none, []⟩, [] => true
  | _, _ => false
theorem oneArg_bind {ps : Arguments} {as : List Str} (h : oneArg ps as = true) (q : Str) (body : Expr) (scope : Scope) (cl : List (Str × Addr)) (pm cv ctv : Value) (us : List Value) (hl : us.length = as.length) : bindArgs (PySem.W.kla_fn "<lambda>" q ps body scope cl pm cv ctv) ⟨us, []⟩ = pure (as.zip us) := by
  unfold oneArg at h
  split at h
  · obtain ⟨u, rfl⟩ := List.length_eq_one_iff.mp hl
    rw [← of_decide_eq_true h]
    exact bind1 ..
  · obtain rfl := List.length_eq_zero_iff.mp hl
    exact bind0 ..
  · cases h
/-- what a lambda's text is held against -/
def ckBd (S : Sx) : CS → Expr → Bool
  | .ret ce, b => ckE S ce b
  | .callX .rt f es, b => ckCall S false f es b
  | _, _ => false
/-- the text's functions as they stand: adr: where; fdt: their objects; ps: their parameters; Nm: their names; lm: makes lambdas -/
structure PX where
  adr : String → Addr
  fdt : String → FuncData
  ps : String → List Str
  Nm : String → List Str
  lm : String → Bool
/-- in a lambda -/
def Sx.inL (S : Sx) (N : List Str) (sc : Scope) : Sx := { S with N := N, sc := sc, top := false, lm := false, cv := false, lams := [], lamB := fun _ _ _ _ => false, own := fun _ => false }
def lamBOf (S : Sx) (l : String) (ps : Arguments) (b : Expr) (sc : Scope) : Bool := match S.lams.find? (fun E => E.l == l) with
  | some E => oneArg ps E.ps && NdefX.nscB E.N E.ps E.fr sc && ckBd (S.inL E.N sc) E.bd b
  | none => false
/-- in a def -/
def Sx.inD (S : Sx) (N : List Str) (sc : Scope) (lm : Bool) : Sx := { S with N := N, sc := sc, top := true, lm := lm, cv := true, lamB := lamBOf S, own := fun _ => true }
def LamP (S : Sx) (l : String) (d : LamD) : Prop := ∃ E, S.lams.find? (fun E => E.l == l) = some E ∧ lamBOf S l d.params d.body d.scope = true ∧ d.ps = E.ps ∧ d.fr = E.fr ∧ d.N = E.N
structure DefOk (K : PySem.W.Frag) (mg : Str → Option Value) (base : Heap) (T : List (Addr × Str)) (S : Sx) (Y : PX) (f : String) (fd : FD) : Prop where
  ex : ∃ (x qual : Str) (params : Arguments) (body : List Stmt) (scope : Scope) (oc : Value) (od : Option Addr) (dV kV doc pm : Value) (an : Option Addr) (cdv ct : Value) (osl : Array (Option Value)),
    Y.fdt f = PySem.W.fnOf x qual params body scope dV kV doc pm an cdv ct ∧ K.lookup (Y.adr f) = some ⟨oc, od, .func (Y.fdt f), osl⟩ ∧ PySem.W.codeIn K cdv qual = true ∧ FnScope (Y.Nm f) (Y.ps f) scope ∧
    ckSs (S.inD (Y.Nm f) scope (Y.lm f)) fd.body body = true ∧
    (Y.lm f = true → ∃ cc P, LamX.TabB base mg cc P ∧ cdv = .ref cc ∧ (P, qual ++ ".<locals>." ++ "<lambda>") ∈ T ∧ ∀ p ∈ T, p.1 = P → p.2 = qual ++ ".<locals>." ++ "<lambda>")
  kp : PySem.W.keepIn K (.ref (Y.adr f)) = true
  bind : Binds K (Y.fdt f) (Y.ps f) []
  pn : fd.ps = (Y.ps f).length
  nn : fd.ns = (Y.Nm f).length
structure ProgOk (K : PySem.W.Frag) (mg : Str → Option Value) (base : Heap) (S : Sx) (Y : PX) (G : Gx) (P : Prog) : Prop where
  kk : G.K = K
  gf : GF G
  clo : G.clo = cloL (LamP S)
  flds : G.flds = S.flds
  defs : ∀ f fd, P f = some fd → S.lams.find? (fun E => E.l == f) = none → DefOk K mg base G.T S Y f fd
  lams : ∀ l E, S.lams.find? (fun E => E.l == l) = some E → P l = some ⟨E.ps.length + E.fr.length, E.N.length, E.bd⟩
  glo : ∀ f ∈ S.fns, (P f).isSome = true ∧ S.lams.find? (fun E => E.l == f) = none ∧ mg (Str.ofString (S.tx f)) = some (.ref (Y.adr f))
  cls : ∀ c ∈ S.clss, (P (c ++ ".__init__")).isSome = true ∧ S.lams.find? (fun E => E.l == c ++ ".__init__") = none ∧ ∃ C, Mk K C (Y.adr (c ++ ".__init__")) ∧ mg (Str.ofString c) = some (.ref C) ∧ G.cls c = some C
  blt : ∀ b ∈ bltNames, mg (Str.ofString b) = none
  exc : ∀ p ∈ S.excs, ∃ C, G.exc p.1 = some C ∧ G.anc p.1 = p.2 ∧ mg (Str.ofString p.1) = some (.ref C)
  cons : ∀ p ∈ S.cons, ∃ u v, mg (Str.ofString p.1) = some u ∧ RelV v u ∧ ∀ H, RV G H p.2 v
section
variable {K : PySem.W.Frag} {mg : Str → Option Value} {S : Sx} {Y : PX} {G : Gx} {P : Prog} {pr : Program} {base : Heap}
def FnsAt (pr : Program) (K : PySem.W.Frag) (mg : Str → Option Value) (base : Heap) (S : Sx) (Y : PX) (G : Gx) (P : Prog) (n : Nat) : Prop :=
  (∀ f fd, P f = some fd → S.lams.find? (fun E => E.l == f) = none → FnOk pr G.w K mg base (L2.CX pr G.w) (2 * n) (Y.adr f) (Y.fdt f) (Y.ps f) (spD G (callN P n) f)) ∧
  ∀ l d, LamP S l d → LamOk pr G.w K mg base (2 * n) G (callN P n) l
theorem DefOk.fn {f : String} {fd : FD} {T : List (Addr × Str)} (D : DefOk K mg base T S Y f fd) : True := trivial
theorem fns_ctx (ok : ProgOk K mg base S Y G P) {n : Nat} {φ : CallSem} {X : Cx} (hφ : φ = callN P n) (h : FnsAt pr K mg base S Y G P n) (e1 : X.prog = pr) (e2 : X.w = G.w) (e3 : X.K = K) (e4 : X.mg = mg) (e5 : X.base = base) (hr : Room (2 * n + 1) X.A) :
    (∀ f ∈ S.fns, FnI X G φ (S.tx f) f) ∧ ∀ c ∈ S.clss, MkI X G φ c := by
  subst hφ e1 e3 e4 e5
  refine ⟨fun g hg => ?_, fun c hc => ?_⟩
  · obtain ⟨q1, q0, q2⟩ := ok.glo g hg
    obtain ⟨fg, hfg⟩ := Option.isSome_iff_exists.mp q1
    have Dg := ok.defs g fg hfg q0
    rw [FnI, e2]
    exact ⟨L2.CX X.prog G.w, rfl, Y.adr g, Y.fdt g, Y.ps g, 2 * n, h.1 g fg hfg q0, hr.mono (Nat.le_succ _), q2, Dg.kp, Dg.bind, fun _ _ _ _ _ q => cx_no q⟩
  · obtain ⟨q1, q0, C, q2, q3, q4⟩ := ok.cls c hc
    obtain ⟨fg, hfg⟩ := Option.isSome_iff_exists.mp q1
    have Dg := ok.defs _ fg hfg q0
    rw [MkI, e2]
    exact ⟨L2.CX X.prog G.w, rfl, C, Y.adr (c ++ ".__init__"), Y.fdt (c ++ ".__init__"), Y.ps (c ++ ".__init__"), 2 * n, q2, h.1 _ fg hfg q0, hr, q3, q4, Dg.bind, fun _ _ _ _ _ q => cx_no q⟩
theorem fn_step (ok : ProgOk K mg base S Y G P) {n : Nat} (h : FnsAt pr K mg base S Y G P n) (f : String) (fd : FD) (hf : P f = some fd) (hl : S.lams.find? (fun E => E.l == f) = none) :
    FnOk pr G.w K mg base (L2.CX pr G.w) (2 * (n + 1)) (Y.adr f) (Y.fdt f) (Y.ps f) (spD G (callN P (n + 1)) f) := by
  have D := ok.defs f fd hf hl
  obtain ⟨x, qual, params, body, scope, oc, od, dV, kV, doc, pm, an, cdv, ct, osl, ef, lk, hcd, Sc, hck, hlm⟩ := D.ex
  have hlen : ∀ vs H Q E, spD G (callN P (n + 1)) f vs H Q E → vs.length = (Y.ps f).length := by
    rintro vs H Q E ⟨ds, M, Qd, Xd, r, _, h, _⟩
    simp only [callN, hf] at h
    rw [← r.length, h.1, D.pn]
  rw [ef] at lk ⊢
  refine fn_of (k := 2 * n + 1) lk hcd Sc hlen fun A outer s H vs Q E hr hsp => ?_
  have hl := hlen _ _ _ _ hsp
  obtain ⟨ds, M, Qd, Xd, r, rm, hw, hQ, hE⟩ := hsp
  simp only [callN, hf] at hw
  obtain ⟨h1, h2⟩ := hw
  refine ⟨tSt G E (wS (callN P n) fd.body), ?_, ?_⟩
  · refine ss_ok (k := 2 * n + 1) fd.body (S := S.inD (Y.Nm f) scope (Y.lm f)) ?_ ⟨takes_of rfl rfl rfl rfl, passes_of rfl, rfl, rfl⟩ hck
    obtain ⟨F1, F2⟩ := fns_ctx ok (φ := callN P n) (X := cxOf (L2.CX pr G.w) pr G.w K mg base (Y.Nm f) qual scope (Y.adr f) cdv A outer s H E) rfl h rfl rfl rfl rfl rfl hr
    refine ⟨⟨⟨rfl, ok.kk.symm, rfl, Sc.nd, hr, ok.gf⟩, rfl, rfl, fun _ _ => rfl, fun _ _ => rfl, ok.flds, ok.blt, ok.cons⟩, F1, F2, ok.exc, fun _ => ⟨_, ok.clo, 2 * n, hr.mono (Nat.le_succ _), h.2⟩, fun hm => ⟨LamP S, ok.clo, fun l ps b sc E e1 e2 => ⟨E, e1, e2, rfl, rfl, rfl⟩, ?_⟩⟩
    obtain ⟨cc, T, t1, t2, t3, t4⟩ := hlm hm
    exact ⟨cc, T, t1, t2, t3, t4⟩
  · have hN : vs.length ≤ (Y.Nm f).length := by
      have := congrArg List.length Sc.pre
      rw [List.length_take] at this
      omega
    rw [D.nn] at h2
    refine ⟨_, M, _, get_start r hN, rm, h2, hE, fun σ' H' env' M' _ r2 st q => ?_, fun v H' q => hQ v H' q, fun _ _ _ _ _ _ _ q => q, fun _ _ _ _ _ _ _ q => q⟩
    exact hQ _ _ ⟨.non, M', rfl, r2, st, q⟩
theorem lam_step (ok : ProgOk K mg base S Y G P) {n : Nat} (h : FnsAt pr K mg base S Y G P n) (l : String) (d : LamD) (hd : LamP S l d) : LamOk pr G.w K mg base (2 * (n + 1)) G (callN P (n + 1)) l := by
  refine lam_ok (k := 2 * n + 1) (L := LamP S) ok.clo ok.kk rfl ok.gf fun d hd => ?_
  obtain ⟨E, e1, e2, e3, e4, e5⟩ := hd
  have hP := ok.lams l E e1
  unfold lamBOf at e2
  rw [e1] at e2
  dsimp only at e2
  rw [Bool.and_eq_true, Bool.and_eq_true] at e2
  obtain ⟨⟨o1, o2⟩, o3⟩ := e2
  have NS := NdefX.nscope_by o2
  refine ⟨by rw [e3, e4, e5]; exact NS, fun cl pm cv ctv us hus => by rw [e3] at hus ⊢; exact oneArg_bind o1 _ _ _ _ _ _ _ _ hus, fun en M Q Xd => wS (callN P n) E.bd en M ⟨fun _ M => Q .non M, Q, fun _ _ => False, fun _ _ => False, Xd⟩, fun ds M Q Xd q => ?_, fun F f A outer s H XE0 hsc hr => ?_⟩
  · simp only [callN, hP] at q
    rw [e3, e4, e5]
    exact q
  · obtain ⟨F1, F2⟩ := fns_ctx ok (φ := callN P n) (X := NdefX.ncx (L2.CX pr G.w) pr G.w K mg base d.N F f A outer s H XE0) rfl h rfl rfl rfl rfl rfl hr
    have cx : CtxC (S.inL E.N d.scope) (NdefX.ncx (L2.CX pr G.w) pr G.w K mg base d.N F f A outer s H XE0) G (2 * n + 1) (callN P n) := ⟨⟨⟨rfl, ok.kk.symm, rfl, by show d.N.Nodup; rw [e5]; exact NS.nd, hr, ok.gf⟩, hsc, e5, (fun z => by cases z), (fun _ z => by cases z), ok.flds, ok.blt, ok.cons⟩, F1, F2, ok.exc, (fun z => by cases z), (fun z => by cases z)⟩
    have hbd : ∀ bd, E.bd = bd → ckBd (S.inL E.N d.scope) bd d.body = true → PE (NdefX.ncx (L2.CX pr G.w) pr G.w K mg base d.N F f A outer s H XE0) d.body (tWX G (fun cls dd _ H => XE0 cls dd H) fun en M Q Xd => wS (callN P n) bd en M ⟨fun _ M => Q .non M, Q, fun _ _ => False, fun _ _ => False, Xd⟩) := fun bd _ o3 => by
      match bd, o3 with
      | .ret ce, o3 => exact ((e_ok (k := 2 * n + 1) ce cx o3).pe).imp fun σ H Q ⟨env, M, Qd, Xd, a, b, w, d, _⟩ => ⟨env, M, Qd, a, b, by simp only [wS] at w; exact w, d⟩
      | .callX .rt f es, o3 => exact (ckCall_pe (f := f) (es := es) cx (takes_of rfl rfl rfl rfl) o3).imp fun σ H Q ⟨env, M, Qd, Xd, a, b, w, d, dx⟩ => ⟨env, M, Qd, Xd, a, b, by simp only [wS] at w; exact w, d, dx⟩
    exact hbd E.bd rfl o3
theorem fn_all (ok : ProgOk K mg base S Y G P) : ∀ n, FnsAt pr K mg base S Y G P n
  | 0 => ⟨fun f fd _ _ => ⟨fun vs H Q E ⟨_, _, _, _, _, _, h, _⟩ => h.elim, fun A outer s H args us vs Q E _ _ _ _ ⟨_, _, _, _, _, _, h, _⟩ => h.elim⟩, fun l d _ A outer s H us vs cvs ds cap M Qd Xd Q E f _ _ _ _ _ _ _ h _ _ => h.elim⟩
  | n + 1 => ⟨fn_step ok (fn_all ok n), lam_step ok (fn_all ok n)⟩
end
end MP
end
section
/-! MP25: the law's end: from the plain law to what the layer asks. -/
namespace MP
open PySem PySem.Spec L2
/-- a memory that tells of the script alone -/
def scriptM (a : Addr) (ns : List Int) : Mem := fun b => if b = a then some (.frz (.lst (ns.map D.int))) else none
theorem rv_ints {G : Gx} {H : Hp} : ∀ ns : List Int, RVs G H (ns.map D.int) (ns.map V.int)
  | [] => rfl
  | n :: ns => ⟨.int n, ns.map V.int, rfl, rfl, rv_ints ns⟩
theorem script_rm {G : Gx} {H : Hp} {a : Addr} {o : Obj} {ns : List Int} (h : H a = some (.frz o (.lst (ns.map V.int)))) (hT : ∀ p ∈ G.T, H p.1 = some (.tbl #[])) : RM G H (scriptM a ns) := by
  refine ⟨fun b m e => ?_, fun p hp => ⟨#[], hT p hp, ?_, fun pos cv e => ?_⟩⟩
  · unfold scriptM at e
    split at e
    · rename_i q
      subst q
      cases e
      exact ⟨_, h, o, _, rfl, _, rfl, rv_ints ns⟩
    · cases e
  · exact True.intro
  · cases e
theorem law_sp {G : Gx} {P : Prog} {n : Nat} {H : Hp} {a : Addr} {o : Obj} {ns : List Int} {E : XK} {f : String} (h : H a = some (.frz o (.lst (ns.map V.int)))) (hT : ∀ p ∈ G.T, H p.1 = some (.tbl #[]))
    (hp : callN P n f [.ref a] (scriptM a ns) (fun d _ => d = .bl true) noX) : spD G (callN P n) f [.ref a] H (fun v _ => v = .bl true) E := by
  refine ⟨[.ref a], scriptM a ns, _, noX, ?_, script_rm h hT, hp, fun v H' ⟨d, M', rv, _, _, q⟩ => ?_, fun _ _ _ q => q.no.elim⟩
  · exact RVs.as ⟨.ref a, [], rfl, rfl, rfl⟩
  · subst q
    exact rv
/-- the same, as LamX.LawAtS asks it: the script tracked (frozen or not), K without lists -/
theorem law_spS {G : Gx} {P : Prog} {n : Nat} {H : Hp} {a : Addr} {ns : List Int} {E : XK} {f : String} (h : SqL G.K H a (ns.map V.int)) (hK : ∀ o, G.K.lookup a = some o → o.cls ≠ .type "list") (hT : ∀ p ∈ G.T, H p.1 = some (.tbl #[]))
    (hp : ∀ M : Mem, M.rd a = some (.lst (ns.map D.int)) → (∀ b, b ≠ a → M b = none) → callN P n f [.ref a] M (fun d _ => d = .bl true) noX) : spD G (callN P n) f [.ref a] H (fun v _ => v = .bl true) E := by
  rcases h with (h | ⟨o, h⟩) | ⟨o, its, m, hk, hc, _⟩
  · refine ⟨[.ref a], fun b => if b = a then some (.lst (ns.map D.int)) else none, _, noX, RVs.as ⟨.ref a, [], rfl, rfl, rfl⟩, ⟨fun b m e => ?_, fun p hp => ⟨#[], hT p hp, True.intro, fun pos cv e => by cases e⟩⟩, hp _ (by simp [Mem.rd]) fun b hb => if_neg hb, fun v H' ⟨d, M', rv, _, _, q⟩ => ?_, fun _ _ _ q => q.no.elim⟩
    · split at e
      · rename_i q
        subst q
        cases e
        exact ⟨_, h, _, rfl, rv_ints ns⟩
      · cases e
    · subst q
      exact rv
  · exact law_sp h hT (hp _ (by simp [Mem.rd, scriptM]) fun b hb => if_neg hb)
  · exact absurd hc (hK o hk)
end MP
end
section
/-! MP26: a def of the text, from what the head tells of it. -/
namespace MP
open PySem PySem.Spec L2
/-- the function's object at p -/
def fdtOf (K : PySem.W.Frag) (p : He.Defn) : FuncData := match K.lookup (He.fAd K p) with
  | some ⟨_, _, .func fd, _⟩ => fd
  | _ => PySem.W.fnOf Str.empty Str.empty ⟨[], [], none, [], [], none, []⟩ [] default .none .none .none .none none .none .none
theorem fdtOf_eq {K : PySem.W.Frag} {p : He.Defn} {oc : Value} {od : Option Addr} {osl : Array (Option Value)} {fd : FuncData} (h : K.lookup (He.fAd K p) = some ⟨oc, od, .func fd, osl⟩) : fdtOf K p = fd := by
  unfold fdtOf
  rw [h]
theorem defOk_of {K : PySem.W.Frag} {mg : Str → Option Value} {base : Heap} {T : List (Addr × Str)} {S : Sx} {Y : PX} {f : String} {fd : FD} {d : He.DefD}
    (F : ∃ fd0, FunD K d.name d.qual d.params d.body d.scope (d.dvs K) (d.kws K) (He.fAd K d.at_) fd0) (ha : Y.adr f = He.fAd K d.at_) (ht : Y.fdt f = fdtOf K d.at_) (sc : FnScope (Y.Nm f) (Y.ps f) d.scope) (ck : ckSs (S.inD (Y.Nm f) d.scope (Y.lm f)) fd.body d.body = true)
    (hlm : Y.lm f = true → LamX.TabB base mg (He.cT K d.at_).1 (He.cT K d.at_).2 ∧ ((He.cT K d.at_).2, d.qual ++ ".<locals>." ++ "<lambda>") ∈ T ∧ ∀ p ∈ T, p.1 = (He.cT K d.at_).2 → p.2 = d.qual ++ ".<locals>." ++ "<lambda>")
    (hb : ∀ fd0, FunD K d.name d.qual d.params d.body d.scope (d.dvs K) (d.kws K) (He.fAd K d.at_) fd0 → Binds K fd0 (Y.ps f) []) (pn : fd.ps = (Y.ps f).length) (nn : fd.ns = (Y.Nm f).length) : DefOk K mg base T S Y f fd := by
  obtain ⟨fd0, F⟩ := F
  obtain ⟨oc, od, dV, kV, doc, pm, an, cdv, ct, osl, e1, e2, e3, e4, e5⟩ := F.ex
  have ef : Y.fdt f = fd0 := ht.trans (fdtOf_eq e2)
  refine ⟨⟨d.name, d.qual, d.params, d.body, d.scope, oc, od, dV, kV, doc, pm, an, cdv, ct, osl, ef.trans e1, by rw [ha, ef]; exact e2, e3, sc, ck, fun h => ?_⟩, by rw [ha]; exact F.kp, by rw [ef]; exact hb _ F, pn, nn⟩
  obtain ⟨t1, t2, t3⟩ := hlm h
  obtain ⟨c, ec⟩ := He.codeIn_ref e3
  have q : He.codeOf K d.at_ = c := He.codeOf_eq e2 (by rw [e1]; exact ec)
  exact ⟨(He.cT K d.at_).1, (He.cT K d.at_).2, t1, by rw [ec, ← q]; rfl, t2, t3⟩
end MP
end
section
/-! MP27: a law's text as data; from the head's facts to the law's end. -/
namespace MP
open PySem PySem.Spec L2
/-- a def of the text: its name with us, where it stands, its statement, its names, its text with us -/
structure DD where
  f : String
  at_ : He.Defn
  st : Stmt
  name : Str
  qual : Str
  ps : List Str
  Nm : List Str
  lm : Bool
  body : CS
def DD.d (x : DD) : He.DefD := ⟨x.at_, x.name, x.qual, defArgs x.st, defBody x.st, defScope x.st, [], []⟩
def DD.fd (x : DD) : FD := ⟨x.ps.length, x.Nm.length, x.body⟩
def DD.lq (x : DD) : Str := x.qual ++ ".<locals>." ++ "<lambda>"
def findD (ds : List DD) (f : String) : Option DD := ds.find? fun x => x.f == f
def lamFD (E : LamE) : FD := ⟨E.ps.length + E.fr.length, E.N.length, E.bd⟩
def PrOf (ds : List DD) (ls : List LamE) : Prog := fun f => match findD ds f with
  | some x => some x.fd
  | none => (ls.find? fun E => E.l == f).map lamFD
def YOf (K : PySem.W.Frag) (ds : List DD) : PX where
  adr f := match findD ds f with | some x => He.fAd K x.at_ | none => 0
  fdt f := match findD ds f with | some x => fdtOf K x.at_ | none => fdtOf K ("", none)
  ps f := match findD ds f with | some x => x.ps | none => []
  Nm f := match findD ds f with | some x => x.Nm | none => []
  lm f := match findD ds f with | some x => x.lm | none => false
def intFa (p : String × D) : List He.Fa := match p.2 with
  | .int i => [.int (Str.ofString p.1) i]
  | _ => []
def faOf (S : Sx) : List He.Fa := S.fns.map (fun f => .glo (Str.ofString (S.tx f))) ++ S.clss.flatMap (fun c => [.glo (Str.ofString c), .cls (Str.ofString c), .mkr (Str.ofString c)]) ++ S.cons.flatMap intFa ++ S.excs.map (fun p => .glo (Str.ofString p.1)) ++ bltNames.map fun b => .free (Str.ofString b)
def tfOf (ds : List DD) : List He.Defn := (ds.filter (·.lm)).map (·.at_)
def tabsOf (K : PySem.W.Frag) (ds : List DD) : List (Addr × Str) := (ds.filter (·.lm)).map fun x => ((He.cT K x.at_).2, x.lq)
def csOf (K : PySem.W.Frag) (ds : List DD) : List (Addr × Addr) := (ds.filter (·.lm)).map fun x => He.cT K x.at_
def exgOf (S : Sx) (K : PySem.W.Frag) : Bool := S.excs.all fun p =>
  PySem.W.excIn K (He.ga K (Str.ofString p.1)) [.type "ValueError", .type "Exception", .type "BaseException", .type "object"] "ValueError.__new__" && PySem.W.keepIn K (.ref (He.ga K (Str.ofString p.1))) &&
  decide (PySem.W.subIn K (.ref (He.ga K (Str.ofString p.1))) (.type "BaseException") = some true) && decide (PySem.W.typeIn K (.ref (He.ga K (Str.ofString p.1))) = some (.type "type")) &&
  S.excs.all fun q => decide (PySem.W.exmOne K (.ref (He.ga K (Str.ofString p.1))) (.ref (He.ga K (Str.ofString q.1))) = some (decide (q.1 ∈ p.2)))
/-- the facts of the classes; K holds no list -/
def exOf (S : Sx) (ds : List DD) (K : PySem.W.Frag) : Bool :=
  exgOf S K && (
  K.all (fun q => decide (q.2.cls ≠ .type "list")) && decide ((tfOf ds).map fun p => (He.cT K p).2).Nodup && S.clss.all fun c =>
    tyNames.all (fun t => decide (PySem.W.kitOne K (.ref (He.ga K (Str.ofString c))) (.type t) = some false)) &&
    ("NoneType" :: tyNames).all (fun t => decide (PySem.W.kitOne K (.type t) (.ref (He.ga K (Str.ofString c))) = some false)) &&
    S.clss.all (fun d => decide (PySem.W.kitOne K (.ref (He.ga K (Str.ofString c))) (.ref (He.ga K (Str.ofString d))) = some (decide (c = d)))) &&
    S.flds.all (fun f => decide (PySem.W.findIn K (.ref (He.ga K (Str.ofString c))) (Str.ofString f) = some none)) &&
    decide (PySem.W.findIn K (.ref (He.ga K (Str.ofString c))) "__class__" = some (some (.builtin "object.__class__"))) &&
    decide (PySem.W.specialIn K (.builtin "object.__class__") "__get__" = some (some (.builtin "getset_descriptor.__get__"))) &&
    decide (PySem.W.takesIn K (.builtin "object.__class__") = some true) && decide (PySem.W.mroIn K (He.ga K (Str.ofString c)) (.type "object") = some true))
abbrev hkOf (S : Sx) (ds : List DD) : PySem.W.Hook := He.hookX 4 (faOf S) (ds.map (·.d)) [] (tfOf ds) (exOf S ds)
def obOf (S : Sx) (ds : List DD) (s : PySem.W.SharedT) : He.AlX := He.obsX 4 (faOf S) (ds.map (·.d)) [] (tfOf ds) (exOf S ds) (HandSHeadRun.getT s)
theorem obOf_eq (S : Sx) (ds : List DD) (s : PySem.W.SharedT) : obOf S ds s = (hkOf S ds).obs s.abs := He.obsX_eq (HandSHeadRun.getT_eq s)
def GOf (w : World) (K : PySem.W.Frag) (S : Sx) (ds : List DD) : Gx where
  w := w
  K := K
  gl _ := none
  cls c := if c ∈ S.clss then some (He.ga K (Str.ofString c)) else none
  clo := cloL (LamP S)
  flds := S.flds
  T := tabsOf K ds
  exc c := if (S.excs.lookup c).isSome = true then some (He.ga K (Str.ofString c)) else none
  anc c := (S.excs.lookup c).getD []
/-- what is looked at by a run of the kernel, without K -/
def okDs (S : Sx) (ds : List DD) : Bool :=
  S.lams.all (fun E => (findD ds E.l).isNone) &&
  S.fns.all (fun f => (match findD ds f with | some x => decide (x.at_ = (Str.ofString (S.tx f), none)) | none => false) && (S.lams.find? fun E => E.l == f).isNone) &&
  S.clss.all (fun c => (match findD ds (c ++ ".__init__") with | some x => decide (x.at_ = (Str.ofString c, some (Str.ofString "__init__"))) | none => false) && (S.lams.find? fun E => E.l == c ++ ".__init__").isNone && ("NoneType" :: tyNames).all fun t => decide (c ≠ t)) &&
  S.cons.all (fun p => match p.2 with | .int _ => true | _ => false) && S.excs.all (fun p => decide (S.excs.lookup p.1 = some p.2))
def okCk (S : Sx) (ds : List DD) : Prop := ∀ x ∈ ds, ckSs (S.inD x.Nm (defScope x.st) x.lm) x.body (defBody x.st) = true
def okSc (ds : List DD) : Bool := ds.all fun x => C8.scC x.Nm x.ps (defScope x.st)
def BindP (x : DD) : Prop := ∀ (kV doc pm : Value) (an : Option Addr) (cdv ct : Value) (us : List Value), us.length = x.ps.length → bindArgs (PySem.W.fnOf x.name x.qual (defArgs x.st) (defBody x.st) (defScope x.st) .none kV doc pm an cdv ct) ⟨us, []⟩ = pure (x.ps.zip us)
theorem findD_mem {ds : List DD} {f : String} {x : DD} (h : findD ds f = some x) : x ∈ ds ∧ x.f = f := ⟨List.mem_of_find?_eq_some h, beq_iff_eq.mp (List.find?_some (p := fun x : DD => x.f == f) h)⟩
theorem lk_mem {β : Type} {c : String} {b : β} : ∀ {l : List (String × β)}, l.lookup c = some b → (c, b) ∈ l
  | [], h => by simp at h
  | (x, y) :: l, h => by
    rw [List.lookup_cons] at h
    by_cases e : c = x
    · subst e
      simp at h
      subst h
      exact List.mem_cons_self
    · rw [show (c == x) = false from beq_eq_false_iff_ne.mpr e] at h
      exact List.mem_cons_of_mem _ (lk_mem h)
section
variable {w : World} {K : PySem.W.Frag} {S : Sx} {ds : List DD} {h : Heap}
theorem gf_of (ok : okDs S ds = true) (hf : ∀ f ∈ faOf S, f.ok K = true) (ex : exOf S ds K = true) : GF (GOf w K S ds) := by
  unfold exOf at ex
  rw [Bool.and_eq_true] at ex
  obtain ⟨eg, ex⟩ := ex
  unfold exgOf at eg
  simp only [Bool.and_eq_true, List.all_eq_true, decide_eq_true_eq] at eg
  rw [Bool.and_eq_true, List.all_eq_true] at ex
  have exc : ∀ c C, (GOf w K S ds).exc c = some C → C = He.ga K (Str.ofString c) ∧ ∃ as, (c, as) ∈ S.excs ∧ (GOf w K S ds).anc c = as := fun c C e => by
    have e' : (if (S.excs.lookup c).isSome = true then some (He.ga K (Str.ofString c)) else none) = some C := e
    split at e'
    · rename_i hs
      cases e'
      obtain ⟨as, ha⟩ := Option.isSome_iff_exists.mp hs
      exact ⟨rfl, as, lk_mem ha, by show (S.excs.lookup c).getD [] = as; rw [ha]; rfl⟩
    · cases e'
  have cls : ∀ c C, (GOf w K S ds).cls c = some C → c ∈ S.clss ∧ C = He.ga K (Str.ofString c) := fun c C e => by
    have e' : (if c ∈ S.clss then some (He.ga K (Str.ofString c)) else none) = some C := e
    split at e'
    · cases e'; exact ⟨by assumption, rfl⟩
    · cases e'
  have ex2 : ∀ c ∈ S.clss, _ := ex.2
  simp only [Bool.and_eq_true, List.all_eq_true, decide_eq_true_eq] at ex2
  have ok3 : ∀ c ∈ S.clss, ∀ t ∈ "NoneType" :: tyNames, c ≠ t := by
    unfold okDs at ok
    simp only [Bool.and_eq_true, List.all_eq_true, decide_eq_true_eq] at ok
    exact fun c hc => (ok.1.1.2 c hc).2
  refine ⟨fun l H H' vs v k c => cloL_ok l H H' vs v k c, fun c C e => ?_, fun c C t e ht => ?_, fun c C t e ht => ?_, fun c C c' C' e e' => ?_, fun c C t e ht => ?_, fun c C f e hf2 => ?_, fun c C e => ?_, fun c C c' C' e e' => ?_⟩
  · obtain ⟨hc, rfl⟩ := cls c C e
    obtain ⟨⟨⟨⟨⟨⟨⟨a1, a2⟩, a3⟩, a4⟩, a5⟩, a6⟩, a7⟩, a8⟩ := ex2 c hc
    refine ⟨He.cls_ok (hf (.cls (Str.ofString c)) ?_), a5, a6, a7, a8⟩
    unfold faOf
    simp only [List.mem_append]
    exact .inl (.inl (.inl (.inr (List.mem_flatMap.mpr ⟨c, hc, by simp⟩))))
  · obtain ⟨hc, rfl⟩ := cls c C e
    obtain ⟨⟨⟨⟨⟨⟨⟨a1, a2⟩, a3⟩, a4⟩, a5⟩, a6⟩, a7⟩, a8⟩ := ex2 c hc
    exact a1 t ht
  · obtain ⟨hc, rfl⟩ := cls c C e
    obtain ⟨⟨⟨⟨⟨⟨⟨a1, a2⟩, a3⟩, a4⟩, a5⟩, a6⟩, a7⟩, a8⟩ := ex2 c hc
    exact a2 t ht
  · obtain ⟨hc, rfl⟩ := cls c C e
    obtain ⟨hc', rfl⟩ := cls c' C' e'
    obtain ⟨⟨⟨⟨⟨⟨⟨a1, a2⟩, a3⟩, a4⟩, a5⟩, a6⟩, a7⟩, a8⟩ := ex2 c hc
    exact a3 c' hc'
  · exact ok3 c (cls c C e).1 t ht
  · obtain ⟨hc, rfl⟩ := cls c C e
    obtain ⟨⟨⟨⟨⟨⟨⟨a1, a2⟩, a3⟩, a4⟩, a5⟩, a6⟩, a7⟩, a8⟩ := ex2 c hc
    exact a4 f hf2
  · obtain ⟨rfl, as, h1, _⟩ := exc c C e
    obtain ⟨⟨⟨⟨g1, g2⟩, g3⟩, g4⟩, _⟩ := eg _ h1
    exact ⟨g1, g2, g3, g4⟩
  · obtain ⟨rfl, as, h1, h2⟩ := exc c C e
    obtain ⟨rfl, as', h1', _⟩ := exc c' C' e'
    rw [h2]
    have z := (eg _ h1).2 _ h1'
    show PySem.W.exmOne K (.ref (He.ga K (Str.ofString c))) (.ref (He.ga K (Str.ofString c'))) = some (decide (c' ∈ as))
    exact z
theorem tab_inj {K : PySem.W.Frag} : ∀ {ds : List DD}, ((tfOf ds).map fun p => (He.cT K p).2).Nodup → ∀ x ∈ ds, x.lm = true → ∀ p ∈ tabsOf K ds, p.1 = (He.cT K x.at_).2 → p.2 = x.lq := by
  intro ds nd x hx hl p hp e
  unfold tabsOf at hp
  obtain ⟨y, hy, rfl⟩ := List.mem_map.mp hp
  unfold tfOf at nd
  rw [List.map_map] at nd
  have hx2 : x ∈ ds.filter (·.lm) := List.mem_filter.mpr ⟨hx, hl⟩
  have inj : ∀ (l : List DD), (l.map ((fun p => (He.cT K p).2) ∘ fun x => x.at_)).Nodup → ∀ a ∈ l, ∀ b ∈ l, (He.cT K a.at_).2 = (He.cT K b.at_).2 → a = b := by
    intro l
    induction l with
    | nil => intro _ a ha; cases ha
    | cons c l ih =>
      intro nd a ha b hb e
      rw [List.map_cons, List.nodup_cons] at nd
      rcases List.mem_cons.mp ha with ea | ha2
      · rcases List.mem_cons.mp hb with eb | hb2
        · rw [ea, eb]
        · exact absurd (List.mem_map.mpr ⟨b, hb2, by rw [← ea]; exact e.symm⟩) nd.1
      · rcases List.mem_cons.mp hb with eb | hb2
        · exact absurd (List.mem_map.mpr ⟨a, ha2, by rw [← eb]; exact e⟩) nd.1
        · exact ih nd.2 a ha2 b hb2 e
  rw [inj _ nd y hy x hx2 e]
theorem progOk_of {mg : Str → Option Value} {base : Heap} (X : K.In h) (Gm : h.Ns mainGlobals mg) (c : He.SaysX (faOf S) (ds.map (·.d)) [] (tfOf ds) (exOf S ds) w h K)
    (ok : okDs S ds = true) (ck : okCk S ds) (sc : okSc ds = true) (bd : ∀ x ∈ ds, BindP x) (hT : ∀ p ∈ csOf K ds, LamX.TabB base mg p.1 p.2) : ProgOk K mg base S (YOf K ds) (GOf w K S ds) (PrOf ds S.lams) := by
  have facts : ∀ f ∈ faOf S, f.ok K = true := fun f hf => c.t.d.facts hf
  have gf : GF (GOf w K S ds) := gf_of ok facts c.more
  have ok' := ok
  unfold okDs at ok'
  simp only [Bool.and_eq_true, List.all_eq_true, decide_eq_true_eq] at ok'
  obtain ⟨⟨⟨⟨o1, o2⟩, o3⟩, o4⟩, o5⟩ := ok'
  have nd : ((tfOf ds).map fun p => (He.cT K p).2).Nodup := by
    have e := c.more
    unfold exOf at e
    rw [Bool.and_eq_true, Bool.and_eq_true, Bool.and_eq_true] at e
    exact of_decide_eq_true e.2.1.2
  refine ⟨rfl, gf, rfl, rfl, fun f fd e hl => ?_, fun l E e => ?_, fun f hf => ?_, fun cl hc => ?_, fun b hb => ?_, fun p hp => ?_, fun p hp => ?_⟩
  · unfold PrOf at e
    cases q : findD ds f with
    | none =>
      rw [q] at e
      dsimp only at e
      rw [hl] at e
      cases e
    | some x =>
      rw [q] at e
      cases e
      obtain ⟨hx, rfl⟩ := findD_mem q
      have F := c.t.d.defs (d := x.d) (List.mem_map.mpr ⟨x, hx, rfl⟩)
      have scx := List.all_eq_true.mp sc x hx
      refine defOk_of (d := x.d) F (by unfold YOf; simp only [q]; rfl) (by unfold YOf; simp only [q]; rfl) (by unfold YOf; simp only [q]; exact C8.fnScope_by scx) (by unfold YOf; simp only [q]; exact ck x hx) (fun hlm => ?_) (fun fd0 F0 => ?_) (by unfold YOf; simp only [q]; rfl) (by unfold YOf; simp only [q]; rfl)
      · have hlm : x.lm = true := by
          unfold YOf at hlm
          simp only [q] at hlm
          exact hlm
        exact ⟨hT _ (List.mem_map.mpr ⟨x, List.mem_filter.mpr ⟨hx, hlm⟩, rfl⟩), List.mem_map.mpr ⟨x, List.mem_filter.mpr ⟨hx, hlm⟩, rfl⟩, fun p hp e => tab_inj nd x hx hlm p hp e⟩
      · unfold YOf
        simp only [q]
        exact FunD.bindsN F0 fun kV doc pm an cdv ct us hl => bd x hx kV doc pm an cdv ct us hl
  · have hE := List.mem_of_find?_eq_some e
    have hq : E.l = l := beq_iff_eq.mp (List.find?_some (p := fun E : LamE => E.l == l) e)
    have n := o1 E hE
    unfold PrOf
    rw [Option.isNone_iff_eq_none, hq] at n
    rw [n]
    dsimp only
    rw [e]
    rfl
  · obtain ⟨a1, a2⟩ := o2 f hf
    cases q : findD ds f with
    | none => rw [q] at a1; cases a1
    | some x =>
      rw [q] at a1
      have hat : x.at_ = (Str.ofString (S.tx f), none) := of_decide_eq_true a1
      refine ⟨by unfold PrOf; rw [q]; rfl, Option.isNone_iff_eq_none.mp a2, ?_⟩
      have fg : He.Fa.glo (Str.ofString (S.tx f)) ∈ faOf S := by
        unfold faOf
        simp only [List.mem_append]
        exact .inl (.inl (.inl (.inl (List.mem_map.mpr ⟨f, hf, rfl⟩))))
      rw [He.glo_ok X Gm (facts _ fg)]
      unfold YOf
      simp only [q, hat]
      rfl
  · obtain ⟨⟨a1, a2⟩, _⟩ := o3 cl hc
    cases q : findD ds (cl ++ ".__init__") with
    | none => rw [q] at a1; cases a1
    | some x =>
      rw [q] at a1
      have hat : x.at_ = (Str.ofString cl, some (Str.ofString "__init__")) := of_decide_eq_true a1
      have fm : ∀ f ∈ [He.Fa.glo (Str.ofString cl), .cls (Str.ofString cl), .mkr (Str.ofString cl)], f ∈ faOf S := fun f hf => by
        unfold faOf
        simp only [List.mem_append]
        exact .inl (.inl (.inl (.inr (List.mem_flatMap.mpr ⟨cl, hc, hf⟩))))
      refine ⟨by unfold PrOf; rw [q]; rfl, Option.isNone_iff_eq_none.mp a2, He.ga K (Str.ofString cl), ?_, He.glo_ok X Gm (facts _ (fm _ (by simp))), ?_⟩
      · have := He.mkr_ok (K := K) (x := Str.ofString cl) (facts _ (fm _ (by simp)))
        unfold YOf
        simp only [q]
        rw [hat]
        exact this
      · show (if cl ∈ S.clss then some (He.ga K (Str.ofString cl)) else none) = _
        rw [if_pos hc]
  · refine He.free_ok X Gm (facts _ ?_)
    unfold faOf
    simp only [List.mem_append]
    exact .inr (List.mem_map.mpr ⟨b, hb, rfl⟩)
  · have e := o5 p hp
    refine ⟨He.ga K (Str.ofString p.1), ?_, ?_, ?_⟩
    · show (if (S.excs.lookup p.1).isSome = true then some (He.ga K (Str.ofString p.1)) else none) = _
      rw [e]; rfl
    · show (S.excs.lookup p.1).getD [] = p.2
      rw [e]; rfl
    · refine He.glo_ok X Gm (facts _ ?_)
      unfold faOf
      simp only [List.mem_append]
      exact .inl (.inr (List.mem_map.mpr ⟨p, hp, rfl⟩))
  · have := o4 p hp
    obtain ⟨x, d⟩ := p
    cases d with
    | int i =>
      obtain ⟨t, ht⟩ := He.int_ok X Gm (x := Str.ofString x) (i := i) (facts (.int (Str.ofString x) i) (by
        unfold faOf
        simp only [List.mem_append]
        exact .inl (.inl (.inr (List.mem_flatMap.mpr ⟨_, hp, by simp [intFa]⟩)))))
      exact ⟨_, .int i, ht, ⟨t, rfl⟩, fun _ => rfl⟩
    | _ => cases this
/-- the law's end -/
theorem lawAt_of {l : PySem.W.OpenLaw} {n : Nat} {mg : Str → Option Value} {fa : Addr} {x : Str} {y : DD} (X : K.In h) (Gm : h.Ns mainGlobals mg) (c : He.SaysX (faOf S) (ds.map (·.d)) [] (tfOf ds) (exOf S ds) w h K)
    (ok : okDs S ds = true) (ck : okCk S ds) (sc : okSc ds = true) (bd : ∀ x ∈ ds, BindP x) (hmg : mg "law" = some (.ref fa)) (hl : "law" ∈ S.fns) (ht : S.tx "law" = "law") (hy : findD ds "law" = some y) (hp : y.ps = [x])
    (plain : ∀ (M : Mem) (a : Nat) (ns : List Int), ns.length ≤ 63 → M.rd a = some (.lst (ns.map D.int)) → (∀ b, b ≠ a → M b = none) → callN (PrOf ds S.lams) n "law" [.ref a] M (fun d _ => d = .bl true) noX) : LamX.LawAtS l w K (L2.CX l.prog w) (2 * n) 63 x mg fa h := by
  have inT : ∀ p ∈ csOf K ds, ∃ q ∈ tfOf ds, p = He.cT K q := fun p hp => by
    obtain ⟨x, hx, rfl⟩ := List.mem_map.mp hp
    exact ⟨x.at_, List.mem_map.mpr ⟨x, hx, rfl⟩, rfl⟩
  obtain ⟨hyd, hyf⟩ := findD_mem hy
  have hat : y.at_ = (Str.ofString "law", none) := by
    unfold okDs at ok
    simp only [Bool.and_eq_true, List.all_eq_true, decide_eq_true_eq] at ok
    have := (ok.1.1.1.2 "law" hl).1
    rw [hy, ht] at this
    exact of_decide_eq_true this
  obtain ⟨fd0, F⟩ := c.t.d.defs (d := y.d) (List.mem_map.mpr ⟨y, hyd, rfl⟩)
  have eA : He.fAd K y.at_ = fa := by
    have fg : He.Fa.glo (Str.ofString "law") ∈ faOf S := by
      unfold faOf
      simp only [List.mem_append]
      exact .inl (.inl (.inl (.inl (List.mem_map.mpr ⟨"law", hl, by rw [ht]⟩))))
    have e := He.glo_ok X Gm (c.t.d.facts fg)
    rw [show (Str.ofString "law") = ("law" : Str) from rfl, hmg] at e
    cases e
    rw [hat]
    rfl
  obtain ⟨oc, od, dV, kV, doc, pm, an, cdv, ct, osl, e1, e2, e3, e4, e5⟩ := F.ex
  have ef : fdtOf K y.at_ = fd0 := fdtOf_eq e2
  refine ⟨fd0, csOf K ds, spD (GOf w K S ds) (callN (PrOf ds S.lams) n) "law", fun p hp => ?_, fun p hp => ?_, fun p hp => ?_, fun s u => ?_, fun H a ns hn _ hT hS => ?_, fun base hb hbm hT => ?_⟩
  · obtain ⟨q, hq, rfl⟩ := inT p hp
    exact c.empty q hq
  · obtain ⟨q, hq, rfl⟩ := inT p hp
    exact c.out q hq
  · obtain ⟨q, hq, rfl⟩ := inT p hp
    exact PySem.W.codeHd_of_K X (c.hd q hq)
  · have := FunD.bindsA (ps := y.ps) F (fun kV doc pm an cdv ct us hl => bd y hyd kV doc pm an cdv ct us hl) s [u] (by rw [hp]; rfl)
    rw [hp] at this
    exact this
  · refine law_spS hS (fun o e => ?_) (fun p hp => ?_) fun M h1 h2 => plain M a ns hn h1 h2
    · have e := c.more
      unfold exOf at e
      rw [Bool.and_eq_true, Bool.and_eq_true, Bool.and_eq_true] at e
      exact of_decide_eq_true (List.all_eq_true.mp e.2.1.1 (a, o) (He.lookup_mem (by assumption)))
    · obtain ⟨x, hx, rfl⟩ := List.mem_map.mp hp
      exact hT _ (List.mem_map.mpr ⟨x, hx, rfl⟩)
  · have ok2 := progOk_of (base := base) X Gm c ok ck sc bd hT
    have fn := (fn_all (pr := l.prog) ok2 n).1 "law" y.fd (by unfold PrOf; rw [hy]) (by
      unfold okDs at ok
      simp only [Bool.and_eq_true, List.all_eq_true, decide_eq_true_eq] at ok
      exact Option.isNone_iff_eq_none.mp (ok.1.1.1.2 "law" hl).2)
    have a1 : (YOf K ds).adr "law" = fa := by unfold YOf; simp only [hy]; exact eA
    have a2 : (YOf K ds).fdt "law" = fd0 := by unfold YOf; simp only [hy]; exact ef
    have a3 : (YOf K ds).ps "law" = [x] := by unfold YOf; simp only [hy]; exact hp
    rw [a1, a2, a3] at fn
    exact fn
end
end MP
end
section
/-! C0: texts of defs, printed by cgen.py k03 k18 k19 k11 k22 k23 k76. -/
namespace MP
def c_is_integer : CS := (.seq (.ret (.and_ (.isi (.var 0) ["int"]) (.not_ (.isi (.var 0) ["bool"])))) .skip)
def c_is_index : CS := (.seq (.ret (.and_ (.call "is_integer" (.cons (.var 0) .nil)) (.chain .le .lt (.con (.int 0)) (.var 0) (.var 1)))) .skip)
def c_is_between : CS := (.seq (.ret (.and_ (.call "is_integer" (.cons (.var 0) .nil)) (.chain .le .le (.var 1) (.var 0) (.var 2)))) .skip)
def c_is_tuple_of : CS := (.seq (.ret (.and_ (.isi (.var 0) ["tuple"]) (.chain .le .le (.var 1) (.len (.of (.var 0))) (.var 2)))) .skip)
def c_are_ascending : CS := (.seq (.ret (.all (.fr (.lc (.rng (.con (.int 1)) (.len (.of (.var 0)))) (.name 1) .nil (.cmp .lt (.ix (.var 0) (.bin .sub (.var 1) (.con (.int 1)))) (.ix (.var 0) (.var 1))))))) .skip)
def c_are_standings : CS := (.seq (.ife (.or_ (.not_ (.isi (.var 0) ["tuple"])) (.not_ (.all (.fr (.lc (.seq (.of (.var 0))) (.name 2) .nil (.call "is_index" (.cons (.var 2) (.cons (.var 1) .nil)))))))) (.seq (.ret (.con (.bl false))) .skip) .skip) (.seq (.ret (.call "are_ascending" (.cons (.var 0) .nil))) .skip))
def c_is_outcome : CS := (.seq (.ret (.and_ (.call "is_tuple_of" (.cons (.var 0) (.cons (.con (.int 2)) (.cons (.con (.int 2)) .nil)))) (.and_ (.call "is_between" (.cons (.ix (.var 0) (.con (.int 0))) (.cons (.con (.int 0)) (.cons (.con (.int 9)) .nil)))) (.call "is_index" (.cons (.ix (.var 0) (.con (.int 1))) (.cons (.var 1) .nil)))))) .skip)
def c_are_outcomes : CS := (.seq (.ife (.or_ (.not_ (.call "is_tuple_of" (.cons (.var 0) (.cons (.con (.int 1)) (.cons (.con (.int 4)) .nil))))) (.not_ (.all (.fr (.lc (.seq (.of (.var 0))) (.name 2) .nil (.call "is_outcome" (.cons (.var 2) (.cons (.var 1) .nil)))))))) (.seq (.ret (.con (.bl false))) .skip) .skip) (.seq (.ret (.call "are_ascending" (.cons (.var 0) .nil))) .skip))
def c_is_put : CS := (.seq (.ret (.and_ (.call "is_tuple_of" (.cons (.var 0) (.cons (.con (.int 2)) (.cons (.con (.int 2)) .nil)))) (.and_ (.call "is_index" (.cons (.ix (.var 0) (.con (.int 0))) (.cons (.var 1) .nil))) (.call "are_standings" (.cons (.ix (.var 0) (.con (.int 1))) (.cons (.var 1) .nil)))))) .skip)
def c_check_kind : CS := (.seq (.ife (.not_ (.call "is_tuple_of" (.cons (.var 0) (.cons (.con (.int 1)) (.cons (.con (.int 8)) .nil))))) (.seq .never .skip) .skip) (.seq (.asg (.name 3) (.len (.of (.var 0)))) (.seq (.ife (.not_ (.all (.fr (.lc (.seq (.of (.var 0))) (.name 4) .nil (.call "are_outcomes" (.cons (.var 4) (.cons (.var 3) .nil))))))) (.seq .never .skip) .skip) (.seq (.ife (.or_ (.not_ (.call "is_tuple_of" (.cons (.var 1) (.cons (.var 3) (.cons (.var 3) .nil))))) (.not_ (.all (.fr (.lc (.seq (.of (.var 1))) (.name 5) .nil (.call "are_standings" (.cons (.var 5) (.cons (.var 3) .nil)))))))) (.seq .never .skip) .skip) (.seq (.ife (.or_ (.not_ (.call "is_tuple_of" (.cons (.var 2) (.cons (.con (.int 0)) (.cons (.con (.int 4)) .nil))))) (.not_ (.all (.fr (.lc (.seq (.of (.var 2))) (.name 6) .nil (.call "is_put" (.cons (.var 6) (.cons (.var 3) .nil)))))))) (.seq .never .skip) .skip) .skip)))))
def c_Kind___init__ : CS := (.seq (.expr (.call "check_kind" (.cons (.var 1) (.cons (.var 2) (.cons (.var 3) .nil))))) (.seq (.asgFld (.var 0) "kept_looks" (.var 1)) (.seq (.asgFld (.var 0) "kept_drifts" (.var 2)) (.seq (.asgFld (.var 0) "kept_puts" (.var 3)) (.seq (.asgFld (.var 0) "looks" (.var 1)) (.seq (.asgFld (.var 0) "drifts" (.var 2)) (.seq (.asgFld (.var 0) "puts" (.var 3)) (.seq (.asgFld (.var 0) "size" (.len (.of (.var 1)))) (.seq (.asgFld (.var 0) "kept_facts" (.dnew .nil)) .skip)))))))))
def c_check_standing : CS := (.seq (.ife (.not_ (.call "is_index" (.cons (.var 1) (.cons (.fld (.var 0) "size") .nil)))) (.seq (.raise "NoStanding" ["NoStanding", "SpoilError"]) .skip) .skip) .skip)
def c__law_pool_97b3 : CS := (.seq (.asg (.name 1) (.mkl (.lc (.seq (.fr (.cut (.var 0) (.con .non) (.con (.int 63))))) (.name 3) (.cons (.cmp .ge (.abs (.var 3)) (.bin .pow (.con (.int 10)) (.con (.int 18)))) .nil) (.abs (.var 3))))) (.seq (.asg (.name 2) (.mkl (.lc (.seq (.fr (.cut (.var 0) (.con .non) (.con (.int 63))))) (.name 3) (.cons (.cmp .lt (.abs (.var 3)) (.bin .pow (.con (.int 10)) (.con (.int 18)))) .nil) (.bin .mod (.int (.var 3)) (.con (.int 1000003)))))) (.seq (.ret (.mkl (.disp (.cons (.var 1) (.cons (.var 2) (.cons (.con (.int 0)) (.cons (.con (.int 0)) .nil))))))) .skip)))
def c__law_draw_7ad0 : CS := (.seq (.ife (.and_ (.cmp .le (.ix (.var 0) (.con (.int 2))) (.con (.int 1))) (.cmp .gt (.len (.of (.ix (.var 0) (.con (.int 0))))) (.con (.int 0)))) (.seq (.asgIx (.var 0) (.con (.int 2)) (.ix (.ix (.var 0) (.con (.int 0))) (.con (.int 0)))) (.seq (.asgIx (.var 0) (.con (.int 0)) (.mkl (.cut (.ix (.var 0) (.con (.int 0))) (.con (.int 1)) (.con .non)))) .skip)) .skip) (.seq (.ife (.cmp .gt (.ix (.var 0) (.con (.int 2))) (.con (.int 1))) (.seq (.asg (.name 2) (.bin .mod (.int (.ix (.var 0) (.con (.int 2)))) (.var 1))) (.seq (.asgIx (.var 0) (.con (.int 2)) (.bin .fdiv (.ix (.var 0) (.con (.int 2))) (.var 1))) (.seq (.ret (.var 2)) .skip))) .skip) (.seq (.asgIx (.var 0) (.con (.int 3)) (.bin .add (.ix (.var 0) (.con (.int 3))) (.con (.int 1)))) (.seq (.asg (.name 3) (.con (.int 0))) (.seq (.ife (.cmp .gt (.len (.of (.ix (.var 0) (.con (.int 1))))) (.con (.int 0))) (.seq (.asg (.name 3) (.ix (.ix (.var 0) (.con (.int 1))) (.bin .mod (.int (.ix (.var 0) (.con (.int 3)))) (.len (.of (.ix (.var 0) (.con (.int 1)))))))) .skip) .skip) (.seq (.asg (.name 4) (.bin .mod (.int (.bin .mul (.bin .add (.bin .add (.var 3) (.bin .mul (.con (.int 7919)) (.ix (.var 0) (.con (.int 3))))) (.con (.int 1))) (.con (.int 48271)))) (.con (.int 2147483647)))) (.seq (.asg (.name 4) (.bin .mod (.int (.bin .mul (.var 4) (.bin .add (.bin .fdiv (.var 4) (.con (.int 1009))) (.con (.int 69621))))) (.con (.int 2147483647)))) (.seq (.asg (.name 4) (.bin .mod (.int (.bin .mul (.var 4) (.bin .add (.bin .fdiv (.var 4) (.con (.int 2003))) (.con (.int 40692))))) (.con (.int 2147483399)))) (.seq (.ret (.bin .mod (.int (.bin .fdiv (.var 4) (.con (.int 16)))) (.var 1))) .skip)))))))))
def c__law_pick_1ba9 : CS := (.seq (.ret (.ix (.var 1) (.call "_law_draw" (.cons (.var 0) (.cons (.len (.of (.var 1))) .nil))))) .skip)
def c__law_kind_parts_ee62 : CS := (.seq (.asg (.name 2) (.call "_law_pick" (.cons (.var 0) (.cons (.mkl (.disp (.cons (.con (.int 1)) (.cons (.con (.int 2)) (.cons (.con (.int 2)) (.cons (.con (.int 3)) (.cons (.con (.int 3)) (.cons (.con (.int 4)) (.cons (.con (.int 5)) (.cons (.con (.int 8)) .nil)))))))))) .nil)))) (.seq (.asg (.name 3) (.call "_law_pick" (.cons (.var 0) (.cons (.mkl (.disp (.cons (.con (.int 1)) (.cons (.con (.int 2)) (.cons (.con (.int 2)) (.cons (.con (.int 3)) (.cons (.con (.int 10)) .nil))))))) .nil)))) (.seq (.asg (.name 4) (.mkl (.disp .nil))) (.seq (.asg (.name 5) (.mkl (.disp .nil))) (.seq (.for_ (.rng (.con (.int 0)) (.var 2)) (.name 6) (.seq (.asg (.name 7) (.dnew .nil)) (.seq (.for_ (.rng (.con (.int 0)) (.ite (.var 1) (.con (.int 1)) (.call "_law_pick" (.cons (.var 0) (.cons (.mkl (.disp (.cons (.con (.int 1)) (.cons (.con (.int 1)) (.cons (.con (.int 1)) (.cons (.con (.int 2)) (.cons (.con (.int 2)) (.cons (.con (.int 3)) (.cons (.con (.int 4)) .nil))))))))) .nil))))) (.name 8) (.seq (.asgIx (.var 7) (.tup (.cons (.call "_law_draw" (.cons (.var 0) (.cons (.var 3) .nil))) (.cons (.call "_law_draw" (.cons (.var 0) (.cons (.var 2) .nil))) .nil))) (.con (.bl true))) .skip)) (.seq (.expr (.append (.var 4) (.tupq (.fr (.sorted (.fr (.keys (.var 7)))))))) (.seq (.asg (.name 9) (.dnew .nil)) (.seq (.for_ (.rng (.con (.int 0)) (.ite (.var 1) (.con (.int 0)) (.call "_law_pick" (.cons (.var 0) (.cons (.mkl (.disp (.cons (.con (.int 0)) (.cons (.con (.int 0)) (.cons (.con (.int 0)) (.cons (.con (.int 1)) (.cons (.con (.int 2)) .nil))))))) .nil))))) (.name 8) (.seq (.asgIx (.var 9) (.call "_law_draw" (.cons (.var 0) (.cons (.var 2) .nil))) (.con (.bl true))) .skip)) (.seq (.expr (.append (.var 5) (.tupq (.fr (.sorted (.fr (.keys (.var 9)))))))) .skip))))))) (.seq (.asg (.name 10) (.mkl (.disp .nil))) (.seq (.for_ (.rng (.con (.int 0)) (.call "_law_pick" (.cons (.var 0) (.cons (.mkl (.disp (.cons (.con (.int 0)) (.cons (.con (.int 0)) (.cons (.con (.int 1)) (.cons (.con (.int 2)) (.cons (.con (.int 4)) .nil))))))) .nil)))) (.name 8) (.seq (.asg (.name 11) (.mkl (.lc (.rng (.con (.int 0)) (.var 2)) (.name 6) (.cons (.cmp .eq (.call "_law_draw" (.cons (.var 0) (.cons (.con (.int 3)) .nil))) (.con (.int 0))) .nil) (.var 6)))) (.seq (.expr (.append (.var 10) (.tup (.cons (.call "_law_draw" (.cons (.var 0) (.cons (.var 2) .nil))) (.cons (.tupq (.of (.var 11))) .nil))))) .skip))) (.seq (.ret (.mkl (.disp (.cons (.tupq (.of (.var 4))) (.cons (.tupq (.of (.var 5))) (.cons (.tupq (.of (.var 10))) .nil)))))) .skip))))))))
def c_is_sure : CS := (.seq (.ret (.and_ (.all (.fr (.lc (.seq (.of (.fld (.var 0) "kept_looks"))) (.name 1) .nil (.cmp .eq (.len (.of (.var 1))) (.con (.int 1)))))) (.not_ (.any (.fr (.lc (.seq (.of (.fld (.var 0) "kept_drifts"))) (.name 2) .nil (.len (.of (.var 2))))))))) .skip)
def c_check_sure : CS := (.seq (.ife (.not_ (.call "is_sure" (.cons (.var 0) .nil))) (.seq (.raise "NotSure" ["NotSure", "SpoilError"]) .skip) .skip) .skip)
def c_track_of : CS := (.seq (.asg (.name 2) (.dnew .nil)) (.seq (.while_ (.ind true (.var 1) (.var 2)) (.seq (.asgIx (.var 2) (.var 1) (.lenv (.var 2))) (.seq (.asg (.name 1) (.ix (.ix (.ix (.fld (.var 0) "kept_looks") (.var 1)) (.con (.int 0))) (.con (.int 1)))) .skip))) (.seq (.ret (.tup (.cons (.mkl (.keys (.var 2))) (.cons (.ix (.var 2) (.var 1)) .nil)))) .skip)))
end MP
end
section
/-! C1: texts of defs, printed by cgen.py k21. -/
namespace MP
end MP
end
section
/-! C2: texts of defs, printed by cgen.py k29 k30 k24 k25 k26 k31 k32 k33 k27. -/
namespace MP
end MP
end
section
/-! C3: texts of defs, printed by cgen.py k22. -/
namespace MP
end MP
end
section
/-! C4: texts of defs, printed by cgen.py k20. -/
namespace MP
end MP
end
section
/-! C5: texts of defs, printed by cgen.py k54 k77. -/
namespace MP
end MP
end
section
/-! C6: texts of defs, printed by cgen.py k09 k10 k13. -/
namespace MP
def c__law_long_row_227d : CS := (.seq (.asg (.name 3) (.mkl (.disp .nil))) (.seq (.for_ (.rng (.con (.int 0)) (.var 2)) (.name 4) (.seq (.asg (.tup [(.name 5), (.name 1)]) (.ix (.ix (.var 0) (.var 1)) (.con (.int 0)))) (.seq (.expr (.append (.var 3) (.var 5))) .skip))) (.seq (.ret (.mkl (.disp (.cons (.tupq (.of (.var 3))) (.cons (.var 1) .nil))))) .skip)))
def c__law_is_sure_b3ab : CS := (.seq (.ret (.and_ (.cmp .eq (.mkl (.lc (.seq (.of (.var 0))) (.name 2) .nil (.len (.of (.var 2))))) (.bin .mul (.mkl (.disp (.cons (.con (.int 1)) .nil))) (.len (.of (.var 0))))) (.cmp .eq (.mkl (.lc (.seq (.of (.var 1))) (.name 2) .nil (.len (.of (.var 2))))) (.bin .mul (.mkl (.disp (.cons (.con (.int 0)) .nil))) (.len (.of (.var 0))))))) .skip)
def c__law_nearly_sure_79bf : CS := (.seq (.asg (.tup [(.name 1), (.name 2), (.name 3)]) (.call "_law_kind_parts" (.cons (.var 0) (.cons (.con (.bl true)) .nil)))) (.seq (.asg (.name 4) (.call "_law_draw" (.cons (.var 0) (.cons (.len (.of (.var 1))) .nil)))) (.seq (.asg (.name 5) (.call "_law_draw" (.cons (.var 0) (.cons (.con (.int 6)) .nil)))) (.seq (.ife (.cmp .eq (.var 5) (.con (.int 0))) (.seq (.asg (.name 6) (.tupq (.fr (.sset (.fr (.disp (.cons (.ix (.ix (.var 1) (.var 4)) (.con (.int 0))) (.cons (.tup (.cons (.call "_law_draw" (.cons (.var 0) (.cons (.con (.int 10)) .nil))) (.cons (.call "_law_draw" (.cons (.var 0) (.cons (.len (.of (.var 1))) .nil))) .nil))) .nil)))))))) (.seq (.asg (.name 1) (.bin .add (.bin .add (.cut (.var 1) (.con .non) (.var 4)) (.tup (.cons (.var 6) .nil))) (.cut (.var 1) (.bin .add (.var 4) (.con (.int 1))) (.con .non)))) .skip)) .skip) (.seq (.ife (.cmp .eq (.var 5) (.con (.int 1))) (.seq (.asg (.name 2) (.bin .add (.bin .add (.cut (.var 2) (.con .non) (.var 4)) (.tup (.cons (.tup (.cons (.call "_law_draw" (.cons (.var 0) (.cons (.len (.of (.var 1))) .nil))) .nil)) .nil))) (.cut (.var 2) (.bin .add (.var 4) (.con (.int 1))) (.con .non)))) .skip) .skip) (.seq (.ret (.mkl (.disp (.cons (.var 1) (.cons (.var 2) (.cons (.var 3) .nil)))))) .skip))))))
def c__law_sure_told_ce2f : CS := (.seq (.asg (.name 1) (.con .non)) (.seq (.tryV 1 0 [("NotSure", 1, (.str "refused"))]) (.seq (.ret (.var 1)) .skip)))
def c_worn : CS := (.seq (.callX .no "check_standing" (.cons (.var 0) (.cons (.var 1) .nil))) (.seq (.callX .no "check_sure" (.cons (.var 0) .nil)) (.seq (.ret (.ix (.call "track_of" (.cons (.var 0) (.cons (.var 1) .nil))) (.con (.int 1)))) .skip)))
def c__law_is_int_0b37 : CS := (.seq (.ret (.and_ (.isi (.var 0) ["int"]) (.not_ (.isi (.var 0) ["bool"])))) .skip)
def c_law_daf2 : CS := (.seq (.asg (.name 1) (.call "_law_pool" (.cons (.var 0) .nil))) (.seq (.asg (.tup [(.name 2), (.name 3), (.name 4)]) (.call "_law_nearly_sure" (.cons (.var 1) .nil))) (.seq (.ife (.and_ (.call "_law_is_sure" (.cons (.var 2) (.cons (.var 3) .nil))) (.cmp .eq (.call "_law_draw" (.cons (.var 1) (.cons (.con (.int 2)) .nil))) (.con (.int 0)))) (.seq (.asg (.name 5) (.call "_law_draw" (.cons (.var 1) (.cons (.len (.of (.var 2))) .nil)))) (.seq (.asg (.name 2) (.tupq (.fr (.lc (.rng (.con (.int 0)) (.len (.of (.var 2)))) (.name 11) .nil (.tup (.cons (.tup (.cons (.ix (.ix (.ix (.var 2) (.var 11)) (.con (.int 0))) (.con (.int 0))) (.cons (.ite (.cmp .lt (.bin .add (.var 11) (.con (.int 1))) (.len (.of (.var 2)))) (.bin .add (.var 11) (.con (.int 1))) (.var 5)) .nil))) .nil)))))) .skip)) .skip) (.seq (.asg (.name 6) (.make "Kind" (.cons (.var 2) (.cons (.var 3) (.cons (.var 4) .nil))))) (.seq (.for_ (.rng (.con (.int 0)) (.len (.of (.var 2)))) (.name 7) (.seq (.asg (.name 8) (.callL "_law_sure_told" .nil "law.lambda0" [6, 7])) (.seq (.ife (.not_ (.call "_law_is_sure" (.cons (.var 2) (.cons (.var 3) .nil)))) (.seq (.ife (.cmp .ne (.var 8) (.con (.str "refused"))) (.seq (.ret (.con (.bl false))) .skip) .skip) .skip) (.seq (.asg (.name 9) (.var 7)) (.seq (.asg (.name 10) (.con (.int 0))) (.seq (.while_ (.inq true (.var 9) (.fr (.lc (.rng (.con (.int 1)) (.con (.int 9))) (.name 11) .nil (.ix (.call "_law_long_row" (.cons (.var 2) (.cons (.var 9) (.cons (.var 11) .nil)))) (.con (.int 1)))))) (.seq (.asg (.name 9) (.ix (.ix (.ix (.var 2) (.var 9)) (.con (.int 0))) (.con (.int 1)))) (.seq (.asg (.name 10) (.bin .add (.var 10) (.con (.int 1)))) .skip))) (.seq (.ife (.or_ (.not_ (.call "_law_is_int" (.cons (.var 8) .nil))) (.or_ (.cmp .ne (.var 8) (.var 10)) (.cmp .ne (.call "worn" (.cons (.var 6) (.cons (.ix (.ix (.ix (.var 2) (.var 7)) (.con (.int 0))) (.con (.int 1))) .nil))) (.two true (.con (.int 0)) (.bin .sub (.var 10) (.con (.int 1))))))) (.seq (.ret (.con (.bl false))) .skip) .skip) .skip))))) .skip))) (.seq (.ret (.con (.bl true))) .skip))))))
def l_law_lambda0_6f90 : CS := (.callX .rt "worn" (.cons (.var 0) (.cons (.var 1) .nil)))
end MP
end
section
namespace MP
namespace K13
open PySem PySem.Spec PyProof.Rows L2

def top (i : Nat) : Stmt := PySem.Challenge.pw_lookspoil_k13_whole_worn_cells.main.body.getD i (.Pass ⟨0, 0, 0, 0⟩)
def sub (i j : Nat) : Stmt := inClass (top i) j
def d0 : DD := ⟨"is_integer", ("is_integer", none), top 6, "is_integer", "is_integer", ["thing"], ["thing"], false, c_is_integer⟩
def d1 : DD := ⟨"is_index", ("is_index", none), top 7, "is_index", "is_index", ["thing", "many"], ["thing", "many"], false, c_is_index⟩
def d2 : DD := ⟨"is_between", ("is_between", none), top 8, "is_between", "is_between", ["thing", "least", "most"], ["thing", "least", "most"], false, c_is_between⟩
def d3 : DD := ⟨"is_tuple_of", ("is_tuple_of", none), top 9, "is_tuple_of", "is_tuple_of", ["thing", "least", "most"], ["thing", "least", "most"], false, c_is_tuple_of⟩
def d4 : DD := ⟨"are_ascending", ("are_ascending", none), top 10, "are_ascending", "are_ascending", ["items"], ["items", "at"], false, c_are_ascending⟩
def d5 : DD := ⟨"are_standings", ("are_standings", none), top 16, "are_standings", "are_standings", ["thing", "many"], ["thing", "many", "standing"], false, c_are_standings⟩
def d6 : DD := ⟨"is_outcome", ("is_outcome", none), top 17, "is_outcome", "is_outcome", ["thing", "many"], ["thing", "many"], false, c_is_outcome⟩
def d7 : DD := ⟨"are_outcomes", ("are_outcomes", none), top 18, "are_outcomes", "are_outcomes", ["thing", "many"], ["thing", "many", "pair"], false, c_are_outcomes⟩
def d8 : DD := ⟨"is_put", ("is_put", none), top 19, "is_put", "is_put", ["thing", "many"], ["thing", "many"], false, c_is_put⟩
def d9 : DD := ⟨"check_kind", ("check_kind", none), top 20, "check_kind", "check_kind", ["looks", "drifts", "puts"], ["looks", "drifts", "puts", "many", "outcomes", "row", "pair"], false, c_check_kind⟩
def d10 : DD := ⟨"Kind.__init__", ("Kind", some "__init__"), sub 21 0, "__init__", "Kind.__init__", ["self", "looks", "drifts", "puts"], ["self", "looks", "drifts", "puts"], false, c_Kind___init__⟩
def d11 : DD := ⟨"check_standing", ("check_standing", none), top 23, "check_standing", "check_standing", ["kind", "standing"], ["kind", "standing"], false, c_check_standing⟩
def d12 : DD := ⟨"is_sure", ("is_sure", none), top 25, "is_sure", "is_sure", ["kind"], ["kind", "outcomes", "row"], false, c_is_sure⟩
def d13 : DD := ⟨"check_sure", ("check_sure", none), top 26, "check_sure", "check_sure", ["kind"], ["kind"], false, c_check_sure⟩
def d14 : DD := ⟨"track_of", ("track_of", none), top 27, "track_of", "track_of", ["kind", "standing"], ["kind", "standing", "places"], false, c_track_of⟩
def d15 : DD := ⟨"worn", ("worn", none), top 28, "worn", "worn", ["kind", "standing"], ["kind", "standing"], false, c_worn⟩
def d16 : DD := ⟨"_law_pool", ("_law_pool", none), top 30, "_law_pool", "_law_pool", ["_law_script"], ["_law_script", "_law_great", "_law_small", "_law_cell"], false, c__law_pool_97b3⟩
def d17 : DD := ⟨"_law_draw", ("_law_draw", none), top 31, "_law_draw", "_law_draw", ["_law_pool_here", "_law_many"], ["_law_pool_here", "_law_many", "_law_digit", "_law_cell", "_law_number"], false, c__law_draw_7ad0⟩
def d18 : DD := ⟨"_law_pick", ("_law_pick", none), top 32, "_law_pick", "_law_pick", ["_law_pool_here", "_law_things"], ["_law_pool_here", "_law_things"], false, c__law_pick_1ba9⟩
def d19 : DD := ⟨"_law_is_int", ("_law_is_int", none), top 33, "_law_is_int", "_law_is_int", ["_law_thing"], ["_law_thing"], false, c__law_is_int_0b37⟩
def d20 : DD := ⟨"_law_kind_parts", ("_law_kind_parts", none), top 34, "_law_kind_parts", "_law_kind_parts", ["_law_pool_here", "_law_steady"], ["_law_pool_here", "_law_steady", "_law_many", "_law_answers", "_law_looks", "_law_drifts", "_law_standing", "_law_outcomes", "_law_turn", "_law_row", "_law_puts", "_law_torn"], false, c__law_kind_parts_ee62⟩
def d21 : DD := ⟨"_law_long_row", ("_law_long_row", none), top 35, "_law_long_row", "_law_long_row", ["_law_looks", "_law_standing", "_law_many"], ["_law_looks", "_law_standing", "_law_many", "_law_row", "_law_turn", "_law_answer"], false, c__law_long_row_227d⟩
def d22 : DD := ⟨"_law_is_sure", ("_law_is_sure", none), top 36, "_law_is_sure", "_law_is_sure", ["_law_looks", "_law_drifts"], ["_law_looks", "_law_drifts", "_law_row"], false, c__law_is_sure_b3ab⟩
def d23 : DD := ⟨"_law_nearly_sure", ("_law_nearly_sure", none), top 37, "_law_nearly_sure", "_law_nearly_sure", ["_law_pool_here"], ["_law_pool_here", "_law_looks", "_law_drifts", "_law_puts", "_law_at", "_law_change", "_law_more"], false, c__law_nearly_sure_79bf⟩
def d24 : DD := ⟨"_law_sure_told", ("_law_sure_told", none), top 38, "_law_sure_told", "_law_sure_told", ["_law_call"], ["_law_call", "_law_told"], false, c__law_sure_told_ce2f⟩
def d25 : DD := ⟨"law", ("law", none), top 39, "law", "law", ["_law_script"], ["_law_script", "_law_pool_here", "_law_looks", "_law_drifts", "_law_puts", "_law_back", "_law_kind", "_law_standing", "_law_told", "_law_here", "_law_due", "_law_k"], true, c_law_daf2⟩
def ds0 : List DD := [d0, d1, d2, d3, d4, d5, d6, d7, d8, d9, d10, d11, d12, d13, d14, d15, d16, d17, d18, d19, d20, d21, d22, d23, d24]
def ds1 : List DD := [d25]
def ds : List DD := ds0 ++ ds1
def lamEs : List LamE := [⟨"law.lambda0", [], ["_law_kind", "_law_standing"], ["_law_kind", "_law_standing"], l_law_lambda0_6f90⟩]
def S0 : Sx := { N := [], sc := default, top := true, fns := ["is_integer", "is_index", "is_between", "is_tuple_of", "are_ascending", "are_standings", "is_outcome", "are_outcomes", "is_put", "check_kind", "check_standing", "is_sure", "check_sure", "track_of", "worn", "_law_pool", "_law_draw", "_law_pick", "_law_is_int", "_law_kind_parts", "_law_long_row", "_law_is_sure", "_law_nearly_sure", "_law_sure_told", "law"], clss := ["Kind"], flds := ["drifts", "kept_drifts", "kept_facts", "kept_looks", "kept_puts", "looks", "puts", "size"], cons := [("MOST_STANDINGS", (.int 8)), ("MOST_OUTCOMES", (.int 4)), ("MOST_ANSWER", (.int 9)), ("MOST_PUTS", (.int 4))], lams := lamEs, al := [], excs := [("NoStanding", ["NoStanding", "SpoilError"]), ("NotSure", ["NotSure", "SpoilError"])] }
theorem ok : okDs S0 ds = true := by decide +kernel
theorem ck0 : (ds0.all fun x => ckSs (S0.inD x.Nm (defScope x.st) x.lm) x.body (defBody x.st)) = true := by decide +kernel
theorem ck1 : (ds1.all fun x => ckSs (S0.inD x.Nm (defScope x.st) x.lm) x.body (defBody x.st)) = true := by decide +kernel
theorem ckp0 : ∀ x ∈ ds0, ckSs (S0.inD x.Nm (defScope x.st) x.lm) x.body (defBody x.st) = true := fun x hx => List.all_eq_true.mp ck0 x hx
theorem ckp1 : ∀ x ∈ ds1, ckSs (S0.inD x.Nm (defScope x.st) x.lm) x.body (defBody x.st) = true := fun x hx => List.all_eq_true.mp ck1 x hx
theorem ck : okCk S0 ds := (fun x hx => (List.mem_append.mp hx).elim (ckp0 x) (ckp1 x))
theorem sc : okSc ds = true := by decide +kernel
theorem b0 : BindP d0 := fun _ _ _ _ _ _ us h => match us, h with | [_], _ => rfl
theorem b1 : BindP d1 := fun _ _ _ _ _ _ us h => match us, h with | [_, _], _ => rfl
theorem b2 : BindP d2 := fun _ _ _ _ _ _ us h => match us, h with | [_, _, _], _ => rfl
theorem b3 : BindP d3 := fun _ _ _ _ _ _ us h => match us, h with | [_, _, _], _ => rfl
theorem b4 : BindP d4 := fun _ _ _ _ _ _ us h => match us, h with | [_], _ => rfl
theorem b5 : BindP d5 := fun _ _ _ _ _ _ us h => match us, h with | [_, _], _ => rfl
theorem b6 : BindP d6 := fun _ _ _ _ _ _ us h => match us, h with | [_, _], _ => rfl
theorem b7 : BindP d7 := fun _ _ _ _ _ _ us h => match us, h with | [_, _], _ => rfl
theorem b8 : BindP d8 := fun _ _ _ _ _ _ us h => match us, h with | [_, _], _ => rfl
theorem b9 : BindP d9 := fun _ _ _ _ _ _ us h => match us, h with | [_, _, _], _ => rfl
theorem b10 : BindP d10 := fun _ _ _ _ _ _ us h => match us, h with | [_, _, _, _], _ => rfl
theorem b11 : BindP d11 := fun _ _ _ _ _ _ us h => match us, h with | [_, _], _ => rfl
theorem b12 : BindP d12 := fun _ _ _ _ _ _ us h => match us, h with | [_], _ => rfl
theorem b13 : BindP d13 := fun _ _ _ _ _ _ us h => match us, h with | [_], _ => rfl
theorem b14 : BindP d14 := fun _ _ _ _ _ _ us h => match us, h with | [_, _], _ => rfl
theorem b15 : BindP d15 := fun _ _ _ _ _ _ us h => match us, h with | [_, _], _ => rfl
theorem b16 : BindP d16 := fun _ _ _ _ _ _ us h => match us, h with | [_], _ => rfl
theorem b17 : BindP d17 := fun _ _ _ _ _ _ us h => match us, h with | [_, _], _ => rfl
theorem b18 : BindP d18 := fun _ _ _ _ _ _ us h => match us, h with | [_, _], _ => rfl
theorem b19 : BindP d19 := fun _ _ _ _ _ _ us h => match us, h with | [_], _ => rfl
theorem b20 : BindP d20 := fun _ _ _ _ _ _ us h => match us, h with | [_, _], _ => rfl
theorem b21 : BindP d21 := fun _ _ _ _ _ _ us h => match us, h with | [_, _, _], _ => rfl
theorem b22 : BindP d22 := fun _ _ _ _ _ _ us h => match us, h with | [_, _], _ => rfl
theorem b23 : BindP d23 := fun _ _ _ _ _ _ us h => match us, h with | [_], _ => rfl
theorem b24 : BindP d24 := fun _ _ _ _ _ _ us h => match us, h with | [_], _ => rfl
theorem b25 : BindP d25 := fun _ _ _ _ _ _ us h => match us, h with | [_], _ => rfl
theorem bd0 : ∀ x ∈ ds0, BindP x := (List.forall_mem_cons.mpr ⟨b0, (List.forall_mem_cons.mpr ⟨b1, (List.forall_mem_cons.mpr ⟨b2, (List.forall_mem_cons.mpr ⟨b3, (List.forall_mem_cons.mpr ⟨b4, (List.forall_mem_cons.mpr ⟨b5, (List.forall_mem_cons.mpr ⟨b6, (List.forall_mem_cons.mpr ⟨b7, (List.forall_mem_cons.mpr ⟨b8, (List.forall_mem_cons.mpr ⟨b9, (List.forall_mem_cons.mpr ⟨b10, (List.forall_mem_cons.mpr ⟨b11, (List.forall_mem_cons.mpr ⟨b12, (List.forall_mem_cons.mpr ⟨b13, (List.forall_mem_cons.mpr ⟨b14, (List.forall_mem_cons.mpr ⟨b15, (List.forall_mem_cons.mpr ⟨b16, (List.forall_mem_cons.mpr ⟨b17, (List.forall_mem_cons.mpr ⟨b18, (List.forall_mem_cons.mpr ⟨b19, (List.forall_mem_cons.mpr ⟨b20, (List.forall_mem_cons.mpr ⟨b21, (List.forall_mem_cons.mpr ⟨b22, (List.forall_mem_cons.mpr ⟨b23, (List.forall_mem_cons.mpr ⟨b24, (fun _ h => nomatch h)⟩)⟩)⟩)⟩)⟩)⟩)⟩)⟩)⟩)⟩)⟩)⟩)⟩)⟩)⟩)⟩)⟩)⟩)⟩)⟩)⟩)⟩)⟩)⟩)⟩)
theorem bd1 : ∀ x ∈ ds1, BindP x := (List.forall_mem_cons.mpr ⟨b25, (fun _ h => nomatch h)⟩)
theorem bd : ∀ x ∈ ds, BindP x := (fun x hx => (List.mem_append.mp hx).elim (bd0 x) (bd1 x))
def loose0 : List Str := ["SpoilError", "BadKind", "NoStanding", "NotSure", "is_integer", "is_index", "is_between", "is_tuple_of", "are_ascending", "MOST_STANDINGS", "MOST_OUTCOMES", "MOST_ANSWER", "MOST_PUTS", "are_standings", "is_outcome", "are_outcomes", "is_put", "check_kind", "Kind", "check_standing", "is_sure", "check_sure", "track_of", "worn", "_law_pool", "_law_draw", "_law_pick", "_law_is_int", "_law_kind_parts", "_law_long_row"]
def loose1 : List Str := ["_law_is_sure", "_law_nearly_sure", "_law_sure_told"]
def loose : List Str := loose0 ++ loose1
abbrev R : PySem.W.OpenRow := PySem.W.OpenLaw.row PySem.Challenge.rw_lookspoil_k13_whole_worn_cells
set_option maxHeartbeats 0 in
theorem run (w : World) : HandSHeadRun.RunEq R (PySem.W.view R.prog [39]) (hkOf S0 ds) (obOf S0 ds) 40000 loose w := by
  intro os
  kernel_rfl
end K13
end MP
end
section
/-! PL0: rules for walking a text of MP0's language. -/
namespace MP.PL
theorem call_intro {P : Prog} {n : Nat} {f : String} {k m : Nat} {c : CS} {ds : List D} {e : Env} {M : Mem} {Q : VQ} {X : XQ} (h : P f = some ⟨k, m, c⟩) (hl : ds.length = k) (he : startE m ds = e) (hw : wS (callN P n) c e M ⟨fun _ M => Q .non M, Q, fun _ _ => False, fun _ _ => False, X⟩) : callN P (n + 1) f ds M Q X := by
  simp only [callN, h]
  rw [he]
  exact ⟨hl, hw⟩
section
variable {φ : CallSem} {e : Env} {M : Mem} {Q : VQ} {X : XQ} {nx : Env → Mem → Prop} {rt : VQ} {bk ct : Env → Mem → Prop} {ex : XQ} {a b c d k v : CE} {s t : CS} {es : CEs} {q : CQ} {f : CF} {i : Nat} {x y z : D}
/-! ### statements -/
theorem s_skip (h : nx e M) : wS φ .skip e M ⟨nx, rt, bk, ct, ex⟩ := h
theorem s_end {K : Ends} (h : wS φ s e M K) : wS φ (.seq s .skip) e M K := h
theorem s_seq (h : wS φ s e M ⟨fun e M => wS φ t e M ⟨nx, rt, bk, ct, ex⟩, rt, bk, ct, ex⟩) : wS φ (.seq s t) e M ⟨nx, rt, bk, ct, ex⟩ := h
theorem s_cutJ (mid : Env → Mem → Prop) (h2 : ∀ e M, mid e M → wS φ t e M ⟨nx, rt, bk, ct, ex⟩) (h1 : ∀ nx' : Env → Mem → Prop, (∀ e M, mid e M → nx' e M) → wS φ s e M ⟨nx', rt, bk, ct, ex⟩) : wS φ (.seq s t) e M ⟨nx, rt, bk, ct, ex⟩ := h1 _ h2
theorem s_expr (h : wE φ c e M (fun _ M => nx e M) noX) : wS φ (.expr c) e M ⟨nx, rt, bk, ct, ex⟩ := h
theorem s_ret (h : wE φ c e M rt noX) : wS φ (.ret c) e M ⟨nx, rt, bk, ct, ex⟩ := h
theorem s_raise {c : String} {anc : List String} (h : ex ⟨c, anc⟩ M) : wS φ (.raise c anc) e M ⟨nx, rt, bk, ct, ex⟩ := h
theorem s_callX0 {f : String} (h : wEs φ es e M (fun ds M => φ f ds M (fun _ M => nx e M) ex) noX) : wS φ (.callX .no f es) e M ⟨nx, rt, bk, ct, ex⟩ := h
theorem s_callXn {f : String} (h : wEs φ es e M (fun ds M => φ f ds M (fun d M => nx (e.set i (some d)) M) ex) noX) : wS φ (.callX (.nm i) f es) e M ⟨nx, rt, bk, ct, ex⟩ := h
theorem s_callXr {f : String} (h : wEs φ es e M (fun ds M => φ f ds M rt ex) noX) : wS φ (.callX .rt f es) e M ⟨nx, rt, bk, ct, ex⟩ := h
theorem s_callXp {f : String} {s : PySem.Str} (h : wEs φ es e M (fun ds M => φ f ds M (fun d M => nx (e.set i (some (.tup [.str s, d]))) M) ex) noX) : wS φ (.callX (.pr i s) f es) e M ⟨nx, rt, bk, ct, ex⟩ := h
theorem s_tryV {l : String} {cap : List D} {j i : Nat} {hs : List (String × Nat × D)} (h0 : get e i = some (.clo l cap)) (h : φ l cap M (fun d M => nx (e.set j (some d)) M) fun x M => wHs hs x e M ⟨nx, rt, bk, ct, ex⟩) : wS φ (.tryV j i hs) e M ⟨nx, rt, bk, ct, ex⟩ := by simp only [wS, h0]; exact h
theorem hs_hit {c : String} {d : D} {r : List (String × Nat × D)} {x : DX} (hc : c ∈ x.anc) (h : nx (e.set i (some d)) M) : wHs ((c, i, d) :: r) x e M ⟨nx, rt, bk, ct, ex⟩ := by unfold wHs; rw [if_pos hc]; exact h
theorem s_brk (h : bk e M) : wS φ .brk e M ⟨nx, rt, bk, ct, ex⟩ := h
theorem s_cont (h : ct e M) : wS φ .cont e M ⟨nx, rt, bk, ct, ex⟩ := h
theorem s_asg (h : wE φ c e M (fun d M => nx (e.set i (some d)) M) noX) : wS φ (.asg (.name i) c) e M ⟨nx, rt, bk, ct, ex⟩ := h
theorem s_asgt {ts : List CT} (h : wE φ c e M (fun d M => ∃ e', bind M (.tup ts) d e = some e' ∧ nx e' M) noX) : wS φ (.asg (.tup ts) c) e M ⟨nx, rt, bk, ct, ex⟩ := by
  have q : (fun d M => ∃ e', bind M (.tup ts) d e = some e' ∧ nx e' M) = fun d M => match bind M (.tup ts) d e with | some e => nx e M | none => False := by
    funext d M; cases bind M (.tup ts) d e <;> simp
  rw [q] at h; exact h
theorem s_ife (h : wE φ c e M (fun x M => wTruth x M fun k M => if k = true then wS φ s e M ⟨nx, rt, bk, ct, ex⟩ else wS φ t e M ⟨nx, rt, bk, ct, ex⟩) noX) : wS φ (.ife c s t) e M ⟨nx, rt, bk, ct, ex⟩ := h
theorem s_asgIx {o i v : CE} (h : wE φ v e M (fun z M => wE φ o e M (fun x M => wE φ i e M (fun y M => wSetIx x y z M fun M => nx e M) noX) noX) noX) : wS φ (.asgIx o i v) e M ⟨nx, rt, bk, ct, ex⟩ := h
theorem s_asgFld {o v : CE} {g : String} (h : wE φ v e M (fun z M => wE φ o e M (fun x M => wSetFld x g z M fun M => nx e M) noX) noX) : wS φ (.asgFld o g v) e M ⟨nx, rt, bk, ct, ex⟩ := h
def stepS (φ : CallSem) (t : CT) (s : CS) (d : D) (e : Env) (M : Mem) (K : Ends) : Prop := ∃ e', bind M t d e = some e' ∧ wS φ s e' M K
def stepC (φ : CallSem) (t : CT) (ifs : CEs) (a : CE) (e : Env) (d : D) (M : Mem) (R : Option D → Mem → Prop) : Prop := ∃ e', bind M t d e = some e' ∧ wIfs φ ifs e' M (fun b M => if b = true then wE φ a e' M (fun x M => R (some x) M) noX else R none M) noX
def stepD (φ : CallSem) (t : CT) (ifs : CEs) (a b : CE) (e : Env) (d : D) (M : Mem) (R : Option (D × D) → Mem → Prop) : Prop := ∃ e', bind M t d e = some e' ∧ wIfs φ ifs e' M (fun z M => if z = true then wE φ a e' M (fun x M => wE φ b e' M (fun y M => R (some (x, y)) M) noX) noX else R none M) noX
theorem s_for {j : CI} {t : CT} (h : wI φ j e M (fun J M => forLoop J (stepS φ t s) ⟨nx, rt, bk, ct, ex⟩ J.ds e M) noX) : wS φ (.for_ j t s) e M ⟨nx, rt, bk, ct, ex⟩ := by
  have q : stepS φ t s = fun d e M K => match bind M t d e with | some e => wS φ s e M K | none => False := by
    funext d e M K; unfold stepS; cases bind M t d e <;> simp
  rw [q] at h; exact h
theorem s_while (h : ∃ n, whileLoop (fun e M R => wE φ c e M (fun x M => wTruth x M R) noX) (fun e M K => wS φ s e M K) ⟨nx, rt, bk, ct, ex⟩ n e M) : wS φ (.while_ c s) e M ⟨nx, rt, bk, ct, ex⟩ := h
/-! ### truth -/
theorem tr_bl {R : Bool → Mem → Prop} {o : Bool} (h : R o M) : wTruth (.bl o) M R := h
theorem tr_int {R : Bool → Mem → Prop} {j : Int} (h : R (decide (j ≠ 0)) M) : wTruth (.int j) M R := h
theorem tr_tup {R : Bool → Mem → Prop} {ds : List D} (h : R (!ds.isEmpty) M) : wTruth (.tup ds) M R := h
theorem tr_non {R : Bool → Mem → Prop} (h : R false M) : wTruth .non M R := h
theorem rd_of {p : Nat} {m : MO} (h : M p = some m) (hf : ∀ o, m ≠ .frz o) : M.rd p = some m := by
  unfold Mem.rd; rw [h]; cases m <;> first | rfl | exact absurd rfl (hf _)
theorem rd_lst {p : Nat} {ds : List D} (h : M p = some (.lst ds)) : M.rd p = some (.lst ds) := rd_of h (fun _ z => by cases z)
theorem rd_dct {p : Nat} {ds : List (D × D)} (h : M p = some (.dct ds)) : M.rd p = some (.dct ds) := rd_of h (fun _ z => by cases z)
/-! ### expressions -/
theorem e_var (h : get e i = some x) (n : x.nclo = true) (q : Q x M) : wE φ (.var i) e M Q X := by simp only [wE, h]; exact ⟨n, q⟩
theorem e_J (mid : D → Mem → Prop) (h2 : ∀ x M, mid x M → Q x M) (h1 : ∀ Q' : VQ, (∀ x M, mid x M → Q' x M) → wE φ c e M Q' X) : wE φ c e M Q X := h1 _ h2
theorem e_con (q : Q x M) : wE φ (.con x) e M Q X := q
theorem e_bin {op : Bin} (h : wE φ a e M (fun x M => wE φ b e M (fun y M => wBin op x y M Q) X) X) : wE φ (.bin op a b) e M Q X := h
theorem e_neg (h : wE φ a e M (fun x M => wNeg x M Q) X) : wE φ (.neg a) e M Q X := h
theorem e_cmp {op : Cmp} (h : wE φ a e M (fun x M => wE φ b e M (fun y M => wCmp op x y M Q) X) X) : wE φ (.cmp op a b) e M Q X := h
theorem e_chain {o1 o2 : Cmp} (h : wE φ a e M (fun x M => wE φ b e M (fun y M => wCmp o1 x y M fun t M => wTruth t M fun k M => if k = true then wE φ c e M (fun z M => wCmp o2 y z M Q) X else Q (.bl false) M) X) X) : wE φ (.chain o1 o2 a b c) e M Q X := h
theorem e_and (h : wE φ a e M (fun x M => wTruth x M fun k M => if k = true then wE φ b e M Q X else Q x M) X) : wE φ (.and_ a b) e M Q X := h
theorem e_or (h : wE φ a e M (fun x M => wTruth x M fun k M => if k = true then Q x M else wE φ b e M Q X) X) : wE φ (.or_ a b) e M Q X := h
theorem e_not (h : wE φ a e M (fun x M => wTruth x M fun k M => Q (.bl (!k)) M) X) : wE φ (.not_ a) e M Q X := h
theorem e_ite (h : wE φ c e M (fun x M => wTruth x M fun k M => if k = true then wE φ a e M Q X else wE φ b e M Q X) X) : wE φ (.ite c a b) e M Q X := h
theorem e_fld {g : String} (h : wE φ a e M (fun x M => wFld x g M Q) X) : wE φ (.fld a g) e M Q X := h
theorem e_ix (h : wE φ a e M (fun x M => wE φ b e M (fun y M => wIx x y M Q) X) X) : wE φ (.ix a b) e M Q X := h
theorem e_cut {lo hi : CE} (h : wE φ a e M (fun x M => wE φ lo e M (fun y M => isPt y = true ∧ wE φ hi e M (fun z M => isPt z = true ∧ wCut x y z M Q) X) X) X) : wE φ (.cut a lo hi) e M Q X := h
theorem e_tup (h : wEs φ es e M (fun ds M => ds.length ≤ line ∧ Q (.tup ds) M) X) : wE φ (.tup es) e M Q X := h
theorem e_tupq (h : wQ φ q e M (fun ds M => Q (.tup ds) M) X) : wE φ (.tupq q) e M Q X := h
theorem e_mkl (h : wF φ f e M (fun ds M => wNew (.lst ds) M Q) X) : wE φ (.mkl f) e M Q X := h
theorem e_len (h : wQ φ q e M (fun ds M => Q (.int ds.length) M) X) : wE φ (.len q) e M Q X := h
theorem e_lenv (h : wE φ a e M (fun x M => wLen x M Q) X) : wE φ (.lenv a) e M Q X := h
theorem e_all (h : wQ φ q e M (fun ds M => ∃ bs, bools ds = some bs ∧ Q (.bl (bs.all id)) M) X) : wE φ (.all q) e M Q X := by
  have z : (fun ds M => ∃ bs, bools ds = some bs ∧ Q (.bl (bs.all id)) M) = fun ds M => match bools ds with | some bs => Q (.bl (bs.all id)) M | none => False := by
    funext d M; cases bools d <;> simp
  rw [z] at h; exact h
theorem e_any (h : wQ φ q e M (fun ds M => ∃ bs, truths ds = some bs ∧ Q (.bl (bs.any id)) M) X) : wE φ (.any q) e M Q X := by
  have z : (fun ds M => ∃ bs, truths ds = some bs ∧ Q (.bl (bs.any id)) M) = fun ds M => match truths ds with | some bs => Q (.bl (bs.any id)) M | none => False := by
    funext d M; cases truths d <;> simp
  rw [z] at h; exact h
theorem e_sum (h : wQ φ q e M (fun ds M => ∃ is, nums ds = some is ∧ Q (.int is.sum) M) X) : wE φ (.sum q) e M Q X := by
  have z : (fun ds M => ∃ is, nums ds = some is ∧ Q (.int is.sum) M) = fun ds M => match nums ds with | some is => Q (.int is.sum) M | none => False := by
    funext d M; cases nums d <;> simp
  rw [z] at h; exact h
theorem e_least (h : wQ φ q e M (fun ds M => wLeast ds M Q) X) : wE φ (.least q) e M Q X := h
theorem e_most (h : wQ φ q e M (fun ds M => ∃ i is, nums ds = some (i :: is) ∧ Q (.int (mostI i is)) M) X) : wE φ (.most q) e M Q X := by
  have z : (fun ds M => ∃ i is, nums ds = some (i :: is) ∧ Q (.int (mostI i is)) M) = fun ds M => match nums ds with | some (i :: is) => Q (.int (mostI i is)) M | _ => False := by
    funext d M; rcases nums d with _ | (_ | ⟨i, l⟩)
    · simp
    · simp
    · refine propext ⟨fun ⟨a, b, c, d⟩ => by cases c; exact d, fun h => ⟨i, l, rfl, h⟩⟩
  rw [z] at h; exact h
theorem e_inq {n : Bool} (h : wE φ a e M (fun x M => wQ φ q e M (fun ds M => D.ok 60 x = true ∧ D.oks 60 ds = true ∧ Q (.bl (n != ds.any fun d => D.eqv d x)) M) X) X) : wE φ (.inq n a q) e M Q X := h
theorem e_ind {n : Bool} (h : wE φ a e M (fun x M => wE φ b e M (fun y M => wInD n x y M Q) X) X) : wE φ (.ind n a b) e M Q X := h
theorem e_dnew0 (h : ∀ p, M p = none → Q (.ref p) (M.set p (.dct []))) : wE φ (.dnew .nil) e M Q X := fun p hp _ => h p hp
theorem e_dget (h : wE φ d e M (fun o M => isDct M o = true ∧ wE φ k e M (fun k M => wE φ c e M (fun x M => wDget o k x M Q) X) X) X) : wE φ (.dget d k c) e M Q X := h
theorem e_dpop (h : wE φ d e M (fun o M => isDct M o = true ∧ wE φ k e M (fun k M => wDpop o k M Q) X) X) : wE φ (.dpop d k) e M Q X := h
theorem e_abs (h : wE φ a e M (fun x M => wAbs x M Q) X) : wE φ (.abs a) e M Q X := h
theorem e_int (h : wE φ a e M (fun x M => wInt x M Q) X) : wE φ (.int a) e M Q X := h
theorem e_isi {ts : List String} (h : wE φ a e M (fun x M => ∃ b, isTypes M x ts = some b ∧ Q (.bl b) M) X) : wE φ (.isi a ts) e M Q X := by
  have z : (fun x M => ∃ b, isTypes M x ts = some b ∧ Q (.bl b) M) = fun x M => match isTypes M x ts with | some b => Q (.bl b) M | none => False := by
    funext d M; cases isTypes M d ts <;> simp
  rw [z] at h; exact h
theorem e_call {g : String} (h : wEs φ es e M (fun ds M => φ g ds M Q X) X) : wE φ (.call g es) e M Q X := h
theorem e_make {c : String} (h : wEs φ es e M (fun ds M => ∀ p, M p = none → φ (c ++ ".__init__") (.ref p :: ds) (M.set p (.ins c [])) (fun d M => d = .non ∧ Q (.ref p) M) X) X) : wE φ (.make c es) e M Q X := h
theorem e_callL {g l : String} {cap : List Nat} {cs : List D} (h0 : cap.mapM (get e) = some cs) (hn : D.nclos cs = true) (h : wEs φ es e M (fun ds M => φ g (ds ++ [.clo l cs]) M Q X) X) : wE φ (.callL g es l cap) e M Q X := by
  simp only [wE, h0, hn]
  simp only [true_and]; exact h
theorem e_pop (h : wE φ a e M (fun x M => wPop x M Q) X) : wE φ (.pop a) e M Q X := h
theorem e_append (h : wE φ a e M (fun x M => isL M x = true ∧ wE φ b e M (fun y M => wAppend x y M Q) X) X) : wE φ (.append a b) e M Q X := h
theorem e_extend (h : wE φ a e M (fun x M => isL M x = true ∧ wQL φ q e M (fun es M => wExtend x es M Q) X) X) : wE φ (.extend a q) e M Q X := h
theorem e_dclear (h : wE φ a e M (fun x M => wDclear x M Q) X) : wE φ (.dclear a) e M Q X := h
theorem e_reverse (h : wE φ a e M (fun x M => wReverse x M Q) X) : wE φ (.reverse a) e M Q X := h
theorem es_nil {Q : List D → Mem → Prop} (h : Q [] M) : wEs φ .nil e M Q X := h
theorem es_cons {Q : List D → Mem → Prop} (h : wE φ a e M (fun d M => wEs φ es e M (fun ds M => Q (d :: ds) M) X) X) : wEs φ (.cons a es) e M Q X := h
section
variable {Q : List D → Mem → Prop}
theorem f_disp (h : wEs φ es e M (fun ds M => ds.length ≤ line ∧ Q ds M) X) : wF φ (.disp es) e M Q X := h
theorem f_list (h : wQ φ q e M Q X) : wF φ (.list q) e M Q X := h
theorem f_keys (h : wE φ a e M (fun x M => wKeys x M Q) X) : wF φ (.keys a) e M Q X := h
theorem f_sorted (h : wQ φ q e M (fun ds M => srt ds = true ∧ Q (sortD ds) M) X) : wF φ (.sorted q) e M Q X := h
theorem f_sset (h : wQ φ q e M (fun ds M => SsOk ds ∧ srt ds = true ∧ ∀ ds', ds'.Nodup → (∀ x, x ∈ ds' ↔ x ∈ ds) → Q (sortD ds') M) X) : wF φ (.sset q) e M Q X := h
theorem f_cat1 (h : wE φ a e M (fun x M => wQL φ q e M (fun ys M => wSeqL x M fun xs M => (xs ++ ys).length ≤ line ∧ Q (xs ++ ys) M) X) X) : wF φ (.cat (.of a) q) e M Q X := by unfold wF; exact h
theorem f_cat2 (h : wF φ f e M (fun xs M => wQL φ q e M (fun ys M => (xs ++ ys).length ≤ line ∧ Q (xs ++ ys) M) X) X) : wF φ (.cat (.fr f) q) e M Q X := by unfold wF; exact h
theorem f_cut {lo hi : CE} (h : wE φ a e M (fun x M => wE φ lo e M (fun y M => isPt y = true ∧ wE φ hi e M (fun z M => isPt z = true ∧ wCutL x y z M Q) X) X) X) : wF φ (.cut a lo hi) e M Q X := h
theorem f_rng {lo hi : CE} (h : wE φ lo e M (fun x M => wE φ hi e M (fun y M => ∃ i j, x = .int i ∧ y = .int j ∧ (-1000000000 < i ∧ j - i < 1000000) ∧ Q (rangeD i j) M) X) X) : wF φ (.rng lo hi) e M Q X := by
  have z : (fun x M => wE φ hi e M (fun y M => ∃ i j, x = D.int i ∧ y = D.int j ∧ (-1000000000 < i ∧ j - i < 1000000) ∧ Q (rangeD i j) M) X) = fun x M => wE φ hi e M (fun y M => match x, y with | .int i, .int j => (-1000000000 < i ∧ j - i < 1000000) ∧ Q (rangeD i j) M | _, _ => False) X := by
    funext x M; congr 1; funext y M; cases x <;> cases y <;> simp
  rw [z] at h; exact h
theorem f_lc {j : CI} {t : CT} {ifs : CEs} (h : wI φ j e M (fun J M => lcLoop J (stepC φ t ifs a e) Q J.ds [] M) X) : wF φ (.lc j t ifs a) e M Q X := by
  have z : stepC φ t ifs a e = fun d M R => match bind M t d e with | some e => wIfs φ ifs e M (fun b M => if b = true then wE φ a e M (fun x M => R (some x) M) noX else R none M) noX | none => False := by
    funext d M R; unfold stepC; cases bind M t d e <;> simp
  rw [z] at h; exact h
theorem q_of (h : wE φ a e M (fun x M => wSeq x M Q) X) : wQ φ (.of a) e M Q X := h
theorem q_fr (h : wF φ f e M Q X) : wQ φ (.fr f) e M Q X := h
theorem ql_of (h : wE φ a e M (fun x M => wSeqL x M Q) X) : wQL φ (.of a) e M Q X := h
theorem ql_fr (h : wF φ f e M Q X) : wQL φ (.fr f) e M Q X := h
theorem sq_tup {ds : List D} (h : Q ds M) : wSeq (.tup ds) M Q := h
theorem sq_ref {p : Nat} {ds : List D} (h0 : M.rd p = some (.lst ds)) (h : Q ds M) : wSeq (.ref p) M Q := by unfold wSeq; simp only [h0]; exact h
theorem sql_ref {p : Nat} {ds : List D} (h0 : M p = some (.lst ds)) (h : Q ds M) : wSeqL (.ref p) M Q := by unfold wSeqL; simp only [h0]; exact h
theorem keys_ref {p : Nat} {ds : List (D × D)} (h0 : M.rd p = some (.dct ds)) (h : Q (ds.map (·.1)) M) : wKeys (.ref p) M Q := by unfold wKeys; simp only [h0]; exact h
end
theorem ifs_nil {R : Bool → Mem → Prop} (h : R true M) : wIfs φ .nil e M R X := h
theorem ifs_cons {R : Bool → Mem → Prop} (h : wE φ a e M (fun d M => wTruth d M fun k M => if k = true then wIfs φ es e M R X else R false M) X) : wIfs φ (.cons a es) e M R X := h
section
variable {R : It → Mem → Prop}
theorem i_fr (h : wF φ f e M (fun ds M => R ⟨ds, fun _ => True, id⟩ M) X) : wI φ (.seq (.fr f)) e M R X := by unfold wI; exact h
/-- a tuple, or a list that stands -/
def walkOf (x : D) (M : Mem) (R : It → Mem → Prop) : Prop := match x with
      | .tup ds => R ⟨ds, fun _ => True, id⟩ M
      | .ref p => (match M.rd p with | some (.lst ds) => R ⟨ds, fun M => M.rd p = some (.lst ds), id⟩ M | _ => False)
      | _ => False
theorem i_of (h : wE φ a e M (fun x M => walkOf x M R) X) : wI φ (.seq (.of a)) e M R X := by unfold wI; exact h
theorem wo_ref {p : Nat} {ds : List D} (h0 : M.rd p = some (.lst ds)) (h : R ⟨ds, fun M => M.rd p = some (.lst ds), id⟩ M) : walkOf (.ref p) M R := by unfold walkOf; simp only [h0]; exact h
theorem wo_tup {ds : List D} (h : R ⟨ds, fun _ => True, id⟩ M) : walkOf (.tup ds) M R := h
theorem i_live (h : wE φ a e M (fun x M => ∃ p ds, x = .ref p ∧ M.rd p = some (.lst ds) ∧ R ⟨ds, fun M => M.rd p = some (.lst ds), id⟩ M) X) : wI φ (.live a) e M R X := by
  unfold wI
  have z : (fun x (M : Mem) => ∃ p ds, x = D.ref p ∧ M.rd p = some (.lst ds) ∧ R ⟨ds, fun M => M.rd p = some (.lst ds), id⟩ M) = fun x M => match x with
      | .ref p => (match M.rd p with | some (.lst ds) => R ⟨ds, fun M => M.rd p = some (.lst ds), id⟩ M | _ => False)
      | _ => False := by
    funext x M; cases x <;> simp
    rename_i p
    rcases M.rd p with _ | (ds | _ | _ | _) <;> simp
  rw [z] at h; exact h
theorem i_rng {lo hi : CE} (h : wE φ lo e M (fun x M => wE φ hi e M (fun y M => ∃ i j, x = .int i ∧ y = .int j ∧ (small i ∧ i < 4611686018427387904 ∧ -4611686018427387904 ≤ i ∧ -4611686018427387904 ≤ j ∧ j < 4611686018427387904) ∧ R ⟨rangeD i j, fun _ => True, id⟩ M) X) X) : wI φ (.rng lo hi) e M R X := by
  unfold wI
  have z : (fun x M => wE φ hi e M (fun y M => ∃ i j, x = D.int i ∧ y = D.int j ∧ (small i ∧ i < 4611686018427387904 ∧ -4611686018427387904 ≤ i ∧ -4611686018427387904 ≤ j ∧ j < 4611686018427387904) ∧ R ⟨rangeD i j, fun _ => True, id⟩ M) X) = fun x M => wE φ hi e M (fun y M => match x, y with
      | .int i, .int j => (small i ∧ i < 4611686018427387904 ∧ -4611686018427387904 ≤ i ∧ -4611686018427387904 ≤ j ∧ j < 4611686018427387904) ∧ R ⟨rangeD i j, fun _ => True, id⟩ M
      | _, _ => False) X := by
    funext x M; congr 1; funext y M; cases x <;> cases y <;> simp
  rw [z] at h; exact h
theorem i_enum {j : CI} (h : wI φ j e M (fun J M => R ⟨enumD 0 J.ds, J.ok, J.fin⟩ M) X) : wI φ (.enum j) e M R X := by unfold wI; exact h
theorem i_keys (h : wE φ a e M (fun x M => ∃ p kvs, x = .ref p ∧ M.rd p = some (.dct kvs) ∧ R ⟨kvs.map (·.1), fun _ => True, M.thawer p⟩ (M.freeze p)) X) : wI φ (.keys a) e M R X := by
  unfold wI
  have z : (fun x (M : Mem) => ∃ p kvs, x = D.ref p ∧ M.rd p = some (.dct kvs) ∧ R ⟨kvs.map (·.1), fun _ => True, M.thawer p⟩ (M.freeze p)) = fun x M => match x with
      | .ref p => (match M.rd p with | some (.dct kvs) => R ⟨kvs.map (·.1), fun _ => True, M.thawer p⟩ (M.freeze p) | _ => False)
      | _ => False := by
    funext x M; cases x <;> simp
    rename_i p
    rcases M.rd p with _ | (_ | ds | _ | _) <;> simp
  rw [z] at h; exact h
theorem e_dcomp {j : CI} {t : CT} {ifs : CEs} {k v : CE} {Q : VQ} (h : wI φ j e M (fun J M => dcLoop J (stepD φ t ifs k v e) (fun kvs M => wNew (.dct kvs) M Q) J.ds [] M) X) : wE φ (.dcomp j t ifs k v) e M Q X := by
  have z : stepD φ t ifs k v e = fun d M R => match bind M t d e with
      | some e => wIfs φ ifs e M (fun b M => if b = true then wE φ k e M (fun x M => wE φ v e M (fun y M => R (some (x, y)) M) noX) noX else R none M) noX
      | none => False := by
    funext d M R; unfold stepD; cases bind M t d e <;> simp
  rw [z] at h; exact h
end
/-! ### values -/
theorem b_add {i j : Int} (q : Q (.int (i + j)) M) : wBin .add (.int i) (.int j) M Q := q
theorem b_sub {i j : Int} (q : Q (.int (i - j)) M) : wBin .sub (.int i) (.int j) M Q := q
theorem b_mul {i j : Int} (h : small i ∨ small j) (q : Q (.int (i * j)) M) : wBin .mul (.int i) (.int j) M Q := ⟨h, q⟩
theorem b_div {i j : Int} (h : 0 < j ∧ j < 1073741824) (q : Q (.int (i / j)) M) : wBin .fdiv (.int i) (.int j) M Q := ⟨h, q⟩
theorem b_mod {i j : Int} (h : 0 < j) (q : Q (.int (i % j)) M) : wBin .mod (.int i) (.int j) M Q := ⟨h, q⟩
theorem b_pow {i j : Int} (h : 0 ≤ j ∧ j ≤ 1000000 ∧ small i) (q : Q (.int (i ^ j.toNat)) M) : wBin .pow (.int i) (.int j) M Q := ⟨h, q⟩
theorem b_mull {p : Nat} {k : Int} {xs : List D} (h0 : M p = some (.lst xs)) (h : 0 ≤ k ∧ k < 1000000 ∧ xs.length * k.toNat ≤ line) (q : wNew (.lst (List.replicate k.toNat xs).flatten) M Q) : wBin .mul (.ref p) (.int k) M Q := by simp only [wBin, h0]; exact ⟨h, q⟩
theorem b_addt {a b : List D} (h : (a ++ b).length ≤ line) (q : Q (.tup (a ++ b)) M) : wBin .add (.tup a) (.tup b) M Q := ⟨h, q⟩
theorem c_eq {b : Bool} (h : eqD M x y = some b) (q : Q (.bl b) M) : wCmp .eq x y M Q := .inl (by simp only [wCmp0, h]; exact q)
theorem c_ne {b : Bool} (h : eqD M x y = some b) (q : Q (.bl (!b)) M) : wCmp .ne x y M Q := .inl (by simp only [wCmp0, h]; exact q)
theorem c_lt {i j : Int} (q : Q (.bl (decide (i < j))) M) : wCmp .lt (.int i) (.int j) M Q := .inl ⟨rfl, q⟩
theorem c_ltd (h : (D.alike x y && (D.ok 60 x && D.ok 60 y)) = true) (q : Q (.bl (D.lt x y)) M) : wCmp .lt x y M Q := .inl ⟨h, q⟩
theorem c_le {i j : Int} (q : Q (.bl (decide (i ≤ j))) M) : wCmp .le (.int i) (.int j) M Q := .inl q
theorem c_gt {i j : Int} (q : Q (.bl (decide (j < i))) M) : wCmp .gt (.int i) (.int j) M Q := .inl q
theorem c_ge {i j : Int} (q : Q (.bl (decide (j ≤ i))) M) : wCmp .ge (.int i) (.int j) M Q := .inl q
theorem eqD_dat (h1 : D.ok 60 x = true) (h2 : D.ok 60 y = true) : eqD M x y = some (D.eqv x y) := by
  have d1 : dataOf M x = some (false, [x]) := by cases x <;> first | (simp [D.ok] at h1; done) | (simp only [dataOf, h1, if_true])
  have d2 : dataOf M y = some (false, [y]) := by cases y <;> first | (simp [D.ok] at h2; done) | (simp only [dataOf, h2, if_true])
  simp [eqD, d1, d2, D.eqvs]
theorem eqD_lst {p q : Nat} {xs ys : List D} (h1 : M.rd p = some (.lst xs)) (h2 : M.rd q = some (.lst ys)) (h3 : D.oks 60 xs = true) (h4 : D.oks 60 ys = true) : eqD M (.ref p) (.ref q) = some (D.eqvs xs ys) := by
  simp [eqD, dataOf, h1, h2, h3, h4]
theorem x_tup {ds : List D} {j : Int} (h : atI ds j = some x) (q : Q x M) : wIx (.tup ds) (.int j) M Q := by simp only [wIx, h]; exact q
theorem x_lst {p : Nat} {ds : List D} {j : Int} (h0 : M.rd p = some (.lst ds)) (h : atI ds j = some x) (q : Q x M) : wIx (.ref p) (.int j) M Q := by simp only [wIx, h0, h]; exact q
theorem x_dct {p : Nat} {ds : List (D × D)} (h0 : M.rd p = some (.dct ds)) (hk : D.okey y = true) (h : look ds y = some x) (q : Q x M) : wIx (.ref p) y M Q := by cases y <;> (simp only [wIx, h0, h]; exact ⟨hk, q⟩)
theorem fl_ref {p : Nat} {c g : String} {fs : List (String × D)} (h0 : M p = some (.ins c fs)) (h : fget fs g = some x) (q : Q x M) : wFld (.ref p) g M Q := by simp only [wFld, h0, h]; exact q
theorem ap_ref {p : Nat} {ds : List D} (h0 : M p = some (.lst ds)) (h : ds.length < line) (q : Q .non (M.set p (.lst (ds ++ [y])))) : wAppend (.ref p) y M Q := by simp only [wAppend, h0]; exact ⟨h, q⟩
theorem ind_ref {p : Nat} {n : Bool} {kvs : List (D × D)} (h0 : M.rd p = some (.dct kvs)) (hk : D.okey x = true) (q : Q (.bl (n != (look kvs x).isSome)) M) : wInD n x (.ref p) M Q := by simp only [wInD, h0]; exact ⟨hk, q⟩
theorem isL_ref {p : Nat} {ds : List D} (h0 : M.rd p = some (.lst ds)) : isL M (.ref p) = true := by simp only [isL, h0]
theorem isDct_ref {p : Nat} {ds : List (D × D)} (h0 : M.rd p = some (.dct ds)) : isDct M (.ref p) = true := by simp only [isDct, h0]
theorem ln_ref {p : Nat} {ds : List D} (h0 : M.rd p = some (.lst ds)) (q : Q (.int ds.length) M) : wLen (.ref p) M Q := by simp only [wLen, h0]; exact q
theorem ln_dct {p : Nat} {ds : List (D × D)} (h0 : M.rd p = some (.dct ds)) (q : Q (.int ds.length) M) : wLen (.ref p) M Q := by simp only [wLen, h0]; exact q
theorem si_lst {R : Mem → Prop} {p j : Nat} {ds : List D} {m : Int} (h0 : M p = some (.lst ds)) (h : ixN ds.length m = some j) (q : R (M.set p (.lst (ds.set j z)))) : wSetIx (.ref p) (.int m) z M R := by simp only [wSetIx, h0, h]; exact q
theorem si_dct {R : Mem → Prop} {p : Nat} {ds : List (D × D)} (h0 : M p = some (.dct ds)) (hk : D.okey y = true) (h : ds.length < line) (q : R (M.set p (.dct (put ds y z)))) : wSetIx (.ref p) y z M R := by simp only [wSetIx, h0]; exact ⟨hk, h, q⟩
theorem sf_ref {R : Mem → Prop} {p : Nat} {c g : String} {fs : List (String × D)} (h0 : M p = some (.ins c fs)) (h : fs.length < 900) (q : R (M.set p (.ins c (fput fs g z)))) : wSetFld (.ref p) g z M R := by simp only [wSetFld, h0]; exact ⟨h, q⟩
end
theorem cl_ref {M : Mem} {Q : List D → Mem → Prop} {p : Nat} {ds : List D} {lo hi : D} {i j : Nat} (h0 : M.rd p = some (.lst ds)) (h1 : bnd ds.length 0 lo = some i) (h2 : bnd ds.length ds.length hi = some j) (q : Q (cutL ds i j) M) : wCutL (.ref p) lo hi M Q := by simp only [wCutL, h0, h1, h2]; exact q
theorem ct_tup {M : Mem} {Q : VQ} {ds : List D} {lo hi : D} {i j : Nat} (h1 : bnd ds.length 0 lo = some i) (h2 : bnd ds.length ds.length hi = some j) (q : Q (.tup (cutL ds i j)) M) : wCut (.tup ds) lo hi M Q := by simp only [wCut, h1, h2]; exact q
theorem cutL_all {α : Type} (xs : List α) : cutL xs 0 xs.length = xs := by simp [cutL]
theorem ex_bind {M : Mem} {t : CT} {d : D} {e e' : Env} {R : Env → Prop} (h : bind M t d e = some e') (q : R e') : ∃ e', bind M t d e = some e' ∧ R e' := ⟨e', h, q⟩
theorem st_S {φ : CallSem} {M : Mem} {t : CT} {d : D} {e e' : Env} {s : CS} {K : Ends} (h : bind M t d e = some e') (q : wS φ s e' M K) : stepS φ t s d e M K := ⟨e', h, q⟩
theorem st_C {φ : CallSem} {M : Mem} {t : CT} {d : D} {e e' : Env} {ifs : CEs} {a : CE} {R : Option D → Mem → Prop} (h : bind M t d e = some e') (q : wIfs φ ifs e' M (fun b M => if b = true then wE φ a e' M (fun x M => R (some x) M) noX else R none M) noX) : stepC φ t ifs a e d M R := ⟨e', h, q⟩
theorem st_C0 {φ : CallSem} {M : Mem} {t : CT} {d : D} {e e' : Env} {a : CE} {R : Option D → Mem → Prop} (h : bind M t d e = some e') (q : wE φ a e' M (fun x M => R (some x) M) noX) : stepC φ t .nil a e d M R := ⟨e', h, q⟩
theorem st_D {φ : CallSem} {M : Mem} {t : CT} {d : D} {e e' : Env} {ifs : CEs} {a b : CE} {R : Option (D × D) → Mem → Prop} (h : bind M t d e = some e') (q : wIfs φ ifs e' M (fun z M => if z = true then wE φ a e' M (fun x M => wE φ b e' M (fun y M => R (some (x, y)) M) noX) noX else R none M) noX) : stepD φ t ifs a b e d M R := ⟨e', h, q⟩
theorem st_D0 {φ : CallSem} {M : Mem} {t : CT} {d : D} {e e' : Env} {a b : CE} {R : Option (D × D) → Mem → Prop} (h : bind M t d e = some e') (q : wE φ a e' M (fun x M => wE φ b e' M (fun y M => R (some (x, y)) M) noX) noX) : stepD φ t .nil a b e d M R := ⟨e', h, q⟩
theorem isi_t {M : Mem} {x : D} {ts : List String} {R : Bool → Prop} (h : isTypes M x ts = some true) (q : R true) : ∃ b, isTypes M x ts = some b ∧ R b := ⟨_, h, q⟩
theorem isi_f {M : Mem} {x : D} {ts : List String} {R : Bool → Prop} (h : isTypes M x ts = some false) (q : R false) : ∃ b, isTypes M x ts = some b ∧ R b := ⟨_, h, q⟩
theorem pt_non {q : Prop} (h : q) : isPt .non = true ∧ q := ⟨rfl, h⟩
theorem pt_int {q : Prop} {i : Int} (h : q) : isPt (.int i) = true ∧ q := ⟨rfl, h⟩
theorem le_line {n : Nat} {q : Prop} (h : Nat.ble n line = true) (hq : q) : n ≤ line ∧ q := ⟨Nat.le_of_ble_eq_true h, hq⟩
theorem ex_rng {i j : Int} {B : Int → Int → Prop} {R : Int → Int → Prop} (hb : B i j) (q : R i j) : ∃ i' j', D.int i = .int i' ∧ D.int j = .int j' ∧ B i' j' ∧ R i' j' := ⟨i, j, rfl, rfl, hb, q⟩
theorem ex_live {M : Mem} {p : Nat} {ds : List D} {R : Nat → List D → Prop} (h : M.rd p = some (.lst ds)) (q : R p ds) : ∃ p' ds', D.ref p = .ref p' ∧ M.rd p' = some (.lst ds') ∧ R p' ds' := ⟨p, ds, rfl, h, q⟩
theorem a_isL {M : Mem} {p : Nat} {ds : List D} {q : Prop} (h : M.rd p = some (.lst ds)) (hq : q) : isL M (.ref p) = true ∧ q := ⟨isL_ref h, hq⟩
theorem a_isDct {M : Mem} {p : Nat} {ds : List (D × D)} {q : Prop} (h : M.rd p = some (.dct ds)) (hq : q) : isDct M (.ref p) = true ∧ q := ⟨isDct_ref h, hq⟩
theorem wn {o : MO} {M : Mem} {Q : VQ} (h : ∀ p, M p = none → Q (.ref p) (M.set p o)) : wNew o M Q := h
theorem a_int {M : Mem} {Q : VQ} {i : Int} (q : Q (.int i) M) : wInt (.int i) M Q := q
theorem a_abs {M : Mem} {Q : VQ} {i : Int} (q : Q (.int (if i < 0 then -i else i)) M) : wAbs (.int i) M Q := q
theorem a_len {M : Mem} {Q : VQ} {ds : List D} (q : Q (.int ds.length) M) : wLen (.tup ds) M Q := q
theorem a_neg {M : Mem} {Q : VQ} {i : Int} (q : Q (.int (-i)) M) : wNeg (.int i) M Q := q
/-! ### the memory -/
/-- all but what S says stands -/
def Fr (S : Nat → Prop) (M M' : Mem) : Prop := ∀ a o, ¬ S a → M a = some o → M' a = some o
abbrev no : Nat → Prop := fun _ => False
theorem Fr.refl {S : Nat → Prop} {M : Mem} : Fr S M M := fun _ _ _ h => h
theorem Fr.trans {S : Nat → Prop} {M M1 M2 : Mem} (a : Fr S M M1) (b : Fr S M1 M2) : Fr S M M2 := fun p o n h => b p o n (a p o n h)
theorem Fr.imp {S T : Nat → Prop} {M M' : Mem} (a : Fr S M M') (h : ∀ p, S p → T p) : Fr T M M' := fun p o n e => a p o (fun z => n (h p z)) e
theorem Fr.new {S : Nat → Prop} {M : Mem} {p : Nat} {o : MO} (h : M p = none) : Fr S M (M.set p o) := fun a u _ e => by
  rw [Mem.set_ne]; exact e
  rintro rfl; rw [h] at e; cases e
theorem Fr.set {S : Nat → Prop} {M : Mem} {p : Nat} {o : MO} (h : S p) : Fr S M (M.set p o) := fun a u n e => by
  rw [Mem.set_ne]; exact e
  rintro rfl; exact n h
theorem Fr.get {S : Nat → Prop} {M M' : Mem} (f : Fr S M M') {a : Nat} {o : MO} (h : M a = some o) (n : ¬ S a) : M' a = some o := f a o n h
theorem ne_of {M : Mem} {p q : Nat} {o : MO} (h : M p = none) (h2 : M q = some o) : q ≠ p := fun z => by rw [z, h] at h2; cases h2
theorem if_t {b : Bool} {p q : Prop} (h : b = true) (hp : p) : if b = true then p else q := by rw [if_pos h]; exact hp
theorem if_f {b : Bool} {p q : Prop} (h : b = false) (hq : q) : if b = true then p else q := by rw [if_neg (by rw [h]; decide)]; exact hq
theorem if_s {b : Bool} {p q : Prop} (hp : b = true → p) (hq : b = false → q) : if b = true then p else q := by cases b; exact if_f rfl (hq rfl); exact if_t rfl (hp rfl)
/-- a field is set; the memory behind it by a name of its own -/
theorem sf_abs {z : D} {M : Mem} {R : Mem → Prop} {p : Nat} {c g : String} {fs fs' : List (String × D)} (h0 : M p = some (.ins c fs)) (h : Nat.blt fs.length 900 = true) (hf : fput fs g z = fs') (q : ∀ M', M' p = some (.ins c fs') → (∀ a, a ≠ p → M' a = M a) → R M') : wSetFld (.ref p) g z M R :=
  sf_ref h0 (by have := h; simp only [Nat.blt_eq] at this; exact this) (q _ (by rw [Mem.set_same, hf]) fun a ha => Mem.set_ne _ _ ha)
theorem lt_pair (a b c d : Int) : D.lt (.tup [.int a, .int b]) (.tup [.int c, .int d]) = if a = c then decide (b < d) else decide (a < c) := by
  simp only [D.lt, D.lts, D.eqv]
  by_cases h1 : a = c <;> by_cases h2 : b = d <;> simp [h1, h2]
/-! ### loops -/
theorem for_inv {J : It} {step : D → Env → Mem → Ends → Prop} {nx : Env → Mem → Prop} {rt : VQ} {bk ct : Env → Mem → Prop} {ex : XQ} (I : Nat → Env → Mem → Prop) {ds : List D} {e : Env} {M : Mem} (hok : ∀ i e M, i ≤ ds.length → I i e M → J.ok M) (h0 : I 0 e M)
    (hs : ∀ i d e M (nx' : Env → Mem → Prop), ds[i]? = some d → I i e M → (∀ e M, I (i + 1) e M → nx' e M) → step d e M ⟨nx', fun v M => rt v (J.fin M), fun e M => nx e (J.fin M), nx', ex⟩)
    (he : ∀ e M, I ds.length e M → nx e (J.fin M)) : forLoop J step ⟨nx, rt, bk, ct, ex⟩ ds e M := by
  have key : ∀ (r : List D) (i : Nat) (e : Env) (M : Mem), ds.drop i = r → i ≤ ds.length → I i e M → forLoop J step ⟨nx, rt, bk, ct, ex⟩ r e M := by
    intro r
    induction r with
    | nil =>
      intro i e M hd hi h
      have : i = ds.length := by
        have := congrArg List.length hd
        rw [List.length_drop] at this
        simp at this; omega
      subst this
      exact ⟨hok _ _ _ hi h, he e M h⟩
    | cons d r ih =>
      intro i e M hd hi h
      have hlt : i < ds.length := by
        have := congrArg List.length hd
        rw [List.length_drop] at this
        simp at this; omega
      have hdi : ds[i]? = some d := by
        have := congrArg List.head? hd
        rw [List.head?_drop] at this
        simpa using this
      have hr : ds.drop (i + 1) = r := by
        rw [← List.drop_drop, hd]; rfl
      exact ⟨hok _ _ _ hi h, hs i d e M _ hdi h (fun e M h => ih (i + 1) e M hr hlt h)⟩
  exact key ds 0 e M rfl (Nat.zero_le _) h0
/-- over what needs no look -/
theorem for_inv0 {step : D → Env → Mem → Ends → Prop} {nx : Env → Mem → Prop} {rt : VQ} {bk ct : Env → Mem → Prop} {ex : XQ} (I : Nat → Env → Mem → Prop) {ds : List D} {e : Env} {M : Mem} (h0 : I 0 e M)
    (hs : ∀ i d e M (nx' : Env → Mem → Prop), ds[i]? = some d → I i e M → (∀ e M, I (i + 1) e M → nx' e M) → step d e M ⟨nx', rt, nx, nx', ex⟩)
    (he : ∀ e M, I ds.length e M → nx e M) : forLoop ⟨ds, fun _ => True, id⟩ step ⟨nx, rt, bk, ct, ex⟩ ds e M :=
  for_inv I (fun _ _ _ _ _ => trivial) h0 hs he
theorem lc_inv {J : It} {step : D → Mem → (Option D → Mem → Prop) → Prop} {Q : List D → Mem → Prop} (I : Nat → List D → Mem → Prop) {ds : List D} {M : Mem} (hok : ∀ i r M, i ≤ ds.length → I i r M → J.ok M) (h0 : I 0 [] M) (hl : ds.length ≤ line)
    (hs : ∀ i d r M (R : Option D → Mem → Prop), ds[i]? = some d → I i r M → (∀ x M, I (i + 1) (r ++ [x]) M → R (some x) M) → (∀ M, I (i + 1) r M → R none M) → step d M R)
    (he : ∀ r M, I ds.length r M → Q r (J.fin M)) : lcLoop J step Q ds [] M := by
  have key : ∀ (l : List D) (i : Nat) (r : List D) (M : Mem), ds.drop i = l → i ≤ ds.length → r.length ≤ i → I i r M → lcLoop J step Q l r M := by
    intro l
    induction l with
    | nil =>
      intro i r M hd hi hr h
      have : i = ds.length := by
        have := congrArg List.length hd
        rw [List.length_drop] at this
        simp at this; omega
      subst this
      exact ⟨hok _ _ _ hi h, he r M h⟩
    | cons d l ih =>
      intro i r M hd hi hr h
      have hlt : i < ds.length := by
        have := congrArg List.length hd
        rw [List.length_drop] at this
        simp at this; omega
      have hdi : ds[i]? = some d := by
        have := congrArg List.head? hd
        rw [List.head?_drop] at this
        simpa using this
      have hr2 : ds.drop (i + 1) = l := by
        rw [← List.drop_drop, hd]; rfl
      refine ⟨hok _ _ _ hi h, hs i d r M _ hdi h (fun x M h => ⟨by omega, ih (i + 1) _ M hr2 hlt (by simp; omega) h⟩) (fun M h => ih (i + 1) _ M hr2 hlt (by omega) h)⟩
  exact key ds 0 [] M rfl (Nat.zero_le _) (Nat.le_refl _) h0
theorem lc_fm {J : It} {step : D → Mem → (Option D → Mem → Prop) → Prop} {Q : List D → Mem → Prop} (g : D → Option D) {ds : List D} {M : Mem} (hok : J.ok M) (hl : ds.length ≤ line)
    (hs : ∀ d (R : Option D → Mem → Prop), d ∈ ds → R (g d) M → step d M R) (he : Q (ds.filterMap g) (J.fin M)) : lcLoop J step Q ds [] M := by
  refine lc_inv (fun i r M' => M' = M ∧ r = (ds.take i).filterMap g) (fun _ _ _ _ h => h.1 ▸ hok) ⟨rfl, by simp⟩ hl (fun i d r M' R hd hI h1 h2 => ?_) (fun r M' hI => ?_)
  · obtain ⟨rfl, rfl⟩ := hI
    have hm : d ∈ ds := List.mem_of_getElem? hd
    have ht : ds.take (i + 1) = ds.take i ++ [d] := by rw [List.take_add_one, hd]; rfl
    refine hs d R hm ?_
    cases hg : g d with
    | none => exact h2 _ ⟨rfl, by rw [ht, List.filterMap_append]; simp [hg]⟩
    | some x => exact h1 _ _ ⟨rfl, by rw [ht, List.filterMap_append]; simp [hg]⟩
  · obtain ⟨rfl, rfl⟩ := hI
    rw [List.take_length]
    exact he
theorem lc_map {J : It} {step : D → Mem → (Option D → Mem → Prop) → Prop} {Q : List D → Mem → Prop} (g : D → D) {ds : List D} {M : Mem} (hok : J.ok M) (hl : ds.length ≤ line)
    (hs : ∀ d (R : Option D → Mem → Prop), d ∈ ds → R (some (g d)) M → step d M R) (he : Q (ds.map g) (J.fin M)) : lcLoop J step Q ds [] M :=
  lc_fm (fun d => some (g d)) hok hl hs (by rw [List.filterMap_eq_map']; exact he)
theorem while_inv {test : Env → Mem → (Bool → Mem → Prop) → Prop} {body : Env → Mem → Ends → Prop} {nx : Env → Mem → Prop} {rt : VQ} {bk ct : Env → Mem → Prop} {ex : XQ} (I : Nat → Env → Mem → Prop) {N : Nat} {e : Env} {M : Mem} (h0 : I N e M)
    (hs : ∀ m e M, I m e M → ∀ (rec : Env → Mem → Prop), (∀ j e M, j < m → I j e M → rec e M) → test e M fun b M => if b = true then body e M ⟨rec, rt, nx, rec, ex⟩ else nx e M) : ∃ n, whileLoop test body ⟨nx, rt, bk, ct, ex⟩ n e M := by
  have key : ∀ n m e M, m < n → I m e M → whileLoop test body ⟨nx, rt, bk, ct, ex⟩ n e M := by
    intro n
    induction n with
    | zero => intro m e M h; omega
    | succ n ih =>
      intro m e M hm h
      exact hs m e M h _ (fun j e M hj hI => ih j e M (by omega) hI)
  exact ⟨N + 1, key _ N e M (Nat.lt_succ_self _) h0⟩
theorem emod_nat {i : Int} {m : Nat} (h : 0 < m) : ∃ k : Nat, k < m ∧ i % (m : Int) = k := by
  have h1 : 0 ≤ i % (m : Int) := Int.emod_nonneg _ (by omega)
  have h2 : i % (m : Int) < m := Int.emod_lt_of_pos _ (by omega)
  exact ⟨(i % (m : Int)).toNat, by omega, by omega⟩
theorem truths_ints {α : Type} (f : α → Int) : ∀ l : List α, truths (l.map fun x => D.int (f x)) = some (l.map fun x => decide (f x ≠ 0))
  | [] => rfl
  | x :: l => by simp [truths, truths_ints f l]
theorem bools_map {α : Type} (f : α → Bool) : ∀ l : List α, bools (l.map fun x => D.bl (f x)) = some (l.map f)
  | [] => rfl
  | x :: l => by simp only [List.map_cons, bools, bools_map f l, Option.map]
theorem all_tr {α : Type} (l : List α) : (l.map fun _ => true).all id = true := by
  rw [List.all_eq_true]; intro x hx; obtain ⟨_, _, rfl⟩ := List.mem_map.mp hx; rfl
/-- all([..]), each True -/
theorem lc_allT {J : It} {step : D → Mem → (Option D → Mem → Prop) → Prop} {Q : List D → Mem → Prop} {ds : List D} {M : Mem} (hok : J.ok M) (hl : ds.length ≤ line)
    (hs : ∀ d (R : Option D → Mem → Prop), d ∈ ds → R (some (.bl true)) M → step d M R) (he : Q (ds.map fun _ => .bl true) (J.fin M)) : lcLoop J step Q ds [] M :=
  lc_map (fun _ => .bl true) hok hl hs he
theorem rangeD_len (i j : Int) : (rangeD i j).length = (j - i).toNat := by simp [rangeD]
theorem rangeD_get {i j : Int} {k : Nat} {d : D} (h : (rangeD i j)[k]? = some d) : k < (j - i).toNat ∧ d = .int (i + k) := by
  unfold rangeD at h
  rw [List.getElem?_map] at h
  cases q : (List.range (j - i).toNat)[k]? with
  | none => rw [q] at h; cases h
  | some u =>
    rw [q] at h
    have hk : k < (j - i).toNat := by
      have := (List.getElem?_eq_some_iff.mp q).1
      simpa using this
    rw [List.getElem?_range hk] at q
    cases q
    exact ⟨hk, (Option.some.inj h).symm⟩
/-- for i in range(n), n a small number -/
theorem ex_rngN {n : Nat} {R : Int → Int → Prop} (h : n < 1000000) (q : R 0 n) : ∃ i j, D.int 0 = .int i ∧ D.int (n : Int) = .int j ∧ (small i ∧ i < 4611686018427387904 ∧ -4611686018427387904 ≤ i ∧ -4611686018427387904 ≤ j ∧ j < 4611686018427387904) ∧ R i j :=
  ⟨0, n, rfl, rfl, ⟨by unfold small; omega, by omega, by omega, by omega, by omega⟩, q⟩
theorem for_rngN {step : D → Env → Mem → Ends → Prop} {nx : Env → Mem → Prop} {rt : VQ} {bk ct : Env → Mem → Prop} {ex : XQ} (I : Nat → Env → Mem → Prop) {n : Nat} {e : Env} {M : Mem} (h0 : I 0 e M)
    (hs : ∀ i e M (nx' : Env → Mem → Prop), i < n → I i e M → (∀ e M, I (i + 1) e M → nx' e M) → step (.int i) e M ⟨nx', rt, nx, nx', ex⟩)
    (he : ∀ e M, I n e M → nx e M) : forLoop ⟨rangeD 0 n, fun _ => True, id⟩ step ⟨nx, rt, bk, ct, ex⟩ (rangeD 0 n) e M := by
  have hl : (rangeD 0 n).length = n := by rw [rangeD_len]; omega
  refine for_inv0 I h0 (fun i d e M nx' hd hI hn => ?_) (fun e M hI => he e M (by rw [hl] at hI; exact hI))
  obtain ⟨h1, rfl⟩ := rangeD_get hd
  have : (0 : Int) + (i : Int) = i := by omega
  rw [this]
  exact hs i e M nx' (by omega) hI hn
theorem atI_some {α : Type} {xs : List α} {i : Nat} {j : Int} {x : α} (h : xs[i]? = some x) (e : j = (i : Int)) : atI xs j = some x := by
  have hi := (List.getElem?_eq_some_iff.mp h).1
  subst e
  unfold atI ixN
  rw [if_pos (by omega), if_pos (by omega)]
  simpa using h
end MP.PL
end
section
/-! PL1: the checks, and kinds that are made of right parts. -/
namespace MP.PL
local macro_rules | `(tactic| trivial) => `(tactic| (repeat (first | ((with_reducible apply e_var); exact rfl; exact rfl) | with_reducible refine s_end ?_ | with_reducible refine s_seq ?_ | with_reducible refine s_callX0 ?_ | with_reducible refine s_callXn ?_ | with_reducible refine s_callXr ?_ | with_reducible refine s_callXp ?_ | with_reducible refine e_con ?_ | with_reducible refine es_cons ?_ | with_reducible refine es_nil ?_ | with_reducible refine s_asg ?_ | with_reducible refine s_ret ?_ | with_reducible refine s_expr ?_ | with_reducible refine s_ife ?_ | with_reducible refine e_call ?_ | with_reducible refine q_of ?_ | with_reducible refine q_fr ?_ | with_reducible refine s_skip ?_ | with_reducible refine e_ix ?_ | with_reducible refine e_bin ?_ | with_reducible refine e_cmp ?_ | with_reducible refine e_and ?_ | with_reducible refine e_or ?_ | with_reducible refine e_not ?_ | with_reducible refine e_fld ?_ | with_reducible refine e_len ?_ | with_reducible refine e_mkl ?_ | with_reducible refine e_tup ?_ | with_reducible refine e_tupq ?_ | with_reducible refine e_ite ?_ | with_reducible refine s_for ?_ | with_reducible refine s_asgt ?_ | with_reducible refine s_asgIx ?_ | with_reducible refine s_asgFld ?_ | with_reducible refine e_chain ?_ | with_reducible refine e_isi ?_ | with_reducible refine e_all ?_ | with_reducible refine e_any ?_ | with_reducible refine e_sum ?_ | with_reducible refine e_least ?_ | with_reducible refine e_most ?_ | with_reducible refine e_inq ?_ | with_reducible refine e_ind ?_ | with_reducible refine e_dget ?_ | with_reducible refine e_dpop ?_ | with_reducible refine e_abs ?_ | with_reducible refine e_int ?_ | with_reducible refine e_make ?_ | with_reducible refine e_pop ?_ | with_reducible refine e_append ?_ | with_reducible refine e_extend ?_ | with_reducible refine e_reverse ?_ | with_reducible refine e_dclear ?_ | with_reducible refine e_lenv ?_ | with_reducible refine e_cut ?_ | with_reducible refine e_neg ?_ | with_reducible refine e_dcomp ?_ | with_reducible refine f_disp ?_ | with_reducible refine f_list ?_ | with_reducible refine f_keys ?_ | with_reducible refine f_sorted ?_ | with_reducible refine f_cat1 ?_ | with_reducible refine f_cat2 ?_ | with_reducible refine f_cut ?_ | with_reducible refine f_rng ?_ | with_reducible refine f_lc ?_ | with_reducible refine ql_of ?_ | with_reducible refine ql_fr ?_ | with_reducible refine i_fr ?_ | with_reducible refine i_of ?_ | with_reducible refine i_live ?_ | with_reducible refine i_rng ?_ | with_reducible refine i_enum ?_ | with_reducible refine i_keys ?_ | with_reducible refine ifs_nil ?_ | with_reducible refine ifs_cons ?_ | with_reducible refine s_brk ?_ | with_reducible refine s_cont ?_ | with_reducible refine sq_tup ?_ | with_reducible refine wo_tup ?_ | with_reducible refine tr_bl ?_ | with_reducible refine tr_int ?_ | with_reducible refine tr_tup ?_ | with_reducible refine tr_non ?_ | with_reducible refine b_add ?_ | with_reducible refine b_sub ?_ | with_reducible refine c_lt ?_ | with_reducible refine c_le ?_ | with_reducible refine c_gt ?_ | with_reducible refine c_ge ?_ | with_reducible refine pt_non ?_ | with_reducible refine pt_int ?_ | with_reducible refine a_int ?_ | with_reducible refine a_abs ?_ | with_reducible refine a_len ?_ | with_reducible refine a_neg ?_ | ((with_reducible apply if_t); exact rfl) | ((with_reducible apply if_f); exact rfl) | ((with_reducible apply ex_bind); exact rfl) | ((with_reducible apply isi_t); exact rfl) | ((with_reducible apply isi_f); exact rfl) | ((with_reducible apply le_line); exact rfl) | ((with_reducible apply x_tup); exact rfl) | ((with_reducible apply x_lst); (first | exact rd_lst (by assumption) | assumption); exact rfl) | ((with_reducible apply b_mod); (first | decide | omega)) | ((with_reducible apply b_div); (first | decide | omega)) | ((with_reducible apply b_mul); (first | exact .inr (by unfold small; omega) | exact .inl (by unfold small; omega))) | ((with_reducible apply b_pow); (first | decide | (unfold small; omega))) | ((with_reducible apply fl_ref); assumption; exact rfl) | ((with_reducible apply a_isL); (first | exact rd_lst (by assumption) | assumption)) | ((with_reducible apply a_isDct); (first | exact rd_dct (by assumption) | assumption)) | ((with_reducible apply sq_ref); (first | exact rd_lst (by assumption) | assumption)) | ((with_reducible apply sql_ref); assumption) | ((with_reducible apply ln_ref); (first | exact rd_lst (by assumption) | assumption)) | ((with_reducible apply ln_dct); (first | exact rd_dct (by assumption) | assumption)) | ((with_reducible apply keys_ref); (first | exact rd_dct (by assumption) | assumption)) | ((with_reducible apply wo_ref); (first | exact rd_lst (by assumption) | assumption)) | ((with_reducible apply ex_live); (first | exact rd_lst (by assumption) | assumption)) | ((with_reducible apply st_C0); exact rfl) | ((with_reducible apply st_C); exact rfl) | ((with_reducible apply st_D0); exact rfl) | ((with_reducible apply st_D); exact rfl) | ((with_reducible apply st_S); exact rfl))))
/-! ### data -/
abbrev dN (n : Nat) : D := .int (n : Int)
def dP (p : Nat × Nat) : D := .tup [dN p.1, dN p.2]
def dNs (l : List Nat) : D := .tup (l.map dN)
def dPs (l : List (Nat × Nat)) : D := .tup (l.map dP)
def dQ (p : Nat × List Nat) : D := .tup [dN p.1, dNs p.2]
def dLooks (l : List (List (Nat × Nat))) : D := .tup (l.map dPs)
def dRows (l : List (List Nat)) : D := .tup (l.map dNs)
def dPuts (l : List (Nat × List Nat)) : D := .tup (l.map dQ)
abbrev Asc (l : List Nat) : Prop := l.Pairwise (· < ·)
def pLt (p q : Nat × Nat) : Prop := p.1 < q.1 ∨ (p.1 = q.1 ∧ p.2 < q.2)
abbrev AscP (l : List (Nat × Nat)) : Prop := l.Pairwise pLt
structure KD where
  looks : List (List (Nat × Nat))
  drifts : List (List Nat)
  puts : List (Nat × List Nat)
def KD.n (k : KD) : Nat := k.looks.length
structure OkLook (n : Nat) (os : List (Nat × Nat)) : Prop where
  l1 : 1 ≤ os.length
  l4 : os.length ≤ 4
  asc : AscP os
  a : ∀ p ∈ os, p.1 ≤ 9
  s : ∀ p ∈ os, p.2 < n
structure OkRow (n : Nat) (r : List Nat) : Prop where
  asc : Asc r
  s : ∀ x ∈ r, x < n
theorem OkRow.len {n : Nat} {r : List Nat} (h : OkRow n r) : r.length ≤ n := by
  have key : ∀ (r : List Nat) (b : Nat), Asc r → (∀ x ∈ r, b ≤ x ∧ x < n) → r.length + b ≤ n ∨ r = [] := by
    intro r
    induction r with
    | nil => intro b _ _; exact .inr rfl
    | cons x r ih =>
      intro b ha hb
      obtain ⟨h1, h2⟩ := List.pairwise_cons.mp ha
      have hx := hb x List.mem_cons_self
      rcases ih (x + 1) h2 fun y hy => ⟨h1 y hy, (hb y (List.mem_cons_of_mem _ hy)).2⟩ with h | h
      · left; simp; omega
      · left; subst h; simp; omega
  rcases key r 0 h.asc fun x hx => ⟨Nat.zero_le _, h.s x hx⟩ with h | h
  · omega
  · subst h; simp
structure KD.Ok (k : KD) : Prop where
  n1 : 1 ≤ k.n
  n8 : k.n ≤ 8
  looks : ∀ os ∈ k.looks, OkLook k.n os
  dl : k.drifts.length = k.n
  drifts : ∀ r ∈ k.drifts, OkRow k.n r
  pl : k.puts.length ≤ 4
  puts : ∀ p ∈ k.puts, p.1 < k.n ∧ OkRow k.n p.2
/-! ### which texts -/
class HInteger (P : Prog) : Prop where
  is_integer : P "is_integer" = some ⟨1, 1, c_is_integer⟩
class HIndex (P : Prog) : Prop extends HInteger P where
  is_index : P "is_index" = some ⟨2, 2, c_is_index⟩
class HKind (P : Prog) : Prop extends HIndex P where
  is_between : P "is_between" = some ⟨3, 3, c_is_between⟩
  is_tuple_of : P "is_tuple_of" = some ⟨3, 3, c_is_tuple_of⟩
  are_ascending : P "are_ascending" = some ⟨1, 2, c_are_ascending⟩
  are_standings : P "are_standings" = some ⟨2, 3, c_are_standings⟩
  is_outcome : P "is_outcome" = some ⟨2, 2, c_is_outcome⟩
  are_outcomes : P "are_outcomes" = some ⟨2, 3, c_are_outcomes⟩
  is_put : P "is_put" = some ⟨2, 2, c_is_put⟩
  check_kind : P "check_kind" = some ⟨3, 7, c_check_kind⟩
  Kind___init__ : P "Kind.__init__" = some ⟨4, 4, c_Kind___init__⟩
section
variable {P : Prog} {n : Nat} {M : Mem} {Q : VQ} {X : XQ}
theorem is_integer_sp [HInteger P] {i : Int} (q : Q (.bl true) M) : callN P (n + 1) "is_integer" [.int i] M Q X := by
  refine call_intro HInteger.is_integer rfl (e := [some (.int i)]) rfl ?_
  unfold c_is_integer
  trivial
  exact q
theorem is_index_sp [HIndex P] {i j : Int} (q : Q (.bl (decide (0 ≤ i ∧ i < j))) M) : callN P (n + 2) "is_index" [.int i, .int j] M Q X := by
  refine call_intro HIndex.is_index rfl (e := [some (.int i), some (.int j)]) rfl ?_
  unfold c_is_index
  trivial
  refine is_integer_sp ?_
  trivial
  refine if_s (fun h => ?_) fun h => ?_
  · trivial
    simpa [of_decide_eq_true h] using q
  · simpa [of_decide_eq_false h] using q
theorem is_between_sp [HKind P] {i j k : Int} (q : Q (.bl (decide (j ≤ i ∧ i ≤ k))) M) : callN P (n + 2) "is_between" [.int i, .int j, .int k] M Q X := by
  refine call_intro HKind.is_between rfl (e := [some (.int i), some (.int j), some (.int k)]) rfl ?_
  unfold c_is_between
  trivial
  refine is_integer_sp ?_
  trivial
  refine if_s (fun h => ?_) fun h => ?_
  · trivial
    simpa [of_decide_eq_true h] using q
  · simpa [of_decide_eq_false h] using q
theorem is_tuple_of_sp [HKind P] {ds : List D} {j k : Int} (q : Q (.bl (decide (j ≤ ds.length ∧ (ds.length : Int) ≤ k))) M) : callN P (n + 1) "is_tuple_of" [.tup ds, .int j, .int k] M Q X := by
  refine call_intro HKind.is_tuple_of rfl (e := [some (.tup ds), some (.int j), some (.int k)]) rfl ?_
  unfold c_is_tuple_of
  trivial
  refine if_s (fun h => ?_) fun h => ?_
  · trivial
    simpa [of_decide_eq_true h] using q
  · simpa [of_decide_eq_false h] using q
theorem are_ascending_sp [HKind P] {ds : List D} (hl : ds.length ≤ 1000) (hc : ∀ i x y, ds[i]? = some x → ds[i + 1]? = some y → (D.alike x y && (D.ok 60 x && D.ok 60 y)) = true ∧ D.lt x y = true) (q : Q (.bl true) M) : callN P (n + 1) "are_ascending" [.tup ds] M Q X := by
  refine call_intro HKind.are_ascending rfl (e := [some (.tup ds), none]) rfl ?_
  unfold c_are_ascending
  trivial
  refine ex_rng ⟨by unfold small; omega, by omega, by omega, by omega, by omega⟩ ?_
  refine lc_allT trivial (by rw [rangeD_len]; unfold line; omega) (fun d R hd hR => ?_) (by refine ⟨_, bools_map (fun _ => true) _, ?_⟩; rw [all_tr]; exact q)
  obtain ⟨i, hi⟩ := List.mem_iff_getElem?.mp hd
  obtain ⟨h1, rfl⟩ := rangeD_get hi
  have h2 : i < ds.length := by omega
  have h3 : i + 1 < ds.length := by omega
  have e1 : ds[i]? = some ds[i] := List.getElem?_eq_getElem h2
  have e2 : ds[i + 1]? = some ds[i + 1] := List.getElem?_eq_getElem h3
  have c := hc i _ _ e1 e2
  trivial
  refine x_tup (atI_some e1 (by omega)) ?_
  trivial
  refine x_tup (atI_some e2 (by omega)) ?_
  refine c_ltd c.1 ?_
  rw [c.2]
  exact hR
theorem asc_hc {r : List Nat} (h : Asc r) : ∀ i x y, (r.map dN)[i]? = some x → (r.map dN)[i + 1]? = some y → (D.alike x y && (D.ok 60 x && D.ok 60 y)) = true ∧ D.lt x y = true := by
  intro i x y hx hy
  rw [List.getElem?_map] at hx hy
  obtain ⟨a, ha, rfl⟩ := Option.map_eq_some_iff.mp hx
  obtain ⟨b, hb, rfl⟩ := Option.map_eq_some_iff.mp hy
  obtain ⟨i1, rfl⟩ := List.getElem?_eq_some_iff.mp ha
  obtain ⟨i2, rfl⟩ := List.getElem?_eq_some_iff.mp hb
  have := List.pairwise_iff_getElem.mp h i (i + 1) i1 i2 (Nat.lt_succ_self _)
  exact ⟨rfl, by simp [D.lt]; omega⟩
theorem ascP_hc {r : List (Nat × Nat)} (h : AscP r) : ∀ i x y, (r.map dP)[i]? = some x → (r.map dP)[i + 1]? = some y → (D.alike x y && (D.ok 60 x && D.ok 60 y)) = true ∧ D.lt x y = true := by
  intro i x y hx hy
  rw [List.getElem?_map] at hx hy
  obtain ⟨a, ha, rfl⟩ := Option.map_eq_some_iff.mp hx
  obtain ⟨b, hb, rfl⟩ := Option.map_eq_some_iff.mp hy
  obtain ⟨i1, rfl⟩ := List.getElem?_eq_some_iff.mp ha
  obtain ⟨i2, rfl⟩ := List.getElem?_eq_some_iff.mp hb
  have := List.pairwise_iff_getElem.mp h i (i + 1) i1 i2 (Nat.lt_succ_self _)
  refine ⟨rfl, ?_⟩
  rw [dP, dP, lt_pair]
  rcases this with h | ⟨h1, h2⟩
  · rw [if_neg (by omega), decide_eq_true (by omega)]
  · rw [if_pos (by omega), decide_eq_true (by omega)]
theorem are_standings_sp [HKind P] {r : List Nat} {m : Nat} (h : OkRow m r) (hm : m ≤ 900) (q : Q (.bl true) M) : callN P (n + 3) "are_standings" [dNs r, dN m] M Q X := by
  refine call_intro HKind.are_standings rfl (e := [some (dNs r), some (dN m), none]) rfl ?_
  unfold c_are_standings
  have hl : (r.map dN).length ≤ 1000 := by have := h.len; simp; omega
  unfold dNs
  trivial
  refine lc_allT trivial ?_ (fun d R hd hR => ?_) ?_
  · show List.length (List.map _ _) ≤ line
    unfold line; omega
  · obtain ⟨x, hx, rfl⟩ := List.mem_map.mp hd
    trivial
    refine is_index_sp ?_
    rw [decide_eq_true (by have := h.s x hx; omega)]
    exact hR
  · refine ⟨_, bools_map (fun _ => true) _, ?_⟩; rw [all_tr]
    trivial
    exact are_ascending_sp hl (asc_hc h.asc) q
theorem is_outcome_sp [HKind P] {p : Nat × Nat} {m : Nat} (h1 : p.1 ≤ 9) (h2 : p.2 < m) (q : Q (.bl true) M) : callN P (n + 3) "is_outcome" [dP p, dN m] M Q X := by
  refine call_intro HKind.is_outcome rfl (e := [some (dP p), some (dN m)]) rfl ?_
  unfold c_is_outcome dP
  trivial
  refine is_tuple_of_sp ?_
  trivial
  refine is_between_sp ?_
  rw [decide_eq_true (by omega)]
  trivial
  refine is_index_sp ?_
  rw [decide_eq_true (by omega)]
  exact q
theorem are_outcomes_sp [HKind P] {os : List (Nat × Nat)} {m : Nat} (h : OkLook m os) (q : Q (.bl true) M) : callN P (n + 4) "are_outcomes" [dPs os, dN m] M Q X := by
  refine call_intro HKind.are_outcomes rfl (e := [some (dPs os), some (dN m), none]) rfl ?_
  unfold c_are_outcomes
  have hl : (os.map dP).length ≤ 4 := by have := h.l4; simpa using this
  have hl1 : 1 ≤ (os.map dP).length := by have := h.l1; simpa using this
  unfold dPs
  trivial
  refine is_tuple_of_sp ?_
  rw [decide_eq_true (by omega)]
  trivial
  refine lc_allT trivial ?_ (fun d R hd hR => ?_) ?_
  · show List.length (List.map _ _) ≤ line
    unfold line; omega
  · obtain ⟨x, hx, rfl⟩ := List.mem_map.mp hd
    trivial
    exact is_outcome_sp (h.a x hx) (h.s x hx) hR
  · refine ⟨_, bools_map (fun _ => true) _, ?_⟩; rw [all_tr]
    trivial
    exact are_ascending_sp (by omega) (ascP_hc h.asc) q
theorem is_put_sp [HKind P] {p : Nat × List Nat} {m : Nat} (h1 : p.1 < m) (h2 : OkRow m p.2) (hm : m ≤ 900) (q : Q (.bl true) M) : callN P (n + 4) "is_put" [dQ p, dN m] M Q X := by
  refine call_intro HKind.is_put rfl (e := [some (dQ p), some (dN m)]) rfl ?_
  unfold c_is_put dQ
  trivial
  refine is_tuple_of_sp ?_
  trivial
  refine is_index_sp ?_
  rw [decide_eq_true (by omega)]
  trivial
  exact are_standings_sp h2 hm q
theorem check_kind_sp [HKind P] {k : KD} (h : k.Ok) (q : Q .non M) : callN P (n + 5) "check_kind" [dLooks k.looks, dRows k.drifts, dPuts k.puts] M Q X := by
  refine call_intro HKind.check_kind rfl (e := [some (dLooks k.looks), some (dRows k.drifts), some (dPuts k.puts), none, none, none, none]) rfl ?_
  unfold c_check_kind
  have n1 := h.n1
  have n8 := h.n8
  have e1 : (k.looks.map dPs).length = k.n := List.length_map _
  have e2 : (k.drifts.map dNs).length = k.n := by rw [List.length_map, h.dl]
  have e3 : (k.puts.map dQ).length ≤ 4 := by rw [List.length_map]; exact h.pl
  unfold dLooks dRows dPuts
  trivial
  refine is_tuple_of_sp ?_
  rw [decide_eq_true (by omega)]
  trivial
  rw [e1]
  refine lc_allT trivial ?_ (fun d R hd hR => ?_) ?_
  · show List.length (List.map _ _) ≤ line
    unfold line; omega
  · obtain ⟨x, hx, rfl⟩ := List.mem_map.mp hd
    trivial
    exact are_outcomes_sp (h.looks x hx) hR
  refine ⟨_, bools_map (fun _ => true) _, ?_⟩; rw [all_tr]
  trivial
  refine is_tuple_of_sp ?_
  rw [decide_eq_true (by omega)]
  trivial
  refine lc_allT trivial ?_ (fun d R hd hR => ?_) ?_
  · show List.length (List.map _ _) ≤ line
    unfold line; omega
  · obtain ⟨x, hx, rfl⟩ := List.mem_map.mp hd
    trivial
    exact are_standings_sp (h.drifts x hx) (by omega) hR
  refine ⟨_, bools_map (fun _ => true) _, ?_⟩; rw [all_tr]
  trivial
  refine is_tuple_of_sp ?_
  rw [decide_eq_true (by omega)]
  trivial
  refine lc_allT trivial ?_ (fun d R hd hR => ?_) ?_
  · show List.length (List.map _ _) ≤ line
    unfold line; omega
  · obtain ⟨x, hx, rfl⟩ := List.mem_map.mp hd
    trivial
    exact is_put_sp (h.puts x hx).1 (h.puts x hx).2 (by omega) hR
  refine ⟨_, bools_map (fun _ => true) _, ?_⟩; rw [all_tr]
  trivial
  exact q
def kindFs (k : KD) (c : Nat) : List (String × D) := [("kept_looks", dLooks k.looks), ("kept_drifts", dRows k.drifts), ("kept_puts", dPuts k.puts), ("looks", dLooks k.looks), ("drifts", dRows k.drifts), ("puts", dPuts k.puts), ("size", dN k.n), ("kept_facts", .ref c)]
theorem kind_init_sp [HKind P] {k : KD} (h : k.Ok) {p : Nat} (hp : M p = some (.ins "Kind" [])) (q : ∀ c M', c ≠ p → M c = none → M' p = some (.ins "Kind" (kindFs k c)) → M' c = some (.dct []) → Fr (· = p) M M' → Q .non M') : callN P (n + 6) "Kind.__init__" [.ref p, dLooks k.looks, dRows k.drifts, dPuts k.puts] M Q X := by
  refine call_intro HKind.Kind___init__ rfl (e := [some (.ref p), some (dLooks k.looks), some (dRows k.drifts), some (dPuts k.puts)]) rfl ?_
  unfold c_Kind___init__
  trivial
  refine check_kind_sp h ?_
  trivial
  refine sf_abs hp rfl rfl fun M1 h1 n1 => ?_
  trivial
  refine sf_abs h1 rfl rfl fun M2 h2 n2 => ?_
  trivial
  refine sf_abs h2 rfl rfl fun M3 h3 n3 => ?_
  trivial
  refine sf_abs h3 rfl rfl fun M4 h4 n4 => ?_
  trivial
  refine sf_abs h4 rfl rfl fun M5 h5 n5 => ?_
  trivial
  refine sf_abs h5 rfl rfl fun M6 h6 n6 => ?_
  unfold dLooks
  trivial
  refine sf_abs h6 rfl rfl fun M7 h7 n7 => ?_
  trivial
  refine e_dnew0 fun c hc => ?_
  trivial
  have cp : c ≠ p := fun z => by rw [z, h7] at hc; cases hc
  refine sf_abs ((Mem.set_ne _ _ (Ne.symm cp)).trans h7) rfl rfl fun M8 h8 n8 => ?_
  trivial
  have old : ∀ a, a ≠ p → M7 a = M a := fun a ha => by rw [n7 a ha, n6 a ha, n5 a ha, n4 a ha, n3 a ha, n2 a ha, n1 a ha]
  refine q c _ cp ((old c cp).symm.trans hc) ?_ (by rw [n8 c cp, Mem.set_same]) fun a o ha e => ?_
  · rw [h8, List.length_map]; rfl
  · have ac : a ≠ c := fun z => by rw [← z, old a ha, e] at hc; cases hc
    rw [n8 a ha, Mem.set_ne _ _ ac, old a ha]
    exact e
end
end MP.PL
end
section
/-! PL2: dicts of keys alone, sorting, the draws from a pool. -/
namespace MP.PL
local macro_rules | `(tactic| trivial) => `(tactic| (repeat (first | ((with_reducible apply e_var); exact rfl; exact rfl) | with_reducible refine s_end ?_ | with_reducible refine s_seq ?_ | with_reducible refine s_callX0 ?_ | with_reducible refine s_callXn ?_ | with_reducible refine s_callXr ?_ | with_reducible refine s_callXp ?_ | with_reducible refine e_con ?_ | with_reducible refine es_cons ?_ | with_reducible refine es_nil ?_ | with_reducible refine s_asg ?_ | with_reducible refine s_ret ?_ | with_reducible refine s_expr ?_ | with_reducible refine s_ife ?_ | with_reducible refine e_call ?_ | with_reducible refine q_of ?_ | with_reducible refine q_fr ?_ | with_reducible refine s_skip ?_ | with_reducible refine e_ix ?_ | with_reducible refine e_bin ?_ | with_reducible refine e_cmp ?_ | with_reducible refine e_and ?_ | with_reducible refine e_or ?_ | with_reducible refine e_not ?_ | with_reducible refine e_fld ?_ | with_reducible refine e_len ?_ | with_reducible refine e_mkl ?_ | with_reducible refine e_tup ?_ | with_reducible refine e_tupq ?_ | with_reducible refine e_ite ?_ | with_reducible refine s_for ?_ | with_reducible refine s_asgt ?_ | with_reducible refine s_asgIx ?_ | with_reducible refine s_asgFld ?_ | with_reducible refine e_chain ?_ | with_reducible refine e_isi ?_ | with_reducible refine e_all ?_ | with_reducible refine e_any ?_ | with_reducible refine e_sum ?_ | with_reducible refine e_least ?_ | with_reducible refine e_most ?_ | with_reducible refine e_inq ?_ | with_reducible refine e_ind ?_ | with_reducible refine e_dget ?_ | with_reducible refine e_dpop ?_ | with_reducible refine e_abs ?_ | with_reducible refine e_int ?_ | with_reducible refine e_make ?_ | with_reducible refine e_pop ?_ | with_reducible refine e_append ?_ | with_reducible refine e_extend ?_ | with_reducible refine e_reverse ?_ | with_reducible refine e_dclear ?_ | with_reducible refine e_lenv ?_ | with_reducible refine e_cut ?_ | with_reducible refine e_neg ?_ | with_reducible refine e_dcomp ?_ | with_reducible refine f_disp ?_ | with_reducible refine f_list ?_ | with_reducible refine f_keys ?_ | with_reducible refine f_sorted ?_ | with_reducible refine f_cat1 ?_ | with_reducible refine f_cat2 ?_ | with_reducible refine f_cut ?_ | with_reducible refine f_rng ?_ | with_reducible refine f_lc ?_ | with_reducible refine ql_of ?_ | with_reducible refine ql_fr ?_ | with_reducible refine i_fr ?_ | with_reducible refine i_of ?_ | with_reducible refine i_live ?_ | with_reducible refine i_rng ?_ | with_reducible refine i_enum ?_ | with_reducible refine i_keys ?_ | with_reducible refine ifs_nil ?_ | with_reducible refine ifs_cons ?_ | with_reducible refine s_brk ?_ | with_reducible refine s_cont ?_ | with_reducible refine sq_tup ?_ | with_reducible refine wo_tup ?_ | with_reducible refine tr_bl ?_ | with_reducible refine tr_int ?_ | with_reducible refine tr_tup ?_ | with_reducible refine tr_non ?_ | with_reducible refine b_add ?_ | with_reducible refine b_sub ?_ | with_reducible refine c_lt ?_ | with_reducible refine c_le ?_ | with_reducible refine c_gt ?_ | with_reducible refine c_ge ?_ | with_reducible refine pt_non ?_ | with_reducible refine pt_int ?_ | with_reducible refine a_int ?_ | with_reducible refine a_abs ?_ | with_reducible refine a_len ?_ | with_reducible refine a_neg ?_ | ((with_reducible apply if_t); exact rfl) | ((with_reducible apply if_f); exact rfl) | ((with_reducible apply ex_bind); exact rfl) | ((with_reducible apply isi_t); exact rfl) | ((with_reducible apply isi_f); exact rfl) | ((with_reducible apply le_line); exact rfl) | ((with_reducible apply x_tup); exact rfl) | ((with_reducible apply x_lst); (first | exact rd_lst (by assumption) | assumption); exact rfl) | ((with_reducible apply b_mod); (first | decide | omega)) | ((with_reducible apply b_div); (first | decide | omega)) | ((with_reducible apply b_mul); (first | exact .inr (by unfold small; omega) | exact .inl (by unfold small; omega))) | ((with_reducible apply b_pow); (first | decide | (unfold small; omega))) | ((with_reducible apply fl_ref); assumption; exact rfl) | ((with_reducible apply a_isL); (first | exact rd_lst (by assumption) | assumption)) | ((with_reducible apply a_isDct); (first | exact rd_dct (by assumption) | assumption)) | ((with_reducible apply sq_ref); (first | exact rd_lst (by assumption) | assumption)) | ((with_reducible apply sql_ref); assumption) | ((with_reducible apply ln_ref); (first | exact rd_lst (by assumption) | assumption)) | ((with_reducible apply ln_dct); (first | exact rd_dct (by assumption) | assumption)) | ((with_reducible apply keys_ref); (first | exact rd_dct (by assumption) | assumption)) | ((with_reducible apply wo_ref); (first | exact rd_lst (by assumption) | assumption)) | ((with_reducible apply ex_live); (first | exact rd_lst (by assumption) | assumption)) | ((with_reducible apply st_C0); exact rfl) | ((with_reducible apply st_C); exact rfl) | ((with_reducible apply st_D0); exact rfl) | ((with_reducible apply st_D); exact rfl) | ((with_reducible apply st_S); exact rfl))))
/-! ### what is put in once -/
def ins {α : Type} [DecidableEq α] (l : List α) (x : α) : List α := if x ∈ l then l else l ++ [x]
section
variable {α : Type} [DecidableEq α] {f : α → D}
def dset (f : α → D) (l : List α) : List (D × D) := l.map fun x => (f x, D.bl true)
theorem dset_len (l : List α) : (dset f l).length = l.length := List.length_map _
theorem dset_keys (l : List α) : (dset f l).map (·.1) = l.map f := by simp [dset]
theorem dset_put (hf : ∀ x y, f x = f y → x = y) (x : α) : ∀ l : List α, put (dset f l) (f x) (.bl true) = dset f (ins l x)
  | [] => by simp [dset, put, ins]
  | y :: l => by
    have ih := dset_put hf x l
    simp only [dset, List.map_cons, put]
    by_cases h : f y = f x
    · have e := hf _ _ h
      subst e
      rw [if_pos rfl]
      simp [ins]
    · rw [if_neg h]
      unfold dset at ih
      rw [ih]
      have n : x ≠ y := fun e => h (by rw [e])
      by_cases hm : x ∈ l
      · simp [ins, hm]
      · simp [ins, hm, n]
theorem ins_mem {l : List α} {x y : α} : y ∈ ins l x ↔ y ∈ l ∨ y = x := by
  unfold ins; split
  · constructor
    · exact .inl
    · rintro (h | rfl); exact h; assumption
  · simp
theorem ins_nodup {l : List α} {x : α} (h : l.Nodup) : (ins l x).Nodup := by
  unfold ins; split
  · exact h
  · rename_i n
    rw [List.nodup_append]
    refine ⟨h, by simp, ?_⟩
    intro a ha b hb e
    simp at hb
    subst hb e
    exact n ha
theorem ins_len {l : List α} {x : α} : (ins l x).length ≤ l.length + 1 := by unfold ins; split <;> simp
theorem ins_len1 {l : List α} {x : α} : 1 ≤ (ins l x).length := by
  have : x ∈ ins l x := ins_mem.mpr (.inr rfl)
  exact List.length_pos_of_mem this
end
theorem dN_inj {x y : Nat} (h : dN x = dN y) : x = y := by injection h with h; omega
theorem dP_inj {x y : Nat × Nat} (h : dP x = dP y) : x = y := by
  unfold dP at h
  injection h with h
  injection h with h1 h2
  injection h2 with h2 _
  exact Prod.ext (dN_inj h1) (dN_inj h2)
/-! ### sorting -/
def leP (x y : Nat × Nat) : Bool := decide (x.1 < y.1) || (decide (x.1 = y.1) && decide (x.2 ≤ y.2))
def sortN (l : List Nat) : List Nat := l.mergeSort (fun x y => decide (x ≤ y))
def sortP (l : List (Nat × Nat)) : List (Nat × Nat) := l.mergeSort leP
theorem le_dN (x y : Nat) : D.le (dN x) (dN y) = decide (x ≤ y) := by
  simp only [D.le, D.lt]
  by_cases h : x ≤ y
  · rw [decide_eq_true h, decide_eq_false (by omega)]; rfl
  · rw [decide_eq_false h, decide_eq_true (by omega)]; rfl
theorem le_dP (x y : Nat × Nat) : D.le (dP x) (dP y) = leP x y := by
  unfold D.le dP leP
  rw [lt_pair]
  by_cases h : y.1 = x.1
  · rw [if_pos (by omega)]
    by_cases h2 : y.2 < x.2
    · rw [decide_eq_true (by omega), decide_eq_false (by omega : ¬ x.1 < y.1), decide_eq_false (by omega : ¬ x.2 ≤ y.2)]; simp
    · rw [decide_eq_false (by omega), decide_eq_true (by omega : x.1 = y.1), decide_eq_true (by omega : x.2 ≤ y.2)]; simp
  · rw [if_neg (by omega)]
    by_cases h2 : y.1 < x.1
    · rw [decide_eq_true (by omega), decide_eq_false (by omega : ¬ x.1 < y.1), decide_eq_false (by omega : ¬ x.1 = y.1)]; simp
    · rw [decide_eq_false (by omega), decide_eq_true (by omega : x.1 < y.1)]; simp
theorem sortD_N (l : List Nat) : sortD (l.map dN) = (sortN l).map dN := by
  unfold sortD sortN
  exact (List.map_mergeSort (fun a _ b _ => (le_dN a b).symm)).symm
theorem sortD_P (l : List (Nat × Nat)) : sortD (l.map dP) = (sortP l).map dP := by
  unfold sortD sortP
  exact (List.map_mergeSort (fun a _ b _ => (le_dP a b).symm)).symm
theorem oks_map {α : Type} {f : α → D} {n : Nat} (h : ∀ x, D.ok n (f x) = true) : ∀ l : List α, D.oks n (l.map f) = true
  | [] => by simp [D.oks]
  | x :: l => by simp [D.oks, h x, oks_map h l]
theorem srt_N (l : List Nat) : srt (l.map dN) = true := by
  unfold srt
  rw [oks_map (fun _ => by simp [D.ok]) l]
  simp [List.all_eq_true, D.alike]
theorem srt_P (l : List (Nat × Nat)) : srt (l.map dP) = true := by
  unfold srt
  rw [oks_map (fun _ => by simp [D.ok, D.oks, dP]) l]
  simp [List.all_eq_true, D.alike, D.alikes, dP]
theorem sortN_perm (l : List Nat) : (sortN l).Perm l := List.mergeSort_perm _ _
theorem sortP_perm (l : List (Nat × Nat)) : (sortP l).Perm l := List.mergeSort_perm _ _
theorem sortN_mem {l : List Nat} {x : Nat} : x ∈ sortN l ↔ x ∈ l := (sortN_perm l).mem_iff
theorem sortP_mem {l : List (Nat × Nat)} {x : Nat × Nat} : x ∈ sortP l ↔ x ∈ l := (sortP_perm l).mem_iff
theorem sortN_asc {l : List Nat} (h : l.Nodup) : Asc (sortN l) := by
  have s : (sortN l).Pairwise (fun x y => decide (x ≤ y) = true) := List.pairwise_mergeSort (by intro a b c; simp; omega) (by intro a b; simp; omega) l
  have nd : (sortN l).Nodup := (sortN_perm l).nodup_iff.mpr h
  exact (s.and nd).imp fun {a b} ⟨h1, h2⟩ => by simp at h1; omega
theorem sortP_asc {l : List (Nat × Nat)} (h : l.Nodup) : AscP (sortP l) := by
  have s : (sortP l).Pairwise (fun x y => leP x y = true) := List.pairwise_mergeSort (by intro a b c; unfold leP; simp; omega) (by intro a b; unfold leP; simp; omega) l
  have nd : (sortP l).Nodup := (sortP_perm l).nodup_iff.mpr h
  refine (s.and nd).imp fun {a b} ⟨h1, h2⟩ => ?_
  unfold leP at h1
  unfold pLt
  simp at h1
  have : a.1 = b.1 → a.2 ≠ b.2 := fun e1 e2 => h2 (Prod.ext e1 e2)
  omega
/-- two ascending lists of the same members are one -/
theorem asc_ext {l m : List Nat} (h1 : Asc l) (h2 : Asc m) (h : ∀ x, x ∈ l ↔ x ∈ m) : l = m :=
  List.Perm.eq_of_pairwise (fun a b _ _ h3 h4 => by omega) h1 h2 ((List.perm_ext_iff_of_nodup (h1.imp fun h => by omega) (h2.imp fun h => by omega)).mpr h)
/-! ### the pool -/
structure Pool (p : Nat) (M : Mem) : Prop where
  ex : ∃ (g s : Nat) (gl sl : List Int) (cur cnt : Int), M p = some (.lst [.ref g, .ref s, .int cur, .int cnt]) ∧ M g = some (.lst (gl.map .int)) ∧ M s = some (.lst (sl.map .int)) ∧ g ≠ p ∧ s ≠ p
/-- the addresses of a pool -/
def PF (M : Mem) (p a : Nat) : Prop := a = p ∨ ∃ g s x y, M p = some (.lst [.ref g, .ref s, x, y]) ∧ (a = g ∨ a = s)
structure Drawn (p : Nat) (M0 M : Mem) : Prop where
  pool : Pool p M
  fr : Fr (· = p) M0 M
  pf : ∀ r, M0 r ≠ none → ¬ PF M0 p r → ¬ PF M p r
theorem Drawn.refl {p : Nat} {M : Mem} (h : Pool p M) : Drawn p M M := ⟨h, .refl, fun _ _ h => h⟩
theorem Drawn.trans {p : Nat} {M M1 M2 : Mem} (a : Drawn p M M1) (b : Drawn p M1 M2) : Drawn p M M2 :=
  ⟨b.pool, a.fr.trans b.fr, fun r h1 h2 => by
    refine b.pf r (fun z => ?_) (a.pf r h1 h2)
    have hr : r ≠ p := fun e => h2 (.inl e)
    cases q : M r with
    | none => exact h1 q
    | some o => rw [a.fr r o hr q] at z; cases z⟩
theorem Pool.at {p : Nat} {M : Mem} (h : Pool p M) : M p ≠ none := by obtain ⟨g, s, gl, sl, c, k, e, _⟩ := h.ex; rw [e]; simp
theorem Drawn.has {p : Nat} {M M1 : Mem} (a : Drawn p M M1) {r : Nat} {o : MO} (h : M r = some o) (n : ¬ PF M p r) : M1 r = some o := a.fr r o (fun e => n (.inl e)) h
theorem PF.not_new {p r : Nat} {M : Mem} (h : Pool p M) (hr : M r = none) : ¬ PF M p r := by
  obtain ⟨g, s, gl, sl, c, k, e, e1, e2, _⟩ := h.ex
  rintro (z | ⟨g', s', x, y, z, z2⟩)
  · rw [z, e] at hr; cases hr
  · rw [e] at z
    cases z
    rcases z2 with z2 | z2
    · rw [z2, e1] at hr; cases hr
    · rw [z2, e2] at hr; cases hr
/-- a place that the pool has not is set -/
theorem Drawn.put {p r : Nat} {M M1 : Mem} {o : MO} (a : Drawn p M M1) (h0 : M r = none) (h : ¬ PF M1 p r) : Drawn p M (M1.set r o) := by
  have hr : r ≠ p := fun e => h (.inl e)
  obtain ⟨g, s, gl, sl, c, k, e, e1, e2, n1, n2⟩ := a.pool.ex
  have hg : g ≠ r := fun z => h (.inr ⟨g, s, _, _, e, .inl z.symm⟩)
  have hs : s ≠ r := fun z => h (.inr ⟨g, s, _, _, e, .inr z.symm⟩)
  refine ⟨⟨g, s, gl, sl, c, k, (Mem.set_ne _ _ (Ne.symm hr)).trans e, (Mem.set_ne _ _ hg).trans e1, (Mem.set_ne _ _ hs).trans e2, n1, n2⟩, fun b u hb e => ?_, fun b hb n z => a.pf b hb n ?_⟩
  · have : b ≠ r := fun z => by rw [z, h0] at e; cases e
    rw [Mem.set_ne _ _ this]
    exact a.fr b u hb e
  · unfold PF at z ⊢
    rw [Mem.set_ne _ _ (Ne.symm hr)] at z
    exact z
theorem Drawn.new {p r : Nat} {M M1 : Mem} {o : MO} (a : Drawn p M M1) (h : M1 r = none) : Drawn p M (M1.set r o) := by
  refine a.put ?_ (PF.not_new a.pool h)
  cases q : M r with
  | none => rfl
  | some u =>
    have hr : r ≠ p := fun e => a.pool.at (by rw [← e]; exact h)
    rw [a.fr r u hr q] at h
    cases h
theorem Drawn.back {p r : Nat} {M M1 : Mem} (a : Drawn p M M1) (h : M1 r = none) : M r = none := by
  cases q : M r with
  | none => rfl
  | some u =>
    have hr : r ≠ p := fun e => a.pool.at (by rw [← e]; exact h)
    rw [a.fr r u hr q] at h
    cases h
/-- what stands beside the pool stands beside it behind draws -/
structure By (p r : Nat) (o : MO) (M : Mem) : Prop where
  at_ : M r = some o
  by_ : ¬ PF M p r
theorem By.step {p r : Nat} {o : MO} {M M1 : Mem} (b : By p r o M) (d : Drawn p M M1) : By p r o M1 := ⟨d.has b.at_ b.by_, d.pf r (by rw [b.at_]; simp) b.by_⟩
theorem By.new {p r : Nat} {o : MO} {M : Mem} (h : Pool p M) (hr : M r = none) : By p r o (M.set r o) := by
  refine ⟨Mem.set_same _ _ _, fun z => PF.not_new h hr ?_⟩
  have hp : p ≠ r := fun e => h.at (by rw [e]; exact hr)
  unfold PF at z ⊢
  rw [Mem.set_ne _ _ hp] at z
  exact z
theorem By.other {p r q : Nat} {o u : MO} {M : Mem} (b : By p r o M) (hq : q ≠ r) (hp : q ≠ p) : By p r o (M.set q u) := by
  refine ⟨(Mem.set_ne _ _ (Ne.symm hq)).trans b.at_, fun z => b.by_ ?_⟩
  unfold PF at z ⊢
  rw [Mem.set_ne _ _ (Ne.symm hp)] at z
  exact z
theorem By.alloc {p r q : Nat} {o u : MO} {M : Mem} (b : By p r o M) (hP : Pool p M) (h : M q = none) : By p r o (M.set q u) :=
  b.other (Ne.symm (ne_of h b.at_)) fun e => hP.at (by rw [← e]; exact h)
theorem By.set {p r : Nat} {o u : MO} {M : Mem} (b : By p r o M) : By p r u (M.set r u) := by
  refine ⟨Mem.set_same _ _ _, fun z => b.by_ ?_⟩
  have hp : p ≠ r := fun e => b.by_ (.inl e.symm)
  unfold PF at z ⊢
  rw [Mem.set_ne _ _ hp] at z
  exact z
class HPool (P : Prog) : Prop where
  _law_pool : P "_law_pool" = some ⟨1, 4, c__law_pool_97b3⟩
  _law_draw : P "_law_draw" = some ⟨2, 5, c__law_draw_7ad0⟩
  _law_pick : P "_law_pick" = some ⟨2, 2, c__law_pick_1ba9⟩
section
variable {P : Prog} {n : Nat} {M : Mem} {Q : VQ} {X : XQ}
theorem pool_sp [HPool P] {a : Nat} {ns : List Int} (h : M.rd a = some (.lst (ns.map .int))) (hl : ns.length ≤ 63) (q : ∀ p M', M p = none → Pool p M' → Fr no M M' → (∀ r, M r ≠ none → ¬ PF M' p r) → Q (.ref p) M') : callN P (n + 1) "_law_pool" [.ref a] M Q X := by
  refine call_intro HPool._law_pool rfl (e := [some (.ref a), none, none, none]) rfl ?_
  unfold c__law_pool_97b3
  trivial
  have e63 : bnd (ns.map D.int).length (ns.map D.int).length (.int 63) = some (ns.map D.int).length := by
    simp only [bnd]
    rw [if_neg (by omega)]
    have : (63 : Int).toNat = 63 := rfl
    rw [this, List.length_map, Nat.min_eq_right hl]
  have it : ∀ (φ : CallSem) (c : CE) (op : Cmp) (hop : op = .ge ∨ op = .lt) (hc : ∀ (x : Int) (e : Env) (M : Mem) (R : Option D → Mem → Prop), get e 3 = some (.int x) → (∀ y : Int, R (some (.int y)) M) → wE φ c e M (fun x M => R (some x) M) noX) (e : Env) (he : e.length = 4) (M : Mem) (Q : List D → Mem → Prop), (∀ l : List Int, Q (l.map .int) M) →
      lcLoop ⟨ns.map D.int, fun _ => True, id⟩ (stepC φ (.name 3) (.cons (.cmp op (.abs (.var 3)) (.bin .pow (.con (.int 10)) (.con (.int 18)))) .nil) c e) Q (ns.map D.int) [] M := by
    intro φ c op hop hc e he M Q hQ
    refine lc_inv (fun _ r M' => M' = M ∧ ∃ l : List Int, r = l.map .int) (fun _ _ _ _ _ => trivial) ⟨rfl, [], rfl⟩ (by rw [List.length_map]; unfold line; omega) (fun i d r M' R hd hI h1 h2 => ?_) (fun r M' hI => ?_)
    · obtain ⟨rfl, l, rfl⟩ := hI
      obtain ⟨x, hx, rfl⟩ := List.mem_map.mp (List.mem_of_getElem? hd)
      match e, he with
      | [e0, e1, e2, e3], _ =>
        have key : ∀ b : Bool, wTruth (.bl b) M' fun k M => if k = true then wIfs φ .nil [e0, e1, e2, some (.int x)] M (fun b M => if b = true then wE φ c [e0, e1, e2, some (.int x)] M (fun x M => R (some x) M) noX else R none M) noX else (fun b M => if b = true then wE φ c [e0, e1, e2, some (.int x)] M (fun x M => R (some x) M) noX else R none M) false M := by
          intro b
          trivial
          refine if_s (fun _ => ?_) fun _ => ?_
          · trivial
            refine hc x _ M' R rfl fun y => h1 _ _ ⟨rfl, l ++ [y], by simp⟩
          · refine if_f rfl ?_
            exact h2 _ ⟨rfl, l, rfl⟩
        rcases hop with rfl | rfl
        · trivial
          exact key _
        · trivial
          exact key _
    · obtain ⟨rfl, l, rfl⟩ := hI
      exact hQ l
  refine cl_ref h rfl e63 ?_
  rw [cutL_all]
  refine it _ _ .ge (.inl rfl) (fun x e M R he hR => ?_) _ rfl _ _ fun gl => ?_
  · refine e_abs (e_var he rfl ?_)
    trivial
    exact hR _
  trivial
  refine wn fun g hg => ?_
  trivial
  have ha : (M.set g (.lst (gl.map .int))).rd a = some (.lst (ns.map .int)) := by
    have : a ≠ g := fun z => by rw [z] at h; unfold Mem.rd at h; rw [hg] at h; cases h
    unfold Mem.rd at h ⊢
    rw [Mem.set_ne _ _ this]
    exact h
  refine cl_ref ha rfl e63 ?_
  rw [cutL_all]
  refine it _ _ .lt (.inr rfl) (fun x e M R he hR => ?_) _ rfl _ _ fun sl => ?_
  · refine e_bin (e_int (e_var he rfl ?_))
    trivial
    exact hR _
  trivial
  refine wn fun s hs => ?_
  trivial
  refine wn fun p hp => ?_
  have gs : g ≠ s := ne_of hs (Mem.set_same _ _ _)
  have sp : s ≠ p := ne_of hp (Mem.set_same _ _ _)
  have gp : g ≠ p := fun z => by rw [← z, Mem.set_ne _ _ gs, Mem.set_same] at hp; cases hp
  have hp0 : M p = none := by rw [Mem.set_ne _ _ (Ne.symm sp), Mem.set_ne _ _ (Ne.symm gp)] at hp; exact hp
  have hs0 : M s = none := by rw [Mem.set_ne _ _ (Ne.symm gs)] at hs; exact hs
  have hP : ∀ a, a ≠ p → a ≠ s → a ≠ g → (((M.set g (.lst (gl.map .int))).set s (.lst (sl.map .int))).set p (.lst [.ref g, .ref s, .int 0, .int 0])) a = M a := fun a h1 h2 h3 => by rw [Mem.set_ne _ _ h1, Mem.set_ne _ _ h2, Mem.set_ne _ _ h3]
  refine q p _ hp0 ⟨g, s, gl, sl, 0, 0, Mem.set_same _ _ _, ?_, ?_, gp, sp⟩ (fun b o _ hb => ?_) fun r hr z => ?_
  · rw [Mem.set_ne _ _ gp, Mem.set_ne _ _ gs, Mem.set_same]
  · rw [Mem.set_ne _ _ sp, Mem.set_same]
  · rw [hP b (fun z => by rw [z, hp0] at hb; cases hb) (fun z => by rw [z, hs0] at hb; cases hb) fun z => by rw [z, hg] at hb; cases hb]
    exact hb
  · rcases z with z | ⟨g', s', x, y, z, z2⟩
    · rw [z, hp0] at hr; exact hr rfl
    · rw [Mem.set_same] at z
      cases z
      rcases z2 with z2 | z2
      · rw [z2, hg] at hr; exact hr rfl
      · rw [z2, hs0] at hr; exact hr rfl
theorem draw_sp [HPool P] {p m : Nat} (hP : Pool p M) (hm : 0 < m) (hm2 : m < 1000000) (q : ∀ (k : Nat) M', k < m → Drawn p M M' → Q (dN k) M') : callN P (n + 1) "_law_draw" [.ref p, dN m] M Q X := by
  refine call_intro HPool._law_draw rfl (e := [some (.ref p), some (dN m), none, none, none]) rfl ?_
  unfold c__law_draw_7ad0
  refine s_cutJ (fun e M' => e = [some (.ref p), some (dN m), none, none, none] ∧ Drawn p M M') (fun e M' hI => ?_) (fun nx' hnx => ?_)
  · obtain ⟨rfl, hd⟩ := hI
    obtain ⟨g, s, gl, sl, cur, cnt, h1, h2, h3, n1, n2⟩ := hd.pool.ex
    have upd : ∀ (cur cnt : Int), Drawn p M (M'.set p (.lst [.ref g, .ref s, .int cur, .int cnt])) := fun cur cnt => by
      refine ⟨⟨g, s, gl, sl, cur, cnt, Mem.set_same _ _ _, (Mem.set_ne _ _ n1).trans h2, (Mem.set_ne _ _ n2).trans h3, n1, n2⟩, hd.fr.trans (.set rfl), fun r hr n z => hd.pf r hr n ?_⟩
      rcases z with z | ⟨g', s', x, y, z, z2⟩
      · exact .inl z
      · rw [Mem.set_same] at z; cases z
        exact .inr ⟨g, s, _, _, h1, z2⟩
    trivial
    refine if_s (fun hc => ?_) fun hc => ?_
    · trivial
      refine si_lst (j := 2) (m := 2) h1 rfl ?_
      trivial
      obtain ⟨k, hk, e⟩ := emod_nat (i := cur) hm
      rw [e]
      exact q k _ hk (upd _ _)
    trivial
    refine si_lst (j := 3) h1 rfl ?_
    have h1' : (M'.set p (.lst [.ref g, .ref s, .int cur, .int (cnt + 1)])) p = some (.lst [.ref g, .ref s, .int cur, .int (cnt + 1)]) := Mem.set_same _ _ _
    have h3' : (M'.set p (.lst [.ref g, .ref s, .int cur, .int (cnt + 1)])) s = some (.lst (sl.map .int)) := (Mem.set_ne _ _ n2).trans h3
    have hD := upd cur (cnt + 1)
    simp only [List.set_cons_succ, List.set_cons_zero]
    generalize (M'.set p (.lst [.ref g, .ref s, .int cur, .int (cnt + 1)])) = M2 at h1' h3' hD ⊢
    refine s_seq (s_asg (e_con ?_))
    refine s_cutJ (fun e M => M = M2 ∧ ∃ c : Int, e = [some (.ref p), some (dN m), none, some (.int c), none]) (fun e M' hI => ?_) (fun nx' hnx => ?_)
    · obtain ⟨rfl, c, rfl⟩ := hI
      trivial
      obtain ⟨k, hk, e⟩ := emod_nat (m := m) hm
      rw [e]
      exact q k _ hk hD
    · trivial
      refine if_s (fun hc => ?_) fun hc => ?_
      · trivial
        have hlen : 0 < (sl.map D.int).length := by have := of_decide_eq_true hc; omega
        refine b_mod (by omega) ?_
        obtain ⟨k, hk, e⟩ := emod_nat (i := cnt + 1) hlen
        rw [e]
        rw [List.length_map] at hk
        refine x_lst (rd_lst h3') (atI_some (i := k) (x := .int sl[k]) (by rw [List.getElem?_map, List.getElem?_eq_getElem hk]; rfl) rfl) ?_
        trivial
        exact hnx _ _ ⟨rfl, _, rfl⟩
      · trivial
        exact hnx _ _ ⟨rfl, _, rfl⟩
  · obtain ⟨g, s, gl, sl, cur, cnt, h1, h2, h3, n1, n2⟩ := hP.ex
    trivial
    have skip : nx' [some (.ref p), some (dN m), none, none, none] M := hnx _ _ ⟨rfl, .refl hP⟩
    refine if_s (fun hc => ?_) fun hc => ?_
    · trivial
      refine if_s (fun hc => ?_) fun hc => ?_
      · cases gl with
        | nil => simp at hc
        | cons g0 gl =>
          trivial
          refine x_lst (rd_lst h2) (atI_some (i := 0) (x := .int g0) rfl rfl) ?_
          trivial
          refine si_lst (j := 2) (m := 2) h1 rfl ?_
          have h1' : (M.set p (.lst [.ref g, .ref s, .int g0, .int cnt])) p = some (.lst [.ref g, .ref s, .int g0, .int cnt]) := Mem.set_same _ _ _
          have h2' : (M.set p (.lst [.ref g, .ref s, .int g0, .int cnt])) g = some (.lst ((g0 :: gl).map .int)) := (Mem.set_ne _ _ n1).trans h2
          simp only [List.set_cons_succ, List.set_cons_zero]
          trivial
          refine cl_ref (i := 1) (j := (g0 :: gl).length) (rd_lst h2') (by simp [bnd]) (by simp [bnd]) ?_
          have e : cutL ((g0 :: gl).map D.int) 1 (g0 :: gl).length = gl.map .int := by simp [cutL, List.take_of_length_le]
          rw [e]
          refine wn fun g' hg' => ?_
          have pg : p ≠ g' := ne_of hg' h1'
          trivial
          refine si_lst (j := 0) ((Mem.set_ne _ _ pg).trans h1') rfl ?_
          refine hnx _ _ ⟨rfl, ?_, ?_, ?_⟩
          · refine ⟨g', s, gl, sl, g0, cnt, Mem.set_same _ _ _, ?_, ?_, Ne.symm pg, n2⟩
            · rw [Mem.set_ne _ _ (Ne.symm pg), Mem.set_same]
            · have sg : s ≠ g' := fun z => by rw [← z, Mem.set_ne _ _ n2, h3] at hg'; cases hg'
              rw [Mem.set_ne _ _ n2, Mem.set_ne _ _ sg, Mem.set_ne _ _ n2]
              exact h3
          · exact Fr.trans (.set rfl) (.trans (.new hg') (.set rfl))
          · intro r hr n z
            rcases z with z | ⟨g2, s2, x, y, z, z2⟩
            · exact n (.inl z)
            · rw [Mem.set_same] at z
              cases z
              rcases z2 with z2 | z2
              · have : r ≠ p := fun e => n (.inl e)
                rw [← z2, Mem.set_ne _ _ this] at hg'
                exact hr hg'
              · exact n (.inr ⟨g, s, _, _, h1, .inr z2⟩)
      · exact skip
    · exact if_f hc skip
theorem pick_sp [HPool P] {p : Nat} {ds : List D} {r : Nat} (hP : Pool p M) (hr : M r = some (.lst ds)) (hn : ¬ PF M p r) (hl : 0 < ds.length) (hl2 : ds.length < 1000000) (q : ∀ d M', d ∈ ds → Drawn p M M' → Q d M') : callN P (n + 2) "_law_pick" [.ref p, .ref r] M Q X := by
  refine call_intro HPool._law_pick rfl (e := [some (.ref p), some (.ref r)]) rfl ?_
  unfold c__law_pick_1ba9
  trivial
  refine draw_sp hP hl hl2 fun k M' hk hd => ?_
  refine x_lst (rd_lst (hd.has hr hn)) (atI_some (i := k) (List.getElem?_eq_getElem hk) rfl) ?_
  exact q _ _ (List.getElem_mem hk) hd
/-- from a new list of numbers -/
theorem pickN_sp [HPool P] {p : Nat} {ns : List Nat} (hP : Pool p M) (hl : 0 < ns.length) (hl2 : ns.length < 1000000) (q : ∀ k M', k ∈ ns → Drawn p M M' → Q (dN k) M') (r : Nat) (hr : M r = none) : callN P (n + 2) "_law_pick" [.ref p, .ref r] (M.set r (.lst (ns.map dN))) Q X := by
  have b := By.new (o := .lst (ns.map dN)) hP hr
  have d0 := (Drawn.refl hP).new (o := .lst (ns.map dN)) hr
  refine pick_sp d0.pool b.at_ b.by_ (by rw [List.length_map]; exact hl) (by rw [List.length_map]; exact hl2) fun d M' hd hD => ?_
  obtain ⟨k, hk, rfl⟩ := List.mem_map.mp hd
  exact q k M' hk (d0.trans hD)
end
end MP.PL
end
section
/-! PL3: a drawn kind's parts; what comes. -/
namespace MP.PL
local macro_rules | `(tactic| trivial) => `(tactic| (repeat (first | ((with_reducible apply e_var); exact rfl; exact rfl) | with_reducible refine s_end ?_ | with_reducible refine s_seq ?_ | with_reducible refine s_callX0 ?_ | with_reducible refine s_callXn ?_ | with_reducible refine s_callXr ?_ | with_reducible refine s_callXp ?_ | with_reducible refine e_con ?_ | with_reducible refine es_cons ?_ | with_reducible refine es_nil ?_ | with_reducible refine s_asg ?_ | with_reducible refine s_ret ?_ | with_reducible refine s_expr ?_ | with_reducible refine s_ife ?_ | with_reducible refine e_call ?_ | with_reducible refine q_of ?_ | with_reducible refine q_fr ?_ | with_reducible refine s_skip ?_ | with_reducible refine e_ix ?_ | with_reducible refine e_bin ?_ | with_reducible refine e_cmp ?_ | with_reducible refine e_and ?_ | with_reducible refine e_or ?_ | with_reducible refine e_not ?_ | with_reducible refine e_fld ?_ | with_reducible refine e_len ?_ | with_reducible refine e_mkl ?_ | with_reducible refine e_tup ?_ | with_reducible refine e_tupq ?_ | with_reducible refine e_ite ?_ | with_reducible refine s_for ?_ | with_reducible refine s_asgt ?_ | with_reducible refine s_asgIx ?_ | with_reducible refine s_asgFld ?_ | with_reducible refine e_chain ?_ | with_reducible refine e_isi ?_ | with_reducible refine e_all ?_ | with_reducible refine e_any ?_ | with_reducible refine e_sum ?_ | with_reducible refine e_least ?_ | with_reducible refine e_most ?_ | with_reducible refine e_inq ?_ | with_reducible refine e_ind ?_ | with_reducible refine e_dget ?_ | with_reducible refine e_dpop ?_ | with_reducible refine e_abs ?_ | with_reducible refine e_int ?_ | with_reducible refine e_make ?_ | with_reducible refine e_pop ?_ | with_reducible refine e_append ?_ | with_reducible refine e_extend ?_ | with_reducible refine e_reverse ?_ | with_reducible refine e_dclear ?_ | with_reducible refine e_lenv ?_ | with_reducible refine e_cut ?_ | with_reducible refine e_neg ?_ | with_reducible refine e_dcomp ?_ | with_reducible refine f_disp ?_ | with_reducible refine f_list ?_ | with_reducible refine f_keys ?_ | with_reducible refine f_sorted ?_ | with_reducible refine f_cat1 ?_ | with_reducible refine f_cat2 ?_ | with_reducible refine f_cut ?_ | with_reducible refine f_rng ?_ | with_reducible refine f_lc ?_ | with_reducible refine ql_of ?_ | with_reducible refine ql_fr ?_ | with_reducible refine i_fr ?_ | with_reducible refine i_of ?_ | with_reducible refine i_live ?_ | with_reducible refine i_rng ?_ | with_reducible refine i_enum ?_ | with_reducible refine i_keys ?_ | with_reducible refine ifs_nil ?_ | with_reducible refine ifs_cons ?_ | with_reducible refine s_brk ?_ | with_reducible refine s_cont ?_ | with_reducible refine sq_tup ?_ | with_reducible refine wo_tup ?_ | with_reducible refine tr_bl ?_ | with_reducible refine tr_int ?_ | with_reducible refine tr_tup ?_ | with_reducible refine tr_non ?_ | with_reducible refine b_add ?_ | with_reducible refine b_sub ?_ | with_reducible refine c_lt ?_ | with_reducible refine c_le ?_ | with_reducible refine c_gt ?_ | with_reducible refine c_ge ?_ | with_reducible refine pt_non ?_ | with_reducible refine pt_int ?_ | with_reducible refine a_int ?_ | with_reducible refine a_abs ?_ | with_reducible refine a_len ?_ | with_reducible refine a_neg ?_ | ((with_reducible apply if_t); exact rfl) | ((with_reducible apply if_f); exact rfl) | ((with_reducible apply ex_bind); exact rfl) | ((with_reducible apply isi_t); exact rfl) | ((with_reducible apply isi_f); exact rfl) | ((with_reducible apply le_line); exact rfl) | ((with_reducible apply x_tup); exact rfl) | ((with_reducible apply x_lst); (first | exact rd_lst (by assumption) | assumption); exact rfl) | ((with_reducible apply b_mod); (first | decide | omega)) | ((with_reducible apply b_div); (first | decide | omega)) | ((with_reducible apply b_mul); (first | exact .inr (by unfold small; omega) | exact .inl (by unfold small; omega))) | ((with_reducible apply b_pow); (first | decide | (unfold small; omega))) | ((with_reducible apply fl_ref); assumption; exact rfl) | ((with_reducible apply a_isL); (first | exact rd_lst (by assumption) | assumption)) | ((with_reducible apply a_isDct); (first | exact rd_dct (by assumption) | assumption)) | ((with_reducible apply sq_ref); (first | exact rd_lst (by assumption) | assumption)) | ((with_reducible apply sql_ref); assumption) | ((with_reducible apply ln_ref); (first | exact rd_lst (by assumption) | assumption)) | ((with_reducible apply ln_dct); (first | exact rd_dct (by assumption) | assumption)) | ((with_reducible apply keys_ref); (first | exact rd_dct (by assumption) | assumption)) | ((with_reducible apply wo_ref); (first | exact rd_lst (by assumption) | assumption)) | ((with_reducible apply ex_live); (first | exact rd_lst (by assumption) | assumption)) | ((with_reducible apply st_C0); exact rfl) | ((with_reducible apply st_C); exact rfl) | ((with_reducible apply st_D0); exact rfl) | ((with_reducible apply st_D); exact rfl) | ((with_reducible apply st_S); exact rfl))))
class HParts (P : Prog) : Prop extends HPool P where
  _law_kind_parts : P "_law_kind_parts" = some ⟨2, 12, c__law_kind_parts_ee62⟩
section
variable {P : Prog} {n : Nat} {M : Mem} {Q : VQ} {X : XQ}
theorem parts_sp [HParts P] {p : Nat} {st : Bool} (hP : Pool p M) (q : ∀ (k : KD) r M', k.Ok → (st = true → (∀ os ∈ k.looks, os.length = 1) ∧ ∀ r ∈ k.drifts, r = []) → Drawn p M M' → M' r = some (.lst [dLooks k.looks, dRows k.drifts, dPuts k.puts]) → Q (.ref r) M') : callN P (n + 3) "_law_kind_parts" [.ref p, .bl st] M Q X := by
  refine call_intro HParts._law_kind_parts rfl (e := [some (.ref p), some (.bl st), none, none, none, none, none, none, none, none, none, none]) rfl ?_
  unfold c__law_kind_parts_ee62
  trivial
  refine wn fun r1 hr1 => ?_
  trivial
  refine pickN_sp (ns := [1, 2, 2, 3, 3, 4, 5, 8]) hP (by decide) (by decide) (fun many M1 hmany d1 => ?_) r1 hr1
  trivial
  refine wn fun r2 hr2 => ?_
  trivial
  refine pickN_sp (ns := [1, 2, 2, 3, 10]) d1.pool (by decide) (by decide) (fun ans M2 hans d2 => ?_) r2 hr2
  replace d2 := d1.trans d2
  trivial
  refine wn fun rl hrl => ?_
  trivial
  refine wn fun rd hrd => ?_
  have hm8 : 1 ≤ many ∧ many ≤ 8 := by simp at hmany; omega
  have ha10 : 1 ≤ ans ∧ ans ≤ 10 := by simp at hans; omega
  have nl : rl ≠ rd := ne_of hrd (Mem.set_same _ _ _)
  have hl0 : M rl = none := d2.back hrl
  have hd0 : M rd = none := by
    have := (d2.new (o := .lst []) hrl).back hrd
    exact this
  have D3 := (d2.new (o := .lst []) hrl).new (o := .lst []) hrd
  have Bl := (By.new (o := .lst []) d2.pool hrl).alloc (u := .lst []) (d2.new (o := .lst []) hrl).pool hrd
  have Bd := By.new (o := .lst []) (d2.new (o := .lst []) hrl).pool hrd
  generalize ((M2.set rl (.lst [])).set rd (.lst [])) = M3 at D3 Bl Bd ⊢
  refine s_cutJ (fun e M' => ∃ a6 a7 a8 a9, e = [some (.ref p), some (.bl st), some (dN many), some (dN ans), some (.ref rl), some (.ref rd), a6, a7, a8, a9, none, none] ∧ Drawn p M M' ∧ ∃ (L : List (List (Nat × Nat))) (R : List (List Nat)), By p rl (.lst (L.map dPs)) M' ∧ By p rd (.lst (R.map dNs)) M' ∧ L.length = many ∧ R.length = many ∧ (∀ os ∈ L, OkLook many os) ∧ (∀ r ∈ R, OkRow many r) ∧ (st = true → (∀ os ∈ L, os.length = 1) ∧ ∀ r ∈ R, r = [])) (fun e M' hI => ?_) (fun nx' hnx => ?_)
  · obtain ⟨a6, a7, a8, a9, rfl, d4, L, R, bl, bd, lL, lR, oL, oR, hst⟩ := hI
    trivial
    refine wn fun rp hrp => ?_
    have hp0 : M rp = none := d4.back hrp
    have bp := By.new (o := .lst []) d4.pool hrp
    have lr : rl ≠ rp := ne_of hrp bl.at_
    have dr : rd ≠ rp := ne_of hrp bd.at_
    replace bl := bl.alloc (u := .lst []) d4.pool hrp
    replace bd := bd.alloc (u := .lst []) d4.pool hrp
    replace d4 := d4.new (o := .lst []) hrp
    generalize M'.set rp (.lst []) = M5 at bp bl bd d4 ⊢
    trivial
    refine wn fun r3 hr3 => ?_
    trivial
    refine pickN_sp (ns := [0, 0, 1, 2, 4]) d4.pool (by decide) (by decide) (fun t M6 ht d6 => ?_) r3 hr3
    have t4 : t ≤ 4 := by simp at ht; omega
    refine ex_rngN (by omega) ?_
    refine for_rngN (fun i e M' => ∃ a6 a8 a11, e = [some (.ref p), some (.bl st), some (dN many), some (dN ans), some (.ref rl), some (.ref rd), a6, a7, a8, a9, some (.ref rp), a11] ∧ Drawn p M M' ∧ By p rl (.lst (L.map dPs)) M' ∧ By p rd (.lst (R.map dNs)) M' ∧ ∃ (U : List (Nat × List Nat)), By p rp (.lst (U.map dQ)) M' ∧ U.length = i ∧ (∀ u ∈ U, u.1 < many ∧ OkRow many u.2)) ?_ ?_ ?_
    · exact ⟨_, _, _, rfl, d4.trans d6, bl.step d6, bd.step d6, [], bp.step d6, rfl, fun _ h => nomatch h⟩
    · intro i e M7 nx2 hi hI hn2
      obtain ⟨a6, a8, a11, rfl, d7, bl, bd, U, bp, lU, oU⟩ := hI
      refine st_S rfl ?_
      trivial
      refine ex_rngN (by omega) ?_
      refine lc_inv (fun j r M' => Drawn p M7 M' ∧ ∃ w : List Nat, r = w.map dN ∧ Asc w ∧ ∀ x ∈ w, x < j) (fun _ _ _ _ _ => trivial) ⟨.refl d7.pool, [], rfl, .nil, fun _ h => nomatch h⟩ (by rw [rangeD_len]; unfold line; omega) (fun j d r M8 R hd hI h1 h2 => ?_) (fun r M8 hI => ?_)
      · obtain ⟨d8, w, rfl, aw, ow⟩ := hI
        obtain ⟨hj, rfl⟩ := rangeD_get hd
        have z : (0 : Int) + (j : Int) = j := by omega
        rw [z]
        trivial
        refine draw_sp (m := 3) d8.pool (by decide) (by decide) fun x M9 hx d9 => ?_
        trivial
        refine c_eq (eqD_dat rfl rfl) ?_
        trivial
        refine if_s (fun h => ?_) fun h => ?_
        · trivial
          refine h1 _ _ ⟨d8.trans d9, w ++ [j], by simp, ?_, fun y hy => ?_⟩
          · refine List.pairwise_append.mpr ⟨aw, List.pairwise_singleton .., fun a ha b hb => ?_⟩
            simp at hb; subst hb
            exact ow a ha
          · rcases List.mem_append.mp hy with hy | hy
            · have := ow y hy; omega
            · simp at hy; omega
        · refine if_f rfl ?_
          exact h2 _ ⟨d8.trans d9, w, rfl, aw, fun y hy => by have := ow y hy; omega⟩
      · obtain ⟨d8, w, rfl, aw, ow⟩ := hI
        rw [rangeD_len] at ow
        trivial
        refine wn fun rt hrt => ?_
        have bt := By.new (o := .lst (w.map dN)) d8.pool hrt
        have d9 := d8.new (o := .lst (w.map dN)) hrt
        trivial
        refine a_isL (rd_lst ((bp.step d9).at_)) ?_
        trivial
        refine draw_sp d9.pool (by omega) (by omega) fun x M10 hx d10 => ?_
        replace d9 := d9.trans d10
        replace bt := bt.step d10
        trivial
        refine sq_ref (rd_lst bt.at_) ?_
        trivial
        replace bp := bp.step d9
        refine ap_ref bp.at_ (by rw [List.length_map]; unfold line; omega) ?_
        have e : (U.map dQ ++ [.tup [dN x, .tup (w.map dN)]]) = (U ++ [(x, w)]).map dQ := by simp [dQ, dNs]
        rw [e]
        have rpp : rp ≠ p := fun z => bp.by_ (.inl z)
        refine hn2 _ _ ⟨_, _, _, rfl, (d7.trans d9).put hp0 bp.by_, (bl.step d9).other (Ne.symm lr) rpp, (bd.step d9).other (Ne.symm dr) rpp, U ++ [(x, w)], bp.set, by simp [lU], fun u hu => ?_⟩
        rcases List.mem_append.mp hu with hu | hu
        · exact oU u hu
        · simp at hu; subst hu
          exact ⟨hx, aw, fun y hy => by have := ow y hy; omega⟩
    · intro e M7 hI
      obtain ⟨a6, a8, a11, rfl, d7, bl, bd, U, bp, lU, oU⟩ := hI
      have f1 := bl.at_
      have f2 := bd.at_
      have f3 := bp.at_
      trivial
      refine wn fun rr hrr => ?_
      refine q ⟨L, R, U⟩ rr _ ⟨by show 1 ≤ L.length; omega, by show L.length ≤ 8; omega, ?_, by show R.length = L.length; omega, ?_, by show U.length ≤ 4; omega, ?_⟩ hst (d7.new hrr) (Mem.set_same _ _ _)
      · intro os ho; have := oL os ho; rw [← lL] at this; exact this
      · intro r hr; have := oR r hr; rw [← lL] at this; exact this
      · intro u hu; have := oU u hu; rw [← lL] at this; exact this
  · trivial
    refine ex_rngN (by omega) ?_
    refine for_rngN (fun i e M' => ∃ a6 a7 a8 a9, e = [some (.ref p), some (.bl st), some (dN many), some (dN ans), some (.ref rl), some (.ref rd), a6, a7, a8, a9, none, none] ∧ Drawn p M M' ∧ ∃ (L : List (List (Nat × Nat))) (R : List (List Nat)), By p rl (.lst (L.map dPs)) M' ∧ By p rd (.lst (R.map dNs)) M' ∧ L.length = i ∧ R.length = i ∧ (∀ os ∈ L, OkLook many os) ∧ (∀ r ∈ R, OkRow many r) ∧ (st = true → (∀ os ∈ L, os.length = 1) ∧ ∀ r ∈ R, r = [])) ?_ ?_ ?_
    · exact ⟨_, _, _, _, rfl, D3, [], [], Bl, Bd, rfl, rfl, (fun _ h => nomatch h), (fun _ h => nomatch h), fun _ => ⟨(fun _ h => nomatch h), (fun _ h => nomatch h)⟩⟩
    · intro i e M4 nx2 hi hI hn2
      obtain ⟨a6, a7, a8, a9, rfl, d4, L, R, bl, bd, lL, lR, oL, oR, hst⟩ := hI
      refine st_S rfl ?_
      refine s_seq (s_asg (e_dnew0 fun ro hro => ?_))
      have bo := By.new (o := .dct []) d4.pool hro
      have e5 : Drawn p M4 (M4.set ro (.dct [])) := (Drawn.refl d4.pool).new hro
      generalize M4.set ro (.dct []) = M5 at bo e5 ⊢
      refine s_cutJ (fun e M' => ∃ a8, e = [some (.ref p), some (.bl st), some (dN many), some (dN ans), some (.ref rl), some (.ref rd), some (dN i), some (.ref ro), a8, a9, none, none] ∧ Drawn p M4 M' ∧ ∃ l : List (Nat × Nat), By p ro (.dct (dset dP l)) M' ∧ l.Nodup ∧ 1 ≤ l.length ∧ l.length ≤ 4 ∧ (st = true → l.length = 1) ∧ ∀ x ∈ l, x.1 < ans ∧ x.2 < many) (fun e M' hI => ?_) (fun nx3 hn3 => ?_)
      · obtain ⟨a8, rfl, e6, l, bo, nd, l1, l4, ls, lo⟩ := hI
        have f1 := bo.at_
        have bl6 := bl.step e6
        have bd6 := bd.step e6
        have f2 := bl6.at_
        trivial
        rw [dset_keys]
        refine ⟨srt_P l, ?_⟩
        rw [sortD_P]
        refine ap_ref f2 (by rw [List.length_map]; unfold line; omega) ?_
        have e : (L.map dPs ++ [.tup ((sortP l).map dP)]) = (L ++ [sortP l]).map dPs := by simp [dPs]
        rw [e]
        have olk : OkLook many (sortP l) := by
          have lp := (sortP_perm l).length_eq
          refine ⟨by omega, by omega, sortP_asc nd, fun x hx => ?_, fun x hx => ?_⟩
          · have := lo x (sortP_mem.mp hx); omega
          · exact (lo x (sortP_mem.mp hx)).2
        have rlp : rl ≠ p := fun z => bl.by_ (.inl z)
        have D7 : Drawn p M (M'.set rl (.lst ((L ++ [sortP l]).map dPs))) := (d4.trans e6).put hl0 bl6.by_
        replace bl6 := bl6.set (u := .lst ((L ++ [sortP l]).map dPs))
        replace bd6 := bd6.other (u := .lst ((L ++ [sortP l]).map dPs)) nl rlp
        generalize M'.set rl (.lst ((L ++ [sortP l]).map dPs)) = M7 at D7 bl6 bd6 ⊢
        refine s_seq (s_asg (e_dnew0 fun ro2 hro2 => ?_))
        have bo2 := By.new (o := .dct []) D7.pool hro2
        have e7 : Drawn p M7 (M7.set ro2 (.dct [])) := (Drawn.refl D7.pool).new hro2
        generalize M7.set ro2 (.dct []) = M8 at bo2 e7 ⊢
        have hlL : ∀ os ∈ L ++ [sortP l], OkLook many os := fun os ho => by
          rcases List.mem_append.mp ho with ho | ho
          · exact oL os ho
          · simp at ho; subst ho; exact olk
        have hsL : st = true → ∀ os ∈ L ++ [sortP l], os.length = 1 := fun h os ho => by
          rcases List.mem_append.mp ho with ho | ho
          · exact (hst h).1 os ho
          · simp at ho; subst ho; rw [(sortP_perm l).length_eq]; exact ls h
        refine s_cutJ (fun e M' => ∃ a8, e = [some (.ref p), some (.bl st), some (dN many), some (dN ans), some (.ref rl), some (.ref rd), some (dN i), some (.ref ro), a8, some (.ref ro2), none, none] ∧ Drawn p M7 M' ∧ ∃ l : List Nat, By p ro2 (.dct (dset dN l)) M' ∧ l.Nodup ∧ l.length ≤ 2 ∧ (st = true → l.length = 0) ∧ ∀ x ∈ l, x < many) (fun e M' hI => ?_) (fun nx3 hn3 => ?_)
        · obtain ⟨a8, rfl, e8, w, bo, nd, l4, ls, lo⟩ := hI
          have f1 := bo.at_
          have bl8 := bl6.step e8
          have bd8 := bd6.step e8
          have f2 := bd8.at_
          trivial
          rw [dset_keys]
          refine ⟨srt_N w, ?_⟩
          rw [sortD_N]
          refine ap_ref f2 (by rw [List.length_map]; unfold line; omega) ?_
          have e : (R.map dNs ++ [.tup ((sortN w).map dN)]) = (R ++ [sortN w]).map dNs := by simp [dNs]
          rw [e]
          have rdp : rd ≠ p := fun z => bd.by_ (.inl z)
          refine hn2 _ _ ⟨_, _, _, _, rfl, (D7.trans e8).put hd0 bd8.by_, L ++ [sortP l], R ++ [sortN w], bl8.other (Ne.symm nl) rdp, bd8.set, by simp [lL], by simp [lR], hlL, fun r hr => ?_, fun h => ⟨hsL h, fun r hr => ?_⟩⟩
          · rcases List.mem_append.mp hr with hr | hr
            · exact oR r hr
            · simp at hr; subst hr
              exact ⟨sortN_asc nd, fun x hx => lo x (sortN_mem.mp hx)⟩
          · rcases List.mem_append.mp hr with hr | hr
            · exact (hst h).2 r hr
            · simp at hr; subst hr
              have := ls h
              have e := (sortN_perm w).length_eq
              exact List.eq_nil_of_length_eq_zero (by omega)
        · refine s_for (i_rng (e_con (e_J (fun x M' => ∃ t : Nat, x = dN t ∧ t ≤ 2 ∧ (st = true → t = 0) ∧ Drawn p M7 M' ∧ By p ro2 (.dct []) M') (fun x M' hI => ?_) (fun Q' hQ => ?_))))
          · obtain ⟨t, rfl, t2, ts, e8, bo⟩ := hI
            refine ex_rngN (by omega) ?_
            refine for_rngN (fun j e M' => ∃ a8, e = [some (.ref p), some (.bl st), some (dN many), some (dN ans), some (.ref rl), some (.ref rd), some (dN i), some (.ref ro), a8, some (.ref ro2), none, none] ∧ Drawn p M7 M' ∧ ∃ l : List Nat, By p ro2 (.dct (dset dN l)) M' ∧ l.Nodup ∧ l.length ≤ j ∧ ∀ x ∈ l, x < many) ?_ ?_ ?_
            · exact ⟨_, rfl, e8, [], bo, .nil, by simp, fun _ h => nomatch h⟩
            · intro j e M9 nx4 hj hI hn4
              obtain ⟨a8, rfl, e9, w, bo, nd, l4, lo⟩ := hI
              refine st_S rfl ?_
              trivial
              refine draw_sp e9.pool (by omega) (by omega) fun x M10 hx e10 => ?_
              have bo := bo.step e10
              refine si_dct bo.at_ rfl (by rw [dset_len]; unfold line; omega) ?_
              rw [dset_put (fun _ _ => dN_inj)]
              refine hn4 _ _ ⟨_, rfl, (e9.trans e10).put hro2 bo.by_, ins w x, bo.set, ins_nodup nd, by have := @ins_len _ _ w x; omega, fun z hz => ?_⟩
              rcases ins_mem.mp hz with h | rfl
              · exact lo z h
              · exact hx
            · intro e M' hI
              obtain ⟨a8, rfl, e9, w, bo, nd, l4, lo⟩ := hI
              exact hn3 _ _ ⟨_, rfl, e9, w, bo, nd, by omega, fun h => by have := ts h; omega, lo⟩
          · trivial
            refine if_s (fun h => ?_) fun h => ?_
            · trivial
              exact hQ _ _ ⟨0, rfl, by omega, fun _ => rfl, e7, bo2⟩
            · trivial
              refine wn fun r3 hr3 => ?_
              trivial
              refine pickN_sp (ns := [0, 0, 0, 1, 2]) e7.pool (by decide) (by decide) (fun t M9 ht d9 => ?_) r3 hr3
              exact hQ _ _ ⟨t, rfl, by simp at ht; omega, fun z => (by rw [z] at h; cases h), e7.trans d9, bo2.step d9⟩
      · refine s_for (i_rng (e_con (e_J (fun x M' => ∃ t : Nat, x = dN t ∧ 1 ≤ t ∧ t ≤ 4 ∧ (st = true → t = 1) ∧ Drawn p M4 M' ∧ By p ro (.dct []) M') (fun x M' hI => ?_) (fun Q' hQ => ?_))))
        · obtain ⟨t, rfl, t1, t4, ts, e6, bo⟩ := hI
          refine ex_rngN (by omega) ?_
          refine for_rngN (fun j e M' => ∃ a8, e = [some (.ref p), some (.bl st), some (dN many), some (dN ans), some (.ref rl), some (.ref rd), some (dN i), some (.ref ro), a8, a9, none, none] ∧ Drawn p M4 M' ∧ ∃ l : List (Nat × Nat), By p ro (.dct (dset dP l)) M' ∧ l.Nodup ∧ (1 ≤ j → 1 ≤ l.length) ∧ l.length ≤ j ∧ ∀ x ∈ l, x.1 < ans ∧ x.2 < many) ?_ ?_ ?_
          · exact ⟨_, rfl, e6, [], bo, .nil, by omega, by simp, fun _ h => nomatch h⟩
          · intro j e M7 nx4 hj hI hn4
            obtain ⟨a8, rfl, e7, l, bo, nd, l1, l4, lo⟩ := hI
            refine st_S rfl ?_
            trivial
            refine draw_sp e7.pool (by omega) (by omega) fun x M8 hx e8 => ?_
            trivial
            refine draw_sp e8.pool (by omega) (by omega) fun y M9 hy e9 => ?_
            trivial
            have bo := (bo.step e8).step e9
            refine si_dct bo.at_ rfl (by rw [dset_len]; unfold line; omega) ?_
            have e : put (dset dP l) (.tup [dN x, dN y]) (.bl true) = dset dP (ins l (x, y)) := dset_put (fun _ _ => dP_inj) (x, y) l
            rw [e]
            refine hn4 _ _ ⟨_, rfl, ((e7.trans e8).trans e9).put hro bo.by_, ins l (x, y), bo.set, ins_nodup nd, fun _ => ins_len1, by have := @ins_len _ _ l (x, y); omega, fun z hz => ?_⟩
            rcases ins_mem.mp hz with h | rfl
            · exact lo z h
            · exact ⟨hx, hy⟩
          · intro e M' hI
            obtain ⟨a8, rfl, e7, l, bo, nd, l1, l4, lo⟩ := hI
            exact hn3 _ _ ⟨_, rfl, e7, l, bo, nd, l1 t1, by omega, fun h => by have := ts h; have := l1 t1; omega, lo⟩
        · trivial
          refine if_s (fun h => ?_) fun h => ?_
          · trivial
            exact hQ _ _ ⟨1, rfl, by omega, by omega, fun _ => rfl, e5, bo⟩
          · trivial
            refine wn fun r3 hr3 => ?_
            trivial
            refine pickN_sp (ns := [1, 1, 1, 2, 2, 3, 4]) e5.pool (by decide) (by decide) (fun t M6 ht d6 => ?_) r3 hr3
            refine hQ _ _ ⟨t, rfl, ?_, ?_, fun z => (by rw [z] at h; cases h), e5.trans d6, bo.step d6⟩ <;> (simp at ht; omega)
    · intro e M' hI
      exact hnx _ _ hI
end
end MP.PL
end
section
/-! PL4: what comes. -/
namespace MP.PL
local macro_rules | `(tactic| trivial) => `(tactic| (repeat (first | ((with_reducible apply e_var); exact rfl; exact rfl) | with_reducible refine s_end ?_ | with_reducible refine s_seq ?_ | with_reducible refine s_callX0 ?_ | with_reducible refine s_callXn ?_ | with_reducible refine s_callXr ?_ | with_reducible refine s_callXp ?_ | with_reducible refine e_con ?_ | with_reducible refine es_cons ?_ | with_reducible refine es_nil ?_ | with_reducible refine s_asg ?_ | with_reducible refine s_ret ?_ | with_reducible refine s_expr ?_ | with_reducible refine s_ife ?_ | with_reducible refine e_call ?_ | with_reducible refine q_of ?_ | with_reducible refine q_fr ?_ | with_reducible refine s_skip ?_ | with_reducible refine e_ix ?_ | with_reducible refine e_bin ?_ | with_reducible refine e_cmp ?_ | with_reducible refine e_and ?_ | with_reducible refine e_or ?_ | with_reducible refine e_not ?_ | with_reducible refine e_fld ?_ | with_reducible refine e_len ?_ | with_reducible refine e_mkl ?_ | with_reducible refine e_tup ?_ | with_reducible refine e_tupq ?_ | with_reducible refine e_ite ?_ | with_reducible refine s_for ?_ | with_reducible refine s_asgt ?_ | with_reducible refine s_asgIx ?_ | with_reducible refine s_asgFld ?_ | with_reducible refine e_chain ?_ | with_reducible refine e_isi ?_ | with_reducible refine e_all ?_ | with_reducible refine e_any ?_ | with_reducible refine e_sum ?_ | with_reducible refine e_least ?_ | with_reducible refine e_most ?_ | with_reducible refine e_inq ?_ | with_reducible refine e_ind ?_ | with_reducible refine e_dget ?_ | with_reducible refine e_dpop ?_ | with_reducible refine e_abs ?_ | with_reducible refine e_int ?_ | with_reducible refine e_make ?_ | with_reducible refine e_pop ?_ | with_reducible refine e_append ?_ | with_reducible refine e_extend ?_ | with_reducible refine e_reverse ?_ | with_reducible refine e_dclear ?_ | with_reducible refine e_lenv ?_ | with_reducible refine e_cut ?_ | with_reducible refine e_neg ?_ | with_reducible refine e_dcomp ?_ | with_reducible refine f_disp ?_ | with_reducible refine f_list ?_ | with_reducible refine f_keys ?_ | with_reducible refine f_sorted ?_ | with_reducible refine f_cat1 ?_ | with_reducible refine f_cat2 ?_ | with_reducible refine f_cut ?_ | with_reducible refine f_rng ?_ | with_reducible refine f_lc ?_ | with_reducible refine ql_of ?_ | with_reducible refine ql_fr ?_ | with_reducible refine i_fr ?_ | with_reducible refine i_of ?_ | with_reducible refine i_live ?_ | with_reducible refine i_rng ?_ | with_reducible refine i_enum ?_ | with_reducible refine i_keys ?_ | with_reducible refine ifs_nil ?_ | with_reducible refine ifs_cons ?_ | with_reducible refine s_brk ?_ | with_reducible refine s_cont ?_ | with_reducible refine sq_tup ?_ | with_reducible refine wo_tup ?_ | with_reducible refine tr_bl ?_ | with_reducible refine tr_int ?_ | with_reducible refine tr_tup ?_ | with_reducible refine tr_non ?_ | with_reducible refine b_add ?_ | with_reducible refine b_sub ?_ | with_reducible refine c_lt ?_ | with_reducible refine c_le ?_ | with_reducible refine c_gt ?_ | with_reducible refine c_ge ?_ | with_reducible refine pt_non ?_ | with_reducible refine pt_int ?_ | with_reducible refine a_int ?_ | with_reducible refine a_abs ?_ | with_reducible refine a_len ?_ | with_reducible refine a_neg ?_ | ((with_reducible apply if_t); exact rfl) | ((with_reducible apply if_f); exact rfl) | ((with_reducible apply ex_bind); exact rfl) | ((with_reducible apply isi_t); exact rfl) | ((with_reducible apply isi_f); exact rfl) | ((with_reducible apply le_line); exact rfl) | ((with_reducible apply x_tup); exact rfl) | ((with_reducible apply x_lst); (first | exact rd_lst (by assumption) | assumption); exact rfl) | ((with_reducible apply b_mod); (first | decide | omega)) | ((with_reducible apply b_div); (first | decide | omega)) | ((with_reducible apply b_mul); (first | exact .inr (by unfold small; omega) | exact .inl (by unfold small; omega))) | ((with_reducible apply b_pow); (first | decide | (unfold small; omega))) | ((with_reducible apply fl_ref); assumption; exact rfl) | ((with_reducible apply a_isL); (first | exact rd_lst (by assumption) | assumption)) | ((with_reducible apply a_isDct); (first | exact rd_dct (by assumption) | assumption)) | ((with_reducible apply sq_ref); (first | exact rd_lst (by assumption) | assumption)) | ((with_reducible apply sql_ref); assumption) | ((with_reducible apply ln_ref); (first | exact rd_lst (by assumption) | assumption)) | ((with_reducible apply ln_dct); (first | exact rd_dct (by assumption) | assumption)) | ((with_reducible apply keys_ref); (first | exact rd_dct (by assumption) | assumption)) | ((with_reducible apply wo_ref); (first | exact rd_lst (by assumption) | assumption)) | ((with_reducible apply ex_live); (first | exact rd_lst (by assumption) | assumption)) | ((with_reducible apply st_C0); exact rfl) | ((with_reducible apply st_C); exact rfl) | ((with_reducible apply st_D0); exact rfl) | ((with_reducible apply st_D); exact rfl) | ((with_reducible apply st_S); exact rfl))))
theorem nodup_len {α : Type} [DecidableEq α] : ∀ {l m : List α}, l.Nodup → (∀ x ∈ l, x ∈ m) → l.length ≤ m.length
  | [], _, _, _ => Nat.zero_le _
  | x :: l, m, nd, h => by
    obtain ⟨h1, h2⟩ := List.nodup_cons.mp nd
    have hx := h x List.mem_cons_self
    have e := List.length_erase_of_mem hx
    have pos := List.length_pos_of_mem hx
    have := nodup_len h2 (m := m.erase x) fun y hy => (List.mem_erase_of_ne (fun z => h1 (by rw [← z]; exact hy))).mpr (h y (List.mem_cons_of_mem _ hy))
    simp; omega
inductive Reach (succ : Nat → List Nat) : Nat → Nat → Prop
  | refl (x : Nat) : Reach succ x x
  | step {x y z : Nat} : Reach succ x y → z ∈ succ y → Reach succ x z
theorem Reach.trans {succ : Nat → List Nat} {x y z : Nat} (a : Reach succ x y) (b : Reach succ y z) : Reach succ x z := by
  induction b with
  | refl => exact a
  | step _ h ih => exact ih.step h
def ReachS (succ : Nat → List Nat) (ss : List Nat) (x : Nat) : Prop := ∃ s ∈ ss, Reach succ s x
/-- the ascending list of what comes of ss -/
structure IsReach (succ : Nat → List Nat) (ss l : List Nat) : Prop where
  asc : Asc l
  mem : ∀ x, x ∈ l ↔ ReachS succ ss x
theorem IsReach.uniq {succ : Nat → List Nat} {ss l m : List Nat} (a : IsReach succ ss l) (b : IsReach succ ss m) : l = m := asc_ext a.asc b.asc fun x => (a.mem x).trans (b.mem x).symm
theorem reach_closed {succ : Nat → List Nat} {l : List Nat} (hc : ∀ x ∈ l, ∀ y ∈ succ x, y ∈ l) {x y : Nat} (h : Reach succ x y) (hx : x ∈ l) : y ∈ l := by
  induction h with
  | refl => exact hx
  | step _ hz ih => exact hc _ ih _ hz
def KD.look (k : KD) (s : Nat) : List (Nat × Nat) := k.looks.getD s []
def KD.drift (k : KD) (s : Nat) : List Nat := k.drifts.getD s []
def KD.succ (k : KD) (s : Nat) : List Nat := (k.look s).map (·.2) ++ k.drift s
/-! ### pairs -/
inductive RT {α : Type} (succ : α → List α) : α → α → Prop
  | refl (x : α) : RT succ x x
  | step {x y z : α} : RT succ x y → z ∈ succ y → RT succ x z
/-- where drifts lead -/
def dr (k : KD) (p : Nat × Nat) : List (Nat × Nat) := (k.drift p.1).map (fun t => (t, p.2)) ++ (k.drift p.2).map (fun t => (p.1, t))
/-- where a joint look leads -/
def jt (k : KD) (p : Nat × Nat) : List (Nat × Nat) := (k.look p.1).flatMap fun x => (k.look p.2).filterMap fun y => if x.1 = y.1 then some (x.2, y.2) else none
def Later (k : KD) (p q : Nat × Nat) : Prop := ∃ r, RT (dr k) p r ∧ q ∈ jt k r
/-- no more than h joint looks can come -/
def HtLe (k : KD) : Nat → Nat × Nat → Prop
  | 0, p => ∀ q, ¬ Later k p q
  | h + 1, p => ∀ q, Later k p q → HtLe k h q
def HtVal (k : KD) (p : Nat × Nat) (v : D) : Prop := (v = .non ∧ ∀ h, ¬ HtLe k h p) ∨ ∃ h : Nat, v = dN h ∧ HtLe k h p ∧ ∀ h', HtLe k h' p → h ≤ h'
def AllHt (k : KD) (kvs : List (D × D)) : Prop := ∀ p : Nat × Nat, p.1 < k.n → p.2 < k.n → ∃ v, look kvs (dP p) = some v ∧ HtVal k p v
/-! ### steps, ways, likenesses -/
inductive JS
  | both (i j : Nat)
  | first (t : Nat)
  | second (t : Nat)
def JS.word : JS → PySem.Str
  | .both _ _ => "both"
  | .first _ => "first"
  | .second _ => "second"
def JS.rest : JS → List D
  | .both i j => [dN i, dN j]
  | .first t => [dN t]
  | .second t => [dN t]
def JS.isBoth : JS → Bool
  | .both _ _ => true
  | _ => false
def dJS (s : JS) : D := .tup (.str s.word :: s.rest)
def enumL {α : Type} : Nat → List α → List (Nat × α)
  | _, [] => []
  | n, x :: l => (n, x) :: enumL (n + 1) l
def jb2 (x : Nat × (Nat × Nat)) (y : Nat × (Nat × Nat)) : Option (JS × (Nat × Nat)) := if x.2.1 = y.2.1 then some (.both x.1 y.1, (x.2.2, y.2.2)) else none
def jb (k : KD) (p : Nat × Nat) : List (JS × (Nat × Nat)) := (enumL 0 (k.look p.1)).flatMap fun x => (enumL 0 (k.look p.2)).filterMap (jb2 x)
def js (k : KD) (p : Nat × Nat) : List (JS × (Nat × Nat)) := jb k p ++ (k.drift p.1).map (fun t => (.first t, (t, p.2))) ++ (k.drift p.2).map (fun t => (.second t, (p.1, t)))
/-- a step of a way -/
inductive WS
  | look (i : Nat)
  | drift (t : Nat)
def dWS : WS → D
  | .look i => .tup [.str "look", dN i]
  | .drift t => .tup [.str "drift", dN t]
def ws (k : KD) (s : Nat) : List (WS × Nat) := (enumL 0 (k.look s)).map (fun x => (.look x.1, x.2.2)) ++ (k.drift s).map fun t => (.drift t, t)
def WayTo (k : KD) : Nat → List WS → Nat → Prop
  | s, [], e => s = e
  | s, w :: l, e => ∃ m, (w, m) ∈ ws k s ∧ WayTo k m l e
def RingTo (k : KD) : Nat × Nat → List JS → Nat × Nat → Prop
  | p, [], e => p = e
  | p, s :: l, e => ∃ m, (s, m) ∈ js k p ∧ RingTo k m l e
/-- a likeness -/
structure LK where
  one : List WS
  two : List WS
  ring : List JS
def dLK (l : LK) : D := .tup [.tup (l.one.map dWS), .tup (l.two.map dWS), .tup (l.ring.map dJS)]
def LikeOf (k : KD) (u v : Nat) (l : LK) : Prop := ∃ s t, WayTo k u l.one s ∧ WayTo k v l.two t ∧ RingTo k (s, t) l.ring (s, t) ∧ ∃ j ∈ l.ring, j.isBoth = true
/-- a ring that begins with a joint look -/
def Ring (k : KD) (p : Nat × Nat) : Prop := ∃ s q l, (s, q) ∈ js k p ∧ s.isBoth = true ∧ RingTo k q l p
def LV (k : KD) (u v : Nat) (x : D) : Prop := (x = .non ∧ ¬ ∃ p : Nat × Nat, Reach k.succ u p.1 ∧ Reach k.succ v p.2 ∧ Ring k p) ∨ ∃ l : LK, x = dLK l ∧ l.one.length ≤ 64 ∧ l.two.length ≤ 64 ∧ l.ring.length ≤ 100 ∧ LikeOf k u v l
/-! ### a kind that lies in the memory -/
inductive FK
  | comes (s : Nat) (l : List Nat)
  | heights (t : Nat)
  | like (u v : Nat) (x : D)
def likeK (u v : Nat) : D := .tup [.str "likeness", dN u, dN v]
def comesK (s : Nat) : D := .tup [.str "comes", dN s]
def heightsK : D := .str "all heights"
def FK.key : FK → D
  | .comes s _ => comesK s
  | .heights _ => heightsK
  | .like u v _ => likeK u v
def FK.val : FK → D
  | .comes _ l => dNs l
  | .heights t => .ref t
  | .like _ _ x => x
def FK.Ok (k : KD) (c : Nat) (M : Mem) : FK → Prop
  | .comes s l => s < k.n ∧ IsReach k.succ [s] l
  | .heights t => t ≠ c ∧ ∃ kvs, M t = some (.dct kvs) ∧ AllHt k kvs
  | .like u v x => u < k.n ∧ v < k.n ∧ LV k u v x
def fkv (S : List FK) : List (D × D) := S.map fun x => (x.key, x.val)
structure KindAt (k : KD) (a c : Nat) (M : Mem) : Prop where
  ok : k.Ok
  obj : M a = some (.ins "Kind" (kindFs k c))
  ex : ∃ S, M c = some (.dct (fkv S)) ∧ (S.map FK.key).Nodup ∧ ∀ x ∈ S, x.Ok k c M
theorem put_new {kvs : List (D × D)} {key v : D} (h : look kvs key = none) : put kvs key v = kvs ++ [(key, v)] := by
  induction kvs with
  | nil => rfl
  | cons p r ih =>
    simp only [look] at h
    split at h
    · cases h
    · rename_i n
      simp only [put, if_neg n, ih h, List.cons_append]
theorem KindAt.fr {k : KD} {a c : Nat} {M M' : Mem} {S : Nat → Prop} (h : KindAt k a c M) (f : Fr S M M') (ha : ¬ S a) (hc : ¬ S c) (ht : ∀ t kvs, S t → M t ≠ some (.dct kvs)) : KindAt k a c M' := by
  obtain ⟨S', e, nd, ok⟩ := h.ex
  refine ⟨h.ok, f _ _ ha h.obj, S', f _ _ hc e, nd, fun x hx => ?_⟩
  have := ok x hx
  cases x with
  | comes s l => exact this
  | like u v x => exact this
  | heights t =>
    obtain ⟨n, kvs, e1, e2⟩ := this
    exact ⟨n, kvs, f _ _ (fun z => ht t kvs z e1) e1, e2⟩
/-- where nothing is changed -/
theorem KindAt.le {k : KD} {a c : Nat} {M M' : Mem} (h : KindAt k a c M) (f : Fr no M M') : KindAt k a c M' := h.fr f (fun z => z) (fun z => z) fun _ _ z => z.elim
section
variable {P : Prog} {n : Nat} {M : Mem} {Q : VQ} {X : XQ}
theorem kind_look {k : KD} (h : k.Ok) {s : Nat} (hs : s < k.n) : (k.looks.map dPs)[s]? = some (dPs (k.look s)) := by
  have hs' : s < k.looks.length := hs
  rw [List.getElem?_map, List.getElem?_eq_getElem hs']
  show _ = some (dPs (k.looks.getD s []))
  rw [List.getD_eq_getElem?_getD, List.getElem?_eq_getElem hs']
  rfl
theorem look_ok {k : KD} (h : k.Ok) {s : Nat} (hs : s < k.n) : OkLook k.n (k.look s) := by
  have hs' : s < k.looks.length := hs
  have : k.look s = k.looks[s] := by unfold KD.look; rw [List.getD_eq_getElem?_getD, List.getElem?_eq_getElem hs']; rfl
  rw [this]
  exact h.looks _ (List.getElem_mem hs')
theorem drift_ok {k : KD} (h : k.Ok) {s : Nat} (hs : s < k.n) : OkRow k.n (k.drift s) := by
  have hs' : s < k.drifts.length := by rw [h.dl]; exact hs
  have : k.drift s = k.drifts[s] := by unfold KD.drift; rw [List.getD_eq_getElem?_getD, List.getElem?_eq_getElem hs']; rfl
  rw [this]
  exact h.drifts _ (List.getElem_mem hs')
theorem succ_lt {k : KD} (h : k.Ok) {s : Nat} (hs : s < k.n) : ∀ t ∈ k.succ s, t < k.n := by
  intro t ht
  rcases List.mem_append.mp ht with ht | ht
  · obtain ⟨p, hp, rfl⟩ := List.mem_map.mp ht
    exact (look_ok h hs).s p hp
  · exact (drift_ok h hs).s t ht
end
end MP.PL
end
section
/-! PL5: the dice, and the kinds that are drawn with them. -/
namespace MP.PL
local macro_rules | `(tactic| trivial) => `(tactic| (repeat (first | ((with_reducible apply e_var); exact rfl; exact rfl) | with_reducible refine s_end ?_ | with_reducible refine s_seq ?_ | with_reducible refine s_callX0 ?_ | with_reducible refine s_callXn ?_ | with_reducible refine s_callXr ?_ | with_reducible refine s_callXp ?_ | with_reducible refine e_con ?_ | with_reducible refine es_cons ?_ | with_reducible refine es_nil ?_ | with_reducible refine s_asg ?_ | with_reducible refine s_ret ?_ | with_reducible refine s_expr ?_ | with_reducible refine s_ife ?_ | with_reducible refine e_call ?_ | with_reducible refine q_of ?_ | with_reducible refine q_fr ?_ | with_reducible refine s_skip ?_ | with_reducible refine e_ix ?_ | with_reducible refine e_bin ?_ | with_reducible refine e_cmp ?_ | with_reducible refine e_and ?_ | with_reducible refine e_or ?_ | with_reducible refine e_not ?_ | with_reducible refine e_fld ?_ | with_reducible refine e_len ?_ | with_reducible refine e_mkl ?_ | with_reducible refine e_tup ?_ | with_reducible refine e_tupq ?_ | with_reducible refine e_ite ?_ | with_reducible refine s_for ?_ | with_reducible refine s_asgt ?_ | with_reducible refine s_asgIx ?_ | with_reducible refine s_asgFld ?_ | with_reducible refine e_chain ?_ | with_reducible refine e_isi ?_ | with_reducible refine e_all ?_ | with_reducible refine e_any ?_ | with_reducible refine e_sum ?_ | with_reducible refine e_least ?_ | with_reducible refine e_most ?_ | with_reducible refine e_inq ?_ | with_reducible refine e_ind ?_ | with_reducible refine e_dget ?_ | with_reducible refine e_dpop ?_ | with_reducible refine e_abs ?_ | with_reducible refine e_int ?_ | with_reducible refine e_make ?_ | with_reducible refine e_pop ?_ | with_reducible refine e_append ?_ | with_reducible refine e_extend ?_ | with_reducible refine e_reverse ?_ | with_reducible refine e_dclear ?_ | with_reducible refine e_lenv ?_ | with_reducible refine e_cut ?_ | with_reducible refine e_neg ?_ | with_reducible refine e_dcomp ?_ | with_reducible refine f_disp ?_ | with_reducible refine f_list ?_ | with_reducible refine f_keys ?_ | with_reducible refine f_sorted ?_ | with_reducible refine f_cat1 ?_ | with_reducible refine f_cat2 ?_ | with_reducible refine f_cut ?_ | with_reducible refine f_rng ?_ | with_reducible refine f_lc ?_ | with_reducible refine ql_of ?_ | with_reducible refine ql_fr ?_ | with_reducible refine i_fr ?_ | with_reducible refine i_of ?_ | with_reducible refine i_live ?_ | with_reducible refine i_rng ?_ | with_reducible refine i_enum ?_ | with_reducible refine i_keys ?_ | with_reducible refine ifs_nil ?_ | with_reducible refine ifs_cons ?_ | with_reducible refine s_brk ?_ | with_reducible refine s_cont ?_ | with_reducible refine sq_tup ?_ | with_reducible refine wo_tup ?_ | with_reducible refine tr_bl ?_ | with_reducible refine tr_int ?_ | with_reducible refine tr_tup ?_ | with_reducible refine tr_non ?_ | with_reducible refine b_add ?_ | with_reducible refine b_sub ?_ | with_reducible refine c_lt ?_ | with_reducible refine c_le ?_ | with_reducible refine c_gt ?_ | with_reducible refine c_ge ?_ | with_reducible refine pt_non ?_ | with_reducible refine pt_int ?_ | with_reducible refine a_int ?_ | with_reducible refine a_abs ?_ | with_reducible refine a_len ?_ | with_reducible refine a_neg ?_ | ((with_reducible apply if_t); exact rfl) | ((with_reducible apply if_f); exact rfl) | ((with_reducible apply ex_bind); exact rfl) | ((with_reducible apply isi_t); exact rfl) | ((with_reducible apply isi_f); exact rfl) | ((with_reducible apply le_line); exact rfl) | ((with_reducible apply x_tup); exact rfl) | ((with_reducible apply x_lst); (first | exact rd_lst (by assumption) | assumption); exact rfl) | ((with_reducible apply b_mod); (first | decide | omega)) | ((with_reducible apply b_div); (first | decide | omega)) | ((with_reducible apply b_mul); (first | exact .inr (by unfold small; omega) | exact .inl (by unfold small; omega))) | ((with_reducible apply b_pow); (first | decide | (unfold small; omega))) | ((with_reducible apply fl_ref); assumption; exact rfl) | ((with_reducible apply a_isL); (first | exact rd_lst (by assumption) | assumption)) | ((with_reducible apply a_isDct); (first | exact rd_dct (by assumption) | assumption)) | ((with_reducible apply sq_ref); (first | exact rd_lst (by assumption) | assumption)) | ((with_reducible apply sql_ref); assumption) | ((with_reducible apply ln_ref); (first | exact rd_lst (by assumption) | assumption)) | ((with_reducible apply ln_dct); (first | exact rd_dct (by assumption) | assumption)) | ((with_reducible apply keys_ref); (first | exact rd_dct (by assumption) | assumption)) | ((with_reducible apply wo_ref); (first | exact rd_lst (by assumption) | assumption)) | ((with_reducible apply ex_live); (first | exact rd_lst (by assumption) | assumption)) | ((with_reducible apply st_C0); exact rfl) | ((with_reducible apply st_C); exact rfl) | ((with_reducible apply st_D0); exact rfl) | ((with_reducible apply st_D); exact rfl) | ((with_reducible apply st_S); exact rfl))))
structure Dice (p g : Nat) (M : Mem) : Prop where
  ex : ∃ (cs : List Int) (i : Nat) (cur st cnt : Int), M p = some (.lst [.ref g, .int i, .int cur, .int st, .int cnt]) ∧ M g = some (.lst (cs.map .int)) ∧ g ≠ p
theorem Dice.gp {p g : Nat} {M : Mem} (h : Dice p g M) : g ≠ p := by obtain ⟨_, _, _, _, _, _, _, h⟩ := h.ex; exact h
theorem Dice.hp {p g : Nat} {M : Mem} (h : Dice p g M) : M p ≠ none := by obtain ⟨_, _, _, _, _, h, _, _⟩ := h.ex; rw [h]; simp
theorem Dice.hg {p g : Nat} {M : Mem} (h : Dice p g M) : M g ≠ none := by obtain ⟨_, _, _, _, _, _, h, _⟩ := h.ex; rw [h]; simp
theorem Dice.fr {p g : Nat} {M M' : Mem} {S : Nat → Prop} (h : Dice p g M) (f : Fr S M M') (hp : ¬ S p) (hg : ¬ S g) : Dice p g M' := by
  obtain ⟨cs, i, a, b, c, h1, h2, h3⟩ := h.ex
  exact ⟨cs, i, a, b, c, f _ _ hp h1, f _ _ hg h2, h3⟩
theorem Dice.le {p g : Nat} {M M' : Mem} (h : Dice p g M) (f : Fr no M M') : Dice p g M' := h.fr f (fun z => z) fun z => z
/-- the dice may have been thrown, all else stands -/
structure Thrown (p g : Nat) (M0 M : Mem) : Prop where
  dice : Dice p g M
  fr : Fr (· = p) M0 M
theorem Thrown.refl {p g : Nat} {M : Mem} (h : Dice p g M) : Thrown p g M M := ⟨h, .refl⟩
theorem Thrown.trans {p g : Nat} {M M1 M2 : Mem} (a : Thrown p g M M1) (b : Thrown p g M1 M2) : Thrown p g M M2 := ⟨b.dice, a.fr.trans b.fr⟩
theorem Thrown.back {p g r : Nat} {M M1 : Mem} (a : Thrown p g M M1) (h : M1 r = none) : M r = none := by
  cases q : M r with
  | none => rfl
  | some u =>
    have hr : r ≠ p := fun e => a.dice.hp (by rw [← e]; exact h)
    rw [a.fr r u hr q] at h
    cases h
theorem Fr.put0 {S : Nat → Prop} {M M1 : Mem} {p : Nat} {o : MO} (a : Fr S M M1) (h : M p = none) : Fr S M (M1.set p o) := fun b u hb e => by
  have : b ≠ p := fun z => by rw [z, h] at e; cases e
  rw [Mem.set_ne _ _ this]
  exact a b u hb e
/-- a place that was not there is set -/
theorem Thrown.put {p g r : Nat} {M M1 : Mem} {o : MO} (a : Thrown p g M M1) (h : M r = none) (hp : p ≠ r) (hg : g ≠ r) : Thrown p g M (M1.set r o) :=
  ⟨a.dice.fr (S := (· = r)) (.set rfl) hp hg, a.fr.put0 h⟩
theorem Thrown.new {p g r : Nat} {M M1 : Mem} {o : MO} (a : Thrown p g M M1) (h : M1 r = none) : Thrown p g M (M1.set r o) :=
  a.put (a.back h) (fun e => a.dice.hp (by rw [e]; exact h)) fun e => a.dice.hg (by rw [e]; exact h)
theorem Thrown.has {p g r : Nat} {o : MO} {M M1 : Mem} (a : Thrown p g M M1) (h : M r = some o) (n : r ≠ p) : M1 r = some o := a.fr r o n h
theorem Thrown.le {p g : Nat} {M M1 M2 : Mem} (a : Thrown p g M M1) (f : Fr no M1 M2) : Thrown p g M M2 := ⟨a.dice.le f, a.fr.trans (f.imp fun _ z => z.elim)⟩
section
variable {P : Prog} {n : Nat} {M : Mem} {Q : VQ} {X : XQ}
end
end MP.PL
end
section
/-! PL6: worklists, heights: plain laws. -/
namespace MP.PL
/-! ### worklists -/
section
variable {α : Type} [DecidableEq α] {succ : α → List α} {ss U L W T : List α} {y t : α}
theorem RT.trans {x y z : α} (a : RT succ x y) (b : RT succ y z) : RT succ x z := by
  induction b with
  | refl => exact a
  | step _ h ih => exact ih.step h
theorem rt_closed {l : List α} (hc : ∀ x ∈ l, ∀ y ∈ succ x, y ∈ l) {x y : α} (h : RT succ x y) (hx : x ∈ l) : y ∈ l := by
  induction h with
  | refl => exact hx
  | step _ hz ih => exact hc _ ih _ hz
structure WL (succ : α → List α) (ss U L W : List α) : Prop where
  nd : L.Nodup
  u : ∀ y ∈ L, y ∈ U
  lr : ∀ y ∈ L, ∃ s ∈ ss, RT succ s y
  ls : ∀ s ∈ ss, s ∈ L
  lW : ∀ y ∈ W, y ∈ L
  lc : ∀ y ∈ L, y ∉ W → ∀ z ∈ succ y, z ∈ L
structure WLi (succ : α → List α) (ss U L W : List α) (y : α) (T : List α) : Prop where
  nd : L.Nodup
  u : ∀ y ∈ L, y ∈ U
  lr : ∀ y ∈ L, ∃ s ∈ ss, RT succ s y
  ls : ∀ s ∈ ss, s ∈ L
  lW : ∀ y ∈ W, y ∈ L
  ly : y ∈ L
  lc : ∀ z ∈ L, z ∉ W → z ≠ y → ∀ t ∈ succ z, t ∈ L
  lT : ∀ t ∈ T, t ∈ L
theorem WL.pop (h : WL succ ss U L (W ++ [y])) : WLi succ ss U L W y [] :=
  ⟨h.nd, h.u, h.lr, h.ls, fun z hz => h.lW z (by simp [hz]), h.lW y (by simp), fun z h1 h2 h3 => h.lc z h1 (by simp [h2, h3]), fun _ h => nomatch h⟩
theorem WLi.old (h : WLi succ ss U L W y T) (ht : t ∈ L) : WLi succ ss U L W y (T ++ [t]) :=
  ⟨h.nd, h.u, h.lr, h.ls, h.lW, h.ly, h.lc, fun z hz => by
    rcases List.mem_append.mp hz with hz | hz
    · exact h.lT z hz
    · simp at hz; subst hz; exact ht⟩
theorem WLi.new (h : WLi succ ss U L W y T) (ht : t ∉ L) (hs : t ∈ succ y) (hU : t ∈ U) : WLi succ ss U (L ++ [t]) (W ++ [t]) y (T ++ [t]) := by
  have sub : ∀ z, z ∈ L → z ∈ L ++ [t] := fun z hz => by simp [hz]
  refine ⟨?_, fun z hz => ?_, fun z hz => ?_, fun s hs => sub s (h.ls s hs), fun z hz => ?_, sub y h.ly, fun z h1 h2 h3 => ?_, fun z hz => ?_⟩
  · rw [List.nodup_append]
    exact ⟨h.nd, by simp, fun a ha b hb e => by simp at hb; subst hb e; exact ht ha⟩
  · rcases List.mem_append.mp hz with hz | hz
    · exact h.u z hz
    · simp at hz; subst hz; exact hU
  · rcases List.mem_append.mp hz with hz | hz
    · exact h.lr z hz
    · simp at hz; subst hz
      obtain ⟨s, h1, h2⟩ := h.lr y h.ly
      exact ⟨s, h1, h2.step hs⟩
  · rcases List.mem_append.mp hz with hz | hz
    · exact sub z (h.lW z hz)
    · simp at hz; subst hz; simp
  · rcases List.mem_append.mp h1 with hz | hz
    · exact fun u hu => sub u (h.lc z hz (fun q => h2 (by simp [q])) h3 u hu)
    · simp at hz; subst hz; simp at h2
  · rcases List.mem_append.mp hz with hz | hz
    · exact sub z (h.lT z hz)
    · simp at hz; subst hz; simp
theorem WLi.done (h : WLi succ ss U L W y T) (hT : ∀ t ∈ succ y, t ∈ T) : WL succ ss U L W :=
  ⟨h.nd, h.u, h.lr, h.ls, h.lW, fun z h1 h2 => by
    by_cases e : z = y
    · subst e; exact fun t ht => h.lT t (hT t ht)
    · exact h.lc z h1 h2 e⟩
theorem WL.len (h : WL succ ss U L W) : L.length ≤ U.length := nodup_len h.nd h.u
theorem WLi.len (h : WLi succ ss U L W y T) : L.length ≤ U.length := nodup_len h.nd h.u
end
/-! ### all pairs -/
def box (n : Nat) : List (Nat × Nat) := (List.range n).flatMap fun a => (List.range n).map fun b => (a, b)
theorem mem_box {n : Nat} {p : Nat × Nat} : p ∈ box n ↔ p.1 < n ∧ p.2 < n := by
  unfold box
  simp only [List.mem_flatMap, List.mem_map, List.mem_range]
  constructor
  · rintro ⟨a, ha, b, hb, rfl⟩; exact ⟨ha, hb⟩
  · rintro ⟨h1, h2⟩; exact ⟨p.1, h1, p.2, h2, rfl⟩
theorem dr_box {k : KD} (h : k.Ok) {p q : Nat × Nat} (hp : p ∈ box k.n) (hq : q ∈ dr k p) : q ∈ box k.n := by
  obtain ⟨h1, h2⟩ := mem_box.mp hp
  rcases List.mem_append.mp hq with hq | hq
  · obtain ⟨t, ht, rfl⟩ := List.mem_map.mp hq
    exact mem_box.mpr ⟨(drift_ok h h1).s t ht, h2⟩
  · obtain ⟨t, ht, rfl⟩ := List.mem_map.mp hq
    exact mem_box.mpr ⟨h1, (drift_ok h h2).s t ht⟩
theorem mem_jt {k : KD} {p q : Nat × Nat} : q ∈ jt k p ↔ ∃ a, (a, q.1) ∈ k.look p.1 ∧ (a, q.2) ∈ k.look p.2 := by
  unfold jt
  simp only [List.mem_flatMap, List.mem_filterMap]
  constructor
  · rintro ⟨x, hx, y, hy, e⟩
    split at e
    · rename_i h
      cases e
      exact ⟨x.1, hx, by rw [h]; exact hy⟩
    · cases e
  · rintro ⟨a, h1, h2⟩
    exact ⟨_, h1, _, h2, by rw [if_pos rfl]⟩
theorem jt_box {k : KD} (h : k.Ok) {p q : Nat × Nat} (hp : p ∈ box k.n) (hq : q ∈ jt k p) : q ∈ box k.n := by
  obtain ⟨h1, h2⟩ := mem_box.mp hp
  obtain ⟨a, q1, q2⟩ := mem_jt.mp hq
  exact mem_box.mpr ⟨(look_ok h h1).s (a, q.1) q1, (look_ok h h2).s (a, q.2) q2⟩
theorem rt_box {k : KD} (h : k.Ok) {p q : Nat × Nat} (hr : RT (dr k) p q) (hp : p ∈ box k.n) : q ∈ box k.n := rt_closed (fun _ hx _ hy => dr_box h hx hy) hr hp
theorem later_box {k : KD} (h : k.Ok) {p q : Nat × Nat} (hp : p ∈ box k.n) (hq : Later k p q) : q ∈ box k.n := by
  obtain ⟨r, h1, h2⟩ := hq
  exact jt_box h (rt_box h h1 hp) h2
theorem reach_lt {k : KD} (h : k.Ok) {s t : Nat} (hs : s < k.n) (hr : Reach k.succ s t) : t < k.n :=
  List.mem_range.mp (reach_closed (l := List.range k.n) (fun x hx y hy => List.mem_range.mpr (succ_lt h (List.mem_range.mp hx) y hy)) hr (List.mem_range.mpr hs))
/-- both come -/
def In (k : KD) (u v : Nat) (p : Nat × Nat) : Prop := Reach k.succ u p.1 ∧ Reach k.succ v p.2
theorem in_dr {k : KD} {u v : Nat} {p q : Nat × Nat} (h : In k u v p) (hq : q ∈ dr k p) : In k u v q := by
  have s2 : ∀ {s t : Nat}, t ∈ k.drift s → t ∈ k.succ s := fun h => List.mem_append.mpr (.inr h)
  rcases List.mem_append.mp hq with hq | hq
  · obtain ⟨t, ht, rfl⟩ := List.mem_map.mp hq
    exact ⟨h.1.step (s2 ht), h.2⟩
  · obtain ⟨t, ht, rfl⟩ := List.mem_map.mp hq
    exact ⟨h.1, h.2.step (s2 ht)⟩
theorem in_jt {k : KD} {u v : Nat} {p q : Nat × Nat} (h : In k u v p) (hq : q ∈ jt k p) : In k u v q := by
  obtain ⟨a, q1, q2⟩ := mem_jt.mp hq
  have s1 : ∀ {s : Nat} {x : Nat × Nat}, x ∈ k.look s → x.2 ∈ k.succ s := fun h => List.mem_append.mpr (.inl (List.mem_map.mpr ⟨_, h, rfl⟩))
  exact ⟨h.1.step (s1 (x := (a, q.1)) q1), h.2.step (s1 (x := (a, q.2)) q2)⟩
theorem in_box {k : KD} (h : k.Ok) {u v : Nat} (hu : u < k.n) (hv : v < k.n) {p : Nat × Nat} (hp : In k u v p) : p ∈ box k.n := mem_box.mpr ⟨reach_lt h hu hp.1, reach_lt h hv hp.2⟩
/-! ### heights -/
theorem HtLe.mono1 {k : KD} : ∀ {h : Nat} {p : Nat × Nat}, HtLe k h p → HtLe k (h + 1) p
  | 0, _, a => fun q hq => absurd hq (a q)
  | _ + 1, _, a => fun q hq => (a q hq).mono1
def Apart (k : KD) (u v : Nat) : Prop := ∀ p, In k u v p → ∃ h, HtLe k h p
end MP.PL
end
section
/-! PL7: pairs.py. -/
namespace MP.PL
local macro_rules | `(tactic| trivial) => `(tactic| (repeat (first | ((with_reducible apply e_var); exact rfl; exact rfl) | with_reducible refine s_end ?_ | with_reducible refine s_seq ?_ | with_reducible refine s_callX0 ?_ | with_reducible refine s_callXn ?_ | with_reducible refine s_callXr ?_ | with_reducible refine s_callXp ?_ | with_reducible refine e_con ?_ | with_reducible refine es_cons ?_ | with_reducible refine es_nil ?_ | with_reducible refine s_asg ?_ | with_reducible refine s_ret ?_ | with_reducible refine s_expr ?_ | with_reducible refine s_ife ?_ | with_reducible refine e_call ?_ | with_reducible refine q_of ?_ | with_reducible refine q_fr ?_ | with_reducible refine s_skip ?_ | with_reducible refine e_ix ?_ | with_reducible refine e_bin ?_ | with_reducible refine e_cmp ?_ | with_reducible refine e_and ?_ | with_reducible refine e_or ?_ | with_reducible refine e_not ?_ | with_reducible refine e_fld ?_ | with_reducible refine e_len ?_ | with_reducible refine e_mkl ?_ | with_reducible refine e_tup ?_ | with_reducible refine e_tupq ?_ | with_reducible refine e_ite ?_ | with_reducible refine s_for ?_ | with_reducible refine s_asgt ?_ | with_reducible refine s_asgIx ?_ | with_reducible refine s_asgFld ?_ | with_reducible refine e_chain ?_ | with_reducible refine e_isi ?_ | with_reducible refine e_all ?_ | with_reducible refine e_any ?_ | with_reducible refine e_sum ?_ | with_reducible refine e_least ?_ | with_reducible refine e_most ?_ | with_reducible refine e_inq ?_ | with_reducible refine e_ind ?_ | with_reducible refine e_dget ?_ | with_reducible refine e_dpop ?_ | with_reducible refine e_abs ?_ | with_reducible refine e_int ?_ | with_reducible refine e_make ?_ | with_reducible refine e_pop ?_ | with_reducible refine e_append ?_ | with_reducible refine e_extend ?_ | with_reducible refine e_reverse ?_ | with_reducible refine e_dclear ?_ | with_reducible refine e_lenv ?_ | with_reducible refine e_cut ?_ | with_reducible refine e_neg ?_ | with_reducible refine e_dcomp ?_ | with_reducible refine f_disp ?_ | with_reducible refine f_list ?_ | with_reducible refine f_keys ?_ | with_reducible refine f_sorted ?_ | with_reducible refine f_cat1 ?_ | with_reducible refine f_cat2 ?_ | with_reducible refine f_cut ?_ | with_reducible refine f_rng ?_ | with_reducible refine f_lc ?_ | with_reducible refine ql_of ?_ | with_reducible refine ql_fr ?_ | with_reducible refine i_fr ?_ | with_reducible refine i_of ?_ | with_reducible refine i_live ?_ | with_reducible refine i_rng ?_ | with_reducible refine i_enum ?_ | with_reducible refine i_keys ?_ | with_reducible refine ifs_nil ?_ | with_reducible refine ifs_cons ?_ | with_reducible refine s_brk ?_ | with_reducible refine s_cont ?_ | with_reducible refine sq_tup ?_ | with_reducible refine wo_tup ?_ | with_reducible refine tr_bl ?_ | with_reducible refine tr_int ?_ | with_reducible refine tr_tup ?_ | with_reducible refine tr_non ?_ | with_reducible refine b_add ?_ | with_reducible refine b_sub ?_ | with_reducible refine c_lt ?_ | with_reducible refine c_le ?_ | with_reducible refine c_gt ?_ | with_reducible refine c_ge ?_ | with_reducible refine pt_non ?_ | with_reducible refine pt_int ?_ | with_reducible refine a_int ?_ | with_reducible refine a_abs ?_ | with_reducible refine a_len ?_ | with_reducible refine a_neg ?_ | ((with_reducible apply if_t); exact rfl) | ((with_reducible apply if_f); exact rfl) | ((with_reducible apply ex_bind); exact rfl) | ((with_reducible apply isi_t); exact rfl) | ((with_reducible apply isi_f); exact rfl) | ((with_reducible apply le_line); exact rfl) | ((with_reducible apply x_tup); exact rfl) | ((with_reducible apply x_lst); (first | exact rd_lst (by assumption) | assumption); exact rfl) | ((with_reducible apply b_mod); (first | decide | omega)) | ((with_reducible apply b_div); (first | decide | omega)) | ((with_reducible apply b_mul); (first | exact .inr (by unfold small; omega) | exact .inl (by unfold small; omega))) | ((with_reducible apply b_pow); (first | decide | (unfold small; omega))) | ((with_reducible apply fl_ref); assumption; exact rfl) | ((with_reducible apply a_isL); (first | exact rd_lst (by assumption) | assumption)) | ((with_reducible apply a_isDct); (first | exact rd_dct (by assumption) | assumption)) | ((with_reducible apply sq_ref); (first | exact rd_lst (by assumption) | assumption)) | ((with_reducible apply sql_ref); assumption) | ((with_reducible apply ln_ref); (first | exact rd_lst (by assumption) | assumption)) | ((with_reducible apply ln_dct); (first | exact rd_dct (by assumption) | assumption)) | ((with_reducible apply keys_ref); (first | exact rd_dct (by assumption) | assumption)) | ((with_reducible apply wo_ref); (first | exact rd_lst (by assumption) | assumption)) | ((with_reducible apply ex_live); (first | exact rd_lst (by assumption) | assumption)) | ((with_reducible apply st_C0); exact rfl) | ((with_reducible apply st_C); exact rfl) | ((with_reducible apply st_D0); exact rfl) | ((with_reducible apply st_D); exact rfl) | ((with_reducible apply st_S); exact rfl))))
section
variable {φ : CallSem} {e : Env} {M : Mem} {Q : VQ} {X : XQ} {a k v : CE}
end
section
variable {α : Type} [DecidableEq α] {f : α → D} {w : α → D}
/-- a dict from what f tells to what w tells -/
def dfn (f w : α → D) (l : List α) : List (D × D) := l.map fun x => (f x, w x)
theorem dfn_len (l : List α) : (dfn f w l).length = l.length := List.length_map _
theorem dfn_keys (l : List α) : (dfn f w l).map (·.1) = l.map f := by simp [dfn]
theorem dfn_look (hf : ∀ x y, f x = f y → x = y) (x : α) : ∀ l : List α, look (dfn f w l) (f x) = if x ∈ l then some (w x) else none
  | [] => by simp [dfn, look]
  | y :: l => by
    simp only [dfn, List.map_cons, look]
    by_cases h : f y = f x
    · have e := hf _ _ h
      subst e
      rw [if_pos rfl, if_pos List.mem_cons_self]
    · rw [if_neg h]
      have : x ∈ y :: l ↔ x ∈ l := by
        rw [List.mem_cons]; constructor
        · rintro (rfl | e); exact absurd rfl h; exact e
        · exact .inr
      have ih := dfn_look hf x l
      unfold dfn at ih
      rw [ih]; simp only [this]
theorem dfn_new (hf : ∀ x y, f x = f y → x = y) {x : α} {l : List α} (h : x ∉ l) : put (dfn f w l) (f x) (w x) = dfn f w (l ++ [x]) := by
  rw [put_new (by rw [dfn_look hf, if_neg h])]
  simp [dfn]
end
/-! ### joint steps -/
theorem enumL_snd {α : Type} : ∀ (n : Nat) (l : List α), (enumL n l).map (·.2) = l
  | _, [] => rfl
  | n, x :: l => by simp only [enumL, List.map_cons, enumL_snd (n + 1) l]
theorem mem_jb {k : KD} {p : Nat × Nat} {x : JS × (Nat × Nat)} (h : x ∈ jb k p) : x.1.isBoth = true := by
  unfold jb at h
  simp only [List.mem_flatMap, List.mem_filterMap] at h
  obtain ⟨a, _, b, _, e⟩ := h
  unfold jb2 at e
  split at e <;> cases e
  rfl
theorem jb_jt {k : KD} {p q : Nat × Nat} : (∃ x ∈ jb k p, x.2 = q) ↔ q ∈ jt k p := by
  unfold jb jt
  simp only [List.mem_flatMap, List.mem_filterMap]
  constructor
  · rintro ⟨x, ⟨a, ha, b, hb, e⟩, rfl⟩
    unfold jb2 at e
    split at e <;> cases e
    rename_i h
    have h1 : a.2 ∈ k.look p.1 := by rw [← enumL_snd 0 (k.look p.1)]; exact List.mem_map.mpr ⟨a, ha, rfl⟩
    have h2 : b.2 ∈ k.look p.2 := by rw [← enumL_snd 0 (k.look p.2)]; exact List.mem_map.mpr ⟨b, hb, rfl⟩
    exact ⟨_, h1, _, h2, by rw [if_pos h]⟩
  · rintro ⟨x, hx, y, hy, e⟩
    split at e <;> cases e
    rename_i h
    rw [← enumL_snd 0 (k.look p.1)] at hx
    rw [← enumL_snd 0 (k.look p.2)] at hy
    obtain ⟨a, ha, rfl⟩ := List.mem_map.mp hx
    obtain ⟨b, hb, rfl⟩ := List.mem_map.mp hy
    exact ⟨_, ⟨a, ha, b, hb, by unfold jb2; rw [if_pos h]⟩, rfl⟩
theorem js_both {k : KD} {p q : Nat × Nat} : (∃ x ∈ js k p, x.1.isBoth = true ∧ x.2 = q) ↔ q ∈ jt k p := by
  rw [← jb_jt]
  unfold js
  constructor
  · rintro ⟨x, hx, hb, e⟩
    rcases List.mem_append.mp hx with hx | hx
    · rcases List.mem_append.mp hx with hx | hx
      · exact ⟨x, hx, e⟩
      · obtain ⟨t, _, rfl⟩ := List.mem_map.mp hx; cases hb
    · obtain ⟨t, _, rfl⟩ := List.mem_map.mp hx; cases hb
  · rintro ⟨x, hx, e⟩
    exact ⟨x, List.mem_append.mpr (.inl (List.mem_append.mpr (.inl hx))), mem_jb hx, e⟩
theorem js_drift {k : KD} {p q : Nat × Nat} : (∃ x ∈ js k p, x.1.isBoth = false ∧ x.2 = q) ↔ q ∈ dr k p := by
  unfold js dr
  constructor
  · rintro ⟨x, hx, hb, rfl⟩
    rcases List.mem_append.mp hx with hx | hx
    · rcases List.mem_append.mp hx with hx | hx
      · rw [mem_jb hx] at hb; cases hb
      · obtain ⟨t, ht, rfl⟩ := List.mem_map.mp hx
        exact List.mem_append.mpr (.inl (List.mem_map.mpr ⟨t, ht, rfl⟩))
    · obtain ⟨t, ht, rfl⟩ := List.mem_map.mp hx
      exact List.mem_append.mpr (.inr (List.mem_map.mpr ⟨t, ht, rfl⟩))
  · intro h
    rcases List.mem_append.mp h with h | h
    · obtain ⟨t, ht, rfl⟩ := List.mem_map.mp h
      exact ⟨_, List.mem_append.mpr (.inl (List.mem_append.mpr (.inr (List.mem_map.mpr ⟨t, ht, rfl⟩)))), rfl, rfl⟩
    · obtain ⟨t, ht, rfl⟩ := List.mem_map.mp h
      exact ⟨_, List.mem_append.mpr (.inr (List.mem_map.mpr ⟨t, ht, rfl⟩)), rfl, rfl⟩
section
variable {P : Prog} {n : Nat} {M : Mem} {Q : VQ} {X : XQ}
end
end MP.PL
end
section
/-! PL8: pairs.py, on. -/
namespace MP.PL
local macro_rules | `(tactic| trivial) => `(tactic| (repeat (first | ((with_reducible apply e_var); exact rfl; exact rfl) | with_reducible refine s_end ?_ | with_reducible refine s_seq ?_ | with_reducible refine s_callX0 ?_ | with_reducible refine s_callXn ?_ | with_reducible refine s_callXr ?_ | with_reducible refine s_callXp ?_ | with_reducible refine e_con ?_ | with_reducible refine es_cons ?_ | with_reducible refine es_nil ?_ | with_reducible refine s_asg ?_ | with_reducible refine s_ret ?_ | with_reducible refine s_expr ?_ | with_reducible refine s_ife ?_ | with_reducible refine e_call ?_ | with_reducible refine q_of ?_ | with_reducible refine q_fr ?_ | with_reducible refine s_skip ?_ | with_reducible refine e_ix ?_ | with_reducible refine e_bin ?_ | with_reducible refine e_cmp ?_ | with_reducible refine e_and ?_ | with_reducible refine e_or ?_ | with_reducible refine e_not ?_ | with_reducible refine e_fld ?_ | with_reducible refine e_len ?_ | with_reducible refine e_mkl ?_ | with_reducible refine e_tup ?_ | with_reducible refine e_tupq ?_ | with_reducible refine e_ite ?_ | with_reducible refine s_for ?_ | with_reducible refine s_asgt ?_ | with_reducible refine s_asgIx ?_ | with_reducible refine s_asgFld ?_ | with_reducible refine e_chain ?_ | with_reducible refine e_isi ?_ | with_reducible refine e_all ?_ | with_reducible refine e_any ?_ | with_reducible refine e_sum ?_ | with_reducible refine e_least ?_ | with_reducible refine e_most ?_ | with_reducible refine e_inq ?_ | with_reducible refine e_ind ?_ | with_reducible refine e_dget ?_ | with_reducible refine e_dpop ?_ | with_reducible refine e_abs ?_ | with_reducible refine e_int ?_ | with_reducible refine e_make ?_ | with_reducible refine e_pop ?_ | with_reducible refine e_append ?_ | with_reducible refine e_extend ?_ | with_reducible refine e_reverse ?_ | with_reducible refine e_dclear ?_ | with_reducible refine e_lenv ?_ | with_reducible refine e_cut ?_ | with_reducible refine e_neg ?_ | with_reducible refine e_dcomp ?_ | with_reducible refine f_disp ?_ | with_reducible refine f_list ?_ | with_reducible refine f_keys ?_ | with_reducible refine f_sorted ?_ | with_reducible refine f_cat1 ?_ | with_reducible refine f_cat2 ?_ | with_reducible refine f_cut ?_ | with_reducible refine f_rng ?_ | with_reducible refine f_lc ?_ | with_reducible refine ql_of ?_ | with_reducible refine ql_fr ?_ | with_reducible refine i_fr ?_ | with_reducible refine i_of ?_ | with_reducible refine i_live ?_ | with_reducible refine i_rng ?_ | with_reducible refine i_enum ?_ | with_reducible refine i_keys ?_ | with_reducible refine ifs_nil ?_ | with_reducible refine ifs_cons ?_ | with_reducible refine s_brk ?_ | with_reducible refine s_cont ?_ | with_reducible refine sq_tup ?_ | with_reducible refine wo_tup ?_ | with_reducible refine tr_bl ?_ | with_reducible refine tr_int ?_ | with_reducible refine tr_tup ?_ | with_reducible refine tr_non ?_ | with_reducible refine b_add ?_ | with_reducible refine b_sub ?_ | with_reducible refine c_lt ?_ | with_reducible refine c_le ?_ | with_reducible refine c_gt ?_ | with_reducible refine c_ge ?_ | with_reducible refine pt_non ?_ | with_reducible refine pt_int ?_ | with_reducible refine a_int ?_ | with_reducible refine a_abs ?_ | with_reducible refine a_len ?_ | with_reducible refine a_neg ?_ | ((with_reducible apply if_t); exact rfl) | ((with_reducible apply if_f); exact rfl) | ((with_reducible apply ex_bind); exact rfl) | ((with_reducible apply isi_t); exact rfl) | ((with_reducible apply isi_f); exact rfl) | ((with_reducible apply le_line); exact rfl) | ((with_reducible apply x_tup); exact rfl) | ((with_reducible apply x_lst); (first | exact rd_lst (by assumption) | assumption); exact rfl) | ((with_reducible apply b_mod); (first | decide | omega)) | ((with_reducible apply b_div); (first | decide | omega)) | ((with_reducible apply b_mul); (first | exact .inr (by unfold small; omega) | exact .inl (by unfold small; omega))) | ((with_reducible apply b_pow); (first | decide | (unfold small; omega))) | ((with_reducible apply fl_ref); assumption; exact rfl) | ((with_reducible apply a_isL); (first | exact rd_lst (by assumption) | assumption)) | ((with_reducible apply a_isDct); (first | exact rd_dct (by assumption) | assumption)) | ((with_reducible apply sq_ref); (first | exact rd_lst (by assumption) | assumption)) | ((with_reducible apply sql_ref); assumption) | ((with_reducible apply ln_ref); (first | exact rd_lst (by assumption) | assumption)) | ((with_reducible apply ln_dct); (first | exact rd_dct (by assumption) | assumption)) | ((with_reducible apply keys_ref); (first | exact rd_dct (by assumption) | assumption)) | ((with_reducible apply wo_ref); (first | exact rd_lst (by assumption) | assumption)) | ((with_reducible apply ex_live); (first | exact rd_lst (by assumption) | assumption)) | ((with_reducible apply st_C0); exact rfl) | ((with_reducible apply st_C); exact rfl) | ((with_reducible apply st_D0); exact rfl) | ((with_reducible apply st_D); exact rfl) | ((with_reducible apply st_S); exact rfl))))
section
variable {P : Prog} {n : Nat} {M : Mem} {Q : VQ} {X : XQ}
end
end MP.PL
end
section
/-! PL9: all_heights. -/
namespace MP.PL
local macro_rules | `(tactic| trivial) => `(tactic| (repeat (first | ((with_reducible apply e_var); exact rfl; exact rfl) | with_reducible refine s_end ?_ | with_reducible refine s_seq ?_ | with_reducible refine s_callX0 ?_ | with_reducible refine s_callXn ?_ | with_reducible refine s_callXr ?_ | with_reducible refine s_callXp ?_ | with_reducible refine e_con ?_ | with_reducible refine es_cons ?_ | with_reducible refine es_nil ?_ | with_reducible refine s_asg ?_ | with_reducible refine s_ret ?_ | with_reducible refine s_expr ?_ | with_reducible refine s_ife ?_ | with_reducible refine e_call ?_ | with_reducible refine q_of ?_ | with_reducible refine q_fr ?_ | with_reducible refine s_skip ?_ | with_reducible refine e_ix ?_ | with_reducible refine e_bin ?_ | with_reducible refine e_cmp ?_ | with_reducible refine e_and ?_ | with_reducible refine e_or ?_ | with_reducible refine e_not ?_ | with_reducible refine e_fld ?_ | with_reducible refine e_len ?_ | with_reducible refine e_mkl ?_ | with_reducible refine e_tup ?_ | with_reducible refine e_tupq ?_ | with_reducible refine e_ite ?_ | with_reducible refine s_for ?_ | with_reducible refine s_asgt ?_ | with_reducible refine s_asgIx ?_ | with_reducible refine s_asgFld ?_ | with_reducible refine e_chain ?_ | with_reducible refine e_isi ?_ | with_reducible refine e_all ?_ | with_reducible refine e_any ?_ | with_reducible refine e_sum ?_ | with_reducible refine e_least ?_ | with_reducible refine e_most ?_ | with_reducible refine e_inq ?_ | with_reducible refine e_ind ?_ | with_reducible refine e_dget ?_ | with_reducible refine e_dpop ?_ | with_reducible refine e_abs ?_ | with_reducible refine e_int ?_ | with_reducible refine e_make ?_ | with_reducible refine e_pop ?_ | with_reducible refine e_append ?_ | with_reducible refine e_extend ?_ | with_reducible refine e_reverse ?_ | with_reducible refine e_dclear ?_ | with_reducible refine e_lenv ?_ | with_reducible refine e_cut ?_ | with_reducible refine e_neg ?_ | with_reducible refine e_dcomp ?_ | with_reducible refine f_disp ?_ | with_reducible refine f_list ?_ | with_reducible refine f_keys ?_ | with_reducible refine f_sorted ?_ | with_reducible refine f_cat1 ?_ | with_reducible refine f_cat2 ?_ | with_reducible refine f_cut ?_ | with_reducible refine f_rng ?_ | with_reducible refine f_lc ?_ | with_reducible refine ql_of ?_ | with_reducible refine ql_fr ?_ | with_reducible refine i_fr ?_ | with_reducible refine i_of ?_ | with_reducible refine i_live ?_ | with_reducible refine i_rng ?_ | with_reducible refine i_enum ?_ | with_reducible refine i_keys ?_ | with_reducible refine ifs_nil ?_ | with_reducible refine ifs_cons ?_ | with_reducible refine s_brk ?_ | with_reducible refine s_cont ?_ | with_reducible refine sq_tup ?_ | with_reducible refine wo_tup ?_ | with_reducible refine tr_bl ?_ | with_reducible refine tr_int ?_ | with_reducible refine tr_tup ?_ | with_reducible refine tr_non ?_ | with_reducible refine b_add ?_ | with_reducible refine b_sub ?_ | with_reducible refine c_lt ?_ | with_reducible refine c_le ?_ | with_reducible refine c_gt ?_ | with_reducible refine c_ge ?_ | with_reducible refine pt_non ?_ | with_reducible refine pt_int ?_ | with_reducible refine a_int ?_ | with_reducible refine a_abs ?_ | with_reducible refine a_len ?_ | with_reducible refine a_neg ?_ | ((with_reducible apply if_t); exact rfl) | ((with_reducible apply if_f); exact rfl) | ((with_reducible apply ex_bind); exact rfl) | ((with_reducible apply isi_t); exact rfl) | ((with_reducible apply isi_f); exact rfl) | ((with_reducible apply le_line); exact rfl) | ((with_reducible apply x_tup); exact rfl) | ((with_reducible apply x_lst); (first | exact rd_lst (by assumption) | assumption); exact rfl) | ((with_reducible apply b_mod); (first | decide | omega)) | ((with_reducible apply b_div); (first | decide | omega)) | ((with_reducible apply b_mul); (first | exact .inr (by unfold small; omega) | exact .inl (by unfold small; omega))) | ((with_reducible apply b_pow); (first | decide | (unfold small; omega))) | ((with_reducible apply fl_ref); assumption; exact rfl) | ((with_reducible apply a_isL); (first | exact rd_lst (by assumption) | assumption)) | ((with_reducible apply a_isDct); (first | exact rd_dct (by assumption) | assumption)) | ((with_reducible apply sq_ref); (first | exact rd_lst (by assumption) | assumption)) | ((with_reducible apply sql_ref); assumption) | ((with_reducible apply ln_ref); (first | exact rd_lst (by assumption) | assumption)) | ((with_reducible apply ln_dct); (first | exact rd_dct (by assumption) | assumption)) | ((with_reducible apply keys_ref); (first | exact rd_dct (by assumption) | assumption)) | ((with_reducible apply wo_ref); (first | exact rd_lst (by assumption) | assumption)) | ((with_reducible apply ex_live); (first | exact rd_lst (by assumption) | assumption)) | ((with_reducible apply st_C0); exact rfl) | ((with_reducible apply st_C); exact rfl) | ((with_reducible apply st_D0); exact rfl) | ((with_reducible apply st_D); exact rfl) | ((with_reducible apply st_S); exact rfl))))
theorem lc_fmA {α : Type} {J : It} {step : D → Mem → (Option D → Mem → Prop) → Prop} {Q : List D → Mem → Prop} (f : α → D) (g : α → Option D) {l : List α} {M : Mem} (hok : J.ok M) (hl : l.length ≤ line)
    (hs : ∀ x (R : Option D → Mem → Prop), x ∈ l → R (g x) M → step (f x) M R) (he : Q (l.filterMap g) (J.fin M)) : lcLoop J step Q (l.map f) [] M := by
  refine lc_inv (fun i r M' => M' = M ∧ r = (l.take i).filterMap g) (fun _ _ _ _ h => h.1 ▸ hok) ⟨rfl, by simp⟩ (by rw [List.length_map]; exact hl) (fun i d r M' R hd hI h1 h2 => ?_) (fun r M' hI => ?_)
  · obtain ⟨rfl, rfl⟩ := hI
    rw [List.getElem?_map] at hd
    obtain ⟨x, hx, rfl⟩ := Option.map_eq_some_iff.mp hd
    have hm : x ∈ l := List.mem_of_getElem? hx
    have ht : l.take (i + 1) = l.take i ++ [x] := by rw [List.take_add_one, hx]; rfl
    refine hs x R hm ?_
    cases hg : g x with
    | none => exact h2 _ ⟨rfl, by rw [ht, List.filterMap_append]; simp [hg]⟩
    | some y => exact h1 _ _ ⟨rfl, by rw [ht, List.filterMap_append]; simp [hg]⟩
  · obtain ⟨rfl, rfl⟩ := hI
    rw [List.length_map, List.take_length]
    exact he
theorem lc_mapA {α : Type} {J : It} {step : D → Mem → (Option D → Mem → Prop) → Prop} {Q : List D → Mem → Prop} (f g : α → D) {l : List α} {M : Mem} (hok : J.ok M) (hl : l.length ≤ line)
    (hs : ∀ x (R : Option D → Mem → Prop), x ∈ l → R (some (g x)) M → step (f x) M R) (he : Q (l.map g) (J.fin M)) : lcLoop J step Q (l.map f) [] M :=
  lc_fmA f (fun x => some (g x)) hok hl hs (by rw [List.filterMap_eq_map']; exact he)
/-- lists of what is later -/
def Rows (k : KD) (ad : Nat × Nat → Nat) (K : List (Nat × Nat)) (M : Mem) : Prop := ∀ p ∈ K, ∃ ct : List (Nat × Nat), ct.length ≤ 64 ∧ M (ad p) = some (.lst (ct.map dP)) ∧ ∀ q, q ∈ ct ↔ Later k p q
theorem Rows.fr {k : KD} {ad : Nat × Nat → Nat} {K : List (Nat × Nat)} {M M' : Mem} {d : Nat} {kvs : List (D × D)} (h : Rows k ad K M) (f : Fr (· = d) M M') (hd : M d = some (.dct kvs)) : Rows k ad K M' := fun p hp => by
  obtain ⟨ct, l, e, m⟩ := h p hp
  exact ⟨ct, l, f _ _ (fun z => by rw [z, hd] at e; cases e) e, m⟩
theorem Rows.le {k : KD} {ad : Nat × Nat → Nat} {K : List (Nat × Nat)} {M M' : Mem} (h : Rows k ad K M) (f : Fr no M M') : Rows k ad K M' := fun p hp => by
  obtain ⟨ct, l, e, m⟩ := h p hp
  exact ⟨ct, l, f _ _ (fun z => z) e, m⟩
section
variable {P : Prog} {n : Nat} {M : Mem} {Q : VQ} {X : XQ}
theorem back {S : Nat → Prop} {M M' : Mem} (f : Fr S M M') {r : Nat} (h : M' r = none) (hs : ¬ S r) : M r = none := by
  cases q : M r with
  | none => rfl
  | some u => rw [f _ _ hs q] at h; cases h
end
end MP.PL
end
section
/-! PL10: pairs_of, heights_of, are_apart, apart, alike_pairs. -/
namespace MP.PL
local macro_rules | `(tactic| trivial) => `(tactic| (repeat (first | ((with_reducible apply e_var); exact rfl; exact rfl) | with_reducible refine s_end ?_ | with_reducible refine s_seq ?_ | with_reducible refine s_callX0 ?_ | with_reducible refine s_callXn ?_ | with_reducible refine s_callXr ?_ | with_reducible refine s_callXp ?_ | with_reducible refine e_con ?_ | with_reducible refine es_cons ?_ | with_reducible refine es_nil ?_ | with_reducible refine s_asg ?_ | with_reducible refine s_ret ?_ | with_reducible refine s_expr ?_ | with_reducible refine s_ife ?_ | with_reducible refine e_call ?_ | with_reducible refine q_of ?_ | with_reducible refine q_fr ?_ | with_reducible refine s_skip ?_ | with_reducible refine e_ix ?_ | with_reducible refine e_bin ?_ | with_reducible refine e_cmp ?_ | with_reducible refine e_and ?_ | with_reducible refine e_or ?_ | with_reducible refine e_not ?_ | with_reducible refine e_fld ?_ | with_reducible refine e_len ?_ | with_reducible refine e_mkl ?_ | with_reducible refine e_tup ?_ | with_reducible refine e_tupq ?_ | with_reducible refine e_ite ?_ | with_reducible refine s_for ?_ | with_reducible refine s_asgt ?_ | with_reducible refine s_asgIx ?_ | with_reducible refine s_asgFld ?_ | with_reducible refine e_chain ?_ | with_reducible refine e_isi ?_ | with_reducible refine e_all ?_ | with_reducible refine e_any ?_ | with_reducible refine e_sum ?_ | with_reducible refine e_least ?_ | with_reducible refine e_most ?_ | with_reducible refine e_inq ?_ | with_reducible refine e_ind ?_ | with_reducible refine e_dget ?_ | with_reducible refine e_dpop ?_ | with_reducible refine e_abs ?_ | with_reducible refine e_int ?_ | with_reducible refine e_make ?_ | with_reducible refine e_pop ?_ | with_reducible refine e_append ?_ | with_reducible refine e_extend ?_ | with_reducible refine e_reverse ?_ | with_reducible refine e_dclear ?_ | with_reducible refine e_lenv ?_ | with_reducible refine e_cut ?_ | with_reducible refine e_neg ?_ | with_reducible refine e_dcomp ?_ | with_reducible refine f_disp ?_ | with_reducible refine f_list ?_ | with_reducible refine f_keys ?_ | with_reducible refine f_sorted ?_ | with_reducible refine f_cat1 ?_ | with_reducible refine f_cat2 ?_ | with_reducible refine f_cut ?_ | with_reducible refine f_rng ?_ | with_reducible refine f_lc ?_ | with_reducible refine ql_of ?_ | with_reducible refine ql_fr ?_ | with_reducible refine i_fr ?_ | with_reducible refine i_of ?_ | with_reducible refine i_live ?_ | with_reducible refine i_rng ?_ | with_reducible refine i_enum ?_ | with_reducible refine i_keys ?_ | with_reducible refine ifs_nil ?_ | with_reducible refine ifs_cons ?_ | with_reducible refine s_brk ?_ | with_reducible refine s_cont ?_ | with_reducible refine sq_tup ?_ | with_reducible refine wo_tup ?_ | with_reducible refine tr_bl ?_ | with_reducible refine tr_int ?_ | with_reducible refine tr_tup ?_ | with_reducible refine tr_non ?_ | with_reducible refine b_add ?_ | with_reducible refine b_sub ?_ | with_reducible refine c_lt ?_ | with_reducible refine c_le ?_ | with_reducible refine c_gt ?_ | with_reducible refine c_ge ?_ | with_reducible refine pt_non ?_ | with_reducible refine pt_int ?_ | with_reducible refine a_int ?_ | with_reducible refine a_abs ?_ | with_reducible refine a_len ?_ | with_reducible refine a_neg ?_ | ((with_reducible apply if_t); exact rfl) | ((with_reducible apply if_f); exact rfl) | ((with_reducible apply ex_bind); exact rfl) | ((with_reducible apply isi_t); exact rfl) | ((with_reducible apply isi_f); exact rfl) | ((with_reducible apply le_line); exact rfl) | ((with_reducible apply x_tup); exact rfl) | ((with_reducible apply x_lst); (first | exact rd_lst (by assumption) | assumption); exact rfl) | ((with_reducible apply b_mod); (first | decide | omega)) | ((with_reducible apply b_div); (first | decide | omega)) | ((with_reducible apply b_mul); (first | exact .inr (by unfold small; omega) | exact .inl (by unfold small; omega))) | ((with_reducible apply b_pow); (first | decide | (unfold small; omega))) | ((with_reducible apply fl_ref); assumption; exact rfl) | ((with_reducible apply a_isL); (first | exact rd_lst (by assumption) | assumption)) | ((with_reducible apply a_isDct); (first | exact rd_dct (by assumption) | assumption)) | ((with_reducible apply sq_ref); (first | exact rd_lst (by assumption) | assumption)) | ((with_reducible apply sql_ref); assumption) | ((with_reducible apply ln_ref); (first | exact rd_lst (by assumption) | assumption)) | ((with_reducible apply ln_dct); (first | exact rd_dct (by assumption) | assumption)) | ((with_reducible apply keys_ref); (first | exact rd_dct (by assumption) | assumption)) | ((with_reducible apply wo_ref); (first | exact rd_lst (by assumption) | assumption)) | ((with_reducible apply ex_live); (first | exact rd_lst (by assumption) | assumption)) | ((with_reducible apply st_C0); exact rfl) | ((with_reducible apply st_C); exact rfl) | ((with_reducible apply st_D0); exact rfl) | ((with_reducible apply st_D); exact rfl) | ((with_reducible apply st_S); exact rfl))))
section
variable {P : Prog} {n : Nat} {M : Mem} {Q : VQ} {X : XQ}
theorem KindAt.c_at {k : KD} {a c : Nat} (h : KindAt k a c M) : ∃ kvs, M c = some (.dct kvs) := by obtain ⟨S, e, _⟩ := h.ex; exact ⟨_, e⟩
end
end MP.PL
end
section
/-! PL11: what the laws tell apart themselves. -/
namespace MP.PL
local macro_rules | `(tactic| trivial) => `(tactic| (repeat (first | ((with_reducible apply e_var); exact rfl; exact rfl) | with_reducible refine s_end ?_ | with_reducible refine s_seq ?_ | with_reducible refine s_callX0 ?_ | with_reducible refine s_callXn ?_ | with_reducible refine s_callXr ?_ | with_reducible refine s_callXp ?_ | with_reducible refine e_con ?_ | with_reducible refine es_cons ?_ | with_reducible refine es_nil ?_ | with_reducible refine s_asg ?_ | with_reducible refine s_ret ?_ | with_reducible refine s_expr ?_ | with_reducible refine s_ife ?_ | with_reducible refine e_call ?_ | with_reducible refine q_of ?_ | with_reducible refine q_fr ?_ | with_reducible refine s_skip ?_ | with_reducible refine e_ix ?_ | with_reducible refine e_bin ?_ | with_reducible refine e_cmp ?_ | with_reducible refine e_and ?_ | with_reducible refine e_or ?_ | with_reducible refine e_not ?_ | with_reducible refine e_fld ?_ | with_reducible refine e_len ?_ | with_reducible refine e_mkl ?_ | with_reducible refine e_tup ?_ | with_reducible refine e_tupq ?_ | with_reducible refine e_ite ?_ | with_reducible refine s_for ?_ | with_reducible refine s_asgt ?_ | with_reducible refine s_asgIx ?_ | with_reducible refine s_asgFld ?_ | with_reducible refine e_chain ?_ | with_reducible refine e_isi ?_ | with_reducible refine e_all ?_ | with_reducible refine e_any ?_ | with_reducible refine e_sum ?_ | with_reducible refine e_least ?_ | with_reducible refine e_most ?_ | with_reducible refine e_inq ?_ | with_reducible refine e_ind ?_ | with_reducible refine e_dget ?_ | with_reducible refine e_dpop ?_ | with_reducible refine e_abs ?_ | with_reducible refine e_int ?_ | with_reducible refine e_make ?_ | with_reducible refine e_pop ?_ | with_reducible refine e_append ?_ | with_reducible refine e_extend ?_ | with_reducible refine e_reverse ?_ | with_reducible refine e_dclear ?_ | with_reducible refine e_lenv ?_ | with_reducible refine e_cut ?_ | with_reducible refine e_neg ?_ | with_reducible refine e_dcomp ?_ | with_reducible refine f_disp ?_ | with_reducible refine f_list ?_ | with_reducible refine f_keys ?_ | with_reducible refine f_sorted ?_ | with_reducible refine f_cat1 ?_ | with_reducible refine f_cat2 ?_ | with_reducible refine f_cut ?_ | with_reducible refine f_rng ?_ | with_reducible refine f_lc ?_ | with_reducible refine ql_of ?_ | with_reducible refine ql_fr ?_ | with_reducible refine i_fr ?_ | with_reducible refine i_of ?_ | with_reducible refine i_live ?_ | with_reducible refine i_rng ?_ | with_reducible refine i_enum ?_ | with_reducible refine i_keys ?_ | with_reducible refine ifs_nil ?_ | with_reducible refine ifs_cons ?_ | with_reducible refine s_brk ?_ | with_reducible refine s_cont ?_ | with_reducible refine sq_tup ?_ | with_reducible refine wo_tup ?_ | with_reducible refine tr_bl ?_ | with_reducible refine tr_int ?_ | with_reducible refine tr_tup ?_ | with_reducible refine tr_non ?_ | with_reducible refine b_add ?_ | with_reducible refine b_sub ?_ | with_reducible refine c_lt ?_ | with_reducible refine c_le ?_ | with_reducible refine c_gt ?_ | with_reducible refine c_ge ?_ | with_reducible refine pt_non ?_ | with_reducible refine pt_int ?_ | with_reducible refine a_int ?_ | with_reducible refine a_abs ?_ | with_reducible refine a_len ?_ | with_reducible refine a_neg ?_ | ((with_reducible apply if_t); exact rfl) | ((with_reducible apply if_f); exact rfl) | ((with_reducible apply ex_bind); exact rfl) | ((with_reducible apply isi_t); exact rfl) | ((with_reducible apply isi_f); exact rfl) | ((with_reducible apply le_line); exact rfl) | ((with_reducible apply x_tup); exact rfl) | ((with_reducible apply x_lst); (first | exact rd_lst (by assumption) | assumption); exact rfl) | ((with_reducible apply b_mod); (first | decide | omega)) | ((with_reducible apply b_div); (first | decide | omega)) | ((with_reducible apply b_mul); (first | exact .inr (by unfold small; omega) | exact .inl (by unfold small; omega))) | ((with_reducible apply b_pow); (first | decide | (unfold small; omega))) | ((with_reducible apply fl_ref); assumption; exact rfl) | ((with_reducible apply a_isL); (first | exact rd_lst (by assumption) | assumption)) | ((with_reducible apply a_isDct); (first | exact rd_dct (by assumption) | assumption)) | ((with_reducible apply sq_ref); (first | exact rd_lst (by assumption) | assumption)) | ((with_reducible apply sql_ref); assumption) | ((with_reducible apply ln_ref); (first | exact rd_lst (by assumption) | assumption)) | ((with_reducible apply ln_dct); (first | exact rd_dct (by assumption) | assumption)) | ((with_reducible apply keys_ref); (first | exact rd_dct (by assumption) | assumption)) | ((with_reducible apply wo_ref); (first | exact rd_lst (by assumption) | assumption)) | ((with_reducible apply ex_live); (first | exact rd_lst (by assumption) | assumption)) | ((with_reducible apply st_C0); exact rfl) | ((with_reducible apply st_C); exact rfl) | ((with_reducible apply st_D0); exact rfl) | ((with_reducible apply st_D); exact rfl) | ((with_reducible apply st_S); exact rfl))))
section
variable {P : Prog} {n : Nat} {M : Mem} {Q : VQ} {X : XQ}
end
end MP.PL
end
section
/-! PL12: what the laws tell apart themselves, on. -/
namespace MP.PL
local macro_rules | `(tactic| trivial) => `(tactic| (repeat (first | ((with_reducible apply e_var); exact rfl; exact rfl) | with_reducible refine s_end ?_ | with_reducible refine s_seq ?_ | with_reducible refine s_callX0 ?_ | with_reducible refine s_callXn ?_ | with_reducible refine s_callXr ?_ | with_reducible refine s_callXp ?_ | with_reducible refine e_con ?_ | with_reducible refine es_cons ?_ | with_reducible refine es_nil ?_ | with_reducible refine s_asg ?_ | with_reducible refine s_ret ?_ | with_reducible refine s_expr ?_ | with_reducible refine s_ife ?_ | with_reducible refine e_call ?_ | with_reducible refine q_of ?_ | with_reducible refine q_fr ?_ | with_reducible refine s_skip ?_ | with_reducible refine e_ix ?_ | with_reducible refine e_bin ?_ | with_reducible refine e_cmp ?_ | with_reducible refine e_and ?_ | with_reducible refine e_or ?_ | with_reducible refine e_not ?_ | with_reducible refine e_fld ?_ | with_reducible refine e_len ?_ | with_reducible refine e_mkl ?_ | with_reducible refine e_tup ?_ | with_reducible refine e_tupq ?_ | with_reducible refine e_ite ?_ | with_reducible refine s_for ?_ | with_reducible refine s_asgt ?_ | with_reducible refine s_asgIx ?_ | with_reducible refine s_asgFld ?_ | with_reducible refine e_chain ?_ | with_reducible refine e_isi ?_ | with_reducible refine e_all ?_ | with_reducible refine e_any ?_ | with_reducible refine e_sum ?_ | with_reducible refine e_least ?_ | with_reducible refine e_most ?_ | with_reducible refine e_inq ?_ | with_reducible refine e_ind ?_ | with_reducible refine e_dget ?_ | with_reducible refine e_dpop ?_ | with_reducible refine e_abs ?_ | with_reducible refine e_int ?_ | with_reducible refine e_make ?_ | with_reducible refine e_pop ?_ | with_reducible refine e_append ?_ | with_reducible refine e_extend ?_ | with_reducible refine e_reverse ?_ | with_reducible refine e_dclear ?_ | with_reducible refine e_lenv ?_ | with_reducible refine e_cut ?_ | with_reducible refine e_neg ?_ | with_reducible refine e_dcomp ?_ | with_reducible refine f_disp ?_ | with_reducible refine f_list ?_ | with_reducible refine f_keys ?_ | with_reducible refine f_sorted ?_ | with_reducible refine f_cat1 ?_ | with_reducible refine f_cat2 ?_ | with_reducible refine f_cut ?_ | with_reducible refine f_rng ?_ | with_reducible refine f_lc ?_ | with_reducible refine ql_of ?_ | with_reducible refine ql_fr ?_ | with_reducible refine i_fr ?_ | with_reducible refine i_of ?_ | with_reducible refine i_live ?_ | with_reducible refine i_rng ?_ | with_reducible refine i_enum ?_ | with_reducible refine i_keys ?_ | with_reducible refine ifs_nil ?_ | with_reducible refine ifs_cons ?_ | with_reducible refine s_brk ?_ | with_reducible refine s_cont ?_ | with_reducible refine sq_tup ?_ | with_reducible refine wo_tup ?_ | with_reducible refine tr_bl ?_ | with_reducible refine tr_int ?_ | with_reducible refine tr_tup ?_ | with_reducible refine tr_non ?_ | with_reducible refine b_add ?_ | with_reducible refine b_sub ?_ | with_reducible refine c_lt ?_ | with_reducible refine c_le ?_ | with_reducible refine c_gt ?_ | with_reducible refine c_ge ?_ | with_reducible refine pt_non ?_ | with_reducible refine pt_int ?_ | with_reducible refine a_int ?_ | with_reducible refine a_abs ?_ | with_reducible refine a_len ?_ | with_reducible refine a_neg ?_ | ((with_reducible apply if_t); exact rfl) | ((with_reducible apply if_f); exact rfl) | ((with_reducible apply ex_bind); exact rfl) | ((with_reducible apply isi_t); exact rfl) | ((with_reducible apply isi_f); exact rfl) | ((with_reducible apply le_line); exact rfl) | ((with_reducible apply x_tup); exact rfl) | ((with_reducible apply x_lst); (first | exact rd_lst (by assumption) | assumption); exact rfl) | ((with_reducible apply b_mod); (first | decide | omega)) | ((with_reducible apply b_div); (first | decide | omega)) | ((with_reducible apply b_mul); (first | exact .inr (by unfold small; omega) | exact .inl (by unfold small; omega))) | ((with_reducible apply b_pow); (first | decide | (unfold small; omega))) | ((with_reducible apply fl_ref); assumption; exact rfl) | ((with_reducible apply a_isL); (first | exact rd_lst (by assumption) | assumption)) | ((with_reducible apply a_isDct); (first | exact rd_dct (by assumption) | assumption)) | ((with_reducible apply sq_ref); (first | exact rd_lst (by assumption) | assumption)) | ((with_reducible apply sql_ref); assumption) | ((with_reducible apply ln_ref); (first | exact rd_lst (by assumption) | assumption)) | ((with_reducible apply ln_dct); (first | exact rd_dct (by assumption) | assumption)) | ((with_reducible apply keys_ref); (first | exact rd_dct (by assumption) | assumption)) | ((with_reducible apply wo_ref); (first | exact rd_lst (by assumption) | assumption)) | ((with_reducible apply ex_live); (first | exact rd_lst (by assumption) | assumption)) | ((with_reducible apply st_C0); exact rfl) | ((with_reducible apply st_C); exact rfl) | ((with_reducible apply st_D0); exact rfl) | ((with_reducible apply st_D); exact rfl) | ((with_reducible apply st_S); exact rfl))))
section
variable {P : Prog} {n : Nat} {M : Mem} {Q : VQ} {X : XQ}
end
end MP.PL
end
section
/-! PL_k18: apart. -/
namespace MP.PL
local macro_rules | `(tactic| trivial) => `(tactic| (repeat (first | ((with_reducible apply e_var); exact rfl; exact rfl) | with_reducible refine s_end ?_ | with_reducible refine s_seq ?_ | with_reducible refine s_callX0 ?_ | with_reducible refine s_callXn ?_ | with_reducible refine s_callXr ?_ | with_reducible refine s_callXp ?_ | with_reducible refine e_con ?_ | with_reducible refine es_cons ?_ | with_reducible refine es_nil ?_ | with_reducible refine s_asg ?_ | with_reducible refine s_ret ?_ | with_reducible refine s_expr ?_ | with_reducible refine s_ife ?_ | with_reducible refine e_call ?_ | with_reducible refine q_of ?_ | with_reducible refine q_fr ?_ | with_reducible refine s_skip ?_ | with_reducible refine e_ix ?_ | with_reducible refine e_bin ?_ | with_reducible refine e_cmp ?_ | with_reducible refine e_and ?_ | with_reducible refine e_or ?_ | with_reducible refine e_not ?_ | with_reducible refine e_fld ?_ | with_reducible refine e_len ?_ | with_reducible refine e_mkl ?_ | with_reducible refine e_tup ?_ | with_reducible refine e_tupq ?_ | with_reducible refine e_ite ?_ | with_reducible refine s_for ?_ | with_reducible refine s_asgt ?_ | with_reducible refine s_asgIx ?_ | with_reducible refine s_asgFld ?_ | with_reducible refine e_chain ?_ | with_reducible refine e_isi ?_ | with_reducible refine e_all ?_ | with_reducible refine e_any ?_ | with_reducible refine e_sum ?_ | with_reducible refine e_least ?_ | with_reducible refine e_most ?_ | with_reducible refine e_inq ?_ | with_reducible refine e_ind ?_ | with_reducible refine e_dget ?_ | with_reducible refine e_dpop ?_ | with_reducible refine e_abs ?_ | with_reducible refine e_int ?_ | with_reducible refine e_make ?_ | with_reducible refine e_pop ?_ | with_reducible refine e_append ?_ | with_reducible refine e_extend ?_ | with_reducible refine e_reverse ?_ | with_reducible refine e_dclear ?_ | with_reducible refine e_lenv ?_ | with_reducible refine e_cut ?_ | with_reducible refine e_neg ?_ | with_reducible refine e_dcomp ?_ | with_reducible refine f_disp ?_ | with_reducible refine f_list ?_ | with_reducible refine f_keys ?_ | with_reducible refine f_sorted ?_ | with_reducible refine f_cat1 ?_ | with_reducible refine f_cat2 ?_ | with_reducible refine f_cut ?_ | with_reducible refine f_rng ?_ | with_reducible refine f_lc ?_ | with_reducible refine ql_of ?_ | with_reducible refine ql_fr ?_ | with_reducible refine i_fr ?_ | with_reducible refine i_of ?_ | with_reducible refine i_live ?_ | with_reducible refine i_rng ?_ | with_reducible refine i_enum ?_ | with_reducible refine i_keys ?_ | with_reducible refine ifs_nil ?_ | with_reducible refine ifs_cons ?_ | with_reducible refine s_brk ?_ | with_reducible refine s_cont ?_ | with_reducible refine sq_tup ?_ | with_reducible refine wo_tup ?_ | with_reducible refine tr_bl ?_ | with_reducible refine tr_int ?_ | with_reducible refine tr_tup ?_ | with_reducible refine tr_non ?_ | with_reducible refine b_add ?_ | with_reducible refine b_sub ?_ | with_reducible refine c_lt ?_ | with_reducible refine c_le ?_ | with_reducible refine c_gt ?_ | with_reducible refine c_ge ?_ | with_reducible refine pt_non ?_ | with_reducible refine pt_int ?_ | with_reducible refine a_int ?_ | with_reducible refine a_abs ?_ | with_reducible refine a_len ?_ | with_reducible refine a_neg ?_ | ((with_reducible apply if_t); exact rfl) | ((with_reducible apply if_f); exact rfl) | ((with_reducible apply ex_bind); exact rfl) | ((with_reducible apply isi_t); exact rfl) | ((with_reducible apply isi_f); exact rfl) | ((with_reducible apply le_line); exact rfl) | ((with_reducible apply x_tup); exact rfl) | ((with_reducible apply x_lst); (first | exact rd_lst (by assumption) | assumption); exact rfl) | ((with_reducible apply b_mod); (first | decide | omega)) | ((with_reducible apply b_div); (first | decide | omega)) | ((with_reducible apply b_mul); (first | exact .inr (by unfold small; omega) | exact .inl (by unfold small; omega))) | ((with_reducible apply b_pow); (first | decide | (unfold small; omega))) | ((with_reducible apply fl_ref); assumption; exact rfl) | ((with_reducible apply a_isL); (first | exact rd_lst (by assumption) | assumption)) | ((with_reducible apply a_isDct); (first | exact rd_dct (by assumption) | assumption)) | ((with_reducible apply sq_ref); (first | exact rd_lst (by assumption) | assumption)) | ((with_reducible apply sql_ref); assumption) | ((with_reducible apply ln_ref); (first | exact rd_lst (by assumption) | assumption)) | ((with_reducible apply ln_dct); (first | exact rd_dct (by assumption) | assumption)) | ((with_reducible apply keys_ref); (first | exact rd_dct (by assumption) | assumption)) | ((with_reducible apply wo_ref); (first | exact rd_lst (by assumption) | assumption)) | ((with_reducible apply ex_live); (first | exact rd_lst (by assumption) | assumption)) | ((with_reducible apply st_C0); exact rfl) | ((with_reducible apply st_C); exact rfl) | ((with_reducible apply st_D0); exact rfl) | ((with_reducible apply st_D); exact rfl) | ((with_reducible apply st_S); exact rfl))))
section
variable {P : Prog} {n : Nat} {M : Mem} {Q : VQ} {X : XQ}
/-- a kind that is made of drawn parts -/
theorem KindAt.thrown {k : KD} {a c p g : Nat} {M M' : Mem} (h : KindAt k a c M) (hd : Dice p g M) (t : Thrown p g M M') : KindAt k a c M' := by
  obtain ⟨cs, i, x, y, z, hp, _⟩ := hd.ex
  refine h.fr t.fr (fun e => ?_) (fun e => ?_) fun t kvs e e2 => ?_
  · have := h.obj; rw [e, hp] at this; cases this
  · obtain ⟨kvs, e2⟩ := h.c_at; rw [e, hp] at e2; cases e2
  · rw [e, hp] at e2; cases e2
theorem Dice.kind {k : KD} {a c p g : Nat} {M M' : Mem} (hd : Dice p g M) (h : KindAt k a c M) (f : Fr (· = c) M M') : Dice p g M' := by
  obtain ⟨cs, i, x, y, z, hp, hg, _⟩ := hd.ex
  obtain ⟨kvs, e2⟩ := h.c_at
  exact hd.fr f (fun e => by rw [e, e2] at hp; cases hp) fun e => by rw [e, e2] at hg; cases hg
theorem Dice.made {p g o : Nat} {M M' : Mem} (hd : Dice p g M) (ho : M o = none) (f : Fr (· = o) (M.set o (.ins "Kind" [])) M') : Dice p g M' :=
  (hd.le (Fr.new (o := .ins "Kind" []) ho)).fr f (fun e => hd.hp (by rw [e]; exact ho)) fun e => hd.hg (by rw [e]; exact ho)
end
end MP.PL
end
section
/-! PLE: what is equal to itself. -/
namespace MP.PL
theorem Fr.put {S : Nat → Prop} {M0 M1 : Mem} {p : Nat} {o : MO} (f : Fr S M0 M1) (h : M0 p = none) : Fr S M0 (M1.set p o) := fun a u n e => by
  have : a ≠ p := fun z => by rw [z, h] at e; cases e
  rw [Mem.set_ne _ _ this]
  exact f a u n e
end MP.PL
end
section
/-! PL13: alike_pairs. -/
namespace MP.PL
local macro_rules | `(tactic| trivial) => `(tactic| (repeat (first | ((with_reducible apply e_var); exact rfl; exact rfl) | with_reducible refine s_end ?_ | with_reducible refine s_seq ?_ | with_reducible refine s_callX0 ?_ | with_reducible refine s_callXn ?_ | with_reducible refine s_callXr ?_ | with_reducible refine s_callXp ?_ | with_reducible refine e_con ?_ | with_reducible refine es_cons ?_ | with_reducible refine es_nil ?_ | with_reducible refine s_asg ?_ | with_reducible refine s_ret ?_ | with_reducible refine s_expr ?_ | with_reducible refine s_ife ?_ | with_reducible refine e_call ?_ | with_reducible refine q_of ?_ | with_reducible refine q_fr ?_ | with_reducible refine s_skip ?_ | with_reducible refine e_ix ?_ | with_reducible refine e_bin ?_ | with_reducible refine e_cmp ?_ | with_reducible refine e_and ?_ | with_reducible refine e_or ?_ | with_reducible refine e_not ?_ | with_reducible refine e_fld ?_ | with_reducible refine e_len ?_ | with_reducible refine e_mkl ?_ | with_reducible refine e_tup ?_ | with_reducible refine e_tupq ?_ | with_reducible refine e_ite ?_ | with_reducible refine s_for ?_ | with_reducible refine s_asgt ?_ | with_reducible refine s_asgIx ?_ | with_reducible refine s_asgFld ?_ | with_reducible refine e_chain ?_ | with_reducible refine e_isi ?_ | with_reducible refine e_all ?_ | with_reducible refine e_any ?_ | with_reducible refine e_sum ?_ | with_reducible refine e_least ?_ | with_reducible refine e_most ?_ | with_reducible refine e_inq ?_ | with_reducible refine e_ind ?_ | with_reducible refine e_dget ?_ | with_reducible refine e_dpop ?_ | with_reducible refine e_abs ?_ | with_reducible refine e_int ?_ | with_reducible refine e_make ?_ | with_reducible refine e_pop ?_ | with_reducible refine e_append ?_ | with_reducible refine e_extend ?_ | with_reducible refine e_reverse ?_ | with_reducible refine e_dclear ?_ | with_reducible refine e_lenv ?_ | with_reducible refine e_cut ?_ | with_reducible refine e_neg ?_ | with_reducible refine e_dcomp ?_ | with_reducible refine f_disp ?_ | with_reducible refine f_list ?_ | with_reducible refine f_keys ?_ | with_reducible refine f_sorted ?_ | with_reducible refine f_cat1 ?_ | with_reducible refine f_cat2 ?_ | with_reducible refine f_cut ?_ | with_reducible refine f_rng ?_ | with_reducible refine f_lc ?_ | with_reducible refine ql_of ?_ | with_reducible refine ql_fr ?_ | with_reducible refine i_fr ?_ | with_reducible refine i_of ?_ | with_reducible refine i_live ?_ | with_reducible refine i_rng ?_ | with_reducible refine i_enum ?_ | with_reducible refine i_keys ?_ | with_reducible refine ifs_nil ?_ | with_reducible refine ifs_cons ?_ | with_reducible refine s_brk ?_ | with_reducible refine s_cont ?_ | with_reducible refine sq_tup ?_ | with_reducible refine wo_tup ?_ | with_reducible refine tr_bl ?_ | with_reducible refine tr_int ?_ | with_reducible refine tr_tup ?_ | with_reducible refine tr_non ?_ | with_reducible refine b_add ?_ | with_reducible refine b_sub ?_ | with_reducible refine c_lt ?_ | with_reducible refine c_le ?_ | with_reducible refine c_gt ?_ | with_reducible refine c_ge ?_ | with_reducible refine pt_non ?_ | with_reducible refine pt_int ?_ | with_reducible refine a_int ?_ | with_reducible refine a_abs ?_ | with_reducible refine a_len ?_ | with_reducible refine a_neg ?_ | ((with_reducible apply if_t); exact rfl) | ((with_reducible apply if_f); exact rfl) | ((with_reducible apply ex_bind); exact rfl) | ((with_reducible apply isi_t); exact rfl) | ((with_reducible apply isi_f); exact rfl) | ((with_reducible apply le_line); exact rfl) | ((with_reducible apply x_tup); exact rfl) | ((with_reducible apply x_lst); (first | exact rd_lst (by assumption) | assumption); exact rfl) | ((with_reducible apply b_mod); (first | decide | omega)) | ((with_reducible apply b_div); (first | decide | omega)) | ((with_reducible apply b_mul); (first | exact .inr (by unfold small; omega) | exact .inl (by unfold small; omega))) | ((with_reducible apply b_pow); (first | decide | (unfold small; omega))) | ((with_reducible apply fl_ref); assumption; exact rfl) | ((with_reducible apply a_isL); (first | exact rd_lst (by assumption) | assumption)) | ((with_reducible apply a_isDct); (first | exact rd_dct (by assumption) | assumption)) | ((with_reducible apply sq_ref); (first | exact rd_lst (by assumption) | assumption)) | ((with_reducible apply sql_ref); assumption) | ((with_reducible apply ln_ref); (first | exact rd_lst (by assumption) | assumption)) | ((with_reducible apply ln_dct); (first | exact rd_dct (by assumption) | assumption)) | ((with_reducible apply keys_ref); (first | exact rd_dct (by assumption) | assumption)) | ((with_reducible apply wo_ref); (first | exact rd_lst (by assumption) | assumption)) | ((with_reducible apply ex_live); (first | exact rd_lst (by assumption) | assumption)) | ((with_reducible apply st_C0); exact rfl) | ((with_reducible apply st_C); exact rfl) | ((with_reducible apply st_D0); exact rfl) | ((with_reducible apply st_D); exact rfl) | ((with_reducible apply st_S); exact rfl))))
section
variable {P : Prog} {n : Nat} {M : Mem} {Q : VQ} {X : XQ}
end
end MP.PL
end
section
/-! PL14: rows of answers, and how they go with heights: plain laws. -/
namespace MP.PL
/-- behind a row of answers from s -/
inductive RowTo (k : KD) (s : Nat) : List Nat → Nat → Prop
  | nil : RowTo k s [] s
  | drift {ρ : List Nat} {x y : Nat} : RowTo k s ρ x → y ∈ k.drift x → RowTo k s ρ y
  | look {ρ : List Nat} {x y a : Nat} : RowTo k s ρ x → (a, y) ∈ k.look x → RowTo k s (ρ ++ [a]) y
/-- .. from both -/
inductive JRow (k : KD) (p : Nat × Nat) : List Nat → Nat × Nat → Prop
  | nil : JRow k p [] p
  | drift {ρ : List Nat} {x y : Nat × Nat} : JRow k p ρ x → y ∈ dr k x → JRow k p ρ y
  | look {ρ : List Nat} {x y : Nat × Nat} {a : Nat} : JRow k p ρ x → (a, y.1) ∈ k.look x.1 → (a, y.2) ∈ k.look x.2 → JRow k p (ρ ++ [a]) y
theorem mem_dr {k : KD} {p q : Nat × Nat} : q ∈ dr k p ↔ (q.1 ∈ k.drift p.1 ∧ q.2 = p.2) ∨ (q.1 = p.1 ∧ q.2 ∈ k.drift p.2) := by
  unfold dr
  rw [List.mem_append, List.mem_map, List.mem_map]
  constructor
  · rintro (⟨t, ht, rfl⟩ | ⟨t, ht, rfl⟩)
    · exact .inl ⟨ht, rfl⟩
    · exact .inr ⟨rfl, ht⟩
  · rintro (⟨h1, h2⟩ | ⟨h1, h2⟩)
    · exact .inl ⟨q.1, h1, Prod.ext rfl h2.symm⟩
    · exact .inr ⟨q.2, h2, Prod.ext h1.symm rfl⟩
theorem JRow.both {k : KD} {p q : Nat × Nat} {ρ : List Nat} (h : JRow k p ρ q) : RowTo k p.1 ρ q.1 ∧ RowTo k p.2 ρ q.2 := by
  induction h with
  | nil => exact ⟨.nil, .nil⟩
  | drift _ hy ih =>
    rcases mem_dr.mp hy with ⟨h1, h2⟩ | ⟨h1, h2⟩
    · exact ⟨ih.1.drift h1, h2 ▸ ih.2⟩
    · exact ⟨h1 ▸ ih.1, ih.2.drift h2⟩
  | look _ h1 h2 ih => exact ⟨ih.1.look h1, ih.2.look h2⟩
theorem RowTo.rt {k : KD} {s x y : Nat} {ρ : List Nat} (h : RowTo k s ρ x) (r : RT k.drift x y) : RowTo k s ρ y := by
  induction r with
  | refl => exact h
  | step _ hz ih => exact ih.drift hz
theorem JRow.rt {k : KD} {p x y : Nat × Nat} {ρ : List Nat} (h : JRow k p ρ x) (r : RT (dr k) x y) : JRow k p ρ y := by
  induction r with
  | refl => exact h
  | step _ hz ih => exact ih.drift hz
theorem htLe_rt {k : KD} {p q : Nat × Nat} (r : RT (dr k) p q) {h : Nat} (a : HtLe k h p) : HtLe k h q := by
  have key : ∀ {q'}, Later k q q' → Later k p q' := fun ⟨x, h1, h2⟩ => ⟨x, r.trans h1, h2⟩
  cases h with
  | zero => exact fun q' hq => a q' (key hq)
  | succ h => exact fun q' hq => a q' (key hq)
/-- the most joint looks from what comes of u and v -/
def Most (k : KD) (u v m : Nat) : Prop := (∀ p, In k u v p → HtLe k m p) ∧ ∃ p, In k u v p ∧ HtLe k m p ∧ ∀ h', HtLe k h' p → m ≤ h'
theorem Most.uniq {k : KD} {u v m m' : Nat} (a : Most k u v m) (b : Most k u v m') : m = m' := by
  obtain ⟨a1, p, a2, _, a4⟩ := a
  obtain ⟨b1, q, b2, _, b4⟩ := b
  have := a4 m' (b1 p a2)
  have := b4 m (a1 q b2)
  omega
end MP.PL
end
section
/-! PL17: stand-ins: plain laws. -/
namespace MP.PL
def Fits (k1 k2 : KD) (ρ : List Nat) (s : Nat) : Prop := ∀ u (h : u < ρ.length), Apart k2 u ρ.length → Apart k1 ρ[u] s
open Classical in
noncomputable def nexts (k1 k2 : KD) (ρ : List Nat) : List Nat := (List.range k1.n).filter fun s => decide (Fits k1 k2 ρ s)
noncomputable def stepR (k1 k2 : KD) (ρ : List Nat) : List (List Nat) := (nexts k1 k2 ρ).map fun s => ρ ++ [s]
noncomputable def ext (k1 k2 : KD) : Nat → List Nat → List (List Nat)
  | 0, ρ => [ρ]
  | d + 1, ρ => (stepR k1 k2 ρ).flatMap (ext k1 k2 d)
/-! ### the other way about -/
end MP.PL
end
section
/-! PL44: sure kinds: rows that go round at last, their classes. -/
namespace MP.PL
/-! ### rows that go round -/
def Per (f : Nat → Nat) (m : Nat) : Prop := ∀ i, f (i + m) = f i
def MinP (f : Nat → Nat) (d : Nat) : Prop := 1 ≤ d ∧ Per f d ∧ ∀ d', 1 ≤ d' → Per f d' → d ≤ d'
def win (f : Nat → Nat) (a d : Nat) : List Nat := (List.range d).map fun i => f (a + i)
theorem Per.mul {f : Nat → Nat} {m : Nat} (h : Per f m) : ∀ q i, f (i + m * q) = f i
  | 0, i => by simp
  | q + 1, i => by rw [Nat.mul_succ, ← Nat.add_assoc, h, h.mul q]
theorem Per.sub {f : Nat → Nat} {a b : Nat} (ha : Per f a) (hb : Per f b) (h : a ≤ b) : Per f (b - a) := fun i => by
  have e : i + (b - a) + a = i + b := by omega
  rw [← ha (i + (b - a)), e, hb]
theorem Per.mod {f : Nat → Nat} {d m : Nat} (hd : Per f d) (hm : Per f m) : Per f (m % d) := fun i => by
  have e : i + m % d + d * (m / d) = i + m := by have := Nat.mod_add_div m d; omega
  rw [← hd.mul (m / d) (i + m % d), e, hm]
theorem MinP.uniq {f : Nat → Nat} {d d' : Nat} (a : MinP f d) (b : MinP f d') : d = d' := by
  have h1 := a.2.2 d' b.1 b.2.1
  have h2 := b.2.2 d a.1 a.2.1
  omega
theorem least_nat {p : Nat → Prop} : ∀ n, p n → ∃ m, p m ∧ m ≤ n ∧ ∀ j, p j → m ≤ j := by
  intro n
  induction n using Nat.strongRecOn with
  | _ n ih =>
    intro hn
    by_cases h : ∃ j, j < n ∧ p j
    · obtain ⟨j, h1, h2⟩ := h
      obtain ⟨m, a, b, c⟩ := ih j h1 h2
      exact ⟨m, a, by omega, c⟩
    · exact ⟨n, hn, Nat.le_refl _, fun j hj => by
        apply Classical.byContradiction
        intro z
        exact h ⟨j, by omega, hj⟩⟩
theorem win_len {f : Nat → Nat} {a d : Nat} : (win f a d).length = d := by simp [win]
/-- the class of a row that goes round -/
def IsCls (f : Nat → Nat) (c : List Nat) : Prop := ∃ d, MinP f d ∧ (∃ a, c = win f a d) ∧ ∀ a, ¬ win f a d < c
theorem IsCls.uniq {f : Nat → Nat} {c c' : List Nat} (h : IsCls f c) (h' : IsCls f c') : c = c' := by
  obtain ⟨d, h1, ⟨a, rfl⟩, h3⟩ := h
  obtain ⟨d', h1', ⟨a', rfl⟩, h3'⟩ := h'
  have := h1.uniq h1'
  subst this
  exact List.le_antisymm (List.not_lt.mp (h3 a')) (List.not_lt.mp (h3' a))
/-! ### sure kinds -/
structure KD.Sure (k : KD) : Prop where
  one : ∀ os ∈ k.looks, os.length = 1
  no : ∀ r ∈ k.drifts, r = []
def KD.ans (k : KD) (s : Nat) : Nat := ((k.look s).head?.map (·.1)).getD 0
def KD.nxt (k : KD) (s : Nat) : Nat := ((k.look s).head?.map (·.2)).getD 0
def KD.it (k : KD) : Nat → Nat → Nat
  | 0, s => s
  | i + 1, s => k.nxt (k.it i s)
def KD.sq (k : KD) (s i : Nat) : Nat := k.ans (k.it i s)
section
variable {k : KD}
theorem it_add : ∀ (i j s : Nat), k.it (i + j) s = k.it i (k.it j s)
  | 0, j, s => by simp [KD.it]
  | i + 1, j, s => by
    have e : i + 1 + j = (i + j) + 1 := by omega
    rw [e]
    show k.nxt (k.it (i + j) s) = k.nxt (k.it i (k.it j s))
    rw [it_add i j s]
theorem sure_look (hk : k.Ok) (hs : k.Sure) {s : Nat} (h : s < k.n) : k.look s = [(k.ans s, k.nxt s)] := by
  have h' : s < k.looks.length := h
  have e : k.look s = k.looks[s] := by unfold KD.look; rw [List.getD_eq_getElem?_getD, List.getElem?_eq_getElem h']; rfl
  have l1 := hs.one _ (List.getElem_mem h')
  rw [← e] at l1
  unfold KD.ans KD.nxt
  match hl : k.look s, l1 with
  | [x], _ => rfl
theorem nxt_lt (hk : k.Ok) (hs : k.Sure) {s : Nat} (h : s < k.n) : k.nxt s < k.n :=
  (look_ok hk h).s (k.ans s, k.nxt s) (by rw [sure_look hk hs h]; simp)
theorem it_lt (hk : k.Ok) (hs : k.Sure) {s : Nat} (h : s < k.n) : ∀ i, k.it i s < k.n
  | 0 => h
  | i + 1 => nxt_lt hk hs (it_lt hk hs h i)
/-- a way of looks comes round -/
theorem come_round (hk : k.Ok) (hs : k.Sure) {s : Nat} (h : s < k.n) : ∃ b T, b < T ∧ T ≤ k.n ∧ k.it T s = k.it b s := by
  apply Classical.byContradiction
  intro n
  have nd : ((List.range (k.n + 1)).map fun i => k.it i s).Nodup := by
    unfold List.Nodup
    rw [List.pairwise_map]
    refine List.Pairwise.imp_of_mem (fun {a b} ha hb hab e => ?_) List.pairwise_lt_range
    exact n ⟨a, b, hab, by have := List.mem_range.mp hb; omega, e.symm⟩
  have := nodup_len (m := List.range k.n) nd fun x hx => by
    obtain ⟨i, _, rfl⟩ := List.mem_map.mp hx
    exact List.mem_range.mpr (it_lt hk hs h i)
  simp at this
  omega
end
/-! ### the least of rows -/
end MP.PL
end
section
/-! PL45: the class of a standing. -/
namespace MP.PL
local macro_rules | `(tactic| trivial) => `(tactic| (repeat (first | ((with_reducible apply e_var); exact rfl; exact rfl) | with_reducible refine s_end ?_ | with_reducible refine s_seq ?_ | with_reducible refine s_callX0 ?_ | with_reducible refine s_callXn ?_ | with_reducible refine s_callXr ?_ | with_reducible refine s_callXp ?_ | with_reducible refine e_con ?_ | with_reducible refine es_cons ?_ | with_reducible refine es_nil ?_ | with_reducible refine s_asg ?_ | with_reducible refine s_ret ?_ | with_reducible refine s_expr ?_ | with_reducible refine s_ife ?_ | with_reducible refine e_call ?_ | with_reducible refine q_of ?_ | with_reducible refine q_fr ?_ | with_reducible refine s_skip ?_ | with_reducible refine e_ix ?_ | with_reducible refine e_bin ?_ | with_reducible refine e_cmp ?_ | with_reducible refine e_and ?_ | with_reducible refine e_or ?_ | with_reducible refine e_not ?_ | with_reducible refine e_fld ?_ | with_reducible refine e_len ?_ | with_reducible refine e_mkl ?_ | with_reducible refine e_tup ?_ | with_reducible refine e_tupq ?_ | with_reducible refine e_ite ?_ | with_reducible refine s_for ?_ | with_reducible refine s_asgt ?_ | with_reducible refine s_asgIx ?_ | with_reducible refine s_asgFld ?_ | with_reducible refine e_chain ?_ | with_reducible refine e_isi ?_ | with_reducible refine e_all ?_ | with_reducible refine e_any ?_ | with_reducible refine e_sum ?_ | with_reducible refine e_least ?_ | with_reducible refine e_most ?_ | with_reducible refine e_inq ?_ | with_reducible refine e_ind ?_ | with_reducible refine e_dget ?_ | with_reducible refine e_dpop ?_ | with_reducible refine e_abs ?_ | with_reducible refine e_int ?_ | with_reducible refine e_make ?_ | with_reducible refine e_pop ?_ | with_reducible refine e_append ?_ | with_reducible refine e_extend ?_ | with_reducible refine e_reverse ?_ | with_reducible refine e_dclear ?_ | with_reducible refine e_lenv ?_ | with_reducible refine e_cut ?_ | with_reducible refine e_neg ?_ | with_reducible refine e_dcomp ?_ | with_reducible refine f_disp ?_ | with_reducible refine f_list ?_ | with_reducible refine f_keys ?_ | with_reducible refine f_sorted ?_ | with_reducible refine f_cat1 ?_ | with_reducible refine f_cat2 ?_ | with_reducible refine f_cut ?_ | with_reducible refine f_rng ?_ | with_reducible refine f_lc ?_ | with_reducible refine ql_of ?_ | with_reducible refine ql_fr ?_ | with_reducible refine i_fr ?_ | with_reducible refine i_of ?_ | with_reducible refine i_live ?_ | with_reducible refine i_rng ?_ | with_reducible refine i_enum ?_ | with_reducible refine i_keys ?_ | with_reducible refine ifs_nil ?_ | with_reducible refine ifs_cons ?_ | with_reducible refine s_brk ?_ | with_reducible refine s_cont ?_ | with_reducible refine sq_tup ?_ | with_reducible refine wo_tup ?_ | with_reducible refine tr_bl ?_ | with_reducible refine tr_int ?_ | with_reducible refine tr_tup ?_ | with_reducible refine tr_non ?_ | with_reducible refine b_add ?_ | with_reducible refine b_sub ?_ | with_reducible refine c_lt ?_ | with_reducible refine c_le ?_ | with_reducible refine c_gt ?_ | with_reducible refine c_ge ?_ | with_reducible refine pt_non ?_ | with_reducible refine pt_int ?_ | with_reducible refine a_int ?_ | with_reducible refine a_abs ?_ | with_reducible refine a_len ?_ | with_reducible refine a_neg ?_ | ((with_reducible apply if_t); exact rfl) | ((with_reducible apply if_f); exact rfl) | ((with_reducible apply ex_bind); exact rfl) | ((with_reducible apply isi_t); exact rfl) | ((with_reducible apply isi_f); exact rfl) | ((with_reducible apply le_line); exact rfl) | ((with_reducible apply x_tup); exact rfl) | ((with_reducible apply x_lst); (first | exact rd_lst (by assumption) | assumption); exact rfl) | ((with_reducible apply b_mod); (first | decide | omega)) | ((with_reducible apply b_div); (first | decide | omega)) | ((with_reducible apply b_mul); (first | exact .inr (by unfold small; omega) | exact .inl (by unfold small; omega))) | ((with_reducible apply b_pow); (first | decide | (unfold small; omega))) | ((with_reducible apply fl_ref); assumption; exact rfl) | ((with_reducible apply a_isL); (first | exact rd_lst (by assumption) | assumption)) | ((with_reducible apply a_isDct); (first | exact rd_dct (by assumption) | assumption)) | ((with_reducible apply sq_ref); (first | exact rd_lst (by assumption) | assumption)) | ((with_reducible apply sql_ref); assumption) | ((with_reducible apply ln_ref); (first | exact rd_lst (by assumption) | assumption)) | ((with_reducible apply ln_dct); (first | exact rd_dct (by assumption) | assumption)) | ((with_reducible apply keys_ref); (first | exact rd_dct (by assumption) | assumption)) | ((with_reducible apply wo_ref); (first | exact rd_lst (by assumption) | assumption)) | ((with_reducible apply ex_live); (first | exact rd_lst (by assumption) | assumption)) | ((with_reducible apply st_C0); exact rfl) | ((with_reducible apply st_C); exact rfl) | ((with_reducible apply st_D0); exact rfl) | ((with_reducible apply st_D); exact rfl) | ((with_reducible apply st_S); exact rfl))))
class HTrack (P : Prog) : Prop extends HIndex P where
  check_standing : P "check_standing" = some ⟨2, 2, c_check_standing⟩
  is_sure : P "is_sure" = some ⟨1, 3, c_is_sure⟩
  check_sure : P "check_sure" = some ⟨1, 1, c_check_sure⟩
  track_of : P "track_of" = some ⟨2, 3, c_track_of⟩
open Classical in
/-- the first time at x -/
noncomputable def ixOf (k : KD) (s x : Nat) : Nat := if h : ∃ i, k.it i s = x then (least_nat (p := fun i => k.it i s = x) _ h.choose_spec).choose else 0
theorem ixOf_spec {k : KD} {s i : Nat} : k.it (ixOf k s (k.it i s)) s = k.it i s ∧ ∀ j, k.it j s = k.it i s → ixOf k s (k.it i s) ≤ j := by
  have h : ∃ j, k.it j s = k.it i s := ⟨i, rfl⟩
  have e : ixOf k s (k.it i s) = (least_nat (p := fun j => k.it j s = k.it i s) _ h.choose_spec).choose := by unfold ixOf; rw [dif_pos h]
  have sp := (least_nat (p := fun j => k.it j s = k.it i s) _ h.choose_spec).choose_spec
  rw [e]
  exact ⟨sp.1, sp.2.2⟩
def trk (k : KD) (s c : Nat) : List Nat := (List.range c).map fun i => k.it i s
theorem trk_inj {k : KD} {s c i j : Nat} (nd : (trk k s c).Nodup) (hi : i < c) (hj : j < c) (e : k.it i s = k.it j s) : i = j := by
  unfold trk List.Nodup at nd
  rw [List.pairwise_map] at nd
  apply Classical.byContradiction
  intro n
  have key : ∀ i j, i < j → j < c → k.it i s ≠ k.it j s := fun i j h1 h2 => by
    have := List.pairwise_iff_getElem.mp nd i j (by simp; omega) (by simp; omega) h1
    simpa using this
  rcases Nat.lt_or_gt_of_ne n with h | h
  · exact key i j h hj e
  · exact key j i h hi e.symm
theorem trk_ix {k : KD} {s c i : Nat} (nd : (trk k s c).Nodup) (hi : i < c) : ixOf k s (k.it i s) = i := by
  obtain ⟨h1, h2⟩ := ixOf_spec (k := k) (s := s) (i := i)
  have := h2 i rfl
  exact trk_inj nd (by omega) hi h1
theorem trk_succ {k : KD} {s c : Nat} : trk k s (c + 1) = trk k s c ++ [k.it c s] := by unfold trk; rw [List.range_succ, List.map_append]; rfl
section
variable {P : Prog} {n : Nat} {M : Mem} {Q : VQ} {X : XQ}
theorem track_sp [HTrack P] {k : KD} {o c s : Nat} (hK : KindAt k o c M) (hs : k.Sure) (h : s < k.n) (q : ∀ r T b M', Fr no M M' → M' r = some (.lst ((trk k s T).map dN)) → b < T → T ≤ k.n → k.it T s = k.it b s → (trk k s T).Nodup → Q (.tup [.ref r, dN b]) M') : callN P (n + 1) "track_of" [.ref o, dN s] M Q X := by
  refine call_intro HTrack.track_of rfl (e := [some (.ref o), some (dN s), none]) rfl ?_
  unfold c_track_of
  have hk := hK.ok
  have n8 := hk.n8
  refine s_seq (s_asg (e_dnew0 fun f hf => ?_))
  have F1 : Fr no M (M.set f (.dct [])) := .new hf
  have ff1 : (M.set f (.dct [])) f = some (.dct (dfn dN (fun x => dN (ixOf k s x)) (trk k s 0))) := Mem.set_same _ _ _
  generalize M.set f (.dct []) = M1 at F1 ff1 ⊢
  refine s_cutJ (fun e M' => ∃ T, e = [some (.ref o), some (dN (k.it T s)), some (.ref f)] ∧ Fr no M M' ∧ M' f = some (.dct (dfn dN (fun x => dN (ixOf k s x)) (trk k s T))) ∧ (trk k s T).Nodup ∧ k.it T s ∈ trk k s T) (fun e M2 hI => ?_) (fun nx2 hn2 => ?_)
  · obtain ⟨T, rfl, F2, ff2, nd, hm⟩ := hI
    obtain ⟨j, hj, ej⟩ : ∃ j, j < T ∧ k.it j s = k.it T s := by
      obtain ⟨j, hj, e⟩ := List.mem_map.mp hm
      exact ⟨j, List.mem_range.mp hj, e⟩
    have hT : T ≤ k.n := by
      have := nodup_len (m := List.range k.n) nd fun x hx => by
        obtain ⟨i, _, rfl⟩ := List.mem_map.mp hx
        exact List.mem_range.mpr (it_lt hk hs h i)
      unfold trk at this
      simpa using this
    refine s_end (s_ret (e_tup (es_cons (e_mkl (f_keys (e_var rfl rfl (keys_ref (rd_dct ff2) ?_)))))))
    rw [dfn_keys]
    refine wn fun r hr => ?_
    have ff3 : (M2.set r (.lst ((trk k s T).map dN))) f = _ := (Mem.set_ne _ _ fun z => by rw [z, hr] at ff2; cases ff2).trans ff2
    refine es_cons (e_ix (e_var rfl rfl (e_var rfl rfl (x_dct (rd_dct ff3) rfl (x := dN (ixOf k s (k.it T s))) (by rw [dfn_look (f := dN) (fun _ _ e => by injection e with e; omega), if_pos hm]) (es_nil ⟨by unfold line; simp, ?_⟩)))))
    obtain ⟨h1, h2⟩ := ixOf_spec (k := k) (s := s) (i := T)
    have := h2 j ej
    exact q r T (ixOf k s (k.it T s)) _ (F2.trans (.new hr)) (Mem.set_same _ _ _) (by omega) hT h1.symm nd
  · refine s_while (while_inv (N := k.n + 1) (fun m e M' => ∃ T, e = [some (.ref o), some (dN (k.it T s)), some (.ref f)] ∧ Fr no M M' ∧ M' f = some (.dct (dfn dN (fun x => dN (ixOf k s x)) (trk k s T))) ∧ (trk k s T).Nodup ∧ m + T = k.n + 1) ⟨0, rfl, F1, ff1, by unfold trk; exact .nil, rfl⟩ ?_)
    intro m e M2 hI rec hrec
    obtain ⟨T, rfl, F2, ff2, nd, hmT⟩ := hI
    have hT : T ≤ k.n := by
      have := nodup_len (m := List.range k.n) nd fun x hx => by
        obtain ⟨i, _, rfl⟩ := List.mem_map.mp hx
        exact List.mem_range.mpr (it_lt hk hs h i)
      unfold trk at this
      simpa using this
    have hlt := it_lt hk hs h T
    refine e_ind (e_var rfl rfl (e_var rfl rfl (ind_ref (rd_dct ff2) rfl (tr_bl ?_))))
    rw [dfn_look (f := dN) (fun _ _ e => by injection e with e; omega)]
    by_cases hm : k.it T s ∈ trk k s T
    · rw [if_pos hm]
      refine if_f rfl ?_
      exact hn2 _ _ ⟨T, rfl, F2, ff2, nd, hm⟩
    · rw [if_neg hm]
      refine if_t rfl ?_
      have len : (trk k s T).length = T := by unfold trk; simp
      refine s_seq (s_asgIx (e_lenv (e_var rfl rfl (ln_dct (rd_dct ff2) (e_var rfl rfl (e_var rfl rfl ?_))))))
      rw [dfn_len, len]
      refine si_dct ff2 rfl (by rw [dfn_len, len]; unfold line; omega) ?_
      have nd2 : (trk k s (T + 1)).Nodup := by
        rw [trk_succ, List.nodup_append]
        exact ⟨nd, by simp, fun a ha b hb e => by simp at hb; subst hb; subst e; exact hm ha⟩
      have eT : dN T = dN (ixOf k s (k.it T s)) := by rw [trk_ix nd2 (by omega)]
      have ep : put (dfn dN (fun x => dN (ixOf k s x)) (trk k s T)) (dN (k.it T s)) (dN T) = dfn dN (fun x => dN (ixOf k s x)) (trk k s (T + 1)) := by
        rw [eT, trk_succ]
        exact dfn_new (f := dN) (w := fun x => dN (ixOf k s x)) (fun _ _ e => by injection e with e; omega) hm
      rw [ep]
      have ho := (hK.le F2).obj
      have hof : o ≠ f := fun z => by rw [z, ff2] at ho; cases ho
      have ho2 : (M2.set f (.dct (dfn dN (fun x => dN (ixOf k s x)) (trk k s (T + 1))))) o = _ := (Mem.set_ne _ _ hof).trans ho
      refine s_end (s_asg (e_ix (e_ix (e_ix (e_fld (e_var rfl rfl (fl_ref ho2 rfl (e_var rfl rfl (x_tup (atI_some (kind_look hk hlt) rfl) ?_)))))))))
      rw [sure_look hk hs hlt]
      refine e_con (x_tup (atI_some (i := 0) rfl rfl) (e_con (x_tup (atI_some (i := 1) rfl rfl) ?_)))
      exact hrec (m - 1) _ _ (by omega) ⟨T + 1, rfl, F2.put0 hf, Mem.set_same _ _ _, nd2, by omega⟩
theorem eqv_rows (a b : List Nat) : D.eqv (dNs a) (dNs b) = decide (a = b) := by
  have key : ∀ a b : List Nat, D.eqvs (a.map dN) (b.map dN) = decide (a = b) := by
    intro a
    induction a with
    | nil => intro b; cases b <;> simp [D.eqvs]
    | cons x a ih =>
      intro b
      cases b with
      | nil => simp [D.eqvs]
      | cons y b =>
        have e : D.eqv (dN x) (dN y) = decide (x = y) := by simp only [D.eqv]; congr 1; exact propext ⟨fun h => by omega, fun h => by omega⟩
        simp only [List.map_cons, D.eqvs, e, ih]
        by_cases h : x = y <;> by_cases h' : a = b <;> simp [h, h']
  show D.eqv (.tup _) (.tup _) = _
  rw [D.eqv]
  exact key a b
end
end MP.PL
end
section
/-! PL46: the class of a standing, told. -/
namespace MP.PL
local macro_rules | `(tactic| trivial) => `(tactic| (repeat (first | ((with_reducible apply e_var); exact rfl; exact rfl) | with_reducible refine s_end ?_ | with_reducible refine s_seq ?_ | with_reducible refine s_callX0 ?_ | with_reducible refine s_callXn ?_ | with_reducible refine s_callXr ?_ | with_reducible refine s_callXp ?_ | with_reducible refine e_con ?_ | with_reducible refine es_cons ?_ | with_reducible refine es_nil ?_ | with_reducible refine s_asg ?_ | with_reducible refine s_ret ?_ | with_reducible refine s_expr ?_ | with_reducible refine s_ife ?_ | with_reducible refine e_call ?_ | with_reducible refine q_of ?_ | with_reducible refine q_fr ?_ | with_reducible refine s_skip ?_ | with_reducible refine e_ix ?_ | with_reducible refine e_bin ?_ | with_reducible refine e_cmp ?_ | with_reducible refine e_and ?_ | with_reducible refine e_or ?_ | with_reducible refine e_not ?_ | with_reducible refine e_fld ?_ | with_reducible refine e_len ?_ | with_reducible refine e_mkl ?_ | with_reducible refine e_tup ?_ | with_reducible refine e_tupq ?_ | with_reducible refine e_ite ?_ | with_reducible refine s_for ?_ | with_reducible refine s_asgt ?_ | with_reducible refine s_asgIx ?_ | with_reducible refine s_asgFld ?_ | with_reducible refine e_chain ?_ | with_reducible refine e_isi ?_ | with_reducible refine e_all ?_ | with_reducible refine e_any ?_ | with_reducible refine e_sum ?_ | with_reducible refine e_least ?_ | with_reducible refine e_most ?_ | with_reducible refine e_inq ?_ | with_reducible refine e_ind ?_ | with_reducible refine e_dget ?_ | with_reducible refine e_dpop ?_ | with_reducible refine e_abs ?_ | with_reducible refine e_int ?_ | with_reducible refine e_make ?_ | with_reducible refine e_pop ?_ | with_reducible refine e_append ?_ | with_reducible refine e_extend ?_ | with_reducible refine e_reverse ?_ | with_reducible refine e_dclear ?_ | with_reducible refine e_lenv ?_ | with_reducible refine e_cut ?_ | with_reducible refine e_neg ?_ | with_reducible refine e_dcomp ?_ | with_reducible refine f_disp ?_ | with_reducible refine f_list ?_ | with_reducible refine f_keys ?_ | with_reducible refine f_sorted ?_ | with_reducible refine f_cat1 ?_ | with_reducible refine f_cat2 ?_ | with_reducible refine f_cut ?_ | with_reducible refine f_rng ?_ | with_reducible refine f_lc ?_ | with_reducible refine ql_of ?_ | with_reducible refine ql_fr ?_ | with_reducible refine i_fr ?_ | with_reducible refine i_of ?_ | with_reducible refine i_live ?_ | with_reducible refine i_rng ?_ | with_reducible refine i_enum ?_ | with_reducible refine i_keys ?_ | with_reducible refine ifs_nil ?_ | with_reducible refine ifs_cons ?_ | with_reducible refine s_brk ?_ | with_reducible refine s_cont ?_ | with_reducible refine sq_tup ?_ | with_reducible refine wo_tup ?_ | with_reducible refine tr_bl ?_ | with_reducible refine tr_int ?_ | with_reducible refine tr_tup ?_ | with_reducible refine tr_non ?_ | with_reducible refine b_add ?_ | with_reducible refine b_sub ?_ | with_reducible refine c_lt ?_ | with_reducible refine c_le ?_ | with_reducible refine c_gt ?_ | with_reducible refine c_ge ?_ | with_reducible refine pt_non ?_ | with_reducible refine pt_int ?_ | with_reducible refine a_int ?_ | with_reducible refine a_abs ?_ | with_reducible refine a_len ?_ | with_reducible refine a_neg ?_ | ((with_reducible apply if_t); exact rfl) | ((with_reducible apply if_f); exact rfl) | ((with_reducible apply ex_bind); exact rfl) | ((with_reducible apply isi_t); exact rfl) | ((with_reducible apply isi_f); exact rfl) | ((with_reducible apply le_line); exact rfl) | ((with_reducible apply x_tup); exact rfl) | ((with_reducible apply x_lst); (first | exact rd_lst (by assumption) | assumption); exact rfl) | ((with_reducible apply b_mod); (first | decide | omega)) | ((with_reducible apply b_div); (first | decide | omega)) | ((with_reducible apply b_mul); (first | exact .inr (by unfold small; omega) | exact .inl (by unfold small; omega))) | ((with_reducible apply b_pow); (first | decide | (unfold small; omega))) | ((with_reducible apply fl_ref); assumption; exact rfl) | ((with_reducible apply a_isL); (first | exact rd_lst (by assumption) | assumption)) | ((with_reducible apply a_isDct); (first | exact rd_dct (by assumption) | assumption)) | ((with_reducible apply sq_ref); (first | exact rd_lst (by assumption) | assumption)) | ((with_reducible apply sql_ref); assumption) | ((with_reducible apply ln_ref); (first | exact rd_lst (by assumption) | assumption)) | ((with_reducible apply ln_dct); (first | exact rd_dct (by assumption) | assumption)) | ((with_reducible apply keys_ref); (first | exact rd_dct (by assumption) | assumption)) | ((with_reducible apply wo_ref); (first | exact rd_lst (by assumption) | assumption)) | ((with_reducible apply ex_live); (first | exact rd_lst (by assumption) | assumption)) | ((with_reducible apply st_C0); exact rfl) | ((with_reducible apply st_C); exact rfl) | ((with_reducible apply st_D0); exact rfl) | ((with_reducible apply st_D); exact rfl) | ((with_reducible apply st_S); exact rfl))))
section
variable {P : Prog} {n : Nat} {M : Mem} {Q : VQ} {X : XQ}
end
end MP.PL
end
section
/-! PL29: rings and heights: plain laws. -/
namespace MP.PL
def sj (k : KD) (p : Nat × Nat) : List (Nat × Nat) := dr k p ++ jt k p
abbrev RS (k : KD) : Nat × Nat → Nat × Nat → Prop := RT (sj k)
theorem mem_sj {k : KD} {p q : Nat × Nat} : q ∈ sj k p ↔ ∃ s, (s, q) ∈ js k p := by
  unfold sj
  rw [List.mem_append]
  constructor
  · rintro (h | h)
    · obtain ⟨x, hx, _, rfl⟩ := js_drift.mpr h
      exact ⟨x.1, hx⟩
    · obtain ⟨x, hx, _, rfl⟩ := js_both.mpr h
      exact ⟨x.1, hx⟩
  · rintro ⟨s, hs⟩
    cases hb : s.isBoth with
    | true => exact .inr (js_both.mp ⟨_, hs, hb, rfl⟩)
    | false => exact .inl (js_drift.mp ⟨_, hs, hb, rfl⟩)
theorem RT.front {α : Type} [DecidableEq α] {succ : α → List α} {x y z : α} (h : y ∈ succ x) (r : RT succ y z) : RT succ x z := (RT.step (.refl x) h).trans r
theorem ringTo_rs {k : KD} : ∀ {l : List JS} {p q : Nat × Nat}, RingTo k p l q → RS k p q
  | [], p, q, h => by cases h; exact .refl _
  | s :: l, p, q, ⟨m, h1, h2⟩ => RT.front (mem_sj.mpr ⟨s, h1⟩) (ringTo_rs h2)
theorem ringTo_snoc {k : KD} {s : JS} {m q : Nat × Nat} (h : (s, q) ∈ js k m) : ∀ {l : List JS} {p : Nat × Nat}, RingTo k p l m → RingTo k p (l ++ [s]) q
  | [], p, e => by cases e; exact ⟨q, h, rfl⟩
  | t :: l, p, ⟨n, h1, h2⟩ => ⟨n, h1, ringTo_snoc h h2⟩
theorem rs_ringTo {k : KD} {p q : Nat × Nat} (h : RS k p q) : ∃ l, RingTo k p l q := by
  induction h with
  | refl => exact ⟨[], rfl⟩
  | step _ hz ih =>
    obtain ⟨l, hl⟩ := ih
    obtain ⟨s, hs⟩ := mem_sj.mp hz
    exact ⟨l ++ [s], ringTo_snoc hs hl⟩
theorem dr_rs {k : KD} {p q : Nat × Nat} (h : RT (dr k) p q) : RS k p q := by
  induction h with
  | refl => exact .refl _
  | step _ hz ih => exact ih.step (List.mem_append_left _ hz)
theorem later_rs {k : KD} {p q : Nat × Nat} (h : Later k p q) : RS k p q := by
  obtain ⟨r, h1, h2⟩ := h
  exact (dr_rs h1).step (List.mem_append_right _ h2)
theorem ht_rs {k : KD} {h : Nat} {x y : Nat × Nat} (r : RS k x y) (a : HtLe k h x) : HtLe k h y := by
  induction r with
  | refl => exact a
  | @step y z _ hz ih =>
    rcases List.mem_append.mp hz with hz | hz
    · exact htLe_rt ((RT.refl y).step hz) ih
    · have l : Later k y z := ⟨y, .refl y, hz⟩
      cases h with
      | zero => exact absurd l (ih z)
      | succ h => exact HtLe.mono1 (ih z l)
theorem ring_no {k : KD} {p : Nat × Nat} (h : Ring k p) : ∀ n, ¬ HtLe k n p := by
  obtain ⟨s, q, l, hs, hb, hl⟩ := h
  have lt : Later k p q := ⟨p, .refl p, js_both.mp ⟨_, hs, hb, rfl⟩⟩
  intro n
  induction n with
  | zero => exact fun a => a q lt
  | succ n ih => exact fun a => ih (ht_rs (ringTo_rs hl) (a q lt))
def LP (k : KD) (x y : Nat × Nat) : Prop := ∃ z, Later k x z ∧ RS k z y
theorem LP.ring {k : KD} {x : Nat × Nat} (h : LP k x x) : ∃ r, RS k x r ∧ Ring k r := by
  obtain ⟨z, ⟨r, h1, h2⟩, h3⟩ := h
  obtain ⟨s, hs, hb, e⟩ := js_both.mpr h2
  obtain ⟨l, hl⟩ := rs_ringTo (h3.trans (dr_rs h1))
  exact ⟨r, dr_rs h1, s.1, z, l, by rw [← e]; exact hs, hb, hl⟩
theorem acyc {k : KD} (hk : k.Ok) {p0 : Nat × Nat} (hno : ∀ r, RS k p0 r → ¬ Ring k r) : ∀ (n : Nat) (V : List (Nat × Nat)) (p : Nat × Nat), RS k p0 p → V.Nodup → (∀ v ∈ V, v ∈ box k.n ∧ LP k v p ∧ RS k p0 v) → p ∈ box k.n → (box k.n).length ≤ V.length + n + 1 → HtLe k n p := by
  have no : ∀ x, RS k p0 x → ¬ LP k x x := fun x hx h => by
    obtain ⟨r, h1, h2⟩ := h.ring
    exact hno r (hx.trans h1) h2
  intro n
  induction n with
  | zero =>
    intro V p hp nd hV pB hl q hq
    have pV : p ∉ V := fun h => no p hp (hV p h).2.1
    have qB := later_box hk pB hq
    have nd2 : (p :: V).Nodup := List.nodup_cons.mpr ⟨pV, nd⟩
    by_cases hm : q ∈ p :: V
    · rcases List.mem_cons.mp hm with e | hm
      · subst e
        exact no _ hp ⟨_, hq, .refl _⟩
      · obtain ⟨_, ⟨z, h1, h2⟩, h3⟩ := hV q hm
        exact no q h3 ⟨z, h1, h2.trans (later_rs hq)⟩
    · have nd3 : (q :: p :: V).Nodup := List.nodup_cons.mpr ⟨hm, nd2⟩
      have := nodup_len nd3 (m := box k.n) fun x hx => by
        rcases List.mem_cons.mp hx with rfl | hx
        · exact qB
        · rcases List.mem_cons.mp hx with rfl | hx
          · exact pB
          · exact (hV x hx).1
      simp at this; omega
  | succ n ih =>
    intro V p hp nd hV pB hl q hq
    have pV : p ∉ V := fun h => no p hp (hV p h).2.1
    refine ih (p :: V) q (hp.trans (later_rs hq)) (List.nodup_cons.mpr ⟨pV, nd⟩) (fun v hv => ?_) (later_box hk pB hq) (by simp; omega)
    rcases List.mem_cons.mp hv with rfl | hv
    · exact ⟨pB, ⟨q, hq, .refl _⟩, hp⟩
    · obtain ⟨h1, ⟨z, h2, h3⟩, h4⟩ := hV v hv
      exact ⟨h1, ⟨z, h2, h3.trans (later_rs hq)⟩, h4⟩
theorem ring_of {k : KD} (hk : k.Ok) {p : Nat × Nat} (pB : p ∈ box k.n) (h : ∀ n, ¬ HtLe k n p) : ∃ r, RS k p r ∧ Ring k r := by
  apply Classical.byContradiction
  intro hno
  exact h _ (acyc hk (p0 := p) (fun r h1 h2 => hno ⟨r, h1, h2⟩) (box k.n).length [] p (.refl p) .nil (by simp) pB (by simp))
theorem in_rs {k : KD} {u v : Nat} {p q : Nat × Nat} (r : RS k p q) (h : In k u v p) : In k u v q := by
  induction r with
  | refl => exact h
  | step _ hz ih =>
    rcases List.mem_append.mp hz with hz | hz
    · exact in_dr ih hz
    · exact in_jt ih hz
theorem apart_ring {k : KD} (hk : k.Ok) {u v : Nat} (hu : u < k.n) (hv : v < k.n) : Apart k u v ↔ ¬ ∃ p : Nat × Nat, Reach k.succ u p.1 ∧ Reach k.succ v p.2 ∧ Ring k p := by
  constructor
  · rintro h ⟨p, h1, h2, h3⟩
    obtain ⟨n, hn⟩ := h p ⟨h1, h2⟩
    exact ring_no h3 n hn
  · intro h p hp
    apply Classical.byContradiction
    intro hn
    obtain ⟨r, h1, h2⟩ := ring_of hk (in_box hk hu hv hp) fun n a => hn ⟨n, a⟩
    obtain ⟨i1, i2⟩ := in_rs h1 hp
    exact h ⟨r, i1, i2, h2⟩
theorem ws_succ {k : KD} {s m : Nat} {w : WS} (h : (w, m) ∈ ws k s) : m ∈ k.succ s := by
  unfold ws at h
  unfold KD.succ
  rcases List.mem_append.mp h with h | h
  · obtain ⟨x, hx, e⟩ := List.mem_map.mp h
    injection e with _ e
    subst e
    refine List.mem_append_left _ (List.mem_map.mpr ⟨x.2, ?_, rfl⟩)
    rw [← enumL_snd 0 (k.look s)]
    exact List.mem_map.mpr ⟨x, hx, rfl⟩
  · obtain ⟨t, ht, e⟩ := List.mem_map.mp h
    injection e with _ e
    subst e
    exact List.mem_append_right _ ht
theorem Reach.front {succ : Nat → List Nat} {x y z : Nat} (h : y ∈ succ x) (r : Reach succ y z) : Reach succ x z := (Reach.step (.refl x) h).trans r
theorem wayTo_reach {k : KD} : ∀ {l : List WS} {s e : Nat}, WayTo k s l e → Reach k.succ s e
  | [], s, e, h => by cases h; exact .refl _
  | w :: l, s, e, ⟨m, h1, h2⟩ => Reach.front (ws_succ h1) (wayTo_reach h2)
theorem ringTo_split {k : KD} : ∀ {l : List JS} {p q : Nat × Nat}, RingTo k p l q → (∃ j ∈ l, j.isBoth = true) → ∃ m s m', RS k p m ∧ (s, m') ∈ js k m ∧ s.isBoth = true ∧ RS k m' q
  | [], _, _, _, ⟨_, h, _⟩ => nomatch h
  | s :: l, p, q, ⟨m, h1, h2⟩, ⟨j, hj, hb⟩ => by
    by_cases e : s.isBoth = true
    · exact ⟨p, s, m, .refl p, h1, e, ringTo_rs h2⟩
    · have hj2 : j ∈ l := by
        rcases List.mem_cons.mp hj with rfl | h
        · exact absurd hb e
        · exact h
      obtain ⟨a, t, b, q1, q2, q3, q4⟩ := ringTo_split h2 ⟨j, hj2, hb⟩
      exact ⟨a, t, b, RT.front (mem_sj.mpr ⟨s, h1⟩) q1, q2, q3, q4⟩
theorem like_not_apart {k : KD} {u v : Nat} {l : LK} (h : LikeOf k u v l) : ¬ Apart k u v := by
  obtain ⟨s, t, h1, h2, h3, h4⟩ := h
  intro ha
  obtain ⟨n, hn⟩ := ha (s, t) ⟨wayTo_reach h1, wayTo_reach h2⟩
  obtain ⟨m, j, m', q1, q2, q3, q4⟩ := ringTo_split h3 h4
  obtain ⟨l', hl'⟩ := rs_ringTo (q4.trans q1)
  exact ring_no ⟨j, m', l', q2, q3, hl'⟩ n (ht_rs q1 hn)
theorem LV.cases {k : KD} (hk : k.Ok) {u v : Nat} (hu : u < k.n) (hv : v < k.n) {x : D} (h : LV k u v x) : (x = .non ∧ Apart k u v) ∨ (¬ Apart k u v ∧ ∃ l : LK, x = dLK l ∧ l.one.length ≤ 64 ∧ l.two.length ≤ 64 ∧ l.ring.length ≤ 100 ∧ LikeOf k u v l) := by
  rcases h with ⟨rfl, h⟩ | ⟨l, rfl, h⟩
  · exact .inl ⟨rfl, (apart_ring hk hu hv).mpr h⟩
  · exact .inr ⟨like_not_apart h.2.2.2, l, rfl, h⟩
end MP.PL
end
section
/-! PL30: short ways. -/
namespace MP.PL
local macro_rules | `(tactic| trivial) => `(tactic| (repeat (first | ((with_reducible apply e_var); exact rfl; exact rfl) | with_reducible refine s_end ?_ | with_reducible refine s_seq ?_ | with_reducible refine s_callX0 ?_ | with_reducible refine s_callXn ?_ | with_reducible refine s_callXr ?_ | with_reducible refine s_callXp ?_ | with_reducible refine e_con ?_ | with_reducible refine es_cons ?_ | with_reducible refine es_nil ?_ | with_reducible refine s_asg ?_ | with_reducible refine s_ret ?_ | with_reducible refine s_expr ?_ | with_reducible refine s_ife ?_ | with_reducible refine e_call ?_ | with_reducible refine q_of ?_ | with_reducible refine q_fr ?_ | with_reducible refine s_skip ?_ | with_reducible refine e_ix ?_ | with_reducible refine e_bin ?_ | with_reducible refine e_cmp ?_ | with_reducible refine e_and ?_ | with_reducible refine e_or ?_ | with_reducible refine e_not ?_ | with_reducible refine e_fld ?_ | with_reducible refine e_len ?_ | with_reducible refine e_mkl ?_ | with_reducible refine e_tup ?_ | with_reducible refine e_tupq ?_ | with_reducible refine e_ite ?_ | with_reducible refine s_for ?_ | with_reducible refine s_asgt ?_ | with_reducible refine s_asgIx ?_ | with_reducible refine s_asgFld ?_ | with_reducible refine e_chain ?_ | with_reducible refine e_isi ?_ | with_reducible refine e_all ?_ | with_reducible refine e_any ?_ | with_reducible refine e_sum ?_ | with_reducible refine e_least ?_ | with_reducible refine e_most ?_ | with_reducible refine e_inq ?_ | with_reducible refine e_ind ?_ | with_reducible refine e_dget ?_ | with_reducible refine e_dpop ?_ | with_reducible refine e_abs ?_ | with_reducible refine e_int ?_ | with_reducible refine e_make ?_ | with_reducible refine e_pop ?_ | with_reducible refine e_append ?_ | with_reducible refine e_extend ?_ | with_reducible refine e_reverse ?_ | with_reducible refine e_dclear ?_ | with_reducible refine e_lenv ?_ | with_reducible refine e_cut ?_ | with_reducible refine e_neg ?_ | with_reducible refine e_dcomp ?_ | with_reducible refine f_disp ?_ | with_reducible refine f_list ?_ | with_reducible refine f_keys ?_ | with_reducible refine f_sorted ?_ | with_reducible refine f_cat1 ?_ | with_reducible refine f_cat2 ?_ | with_reducible refine f_cut ?_ | with_reducible refine f_rng ?_ | with_reducible refine f_lc ?_ | with_reducible refine ql_of ?_ | with_reducible refine ql_fr ?_ | with_reducible refine i_fr ?_ | with_reducible refine i_of ?_ | with_reducible refine i_live ?_ | with_reducible refine i_rng ?_ | with_reducible refine i_enum ?_ | with_reducible refine i_keys ?_ | with_reducible refine ifs_nil ?_ | with_reducible refine ifs_cons ?_ | with_reducible refine s_brk ?_ | with_reducible refine s_cont ?_ | with_reducible refine sq_tup ?_ | with_reducible refine wo_tup ?_ | with_reducible refine tr_bl ?_ | with_reducible refine tr_int ?_ | with_reducible refine tr_tup ?_ | with_reducible refine tr_non ?_ | with_reducible refine b_add ?_ | with_reducible refine b_sub ?_ | with_reducible refine c_lt ?_ | with_reducible refine c_le ?_ | with_reducible refine c_gt ?_ | with_reducible refine c_ge ?_ | with_reducible refine pt_non ?_ | with_reducible refine pt_int ?_ | with_reducible refine a_int ?_ | with_reducible refine a_abs ?_ | with_reducible refine a_len ?_ | with_reducible refine a_neg ?_ | ((with_reducible apply if_t); exact rfl) | ((with_reducible apply if_f); exact rfl) | ((with_reducible apply ex_bind); exact rfl) | ((with_reducible apply isi_t); exact rfl) | ((with_reducible apply isi_f); exact rfl) | ((with_reducible apply le_line); exact rfl) | ((with_reducible apply x_tup); exact rfl) | ((with_reducible apply x_lst); (first | exact rd_lst (by assumption) | assumption); exact rfl) | ((with_reducible apply b_mod); (first | decide | omega)) | ((with_reducible apply b_div); (first | decide | omega)) | ((with_reducible apply b_mul); (first | exact .inr (by unfold small; omega) | exact .inl (by unfold small; omega))) | ((with_reducible apply b_pow); (first | decide | (unfold small; omega))) | ((with_reducible apply fl_ref); assumption; exact rfl) | ((with_reducible apply a_isL); (first | exact rd_lst (by assumption) | assumption)) | ((with_reducible apply a_isDct); (first | exact rd_dct (by assumption) | assumption)) | ((with_reducible apply sq_ref); (first | exact rd_lst (by assumption) | assumption)) | ((with_reducible apply sql_ref); assumption) | ((with_reducible apply ln_ref); (first | exact rd_lst (by assumption) | assumption)) | ((with_reducible apply ln_dct); (first | exact rd_dct (by assumption) | assumption)) | ((with_reducible apply keys_ref); (first | exact rd_dct (by assumption) | assumption)) | ((with_reducible apply wo_ref); (first | exact rd_lst (by assumption) | assumption)) | ((with_reducible apply ex_live); (first | exact rd_lst (by assumption) | assumption)) | ((with_reducible apply st_C0); exact rfl) | ((with_reducible apply st_C); exact rfl) | ((with_reducible apply st_D0); exact rfl) | ((with_reducible apply st_D); exact rfl) | ((with_reducible apply st_S); exact rfl))))
section
variable {P : Prog} {n : Nat} {M : Mem} {Q : VQ} {X : XQ}
end
end MP.PL
end
section
/-! PL31: ways between standings, steps between pairs, rings. -/
namespace MP.PL
local macro_rules | `(tactic| trivial) => `(tactic| (repeat (first | ((with_reducible apply e_var); exact rfl; exact rfl) | with_reducible refine s_end ?_ | with_reducible refine s_seq ?_ | with_reducible refine s_callX0 ?_ | with_reducible refine s_callXn ?_ | with_reducible refine s_callXr ?_ | with_reducible refine s_callXp ?_ | with_reducible refine e_con ?_ | with_reducible refine es_cons ?_ | with_reducible refine es_nil ?_ | with_reducible refine s_asg ?_ | with_reducible refine s_ret ?_ | with_reducible refine s_expr ?_ | with_reducible refine s_ife ?_ | with_reducible refine e_call ?_ | with_reducible refine q_of ?_ | with_reducible refine q_fr ?_ | with_reducible refine s_skip ?_ | with_reducible refine e_ix ?_ | with_reducible refine e_bin ?_ | with_reducible refine e_cmp ?_ | with_reducible refine e_and ?_ | with_reducible refine e_or ?_ | with_reducible refine e_not ?_ | with_reducible refine e_fld ?_ | with_reducible refine e_len ?_ | with_reducible refine e_mkl ?_ | with_reducible refine e_tup ?_ | with_reducible refine e_tupq ?_ | with_reducible refine e_ite ?_ | with_reducible refine s_for ?_ | with_reducible refine s_asgt ?_ | with_reducible refine s_asgIx ?_ | with_reducible refine s_asgFld ?_ | with_reducible refine e_chain ?_ | with_reducible refine e_isi ?_ | with_reducible refine e_all ?_ | with_reducible refine e_any ?_ | with_reducible refine e_sum ?_ | with_reducible refine e_least ?_ | with_reducible refine e_most ?_ | with_reducible refine e_inq ?_ | with_reducible refine e_ind ?_ | with_reducible refine e_dget ?_ | with_reducible refine e_dpop ?_ | with_reducible refine e_abs ?_ | with_reducible refine e_int ?_ | with_reducible refine e_make ?_ | with_reducible refine e_pop ?_ | with_reducible refine e_append ?_ | with_reducible refine e_extend ?_ | with_reducible refine e_reverse ?_ | with_reducible refine e_dclear ?_ | with_reducible refine e_lenv ?_ | with_reducible refine e_cut ?_ | with_reducible refine e_neg ?_ | with_reducible refine e_dcomp ?_ | with_reducible refine f_disp ?_ | with_reducible refine f_list ?_ | with_reducible refine f_keys ?_ | with_reducible refine f_sorted ?_ | with_reducible refine f_cat1 ?_ | with_reducible refine f_cat2 ?_ | with_reducible refine f_cut ?_ | with_reducible refine f_rng ?_ | with_reducible refine f_lc ?_ | with_reducible refine ql_of ?_ | with_reducible refine ql_fr ?_ | with_reducible refine i_fr ?_ | with_reducible refine i_of ?_ | with_reducible refine i_live ?_ | with_reducible refine i_rng ?_ | with_reducible refine i_enum ?_ | with_reducible refine i_keys ?_ | with_reducible refine ifs_nil ?_ | with_reducible refine ifs_cons ?_ | with_reducible refine s_brk ?_ | with_reducible refine s_cont ?_ | with_reducible refine sq_tup ?_ | with_reducible refine wo_tup ?_ | with_reducible refine tr_bl ?_ | with_reducible refine tr_int ?_ | with_reducible refine tr_tup ?_ | with_reducible refine tr_non ?_ | with_reducible refine b_add ?_ | with_reducible refine b_sub ?_ | with_reducible refine c_lt ?_ | with_reducible refine c_le ?_ | with_reducible refine c_gt ?_ | with_reducible refine c_ge ?_ | with_reducible refine pt_non ?_ | with_reducible refine pt_int ?_ | with_reducible refine a_int ?_ | with_reducible refine a_abs ?_ | with_reducible refine a_len ?_ | with_reducible refine a_neg ?_ | ((with_reducible apply if_t); exact rfl) | ((with_reducible apply if_f); exact rfl) | ((with_reducible apply ex_bind); exact rfl) | ((with_reducible apply isi_t); exact rfl) | ((with_reducible apply isi_f); exact rfl) | ((with_reducible apply le_line); exact rfl) | ((with_reducible apply x_tup); exact rfl) | ((with_reducible apply x_lst); (first | exact rd_lst (by assumption) | assumption); exact rfl) | ((with_reducible apply b_mod); (first | decide | omega)) | ((with_reducible apply b_div); (first | decide | omega)) | ((with_reducible apply b_mul); (first | exact .inr (by unfold small; omega) | exact .inl (by unfold small; omega))) | ((with_reducible apply b_pow); (first | decide | (unfold small; omega))) | ((with_reducible apply fl_ref); assumption; exact rfl) | ((with_reducible apply a_isL); (first | exact rd_lst (by assumption) | assumption)) | ((with_reducible apply a_isDct); (first | exact rd_dct (by assumption) | assumption)) | ((with_reducible apply sq_ref); (first | exact rd_lst (by assumption) | assumption)) | ((with_reducible apply sql_ref); assumption) | ((with_reducible apply ln_ref); (first | exact rd_lst (by assumption) | assumption)) | ((with_reducible apply ln_dct); (first | exact rd_dct (by assumption) | assumption)) | ((with_reducible apply keys_ref); (first | exact rd_dct (by assumption) | assumption)) | ((with_reducible apply wo_ref); (first | exact rd_lst (by assumption) | assumption)) | ((with_reducible apply ex_live); (first | exact rd_lst (by assumption) | assumption)) | ((with_reducible apply st_C0); exact rfl) | ((with_reducible apply st_C); exact rfl) | ((with_reducible apply st_D0); exact rfl) | ((with_reducible apply st_D); exact rfl) | ((with_reducible apply st_S); exact rfl))))
section
variable {P : Prog} {n : Nat} {M : Mem} {Q : VQ} {X : XQ}
end
end MP.PL
end
section
/-! PL32: likenesses told. -/
namespace MP.PL
local macro_rules | `(tactic| trivial) => `(tactic| (repeat (first | ((with_reducible apply e_var); exact rfl; exact rfl) | with_reducible refine s_end ?_ | with_reducible refine s_seq ?_ | with_reducible refine s_callX0 ?_ | with_reducible refine s_callXn ?_ | with_reducible refine s_callXr ?_ | with_reducible refine s_callXp ?_ | with_reducible refine e_con ?_ | with_reducible refine es_cons ?_ | with_reducible refine es_nil ?_ | with_reducible refine s_asg ?_ | with_reducible refine s_ret ?_ | with_reducible refine s_expr ?_ | with_reducible refine s_ife ?_ | with_reducible refine e_call ?_ | with_reducible refine q_of ?_ | with_reducible refine q_fr ?_ | with_reducible refine s_skip ?_ | with_reducible refine e_ix ?_ | with_reducible refine e_bin ?_ | with_reducible refine e_cmp ?_ | with_reducible refine e_and ?_ | with_reducible refine e_or ?_ | with_reducible refine e_not ?_ | with_reducible refine e_fld ?_ | with_reducible refine e_len ?_ | with_reducible refine e_mkl ?_ | with_reducible refine e_tup ?_ | with_reducible refine e_tupq ?_ | with_reducible refine e_ite ?_ | with_reducible refine s_for ?_ | with_reducible refine s_asgt ?_ | with_reducible refine s_asgIx ?_ | with_reducible refine s_asgFld ?_ | with_reducible refine e_chain ?_ | with_reducible refine e_isi ?_ | with_reducible refine e_all ?_ | with_reducible refine e_any ?_ | with_reducible refine e_sum ?_ | with_reducible refine e_least ?_ | with_reducible refine e_most ?_ | with_reducible refine e_inq ?_ | with_reducible refine e_ind ?_ | with_reducible refine e_dget ?_ | with_reducible refine e_dpop ?_ | with_reducible refine e_abs ?_ | with_reducible refine e_int ?_ | with_reducible refine e_make ?_ | with_reducible refine e_pop ?_ | with_reducible refine e_append ?_ | with_reducible refine e_extend ?_ | with_reducible refine e_reverse ?_ | with_reducible refine e_dclear ?_ | with_reducible refine e_lenv ?_ | with_reducible refine e_cut ?_ | with_reducible refine e_neg ?_ | with_reducible refine e_dcomp ?_ | with_reducible refine f_disp ?_ | with_reducible refine f_list ?_ | with_reducible refine f_keys ?_ | with_reducible refine f_sorted ?_ | with_reducible refine f_cat1 ?_ | with_reducible refine f_cat2 ?_ | with_reducible refine f_cut ?_ | with_reducible refine f_rng ?_ | with_reducible refine f_lc ?_ | with_reducible refine ql_of ?_ | with_reducible refine ql_fr ?_ | with_reducible refine i_fr ?_ | with_reducible refine i_of ?_ | with_reducible refine i_live ?_ | with_reducible refine i_rng ?_ | with_reducible refine i_enum ?_ | with_reducible refine i_keys ?_ | with_reducible refine ifs_nil ?_ | with_reducible refine ifs_cons ?_ | with_reducible refine s_brk ?_ | with_reducible refine s_cont ?_ | with_reducible refine sq_tup ?_ | with_reducible refine wo_tup ?_ | with_reducible refine tr_bl ?_ | with_reducible refine tr_int ?_ | with_reducible refine tr_tup ?_ | with_reducible refine tr_non ?_ | with_reducible refine b_add ?_ | with_reducible refine b_sub ?_ | with_reducible refine c_lt ?_ | with_reducible refine c_le ?_ | with_reducible refine c_gt ?_ | with_reducible refine c_ge ?_ | with_reducible refine pt_non ?_ | with_reducible refine pt_int ?_ | with_reducible refine a_int ?_ | with_reducible refine a_abs ?_ | with_reducible refine a_len ?_ | with_reducible refine a_neg ?_ | ((with_reducible apply if_t); exact rfl) | ((with_reducible apply if_f); exact rfl) | ((with_reducible apply ex_bind); exact rfl) | ((with_reducible apply isi_t); exact rfl) | ((with_reducible apply isi_f); exact rfl) | ((with_reducible apply le_line); exact rfl) | ((with_reducible apply x_tup); exact rfl) | ((with_reducible apply x_lst); (first | exact rd_lst (by assumption) | assumption); exact rfl) | ((with_reducible apply b_mod); (first | decide | omega)) | ((with_reducible apply b_div); (first | decide | omega)) | ((with_reducible apply b_mul); (first | exact .inr (by unfold small; omega) | exact .inl (by unfold small; omega))) | ((with_reducible apply b_pow); (first | decide | (unfold small; omega))) | ((with_reducible apply fl_ref); assumption; exact rfl) | ((with_reducible apply a_isL); (first | exact rd_lst (by assumption) | assumption)) | ((with_reducible apply a_isDct); (first | exact rd_dct (by assumption) | assumption)) | ((with_reducible apply sq_ref); (first | exact rd_lst (by assumption) | assumption)) | ((with_reducible apply sql_ref); assumption) | ((with_reducible apply ln_ref); (first | exact rd_lst (by assumption) | assumption)) | ((with_reducible apply ln_dct); (first | exact rd_dct (by assumption) | assumption)) | ((with_reducible apply keys_ref); (first | exact rd_dct (by assumption) | assumption)) | ((with_reducible apply wo_ref); (first | exact rd_lst (by assumption) | assumption)) | ((with_reducible apply ex_live); (first | exact rd_lst (by assumption) | assumption)) | ((with_reducible apply st_C0); exact rfl) | ((with_reducible apply st_C); exact rfl) | ((with_reducible apply st_D0); exact rfl) | ((with_reducible apply st_D); exact rfl) | ((with_reducible apply st_S); exact rfl))))
section
variable {P : Prog} {n : Nat} {M : Mem} {Q : VQ} {X : XQ}
end
end MP.PL
end
section
/-! PL33: things that may be likenesses; single steps judged. -/
namespace MP.PL
local macro_rules | `(tactic| trivial) => `(tactic| (repeat (first | ((with_reducible apply e_var); exact rfl; exact rfl) | with_reducible refine s_end ?_ | with_reducible refine s_seq ?_ | with_reducible refine s_callX0 ?_ | with_reducible refine s_callXn ?_ | with_reducible refine s_callXr ?_ | with_reducible refine s_callXp ?_ | with_reducible refine e_con ?_ | with_reducible refine es_cons ?_ | with_reducible refine es_nil ?_ | with_reducible refine s_asg ?_ | with_reducible refine s_ret ?_ | with_reducible refine s_expr ?_ | with_reducible refine s_ife ?_ | with_reducible refine e_call ?_ | with_reducible refine q_of ?_ | with_reducible refine q_fr ?_ | with_reducible refine s_skip ?_ | with_reducible refine e_ix ?_ | with_reducible refine e_bin ?_ | with_reducible refine e_cmp ?_ | with_reducible refine e_and ?_ | with_reducible refine e_or ?_ | with_reducible refine e_not ?_ | with_reducible refine e_fld ?_ | with_reducible refine e_len ?_ | with_reducible refine e_mkl ?_ | with_reducible refine e_tup ?_ | with_reducible refine e_tupq ?_ | with_reducible refine e_ite ?_ | with_reducible refine s_for ?_ | with_reducible refine s_asgt ?_ | with_reducible refine s_asgIx ?_ | with_reducible refine s_asgFld ?_ | with_reducible refine e_chain ?_ | with_reducible refine e_isi ?_ | with_reducible refine e_all ?_ | with_reducible refine e_any ?_ | with_reducible refine e_sum ?_ | with_reducible refine e_least ?_ | with_reducible refine e_most ?_ | with_reducible refine e_inq ?_ | with_reducible refine e_ind ?_ | with_reducible refine e_dget ?_ | with_reducible refine e_dpop ?_ | with_reducible refine e_abs ?_ | with_reducible refine e_int ?_ | with_reducible refine e_make ?_ | with_reducible refine e_pop ?_ | with_reducible refine e_append ?_ | with_reducible refine e_extend ?_ | with_reducible refine e_reverse ?_ | with_reducible refine e_dclear ?_ | with_reducible refine e_lenv ?_ | with_reducible refine e_cut ?_ | with_reducible refine e_neg ?_ | with_reducible refine e_dcomp ?_ | with_reducible refine f_disp ?_ | with_reducible refine f_list ?_ | with_reducible refine f_keys ?_ | with_reducible refine f_sorted ?_ | with_reducible refine f_cat1 ?_ | with_reducible refine f_cat2 ?_ | with_reducible refine f_cut ?_ | with_reducible refine f_rng ?_ | with_reducible refine f_lc ?_ | with_reducible refine ql_of ?_ | with_reducible refine ql_fr ?_ | with_reducible refine i_fr ?_ | with_reducible refine i_of ?_ | with_reducible refine i_live ?_ | with_reducible refine i_rng ?_ | with_reducible refine i_enum ?_ | with_reducible refine i_keys ?_ | with_reducible refine ifs_nil ?_ | with_reducible refine ifs_cons ?_ | with_reducible refine s_brk ?_ | with_reducible refine s_cont ?_ | with_reducible refine sq_tup ?_ | with_reducible refine wo_tup ?_ | with_reducible refine tr_bl ?_ | with_reducible refine tr_int ?_ | with_reducible refine tr_tup ?_ | with_reducible refine tr_non ?_ | with_reducible refine b_add ?_ | with_reducible refine b_sub ?_ | with_reducible refine c_lt ?_ | with_reducible refine c_le ?_ | with_reducible refine c_gt ?_ | with_reducible refine c_ge ?_ | with_reducible refine pt_non ?_ | with_reducible refine pt_int ?_ | with_reducible refine a_int ?_ | with_reducible refine a_abs ?_ | with_reducible refine a_len ?_ | with_reducible refine a_neg ?_ | ((with_reducible apply if_t); exact rfl) | ((with_reducible apply if_f); exact rfl) | ((with_reducible apply ex_bind); exact rfl) | ((with_reducible apply isi_t); exact rfl) | ((with_reducible apply isi_f); exact rfl) | ((with_reducible apply le_line); exact rfl) | ((with_reducible apply x_tup); exact rfl) | ((with_reducible apply x_lst); (first | exact rd_lst (by assumption) | assumption); exact rfl) | ((with_reducible apply b_mod); (first | decide | omega)) | ((with_reducible apply b_div); (first | decide | omega)) | ((with_reducible apply b_mul); (first | exact .inr (by unfold small; omega) | exact .inl (by unfold small; omega))) | ((with_reducible apply b_pow); (first | decide | (unfold small; omega))) | ((with_reducible apply fl_ref); assumption; exact rfl) | ((with_reducible apply a_isL); (first | exact rd_lst (by assumption) | assumption)) | ((with_reducible apply a_isDct); (first | exact rd_dct (by assumption) | assumption)) | ((with_reducible apply sq_ref); (first | exact rd_lst (by assumption) | assumption)) | ((with_reducible apply sql_ref); assumption) | ((with_reducible apply ln_ref); (first | exact rd_lst (by assumption) | assumption)) | ((with_reducible apply ln_dct); (first | exact rd_dct (by assumption) | assumption)) | ((with_reducible apply keys_ref); (first | exact rd_dct (by assumption) | assumption)) | ((with_reducible apply wo_ref); (first | exact rd_lst (by assumption) | assumption)) | ((with_reducible apply ex_live); (first | exact rd_lst (by assumption) | assumption)) | ((with_reducible apply st_C0); exact rfl) | ((with_reducible apply st_C); exact rfl) | ((with_reducible apply st_D0); exact rfl) | ((with_reducible apply st_D); exact rfl) | ((with_reducible apply st_S); exact rfl))))
section
variable {H : Nat → Prop} {M : Mem} {d : D}
end
/-! ### steps are told by themselves -/
theorem enumL_idx {α : Type} : ∀ (l : List α) (n : Nat) (x : Nat × α), x ∈ enumL n l ↔ n ≤ x.1 ∧ l[x.1 - n]? = some x.2
  | [], n, x => by simp [enumL]
  | y :: l, n, x => by
    rw [enumL, List.mem_cons, enumL_idx l (n + 1) x]
    constructor
    · rintro (rfl | ⟨h1, h2⟩)
      · exact ⟨Nat.le_refl _, by simp⟩
      · refine ⟨by omega, ?_⟩
        have : x.1 - n = (x.1 - (n + 1)) + 1 := by omega
        rw [this, List.getElem?_cons_succ]; exact h2
    · rintro ⟨h1, h2⟩
      by_cases e : x.1 = n
      · left
        rw [e, Nat.sub_self] at h2
        simp at h2
        exact Prod.ext e h2.symm
      · right
        refine ⟨by omega, ?_⟩
        have : x.1 - n = (x.1 - (n + 1)) + 1 := by omega
        rw [this, List.getElem?_cons_succ] at h2; exact h2
theorem ws_look {k : KD} {s i m : Nat} : (WS.look i, m) ∈ ws k s ↔ ∃ a, (k.look s)[i]? = some (a, m) := by
  unfold ws
  rw [List.mem_append, List.mem_map, List.mem_map]
  constructor
  · rintro (⟨x, hx, e⟩ | ⟨t, _, e⟩)
    · injection e with e1 e2
      injection e1 with e1
      have := (enumL_idx _ 0 x).mp hx
      rw [Nat.sub_zero, e1] at this
      exact ⟨x.2.1, by rw [this.2, ← e2]⟩
    · injection e with e1 _; cases e1
  · rintro ⟨a, h⟩
    exact .inl ⟨(i, (a, m)), (enumL_idx _ 0 _).mpr ⟨Nat.zero_le _, by rw [Nat.sub_zero]; exact h⟩, rfl⟩
theorem ws_drift {k : KD} {s t m : Nat} : (WS.drift t, m) ∈ ws k s ↔ t ∈ k.drift s ∧ m = t := by
  unfold ws
  rw [List.mem_append, List.mem_map, List.mem_map]
  constructor
  · rintro (⟨x, _, e⟩ | ⟨t', h, e⟩)
    · injection e with e1 _; cases e1
    · injection e with e1 e2
      injection e1 with e1
      subst e1
      exact ⟨h, e2.symm⟩
  · rintro ⟨h, rfl⟩
    exact .inr ⟨_, h, rfl⟩
theorem js_bothI {k : KD} {p m : Nat × Nat} {i j : Nat} : (JS.both i j, m) ∈ js k p ↔ ∃ a, (k.look p.1)[i]? = some (a, m.1) ∧ (k.look p.2)[j]? = some (a, m.2) := by
  unfold js jb
  simp only [List.mem_append, List.mem_map, List.mem_flatMap, List.mem_filterMap]
  constructor
  · rintro ((⟨x, hx, y, hy, e⟩ | ⟨t, _, e⟩) | ⟨t, _, e⟩)
    · unfold jb2 at e
      split at e
      · rename_i he
        injection e with e
        injection e with e1 e2
        injection e1 with e1 e3
        have q1 := ((enumL_idx _ 0 x).mp hx).2
        have q2 := ((enumL_idx _ 0 y).mp hy).2
        rw [Nat.sub_zero, e1] at q1
        rw [Nat.sub_zero, e3] at q2
        exact ⟨x.2.1, by rw [q1, ← e2], by rw [q2, ← e2, he]⟩
      · cases e
    · injection e with e1 _; cases e1
    · injection e with e1 _; cases e1
  · rintro ⟨a, h1, h2⟩
    refine .inl (.inl ⟨(i, (a, m.1)), (enumL_idx _ 0 _).mpr ⟨Nat.zero_le _, by rw [Nat.sub_zero]; exact h1⟩, (j, (a, m.2)), (enumL_idx _ 0 _).mpr ⟨Nat.zero_le _, by rw [Nat.sub_zero]; exact h2⟩, ?_⟩)
    unfold jb2
    rw [if_pos rfl]
theorem js_first {k : KD} {p m : Nat × Nat} {t : Nat} : (JS.first t, m) ∈ js k p ↔ t ∈ k.drift p.1 ∧ m = (t, p.2) := by
  unfold js
  simp only [List.mem_append, List.mem_map]
  constructor
  · rintro ((h | ⟨t', h, e⟩) | ⟨t', _, e⟩)
    · have := mem_jb h; cases this
    · injection e with e1 e2; injection e1 with e1; subst e1; exact ⟨h, e2.symm⟩
    · injection e with e1 _; cases e1
  · rintro ⟨h, rfl⟩
    exact .inl (.inr ⟨_, h, rfl⟩)
theorem js_second {k : KD} {p m : Nat × Nat} {t : Nat} : (JS.second t, m) ∈ js k p ↔ t ∈ k.drift p.2 ∧ m = (p.1, t) := by
  unfold js
  simp only [List.mem_append, List.mem_map]
  constructor
  · rintro ((h | ⟨t', _, e⟩) | ⟨t', h, e⟩)
    · have := mem_jb h; cases this
    · injection e with e1 _; cases e1
    · injection e with e1 e2; injection e1 with e1; subst e1; exact ⟨h, e2.symm⟩
  · rintro ⟨h, rfl⟩
    exact .inr ⟨_, h, rfl⟩
theorem str_inj {a b : PySem.Str} (h : D.str a = D.str b) : a = b := by injection h
def StepD (k : KD) (s : Nat) (d : D) (m : Nat) : Prop := ∃ w, d = dWS w ∧ (w, m) ∈ ws k s
def WayD (k : KD) (s : Nat) (x : D) (e : Nat) : Prop := ∃ l : List WS, x = .tup (l.map dWS) ∧ WayTo k s l e
def JStepD (k : KD) (p : Nat × Nat) (d : D) (m : Nat × Nat) : Prop := ∃ s, d = dJS s ∧ (s, m) ∈ js k p
def RingD (k : KD) (p : Nat × Nat) (x : D) (e : Nat × Nat) : Prop := ∃ l : List JS, x = .tup (l.map dJS) ∧ RingTo k p l e
theorem wayTo_app {k : KD} {e : Nat} {l2 : List WS} : ∀ {l : List WS} {s : Nat}, WayTo k s (l ++ l2) e → ∃ m, WayTo k s l m ∧ WayTo k m l2 e
  | [], s, h => ⟨s, rfl, h⟩
  | w :: l, s, ⟨m, h1, h2⟩ => by
    obtain ⟨n, h3, h4⟩ := wayTo_app h2
    exact ⟨n, ⟨m, h1, h3⟩, h4⟩
theorem ringTo_app {k : KD} {e : Nat × Nat} {l2 : List JS} : ∀ {l : List JS} {s : Nat × Nat}, RingTo k s (l ++ l2) e → ∃ m, RingTo k s l m ∧ RingTo k m l2 e
  | [], s, h => ⟨s, rfl, h⟩
  | w :: l, s, ⟨m, h1, h2⟩ => by
    obtain ⟨n, h3, h4⟩ := ringTo_app h2
    exact ⟨n, ⟨m, h1, h3⟩, h4⟩
theorem map_eq_append {α : Type} {f : α → D} : ∀ {l : List α} {a b : List D}, l.map f = a ++ b → ∃ l1 l2, l = l1 ++ l2 ∧ l1.map f = a ∧ l2.map f = b := by
  intro l a b h
  exact List.map_eq_append_iff.mp h
/-- where a beginning goes no further nothing goes on -/
theorem WayD.split {k : KD} {s e : Nat} {ds es : List D} {d : D} (h : WayD k s (.tup (ds ++ d :: es)) e) : ∃ m m', WayD k s (.tup ds) m ∧ StepD k m d m' := by
  obtain ⟨l, hl, h1⟩ := h
  injection hl with hl
  obtain ⟨l1, l2, rfl, e1, e2⟩ := map_eq_append hl.symm
  obtain ⟨m, h2, h3⟩ := wayTo_app h1
  cases l2 with
  | nil => cases e2
  | cons w l2 =>
    rw [List.map_cons] at e2
    injection e2 with e2 e3
    obtain ⟨m', h4, _⟩ := h3
    exact ⟨m, m', ⟨l1, by rw [e1], h2⟩, w, e2.symm, h4⟩
theorem RingD.split {k : KD} {s e : Nat × Nat} {ds es : List D} {d : D} (h : RingD k s (.tup (ds ++ d :: es)) e) : ∃ m m', RingD k s (.tup ds) m ∧ JStepD k m d m' := by
  obtain ⟨l, hl, h1⟩ := h
  injection hl with hl
  obtain ⟨l1, l2, rfl, e1, e2⟩ := map_eq_append hl.symm
  obtain ⟨m, h2, h3⟩ := ringTo_app h1
  cases l2 with
  | nil => cases e2
  | cons w l2 =>
    rw [List.map_cons] at e2
    injection e2 with e2 e3
    obtain ⟨m', h4, _⟩ := h3
    exact ⟨m, m', ⟨l1, by rw [e1], h2⟩, w, e2.symm, h4⟩
end MP.PL
end
section
/-! PL47: kinds with more outcomes or drifts; members of a set. -/
namespace MP.PL
/-! ### what a set holds -/
theorem unmap {α : Type} {f : α → D} : ∀ {ds : List D}, (∀ x ∈ ds, ∃ a, x = f a) → ∃ l : List α, ds = l.map f
  | [], _ => ⟨[], rfl⟩
  | d :: ds, h => by
    obtain ⟨a, rfl⟩ := h d (by simp)
    obtain ⟨l, rfl⟩ := unmap (ds := ds) fun x hx => h x (by simp [hx])
    exact ⟨a :: l, rfl⟩
theorem set_of {α : Type} {f : α → D} (hf : ∀ x y, f x = f y → x = y) {l : List α} {ds' : List D} (nd : ds'.Nodup) (h : ∀ x, x ∈ ds' ↔ x ∈ l.map f) : ∃ m : List α, ds' = m.map f ∧ m.Nodup ∧ ∀ x, x ∈ m ↔ x ∈ l := by
  obtain ⟨m, rfl⟩ := unmap (f := f) (ds := ds') fun x hx => by
    obtain ⟨a, _, e⟩ := List.mem_map.mp ((h x).mp hx)
    exact ⟨a, e.symm⟩
  refine ⟨m, rfl, ?_, fun x => ?_⟩
  · unfold List.Nodup at nd ⊢
    rw [List.pairwise_map] at nd
    exact nd.imp fun h z => h (by rw [z])
  · have := h (f x)
    rw [List.mem_map, List.mem_map] at this
    constructor
    · intro hx
      obtain ⟨y, hy, e⟩ := this.mp ⟨x, hx, rfl⟩
      rw [← hf _ _ e]; exact hy
    · intro hx
      obtain ⟨y, hy, e⟩ := this.mpr ⟨x, hx, rfl⟩
      rw [← hf _ _ e]; exact hy
theorem ssOk_P {l : List (Nat × Nat)} (h : l.length < 64) : SsOk (l.map dP) := ⟨by rw [List.length_map]; exact h, .inr ⟨l.map fun p => [(p.1 : Int), (p.2 : Int)], by rw [List.map_map]; rfl⟩⟩
/-! ### more of a kind -/
structure Ext (k k' : KD) : Prop where
  n : k'.n = k.n
  look : ∀ s, ∀ x ∈ k.look s, x ∈ k'.look s
  drift : ∀ s, ∀ x ∈ k.drift s, x ∈ k'.drift s
structure ExtN (k k' : KD) : Prop extends Ext k k' where
  at_ : ∀ (s i : Nat) (x : Nat × Nat), (k.look s)[i]? = some x → (k'.look s)[i]? = some x
theorem Ext.refl (k : KD) : Ext k k := ⟨rfl, fun _ _ h => h, fun _ _ h => h⟩
theorem ExtN.refl (k : KD) : ExtN k k := ⟨.refl k, fun _ _ _ h => h⟩
theorem ExtN.puts (k : KD) (ps : List (Nat × List Nat)) : ExtN k ⟨k.looks, k.drifts, ps⟩ ∧ ExtN ⟨k.looks, k.drifts, ps⟩ k := ⟨⟨⟨rfl, fun _ _ h => h, fun _ _ h => h⟩, fun _ _ _ h => h⟩, ⟨⟨rfl, fun _ _ h => h, fun _ _ h => h⟩, fun _ _ _ h => h⟩⟩
section
variable {k k' : KD}
theorem Ext.dr (e : Ext k k') {p q : Nat × Nat} (h : q ∈ dr k p) : q ∈ MP.PL.dr k' p := by
  unfold MP.PL.dr at h ⊢
  rcases List.mem_append.mp h with h | h
  · obtain ⟨t, ht, rfl⟩ := List.mem_map.mp h
    exact List.mem_append_left _ (List.mem_map.mpr ⟨t, e.drift _ _ ht, rfl⟩)
  · obtain ⟨t, ht, rfl⟩ := List.mem_map.mp h
    exact List.mem_append_right _ (List.mem_map.mpr ⟨t, e.drift _ _ ht, rfl⟩)
theorem Ext.later (e : Ext k k') {p q : Nat × Nat} (h : Later k p q) : Later k' p q := by
  obtain ⟨r, h1, h2⟩ := h
  refine ⟨r, ?_, ?_⟩
  · clear h2
    induction h1 with
    | refl => exact .refl _
    | step _ hz ih => exact ih.step (e.dr hz)
  · obtain ⟨a, b1, b2⟩ := mem_jt.mp h2
    exact mem_jt.mpr ⟨a, e.look _ _ b1, e.look _ _ b2⟩
theorem Ext.ht (e : Ext k k') : ∀ {h : Nat} {p : Nat × Nat}, HtLe k' h p → HtLe k h p
  | 0, _, a => fun q hq => a q (e.later hq)
  | _ + 1, _, a => fun q hq => e.ht (a q (e.later hq))
theorem ExtN.ws (e : ExtN k k') {s m : Nat} {w : WS} (h : (w, m) ∈ ws k s) : (w, m) ∈ MP.PL.ws k' s := by
  cases w with
  | look i =>
    obtain ⟨a, h⟩ := ws_look.mp h
    exact ws_look.mpr ⟨a, e.at_ _ _ _ h⟩
  | drift t =>
    obtain ⟨h1, h2⟩ := ws_drift.mp h
    exact ws_drift.mpr ⟨e.drift _ _ h1, h2⟩
theorem ExtN.js (e : ExtN k k') {p m : Nat × Nat} {j : JS} (h : (j, m) ∈ js k p) : (j, m) ∈ MP.PL.js k' p := by
  cases j with
  | both i j =>
    obtain ⟨a, h1, h2⟩ := js_bothI.mp h
    exact js_bothI.mpr ⟨a, e.at_ _ _ _ h1, e.at_ _ _ _ h2⟩
  | first t =>
    obtain ⟨h1, h2⟩ := js_first.mp h
    exact js_first.mpr ⟨e.drift _ _ h1, h2⟩
  | second t =>
    obtain ⟨h1, h2⟩ := js_second.mp h
    exact js_second.mpr ⟨e.drift _ _ h1, h2⟩
theorem ExtN.way (e : ExtN k k') : ∀ {l : List WS} {s t : Nat}, WayTo k s l t → WayTo k' s l t
  | [], _, _, h => h
  | _ :: _, _, _, ⟨m, h1, h2⟩ => ⟨m, e.ws h1, e.way h2⟩
theorem ExtN.ring (e : ExtN k k') : ∀ {l : List JS} {p q : Nat × Nat}, RingTo k p l q → RingTo k' p l q
  | [], _, _, h => h
  | _ :: _, _, _, ⟨m, h1, h2⟩ => ⟨m, e.js h1, e.ring h2⟩
theorem ExtN.like (e : ExtN k k') {u v : Nat} {l : LK} (h : LikeOf k u v l) : LikeOf k' u v l := by
  obtain ⟨s, t, h1, h2, h3, h4⟩ := h
  exact ⟨s, t, e.way h1, e.way h2, e.ring h3, h4⟩
/-- one row of looks is changed -/
theorem look_set {i s : Nat} {r : List (Nat × Nat)} {D' : List (List Nat)} {ps : List (Nat × List Nat)} (hi : i < k.n) : (KD.mk (k.looks.set i r) D' ps).look s = if i = s then r else k.look s := by
  unfold KD.look
  simp only [List.getD_eq_getElem?_getD, List.getElem?_set]
  by_cases h : i = s
  · subst h
    have : i < k.looks.length := hi
    simp [this]
  · simp [h]
theorem drift_set {i s : Nat} {r : List Nat} {L' : List (List (Nat × Nat))} {ps : List (Nat × List Nat)} (hi : i < k.drifts.length) : (KD.mk L' (k.drifts.set i r) ps).drift s = if i = s then r else k.drift s := by
  unfold KD.drift
  simp only [List.getD_eq_getElem?_getD, List.getElem?_set]
  by_cases h : i = s
  · subst h
    simp [hi]
  · simp [h]
theorem more_drift (hk : k.Ok) {i : Nat} (hi : i < k.n) {r : List Nat} (h1 : OkRow k.n r) (h2 : ∀ x ∈ k.drift i, x ∈ r) : (KD.mk k.looks (k.drifts.set i r) k.puts).Ok ∧ ExtN k ⟨k.looks, k.drifts.set i r, k.puts⟩ := by
  have dl := hk.dl
  refine ⟨⟨hk.n1, hk.n8, hk.looks, by show (k.drifts.set i r).length = k.n; rw [List.length_set]; exact dl, fun x hx => ?_, hk.pl, hk.puts⟩, ⟨rfl, fun _ _ h => h, fun s x hx => ?_⟩, fun _ _ _ h => h⟩
  · rcases List.mem_or_eq_of_mem_set hx with h | rfl
    · exact hk.drifts x h
    · exact h1
  · rw [drift_set (by omega)]
    split
    · rename_i e
      subst e
      exact h2 x hx
    · exact hx
theorem more_look (hk : k.Ok) {i : Nat} (hi : i < k.n) {r : List (Nat × Nat)} (h1 : OkLook k.n r) (h2 : ∀ x ∈ k.look i, x ∈ r) : (KD.mk (k.looks.set i r) k.drifts k.puts).Ok ∧ Ext k ⟨k.looks.set i r, k.drifts, k.puts⟩ ∧
    (r.take (k.look i).length = k.look i → ExtN k ⟨k.looks.set i r, k.drifts, k.puts⟩) := by
  have e : (KD.mk (k.looks.set i r) k.drifts k.puts).n = k.n := by show (k.looks.set i r).length = k.looks.length; rw [List.length_set]
  have ex : Ext k ⟨k.looks.set i r, k.drifts, k.puts⟩ := ⟨e, fun s x hx => by
    rw [look_set hi]
    split
    · rename_i e
      subst e
      exact h2 x hx
    · exact hx, fun _ _ h => h⟩
  refine ⟨⟨by rw [e]; exact hk.n1, by rw [e]; exact hk.n8, fun x hx => ?_, by rw [e]; exact hk.dl, by rw [e]; exact hk.drifts, hk.pl, by rw [e]; exact hk.puts⟩, ex, fun ht => ⟨ex, fun s j x hx => ?_⟩⟩
  · rw [e]
    rcases List.mem_or_eq_of_mem_set hx with h | rfl
    · exact hk.looks x h
    · exact h1
  · rw [look_set hi]
    split
    · rename_i e
      subst e
      have lj := (List.getElem?_eq_some_iff.mp hx).1
      rw [← ht, List.getElem?_take, if_pos lj] at hx
      exact hx
    · exact hx
end
end MP.PL
end
section
/-! PL48: kinds that are nearly sure, and what the laws say of them. -/
namespace MP.PL
local macro_rules | `(tactic| trivial) => `(tactic| (repeat (first | ((with_reducible apply e_var); exact rfl; exact rfl) | with_reducible refine s_end ?_ | with_reducible refine s_seq ?_ | with_reducible refine s_callX0 ?_ | with_reducible refine s_callXn ?_ | with_reducible refine s_callXr ?_ | with_reducible refine s_callXp ?_ | with_reducible refine e_con ?_ | with_reducible refine es_cons ?_ | with_reducible refine es_nil ?_ | with_reducible refine s_asg ?_ | with_reducible refine s_ret ?_ | with_reducible refine s_expr ?_ | with_reducible refine s_ife ?_ | with_reducible refine e_call ?_ | with_reducible refine q_of ?_ | with_reducible refine q_fr ?_ | with_reducible refine s_skip ?_ | with_reducible refine e_ix ?_ | with_reducible refine e_bin ?_ | with_reducible refine e_cmp ?_ | with_reducible refine e_and ?_ | with_reducible refine e_or ?_ | with_reducible refine e_not ?_ | with_reducible refine e_fld ?_ | with_reducible refine e_len ?_ | with_reducible refine e_mkl ?_ | with_reducible refine e_tup ?_ | with_reducible refine e_tupq ?_ | with_reducible refine e_ite ?_ | with_reducible refine s_for ?_ | with_reducible refine s_asgt ?_ | with_reducible refine s_asgIx ?_ | with_reducible refine s_asgFld ?_ | with_reducible refine e_chain ?_ | with_reducible refine e_isi ?_ | with_reducible refine e_all ?_ | with_reducible refine e_any ?_ | with_reducible refine e_sum ?_ | with_reducible refine e_least ?_ | with_reducible refine e_most ?_ | with_reducible refine e_inq ?_ | with_reducible refine e_ind ?_ | with_reducible refine e_dget ?_ | with_reducible refine e_dpop ?_ | with_reducible refine e_abs ?_ | with_reducible refine e_int ?_ | with_reducible refine e_make ?_ | with_reducible refine e_pop ?_ | with_reducible refine e_append ?_ | with_reducible refine e_extend ?_ | with_reducible refine e_reverse ?_ | with_reducible refine e_dclear ?_ | with_reducible refine e_lenv ?_ | with_reducible refine e_cut ?_ | with_reducible refine e_neg ?_ | with_reducible refine e_dcomp ?_ | with_reducible refine f_disp ?_ | with_reducible refine f_list ?_ | with_reducible refine f_keys ?_ | with_reducible refine f_sorted ?_ | with_reducible refine f_cat1 ?_ | with_reducible refine f_cat2 ?_ | with_reducible refine f_cut ?_ | with_reducible refine f_rng ?_ | with_reducible refine f_lc ?_ | with_reducible refine ql_of ?_ | with_reducible refine ql_fr ?_ | with_reducible refine i_fr ?_ | with_reducible refine i_of ?_ | with_reducible refine i_live ?_ | with_reducible refine i_rng ?_ | with_reducible refine i_enum ?_ | with_reducible refine i_keys ?_ | with_reducible refine ifs_nil ?_ | with_reducible refine ifs_cons ?_ | with_reducible refine s_brk ?_ | with_reducible refine s_cont ?_ | with_reducible refine sq_tup ?_ | with_reducible refine wo_tup ?_ | with_reducible refine tr_bl ?_ | with_reducible refine tr_int ?_ | with_reducible refine tr_tup ?_ | with_reducible refine tr_non ?_ | with_reducible refine b_add ?_ | with_reducible refine b_sub ?_ | with_reducible refine c_lt ?_ | with_reducible refine c_le ?_ | with_reducible refine c_gt ?_ | with_reducible refine c_ge ?_ | with_reducible refine pt_non ?_ | with_reducible refine pt_int ?_ | with_reducible refine a_int ?_ | with_reducible refine a_abs ?_ | with_reducible refine a_len ?_ | with_reducible refine a_neg ?_ | ((with_reducible apply if_t); exact rfl) | ((with_reducible apply if_f); exact rfl) | ((with_reducible apply ex_bind); exact rfl) | ((with_reducible apply isi_t); exact rfl) | ((with_reducible apply isi_f); exact rfl) | ((with_reducible apply le_line); exact rfl) | ((with_reducible apply x_tup); exact rfl) | ((with_reducible apply x_lst); (first | exact rd_lst (by assumption) | assumption); exact rfl) | ((with_reducible apply b_mod); (first | decide | omega)) | ((with_reducible apply b_div); (first | decide | omega)) | ((with_reducible apply b_mul); (first | exact .inr (by unfold small; omega) | exact .inl (by unfold small; omega))) | ((with_reducible apply b_pow); (first | decide | (unfold small; omega))) | ((with_reducible apply fl_ref); assumption; exact rfl) | ((with_reducible apply a_isL); (first | exact rd_lst (by assumption) | assumption)) | ((with_reducible apply a_isDct); (first | exact rd_dct (by assumption) | assumption)) | ((with_reducible apply sq_ref); (first | exact rd_lst (by assumption) | assumption)) | ((with_reducible apply sql_ref); assumption) | ((with_reducible apply ln_ref); (first | exact rd_lst (by assumption) | assumption)) | ((with_reducible apply ln_dct); (first | exact rd_dct (by assumption) | assumption)) | ((with_reducible apply keys_ref); (first | exact rd_dct (by assumption) | assumption)) | ((with_reducible apply wo_ref); (first | exact rd_lst (by assumption) | assumption)) | ((with_reducible apply ex_live); (first | exact rd_lst (by assumption) | assumption)) | ((with_reducible apply st_C0); exact rfl) | ((with_reducible apply st_C); exact rfl) | ((with_reducible apply st_D0); exact rfl) | ((with_reducible apply st_D); exact rfl) | ((with_reducible apply st_S); exact rfl))))
class HNearly (P : Prog) : Prop extends HParts P where
  _law_nearly_sure : P "_law_nearly_sure" = some ⟨1, 7, c__law_nearly_sure_79bf⟩
class HLawSure (P : Prog) : Prop where
  _law_is_sure : P "_law_is_sure" = some ⟨2, 3, c__law_is_sure_b3ab⟩
  _law_sure_told : P "_law_sure_told" = some ⟨1, 2, c__law_sure_told_ce2f⟩
class HLawRow (P : Prog) : Prop where
  _law_long_row : P "_law_long_row" = some ⟨3, 6, c__law_long_row_227d⟩
def notSure : DX := ⟨"NotSure", ["NotSure", "SpoilError"]⟩
theorem set_cut {α : Type} : ∀ (l : List α) (i : Nat) (x : α), i < l.length → l.take i ++ [x] ++ l.drop (i + 1) = l.set i x
  | [], _, _, h => by simp at h
  | y :: l, 0, x, _ => by simp
  | y :: l, i + 1, x, h => by
    have := set_cut l i x (by simpa using h)
    simp at this ⊢
    exact this
open Classical in
noncomputable def sureB (k : KD) : Bool := decide k.Sure
theorem sureB_iff {k : KD} : sureB k = true ↔ k.Sure := by unfold sureB; simp
section
variable {P : Prog} {n : Nat} {M : Mem} {Q : VQ} {X : XQ}
theorem bnd_w {m d i : Nat} (h : i ≤ m) : bnd m d (.int (i : Int)) = some i := by
  simp only [bnd]
  rw [if_neg (by omega)]
  congr 1
  omega
theorem nearly_sp [HNearly P] {p : Nat} (hP : Pool p M) (q : ∀ (k : KD) r M', k.Ok → Drawn p M M' → M' r = some (.lst [dLooks k.looks, dRows k.drifts, dPuts k.puts]) → Q (.ref r) M') : callN P (n + 4) "_law_nearly_sure" [.ref p] M Q X := by
  refine call_intro HNearly._law_nearly_sure rfl (e := [some (.ref p), none, none, none, none, none, none]) rfl ?_
  unfold c__law_nearly_sure_79bf
  refine s_seq (s_asgt (e_call (es_cons (e_var rfl rfl (es_cons (e_con (es_nil ?_)))))))
  refine parts_sp hP fun k r M1 hk hs d1 hr => ?_
  have hs : k.Sure := ⟨(hs rfl).1, (hs rfl).2⟩
  have n8 := hk.n8
  have n1 := hk.n1
  have dl := hk.dl
  have ll : k.looks.length = k.n := rfl
  refine ex_bind (e' := [some (.ref p), some (dLooks k.looks), some (dRows k.drifts), some (dPuts k.puts), none, none, none]) (by simp [bind, bind.binds, rd_lst hr]) ?_
  refine s_seq (s_asg (e_call (es_cons (e_var rfl rfl (es_cons (e_len (q_of (e_var rfl rfl (sq_tup ?_)))))))))
  rw [List.length_map, ll]
  refine es_nil ?_
  refine draw_sp (m := k.n) d1.pool (by omega) (by omega) fun i M2 hi d2 => ?_
  replace d2 := d1.trans d2
  trivial
  refine draw_sp (m := 6) d2.pool (by omega) (by omega) fun z M3 hz d3 => ?_
  replace d3 := d2.trans d3
  have klk : (k.looks.map dPs)[i]? = some (dPs (k.look i)) := kind_look hk hi
  refine s_cutJ (fun e M' => ∃ (k' : KD) (a6 : Option D), e = [some (.ref p), some (dLooks k'.looks), some (dRows k'.drifts), some (dPuts k'.puts), some (dN i), some (dN z), a6] ∧ k'.Ok ∧ k'.n = k.n ∧ Drawn p M M' ∧ (z = 1 → k' = k)) (fun e M4 hI => ?_) (fun nx2 hn2 => ?_)
  · obtain ⟨k', a6, rfl, hk', hn', d4, hz1⟩ := hI
    have n8' := hk'.n8
    have dl' := hk'.dl
    refine s_cutJ (fun e M' => ∃ (k' : KD) (a6 : Option D), e = [some (.ref p), some (dLooks k'.looks), some (dRows k'.drifts), some (dPuts k'.puts), some (dN i), some (dN z), a6] ∧ k'.Ok ∧ Drawn p M M') (fun e M5 hI => ?_) (fun nx3 hn3 => ?_)
    · obtain ⟨k'', a6, rfl, hk'', d5⟩ := hI
      refine s_end (s_ret (e_mkl (f_disp (es_cons (e_var rfl rfl (es_cons (e_var rfl rfl (es_cons (e_var rfl rfl (es_nil ⟨by simp [line], wn fun r2 hr2 => ?_⟩))))))))))
      exact q k'' r2 _ hk'' (d5.new hr2) (Mem.set_same _ _ _)
    · refine s_end (s_ife (e_cmp (e_var rfl rfl (e_con (c_eq (eqD_dat rfl rfl) (tr_bl (if_s (fun h1 => ?_) fun _ => s_skip (hn3 _ _ ⟨k', a6, rfl, hk', d4⟩))))))))
      have h1 : z = 1 := by simp only [D.eqv] at h1; have := of_decide_eq_true h1; omega
      obtain rfl := hz1 h1
      refine s_end (s_asg (e_bin (e_bin (e_cut (e_var rfl rfl (e_con (pt_non (e_var rfl rfl (pt_int (ct_tup (i := 0) (j := i) rfl (bnd_w (by rw [List.length_map]; omega)) ?_))))))))))
      refine e_tup (es_cons (e_tup (es_cons (e_call (es_cons (e_var rfl rfl (es_cons (e_len (q_of (e_var rfl rfl (sq_tup ?_)))))))))))
      rw [List.length_map, ll]
      refine es_nil ?_
      refine draw_sp (m := k'.n) d4.pool (by omega) (by omega) fun t M5 ht d5 => ?_
      refine es_nil ⟨by simp [line], es_nil ⟨by simp [line], ?_⟩⟩
      have e0 : cutL (k'.drifts.map dNs) 0 i = (k'.drifts.map dNs).take i := by unfold cutL; simp
      rw [e0]
      refine b_addt (by rw [List.length_append, List.length_take, List.length_map]; simp [line]; omega) ?_
      refine e_cut (e_var rfl rfl (e_bin (e_var rfl rfl (e_con (b_add (pt_int (e_con (pt_non (ct_tup (i := i + 1) (j := (k'.drifts.map dNs).length) (bnd_w (i := i + 1) (by rw [List.length_map]; omega)) rfl ?_)))))))))
      have e1 : cutL (k'.drifts.map dNs) (i + 1) (k'.drifts.map dNs).length = (k'.drifts.map dNs).drop (i + 1) := by
        unfold cutL
        rw [List.take_of_length_le (by rw [List.length_drop]; exact Nat.le_refl _)]
      rw [e1]
      have e2 : (k'.drifts.map dNs).take i ++ [.tup [dN t]] ++ (k'.drifts.map dNs).drop (i + 1) = (k'.drifts.set i [t]).map dNs := by
        rw [List.map_set]
        exact set_cut _ _ _ (by rw [List.length_map]; omega)
      refine b_addt (by rw [e2, List.length_map, List.length_set]; unfold line; omega) ?_
      rw [e2]
      have hem : k'.drift i = [] := by
        have hi' : i < k'.drifts.length := by omega
        have : k'.drift i = k'.drifts[i] := by unfold KD.drift; rw [List.getD_eq_getElem?_getD, List.getElem?_eq_getElem hi']; rfl
        rw [this]; exact hs.no _ (List.getElem_mem hi')
      obtain ⟨ok, _⟩ := more_drift hk hi (r := [t]) ⟨by simp, fun x hx => by simp at hx; omega⟩ fun x hx => by rw [hem] at hx; cases hx
      exact hn3 _ _ ⟨⟨k'.looks, k'.drifts.set i [t], k'.puts⟩, _, rfl, ok, d4.trans d5⟩
  · refine s_end (s_ife (e_cmp (e_var rfl rfl (e_con (c_eq (eqD_dat rfl rfl) (tr_bl (if_s (fun h0 => ?_) fun _ => s_skip (hn2 _ _ ⟨k, _, rfl, hk, rfl, d3, fun _ => rfl⟩))))))))
    have h0 : z = 0 := by simp only [D.eqv] at h0; have := of_decide_eq_true h0; omega
    have hlk := sure_look hk hs hi
    have lo := look_ok hk hi
    refine s_seq (s_asg (e_tupq (q_fr (f_sset (q_fr (f_disp (es_cons (e_ix (e_ix (e_var rfl rfl (e_var rfl rfl (x_tup (atI_some klk rfl) ?_))))))))))))
    rw [hlk]
    refine e_con (x_tup (atI_some (i := 0) rfl rfl) (es_cons (e_tup (es_cons (e_call (es_cons (e_var rfl rfl (es_cons (e_con (es_nil ?_))))))))))
    refine draw_sp (m := 10) d3.pool (by omega) (by omega) fun x M4 hx d4 => ?_
    replace d4 := d3.trans d4
    refine es_cons (e_call (es_cons (e_var rfl rfl (es_cons (e_len (q_of (e_var rfl rfl (sq_tup ?_))))))))
    rw [List.length_map, ll]
    refine es_nil ?_
    refine draw_sp (m := k.n) d4.pool (by omega) (by omega) fun t M5 ht d5 => ?_
    replace d5 := d4.trans d5
    refine es_nil ⟨by simp [line], es_nil ⟨by simp [line], ?_⟩⟩
    have e0 : [dP (k.ans i, k.nxt i), D.tup [dN x, dN t]] = [(k.ans i, k.nxt i), (x, t)].map dP := rfl
    rw [e0]
    refine ⟨ssOk_P (by simp), srt_P _, fun ds' nd mem => ?_⟩
    obtain ⟨m0, rfl, n1', n2⟩ := set_of (fun _ _ => dP_inj) nd mem
    rw [sortD_P]
    have h1 := sortP_asc n1'
    have h2 : ∀ x', x' ∈ sortP m0 ↔ x' ∈ [(k.ans i, k.nxt i), (x, t)] := fun x' => sortP_mem.trans (n2 x')
    generalize sortP m0 = m at h1 h2 ⊢
    have m1 : 1 ≤ m.length := List.length_pos_of_mem ((h2 (x, t)).mpr (by simp))
    have m2 : m.length ≤ 2 := nodup_len (m := [(k.ans i, k.nxt i), (x, t)]) (h1.imp fun h z => by subst z; unfold pLt at h; omega) fun y hy => (h2 y).mp hy
    have hmem : ∀ y ∈ m, y.1 ≤ 9 ∧ y.2 < k.n := fun y hy => by
      have := (h2 y).mp hy
      simp at this
      rcases this with rfl | rfl
      · exact ⟨lo.a (k.ans i, k.nxt i) (by rw [hlk]; simp), lo.s (k.ans i, k.nxt i) (by rw [hlk]; simp)⟩
      · exact ⟨by show x ≤ 9; omega, ht⟩
    refine s_end (s_asg (e_bin (e_bin (e_cut (e_var rfl rfl (e_con (pt_non (e_var rfl rfl (pt_int (ct_tup (i := 0) (j := i) rfl (bnd_w (by rw [List.length_map]; omega)) ?_))))))))))
    refine e_tup (es_cons (e_var rfl rfl (es_nil ⟨by simp [line], ?_⟩)))
    have e0 : cutL (k.looks.map dPs) 0 i = (k.looks.map dPs).take i := by unfold cutL; simp
    rw [e0]
    refine b_addt (by rw [List.length_append, List.length_take, List.length_map]; simp [line]; omega) ?_
    refine e_cut (e_var rfl rfl (e_bin (e_var rfl rfl (e_con (b_add (pt_int (e_con (pt_non (ct_tup (i := i + 1) (j := (k.looks.map dPs).length) (bnd_w (i := i + 1) (by rw [List.length_map]; omega)) rfl ?_)))))))))
    have e1 : cutL (k.looks.map dPs) (i + 1) (k.looks.map dPs).length = (k.looks.map dPs).drop (i + 1) := by
      unfold cutL
      rw [List.take_of_length_le (by rw [List.length_drop]; exact Nat.le_refl _)]
    rw [e1]
    have e2 : (k.looks.map dPs).take i ++ [.tup (m.map dP)] ++ (k.looks.map dPs).drop (i + 1) = (k.looks.set i m).map dPs := by
      rw [List.map_set]
      exact set_cut _ _ _ (by rw [List.length_map]; omega)
    refine b_addt (by rw [e2, List.length_map, List.length_set]; unfold line; omega) ?_
    rw [e2]
    obtain ⟨ok, ex, _⟩ := more_look hk hi (r := m) ⟨m1, by omega, h1, fun y hy => (hmem y hy).1, fun y hy => (hmem y hy).2⟩ fun y hy => (h2 y).mpr (by rw [hlk] at hy; simp at hy; simp [hy])
    exact hn2 _ _ ⟨⟨k.looks.set i m, k.drifts, k.puts⟩, _, rfl, ok, ex.n, d5, fun h => by omega⟩
theorem eqvs_N (l m : List Nat) : D.eqvs (l.map dN) (m.map dN) = decide (l = m) := by
  have := eqv_rows l m
  unfold dNs at this
  rw [D.eqv] at this
  exact this
theorem rep_flat (n : Nat) (x : Nat) : (List.replicate n [dN x]).flatten = (List.replicate n x).map dN := by
  induction n with
  | zero => rfl
  | succ n ih => rw [List.replicate_succ, List.flatten_cons, ih, List.replicate_succ]; rfl
theorem lens_eq {α : Type} (l : List (List α)) (x n : Nat) (h : l.length = n) : l.map List.length = List.replicate n x ↔ ∀ r ∈ l, r.length = x := by
  rw [List.eq_replicate_iff]
  constructor
  · rintro ⟨_, h2⟩ r hr
    exact h2 _ (List.mem_map.mpr ⟨r, hr, rfl⟩)
  · intro h2
    refine ⟨by rw [List.length_map]; exact h, fun b hb => ?_⟩
    obtain ⟨r, hr, rfl⟩ := List.mem_map.mp hb
    exact h2 r hr
theorem law_is_sure_sp [HLawSure P] {k : KD} (hk : k.Ok) (q : ∀ M', Fr no M M' → Q (.bl (sureB k)) M') : callN P (n + 1) "_law_is_sure" [dLooks k.looks, dRows k.drifts] M Q X := by
  refine call_intro HLawSure._law_is_sure rfl (e := [some (dLooks k.looks), some (dRows k.drifts), none]) rfl ?_
  unfold c__law_is_sure_b3ab
  have n8 := hk.n8
  have dl := hk.dl
  have ll : k.looks.length = k.n := rfl
  have okN : ∀ l : List Nat, D.oks 60 (l.map dN) = true := fun l => oks_map (fun _ => by simp [D.ok]) _
  refine s_end (s_ret (e_and (e_cmp (e_mkl (f_lc (i_of (e_var rfl rfl (wo_tup ?_))))))))
  refine lc_mapA dPs (fun r => dN r.length) trivial (by unfold line; omega) (fun r R _ hR => ?_) (wn fun a ha => ?_)
  · refine st_C rfl ?_
    trivial
    refine sq_tup ?_
    rw [List.length_map]
    exact hR
  have f1 : Fr no M (M.set a (.lst (k.looks.map fun r => dN r.length))) := .new ha
  have ca : (M.set a (.lst (k.looks.map fun r => dN r.length))) a = some (.lst ((k.looks.map List.length).map dN)) := by rw [List.map_map]; exact Mem.set_same _ _ _
  change wE _ _ _ (M.set a (.lst (k.looks.map fun r => dN r.length))) _ _
  generalize M.set a (.lst (k.looks.map fun r => dN r.length)) = M1 at f1 ca ⊢
  refine e_bin (e_mkl (f_disp (es_cons (e_con (es_nil ⟨by simp [line], wn fun b hb => ?_⟩)))))
  have cb : (M1.set b (.lst [.int 1])) b = _ := Mem.set_same _ _ _
  have ca1 : (M1.set b (.lst [.int 1])) a = _ := (Mem.set_ne _ _ (ne_of hb ca)).trans ca
  have f2 : Fr no M (M1.set b (.lst [.int 1])) := f1.trans (.new hb)
  generalize M1.set b (.lst [.int 1]) = M2 at cb ca1 f2 ⊢
  refine e_len (q_of (e_var rfl rfl (sq_tup (b_mull cb ⟨by omega, by rw [List.length_map]; omega, by simp [line]; omega⟩ (wn fun c hc => ?_)))))
  rw [List.length_map, ll]
  have e1 : (List.replicate (((k.n : Nat) : Int)).toNat [D.int 1]).flatten = (List.replicate k.n 1).map dN := rep_flat k.n 1
  rw [e1]
  have cc : (M2.set c (.lst ((List.replicate k.n 1).map dN))) c = _ := Mem.set_same _ _ _
  have ca2 : (M2.set c (.lst ((List.replicate k.n 1).map dN))) a = _ := (Mem.set_ne _ _ (ne_of hc ca1)).trans ca1
  have f3 : Fr no M (M2.set c (.lst ((List.replicate k.n 1).map dN))) := f2.trans (.new hc)
  generalize M2.set c (.lst ((List.replicate k.n 1).map dN)) = M3 at cc ca2 f3 ⊢
  refine c_eq (eqD_lst (rd_lst ca2) (rd_lst cc) (okN _) (okN _)) ?_
  rw [eqvs_N]
  refine tr_bl (if_s (fun h1 => ?_) fun h1 => ?_)
  · have h1 := (lens_eq k.looks 1 k.n ll).mp (of_decide_eq_true h1)
    refine e_cmp (e_mkl (f_lc (i_of (e_var rfl rfl (wo_tup ?_)))))
    refine lc_mapA dNs (fun r => dN r.length) trivial (by unfold line; omega) (fun r R _ hR => ?_) (wn fun a ha => ?_)
    · refine st_C rfl ?_
      trivial
      refine sq_tup ?_
      rw [List.length_map]
      exact hR
    have f4 : Fr no M (M3.set a (.lst (k.drifts.map fun r => dN r.length))) := f3.trans (.new ha)
    have ca : (M3.set a (.lst (k.drifts.map fun r => dN r.length))) a = some (.lst ((k.drifts.map List.length).map dN)) := by rw [List.map_map]; exact Mem.set_same _ _ _
    change wE _ _ _ (M3.set a (.lst (k.drifts.map fun r => dN r.length))) _ _
    generalize M3.set a (.lst (k.drifts.map fun r => dN r.length)) = M4 at f4 ca ⊢
    refine e_bin (e_mkl (f_disp (es_cons (e_con (es_nil ⟨by simp [line], wn fun b hb => ?_⟩)))))
    have cb : (M4.set b (.lst [.int 0])) b = _ := Mem.set_same _ _ _
    have ca1 : (M4.set b (.lst [.int 0])) a = _ := (Mem.set_ne _ _ (ne_of hb ca)).trans ca
    have f5 : Fr no M (M4.set b (.lst [.int 0])) := f4.trans (.new hb)
    generalize M4.set b (.lst [.int 0]) = M5 at cb ca1 f5 ⊢
    refine e_len (q_of (e_var rfl rfl (sq_tup (b_mull cb ⟨by omega, by rw [List.length_map]; omega, by simp [line]; omega⟩ (wn fun c hc => ?_)))))
    rw [List.length_map, ll]
    have e1 : (List.replicate (((k.n : Nat) : Int)).toNat [D.int 0]).flatten = (List.replicate k.n 0).map dN := rep_flat k.n 0
    rw [e1]
    have cc : (M5.set c (.lst ((List.replicate k.n 0).map dN))) c = _ := Mem.set_same _ _ _
    have ca2 : (M5.set c (.lst ((List.replicate k.n 0).map dN))) a = _ := (Mem.set_ne _ _ (ne_of hc ca1)).trans ca1
    have f6 : Fr no M (M5.set c (.lst ((List.replicate k.n 0).map dN))) := f5.trans (.new hc)
    generalize M5.set c (.lst ((List.replicate k.n 0).map dN)) = M6 at cc ca2 f6 ⊢
    refine c_eq (eqD_lst (rd_lst ca2) (rd_lst cc) (okN _) (okN _)) ?_
    rw [eqvs_N]
    have e : decide (k.drifts.map List.length = List.replicate k.n 0) = sureB k := by
      have : sureB k = true ↔ k.drifts.map List.length = List.replicate k.n 0 := sureB_iff.trans ⟨fun z => (lens_eq k.drifts 0 k.n dl).mpr fun r hr => by rw [z.no r hr]; rfl, fun z => ⟨h1, fun r hr => List.length_eq_zero_iff.mp ((lens_eq k.drifts 0 k.n dl).mp z r hr)⟩⟩
      cases hz : sureB k with
      | true => exact decide_eq_true (this.mp hz)
      | false => exact decide_eq_false fun z => by rw [this.mpr z] at hz; cases hz
    rw [e]
    exact q M6 f6
  · have h1 := of_decide_eq_false h1
    have : sureB k = false := by
      cases z : sureB k with
      | false => rfl
      | true => exact absurd ((lens_eq k.looks 1 k.n ll).mpr (sureB_iff.mp z).one) h1
    rw [decide_eq_false h1, ← this]
    exact q M3 f3
theorem is_sureb_sp [HTrack P] {k : KD} {o c : Nat} (hK : KindAt k o c M) (q : Q (.bl (sureB k)) M) : callN P (n + 1) "is_sure" [.ref o] M Q X := by
  refine call_intro HTrack.is_sure rfl (e := [some (.ref o), none, none]) rfl ?_
  unfold c_is_sure
  have n8 := hK.ok.n8
  have dl := hK.ok.dl
  have ll : k.looks.length = k.n := rfl
  refine s_end (s_ret (e_and (e_all (q_fr (f_lc (i_of (e_fld (e_var rfl rfl (fl_ref hK.obj rfl ?_)))))))))
  refine lc_mapA dPs (fun r => D.bl (decide (r.length = 1))) trivial (by unfold line; omega) (fun os R ho hR => ?_) ?_
  · refine st_C rfl ?_
    refine e_cmp (e_len (q_of (e_var rfl rfl (sq_tup (e_con (c_eq (eqD_dat rfl rfl) ?_))))))
    rw [List.length_map]
    have e : D.eqv (.int ((os.length : Nat) : Int)) (.int 1) = decide (os.length = 1) := by simp only [D.eqv]; congr 1; exact propext ⟨fun h => by omega, fun h => by omega⟩
    rw [e]
    exact hR
  · refine ⟨_, bools_map (fun r : List (Nat × Nat) => decide (r.length = 1)) _, ?_⟩
    cases h1 : ((k.looks.map fun r => decide (r.length = 1)).all id) with
    | false =>
      have : sureB k = false := by
        cases z : sureB k with
        | false => rfl
        | true =>
          have hz := (sureB_iff.mp z).one
          have : ((k.looks.map fun r => decide (r.length = 1)).all id) = true := List.all_eq_true.mpr fun x hx => by
            obtain ⟨r, hr, rfl⟩ := List.mem_map.mp hx
            exact decide_eq_true (hz r hr)
          rw [this] at h1; cases h1
      exact tr_bl (if_f rfl (by rw [← this]; exact q))
    | true =>
      have h1 : ∀ r ∈ k.looks, r.length = 1 := fun r hr => by
        have := List.all_eq_true.mp h1 _ (List.mem_map.mpr ⟨r, hr, rfl⟩)
        exact of_decide_eq_true this
      refine tr_bl (if_t rfl (e_not (e_any (q_fr (f_lc (i_of (e_fld (e_var rfl rfl (fl_ref hK.obj rfl ?_)))))))))
      refine lc_mapA dNs (fun r => D.int ((r.length : Nat) : Int)) trivial (by unfold line; omega) (fun os R ho hR => ?_) ?_
      · refine st_C rfl ?_
        trivial
        refine sq_tup ?_
        rw [List.length_map]
        exact hR
      · refine ⟨_, truths_ints (fun r : List Nat => ((r.length : Nat) : Int)) k.drifts, ?_⟩
        have e : (!(k.drifts.map fun r => decide (((r.length : Nat) : Int) ≠ 0)).any id) = sureB k := by
          have : sureB k = true ↔ ∀ r ∈ k.drifts, r = [] := sureB_iff.trans ⟨fun z => z.no, fun z => ⟨h1, z⟩⟩
          cases hz : sureB k with
          | true =>
            have := this.mp hz
            rw [Bool.not_eq_true', List.any_eq_false]
            intro x hx
            obtain ⟨r, hr, rfl⟩ := List.mem_map.mp hx
            rw [this r hr]; simp
          | false =>
            rw [Bool.not_eq_false', List.any_eq_true]
            apply Classical.byContradiction
            intro no
            rw [this.mpr fun r hr => Classical.byContradiction fun hn => no ⟨_, List.mem_map.mpr ⟨r, hr, rfl⟩, by
              have : r.length ≠ 0 := fun z => hn (List.length_eq_zero_iff.mp z)
              simp; exact hn⟩] at hz
            cases hz
        refine tr_bl ?_
        rw [e]
        exact q
theorem check_sure_sp [HTrack P] {k : KD} {o c : Nat} (hK : KindAt k o c M) (q : k.Sure → Q .non M) (x : ¬ k.Sure → X notSure M) : callN P (n + 2) "check_sure" [.ref o] M Q X := by
  refine call_intro HTrack.check_sure rfl (e := [some (.ref o)]) rfl ?_
  unfold c_check_sure
  refine s_end (s_ife (e_not (e_call (es_cons (e_var rfl rfl (es_nil ?_))))))
  refine is_sureb_sp hK ?_
  cases h : sureB k with
  | true => exact tr_bl (tr_bl (if_f rfl (s_skip (q (sureB_iff.mp h)))))
  | false => exact tr_bl (tr_bl (if_t rfl (s_end (s_raise (x fun z => by rw [sureB_iff.mpr z] at h; cases h)))))
/-- what a call tells, or "refused" -/
theorem told_sp [HLawSure P] {l : String} {cap : List D} (h : ∀ (Q' : VQ) (X' : XQ), (∀ d M', d.nclo = true → Q d M' → Q' d M') → (∀ M', Q (.str "refused") M' → X' notSure M') → callN P n l cap M Q' X') : callN P (n + 1) "_law_sure_told" [.clo l cap] M Q X := by
  refine call_intro HLawSure._law_sure_told rfl (e := [some (.clo l cap), none]) rfl ?_
  unfold c__law_sure_told_ce2f
  refine s_seq (s_asg (e_con (s_seq (s_tryV rfl (h _ _ (fun d M' hd hq => ?_) fun M' hq => ?_)))))
  · exact s_end (s_ret (e_var rfl hd hq))
  · exact hs_hit (by simp [notSure]) (s_end (s_ret (e_var rfl rfl hq)))
/-! ### the laws' rows -/
theorem win_succ (f : Nat → Nat) (n : Nat) : win f 0 (n + 1) = win f 0 n ++ [f n] := by
  unfold win
  rw [List.range_succ, List.map_append]
  simp
theorem long_row_sp [HLawRow P] {k : KD} {s m : Nat} (hk : k.Ok) (hs : k.Sure) (h : s < k.n) (hm : m ≤ 1000) (q : ∀ r M', Fr no M M' → M' r = some (.lst [dNs (win (k.sq s) 0 m), dN (k.it m s)]) → Q (.ref r) M') : callN P (n + 1) "_law_long_row" [dLooks k.looks, dN s, dN m] M Q X := by
  refine call_intro HLawRow._law_long_row rfl (e := [some (dLooks k.looks), some (dN s), some (dN m), none, none, none]) rfl ?_
  unfold c__law_long_row_227d
  refine s_seq (s_asg (e_mkl (f_disp (es_nil ⟨by simp [line], wn fun a ha => ?_⟩))))
  have f1 : Fr no M (M.set a (.lst [])) := .new ha
  have ca : (M.set a (.lst [])) a = some (.lst ((win (k.sq s) 0 0).map dN)) := Mem.set_same _ _ _
  generalize M.set a (.lst []) = M1 at f1 ca ⊢
  refine s_seq (s_for (i_rng (e_con (e_var rfl rfl ?_))))
  refine ex_rngN (by omega) ?_
  refine for_rngN (fun i e M' => ∃ (a4 a5 : Option D), e = [some (dLooks k.looks), some (dN (k.it i s)), some (dN m), some (.ref a), a4, a5] ∧ Fr no M M' ∧ M' a = some (.lst ((win (k.sq s) 0 i).map dN))) ⟨_, _, rfl, f1, ca⟩ (fun i e M2 nx2 hi hI hn2 => ?_) (fun e M2 hI => ?_)
  · obtain ⟨a4, a5, rfl, f2, ca⟩ := hI
    have hlt := it_lt hk hs h i
    refine st_S rfl ?_
    refine s_seq (s_asgt (e_ix (e_ix (e_var rfl rfl (e_var rfl rfl (x_tup (atI_some (kind_look hk hlt) rfl) ?_))))))
    rw [sure_look hk hs hlt]
    refine e_con (x_tup (atI_some (i := 0) rfl rfl) ?_)
    refine ex_bind (e' := [some (dLooks k.looks), some (dN (k.it (i + 1) s)), some (dN m), some (.ref a), some (dN i), some (dN (k.sq s i))]) (by simp [bind, bind.binds, dP, KD.it, KD.sq]) ?_
    refine s_end (s_expr (e_append (e_var rfl rfl ⟨by simp only [isL, rd_lst ca], e_var rfl rfl (ap_ref ca (by rw [List.length_map, win_len]; unfold line; omega) ?_)⟩)))
    have e : (win (k.sq s) 0 i).map dN ++ [dN (k.sq s i)] = (win (k.sq s) 0 (i + 1)).map dN := by rw [win_succ]; simp
    rw [e]
    have a0 : M a = none := ha
    exact hn2 _ _ ⟨_, _, rfl, f2.put0 a0, Mem.set_same _ _ _⟩
  · obtain ⟨a4, a5, rfl, f2, ca⟩ := hI
    refine s_end (s_ret (e_mkl (f_disp (es_cons (e_tupq (q_of (e_var rfl rfl (sq_ref (rd_lst ca) (es_cons (e_var rfl rfl (es_nil ⟨by simp [line], wn fun r hr => ?_⟩)))))))))))
    exact q r _ (f2.trans (.new hr)) (Mem.set_same _ _ _)
end
end MP.PL
end
section
/-! PL49: how worn a cell is. -/
namespace MP.PL
section
variable {k : KD}
/-- looks lead back to x -/
def OnC (k : KD) (x : Nat) : Prop := ∃ m, 1 ≤ m ∧ k.it m x = x
def IsWorn (k : KD) (s w : Nat) : Prop := OnC k (k.it w s) ∧ ∀ i, OnC k (k.it i s) → w ≤ i
theorem IsWorn.uniq {s w w' : Nat} (h : IsWorn k s w) (h' : IsWorn k s w') : w = w' := by
  have := h.2 _ h'.1
  have := h'.2 _ h.1
  omega
theorem onC_nxt {x : Nat} (h : OnC k x) : OnC k (k.nxt x) := by
  obtain ⟨m, m1, e⟩ := h
  refine ⟨m, m1, ?_⟩
  have h1 : k.it m (k.it 1 x) = k.it (m + 1) x := (it_add m 1 x).symm
  have h2 : k.it (1 + m) x = k.it 1 (k.it m x) := it_add 1 m x
  show k.it m (k.it 1 x) = k.it 1 x
  rw [h1, Nat.add_comm, h2, e]
theorem onC_mul {x m : Nat} (e : k.it m x = x) : ∀ j, k.it (m * j) x = x
  | 0 => rfl
  | j + 1 => by
    rw [Nat.mul_succ, it_add, e]
    exact onC_mul e j
/-- on a round that is no longer than eight -/
theorem onC_8 (hk : k.Ok) (hs : k.Sure) {x : Nat} (hx : x < k.n) : OnC k x ↔ ∃ m, 1 ≤ m ∧ m ≤ 8 ∧ k.it m x = x := by
  constructor
  · rintro ⟨m, m1, e⟩
    obtain ⟨b, T, h1, h2, h3⟩ := come_round hk hs hx
    have n8 := hk.n8
    refine ⟨T - b, by omega, by omega, ?_⟩
    -- x = it (m*b') x with m*b' ≥ b
    have h4 := onC_mul e b
    have hb : b ≤ m * b := Nat.le_mul_of_pos_left b (by omega)
    have e1 : k.it (T - b) (k.it (m * b) x) = k.it (m * b) x := by
      rw [← it_add]
      have a1 : T - b + m * b = (m * b - b) + T := by omega
      have a2 : m * b = (m * b - b) + b := by omega
      rw [a1, it_add, h3, ← it_add, ← a2]
    rw [h4] at e1
    exact e1
  · rintro ⟨m, m1, _, e⟩
    exact ⟨m, m1, e⟩
theorem worn_of (hk : k.Ok) (hs : k.Sure) {s b T : Nat} (h1 : b < T) (e : k.it T s = k.it b s) (nd : (trk k s T).Nodup) : IsWorn k s b := by
  have red : ∀ i, b ≤ i → ∃ c, b ≤ c ∧ c < T ∧ k.it i s = k.it c s := by
    intro i
    induction i using Nat.strongRecOn with
    | _ i ih =>
      intro hi
      by_cases h : i < T
      · exact ⟨i, hi, h, rfl⟩
      · obtain ⟨c, c1, c2, c3⟩ := ih (i - T + b) (by omega) (by omega)
        refine ⟨c, c1, c2, ?_⟩
        have a1 : i = (i - T) + T := by omega
        rw [← c3, a1, it_add, e, ← it_add]
        congr 1; omega
  refine ⟨⟨T - b, by omega, ?_⟩, fun i ⟨m, m1, em⟩ => ?_⟩
  · rw [← it_add, show T - b + b = T from by omega]; exact e
  · apply Classical.byContradiction
    intro hi
    have h4 := onC_mul em b
    have hb : b ≤ m * b := Nat.le_mul_of_pos_left b (by omega)
    rw [← it_add] at h4
    obtain ⟨c, c1, c2, c3⟩ := red (m * b + i) (by omega)
    rw [h4] at c3
    have := trk_inj nd (by omega) c2 c3
    omega
theorem worn_nxt {s w : Nat} (h : IsWorn k s w) : IsWorn k (k.nxt s) (w - 1) := by
  have sh : ∀ i, k.it i (k.nxt s) = k.it (i + 1) s := fun i => (it_add i 1 s).symm
  refine ⟨?_, fun i hi => ?_⟩
  · rw [sh]
    by_cases h0 : w = 0
    · subst h0
      exact onC_nxt h.1
    · rw [show w - 1 + 1 = w from by omega]; exact h.1
  · rw [sh] at hi
    have := h.2 _ hi
    omega
end
end MP.PL
end
section
/-! PL34: the program's judge of likenesses. -/
namespace MP.PL
local macro_rules | `(tactic| trivial) => `(tactic| (repeat (first | ((with_reducible apply e_var); exact rfl; exact rfl) | with_reducible refine s_end ?_ | with_reducible refine s_seq ?_ | with_reducible refine s_callX0 ?_ | with_reducible refine s_callXn ?_ | with_reducible refine s_callXr ?_ | with_reducible refine s_callXp ?_ | with_reducible refine e_con ?_ | with_reducible refine es_cons ?_ | with_reducible refine es_nil ?_ | with_reducible refine s_asg ?_ | with_reducible refine s_ret ?_ | with_reducible refine s_expr ?_ | with_reducible refine s_ife ?_ | with_reducible refine e_call ?_ | with_reducible refine q_of ?_ | with_reducible refine q_fr ?_ | with_reducible refine s_skip ?_ | with_reducible refine e_ix ?_ | with_reducible refine e_bin ?_ | with_reducible refine e_cmp ?_ | with_reducible refine e_and ?_ | with_reducible refine e_or ?_ | with_reducible refine e_not ?_ | with_reducible refine e_fld ?_ | with_reducible refine e_len ?_ | with_reducible refine e_mkl ?_ | with_reducible refine e_tup ?_ | with_reducible refine e_tupq ?_ | with_reducible refine e_ite ?_ | with_reducible refine s_for ?_ | with_reducible refine s_asgt ?_ | with_reducible refine s_asgIx ?_ | with_reducible refine s_asgFld ?_ | with_reducible refine e_chain ?_ | with_reducible refine e_isi ?_ | with_reducible refine e_all ?_ | with_reducible refine e_any ?_ | with_reducible refine e_sum ?_ | with_reducible refine e_least ?_ | with_reducible refine e_most ?_ | with_reducible refine e_inq ?_ | with_reducible refine e_ind ?_ | with_reducible refine e_dget ?_ | with_reducible refine e_dpop ?_ | with_reducible refine e_abs ?_ | with_reducible refine e_int ?_ | with_reducible refine e_make ?_ | with_reducible refine e_pop ?_ | with_reducible refine e_append ?_ | with_reducible refine e_extend ?_ | with_reducible refine e_reverse ?_ | with_reducible refine e_dclear ?_ | with_reducible refine e_lenv ?_ | with_reducible refine e_cut ?_ | with_reducible refine e_neg ?_ | with_reducible refine e_dcomp ?_ | with_reducible refine f_disp ?_ | with_reducible refine f_list ?_ | with_reducible refine f_keys ?_ | with_reducible refine f_sorted ?_ | with_reducible refine f_cat1 ?_ | with_reducible refine f_cat2 ?_ | with_reducible refine f_cut ?_ | with_reducible refine f_rng ?_ | with_reducible refine f_lc ?_ | with_reducible refine ql_of ?_ | with_reducible refine ql_fr ?_ | with_reducible refine i_fr ?_ | with_reducible refine i_of ?_ | with_reducible refine i_live ?_ | with_reducible refine i_rng ?_ | with_reducible refine i_enum ?_ | with_reducible refine i_keys ?_ | with_reducible refine ifs_nil ?_ | with_reducible refine ifs_cons ?_ | with_reducible refine s_brk ?_ | with_reducible refine s_cont ?_ | with_reducible refine sq_tup ?_ | with_reducible refine wo_tup ?_ | with_reducible refine tr_bl ?_ | with_reducible refine tr_int ?_ | with_reducible refine tr_tup ?_ | with_reducible refine tr_non ?_ | with_reducible refine b_add ?_ | with_reducible refine b_sub ?_ | with_reducible refine c_lt ?_ | with_reducible refine c_le ?_ | with_reducible refine c_gt ?_ | with_reducible refine c_ge ?_ | with_reducible refine pt_non ?_ | with_reducible refine pt_int ?_ | with_reducible refine a_int ?_ | with_reducible refine a_abs ?_ | with_reducible refine a_len ?_ | with_reducible refine a_neg ?_ | ((with_reducible apply if_t); exact rfl) | ((with_reducible apply if_f); exact rfl) | ((with_reducible apply ex_bind); exact rfl) | ((with_reducible apply isi_t); exact rfl) | ((with_reducible apply isi_f); exact rfl) | ((with_reducible apply le_line); exact rfl) | ((with_reducible apply x_tup); exact rfl) | ((with_reducible apply x_lst); (first | exact rd_lst (by assumption) | assumption); exact rfl) | ((with_reducible apply b_mod); (first | decide | omega)) | ((with_reducible apply b_div); (first | decide | omega)) | ((with_reducible apply b_mul); (first | exact .inr (by unfold small; omega) | exact .inl (by unfold small; omega))) | ((with_reducible apply b_pow); (first | decide | (unfold small; omega))) | ((with_reducible apply fl_ref); assumption; exact rfl) | ((with_reducible apply a_isL); (first | exact rd_lst (by assumption) | assumption)) | ((with_reducible apply a_isDct); (first | exact rd_dct (by assumption) | assumption)) | ((with_reducible apply sq_ref); (first | exact rd_lst (by assumption) | assumption)) | ((with_reducible apply sql_ref); assumption) | ((with_reducible apply ln_ref); (first | exact rd_lst (by assumption) | assumption)) | ((with_reducible apply ln_dct); (first | exact rd_dct (by assumption) | assumption)) | ((with_reducible apply keys_ref); (first | exact rd_dct (by assumption) | assumption)) | ((with_reducible apply wo_ref); (first | exact rd_lst (by assumption) | assumption)) | ((with_reducible apply ex_live); (first | exact rd_lst (by assumption) | assumption)) | ((with_reducible apply st_C0); exact rfl) | ((with_reducible apply st_C); exact rfl) | ((with_reducible apply st_D0); exact rfl) | ((with_reducible apply st_D); exact rfl) | ((with_reducible apply st_S); exact rfl))))
section
variable {P : Prog} {n : Nat} {M : Mem} {Q : VQ} {X : XQ} {H : Nat → Prop} {d : D}
theorem StepD.two {k : KD} {s m : Nat} (h : StepD k s d m) : ∃ w b, d = .tup [.str w, b] := by
  obtain ⟨w, rfl, _⟩ := h
  cases w <;> exact ⟨_, _, rfl⟩
theorem StepD.look {k : KD} {s m : Nat} {w : PySem.Str} {b : D} (h : StepD k s (.tup [.str w, b]) m) : (w = "look" ∧ ∃ i a, b = dN i ∧ (k.look s)[i]? = some (a, m)) ∨ (w = "drift" ∧ b = dN m ∧ m ∈ k.drift s) := by
  obtain ⟨s', e, h⟩ := h
  cases s' with
  | look i =>
    unfold dWS at e
    injection e with e; injection e with e1 e; injection e with e _
    obtain ⟨a, h⟩ := ws_look.mp h
    exact .inl ⟨str_inj e1, i, a, e, h⟩
  | drift t =>
    unfold dWS at e
    injection e with e; injection e with e1 e; injection e with e _
    obtain ⟨h1, rfl⟩ := ws_drift.mp h
    exact .inr ⟨str_inj e1, e, h1⟩
end
end MP.PL
end
section
/-! PL35: the program's judge of likenesses, on. -/
namespace MP.PL
local macro_rules | `(tactic| trivial) => `(tactic| (repeat (first | ((with_reducible apply e_var); exact rfl; exact rfl) | with_reducible refine s_end ?_ | with_reducible refine s_seq ?_ | with_reducible refine s_callX0 ?_ | with_reducible refine s_callXn ?_ | with_reducible refine s_callXr ?_ | with_reducible refine s_callXp ?_ | with_reducible refine e_con ?_ | with_reducible refine es_cons ?_ | with_reducible refine es_nil ?_ | with_reducible refine s_asg ?_ | with_reducible refine s_ret ?_ | with_reducible refine s_expr ?_ | with_reducible refine s_ife ?_ | with_reducible refine e_call ?_ | with_reducible refine q_of ?_ | with_reducible refine q_fr ?_ | with_reducible refine s_skip ?_ | with_reducible refine e_ix ?_ | with_reducible refine e_bin ?_ | with_reducible refine e_cmp ?_ | with_reducible refine e_and ?_ | with_reducible refine e_or ?_ | with_reducible refine e_not ?_ | with_reducible refine e_fld ?_ | with_reducible refine e_len ?_ | with_reducible refine e_mkl ?_ | with_reducible refine e_tup ?_ | with_reducible refine e_tupq ?_ | with_reducible refine e_ite ?_ | with_reducible refine s_for ?_ | with_reducible refine s_asgt ?_ | with_reducible refine s_asgIx ?_ | with_reducible refine s_asgFld ?_ | with_reducible refine e_chain ?_ | with_reducible refine e_isi ?_ | with_reducible refine e_all ?_ | with_reducible refine e_any ?_ | with_reducible refine e_sum ?_ | with_reducible refine e_least ?_ | with_reducible refine e_most ?_ | with_reducible refine e_inq ?_ | with_reducible refine e_ind ?_ | with_reducible refine e_dget ?_ | with_reducible refine e_dpop ?_ | with_reducible refine e_abs ?_ | with_reducible refine e_int ?_ | with_reducible refine e_make ?_ | with_reducible refine e_pop ?_ | with_reducible refine e_append ?_ | with_reducible refine e_extend ?_ | with_reducible refine e_reverse ?_ | with_reducible refine e_dclear ?_ | with_reducible refine e_lenv ?_ | with_reducible refine e_cut ?_ | with_reducible refine e_neg ?_ | with_reducible refine e_dcomp ?_ | with_reducible refine f_disp ?_ | with_reducible refine f_list ?_ | with_reducible refine f_keys ?_ | with_reducible refine f_sorted ?_ | with_reducible refine f_cat1 ?_ | with_reducible refine f_cat2 ?_ | with_reducible refine f_cut ?_ | with_reducible refine f_rng ?_ | with_reducible refine f_lc ?_ | with_reducible refine ql_of ?_ | with_reducible refine ql_fr ?_ | with_reducible refine i_fr ?_ | with_reducible refine i_of ?_ | with_reducible refine i_live ?_ | with_reducible refine i_rng ?_ | with_reducible refine i_enum ?_ | with_reducible refine i_keys ?_ | with_reducible refine ifs_nil ?_ | with_reducible refine ifs_cons ?_ | with_reducible refine s_brk ?_ | with_reducible refine s_cont ?_ | with_reducible refine sq_tup ?_ | with_reducible refine wo_tup ?_ | with_reducible refine tr_bl ?_ | with_reducible refine tr_int ?_ | with_reducible refine tr_tup ?_ | with_reducible refine tr_non ?_ | with_reducible refine b_add ?_ | with_reducible refine b_sub ?_ | with_reducible refine c_lt ?_ | with_reducible refine c_le ?_ | with_reducible refine c_gt ?_ | with_reducible refine c_ge ?_ | with_reducible refine pt_non ?_ | with_reducible refine pt_int ?_ | with_reducible refine a_int ?_ | with_reducible refine a_abs ?_ | with_reducible refine a_len ?_ | with_reducible refine a_neg ?_ | ((with_reducible apply if_t); exact rfl) | ((with_reducible apply if_f); exact rfl) | ((with_reducible apply ex_bind); exact rfl) | ((with_reducible apply isi_t); exact rfl) | ((with_reducible apply isi_f); exact rfl) | ((with_reducible apply le_line); exact rfl) | ((with_reducible apply x_tup); exact rfl) | ((with_reducible apply x_lst); (first | exact rd_lst (by assumption) | assumption); exact rfl) | ((with_reducible apply b_mod); (first | decide | omega)) | ((with_reducible apply b_div); (first | decide | omega)) | ((with_reducible apply b_mul); (first | exact .inr (by unfold small; omega) | exact .inl (by unfold small; omega))) | ((with_reducible apply b_pow); (first | decide | (unfold small; omega))) | ((with_reducible apply fl_ref); assumption; exact rfl) | ((with_reducible apply a_isL); (first | exact rd_lst (by assumption) | assumption)) | ((with_reducible apply a_isDct); (first | exact rd_dct (by assumption) | assumption)) | ((with_reducible apply sq_ref); (first | exact rd_lst (by assumption) | assumption)) | ((with_reducible apply sql_ref); assumption) | ((with_reducible apply ln_ref); (first | exact rd_lst (by assumption) | assumption)) | ((with_reducible apply ln_dct); (first | exact rd_dct (by assumption) | assumption)) | ((with_reducible apply keys_ref); (first | exact rd_dct (by assumption) | assumption)) | ((with_reducible apply wo_ref); (first | exact rd_lst (by assumption) | assumption)) | ((with_reducible apply ex_live); (first | exact rd_lst (by assumption) | assumption)) | ((with_reducible apply st_C0); exact rfl) | ((with_reducible apply st_C); exact rfl) | ((with_reducible apply st_D0); exact rfl) | ((with_reducible apply st_D); exact rfl) | ((with_reducible apply st_S); exact rfl))))
section
variable {P : Prog} {n : Nat} {M : Mem} {Q : VQ} {X : XQ} {H : Nat → Prop} {d : D}
end
end MP.PL
end
section
/-! PL36: the law's own judge of likenesses. -/
namespace MP.PL
local macro_rules | `(tactic| trivial) => `(tactic| (repeat (first | ((with_reducible apply e_var); exact rfl; exact rfl) | with_reducible refine s_end ?_ | with_reducible refine s_seq ?_ | with_reducible refine s_callX0 ?_ | with_reducible refine s_callXn ?_ | with_reducible refine s_callXr ?_ | with_reducible refine s_callXp ?_ | with_reducible refine e_con ?_ | with_reducible refine es_cons ?_ | with_reducible refine es_nil ?_ | with_reducible refine s_asg ?_ | with_reducible refine s_ret ?_ | with_reducible refine s_expr ?_ | with_reducible refine s_ife ?_ | with_reducible refine e_call ?_ | with_reducible refine q_of ?_ | with_reducible refine q_fr ?_ | with_reducible refine s_skip ?_ | with_reducible refine e_ix ?_ | with_reducible refine e_bin ?_ | with_reducible refine e_cmp ?_ | with_reducible refine e_and ?_ | with_reducible refine e_or ?_ | with_reducible refine e_not ?_ | with_reducible refine e_fld ?_ | with_reducible refine e_len ?_ | with_reducible refine e_mkl ?_ | with_reducible refine e_tup ?_ | with_reducible refine e_tupq ?_ | with_reducible refine e_ite ?_ | with_reducible refine s_for ?_ | with_reducible refine s_asgt ?_ | with_reducible refine s_asgIx ?_ | with_reducible refine s_asgFld ?_ | with_reducible refine e_chain ?_ | with_reducible refine e_isi ?_ | with_reducible refine e_all ?_ | with_reducible refine e_any ?_ | with_reducible refine e_sum ?_ | with_reducible refine e_least ?_ | with_reducible refine e_most ?_ | with_reducible refine e_inq ?_ | with_reducible refine e_ind ?_ | with_reducible refine e_dget ?_ | with_reducible refine e_dpop ?_ | with_reducible refine e_abs ?_ | with_reducible refine e_int ?_ | with_reducible refine e_make ?_ | with_reducible refine e_pop ?_ | with_reducible refine e_append ?_ | with_reducible refine e_extend ?_ | with_reducible refine e_reverse ?_ | with_reducible refine e_dclear ?_ | with_reducible refine e_lenv ?_ | with_reducible refine e_cut ?_ | with_reducible refine e_neg ?_ | with_reducible refine e_dcomp ?_ | with_reducible refine f_disp ?_ | with_reducible refine f_list ?_ | with_reducible refine f_keys ?_ | with_reducible refine f_sorted ?_ | with_reducible refine f_cat1 ?_ | with_reducible refine f_cat2 ?_ | with_reducible refine f_cut ?_ | with_reducible refine f_rng ?_ | with_reducible refine f_lc ?_ | with_reducible refine ql_of ?_ | with_reducible refine ql_fr ?_ | with_reducible refine i_fr ?_ | with_reducible refine i_of ?_ | with_reducible refine i_live ?_ | with_reducible refine i_rng ?_ | with_reducible refine i_enum ?_ | with_reducible refine i_keys ?_ | with_reducible refine ifs_nil ?_ | with_reducible refine ifs_cons ?_ | with_reducible refine s_brk ?_ | with_reducible refine s_cont ?_ | with_reducible refine sq_tup ?_ | with_reducible refine wo_tup ?_ | with_reducible refine tr_bl ?_ | with_reducible refine tr_int ?_ | with_reducible refine tr_tup ?_ | with_reducible refine tr_non ?_ | with_reducible refine b_add ?_ | with_reducible refine b_sub ?_ | with_reducible refine c_lt ?_ | with_reducible refine c_le ?_ | with_reducible refine c_gt ?_ | with_reducible refine c_ge ?_ | with_reducible refine pt_non ?_ | with_reducible refine pt_int ?_ | with_reducible refine a_int ?_ | with_reducible refine a_abs ?_ | with_reducible refine a_len ?_ | with_reducible refine a_neg ?_ | ((with_reducible apply if_t); exact rfl) | ((with_reducible apply if_f); exact rfl) | ((with_reducible apply ex_bind); exact rfl) | ((with_reducible apply isi_t); exact rfl) | ((with_reducible apply isi_f); exact rfl) | ((with_reducible apply le_line); exact rfl) | ((with_reducible apply x_tup); exact rfl) | ((with_reducible apply x_lst); (first | exact rd_lst (by assumption) | assumption); exact rfl) | ((with_reducible apply b_mod); (first | decide | omega)) | ((with_reducible apply b_div); (first | decide | omega)) | ((with_reducible apply b_mul); (first | exact .inr (by unfold small; omega) | exact .inl (by unfold small; omega))) | ((with_reducible apply b_pow); (first | decide | (unfold small; omega))) | ((with_reducible apply fl_ref); assumption; exact rfl) | ((with_reducible apply a_isL); (first | exact rd_lst (by assumption) | assumption)) | ((with_reducible apply a_isDct); (first | exact rd_dct (by assumption) | assumption)) | ((with_reducible apply sq_ref); (first | exact rd_lst (by assumption) | assumption)) | ((with_reducible apply sql_ref); assumption) | ((with_reducible apply ln_ref); (first | exact rd_lst (by assumption) | assumption)) | ((with_reducible apply ln_dct); (first | exact rd_dct (by assumption) | assumption)) | ((with_reducible apply keys_ref); (first | exact rd_dct (by assumption) | assumption)) | ((with_reducible apply wo_ref); (first | exact rd_lst (by assumption) | assumption)) | ((with_reducible apply ex_live); (first | exact rd_lst (by assumption) | assumption)) | ((with_reducible apply st_C0); exact rfl) | ((with_reducible apply st_C); exact rfl) | ((with_reducible apply st_D0); exact rfl) | ((with_reducible apply st_D); exact rfl) | ((with_reducible apply st_S); exact rfl))))
theorem JStepD.cases {k : KD} {p m : Nat × Nat} {d : D} (h : JStepD k p d m) : (∃ i j a, d = .tup [.str "both", dN i, dN j] ∧ (k.look p.1)[i]? = some (a, m.1) ∧ (k.look p.2)[j]? = some (a, m.2)) ∨ (∃ t, d = .tup [.str "first", dN t] ∧ t ∈ k.drift p.1 ∧ m = (t, p.2)) ∨ (∃ t, d = .tup [.str "second", dN t] ∧ t ∈ k.drift p.2 ∧ m = (p.1, t)) := by
  obtain ⟨s, rfl, h⟩ := h
  cases s with
  | both i j => obtain ⟨a, h1, h2⟩ := js_bothI.mp h; exact .inl ⟨i, j, a, rfl, h1, h2⟩
  | first t => exact .inr (.inl ⟨t, rfl, js_first.mp h⟩)
  | second t => exact .inr (.inr ⟨t, rfl, js_second.mp h⟩)
section
variable {P : Prog} {n : Nat} {M : Mem} {Q : VQ} {X : XQ} {H : Nat → Prop} {d : D}
end
end MP.PL
end
section
/-! PL_k13: worn cells. -/
namespace MP.PL
local macro_rules | `(tactic| trivial) => `(tactic| (repeat (first | ((with_reducible apply e_var); exact rfl; exact rfl) | with_reducible refine s_end ?_ | with_reducible refine s_seq ?_ | with_reducible refine s_callX0 ?_ | with_reducible refine s_callXn ?_ | with_reducible refine s_callXr ?_ | with_reducible refine s_callXp ?_ | with_reducible refine e_con ?_ | with_reducible refine es_cons ?_ | with_reducible refine es_nil ?_ | with_reducible refine s_asg ?_ | with_reducible refine s_ret ?_ | with_reducible refine s_expr ?_ | with_reducible refine s_ife ?_ | with_reducible refine e_call ?_ | with_reducible refine q_of ?_ | with_reducible refine q_fr ?_ | with_reducible refine s_skip ?_ | with_reducible refine e_ix ?_ | with_reducible refine e_bin ?_ | with_reducible refine e_cmp ?_ | with_reducible refine e_and ?_ | with_reducible refine e_or ?_ | with_reducible refine e_not ?_ | with_reducible refine e_fld ?_ | with_reducible refine e_len ?_ | with_reducible refine e_mkl ?_ | with_reducible refine e_tup ?_ | with_reducible refine e_tupq ?_ | with_reducible refine e_ite ?_ | with_reducible refine s_for ?_ | with_reducible refine s_asgt ?_ | with_reducible refine s_asgIx ?_ | with_reducible refine s_asgFld ?_ | with_reducible refine e_chain ?_ | with_reducible refine e_isi ?_ | with_reducible refine e_all ?_ | with_reducible refine e_any ?_ | with_reducible refine e_sum ?_ | with_reducible refine e_least ?_ | with_reducible refine e_most ?_ | with_reducible refine e_inq ?_ | with_reducible refine e_ind ?_ | with_reducible refine e_dget ?_ | with_reducible refine e_dpop ?_ | with_reducible refine e_abs ?_ | with_reducible refine e_int ?_ | with_reducible refine e_make ?_ | with_reducible refine e_pop ?_ | with_reducible refine e_append ?_ | with_reducible refine e_extend ?_ | with_reducible refine e_reverse ?_ | with_reducible refine e_dclear ?_ | with_reducible refine e_lenv ?_ | with_reducible refine e_cut ?_ | with_reducible refine e_neg ?_ | with_reducible refine e_dcomp ?_ | with_reducible refine f_disp ?_ | with_reducible refine f_list ?_ | with_reducible refine f_keys ?_ | with_reducible refine f_sorted ?_ | with_reducible refine f_cat1 ?_ | with_reducible refine f_cat2 ?_ | with_reducible refine f_cut ?_ | with_reducible refine f_rng ?_ | with_reducible refine f_lc ?_ | with_reducible refine ql_of ?_ | with_reducible refine ql_fr ?_ | with_reducible refine i_fr ?_ | with_reducible refine i_of ?_ | with_reducible refine i_live ?_ | with_reducible refine i_rng ?_ | with_reducible refine i_enum ?_ | with_reducible refine i_keys ?_ | with_reducible refine ifs_nil ?_ | with_reducible refine ifs_cons ?_ | with_reducible refine s_brk ?_ | with_reducible refine s_cont ?_ | with_reducible refine sq_tup ?_ | with_reducible refine wo_tup ?_ | with_reducible refine tr_bl ?_ | with_reducible refine tr_int ?_ | with_reducible refine tr_tup ?_ | with_reducible refine tr_non ?_ | with_reducible refine b_add ?_ | with_reducible refine b_sub ?_ | with_reducible refine c_lt ?_ | with_reducible refine c_le ?_ | with_reducible refine c_gt ?_ | with_reducible refine c_ge ?_ | with_reducible refine pt_non ?_ | with_reducible refine pt_int ?_ | with_reducible refine a_int ?_ | with_reducible refine a_abs ?_ | with_reducible refine a_len ?_ | with_reducible refine a_neg ?_ | ((with_reducible apply if_t); exact rfl) | ((with_reducible apply if_f); exact rfl) | ((with_reducible apply ex_bind); exact rfl) | ((with_reducible apply isi_t); exact rfl) | ((with_reducible apply isi_f); exact rfl) | ((with_reducible apply le_line); exact rfl) | ((with_reducible apply x_tup); exact rfl) | ((with_reducible apply x_lst); (first | exact rd_lst (by assumption) | assumption); exact rfl) | ((with_reducible apply b_mod); (first | decide | omega)) | ((with_reducible apply b_div); (first | decide | omega)) | ((with_reducible apply b_mul); (first | exact .inr (by unfold small; omega) | exact .inl (by unfold small; omega))) | ((with_reducible apply b_pow); (first | decide | (unfold small; omega))) | ((with_reducible apply fl_ref); assumption; exact rfl) | ((with_reducible apply a_isL); (first | exact rd_lst (by assumption) | assumption)) | ((with_reducible apply a_isDct); (first | exact rd_dct (by assumption) | assumption)) | ((with_reducible apply sq_ref); (first | exact rd_lst (by assumption) | assumption)) | ((with_reducible apply sql_ref); assumption) | ((with_reducible apply ln_ref); (first | exact rd_lst (by assumption) | assumption)) | ((with_reducible apply ln_dct); (first | exact rd_dct (by assumption) | assumption)) | ((with_reducible apply keys_ref); (first | exact rd_dct (by assumption) | assumption)) | ((with_reducible apply wo_ref); (first | exact rd_lst (by assumption) | assumption)) | ((with_reducible apply ex_live); (first | exact rd_lst (by assumption) | assumption)) | ((with_reducible apply st_C0); exact rfl) | ((with_reducible apply st_C); exact rfl) | ((with_reducible apply st_D0); exact rfl) | ((with_reducible apply st_D); exact rfl) | ((with_reducible apply st_S); exact rfl))))
class H_k13 (P : Prog) : Prop extends HKind P, HNearly P, HTrack P, HLawSure P, HLawRow P where
  worn : P "worn" = some ⟨2, 2, c_worn⟩
  _law_is_int : P "_law_is_int" = some ⟨1, 1, c__law_is_int_0b37⟩
  law : P "law" = some ⟨1, 12, c_law_daf2⟩
  law_lambda0 : P "law.lambda0" = some ⟨2, 2, l_law_lambda0_6f90⟩
def KD.chain (k : KD) (b : Nat) : KD := ⟨(List.range k.n).map fun i => [(k.ans i, if i + 1 < k.n then i + 1 else b)], k.drifts, k.puts⟩
theorem chain_n (k : KD) (b : Nat) : (k.chain b).n = k.n := by simp [KD.chain, KD.n]
theorem chain_ok {k : KD} (hk : k.Ok) (hs : k.Sure) {b : Nat} (hb : b < k.n) : (k.chain b).Ok := by
  refine ⟨by rw [chain_n]; exact hk.n1, by rw [chain_n]; exact hk.n8, fun os ho => ?_, by rw [chain_n]; exact hk.dl, by rw [chain_n]; exact hk.drifts, hk.pl, by rw [chain_n]; exact hk.puts⟩
  rw [chain_n]
  obtain ⟨i, hi, rfl⟩ := List.mem_map.mp ho
  have hi := List.mem_range.mp hi
  have lo := look_ok hk hi
  have ha := lo.a (k.ans i, k.nxt i) (by rw [sure_look hk hs hi]; simp)
  refine ⟨by simp, by simp, by simp, fun p hp => ?_, fun p hp => ?_⟩ <;> simp at hp <;> subst hp
  · exact ha
  · show (if i + 1 < k.n then i + 1 else b) < k.n
    split <;> omega
theorem Pool.keep {p : Nat} {M M' : Mem} (h : Pool p M) (f : Fr no M M') : Pool p M' := by
  obtain ⟨g, s, gl, sl, c, k, e, e1, e2, n1, n2⟩ := h.ex
  exact ⟨g, s, gl, sl, c, k, f.get e (fun z => z), f.get e1 (fun z => z), f.get e2 (fun z => z), n1, n2⟩
section
variable {P : Prog} {n : Nat} {M : Mem} {Q : VQ} {X : XQ}
theorem worn_sp [H_k13 P] {k : KD} {o c s : Nat} (hK : KindAt k o c M) (h : s < k.n) (q : k.Sure → ∀ w M', Fr no M M' → IsWorn k s w → w ≤ 8 → Q (dN w) M') (x : ¬ k.Sure → X notSure M) : callN P (n + 4) "worn" [.ref o, dN s] M Q X := by
  refine call_intro H_k13.worn rfl (e := [some (.ref o), some (dN s)]) rfl ?_
  unfold c_worn
  have n8 := hK.ok.n8
  trivial
  refine call_intro HTrack.check_standing rfl (e := [some (.ref o), some (dN s)]) rfl ?_
  unfold c_check_standing
  trivial
  refine fl_ref hK.obj rfl ?_
  trivial
  refine is_index_sp (P := P) ?_
  rw [decide_eq_true (by omega)]
  trivial
  refine check_sure_sp hK (fun hs => ?_) x
  refine s_end (s_ret (e_ix (e_call (es_cons (e_var rfl rfl (es_cons (e_var rfl rfl (es_nil ?_))))))))
  refine track_sp hK hs h fun r T b M1 f1 hr hb hT e nd => ?_
  exact e_con (x_tup (atI_some (i := 1) rfl rfl) (q hs b M1 f1 (worn_of hK.ok hs hb e nd) (by omega)))
theorem is_int_sp [H_k13 P] {i : Int} (q : Q (.bl true) M) : callN P (n + 1) "_law_is_int" [.int i] M Q X := by
  refine call_intro H_k13._law_is_int rfl (e := [some (.int i)]) rfl ?_
  unfold c__law_is_int_0b37
  exact s_end (s_ret (e_and (e_isi (e_var rfl rfl ⟨true, rfl, tr_bl (if_t rfl (e_not (e_isi (e_var rfl rfl ⟨false, rfl, tr_bl q⟩))))⟩))))
theorem e_twoW {φ : CallSem} {e : Env} {mo : Bool} {a b : CE} (h : wE φ a e M (fun x M => wE φ b e M (fun y M => wMin2 mo x y M Q) X) X) : wE φ (.two mo a b) e M Q X := h
theorem max0 {j : Int} {R : VQ} (q : R (.int (if j > 0 then j else 0)) M) : wMin2 true (.int 0) (.int j) M R := q
theorem plain_k13 [H_k13 P] {a : Nat} {ns : List Int} (hl : ns.length ≤ 63) (h : M.rd a = some (.lst (ns.map .int))) (hM : ∀ b, b ≠ a → M b = none) : callN P 20 "law" [.ref a] M (fun d _ => d = .bl true) noX := by
  refine call_intro H_k13.law rfl (e := [some (.ref a), none, none, none, none, none, none, none, none, none, none, none]) rfl ?_
  unfold c_law_daf2
  trivial
  refine pool_sp h hl fun p M1 hp hP f1 _ => ?_
  refine s_seq (s_asgt (e_call (es_cons (e_var rfl rfl (es_nil ?_)))))
  refine nearly_sp hP fun k0 r M3 hk0 d3 hr => ?_
  refine ex_bind (e' := [some (.ref a), some (.ref p), some (dLooks k0.looks), some (dRows k0.drifts), some (dPuts k0.puts), none, none, none, none, none, none, none]) (by simp [bind, bind.binds, rd_lst hr]) ?_
  have n80 := hk0.n8
  have n10 := hk0.n1
  have hn0 : (k0.looks.map dPs).length = k0.n := List.length_map _
  refine s_cutJ (fun e M' => ∃ (k : KD) (a5 a11 : Option D), e = [some (.ref a), some (.ref p), some (dLooks k.looks), some (dRows k.drifts), some (dPuts k.puts), a5, none, none, none, none, none, a11] ∧ k.Ok) (fun e M' hI => ?_) (fun nx2 hn2 => ?_)
  · obtain ⟨k, a5, a11, rfl, hk⟩ := hI
    have n8 := hk.n8
    refine s_seq (s_asg (e_make ?_))
    trivial
    intro o ho
    refine kind_init_sp hk (Mem.set_same _ _ _) fun c M4 co hc0 hobj hc f4 => ⟨rfl, ?_⟩
    have hK : KindAt k o c M4 := ⟨hk, hobj, [], hc, by simp, fun _ h => nomatch h⟩
    have hn : (k.looks.map dPs).length = k.n := List.length_map _
    refine s_seq (s_for (i_rng (e_con (e_len (q_of (e_var rfl rfl (sq_tup ?_)))))))
    rw [hn]
    refine ex_rngN (by omega) ?_
    refine for_rngN (fun i e M' => ∃ (a7 a8 a9 a10 a11 : Option D), e = [some (.ref a), some (.ref p), some (dLooks k.looks), some (dRows k.drifts), some (dPuts k.puts), a5, some (.ref o), a7, a8, a9, a10, a11] ∧ KindAt k o c M') ⟨_, _, _, _, _, rfl, hK⟩ (fun s e M6 nx3 hs hI hn3 => ?_) (fun e M6 hI => ?_)
    · obtain ⟨a7, a8, a9, a10, a11, rfl, hK⟩ := hI
      refine st_S rfl ?_
      refine s_seq (s_asg (e_callL (cs := [.ref o, dN s]) rfl rfl (es_nil ?_)))
      refine told_sp (n := 18) fun Q' X' h1 h2 => ?_
      refine call_intro H_k13.law_lambda0 rfl (e := [some (.ref o), some (dN s)]) rfl ?_
      unfold l_law_lambda0_6f90
      refine s_callXr (es_cons (e_var rfl rfl (es_cons (e_var rfl rfl (es_nil ?_)))))
      refine worn_sp (n := 13) hK hs (fun hsu w M7 f7 hw w8 => ?_) fun hns => ?_
      · refine h1 _ _ rfl ?_
        replace hK := hK.le f7
        refine s_end (s_ife (e_not (e_call (es_cons (e_var rfl rfl (es_cons (e_var rfl rfl (es_nil ?_))))))))
        refine law_is_sure_sp hk fun M8 f8 => ?_
        replace hK := hK.le f8
        rw [sureB_iff.mpr hsu]
        refine tr_bl (tr_bl (if_f rfl ?_))
        refine s_seq (s_asg (e_var rfl rfl (s_seq (s_asg (e_con ?_)))))
        refine s_cutJ (fun e M' => ∃ (a11 : Option D), e = [some (.ref a), some (.ref p), some (dLooks k.looks), some (dRows k.drifts), some (dPuts k.puts), a5, some (.ref o), some (dN s), some (dN w), some (dN (k.it w s)), some (dN w), a11] ∧ KindAt k o c M') (fun e M9 hI => ?_) (fun nx4 hn4 => ?_)
        · obtain ⟨a11, rfl, hK⟩ := hI
          refine s_end (s_ife (e_or (e_not (e_call (es_cons (e_var rfl rfl (es_nil ?_)))))))
          refine is_int_sp (tr_bl (tr_bl (if_f rfl (e_or (e_cmp (e_var rfl rfl (e_var rfl rfl (c_ne (eqD_dat rfl rfl) ?_))))))))
          have e : (!D.eqv (dN w) (dN w)) = false := by simp [D.eqv]
          rw [e]
          refine tr_bl (if_f rfl (e_cmp (e_call (es_cons (e_var rfl rfl (es_cons (e_ix (e_ix (e_ix (e_var rfl rfl (e_var rfl rfl (x_tup (atI_some (kind_look hk hs) rfl) ?_))))))))))))
          rw [sure_look hk hsu hs]
          refine e_con (x_tup (atI_some (i := 0) rfl rfl) (e_con (x_tup (atI_some (i := 1) rfl rfl) (es_nil ?_))))
          refine worn_sp (n := 15) hK (nxt_lt hk hsu hs) (fun _ w' M10 f10 hw' _ => ?_) fun hns => absurd hsu hns
          obtain rfl := hw'.uniq (worn_nxt hw)
          refine e_twoW (e_con (e_bin (e_var rfl rfl (e_con (b_sub (max0 (c_ne (eqD_dat rfl rfl) ?_)))))))
          have e : (!D.eqv (dN (w - 1)) (.int (if (w : Int) - 1 > 0 then (w : Int) - 1 else 0))) = false := by
            simp only [D.eqv]
            rw [decide_eq_true (by split <;> omega)]; rfl
          rw [e]
          exact tr_bl (if_f rfl (s_skip (hn3 _ _ ⟨_, _, _, _, _, rfl, hK.le f10⟩)))
        · have hlt : ∀ i, k.it i s < k.n := fun i => it_lt hk hsu hs i
          refine s_while (while_inv (N := w) (fun m e M' => ∃ (i : Nat) (a11 : Option D), e = [some (.ref a), some (.ref p), some (dLooks k.looks), some (dRows k.drifts), some (dPuts k.puts), a5, some (.ref o), some (dN s), some (dN w), some (dN (k.it i s)), some (dN i), a11] ∧ KindAt k o c M' ∧ m + i = w) ⟨0, _, rfl, hK, rfl⟩ ?_)
          intro m e M9 hI rec hrec
          obtain ⟨i, a11, rfl, hK, hmi⟩ := hI
          refine e_inq (e_var rfl rfl (q_fr (f_lc (i_rng (e_con (e_con (ex_rng (i := 1) (j := 9) ⟨by unfold small; omega, by omega, by omega, by omega, by omega⟩ ?_)))))))
          refine lc_inv (fun j r M' => Fr no M9 M' ∧ r = (List.range j).map fun t => dN (k.it (t + 1) (k.it i s))) (fun _ _ _ _ _ => trivial) ⟨.refl, rfl⟩ (by rw [rangeD_len]; unfold line; omega) (fun j d x M10 R hd hI g1 g2 => ?_) (fun x M10 hI => ?_)
          · obtain ⟨f10, rfl⟩ := hI
            obtain ⟨hj, rfl⟩ := rangeD_get hd
            refine st_C rfl ?_
            have ec : (1 : Int) + (j : Int) = ((j + 1 : Nat) : Int) := by omega
            rw [ec]
            refine ifs_nil (if_t rfl (e_ix (e_call (es_cons (e_var rfl rfl (es_cons (e_var rfl rfl (es_cons (e_var rfl rfl (es_nil ?_))))))))))
            refine long_row_sp (m := j + 1) hk hsu (hlt i) (by omega) fun r M11 f11 c11 => ?_
            refine e_con (x_lst (rd_lst c11) (atI_some (i := 1) rfl rfl) ?_)
            exact g1 _ _ ⟨f10.trans f11, by rw [List.range_succ, List.map_append]; rfl⟩
          · obtain ⟨f10, rfl⟩ := hI
            have hlen : (rangeD 1 9).length = 8 := by rw [rangeD_len]; rfl
            rw [hlen]
            refine ⟨by simp [D.ok], oks_map (fun _ => by simp [D.ok]) _, ?_⟩
            have hany : (((List.range 8).map fun t => dN (k.it (t + 1) (k.it i s))).any fun d => D.eqv d (dN (k.it i s))) = decide (w = i) := by
              have : (((List.range 8).map fun t => dN (k.it (t + 1) (k.it i s))).any fun d => D.eqv d (dN (k.it i s))) = true ↔ w = i := by
                rw [List.any_eq_true]
                constructor
                · rintro ⟨d, hd, he⟩
                  obtain ⟨t, ht, rfl⟩ := List.mem_map.mp hd
                  have he : k.it (t + 1) (k.it i s) = k.it i s := by simp only [D.eqv] at he; have := of_decide_eq_true he; omega
                  have := hw.2 i ⟨t + 1, by omega, he⟩
                  omega
                · rintro rfl
                  obtain ⟨m', q1, q2, q3⟩ := (onC_8 hk hsu (hlt w)).mp hw.1
                  refine ⟨_, List.mem_map.mpr ⟨m' - 1, List.mem_range.mpr (by omega), rfl⟩, ?_⟩
                  rw [show m' - 1 + 1 = m' from by omega, q3]
                  simp [D.eqv]
              cases hz : (((List.range 8).map fun t => dN (k.it (t + 1) (k.it i s))).any fun d => D.eqv d (dN (k.it i s))) with
              | true => exact (decide_eq_true (this.mp hz)).symm
              | false => exact (decide_eq_false fun z => by rw [this.mpr z] at hz; cases hz).symm
            rw [hany]
            by_cases hwi : w = i
            · subst hwi
              rw [decide_eq_true rfl]
              refine tr_bl (if_f rfl ?_)
              exact hn4 _ _ ⟨_, rfl, hK.le f10⟩
            · rw [decide_eq_false hwi]
              refine tr_bl (if_t rfl ?_)
              refine s_seq (s_asg (e_ix (e_ix (e_ix (e_var rfl rfl (e_var rfl rfl (x_tup (atI_some (kind_look hk (hlt i)) rfl) ?_)))))))
              rw [sure_look hk hsu (hlt i)]
              refine e_con (x_tup (atI_some (i := 0) rfl rfl) (e_con (x_tup (atI_some (i := 1) rfl rfl) ?_)))
              refine s_end (s_asg (e_bin (e_var rfl rfl (e_con (b_add ?_)))))
              refine hrec (m - 1) _ _ (by omega) ⟨i + 1, a11, ?_, hK.le f10, by omega⟩
              rfl
      · refine h2 _ ?_
        refine s_end (s_ife (e_not (e_call (es_cons (e_var rfl rfl (es_cons (e_var rfl rfl (es_nil ?_))))))))
        refine law_is_sure_sp hk fun M8 f8 => ?_
        have hb : sureB k = false := by
          cases z : sureB k with
          | false => rfl
          | true => exact absurd (sureB_iff.mp z) hns
        rw [hb]
        refine tr_bl (tr_bl (if_t rfl (s_end (s_ife (e_cmp (e_var rfl rfl (e_con (c_ne (eqD_dat rfl rfl) ?_))))))))
        refine tr_bl (if_f (by simp [D.eqv]) (s_skip ?_))
        exact hn3 _ _ ⟨_, _, _, _, _, rfl, hK.le f8⟩
    · obtain ⟨a7, a8, a9, a10, a11, rfl, hK⟩ := hI
      trivial
      rfl
  · refine s_end (s_ife (e_and (e_call (es_cons (e_var rfl rfl (es_cons (e_var rfl rfl (es_nil ?_))))))))
    refine law_is_sure_sp hk0 fun M4 f4 => ?_
    have p4 : Pool p M4 := d3.pool.keep f4
    · cases hsb : sureB k0 with
      | false => exact tr_bl (if_f rfl (tr_bl (if_f rfl (s_skip (hn2 _ _ ⟨k0, _, _, rfl, hk0⟩)))))
      | true =>
        have hsu := sureB_iff.mp hsb
        refine tr_bl (if_t rfl (e_cmp (e_call (es_cons (e_var rfl rfl (es_cons (e_con (es_nil ?_))))))))
        refine draw_sp (m := 2) p4 (by omega) (by omega) fun x M5 hx d5 => ?_
        refine e_con (c_eq (eqD_dat rfl rfl) (tr_bl (if_s (fun _ => ?_) fun _ => s_skip (hn2 _ _ ⟨k0, _, _, rfl, hk0⟩))))
        refine s_seq (s_asg (e_call (es_cons (e_var rfl rfl (es_cons (e_len (q_of (e_var rfl rfl (sq_tup ?_)))))))))
        rw [hn0]
        refine es_nil ?_
        refine draw_sp (m := k0.n) d5.pool (by omega) (by omega) fun b M6 hb d6 => ?_
        refine s_end (s_asg (e_tupq (q_fr (f_lc (i_rng (e_con (e_len (q_of (e_var rfl rfl (sq_tup ?_))))))))))
        rw [hn0]
        refine ex_rngN (by omega) ?_
        have er : rangeD 0 ((k0.n : Nat) : Int) = (List.range k0.n).map dN := by
          unfold rangeD
          have : ((((k0.n : Nat) : Int) - 0).toNat) = k0.n := by omega
          rw [this]
          apply List.map_congr_left
          intro i _
          show D.int (0 + (i : Int)) = D.int (i : Int)
          rw [Int.zero_add]
        rw [er]
        refine lc_mapA dN (fun i => dPs [(k0.ans i, if i + 1 < k0.n then i + 1 else b)]) trivial (by rw [List.length_range]; unfold line; omega) (fun i R hi hR => ?_) ?_
        · have hi := List.mem_range.mp hi
          refine st_C rfl ?_
          refine ifs_nil (if_t rfl (e_tup (es_cons (e_tup (es_cons (e_ix (e_ix (e_ix (e_var rfl rfl (e_var rfl rfl (x_tup (atI_some (kind_look hk0 hi) rfl) ?_)))))))))))
          rw [sure_look hk0 hsu hi]
          refine e_con (x_tup (atI_some (i := 0) rfl rfl) (e_con (x_tup (atI_some (i := 0) rfl rfl) (es_cons (e_ite (e_cmp (e_bin (e_var rfl rfl (e_con (b_add (e_len (q_of (e_var rfl rfl (sq_tup (c_lt ?_)))))))))))))))
          rw [hn0]
          by_cases hlt : i + 1 < k0.n
          · rw [decide_eq_true (by omega : (i : Int) + 1 < ((k0.n : Nat) : Int))]
            refine tr_bl (if_t rfl (e_bin (e_var rfl rfl (e_con (b_add (es_nil ⟨by simp [line], es_nil ⟨by simp [line], ?_⟩⟩))))))
            rw [if_pos hlt] at hR
            exact hR
          · rw [decide_eq_false (by omega : ¬ (i : Int) + 1 < ((k0.n : Nat) : Int))]
            refine tr_bl (if_f rfl (e_var rfl rfl (es_nil ⟨by simp [line], es_nil ⟨by simp [line], ?_⟩⟩)))
            rw [if_neg hlt] at hR
            exact hR
        · have e : D.tup ((List.range k0.n).map fun i => dPs [(k0.ans i, if i + 1 < k0.n then i + 1 else b)]) = dLooks (k0.chain b).looks := by
            unfold dLooks KD.chain
            rw [List.map_map]; rfl
          rw [e]
          exact hn2 _ _ ⟨k0.chain b, _, _, rfl, chain_ok hk0 hsu hb⟩
end
end MP.PL
end
section
namespace MP
namespace K13
open PySem PySem.Spec PyProof.Rows L2
theorem has : MP.PL.H_k13 (PrOf ds S0.lams) := { is_integer := rfl, is_index := rfl, is_between := rfl, is_tuple_of := rfl, are_ascending := rfl, are_standings := rfl, is_outcome := rfl, are_outcomes := rfl, is_put := rfl, check_kind := rfl, Kind___init__ := rfl, check_standing := rfl, is_sure := rfl, check_sure := rfl, track_of := rfl, worn := rfl, _law_pool := rfl, _law_draw := rfl, _law_pick := rfl, _law_is_int := rfl, _law_kind_parts := rfl, _law_long_row := rfl, _law_is_sure := rfl, _law_nearly_sure := rfl, _law_sure_told := rfl, law := rfl, law_lambda0 := rfl }
theorem plain (M : Mem) (a : Nat) (ns : List Int) (hn : ns.length ≤ 63) (h1 : M.rd a = some (.lst (ns.map D.int))) (h2 : ∀ b, b ≠ a → M b = none) : callN (PrOf ds S0.lams) 20 "law" [.ref a] M (fun d _ => d = .bl true) noX := by
  have := has
  exact MP.PL.plain_k13 hn h1 h2
end K13
end MP
open PySem PySem.W PySem.Calls PyProof.Rows
set_option maxRecDepth 100000 in
set_option maxHeartbeats 0 in
theorem PySem.Challenge.cw_lookspoil_k13_whole_worn_cells_holds : PySem.Challenge.rw_lookspoil_k13_whole_worn_cells.Holds := by
  w_on; o_law
  refine HandSHeadRun.head_any (r := OpenLaw.row PySem.Challenge.rw_lookspoil_k13_whole_worn_cells) (q := view (OpenLaw.row PySem.Challenge.rw_lookspoil_k13_whole_worn_cells).prog [39]) (H := MP.hkOf MP.K13.S0 MP.K13.ds) (ob := MP.obOf MP.K13.S0 MP.K13.ds) (M := 40000) (loose := MP.K13.loose) (d := HandSHeadRun.topDef (OpenLaw.row PySem.Challenge.rw_lookspoil_k13_whole_worn_cells).prog 39) (kwd := []) (MP.obOf_eq MP.K13.S0 MP.K13.ds)
    (by kernel_rfl) (fun s => by kernel_rfl) MP.K13.run (by kernel_rfl) (by kernel_rfl) (by kernel_rfl) (by rfl) (by first | assumption | decide +kernel) (by decide +kernel) ⟨rfl, rfl, rfl, rfl, rfl, by decide +kernel⟩ ?hw ?hc
  case hw => w_witness2
  case hc =>
    refine LamX.walk_ofTsE (l := PySem.Challenge.rw_lookspoil_k13_whole_worn_cells) (n := 63) (k := 40) (x := "_law_script") (CX := fun w => L2.CX PySem.Challenge.rw_lookspoil_k13_whole_worn_cells.prog w) rfl (by decide) (by kernel_rfl) ⟨rfl, by decide, by decide⟩ ?F (fun _ _ _ _ _ z => MP.cx_no z)
    intro w mg fa h Y G hmg0
    obtain ⟨K, KX, c⟩ := Y
    have hmg : mg ("law" : PySem.Str) = some (.ref fa) := by
      have e : (HandSHeadRun.topDef (OpenLaw.row PySem.Challenge.rw_lookspoil_k13_whole_worn_cells).prog 39).name = ("law" : PySem.Str) := by kernel_rfl
      rw [← e]
      exact hmg0
    exact ⟨K, KX, MP.lawAt_of KX G c MP.K13.ok MP.K13.ck MP.K13.sc MP.K13.bd hmg (by decide) (by decide) (y := MP.K13.d25) rfl rfl MP.K13.plain⟩
end
