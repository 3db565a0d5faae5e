import PyProof.Rows.All
import Wide.All
import OpenK.AllK
import Wide.FinOn
import HandS.ForMost
import HandS.Exc
import HandS.ExcOwn
import HandS.CallSlots
import HandS.WordsExc
import HandS.IsInst
import HandS.SortInts
import HandS.Rev
import HandS.Wide
import HandS.Conv
import HandS.Gcd
import HandS.Deep
import HandS.Walk
import HandS.Flow
import HandS.Text
import HandS.Style
import PyProof.StrOps2
import PyProof.ListStr
import PyProof.TupleOfStr
import HandS.More
import HandS.WordsDict
import HandS.DictComp
import PyProof.Draws
import PyProof.EnumMake
import HandS.Iter
import KE.KRevSl
import HandS.Replace
import PyProof.StrLawsIn
import PyProof.RulesMatch
import PySem.Challenge.RW_slipscaught_k28_faults_of_weights
set_option Elab.async false
set_option linter.all false
set_option maxRecDepth 100000
set_option maxHeartbeats 8000000
namespace DP

/-- data: trees, without addresses -/
inductive D where
  | non | bl (b : Bool) | int (i : Int) | str (s : List Nat)
  | lst (xs : List D) | tup (xs : List D) | dic (ks vs : List D)
  | obj (c : Nat) (fs : List D) | exc (c : Nat) (x : D)
  | rls (xs : List D)   -- a list that is only read (the script)
  deriving Inhabited

/-- marks: fu all cells within are new and one's own; fr shared, never changed again; sh the top cell alone is one's own;
    bs, bf: borrowed from a slot that is sh, fu -/
inductive Mk where
  | fu | fr | sh | bs | bf
  deriving DecidableEq
def Mk.bor : Mk → Bool
  | .bs => true
  | .bf => true
  | _ => false

mutual
/-- no cell within that can be changed -/
def D.flat : D → Bool
  | .non => true
  | .bl _ => true
  | .int _ => true
  | .str _ => true
  | .tup xs => D.flatL xs
  | .lst _ => false
  | .dic _ _ => false
  | .obj _ _ => false
  | .exc _ _ => false
  | .rls _ => false
def D.flatL : List D → Bool
  | [] => true
  | x :: xs => x.flat && D.flatL xs
end
mutual
def D.eqv : D → D → Bool
  | .non, .non => true
  | .bl a, .bl b => a == b
  | .bl a, .int b => (if a then 1 else 0) == b
  | .int a, .bl b => a == (if b then 1 else 0)
  | .int a, .int b => a == b
  | .str a, .str b => a == b
  | .lst a, .lst b => D.eqvL a b
  | .tup a, .tup b => D.eqvL a b
  | _, _ => false
def D.eqvL : List D → List D → Bool
  | [], [] => true
  | x :: xs, y :: ys => D.eqv x y && D.eqvL xs ys
  | _, _ => false
end
def okc (c : Nat) : Bool := Nat.blt c 1114112
mutual
/-- none, bools, ints, texts, lists and tuples of these, k deep at most -/
def D.plain : Nat → D → Bool
  | _, .non => true
  | _, .bl _ => true
  | _, .int _ => true
  | _, .str s => s.all okc
  | k, .lst xs => match k with | 0 => false | k + 1 => D.plainL k xs
  | k, .tup xs => match k with | 0 => false | k + 1 => D.plainL k xs
  | _, .dic _ _ => false
  | _, .obj _ _ => false
  | _, .exc _ _ => false
  | _, .rls _ => false
def D.plainL : Nat → List D → Bool
  | _, [] => true
  | k, x :: xs => D.plain k x && D.plainL k xs
end
def D.atom : D → Bool
  | .non => true
  | .bl _ => true
  | .int _ => true
  | .str _ => true
  | _ => false

/-- results: stuck, a value, an exception of the class c with x -/
inductive Rs (α : Type) where
  | no | ok (a : α) | ex (c : Nat) (x : D)
def Rs.bind {α β : Type} : Rs α → (α → Rs β) → Rs β
  | .no, _ => .no
  | .ok a, f => f a
  | .ex c x, _ => .ex c x
theorem Rs.bind_ok {α β : Type} (a : α) (f : α → Rs β) : (Rs.ok a).bind f = f a := rfl
theorem Rs.bind_ex {α β : Type} (c : Nat) (x : D) (f : α → Rs β) : (Rs.ex c x).bind f = .ex c x := rfl
theorem Rs.bind_no {α β : Type} (f : α → Rs β) : (Rs.no).bind f = .no := rfl

abbrev Vl := Mk × D
abbrev Slot := Option Vl
abbrev Ev := List Slot

inductive Op where | add | sub | mul | mod | fdiv | pow
inductive Cm where | eq | ne | lt | le | gt | ge | inn | nin | iz | niz
  deriving DecidableEq
inductive Ty where | int | bool | str | list | tuple | dict | cls (c : Nat)
  deriving DecidableEq
inductive Bi where
  | len | int1 | list1 | tuple1 | sorted1 | all1 | any1 | sum1 | min2 | max2 | abs1 | gcd2
  deriving DecidableEq
inductive Mt where
  | join | index
  deriving DecidableEq

inductive Pat where
  | nm (i : Nat) | tp (is : List Nat)

mutual
inductive Ex where
  | var (i : Nat)
  | cst (d : D)
  | gl (k : Nat)
  | bin (op : Op) (a b : Ex)
  | neg (a : Ex)
  | cmp (op : Cm) (a b : Ex)
  | chain (o1 o2 : Cm) (a b c : Ex)
  | isN (a : Ex) | notN (a : Ex)
  | and_ (es : List Ex) | or_ (es : List Ex) | not_ (a : Ex)
  | ite (c : Tx) (a b : Ex)
  | lst (k : Bool) (es : List Ex) | tup (es : List Ex)
  | idx (a b : Ex)
  | slc (a lo hi : Ex)
  | rev (a : Ex)
  | call (f : Nat) (es : List Ex)
  | bi (b : Bi) (es : List Ex)
  | mt1 (b : Mt) (o a : Ex)
  | isi (a : Ex) (ts : List Ty)
  | comp (k : Bool) (el : Ex) (p : Pat) (it : Ix) (own : List Nat) (ifs : List Tx)
  | dcomp (kx vx : Ex) (p : Pat) (it : Ix) (own : List Nat) (ifs : List Tx)
  | dic0
/-- tests -/
inductive Tx where
  | val (e : Ex) | cmp (op : Cm) (a b : Ex) | chain (o1 o2 : Cm) (a b c : Ex) | isN (a : Ex) | notN (a : Ex) | and_ (ts : List Tx) | or_ (ts : List Tx) | not_ (t : Tx)
/-- what is walked -/
inductive Ix where
  | val (e : Ex) | rng1 (a : Ex) | rng2 (a b : Ex) | enum (a : Ex) | zip (a b : Ex) | revd (a : Ex)
end

mutual
inductive St where
  | set (i : Nat) (e : Ex)
  | own (i : Nat) (e : Ex)
  | par (is : List Nat) (es : List Ex)
  | unp (is : List Nat) (e : Ex)
  | aug (i : Nat) (op : Op) (e : Ex)
  | app (i : Nat) (e : Ex)
  | put (i : Nat) (k e : Ex)
  | exp (e : Ex)
  | ret (e : Ex) | retV (i : Nat) | retN
  | ite (c : Tx) (a b : List St)
  | for_ (p : Pat) (it : Ix) (body : List St)
  | whl (c : Tx) (body : List St)
  | brk | cnt | pas
  | frz (i : Nat)
  | nev
  | mtc (e : Ex) (m : Ms)
/-- a match's cases: the texts that are named (none: all), the body -/
inductive Ms where
  | nil | cons (l : List (List Nat)) (body : List St) (rest : Ms)
end

/-! ### values -/
def SZ : Nat := 16777216
def big (i : Int) : Bool := decide (-18446744073709551616 < i) && decide (i < 18446744073709551616)
def strLt : List Nat → List Nat → Bool
  | [], [] => false
  | [], _ :: _ => true
  | _ :: _, [] => false
  | a :: as, b :: bs => if a < b then true else if b < a then false else strLt as bs

/-- a text, n times -/
def repS (s : List Nat) : Nat → List Nat
  | 0 => []
  | n + 1 => repS s n ++ s
def binD : Op → D → D → Rs D
  | .add, .int a, .int b => .ok (.int (a + b))
  | .add, .str a, .str b => if a.length + b.length ≤ SZ then .ok (.str (a ++ b)) else .no
  | .add, .lst a, .lst b => if a.length + b.length ≤ SZ then .ok (.lst (a ++ b)) else .no
  | .sub, .int a, .int b => .ok (.int (a - b))
  | .mul, .int a, .int b => if big a || big b then .ok (.int (a * b)) else .no
  | .mul, .str s, .int n => if decide (-1000000 < n) && decide (n < 1000000) && decide (s.length * n.toNat ≤ SZ) then .ok (.str (repS s n.toNat)) else .no
  | .mod, .int a, .int b => if 0 < b then .ok (.int (a % b)) else .no
  | .fdiv, .int a, .int b => if 0 < b && b < 1073741824 then .ok (.int (a / b)) else .no
  | .pow, .int a, .int b => if 0 ≤ b && b ≤ 1000000 && a.natAbs < 18446744073709551616 then .ok (.int (a ^ b.toNat)) else .no
  | _, _, _ => .no
/-- the mark of such a result -/
def binM : Mk → Mk → D → Mk
  | m, n, .lst ds => if m == .bf || n == .bf then (if D.flatL ds then .sh else .bf) else .sh
  | _, _, _ => .fu

def inD (x : D) (xs : List D) : Bool := xs.any fun y => D.eqv y x
def eqD : D → D → Rs Bool
  | .int i, .int j => .ok (decide (i = j))
  | .str i, .str j => .ok (decide (i = j))
  | a, b => if a.plain 60 && b.plain 60 then .ok (D.eqv a b) else .no
def cmpD : Cm → D → D → Rs Bool
  | .eq, a, b => eqD a b
  | .ne, a, b => (eqD a b).bind fun c => .ok (!c)
  | .lt, .int a, .int b => .ok (decide (a < b))
  | .le, .int a, .int b => .ok (decide (a ≤ b))
  | .gt, .int a, .int b => .ok (decide (b < a))
  | .ge, .int a, .int b => .ok (decide (b ≤ a))
  | .lt, .str a, .str b => .ok (strLt a b)
  | .inn, .str a, .str b => match a with | [c] => .ok (b.contains c) | _ => .no
  | .nin, .str a, .str b => match a with | [c] => .ok (!b.contains c) | _ => .no
  | .inn, a, .lst xs => if a.atom && xs.all D.atom then .ok (inD a xs) else if a.plain 60 && D.plainL 59 xs then .ok (inD a xs) else .no
  | .nin, a, .lst xs => if a.atom && xs.all D.atom then .ok (!inD a xs) else if a.plain 60 && D.plainL 59 xs then .ok (!inD a xs) else .no
  | .inn, a, .tup xs => if a.atom && xs.all D.atom then .ok (inD a xs) else .no
  | .nin, a, .tup xs => if a.atom && xs.all D.atom then .ok (!inD a xs) else .no
  | .iz, .bl a, .bl b => .ok (decide (a = b))
  | .niz, .bl a, .bl b => .ok (!decide (a = b))
  | _, _, _ => .no

/-- the truth of a value -/
def truD : D → Rs Bool
  | .non => .ok false
  | .bl b => .ok b
  | .int i => .ok (decide (i ≠ 0))
  | .str s => if s.length ≤ SZ then .ok (!s.isEmpty) else .no
  | .lst xs => .ok (!xs.isEmpty)
  | .tup xs => .ok (!xs.isEmpty)
  | _ => .no

/-- the place of an index -/
def ixN (n : Nat) (i : Int) : Option Nat :=
  if 0 ≤ i then (if i < n then some i.toNat else none) else if 0 ≤ i + n then some (i + n).toNat else none
def idxD : D → D → Rs D
  | .lst xs, .int i => match ixN xs.length i with | some k => (match xs[k]? with | some d => .ok d | none => .no) | none => .no
  | .tup xs, .int i => match ixN xs.length i with | some k => (match xs[k]? with | some d => .ok d | none => .no) | none => .no
  | .rls xs, .int i => match ixN xs.length i with | some k => (match xs[k]? with | some d => .ok d | none => .no) | none => .no
  | .str s, .int i => if s.length ≤ SZ then (match ixN s.length i with | some k => (match s[k]? with | some c => .ok (.str [c]) | none => .no) | none => .no) else .no
  | _, _ => .no
/-- the mark of a part -/
def partM : Mk → D → Mk
  | .fr, _ => .fr
  | .sh, _ => .fr
  | .bs, _ => .fr
  | .fu, _ => .fr
  | .bf, d => if d.flat then .fu else .bf

/-- the ends of a slice -/
def slA (n : Nat) (o : Option Int) : Nat := match o with
  | none => 0
  | some i => if i < 0 then (i + n).toNat else min i.toNat n
def slB (n : Nat) (o : Option Int) : Nat := match o with
  | none => n
  | some i => if i < 0 then (i + n).toNat else min i.toNat n
def cut {α : Type} (xs : List α) (lo hi : Option Int) : List α := (xs.drop (slA xs.length lo)).take (slB xs.length hi - slA xs.length lo)
def slcD : D → Option Int → Option Int → Rs D
  | .lst xs, lo, hi => .ok (.lst (cut xs lo hi))
  | .str s, lo, hi => if s.length ≤ SZ then .ok (.str (cut s lo hi)) else .no
  | _, _, _ => .no
/-- the mark of a list made of parts of another -/
def copyM : Mk → D → Mk
  | .bf, .lst ds => if D.flatL ds then .sh else .bf
  | _, .lst _ => .sh
  | _, _ => .fu

def tyB : Ty → D → Bool
  | .int, .int _ => true
  | .int, .bl _ => true
  | .bool, .bl _ => true
  | .str, .str _ => true
  | .list, .lst _ => true
  | .tuple, .tup _ => true
  | .dict, .dic _ _ => true
  | _, _ => false
def D.common : D → Bool
  | .non => true
  | .bl _ => true
  | .int _ => true
  | .str _ => true
  | .lst _ => true
  | .tup _ => true
  | .dic _ _ => true
  | _ => false
def tyD (ts : List Ty) (d : D) : Rs Bool := if d.common then .ok (ts.any fun t => tyB t d) else .no

def listB : List D → Option (List Bool)
  | [] => some []
  | .bl b :: r => (listB r).map (b :: ·)
  | _ => none
def listI : List D → Option (List Int)
  | [] => some []
  | .int b :: r => (listI r).map (b :: ·)
  | _ => none
def listS : List D → Option (List (List Nat))
  | [] => some []
  | .str b :: r => (listS r).map (b :: ·)
  | _ => none
def insI (x : Int) : List Int → List Int
  | [] => [x]
  | y :: r => if x ≤ y then x :: y :: r else y :: insI x r
def sortI : List Int → List Int
  | [] => []
  | x :: r => insI x (sortI r)
def insS (x : List Nat) : List (List Nat) → List (List Nat)
  | [] => [x]
  | y :: r => if strLt y x then y :: insS x r else x :: y :: r
def sortS : List (List Nat) → List (List Nat)
  | [] => []
  | x :: r => insS x (sortS r)
def joinS (sep : List Nat) : List (List Nat) → List Nat
  | [] => []
  | [x] => x
  | x :: r => x ++ sep ++ joinS sep r
def findD (y : D) : List D → Nat → Option Nat
  | [], _ => none
  | x :: r, k => if D.eqv x y then some k else findD y r (k + 1)

def seqD : D → Option (List D)
  | .lst xs => some xs
  | .tup xs => some xs
  | _ => none

def biD1 : Bi → Vl → Rs Vl
  | .len, (_, .lst xs) => .ok (.fu, .int xs.length)
  | .len, (_, .rls xs) => .ok (.fu, .int xs.length)
  | .len, (_, .tup xs) => .ok (.fu, .int xs.length)
  | .len, (_, .dic ks _) => .ok (.fu, .int ks.length)
  | .len, (_, .str s) => if s.length ≤ SZ then .ok (.fu, .int s.length) else .no
  | .int1, (_, .int i) => .ok (.fu, .int i)
  | .int1, (_, .bl b) => .ok (.fu, .int (if b then 1 else 0))
  | .list1, (m, .lst xs) => .ok (copyM m (.lst xs), .lst xs)
  | .list1, (m, .tup xs) => .ok (copyM m (.lst xs), .lst xs)
  | .list1, (_, .str s) => if s.length ≤ SZ then .ok (.sh, .lst (s.map fun c => .str [c])) else .no
  | .tuple1, (_, .str s) => if s.length ≤ SZ then .ok (.fr, .tup (s.map fun c => .str [c])) else .no
  | .tuple1, (m, .tup xs) => .ok (m, .tup xs)
  | .tuple1, (m, .lst xs) => if m == .bf && !D.flatL xs then .ok (.bf, .tup xs) else .ok (.fr, .tup xs)
  | .sorted1, (_, .lst xs) => match listI xs with
    | some ns => .ok (.sh, .lst ((sortI ns).map .int))
    | none => match listS xs with
      | some ss => if ss.length < 64 then .ok (.sh, .lst ((sortS ss).map .str)) else .no
      | none => .no
  | .all1, (_, .lst xs) => match listB xs with | some bs => .ok (.fu, .bl (bs.all id)) | none => .no
  | .any1, (_, .lst xs) => match listB xs with | some bs => .ok (.fu, .bl (bs.any id)) | none => .no
  | .sum1, (_, .lst xs) => match listI xs with | some ns => .ok (.fu, .int ns.sum) | none => .no
  | .abs1, (_, .int i) => .ok (.fu, .int (if i < 0 then -i else i))
  | _, _ => .no
def biD2 : Bi → Vl → Vl → Rs Vl
  | .min2, (_, .int i), (_, .int j) => .ok (.fu, .int (if j < i then j else i))
  | .gcd2, (_, .int i), (_, .int j) => .ok (.fu, .int (Int.gcd i j : Nat))
  | .max2, (_, .int i), (_, .int j) => .ok (.fu, .int (if j > i then j else i))
  | _, _, _ => .no
def rcvD : Mt → D → Rs Unit
  | .join, .str _ => .ok ()
  | .index, .str _ => .ok ()
  | .index, .lst _ => .ok ()
  | _, _ => .no
/-- the first place of c -/
def firstN (c : Nat) : List Nat → Nat → Option Nat
  | [], _ => none
  | x :: r, k => if x = c then some k else firstN c r (k + 1)
def ixV : Option Nat → Rs Vl
  | some k => .ok (.fu, .int k)
  | none => .no
def mtD1 : Mt → Vl → Vl → Rs Vl
  | .join, (_, .str s), (_, .lst xs) => match listS xs with
    | some ss => if (ss.map List.length).sum + ss.length * s.length ≤ SZ then .ok (.fu, .str (joinS s ss)) else .no
    | none => .no
  | .index, (_, .str s), (_, .str [c]) => ixV (firstN c s 0)
  | .index, (_, .lst xs), (_, y) => if y.atom && xs.all D.atom then ixV (findD y xs 0) else .no
  | _, _, _ => .no
def biD (b : Bi) : List Vl → Rs Vl
  | [x] => biD1 b x
  | [x, y] => biD2 b x y
  | _ => .no

/-! ### what the language computes -/
def isBor (vs : List Vl) : Bool := vs.any fun v => v.1.bor && !v.2.flat
def rdV : Mk → Mk
  | .fr => .fr
  | .sh => .bs
  | .fu => .bf
  | .bs => .bs
  | .bf => .bf
/-- a slice's part: left out, or an int -/
def optI : Ex → D → Rs (Option Int)
  | .cst .non, _ => .ok none
  | _, .int i => .ok (some i)
  | _, _ => .no

def setAll : List Nat → List D → Ev → Ev
  | i :: is, d :: ds, E => setAll is ds (E.set i (some (.fr, d)))
  | _, _, E => E
def bindP : Pat → D → Ev → Option Ev
  | .nm i, d, E => some (E.set i (some (.fr, d)))
  | .tp is, .tup ds, E => if is.length = ds.length then some (setAll is ds E) else none
  | _, _, _ => none

/-- a list comprehension's turns -/
def compD (bind : D → Option Ev) (test : Ev → Rs Bool) (el : Ev → Rs Vl) : List D → Rs (List Vl)
  | [] => .ok []
  | d :: ds => match bind d with
    | none => .no
    | some E => match test E with
      | .ok true => match el E with
        | .ok v => match compD bind test el ds with
          | .ok vs => .ok (v :: vs)
          | _ => .no
        | _ => .no
      | .ok false => compD bind test el ds
      | _ => .no

/-- a dict's keys, values; stored -/
def isKey : D → Bool
  | .int _ => true
  | .str _ => true
  | _ => false
def replA : List D → List D → D → D → List D
  | x :: xs, y :: ys, k, v => (if D.eqv x k then v else y) :: replA xs ys k v
  | _, ys, _, _ => ys
def putA (ks vs : List D) (k v : D) : List D × List D := if ks.any (fun x => D.eqv x k) then (ks, replA ks vs k v) else (ks ++ [k], vs ++ [v])
/-- a dict comprehension's turns -/
def dcompD (bind : D → Option Ev) (test : Ev → Rs Bool) (kf vf : Ev → Rs Vl) : List D → List D → List D → Rs (List D × List D)
  | [], ks, vs => .ok (ks, vs)
  | d :: ds, ks, vs => match bind d with
    | none => .no
    | some E => match test E with
      | .ok true => match kf E with
        | .ok k => match vf E with
          | .ok v => if isKey k.2 && !(v.1.bor && !v.2.flat) && ks.length < SZ then dcompD bind test kf vf ds (putA ks vs k.2 v.2).1 (putA ks vs k.2 v.2).2 else .no
          | _ => .no
        | _ => .no
      | .ok false => dcompD bind test kf vf ds ks vs
      | _ => .no
def dcV : Rs (List D × List D) → Rs Vl
  | .ok r => .ok (.sh, .dic r.1 r.2)
  | _ => .no

def rngL (lo : Int) : Nat → List D
  | 0 => []
  | n + 1 => .int lo :: rngL (lo + 1) n
def enumL (k : Int) : List D → List D
  | [] => []
  | x :: r => .tup [.int k, x] :: enumL (k + 1) r
def zipL : List D → List D → List D
  | x :: r, y :: s => .tup [x, y] :: zipL r s
  | _, _ => []
def chk62 (i : Int) : Bool := decide (-4611686018427387904 ≤ i) && decide (i < 4611686018427387904)

/-- what is walked (c: in a comprehension, where nothing of one's own is changed) -/
def iterD (c : Bool) : Vl → Rs (List D)
  | (m, .lst xs) => if m.bor && !(c && m == .bs) then .no else .ok xs
  | (m, .tup xs) => if m.bor then .no else .ok xs
  | (_, .str s) => .ok (s.map fun c => .str [c])
  | _ => .no

def negD : D → Rs Vl
  | .int i => .ok (.fu, .int (-i))
  | _ => .no
def isNon : D → Bool
  | .non => true
  | _ => false
def boolD {α : Type} (d : D) (f : Bool → Rs α) : Rs α := match d with
  | .bl b => f b
  | _ => .no
def lstV (k : Bool) (vs : List Vl) : Rs Vl :=
  if vs.length ≤ SZ then
    (if k then (if vs.all fun v => v.1 == .fu || v.2.flat then .ok (.fu, .lst (vs.map (·.2))) else .no)
    else .ok (if isBor vs then .bf else .sh, .lst (vs.map (·.2))))
  else .no
def tupV (vs : List Vl) : Rs Vl := if vs.length ≤ SZ then .ok (if isBor vs then .bf else .fr, .tup (vs.map (·.2))) else .no
def slcV (x : Vl) (lo hi : Option Int) : Rs Vl := (slcD x.2 lo hi).bind fun d => .ok (copyM x.1 d, d)
def revV (x : Vl) : Rs Vl := match x.2 with
  | .lst xs => .ok (copyM x.1 (.lst xs.reverse), .lst xs.reverse)
  | .str s => if s.length ≤ SZ then .ok (.fu, .str s.reverse) else .no
  | _ => .no
def callM (vs : List Vl) (r : Vl) : Vl := (if isBor vs then (if r.2.flat then .fu else .bf) else r.1, r.2)
def compV (k : Bool) : Rs (List Vl) → Rs Vl
  | .ok vs =>
    if vs.length ≤ SZ then
      (if k then (if vs.all fun v => v.1 == .fu || v.2.flat then .ok (.fu, .lst (vs.map (·.2))) else .no)
      else (if isBor vs then .no else .ok (.sh, .lst (vs.map (·.2)))))
    else .no
  | _ => .no
def wipeE (own : List Nat) (E : Ev) : Ev := own.foldr (fun i E => E.set i none) E
def rngD : D → D → Rs (List D)
  | .int lo, .int hi => if chk62 lo && chk62 hi then .ok (rngL lo (hi - lo).toNat) else .no
  | _, _ => .no
def enumD : Vl → Rs (List D)
  | (_, .str s) => .ok (enumL 0 (s.map fun c => .str [c]))
  | (m, .lst xs) => if m.bor then .no else .ok (enumL 0 xs)
  | _ => .no
def zipD : Vl → Vl → Rs (List D)
  | (m, .lst xs), (n, .lst ys) => if m.bor || n.bor then .no else .ok (zipL xs ys)
  | _, _ => .no
def revdD : Vl → Rs (List D)
  | (m, .lst xs) => if m.bor then .no else .ok xs.reverse
  | _ => .no

section
variable (cal : Nat → List D → Rs Vl) (gl : Nat → D)
mutual
def den : Ex → Ev → Rs Vl
  | .var i, E => match E[i]? with
    | some (some (m, d)) => .ok (rdV m, d)
    | _ => .no
  | .cst d, _ => .ok (.fu, d)
  | .gl k, _ => .ok (.fr, gl k)
  | .bin op a b, E => (den a E).bind fun x => (den b E).bind fun y => (binD op x.2 y.2).bind fun d => .ok (binM x.1 y.1 d, d)
  | .neg a, E => (den a E).bind fun x => negD x.2
  | .cmp op a b, E => (den a E).bind fun x => (den b E).bind fun y => (cmpD op x.2 y.2).bind fun c => .ok (.fu, .bl c)
  | .chain o1 o2 a b c, E => (den a E).bind fun x => (den b E).bind fun y => (cmpD o1 x.2 y.2).bind fun k =>
      if k then (den c E).bind fun z => (cmpD o2 y.2 z.2).bind fun k2 => .ok (.fu, .bl k2) else .ok (.fu, .bl false)
  | .isN a, E => (den a E).bind fun x => .ok (.fu, .bl (isNon x.2))
  | .notN a, E => (den a E).bind fun x => .ok (.fu, .bl (!isNon x.2))
  | .and_ es, E => denAnd es E
  | .or_ es, E => denOr es E
  | .not_ a, E => (den a E).bind fun x => (truD x.2).bind fun b => .ok (.fu, .bl (!b))
  | .ite c a b, E => (tst c E).bind fun k => if k then den a E else den b E
  | .lst k es, E => (dens es E).bind fun vs => lstV k vs
  | .tup es, E => (dens es E).bind fun vs => tupV vs
  | .idx a b, E => (den a E).bind fun x => (den b E).bind fun y => (idxD x.2 y.2).bind fun d => .ok (partM x.1 d, d)
  | .slc a lo hi, E => (den a E).bind fun x => (den lo E).bind fun l => (optI lo l.2).bind fun l' =>
      (den hi E).bind fun h => (optI hi h.2).bind fun h' => slcV x l' h'
  | .rev a, E => (den a E).bind fun x => revV x
  | .call f es, E => (dens es E).bind fun vs => (cal f (vs.map (·.2))).bind fun r => .ok (callM vs r)
  | .bi b es, E => (dens es E).bind fun vs => biD b vs
  | .mt1 b o a, E => (den o E).bind fun x => (rcvD b x.2).bind fun _ => (den a E).bind fun y => mtD1 b x y
  | .isi a ts, E => (den a E).bind fun x => (tyD ts x.2).bind fun k => .ok (.fu, .bl k)
  | .comp k el p it own ifs, E => (iter true it E).bind fun ds =>
      compV k (compD (fun d => bindP p d (wipeE own E)) (tsts ifs) (den el) ds)
  | .dcomp kx vx p it own ifs, E => (iter true it E).bind fun ds =>
      dcV (dcompD (fun d => bindP p d (wipeE own E)) (tsts ifs) (den kx) (den vx) ds [] [])
  | .dic0, _ => .ok (.sh, .dic [] [])
def denAnd : List Ex → Ev → Rs Vl
  | [], _ => .no
  | a :: r, E => (den a E).bind fun x => match r with
    | [] => .ok x
    | _ :: _ => boolD x.2 fun b => if b then denAnd r E else .ok (.fu, .bl false)
def denOr : List Ex → Ev → Rs Vl
  | [], _ => .no
  | a :: r, E => (den a E).bind fun x => match r with
    | [] => .ok x
    | _ :: _ => boolD x.2 fun b => if b then .ok (.fu, .bl true) else denOr r E
def dens : List Ex → Ev → Rs (List Vl)
  | [], _ => .ok []
  | e :: es, E => (den e E).bind fun v => (dens es E).bind fun vs => .ok (v :: vs)
/-- as a test -/
def tst : Tx → Ev → Rs Bool
  | .val e, E => (den e E).bind fun x => truD x.2
  | .cmp op a b, E => (den a E).bind fun x => (den b E).bind fun y => cmpD op x.2 y.2
  | .chain o1 o2 a b c, E => (den a E).bind fun x => (den b E).bind fun y => (cmpD o1 x.2 y.2).bind fun k =>
      if k then (den c E).bind fun z => cmpD o2 y.2 z.2 else .ok false
  | .isN a, E => (den a E).bind fun x => .ok (isNon x.2)
  | .notN a, E => (den a E).bind fun x => .ok (!isNon x.2)
  | .and_ ts, E => tstAnd ts E
  | .or_ ts, E => tstOr ts E
  | .not_ t, E => (tst t E).bind fun k => .ok (!k)
def tstAnd : List Tx → Ev → Rs Bool
  | [], _ => .no
  | a :: r, E => (tst a E).bind fun k => match r with
    | [] => .ok k
    | _ :: _ => if k then tstAnd r E else .ok false
def tstOr : List Tx → Ev → Rs Bool
  | [], _ => .no
  | a :: r, E => (tst a E).bind fun k => match r with
    | [] => .ok k
    | _ :: _ => if k then .ok true else tstOr r E
def tsts : List Tx → Ev → Rs Bool
  | [], _ => .ok true
  | a :: r, E => match r with
    | [] => tst a E
    | _ :: _ => .no
def iter (c : Bool) : Ix → Ev → Rs (List D)
  | .val e, E => (den e E).bind (iterD c)
  | .rng1 a, E => (den a E).bind fun x => rngD (.int 0) x.2
  | .rng2 a b, E => (den a E).bind fun x => (den b E).bind fun y => rngD x.2 y.2
  | .enum a, E => (den a E).bind fun x => enumD x
  | .zip a b, E => (den a E).bind fun x => (den b E).bind fun y => zipD x y
  | .revd a, E => (den a E).bind fun x => revdD x
end

inductive Out where
  | no | nx (E : Ev) | bk (E : Ev) | ct (E : Ev) | rt (v : Vl) | ex (c : Nat) (x : D) (E : Ev)
def lift {α : Type} (E : Ev) : Rs α → (α → Out) → Out
  | .no, _ => .no
  | .ok a, k => k a
  | .ex c x, _ => .ex c x E

def forD (bind : D → Ev → Option Ev) (body : Ev → Out) : List D → Ev → Out
  | [], E => .nx E
  | d :: ds, E => match bind d E with
    | none => .no
    | some E1 => match body E1 with
      | .nx E2 => forD bind body ds E2
      | .ct E2 => forD bind body ds E2
      | .bk E2 => .nx E2
      | .rt v => .rt v
      | .no => .no
      | .ex c x E2 => .ex c x E2
def whlD (test : Ev → Rs Bool) (body : Ev → Out) : Nat → Ev → Out
  | 0, _ => .no
  | n + 1, E => lift E (test E) fun k => if k then (match body E with
      | .nx E2 => whlD test body n E2
      | .ct E2 => whlD test body n E2
      | .bk E2 => .nx E2
      | .rt v => .rt v
      | .no => .no
      | .ex c x E2 => .ex c x E2) else .nx E

/-- a value stored shared -/
def shared : Vl → Rs Vl
  | (m, d) => if m.bor && !d.flat then .no else .ok (.fr, d)
/-- stored as one's own -/
def owned : Vl → Rs Vl
  | (.fu, d) => .ok (.fu, d)
  | (.sh, d) => .ok (.sh, d)
  | _ => .no
def given : Vl → Rs Vl
  | (m, d) => if m.bor then (if d.flat then .ok (.fr, d) else .no) else .ok (m, d)
/-- a list of one's own -/
def ownL : Slot → Rs Unit
  | some (.sh, .lst _) => .ok ()
  | some (.fu, .lst _) => .ok ()
  | _ => .no
/-- x.append(v) at an owned list -/
def appD : Slot → Vl → Rs Vl
  | some (.sh, .lst xs), v => if v.1.bor && !v.2.flat then .no else if xs.length < SZ then .ok (.sh, .lst (xs ++ [v.2])) else .no
  | some (.fu, .lst xs), v => if (v.1 == .fu || v.2.flat) then (if xs.length < SZ then .ok (.fu, .lst (xs ++ [v.2])) else .no) else .no
  | _, _ => .no
/-- x[k] = v -/
def putD : Slot → D → Vl → Rs Vl
  | some (.sh, .lst xs), .int i, v => if v.1.bor && !v.2.flat then .no else match ixN xs.length i with
    | some k => .ok (.sh, .lst (xs.set k v.2))
    | none => .no
  | _, _, _ => .no
def rdS : Slot → Rs Vl
  | some v => .ok v
  | none => .no
def augD (op : Op) : D → D → Rs D
  | .int a, .int b => binD op (.int a) (.int b)
  | .str a, .str b => binD op (.str a) (.str b)
  | _, _ => .no
def unpD (n : Nat) : Vl → Rs (List D)
  | (m, .tup ds) => if (m.bor && !(D.flatL ds)) || n != ds.length then .no else .ok ds
  | _ => .no
def parD (n : Nat) (vs : List Vl) : Rs (List D) := if isBor vs || n != vs.length then .no else .ok (vs.map (·.2))

variable (w : Nat)
mutual
def exe : St → Ev → Out
  | .set i e, E => lift E (den cal gl e E) fun v => lift E (shared v) fun u => .nx (E.set i (some u))
  | .own i e, E => lift E (den cal gl e E) fun v => lift E (owned v) fun u => .nx (E.set i (some u))
  | .par is es, E => lift E (dens cal gl es E) fun vs => lift E (parD is.length vs) fun ds => .nx (setAll is ds E)
  | .unp is e, E => lift E (den cal gl e E) fun v => lift E (unpD is.length v) fun ds => .nx (setAll is ds E)
  | .aug i op e, E => lift E (rdS (E[i]?).join) fun x => lift E (den cal gl e E) fun v => lift E (augD op x.2 v.2) fun d => .nx (E.set i (some (.fr, d)))
  | .app i e, E => lift E (ownL (E[i]?).join) fun _ => lift E (den cal gl e E) fun v => lift E (appD (E[i]?).join v) fun u => .nx (E.set i (some u))
  | .put i k e, E => lift E (den cal gl e E) fun v => lift E (ownL (E[i]?).join) fun _ => lift E (den cal gl k E) fun x => lift E (putD (E[i]?).join x.2 v) fun u => .nx (E.set i (some u))
  | .exp e, E => lift E (den cal gl e E) fun _ => .nx E
  | .ret e, E => lift E (den cal gl e E) fun v => lift E (given v) fun u => .rt u
  | .retV i, E => lift E (rdS (E[i]?).join) fun v => .rt v
  | .retN, _ => .rt (.fu, .non)
  | .ite c a b, E => lift E (tst cal gl c E) fun k => if k then exes a E else exes b E
  | .for_ p it body, E => lift E (iter cal gl false it E) fun ds => forD (bindP p) (exes body) ds E
  | .whl c body, E => whlD (tst cal gl c) (exes body) w E
  | .brk, E => .bk E
  | .cnt, E => .ct E
  | .pas, E => .nx E
  | .frz i, E => lift E (rdS (E[i]?).join) fun v => .nx (E.set i (some (.fr, v.2)))
  | .nev, _ => .no
  | .mtc e m, E => lift E (den cal gl e E) fun v => exeM m v.2 E
def exeM : Ms → D → Ev → Out
  | .nil, _, E => .nx E
  | .cons l body rest, d, E => match d with
    | .str s => if l.isEmpty || l.contains s then exes body E else exeM rest d E
    | _ => .no
def exes : List St → Ev → Out
  | [], E => .nx E
  | s :: r, E => match exe s E with
    | .nx E2 => exes r E2
    | .bk E2 => .bk E2
    | .ct E2 => .ct E2
    | .rt v => .rt v
    | .no => .no
    | .ex c x E2 => .ex c x E2
end
end

/-- a def: its body, how many slots, how many of these are parameters -/
structure Fn where
  body : List St
  slots : Nat
  pars : Nat
def startE (n : Nat) (ds : List D) : Ev := ds.map (fun d => some (.fr, d)) ++ List.replicate (n - ds.length) none
/-- a flat result's mark is fu -/
def norm : Vl → Vl
  | (m, d) => (if d.flat then .fu else m, d)
def outR : Out → Rs Vl
  | .rt v => .ok (norm v)
  | .nx _ => .ok (.fu, .non)
  | .ex c x _ => .ex c x
  | _ => .no
def runFn (cal : Nat → List D → Rs Vl) (gl : Nat → D) (w : Nat) (f : Fn) (ds : List D) : Rs Vl :=
  if ds.length = f.pars then outR (exes cal gl w f.body (startE f.slots ds)) else .no
/-- a program: its defs by number; n the calls that may be open at once -/
def callD (P : List Fn) (gl : Nat → D) (w : Nat) : Nat → Nat → List D → Rs Vl
  | 0, _, _ => .no
  | n + 1, f, ds => match P[f]? with
    | some fn => runFn (callD P gl w n) gl w fn ds
    | none => .no
end DP

namespace DP
open PySem PySem.Spec PyProof.Rows L2

def sv (s : List Nat) : Str := ⟨s.toArray⟩
/-- a key of a dict, as data -/
def keyD : Key → D
  | .inl i => .int i
  | .inr x => .str x.cps.toList
mutual
inductive Data (K : PySem.W.Frag) (G : Hp) : V → D → Prop
  | non : Data K G .non .non
  | bl (b : Bool) : Data K G (.bl b) (.bl b)
  | int (i : Int) : Data K G (.int i) (.int i)
  | str (s : List Nat) : Data K G (.str (sv s)) (.str s)
  | lst {a : Addr} {vs : List V} {ds : List D} : G a = some (.lst vs) → Datas K G vs ds → Data K G (.ref a) (.lst ds)
  | rls {a : Addr} {vs : List V} {ds : List D} : SqL K G a vs → Datas K G vs ds → Data K G (.ref a) (.rls ds)
  | tup {a : Addr} {vs : List V} {ds : List D} : SqT K G a vs → Datas K G vs ds → Data K G (.ref a) (.tup ds)
  | dic {a : Addr} {ks : List Key} {vs : List V} {ds : List D} : G a = some (.dK (ks.zip vs)) → ks.length = vs.length → Datas K G vs ds → Data K G (.ref a) (.dic (ks.map keyD) ds)
inductive Datas (K : PySem.W.Frag) (G : Hp) : List V → List D → Prop
  | nil : Datas K G [] []
  | cons {v : V} {vs : List V} {d : D} {ds : List D} : Data K G v d → Datas K G vs ds → Datas K G (v :: vs) (d :: ds)
end
/-- what a cell that is one's own holds, its parts shared -/
inductive Cell (K : PySem.W.Frag) (G : Hp) : HO → D → Prop
  | lst {vs : List V} {ds : List D} : Datas K G vs ds → Cell K G (.lst vs) (.lst ds)
  | dic {ks : List Key} {vs : List V} {ds : List D} : ks.length = vs.length → Datas K G vs ds → Cell K G (.dK (ks.zip vs)) (.dic (ks.map keyD) ds)
mutual
inductive Tree (K : PySem.W.Frag) (G H : Hp) : V → D → List Addr → Prop
  | flat {v : V} {d : D} : Data K G v d → d.flat = true → Tree K G H v d []
  | lst {a : Addr} {vs : List V} {ds : List D} {fp : List Addr} : H a = some (.lst vs) → Trees K G H vs ds fp → Tree K G H (.ref a) (.lst ds) (a :: fp)
inductive Trees (K : PySem.W.Frag) (G H : Hp) : List V → List D → List Addr → Prop
  | nil : Trees K G H [] [] []
  | cons {v : V} {vs : List V} {d : D} {ds : List D} {fp fq : List Addr} : Tree K G H v d fp → Trees K G H vs ds fq → Trees K G H (v :: vs) (d :: ds) (fp ++ fq)
end

section
variable {K : PySem.W.Frag} {G G' H H' : Hp}
theorem Same.seqT {a : Addr} {xs : List V} (e : Same H H') (h : SqT K H a xs) : SqT K H' a xs := by
  rcases h with (h | ⟨o, h⟩) | h
  · exact .inl (.inl (e _ _ h))
  · exact .inl (.inr ⟨o, e _ _ h⟩)
  · exact .inr h
mutual
theorem Data.mono (e : Same G G') : ∀ {v : V} {d : D}, Data K G v d → Data K G' v d
  | _, _, .non => .non
  | _, _, .bl b => .bl b
  | _, _, .int i => .int i
  | _, _, .str s => .str s
  | _, _, .lst h t => .lst (e _ _ h) (Datas.mono e t)
  | _, _, .rls h t => .rls (e.seq h) (Datas.mono e t)
  | _, _, .tup h t => .tup (Same.seqT e h) (Datas.mono e t)
  | _, _, .dic h l t => .dic (e _ _ h) l (Datas.mono e t)
theorem Datas.mono (e : Same G G') : ∀ {v : List V} {d : List D}, Datas K G v d → Datas K G' v d
  | _, _, .nil => .nil
  | _, _, .cons h t => .cons (Data.mono e h) (Datas.mono e t)
end
theorem Datas.length : ∀ {v : List V} {d : List D}, Datas K G v d → v.length = d.length
  | _, _, .nil => rfl
  | _, _, .cons _ t => by rw [List.length_cons, List.length_cons, Datas.length t]
theorem Datas.get : ∀ {v : List V} {d : List D} {i : Nat} {x : D}, Datas K G v d → d[i]? = some x → ∃ u, v[i]? = some u ∧ Data K G u x
  | _, _, _, _, .nil, e => by simp at e
  | _, _, 0, _, .cons h _, e => by simp at e; subst e; exact ⟨_, rfl, h⟩
  | _, _, i + 1, x, .cons _ t, e => by
    obtain ⟨u, h1, h2⟩ := Datas.get (i := i) (x := x) t (by simpa using e)
    exact ⟨u, by simpa using h1, h2⟩
theorem Datas.getV : ∀ {v : List V} {d : List D} {i : Nat} {u : V}, Datas K G v d → v[i]? = some u → ∃ x, d[i]? = some x ∧ Data K G u x
  | _, _, _, _, .nil, e => by simp at e
  | _, _, 0, _, .cons h _, e => by simp at e; subst e; exact ⟨_, rfl, h⟩
  | _, _, i + 1, x, .cons _ t, e => by
    obtain ⟨u, h1, h2⟩ := Datas.getV (i := i) (u := x) t (by simpa using e)
    exact ⟨u, by simpa using h1, h2⟩
theorem Datas.append : ∀ {v w : List V} {d e : List D}, Datas K G v d → Datas K G w e → Datas K G (v ++ w) (d ++ e)
  | _, _, _, _, .nil, q => q
  | _, _, _, _, .cons h t, q => .cons h (Datas.append t q)
theorem Datas.take : ∀ {v : List V} {d : List D} (n : Nat), Datas K G v d → Datas K G (v.take n) (d.take n)
  | _, _, 0, _ => .nil
  | _, _, _ + 1, .nil => .nil
  | _, _, n + 1, .cons h t => .cons h (Datas.take n t)
theorem Datas.drop : ∀ {v : List V} {d : List D} (n : Nat), Datas K G v d → Datas K G (v.drop n) (d.drop n)
  | _, _, 0, h => h
  | _, _, _ + 1, .nil => .nil
  | _, _, n + 1, .cons _ t => Datas.drop n t
theorem Datas.set : ∀ {v : List V} {d : List D} (n : Nat) {u : V} {x : D}, Data K G u x → Datas K G v d → Datas K G (v.set n u) (d.set n x)
  | _, _, 0, _, _, _, .nil => .nil
  | _, _, _ + 1, _, _, _, .nil => .nil
  | _, _, 0, _, _, q, .cons h t => .cons q t
  | _, _, n + 1, _, _, q, .cons h t => .cons h (Datas.set n q t)
theorem Datas.revAux : ∀ {v a : List V} {d b : List D}, Datas K G v d → Datas K G a b → Datas K G (v.reverseAux a) (d.reverseAux b)
  | _, _, _, _, .nil, q => q
  | _ :: vs, _, _ :: ds, _, .cons h t, q => Datas.revAux (v := vs) (d := ds) t (.cons h q)
theorem Datas.reverse {v : List V} {d : List D} (h : Datas K G v d) : Datas K G v.reverse d.reverse := Datas.revAux h .nil
theorem Datas.isEmpty {v : List V} {d : List D} (h : Datas K G v d) : v.isEmpty = d.isEmpty := by cases h <;> rfl

mutual
/-- the cells of a tree are there -/
theorem Tree.there : ∀ {v : V} {d : D} {fp : List Addr}, Tree K G H v d fp → ∀ a ∈ fp, ∃ vs, H a = some (.lst vs)
  | _, _, _, .flat _ _, a, h => by cases h
  | _, _, _, .lst e t, a, h => by
    rcases List.mem_cons.mp h with rfl | h
    · exact ⟨_, e⟩
    · exact Trees.there t a h
theorem Trees.there : ∀ {v : List V} {d : List D} {fp : List Addr}, Trees K G H v d fp → ∀ a ∈ fp, ∃ vs, H a = some (.lst vs)
  | _, _, _, .nil, a, h => by cases h
  | _, _, _, .cons e t, a, h => by
    rcases List.mem_append.mp h with h | h
    · exact Tree.there e a h
    · exact Trees.there t a h
end
mutual
/-- read in any heap that has both -/
theorem Tree.data (e : Same G G') : ∀ {v : V} {d : D} {fp : List Addr}, Tree K G H v d fp → (∀ a ∈ fp, ∀ o, H a = some o → G' a = some o) → Data K G' v d
  | _, _, _, .flat h _, _ => h.mono e
  | _, _, _, .lst h t, q => .lst (q _ List.mem_cons_self _ h) (Trees.data e t fun a m => q a (List.mem_cons_of_mem _ m))
theorem Trees.data (e : Same G G') : ∀ {v : List V} {d : List D} {fp : List Addr}, Trees K G H v d fp → (∀ a ∈ fp, ∀ o, H a = some o → G' a = some o) → Datas K G' v d
  | _, _, _, .nil, _ => .nil
  | _, _, _, .cons h t, q => .cons (Tree.data e h fun a m => q a (List.mem_append_left _ m)) (Trees.data e t fun a m => q a (List.mem_append_right _ m))
end
mutual
theorem Tree.mono (e : Same G G') : ∀ {v : V} {d : D} {fp : List Addr}, Tree K G H v d fp → (∀ a ∈ fp, ∀ o, H a = some o → H' a = some o) → Tree K G' H' v d fp
  | _, _, _, .flat h f, _ => .flat (h.mono e) f
  | _, _, _, .lst h t, q => .lst (q _ List.mem_cons_self _ h) (Trees.mono e t fun a m => q a (List.mem_cons_of_mem _ m))
theorem Trees.mono (e : Same G G') : ∀ {v : List V} {d : List D} {fp : List Addr}, Trees K G H v d fp → (∀ a ∈ fp, ∀ o, H a = some o → H' a = some o) → Trees K G' H' v d fp
  | _, _, _, .nil, _ => .nil
  | _, _, _, .cons h t, q => .cons (Tree.mono e h fun a m => q a (List.mem_append_left _ m)) (Trees.mono e t fun a m => q a (List.mem_append_right _ m))
end
theorem Trees.append : ∀ {v w : List V} {d e : List D} {fp fq : List Addr}, Trees K G H v d fp → Trees K G H w e fq → Trees K G H (v ++ w) (d ++ e) (fp ++ fq)
  | _, _, _, _, _, _, .nil, q => q
  | _, _, _, _, _, _, .cons h t, q => by
    rw [List.append_assoc]
    exact .cons h (Trees.append t q)

/-- a tuple, tracked or known -/
def isTupO : HO → Bool
  | .tup _ => true
  | .frz _ (.tup _) => true
  | _ => false
/-- G and the tuples of H -/
def withT (G H : Hp) : Hp := fun a => match G a with
  | some o => some o
  | none => match H a with
    | some o => if isTupO o then some o else none
    | none => none
theorem withT_same : Same G (withT G H) := fun a o e => by unfold withT; rw [e]
theorem withT_sub (s : Same G H) : Same (withT G H) H := fun a o e => by
  unfold withT at e
  cases g : G a with
  | some u => rw [g] at e; cases e; exact s a _ g
  | none =>
    rw [g] at e
    cases h : H a with
    | none => rw [h] at e; cases e
    | some u =>
      rw [h] at e
      by_cases t : isTupO u = true
      · simp only [t, if_true] at e; exact e
      · simp only [t, if_false] at e; cases e
theorem withT_tup (s : Same G H) {a : Addr} {o : HO} (h : H a = some o) (t : isTupO o = true) : withT G H a = some o := by
  unfold withT
  cases g : G a with
  | some u => rw [s a u g] at h; cases h; rfl
  | none => simp only [h, t, if_true]
theorem mut_ntup {a : Addr} (m : Mut (H a)) (g : G a = none) : withT G H a = none := by
  unfold withT
  rw [g]
  cases h : H a with
  | none => rfl
  | some o =>
    rw [h] at m
    cases o with
    | tup _ => exact False.elim m
    | frz _ _ => exact False.elim m
    | _ => rfl
mutual
theorem Data.flat (s : Same G H) : ∀ {v : V} {d : D}, Data K H v d → d.flat = true → Data K (withT G H) v d
  | _, _, .non, _ => .non
  | _, _, .bl b, _ => .bl b
  | _, _, .int i, _ => .int i
  | _, _, .str s, _ => .str s
  | _, _, .lst _ _, f => by simp [D.flat] at f
  | _, _, .rls _ _, f => by simp [D.flat] at f
  | _, _, .dic _ _ _, f => by simp [D.flat] at f
  | _, _, .tup h t, f => by
    refine .tup ?_ (Datas.flat s t (by simpa [D.flat] using f))
    rcases h with (h | ⟨o, h⟩) | h
    · exact .inl (.inl (withT_tup s h rfl))
    · exact .inl (.inr ⟨o, withT_tup s h rfl⟩)
    · exact .inr h
theorem Datas.flat (s : Same G H) : ∀ {v : List V} {d : List D}, Datas K H v d → D.flatL d = true → Datas K (withT G H) v d
  | _, _, .nil, _ => .nil
  | _, _, .cons h t, f => by
    simp only [D.flatL, Bool.and_eq_true] at f
    exact .cons (Data.flat s h f.1) (Datas.flat s t f.2)
end
end

/-! ### how the heap grows -/
/-- H grows to H', its shared part G to G': nothing tracked is changed, nothing that was there and can be changed comes into the shared part -/
structure Grow (G H G' H' : Hp) : Prop where
  sG : Same G G'
  sH : Same H H'
  sub : Same G' H'
  new : ∀ a, G a = none → Mut (H a) → G' a = none
section
variable {K : PySem.W.Frag} {G G' G2 H H' H2 : Hp}
theorem Grow.refl (s : Same G H) : Grow G H G H := ⟨Same.refl _, Same.refl _, s, fun _ h _ => h⟩
theorem mut_some {a : Addr} (m : Mut (H a)) : ∃ o, H a = some o := by
  cases h : H a with
  | none => rw [h] at m; exact False.elim m
  | some o => exact ⟨o, rfl⟩
theorem Grow.trans (x : Grow G H G' H') (y : Grow G' H' G2 H2) : Grow G H G2 H2 :=
  ⟨x.sG.trans y.sG, x.sH.trans y.sH, y.sub, fun a g m => y.new a (x.new a g m) (by obtain ⟨o, e⟩ := mut_some m; rw [x.sH a o e]; rw [e] at m; exact m)⟩
theorem Grow.withT (x : Grow G H G' H') : Grow G H (withT G' H') H' :=
  ⟨x.sG.trans withT_same, x.sH, withT_sub x.sub, fun a g m => mut_ntup (by obtain ⟨o, e⟩ := mut_some m; rw [x.sH a o e]; rw [e] at m; exact m) (x.new a g m)⟩
/-- a new object that is shared at once -/
theorem Grow.laid (s : Same G H) {a : Addr} {o : HO} (h : H a = none) : Grow G H (upd G a o) (upd H a o) := by
  have g : G a = none := by
    cases e : G a with
    | none => rfl
    | some u => rw [s a u e] at h; cases h
  refine ⟨fun b u e => ?_, fun b u e => ?_, fun b u e => ?_, fun b e m => ?_⟩
  · rw [upd_ne (ne_of_none e g)]; exact e
  · rw [upd_ne (ne_of_none e h)]; exact e
  · by_cases hb : b = a
    · subst hb; rw [upd_same] at e ⊢; exact e
    · rw [upd_ne hb] at e ⊢; exact s b u e
  · have hb : b ≠ a := fun z => by subst z; rw [h] at m; exact m
    rw [upd_ne hb]; exact e
/-- a new object that is one's own -/
theorem Grow.mine (s : Same G H) {a : Addr} {o : HO} (h : H a = none) : Grow G H G (upd H a o) := by
  refine ⟨Same.refl _, fun b u e => ?_, fun b u e => ?_, fun b e m => e⟩
  · rw [upd_ne (ne_of_none e h)]; exact e
  · rw [upd_ne (ne_of_none (s b u e) h)]; exact s b u e
/-- the cells at fp become shared -/
def frzH (G H : Hp) (fp : List Addr) : Hp := fun a => if a ∈ fp then H a else G a
theorem frzH_in {fp : List Addr} {a : Addr} (h : a ∈ fp) : frzH G H fp a = H a := if_pos h
theorem frzH_out {fp : List Addr} {a : Addr} (h : a ∉ fp) : frzH G H fp a = G a := if_neg h
theorem Grow.frz (x : Grow G H G' H') {fp : List Addr} (f : ∀ a ∈ fp, H a = none) (o : ∀ a ∈ fp, G' a = none) : Grow G H (frzH G' H' fp) H' := by
  refine ⟨fun a u e => ?_, x.sH, fun a u e => ?_, fun a g m => ?_⟩
  · have h : a ∉ fp := fun z => by have q := x.sG a u e; rw [o a z] at q; cases q
    rw [frzH_out h]; exact x.sG a u e
  · by_cases h : a ∈ fp
    · rw [frzH_in h] at e; exact e
    · rw [frzH_out h] at e; exact x.sub a u e
  · have h : a ∉ fp := fun z => by rw [f a z] at m; exact m
    rw [frzH_out h]; exact x.new a g m
end

/-! ### values -/
def Val (K : PySem.W.Frag) : Mk → Hp → Hp → V → D → List Addr → Prop
  | .fr, G, _, v, d, fp => fp = [] ∧ Data K G v d
  | .sh, G, H, v, d, fp => (fp = [] ∧ Data K G v d ∧ d.flat = true) ∨ ∃ a o, v = .ref a ∧ fp = [a] ∧ H a = some o ∧ Cell K G o d
  | .fu, G, H, v, d, fp => Tree K G H v d fp
  | .bs, G, H, v, d, fp => fp = [] ∧ ((Data K G v d ∧ d.flat = true) ∨ ∃ a o, v = .ref a ∧ H a = some o ∧ Cell K G o d)
  | .bf, _, H, v, d, fp => fp = [] ∧ Data K H v d
/-- what an expression gives: the value v, as m says, of the data d -/
structure Got (K : PySem.W.Frag) (G H G' H' : Hp) (m : Mk) (v : V) (d : D) (fp : List Addr) : Prop where
  gr : Grow G H G' H'
  val : Val K m G' H' v d fp
  nd : fp.Nodup
  fresh : ∀ a ∈ fp, H a = none
  out : ∀ a ∈ fp, G' a = none
section
variable {K : PySem.W.Frag} {G G' G2 H H' H2 : Hp} {m : Mk} {v : V} {d : D} {fp : List Addr}
theorem Cell.mono {o : HO} (e : Same G G') (c : Cell K G o d) : Cell K G' o d := by
  cases c with
  | lst h => exact .lst (h.mono e)
  | dic l h => exact .dic l (h.mono e)
theorem Cell.data {a : Addr} {o : HO} (e : Same G H) (h : H a = some o) (c : Cell K G o d) : Data K H (.ref a) d := by
  cases c with
  | lst t => exact .lst h (t.mono e)
  | dic l t => exact .dic h l (t.mono e)
theorem Cell.mut {o : HO} (c : Cell K G o d) : Mut (some o) := by cases c <;> trivial
theorem Val.data (s : Same G H) (x : Val K m G H v d fp) : Data K H v d := by
  cases m with
  | fr => exact x.2.mono s
  | sh =>
    rcases x with ⟨_, h, _⟩ | ⟨a, o, rfl, _, h, c⟩
    · exact h.mono s
    · exact c.data s h
  | fu => exact Tree.data s x fun a _ o e => e
  | bs =>
    rcases x with ⟨_, ⟨h, _⟩ | ⟨a, o, rfl, h, c⟩⟩
    · exact h.mono s
    · exact c.data s h
  | bf => exact x.2
theorem Got.data (x : Got K G H G' H' m v d fp) : Data K H' v d := x.val.data x.gr.sub
/-- its cells can be changed -/
theorem Val.mut (x : Val K m G H v d fp) : ∀ a ∈ fp, Mut (H a) := by
  intro a h
  cases m with
  | fr => rw [x.1] at h; cases h
  | sh =>
    rcases x with ⟨e, _⟩ | ⟨b, o, _, e, q, c⟩
    · rw [e] at h; cases h
    · rw [e] at h
      have z : a = b := by simpa using h
      subst z
      rw [q]; exact c.mut
  | fu =>
    obtain ⟨vs, q⟩ := Tree.there x a h
    rw [q]; trivial
  | bs => rw [x.1] at h; cases h
  | bf => rw [x.1] at h; cases h
/-- carried on as the heap grows -/
theorem Val.grow (y : Grow G' H' G2 H2) (x : Val K m G' H' v d fp) : Val K m G2 H2 v d fp := by
  cases m with
  | fr => exact ⟨x.1, x.2.mono y.sG⟩
  | sh =>
    rcases x with ⟨e, h, f⟩ | ⟨a, o, e, e2, h, c⟩
    · exact .inl ⟨e, h.mono y.sG, f⟩
    · exact .inr ⟨a, o, e, e2, y.sH _ _ h, c.mono y.sG⟩
  | fu => exact Tree.mono y.sG x fun a _ o e => y.sH a o e
  | bs =>
    rcases x with ⟨e, ⟨h, f⟩ | ⟨a, o, e2, h, c⟩⟩
    · exact ⟨e, .inl ⟨h.mono y.sG, f⟩⟩
    · exact ⟨e, .inr ⟨a, o, e2, y.sH _ _ h, c.mono y.sG⟩⟩
  | bf => exact ⟨x.1, x.2.mono y.sH⟩
theorem Got.grow (x : Got K G H G' H' m v d fp) (y : Grow G' H' G2 H2) : Got K G H G2 H2 m v d fp :=
  ⟨x.gr.trans y, x.val.grow y, x.nd, x.fresh, fun a h => y.new a (x.out a h) (x.val.mut a h)⟩
theorem frzH_same {fp : List Addr} (o : ∀ a ∈ fp, G' a = none) : Same G' (frzH G' H' fp) := fun a u e => by
  have h : a ∉ fp := fun z => by rw [o a z] at e; cases e
  rw [frzH_out h]; exact e
/-- it becomes shared -/
theorem Got.share (x : Got K G H G' H' m v d fp) (h : (m.bor && !d.flat) = false) : ∃ G2, Got K G H G2 H' .fr v d [] ∧ Same G' G2 := by
  have s := x.gr.sub
  have fin : ∀ G2, Grow G' H' G2 H' → Data K G2 v d → ∃ G2, Got K G H G2 H' .fr v d [] ∧ Same G' G2 := fun G2 g q =>
    ⟨G2, ⟨x.gr.trans g, ⟨rfl, q⟩, List.nodup_nil, (fun _ z => by cases z), (fun _ z => by cases z)⟩, g.sG⟩
  have flat : d.flat = true → Data K H' v d → ∃ G2, Got K G H G2 H' .fr v d [] ∧ Same G' G2 := fun f q =>
    fin _ ((Grow.refl s).withT) (Data.flat s q f)
  cases m with
  | fr => exact fin _ (Grow.refl s) x.val.2
  | sh =>
    rcases id x.val with ⟨_, q, f⟩ | ⟨a, o, rfl, rfl, q, c⟩
    · exact fin _ (Grow.refl s) q
    · refine ⟨frzH G' H' [a], ⟨x.gr.frz x.fresh x.out, ⟨rfl, ?_⟩, List.nodup_nil, (fun _ z => by cases z), (fun _ z => by cases z)⟩, frzH_same x.out⟩
      exact Cell.data (frzH_same x.out) (by rw [frzH_in (by simp)]; exact q) c
  | fu =>
    refine ⟨frzH G' H' fp, ⟨x.gr.frz x.fresh x.out, ⟨rfl, ?_⟩, List.nodup_nil, (fun _ z => by cases z), (fun _ z => by cases z)⟩, frzH_same x.out⟩
    exact Tree.data (frzH_same x.out) x.val fun a q o e => by rw [frzH_in q]; exact e
  | bs =>
    have f : d.flat = true := by simpa [Mk.bor] using h
    exact flat f x.data
  | bf =>
    have f : d.flat = true := by simpa [Mk.bor] using h
    exact flat f x.data
end
end DP

namespace DP
open PySem PySem.Spec PyProof.Rows L2

/-! ### outcomes -/
def Rs.Post {α : Type} (r : Rs α) (e : Nat → D → Prop) (q : α → Prop) : Prop :=
  match r with
  | .no => False
  | .ok a => q a
  | .ex c x => e c x
theorem Rs.Post.bind {α β : Type} {r : Rs α} {k : α → Rs β} {e : Nat → D → Prop} {q : β → Prop} (h : (r.bind k).Post e q) : r.Post e fun a => (k a).Post e q := by
  cases r <;> exact h
theorem Rs.Post.mono {α : Type} {r : Rs α} {e e' : Nat → D → Prop} {q q' : α → Prop} (h : r.Post e q) (he : ∀ c x, e c x → e' c x) (hq : ∀ a, q a → q' a) : r.Post e' q' := by
  cases r with
  | no => exact h
  | ok a => exact hq a h
  | ex c x => exact he c x h

/-! ### the checker -/
structure Ck where
  N : List Str
  sc : Scope
  fn : List Str
  gls : List Str
  fl : Str → Bool   -- names that have cells of this frame
  gcd : Bool        -- math.gcd is imported
def Ck.blk (C : Ck) (scope : Scope) : Ck := { C with sc := relS scope C.sc, fl := fun x => scope.names.lookup x == some .cell }
def visC (sc : Scope) (x : Str) : Bool := match sc.names.lookup x with
  | some .local => true
  | some .cell => true
  | some .free => true
  | _ => false
def locC (sc : Scope) (x : Str) : Bool := match sc.names.lookup x with
  | some .local => true
  | some .cell => true
  | _ => false
def glC (sc : Scope) (x : Str) : Bool := match sc.names.lookup x with
  | some .globalImplicit => true
  | _ => false
def okName (x : Str) : Bool := !(x == ("__debug__" : Str)) && !(x == ("__classdict__" : Str)) && !(x == ("__name__" : Str))
def nmC (C : Ck) (i : Nat) (x : Str) : Bool := decide (C.N[i]? = some x) && visC C.sc x && okName x
def cstC : D → Const → Bool
  | .non, .none => true
  | .bl b, .bool c => b == c
  | .int i, .int j => i == j
  | .str s, .str t => decide (t = sv s)
  | _, _ => false
def opC : Op → Operator → Bool
  | .add, .Add => true
  | .sub, .Sub => true
  | .mul, .Mult => true
  | .mod, .Mod => true
  | .fdiv, .FloorDiv => true
  | .pow, .Pow => true
  | _, _ => false
def cmC : Cm → CmpOp → Bool
  | .eq, .Eq => true
  | .ne, .NotEq => true
  | .lt, .Lt => true
  | .le, .LtE => true
  | .gt, .Gt => true
  | .ge, .GtE => true
  | .inn, .In => true
  | .nin, .NotIn => true
  | .iz, .Is => true
  | .niz, .IsNot => true
  | _, _ => false
def noSet : Expr → Bool
  | .Set _ _ _ => false
  | _ => true
def noneC : Expr → Bool
  | .Constant .none _ _ => true
  | _ => false
def noSlc : Expr → Bool
  | .Slice _ _ _ _ => false
  | _ => true
def noStar : Expr → Bool
  | .Starred _ _ => false
  | _ => true
def tyName : Ty → Option String
  | .int => some "int"
  | .bool => some "bool"
  | .str => some "str"
  | .list => some "list"
  | .tuple => some "tuple"
  | .dict => some "dict"
  | .cls _ => none
def glN (C : Ck) (s : String) : Expr → Bool
  | .Name x _ => decide (x = Str.ofString s) && glC C.sc x
  | _ => false
def tyC (C : Ck) (t : Ty) (e : Expr) : Bool := match tyName t with
  | some s => glN C s e
  | none => false
def tysC (C : Ck) : List Ty → List Expr → Bool
  | [], [] => true
  | t :: ts, e :: es => tyC C t e && tysC C ts es
  | _, _ => false
def ownP (C : Ck) (own : List Nat) : List (Str × Nat) := own.map fun i => ((C.N[i]?).getD (Str.ofString ""), i)
def tgC (C : Ck) (i : Nat) : Expr → Bool
  | .Name x _ => decide (C.N[i]? = some x) && locC C.sc x && okName x && (C.fl x || decide (C.sc.names.lookup x = some .local))
  | _ => false
def tgsC (C : Ck) : List Nat → List Expr → Bool
  | [], [] => true
  | i :: is, e :: es => tgC C i e && tgsC C is es
  | _, _ => false
def patC (C : Ck) : Pat → Expr → Bool
  | .nm i, e => tgC C i e
  | .tp is, .Tuple es _ _ => tgsC C is es
  | _, _ => false
def Pat.slots : Pat → List Nat
  | .nm i => [i]
  | .tp is => is
def isTp : Pat → Bool
  | .tp _ => true
  | _ => false
def biName : Bi → String
  | .len => "len"
  | .int1 => "int"
  | .list1 => "list"
  | .tuple1 => "tuple"
  | .sorted1 => "sorted"
  | .all1 => "all"
  | .any1 => "any"
  | .sum1 => "sum"
  | .min2 => "min"
  | .max2 => "max"
  | .abs1 => "abs"
  | .gcd2 => "gcd"
def mtName : Mt → String
  | .join => "join"
  | .index => "index"
def noCall : Expr → Bool
  | .Call _ _ _ _ => false
  | _ => true
def isNonC : Ex → Bool
  | .cst .non => true
  | _ => false
def negOne : Expr → Bool
  | .UnaryOp .USub (.Constant (.int 1) _ _) _ => true
  | _ => false

mutual
def chE (C : Ck) : Ex → Expr → Bool
  | .var i, e => match e with
    | .Name x _ => nmC C i x
    | _ => false
  | .cst d, e => match e with
    | .Constant c _ _ => cstC d c
    | _ => false
  | .gl k, e => match e with
    | .Name x _ => decide (C.gls[k]? = some x) && glC C.sc x && okName x
    | _ => false
  | .bin op a b, e => match e with
    | .BinOp l o r _ => opC op o && chE C a l && chE C b r
    | _ => false
  | .neg a, e => match e with
    | .UnaryOp .USub x _ => chE C a x
    | _ => false
  | .cmp op a b, e => match e with
    | .Compare l [o] [r] _ => cmC op o && noSet r && chE C a l && chE C b r
    | _ => false
  | .chain o1 o2 a b c, e => match e with
    | .Compare l [p1, p2] [m, r] _ => cmC o1 p1 && cmC o2 p2 && noSet r && chE C a l && chE C b m && chE C c r
    | _ => false
  | .isN a, e => match e with
    | .Compare l [.Is] [r] _ => noneC r && chE C a l
    | _ => false
  | .notN a, e => match e with
    | .Compare l [.IsNot] [r] _ => noneC r && chE C a l
    | _ => false
  | .and_ es, e => match e with
    | .BoolOp .And vs _ => chL C es vs
    | _ => false
  | .or_ es, e => match e with
    | .BoolOp .Or vs _ => chL C es vs
    | _ => false
  | .not_ a, e => match e with
    | .UnaryOp .Not x _ => chE C a x
    | _ => false
  | .ite c a b, e => match e with
    | .IfExp t x y _ => chT C c t && chE C a x && chE C b y
    | _ => false
  | .lst _ es, e => match e with
    | .List vs _ => chL C es vs
    | _ => false
  | .tup es, e => match e with
    | .Tuple vs _ _ => chL C es vs
    | _ => false
  | .idx a b, e => match e with
    | .Subscript x y _ => noSlc y && chE C a x && chE C b y
    | _ => false
  | .slc a lo hi, e => match e with
    | .Subscript x (.Slice l h none _) _ => chE C a x && (match l with | none => isNonC lo | some l => !isNonC lo && chE C lo l) &&
        (match h with | none => isNonC hi | some h => !isNonC hi && chE C hi h)
    | _ => false
  | .rev a, e => match e with
    | .Subscript x (.Slice none none (some s) _) _ => chE C a x && negOne s
    | _ => false
  | .call f es, e => match e with
    | .Call (.Name x _) vs [] _ => decide (C.fn[f]? = some x) && glC C.sc x && okName x && chL C es vs
    | _ => false
  | .bi b es, e => match e with
    | .Call f (v :: vs) [] _ => glN C (biName b) f && chL C es (v :: vs) && (C.gcd || !(biName b == "gcd"))
    | _ => false
  | .mt1 b o a, e => match e with
    | .Call (.Attribute r m ap) [v] [] cp => decide (m = Str.ofString (mtName b)) && (ap.endLine == cp.line) && noCall r && noStar v && chE C o r && chE C a v
    | _ => false
  | .isi a ts, e => match e with
    | .Call f [x, t] [] _ => glN C "isinstance" f && noStar x && decide (ts.length ≤ 1000) && chE C a x && (match ts, t with
      | _, .Tuple es _ _ => tysC C ts es
      | [ty], t => tyC C ty t
      | _, _ => false)
    | _ => false
  | .comp _ el p it own ifs, e => match e with
    | .ListComp elt [⟨tg, iter, fs, 0⟩] scope _ =>
      blkC C.N C.sc scope (ownP C own) && p.slots.all (fun i => own.contains i) && chI C (isTp p) it iter &&
        patC (C.blk scope) p tg && chE (C.blk scope) el elt && chTs (C.blk scope) ifs fs
    | _ => false
  | .dcomp kx vx p it own ifs, e => match e with
    | .DictComp k v [⟨tg, iter, fs, 0⟩] scope _ =>
      blkC C.N C.sc scope (ownP C own) && p.slots.all (fun i => own.contains i) && chI C (isTp p) it iter &&
        patC (C.blk scope) p tg && chE (C.blk scope) kx k && chE (C.blk scope) vx v && chTs (C.blk scope) ifs fs
    | _ => false
  | .dic0, e => match e with
    | .Dict [] [] _ => true
    | _ => false
def chL (C : Ck) : List Ex → List Expr → Bool
  | [], vs => match vs with
    | [] => true
    | _ => false
  | e :: es, vs => match vs with
    | v :: vs => noStar v && chE C e v && chL C es vs
    | [] => false
def chT (C : Ck) : Tx → Expr → Bool
  | .val e, x => (match x with
    | .UnaryOp .Not _ _ => false
    | .BoolOp _ _ _ => false
    | .IfExp _ _ _ _ => false
    | .Compare _ _ _ _ => false
    | _ => true) && chE C e x
  | .cmp op a b, e => match e with
    | .Compare l [o] [r] _ => cmC op o && noSet r && chE C a l && chE C b r
    | _ => false
  | .chain o1 o2 a b c, e => match e with
    | .Compare l [p1, p2] [m, r] _ => cmC o1 p1 && cmC o2 p2 && noSet r && chE C a l && chE C b m && chE C c r
    | _ => false
  | .isN a, e => match e with
    | .Compare l [.Is] [r] _ => noneC r && chE C a l
    | _ => false
  | .notN a, e => match e with
    | .Compare l [.IsNot] [r] _ => noneC r && chE C a l
    | _ => false
  | .and_ ts, e => match e with
    | .BoolOp .And vs _ => chTs C ts vs
    | _ => false
  | .or_ ts, e => match e with
    | .BoolOp .Or vs _ => chTs C ts vs
    | _ => false
  | .not_ t, e => match e with
    | .UnaryOp .Not x _ => chT C t x
    | _ => false
def chTs (C : Ck) : List Tx → List Expr → Bool
  | [], vs => match vs with
    | [] => true
    | _ => false
  | e :: es, vs => match vs with
    | v :: vs => chT C e v && chTs C es vs
    | [] => false
/-- tp: the target is a tuple -/
def chI (C : Ck) (tp : Bool) : Ix → Expr → Bool
  | .val e, x => noSet x && chE C e x
  | .rng1 a, e => match e with
    | .Call f [x] [] _ => glN C "range" f && noStar x && chE C a x
    | _ => false
  | .rng2 a b, e => match e with
    | .Call f [x, y] [] _ => glN C "range" f && noStar x && noStar y && chE C a x && chE C b y
    | _ => false
  | .enum a, e => match e with
    | .Call f [x] [] _ => tp && glN C "enumerate" f && noStar x && chE C a x
    | _ => false
  | .zip a b, e => match e with
    | .Call f [x, y] [] _ => tp && glN C "zip" f && noStar x && noStar y && chE C a x && chE C b y
    | _ => false
  | .revd a, e => match e with
    | .Call f [x] [] _ => glN C "reversed" f && noStar x && chE C a x
    | _ => false
end

/-! ### what slots hold -/
structure Holds (K : PySem.W.Frag) (Gc Hc G H : Hp) (E : Ev) (σ : List (Option V)) (fps : Nat → List Addr) : Prop where
  gr : Grow Gc Hc G H
  slot : ∀ i m d, E[i]? = some (some (m, d)) → (m = .fr ∨ m = .sh ∨ m = .fu) ∧ ∃ v, σ[i]? = some (some v) ∧ Val K m G H v d (fps i)
  len : σ.length = E.length
  nd : ∀ i, (fps i).Nodup
  dj : ∀ i j a, a ∈ fps i → a ∈ fps j → i = j
  fresh : ∀ i, ∀ a ∈ fps i, Hc a = none
  out : ∀ i, ∀ a ∈ fps i, G a = none
  mu : ∀ i, ∀ a ∈ fps i, Mut (H a)
section
variable {K : PySem.W.Frag} {Gc Hc G H G' H' : Hp} {E : Ev} {σ : List (Option V)} {fps : Nat → List Addr}
theorem mut_same {a : Addr} (s : Same H H') (m : Mut (H a)) : Mut (H' a) := by
  obtain ⟨o, e⟩ := mut_some m
  rw [s a o e]; rw [e] at m; exact m
theorem Holds.grow (h : Holds K Gc Hc G H E σ fps) (g : Grow G H G' H') : Holds K Gc Hc G' H' E σ fps :=
  ⟨h.gr.trans g, fun i m d e => by
    obtain ⟨hm, v, hv, q⟩ := h.slot i m d e
    exact ⟨hm, v, hv, q.grow g⟩, h.len, h.nd, h.dj, h.fresh, fun i a ha => g.new a (h.out i a ha) (h.mu i a ha), fun i a ha => mut_same g.sH (h.mu i a ha)⟩
/-- a slot is read -/
theorem Holds.read (h : Holds K Gc Hc G H E σ fps) {i : Nat} {m : Mk} {d : D} (e : E[i]? = some (some (m, d))) : ∃ v, σ[i]? = some (some v) ∧ Got K G H G H (rdV m) v d [] := by
  obtain ⟨hm, v, hv, q⟩ := h.slot i m d e
  refine ⟨v, hv, Grow.refl h.gr.sub, ?_, List.nodup_nil, (fun _ z => by cases z), (fun _ z => by cases z)⟩
  rcases hm with rfl | rfl | rfl
  · exact ⟨rfl, q.2⟩
  · refine ⟨rfl, ?_⟩
    rcases q with ⟨_, q, f⟩ | ⟨a, o, e, _, hh, c⟩
    · exact .inl ⟨q, f⟩
    · exact .inr ⟨a, o, e, hh, c⟩
  · exact ⟨rfl, Val.data h.gr.sub q⟩
end

/-! ### the strongest readings -/
def tw (X : Cx) (e : Expr) : TE := fun σ H Q => ∀ (pins : List (Addr × Obj)) (s : Shared), Inv X pins σ H s → wpAny (model X.prog X.w) X.A (eval e X.env) (EP X pins σ Q) X.xe s
theorem pe_tw {X : Cx} {e : Expr} : PE X e (tw X e) := ⟨fun pins s _ _ _ I h => h pins s I⟩
theorem tw_of {X : Cx} {e : Expr} {t : TE} (h : PE X e t) {σ : List (Option V)} {H : Hp} {Q : VK} (q : t σ H Q) : tw X e σ H Q := fun pins s I => h.run pins s σ H Q I q
def twT (X : Cx) (e : Expr) : TT := fun σ H Q => ∀ (pins : List (Addr × Obj)) (s : Shared), Inv X pins σ H s → wpAny (model X.prog X.w) X.A (isTrue e X.env (eval e X.env)) (TP X pins σ Q) X.xe s
theorem pt_tw {X : Cx} {e : Expr} : PT X e (twT X e) := ⟨fun pins s _ _ _ I h => h pins s I⟩
theorem twT_of {X : Cx} {e : Expr} {t : TT} (h : PT X e t) {σ : List (Option V)} {H : Hp} {Q : Bool → Hp → Prop} (q : t σ H Q) : twT X e σ H Q := fun pins s I => h.run pins s σ H Q I q
def twA (X : Cx) (es : List Expr) : TA := fun σ H Q => ∀ (pos : Pos) (pins : List (Addr × Obj)) (s : Shared), Inv X pins σ H s → wpAny (model X.prog X.w) X.A (spliced (backTo pos (starEach es X.env))) (AP X pins σ Q) X.xe s
theorem pa_tw {X : Cx} {es : List Expr} : PA X es (twA X es) := ⟨fun pos pins s _ _ _ I h => h pos pins s I⟩
theorem twA_of {X : Cx} {es : List Expr} {t : TA} (h : PA X es t) {σ : List (Option V)} {H : Hp} {Q : List V → Hp → Prop} (q : t σ H Q) : twA X es σ H Q := fun pos pins s I => h.run pos pins s σ H Q I q
def twI (X : Cx) (tg it : Expr) : TI := fun σ H R => ∀ (pins : List (Addr × Obj)) (s : Shared), Inv X pins σ H s →
  wpAny (model X.prog X.w) X.A (eval it X.env) (fun v s1 => wpAny (model X.prog X.w) X.A (pyIter v) (PIE X pins σ tg R) X.xe s1) X.xe s
theorem pi_tw {X : Cx} {tg it : Expr} : PI X tg it (twI X tg it) := ⟨fun pins s _ _ _ I h => h pins s I⟩
theorem twI_of {X : Cx} {tg it : Expr} {t : TI} (h : PI X tg it t) {σ : List (Option V)} {H : Hp} {R : It → Hp → Prop} (q : t σ H R) : twI X tg it σ H R := fun pins s I => h.run pins s σ H R I q
/-- an operation by values -/
def rw2 (X : Cx) (f : Value → Value → Sem Value) : R2 := fun x y H Q => ∀ (pins : List (Addr × Obj)) (s : Shared) (σ : List (Option V)) (v u : Value), Inv X pins σ H s → RelV x v → RelV y u → wpAny (model X.prog X.w) X.A (f v u) (EP X pins σ Q) X.xe s
theorem op_rw {X : Cx} {f : Value → Value → Sem Value} : OpR X f (rw2 X f) := fun pins s σ _ _ _ v u _ I r1 r2 h => h pins s σ v u I r1 r2
theorem rw2_of {X : Cx} {f : Value → Value → Sem Value} {r : R2} (h : OpR X f r) {x y : V} {H : Hp} {Q : VK} (q : r x y H Q) : rw2 X f x y H Q := fun pins s σ v u I r1 r2 => h pins s σ H x y v u Q I r1 r2 q
def rwC (X : Cx) (f : Value) : List V → Hp → VK → Prop := fun xs H Q => ∀ (pins : List (Addr × Obj)) (s : Shared) (σ : List (Option V)) (us : List Value), Inv X pins σ H s → Vals xs us → wpAny (model X.prog X.w) X.A (call f us) (EP X pins σ Q) X.xe s
theorem call_rw {X : Cx} {f : Value} : CallR X f (rwC X f) := fun pins s σ _ _ us _ I r h => h pins s σ us I r
theorem rwC_of {X : Cx} {f : Value} {r : List V → Hp → VK → Prop} (h : CallR X f r) {xs : List V} {H : Hp} {Q : VK} (q : r xs H Q) : rwC X f xs H Q := fun pins s σ us I rv => h pins s σ H xs us Q I rv q
def rwT (X : Cx) : V → Hp → (Bool → Hp → Prop) → Prop := fun x H Q => ∃ k, TruV X.K x H k ∧ Q k H

end DP

namespace DP
open PySem PySem.Spec PyProof.Rows L2

section
variable {K : PySem.W.Frag} {G G' G2 H H' H2 : Hp} {m : Mk} {v : V} {d : D} {fp F : List Addr}
/-- all at F and all tuples shared -/
def shr (G H : Hp) (F : List Addr) : Hp := withT (frzH G H F) H
theorem frz_sub (s : Same G H) : Same (frzH G H F) H := fun a u e => by
  by_cases h : a ∈ F
  · rw [frzH_in h] at e; exact e
  · rw [frzH_out h] at e; exact s a u e
theorem shr_same (o : ∀ a ∈ F, G a = none) : Same G (shr G H F) := (frzH_same o).trans withT_same
theorem shr_sub (s : Same G H) : Same (shr G H F) H := withT_sub (frz_sub s)
theorem Grow.shr (x : Grow G H G' H') (f : ∀ a ∈ F, H a = none) (o : ∀ a ∈ F, G' a = none) : Grow G H (shr G' H' F) H' := (x.frz f o).withT
theorem Val.toShr (x : Val K m G H v d fp) (s : Same G H) (hF : ∀ a ∈ fp, a ∈ F) (o : ∀ a ∈ F, G a = none) (h : (m.bor && !d.flat) = false) : Data K (shr G H F) v d := by
  have up : Same G (DP.shr G H F) := shr_same o
  have fl : d.flat = true → Data K (DP.shr G H F) v d := fun f => Data.flat (frz_sub s) (x.data s) f
  have inF : ∀ a, a ∈ F → ∀ u, H a = some u → DP.shr G H F a = some u := fun a ha u e => withT_same a u (by rw [frzH_in ha]; exact e)
  cases m with
  | fr => exact x.2.mono up
  | sh =>
    rcases x with ⟨_, q, f⟩ | ⟨a, u, rfl, rfl, q, c⟩
    · exact q.mono up
    · exact Cell.data up (inF a (hF a (by simp)) u q) c
  | fu => exact Tree.data up x fun a ha u e => inF a (hF a ha) u e
  | bs => exact fl (by simpa [Mk.bor] using h)
  | bf => exact fl (by simpa [Mk.bor] using h)
/-- the value of a flat one -/
theorem Val.toFlat (x : Val K m G H v d fp) (s : Same G H) (f : d.flat = true) : Data K (withT G H) v d := Data.flat s (x.data s) f
theorem Val.fpFlat (x : Val K m G H v d fp) (f : d.flat = true) : fp = [] := by
  cases m with
  | fr => exact x.1
  | sh =>
    rcases x with ⟨e, _⟩ | ⟨a, u, _, _, _, c⟩
    · exact e
    · cases c <;> simp [D.flat] at f
  | fu =>
    have x' : Tree K G H v d fp := x
    cases x' with
    | flat _ _ => rfl
    | lst _ _ => simp [D.flat] at f
  | bs => exact x.1
  | bf => exact x.1
/-- it is flat, or its own -/
theorem Val.tree (x : Val K m G H v d fp) (s : Same G H) (h : (m == .fu || d.flat) = true) : Tree K (withT G H) H v d fp := by
  by_cases f : d.flat = true
  · rw [x.fpFlat f]; exact .flat (x.toFlat s f) f
  · have e : m = .fu := by
      have f' : d.flat = false := by simpa using f
      rw [f', Bool.or_false] at h
      exact eq_of_beq h
    subst e
    exact Tree.mono withT_same x fun _ _ _ e => e
/-- several values -/
inductive Vls (K : PySem.W.Frag) (G H : Hp) : List Vl → List V → List Addr → Prop
  | nil : Vls K G H [] [] []
  | cons {m : Mk} {d : D} {v : V} {fp fq : List Addr} {ms : List Vl} {vs : List V} : Val K m G H v d fp → Vls K G H ms vs fq → Vls K G H ((m, d) :: ms) (v :: vs) (fp ++ fq)
theorem Vls.grow {ms : List Vl} {vs : List V} (y : Grow G H G2 H2) : ∀ {ms : List Vl} {vs : List V} {fp : List Addr}, Vls K G H ms vs fp → Vls K G2 H2 ms vs fp
  | _, _, _, .nil => .nil
  | _, _, _, .cons x t => .cons (x.grow y) (Vls.grow (ms := ms) (vs := vs) y t)
theorem Vls.data (s : Same G H) : ∀ {ms : List Vl} {vs : List V} {fp : List Addr}, Vls K G H ms vs fp → Datas K H vs (ms.map (·.2))
  | _, _, _, .nil => .nil
  | _, _, _, .cons x t => .cons (x.data s) (Vls.data s t)
theorem isBor_cons {x : Vl} {r : List Vl} (h : isBor (x :: r) = false) : (x.1.bor && !x.2.flat) = false ∧ isBor r = false := by
  unfold isBor at h ⊢
  rw [List.any_cons, Bool.or_eq_false_iff] at h
  exact h
theorem Vls.share (s : Same G H) (o : ∀ a ∈ F, G a = none) : ∀ {ms : List Vl} {vs : List V} {fp : List Addr}, Vls K G H ms vs fp → (∀ a ∈ fp, a ∈ F) → isBor ms = false → Datas K (shr G H F) vs (ms.map (·.2))
  | _, _, _, .nil, _, _ => .nil
  | _, _, _, .cons x t, hF, b => .cons (x.toShr s (fun a h => hF a (List.mem_append_left _ h)) o (isBor_cons b).1) (Vls.share s o t (fun a h => hF a (List.mem_append_right _ h)) (isBor_cons b).2)
theorem Vls.trees (s : Same G H) : ∀ {ms : List Vl} {vs : List V} {fp : List Addr}, Vls K G H ms vs fp → (ms.all fun v => v.1 == .fu || v.2.flat) = true → Trees K (withT G H) H vs (ms.map (·.2)) fp
  | _, _, _, .nil, _ => .nil
  | _, _, _, .cons x t, h => by
    rw [List.all_cons, Bool.and_eq_true] at h
    exact .cons (x.tree s h.1) (Vls.trees s t h.2)
theorem Vls.mut : ∀ {ms : List Vl} {vs : List V} {fp : List Addr}, Vls K G H ms vs fp → ∀ a ∈ fp, Mut (H a)
  | _, _, _, .nil, a, h => by cases h
  | _, _, _, .cons x t, a, h => by
    rcases List.mem_append.mp h with h | h
    · exact x.mut a h
    · exact Vls.mut t a h
theorem Vls.length : ∀ {ms : List Vl} {vs : List V} {fp : List Addr}, Vls K G H ms vs fp → vs.length = ms.length
  | _, _, _, .nil => rfl
  | _, _, _, .cons x t => by rw [List.length_cons, List.length_cons, Vls.length t]
theorem Vls.append : ∀ {ms ns : List Vl} {vs us : List V} {fp fq : List Addr}, Vls K G H ms vs fp → Vls K G H ns us fq → Vls K G H (ms ++ ns) (vs ++ us) (fp ++ fq)
  | _, _, _, _, _, _, .nil, q => q
  | _, _, _, _, _, _, .cons x t, q => by
    rw [List.append_assoc]
    exact .cons x (Vls.append t q)
structure Gots (K : PySem.W.Frag) (G H G' H' : Hp) (ms : List Vl) (vs : List V) (fp : List Addr) : Prop where
  gr : Grow G H G' H'
  val : Vls K G' H' ms vs fp
  nd : fp.Nodup
  fresh : ∀ a ∈ fp, H a = none
  out : ∀ a ∈ fp, G' a = none
theorem Gots.nil (s : Same G H) : Gots K G H G H [] [] [] := ⟨Grow.refl s, .nil, List.nodup_nil, (fun _ z => by cases z), (fun _ z => by cases z)⟩
theorem Gots.cons {ms : List Vl} {vs : List V} {fq : List Addr} (x : Got K G H G' H' m v d fp) (y : Gots K G' H' G2 H2 ms vs fq) : Gots K G H G2 H2 ((m, d) :: ms) (v :: vs) (fp ++ fq) := by
  have xg := x.grow y.gr
  refine ⟨x.gr.trans y.gr, .cons xg.val y.val, List.nodup_append.mpr ⟨x.nd, y.nd, fun a ha b hb e => ?_⟩, fun a h => ?_, fun a h => ?_⟩
  · subst e
    have m1 := x.val.mut a ha
    rw [y.fresh a hb] at m1
    exact m1
  · rcases List.mem_append.mp h with h | h
    · exact x.fresh a h
    · exact x.gr.sH.free (y.fresh a h)
  · rcases List.mem_append.mp h with h | h
    · exact xg.out a h
    · exact y.out a h
theorem Gots.grow {ms : List Vl} {vs : List V} (x : Gots K G H G' H' ms vs fp) (y : Grow G' H' G2 H2) : Gots K G H G2 H2 ms vs fp :=
  ⟨x.gr.trans y, x.val.grow (ms := ms) (vs := vs) y, x.nd, x.fresh, fun a h => y.new a (x.out a h) (x.val.mut a h)⟩
theorem Gots.share {ms : List Vl} {vs : List V} (x : Gots K G H G' H' ms vs fp) (b : isBor ms = false) : ∃ G2, Grow G H G2 H' ∧ Datas K G2 vs (ms.map (·.2)) :=
  ⟨_, x.gr.shr x.fresh x.out, x.val.share x.gr.sub x.out (fun _ h => h) b⟩
theorem Gots.data {ms : List Vl} {vs : List V} (x : Gots K G H G' H' ms vs fp) : Datas K H' vs (ms.map (·.2)) := x.val.data x.gr.sub
/-- a new list at p of these -/
theorem Gots.list {ms : List Vl} {vs : List V} (x : Gots K G H G' H' ms vs fp) {p : Addr} (hp : H' p = none) (b : isBor ms = false) : ∃ G2, Got K G H G2 (upd H' p (.lst vs)) .sh (.ref p) (.lst (ms.map (·.2))) [p] := by
  obtain ⟨G2, g, q⟩ := x.share b
  refine ⟨G2, g.trans (Grow.mine g.sub hp), .inr ⟨p, _, rfl, rfl, upd_same, .lst q⟩, by simp, fun a h => ?_, fun a h => ?_⟩
  · have e : a = p := by simpa using h
    subst e; exact g.sH.free hp
  · have e : a = p := by simpa using h
    subst e; exact g.sub.free hp
theorem Gots.listB {ms : List Vl} {vs : List V} (x : Gots K G H G' H' ms vs fp) {p : Addr} (hp : H' p = none) : Got K G H G' (upd H' p (.lst vs)) .bf (.ref p) (.lst (ms.map (·.2))) [] := by
  have g2 := Grow.mine (o := .lst vs) x.gr.sub hp
  exact ⟨x.gr.trans g2, ⟨rfl, .lst upd_same (x.data.mono g2.sH)⟩, List.nodup_nil, (fun _ z => by cases z), (fun _ z => by cases z)⟩
theorem Gots.listF {ms : List Vl} {vs : List V} (x : Gots K G H G' H' ms vs fp) {p : Addr} (hp : H' p = none) (b : (ms.all fun v => v.1 == .fu || v.2.flat) = true) :
    Got K G H (withT G' H') (upd H' p (.lst vs)) .fu (.ref p) (.lst (ms.map (·.2))) (p :: fp) := by
  have g1 := x.gr.withT
  have g2 := Grow.mine (o := .lst vs) g1.sub hp
  have hn : p ∉ fp := fun h => by
    have q := x.val.mut p h
    rw [hp] at q; exact q
  refine ⟨g1.trans g2, .lst upd_same (Trees.mono (Same.refl _) (x.val.trees x.gr.sub b) fun a h o e => ?_), List.nodup_cons.mpr ⟨hn, x.nd⟩, fun a h => ?_, fun a h => ?_⟩
  · rw [upd_ne (ne_of_none e hp)]; exact e
  · rcases List.mem_cons.mp h with rfl | h
    · exact x.gr.sH.free hp
    · exact x.fresh a h
  · rcases List.mem_cons.mp h with rfl | h
    · exact g1.sub.free hp
    · exact mut_ntup (x.val.mut a h) (x.out a h)
theorem Gots.tup {ms : List Vl} {vs : List V} (x : Gots K G H G' H' ms vs fp) {p : Addr} (hp : H' p = none) (b : isBor ms = false) : ∃ G2, Got K G H G2 (upd H' p (.tup vs)) .fr (.ref p) (.tup (ms.map (·.2))) [] := by
  obtain ⟨G2, g, q⟩ := x.share b
  have g2 := Grow.laid (o := .tup vs) g.sub hp
  exact ⟨_, g.trans g2, ⟨rfl, .tup (SqT.of upd_same) (q.mono g2.sG)⟩, List.nodup_nil, (fun _ z => by cases z), (fun _ z => by cases z)⟩
theorem Gots.tupB {ms : List Vl} {vs : List V} (x : Gots K G H G' H' ms vs fp) {p : Addr} (hp : H' p = none) : Got K G H G' (upd H' p (.tup vs)) .bf (.ref p) (.tup (ms.map (·.2))) [] := by
  have g2 := Grow.mine (o := .tup vs) x.gr.sub hp
  exact ⟨x.gr.trans g2, ⟨rfl, .tup (SqT.of upd_same) (x.data.mono g2.sH)⟩, List.nodup_nil, (fun _ z => by cases z), (fun _ z => by cases z)⟩
/-- an atom -/
theorem Got.atom (s : Same G H) (g : Grow G H G' H') (q : Data K G' v d) (f : d.flat = true) : Got K G H G' H' .fu v d [] :=
  ⟨g, .flat q f, List.nodup_nil, (fun _ z => by cases z), (fun _ z => by cases z)⟩
end

/-! ### contexts -/
abbrev XRep := Nat → D → Value → Option Addr → Hp → Prop
/-- what a def promises: what the language says of it -/
def spOf (K : PySem.W.Frag) (cal : Nat → List D → Rs Vl) (xr : XRep) (f : Nat) : Sp := fun vs H Q E => ∃ G ds, Same G H ∧ Datas K G vs ds ∧
  (cal f ds).Post (fun c x => ∀ G' H' cls d, Grow G H G' H' → xr c x cls d H' → E cls d H') (fun r => ∀ v G' H' fp, Got K G H G' H' r.1 v r.2 fp → Q v H')
def bltNames : List String := ["len", "int", "list", "tuple", "sorted", "all", "any", "sum", "min", "max", "abs", "str", "range", "enumerate", "zip", "reversed", "isinstance", "bool", "dict", "set", "type"]
structure XOk (X : Cx) (C : Ck) (cal : Nat → List D → Rs Vl) (gl : Nat → D) (xr : XRep) (xw : WX) : Prop where
  hN : X.N = C.N
  hsc : X.env.scope = C.sc
  nd : X.N.Nodup
  calm : X.calm = true
  fl : ∀ x, C.fl x = true → X.fn x = true
  un : X.A.units + 64 < cLine
  un2 : X.A.units + 65 < cLine
  fns : ∀ f x, C.fn[f]? = some x → ∃ a fd ps k, X.mg x = some (.ref a) ∧ PySem.W.keepIn X.K (.ref a) = true ∧ Binds X.K fd ps [] ∧ Room k X.A ∧ FnOk X.prog X.w X.K X.mg X.base (L2.CX X.prog X.w) k a fd ps (spOf X.K cal xr f)
  gls : ∀ k x, C.gls[k]? = some x → ∃ u v, X.mg x = some u ∧ RelV v u ∧ Data X.K (fun _ => none) v (gl k)
  gcd : C.gcd = true → X.mg "gcd" = some (.builtin "math.gcd")
  blt : ∀ s, s ∈ bltNames → X.mg (Str.ofString s) = none
  wish : ∀ σ, PassesAt (L2.CX X.prog X.w) X σ (fun cls d H => xw cls d σ H)
/-- what is wanted of an exception -/
def EXw (xr : XRep) (xw : WX) (σ : List (Option V)) (G H : Hp) (c : Nat) (x : D) : Prop := ∀ G' H' cls d, Grow G H G' H' → xr c x cls d H' → xw cls d σ H'
theorem EXw.grow {xr : XRep} {xw : WX} {σ : List (Option V)} {G H G' H' : Hp} {c : Nat} {x : D} (h : EXw xr xw σ G H c x) (g : Grow G H G' H') : EXw xr xw σ G' H' c x := fun G2 H2 cls d g2 r => h G2 H2 cls d (g.trans g2) r

/-- an expression is sound -/
def SE (X : Cx) (xr : XRep) (xw : WX) (e : Expr) (f : Ev → Rs Vl) : Prop := ∀ (E : Ev) (σ : List (Option V)) (Gc Hc G H : Hp) (fps : Nat → List Addr), Holds X.K Gc Hc G H E σ fps → ∀ Q : VK,
  (f E).Post (EXw xr xw σ G H) (fun x => ∀ v G' H' fp, Got X.K G H G' H' x.1 v x.2 fp → Q v H') → tw X e σ H Q
def ST (X : Cx) (xr : XRep) (xw : WX) (e : Expr) (f : Ev → Rs Bool) : Prop := ∀ (E : Ev) (σ : List (Option V)) (Gc Hc G H : Hp) (fps : Nat → List Addr), Holds X.K Gc Hc G H E σ fps → ∀ Q : Bool → Hp → Prop,
  (f E).Post (EXw xr xw σ G H) (fun b => ∀ G' H', Grow G H G' H' → Q b H') → twT X e σ H Q
def SL (X : Cx) (xr : XRep) (xw : WX) (es : List Expr) (f : Ev → Rs (List Vl)) : Prop := ∀ (E : Ev) (σ : List (Option V)) (Gc Hc G H : Hp) (fps : Nat → List Addr), Holds X.K Gc Hc G H E σ fps → ∀ Q : List V → Hp → Prop,
  (f E).Post (EXw xr xw σ G H) (fun ms => ∀ vs G' H' fp, Gots X.K G H G' H' ms vs fp → Q vs H') → twA X es σ H Q

section
variable {X : Cx} {C : Ck} {cal : Nat → List D → Rs Vl} {gl : Nat → D} {xr : XRep} {xw : WX}
theorem visC_ok {sc : Scope} {x : Str} (h : visC sc x = true) : Vis sc x := by
  unfold visC at h
  split at h
  · exact .inl (by assumption)
  · exact .inr (.inl (by assumption))
  · exact .inr (.inr (by assumption))
  · cases h
theorem locC_ok {sc : Scope} {x : Str} (h : locC sc x = true) : Loc sc x := by
  unfold locC at h
  split at h
  · exact .inl (by assumption)
  · exact .inr (by assumption)
  · cases h
theorem glC_ok (O : XOk X C cal gl xr xw) {x : Str} (h : glC C.sc x = true) : Gl X x := by
  unfold glC at h
  show X.env.scope.names.lookup x = _
  rw [O.hsc]
  split at h
  · assumption
  · cases h
theorem okName_ok {x : Str} (h : okName x = true) : (x == ("__debug__" : Str)) = false ∧ (x == ("__classdict__" : Str)) = false ∧ x ≠ "__name__" := by
  unfold okName at h
  simp only [Bool.and_eq_true, Bool.not_eq_true'] at h
  exact ⟨h.1.1, h.1.2, fun e => by rw [e] at h; exact absurd h.2 (by simp)⟩
theorem glN_ok (O : XOk X C cal gl xr xw) {s : String} {e : Expr} (h : glN C s e = true) : ∃ p, e = .Name (Str.ofString s) p ∧ Gl X (Str.ofString s) := by
  unfold glN at h
  split at h
  · simp only [Bool.and_eq_true, decide_eq_true_eq] at h
    obtain ⟨h1, h2⟩ := h
    subst h1
    exact ⟨_, rfl, glC_ok O h2⟩
  · cases h
theorem star_cons {e : Expr} {es : List Expr} {env : Env} (h : noStar e = true) : starEach (e :: es) env = (false, eval e env) :: starEach es env := by
  cases e <;> first | rfl | cases h
theorem stars {es : List Expr} {env : Env} (h : es.all noStar = true) : ∀ x ∈ starEach es env, x.1 = false := by
  induction es with
  | nil => intro x hx; cases hx
  | cons e es ih =>
    rw [List.all_cons, Bool.and_eq_true] at h
    rw [star_cons h.1]
    intro x hx
    rcases List.mem_cons.mp hx with rfl | hx
    · rfl
    · exact ih h.2 x hx
end
end DP

namespace DP
open PySem PySem.Spec PyProof.Rows L2

theorem sv_inj {a b : List Nat} : sv a = sv b ↔ a = b := by
  unfold sv
  constructor
  · intro h
    have h1 : a.toArray = b.toArray := by injection h
    exact List.toArray_inj h1
  · intro h; rw [h]
theorem sv_len (a : List Nat) : (sv a).length = a.length := by simp [sv, Str.length]
theorem sv_app (a b : List Nat) : sv a ++ sv b = sv (a ++ b) := by
  show (⟨a.toArray ++ b.toArray⟩ : Str) = ⟨(a ++ b).toArray⟩
  rw [List.append_toArray]
theorem SZ_eq : (sizeLine : Nat) = SZ := sizeLine_eq
theorem sv_cps (a : List Nat) : (sv a).cps.toList = a := by simp [sv]

/-! ### data as PyData -/
mutual
def toPy : D → PyData
  | .non => .none
  | .bl b => .bool b
  | .int i => .int i
  | .str s => .str (sv s)
  | .lst xs => .list (toPyL xs)
  | .tup xs => .tuple (toPyL xs)
  | .dic _ _ => .none
  | .obj _ _ => .none
  | .exc _ _ => .none
  | .rls _ => .none
def toPyL : List D → List PyData
  | [] => []
  | x :: xs => toPy x :: toPyL xs
end
theorem okc_ok {s : List Nat} (h : s.all okc = true) : PyData.strOk (sv s) = true := by
  unfold PyData.strOk sv
  rw [← Array.all_toList]
  simp only [List.all_eq_true] at h ⊢
  intro x hx
  have q := h x (by simpa using hx)
  unfold okc at q
  have q2 : x ≤ 1114111 := by simpa [Nat.blt] using q
  have q3 : x < 1114112 := by omega
  simpa using q3
mutual
theorem plain_dp {K : PySem.W.Frag} {H : Hp} : ∀ {k : Nat} {v : V} {d : D}, Data K H v d → d.plain k = true → Dp K H v (toPy d)
  | _, _, _, .non, _ => .non
  | _, _, _, .bl b, _ => .bl b
  | _, _, _, .int i, _ => .int i
  | _, _, _, .str s, _ => .str (sv s)
  | 0, _, _, .lst _ _, p => by simp [D.plain] at p
  | k + 1, _, _, .lst h t, p => .lst (SqL.of h) (plain_dpL t (by simpa [D.plain] using p))
  | _, _, _, .rls _ _, p => by simp [D.plain] at p
  | 0, _, _, .tup _ _, p => by simp [D.plain] at p
  | k + 1, _, _, .tup h t, p => .tup h (plain_dpL t (by simpa [D.plain] using p))
theorem plain_dpL {K : PySem.W.Frag} {H : Hp} : ∀ {k : Nat} {v : List V} {d : List D}, Datas K H v d → D.plainL k d = true → DpAll K H v (toPyL d)
  | _, _, _, .nil, _ => .nil
  | _, _, _, .cons h t, p => by
    simp only [D.plainL, Bool.and_eq_true] at p
    exact .cons (plain_dp h p.1) (plain_dpL t p.2)
end
mutual
theorem plain_lay : ∀ (k : Nat) (d : D), d.plain k = true → (toPy d).canLay0 = true ∧ (toPy d).depth ≤ k
  | k, .non, _ => ⟨by simp [toPy, PyData.canLay0], by simp [toPy, PyData.depth]⟩
  | k, .bl b, _ => ⟨by simp [toPy, PyData.canLay0], by simp [toPy, PyData.depth]⟩
  | k, .int i, _ => ⟨by simp [toPy, PyData.canLay0], by simp [toPy, PyData.depth]⟩
  | k, .str s, p => ⟨by simp only [toPy, PyData.canLay0]; exact okc_ok (by simpa [D.plain] using p), by simp [toPy, PyData.depth]⟩
  | 0, .lst _, p => by simp [D.plain] at p
  | k + 1, .lst xs, p => by
    have q := plain_layL k xs (by simpa [D.plain] using p)
    exact ⟨by simpa [toPy, PyData.canLay0] using q.1, by simpa [toPy, PyData.depth] using q.2⟩
  | 0, .tup _, p => by simp [D.plain] at p
  | k + 1, .tup xs, p => by
    have q := plain_layL k xs (by simpa [D.plain] using p)
    exact ⟨by simpa [toPy, PyData.canLay0] using q.1, by simpa [toPy, PyData.depth] using q.2⟩
  | _, .dic _ _, p => by simp [D.plain] at p
  | _, .obj _ _, p => by simp [D.plain] at p
  | _, .exc _ _, p => by simp [D.plain] at p
  | _, .rls _, p => by simp [D.plain] at p
theorem plain_layL : ∀ (k : Nat) (d : List D), D.plainL k d = true → PyData.canLayAll0 (toPyL d) = true ∧ PyData.depthAll (toPyL d) ≤ k
  | k, [], _ => ⟨by simp [toPyL, PyData.canLayAll0], by simp [toPyL, PyData.depthAll]⟩
  | k, x :: xs, p => by
    simp only [D.plainL, Bool.and_eq_true] at p
    have q := plain_lay k x p.1
    have r := plain_layL k xs p.2
    refine ⟨by simp [toPyL, PyData.canLayAll0, q.1, r.1], ?_⟩
    simp only [toPyL, PyData.depthAll]
    omega
end
theorem plain_shaped {d : D} (h : d.plain 60 = true) : SeqAt.shaped (toPy d) = true := by
  have q := plain_lay 60 d h
  unfold SeqAt.shaped
  rw [q.1, Bool.true_and]
  exact decide_eq_true (Nat.le_trans q.2 (by decide))
mutual
theorem plain_eqv : ∀ (k j : Nat) (a b : D), a.plain k = true → b.plain j = true → PyData.eqv (toPy a) (toPy b) = D.eqv a b
  | k, j, .non, b, _, hb => by cases b <;> first | (simp [D.plain] at hb; done) | rfl | simp [toPy, PyData.eqv, D.eqv]
  | k, j, .bl x, b, _, hb => by cases b <;> first | (simp [D.plain] at hb; done) | rfl | simp [toPy, PyData.eqv, D.eqv]
  | k, j, .int x, b, _, hb => by cases b <;> first | (simp [D.plain] at hb; done) | rfl | simp [toPy, PyData.eqv, D.eqv]
  | k, j, .str x, b, _, hb => by
    cases b with
    | str y =>
      simp only [toPy, PyData.eqv, D.eqv]
      rw [Bool.eq_iff_iff]
      simp [sv_inj]
    | _ => first | (simp [D.plain] at hb; done) | rfl | simp [toPy, PyData.eqv, D.eqv]
  | 0, j, .lst x, b, ha, hb => by simp [D.plain] at ha
  | k + 1, j, .lst x, b, ha, hb => by
    cases b with
    | lst y =>
      cases j with
      | zero => simp [D.plain] at hb
      | succ j =>
        simp only [toPy, PyData.eqv, D.eqv]
        exact plain_eqvL k j x y (by simpa [D.plain] using ha) (by simpa [D.plain] using hb)
    | _ => first | (simp [D.plain] at hb; done) | rfl | simp [toPy, PyData.eqv, D.eqv]
  | 0, j, .tup x, b, ha, hb => by simp [D.plain] at ha
  | k + 1, j, .tup x, b, ha, hb => by
    cases b with
    | tup y =>
      cases j with
      | zero => simp [D.plain] at hb
      | succ j =>
        simp only [toPy, PyData.eqv, D.eqv]
        exact plain_eqvL k j x y (by simpa [D.plain] using ha) (by simpa [D.plain] using hb)
    | _ => first | (simp [D.plain] at hb; done) | rfl | simp [toPy, PyData.eqv, D.eqv]
  | _, _, .dic _ _, _, p, _ => by simp [D.plain] at p
  | _, _, .obj _ _, _, p, _ => by simp [D.plain] at p
  | _, _, .exc _ _, _, p, _ => by simp [D.plain] at p
  | _, _, .rls _, _, p, _ => by simp [D.plain] at p
theorem plain_eqvL : ∀ (k j : Nat) (a b : List D), D.plainL k a = true → D.plainL j b = true → PyData.eqvAll (toPyL a) (toPyL b) = D.eqvL a b
  | k, j, [], b, _, _ => by cases b <;> simp [toPyL, PyData.eqvAll, D.eqvL]
  | k, j, x :: xs, [], _, _ => by simp [toPyL, PyData.eqvAll, D.eqvL]
  | k, j, x :: xs, y :: ys, ha, hb => by
    simp only [D.plainL, Bool.and_eq_true] at ha hb
    simp only [toPyL, PyData.eqvAll, D.eqvL]
    rw [plain_eqv k j x y ha.1 hb.1, plain_eqvL k j xs ys ha.2 hb.2]
end

/-! ### atoms -/
section
variable {K : PySem.W.Frag} {H : Hp}
theorem atom_flat {v : V} {d : D} (h : Data K H v d) (a : d.atom = true) : flatV v = true := by
  cases h <;> first | rfl | cases a
theorem atom_eq {v w : V} {d e : D} (h : Data K H v d) (g : Data K H w e) (a : d.atom = true) (b : e.atom = true) : eqV v w = D.eqv d e := by
  cases h <;> cases g <;> first
    | rfl
    | (simp only [D.atom, Bool.false_eq_true] at a; done)
    | (simp only [D.atom, Bool.false_eq_true] at b; done)
    | (simp only [eqV, D.eqv]; rw [Bool.eq_iff_iff]; simp [sv_inj])
theorem atoms_flat : ∀ {vs : List V} {ds : List D}, Datas K H vs ds → ds.all D.atom = true → vs.all flatV = true
  | _, _, .nil, _ => rfl
  | _, _, .cons h t, a => by
    rw [List.all_cons, Bool.and_eq_true] at a
    rw [List.all_cons, atom_flat h a.1, atoms_flat t a.2]
    rfl
theorem atoms_in {x : V} {d : D} (hx : Data K H x d) (ax : d.atom = true) : ∀ {vs : List V} {ds : List D}, Datas K H vs ds → ds.all D.atom = true → inV x vs = inD d ds
  | _, _, .nil, _ => rfl
  | _, _, .cons h t, a => by
    rw [List.all_cons, Bool.and_eq_true] at a
    have ih := atoms_in hx ax t a.2
    unfold inV inD at ih ⊢
    rw [List.any_cons, List.any_cons, ih, atom_eq h hx a.1 ax]
end
theorem strLt_eq : ∀ (a b : List Nat), strLt a b = decide (a < b)
  | [], [] => by simp [strLt]
  | [], _ :: _ => by simp [strLt]
  | _ :: _, [] => by simp [strLt]
  | x :: a, y :: b => by
    unfold strLt
    rw [strLt_eq a b]
    by_cases h : x < y
    · simp [h, List.cons_lt_cons_iff]
    · by_cases h2 : y < x
      · have h3 : ¬ x = y := by omega
        simp [h, h2, List.cons_lt_cons_iff, h3]
      · have h3 : x = y := by omega
        subst h3
        simp [List.cons_lt_cons_iff]

section
variable {X : Cx} {C : Ck} {cal : Nat → List D → Rs Vl} {gl : Nat → D} {xr : XRep} {xw : WX} {e : Nat → D → Prop}
theorem eqD_cases {a b : D} {q : Bool → Prop} (h : (eqD a b).Post e q) : (∃ i j, a = .int i ∧ b = .int j ∧ q (decide (i = j))) ∨ (∃ s t, a = .str s ∧ b = .str t ∧ q (decide (s = t))) ∨ (a.plain 60 = true ∧ b.plain 60 = true ∧ q (D.eqv a b)) := by
  have gen : ∀ {a b : D}, (if (a.plain 60 && b.plain 60) = true then Rs.ok (D.eqv a b) else Rs.no).Post e q → (a.plain 60 = true ∧ b.plain 60 = true ∧ q (D.eqv a b)) := fun {a b} h => by
    by_cases p : (a.plain 60 && b.plain 60) = true
    · rw [if_pos p] at h
      rw [Bool.and_eq_true] at p
      exact ⟨p.1, p.2, h⟩
    · rw [if_neg p] at h; exact False.elim h
  cases a with
  | int i => cases b with
    | int j => exact .inl ⟨i, j, rfl, rfl, h⟩
    | _ => exact .inr (.inr (gen h))
  | str i => cases b with
    | str j => exact .inr (.inl ⟨i, j, rfl, rfl, h⟩)
    | _ => exact .inr (.inr (gen h))
  | _ => exact .inr (.inr (gen h))
theorem any_py {j k : Nat} {a : D} (ha : a.plain j = true) : ∀ {xs : List D}, D.plainL k xs = true → (toPyL xs).any (fun z => PyData.eqv z (toPy a)) = inD a xs
  | [], _ => rfl
  | x :: r, h => by
    simp only [D.plainL, Bool.and_eq_true] at h
    have ih := any_py (k := k) ha h.2
    unfold inD at ih ⊢
    rw [toPyL, List.any_cons, List.any_cons, plain_eqv _ _ _ _ h.1 ha, ih]
/-- comparisons -/
theorem cmp_ok (O : XOk X C cal gl xr xw) {op : Cm} {o : CmpOp} (ho : cmC op o = true) {v w : V} {a b : D} {H : Hp} {Q : VK} (ha : Data X.K H v a) (hb : Data X.K H w b)
    (h : (cmpD op a b).Post e fun c => Q (.bl c) H) : rw2 X (compareOp o) v w H Q := by
  have inl : ∀ {xs : List D} {vs : List V} {p : Addr}, (SqL X.K H p vs ∨ SqT X.K H p vs) → Datas X.K H vs xs → w = .ref p → (if (a.atom && xs.all D.atom) = true then Rs.ok (inD a xs) else Rs.no).Post e (fun c => Q (.bl c) H) → rw2 X (compareOp .In) v w H Q := fun {xs vs p} hs ht ew h => by
    by_cases q : (a.atom && xs.all D.atom) = true
    · rw [if_pos q] at h
      rw [Bool.and_eq_true] at q
      refine rw2_of op_in_seq ⟨p, vs, ew, hs, atom_flat ha q.1, atoms_flat ht q.2, ?_⟩
      rw [atoms_in ha q.1 ht q.2]
      exact h
    · rw [if_neg q] at h; exact False.elim h
  have ninl : ∀ {xs : List D} {vs : List V} {p : Addr}, (SqL X.K H p vs ∨ SqT X.K H p vs) → Datas X.K H vs xs → w = .ref p → (if (a.atom && xs.all D.atom) = true then Rs.ok (!inD a xs) else Rs.no).Post e (fun c => Q (.bl c) H) → rw2 X (compareOp .NotIn) v w H Q := fun {xs vs p} hs ht ew h => by
    by_cases q : (a.atom && xs.all D.atom) = true
    · rw [if_pos q] at h
      rw [Bool.and_eq_true] at q
      refine rw2_of op_notIn_seq ⟨p, vs, ew, hs, atom_flat ha q.1, atoms_flat ht q.2, ?_⟩
      rw [atoms_in ha q.1 ht q.2]
      exact h
    · rw [if_neg q] at h; exact False.elim h
  have inl2 : ∀ {xs : List D} {vs : List V} {p : Addr}, X.K = X.K → H p = some (.lst vs) → Datas X.K H vs xs → w = .ref p → (if (a.atom && xs.all D.atom) = true then Rs.ok (inD a xs) else if (a.plain 60 && D.plainL 59 xs) = true then Rs.ok (inD a xs) else .no).Post e (fun c => Q (.bl c) H) → rw2 X (compareOp .In) v w H Q := by
    intro xs vs p _ hs ht ew h
    by_cases q : (a.atom && xs.all D.atom) = true
    · rw [if_pos q] at h
      exact inl (.inl (SqL.of hs)) ht ew (by rw [if_pos q]; exact h)
    · rw [if_neg q] at h
      by_cases q2 : (a.plain 60 && D.plainL 59 xs) = true
      · rw [if_pos q2] at h
        rw [Bool.and_eq_true] at q2
        have pl : (D.lst xs).plain 60 = true := by simpa [D.plain] using q2.2
        subst ew
        refine rw2_of (op_inD O.un2) ⟨_, _, plain_dp ha q2.1, plain_dp (.lst hs ht) pl, plain_shaped q2.1, plain_shaped pl, ?_⟩
        rw [any_py q2.1 q2.2]
        exact h
      · rw [if_neg q2] at h; exact False.elim h
  have ninl2 : ∀ {xs : List D} {vs : List V} {p : Addr}, X.K = X.K → H p = some (.lst vs) → Datas X.K H vs xs → w = .ref p → (if (a.atom && xs.all D.atom) = true then Rs.ok (!inD a xs) else if (a.plain 60 && D.plainL 59 xs) = true then Rs.ok (!inD a xs) else .no).Post e (fun c => Q (.bl c) H) → rw2 X (compareOp .NotIn) v w H Q := by
    intro xs vs p _ hs ht ew h
    by_cases q : (a.atom && xs.all D.atom) = true
    · rw [if_pos q] at h
      exact ninl (.inl (SqL.of hs)) ht ew (by rw [if_pos q]; exact h)
    · rw [if_neg q] at h
      by_cases q2 : (a.plain 60 && D.plainL 59 xs) = true
      · rw [if_pos q2] at h
        rw [Bool.and_eq_true] at q2
        have pl : (D.lst xs).plain 60 = true := by simpa [D.plain] using q2.2
        subst ew
        refine rw2_of (op_notInD O.un2) ⟨_, _, plain_dp ha q2.1, plain_dp (.lst hs ht) pl, plain_shaped q2.1, plain_shaped pl, ?_⟩
        rw [any_py q2.1 q2.2]
        exact h
      · rw [if_neg q2] at h; exact False.elim h
  cases op with
  | eq =>
    cases o <;> first | cases ho; done | skip
    rcases eqD_cases h with ⟨i, j, rfl, rfl, q⟩ | ⟨i, j, rfl, rfl, q⟩ | ⟨p1, p2, q⟩
    · cases ha; cases hb
      exact rw2_of op_eq ⟨rfl, by simpa using q⟩
    · cases ha; cases hb
      exact rw2_of op_eq ⟨rfl, by simpa [sv_inj] using q⟩
    · exact rw2_of (op_eqD O.un) ⟨_, _, plain_dp ha p1, plain_dp hb p2, plain_shaped p1, plain_shaped p2, by rw [plain_eqv _ _ _ _ p1 p2]; exact q⟩
  | ne =>
    cases o <;> first | cases ho; done | skip
    rcases eqD_cases (Rs.Post.bind h) with ⟨i, j, rfl, rfl, q⟩ | ⟨i, j, rfl, rfl, q⟩ | ⟨p1, p2, q⟩
    · cases ha; cases hb
      exact rw2_of op_ne ⟨rfl, by simpa [Rs.Post] using q⟩
    · cases ha; cases hb
      exact rw2_of op_ne ⟨rfl, by simpa [sv_inj, Rs.Post] using q⟩
    · exact rw2_of (op_neD O.un) ⟨_, _, plain_dp ha p1, plain_dp hb p2, plain_shaped p1, plain_shaped p2, by rw [plain_eqv _ _ _ _ p1 p2]; exact q⟩
  | lt =>
    cases o <;> first | cases ho; done | skip
    cases ha <;> cases hb <;> first
      | exact False.elim h
      | exact rw2_of op_lt ⟨_, _, rfl, rfl, h⟩
      | exact rw2_of op_lt_str ⟨_, _, rfl, rfl, by rw [sv_cps, sv_cps, ← strLt_eq]; exact h⟩
  | le =>
    cases o <;> first | cases ho; done | skip
    cases ha <;> cases hb <;> first
      | exact False.elim h
      | exact rw2_of op_le ⟨_, _, rfl, rfl, h⟩
  | gt =>
    cases o <;> first | cases ho; done | skip
    cases ha <;> cases hb <;> first
      | exact False.elim h
      | exact rw2_of op_gt ⟨_, _, rfl, rfl, h⟩
  | ge =>
    cases o <;> first | cases ho; done | skip
    cases ha <;> cases hb <;> first
      | exact False.elim h
      | exact rw2_of op_ge ⟨_, _, rfl, rfl, h⟩
  | iz =>
    cases o <;> first | cases ho; done | skip
    cases ha <;> cases hb <;> first
      | exact False.elim h
      | exact rw2_of op_isBl ⟨_, _, rfl, rfl, h⟩
  | niz =>
    cases o <;> first | cases ho; done | skip
    cases ha <;> cases hb <;> first
      | exact False.elim h
      | exact rw2_of op_notBl ⟨_, _, rfl, rfl, h⟩
  | inn =>
    cases o <;> first | cases ho; done | skip
    cases hb with
    | lst hs ht => cases a <;> exact inl2 rfl hs ht rfl h
    | tup hs ht => cases a <;> exact inl (.inr hs) ht rfl h
    | str t =>
      cases ha with
      | str s =>
        match s, h with
        | [], h => exact False.elim h
        | [c], h =>
          refine rw2_of op_in_sign ⟨c, sv t, rfl, rfl, ?_⟩
          rw [sv_cps]
          have e : decide (c ∈ t) = t.contains c := by rw [Bool.eq_iff_iff]; simp
          rw [e]; exact h
        | _ :: _ :: _, h => exact False.elim h
      | _ => exact False.elim h
    | _ => cases a <;> exact False.elim h
  | nin =>
    cases o <;> first | cases ho; done | skip
    cases hb with
    | lst hs ht => cases a <;> exact ninl2 rfl hs ht rfl h
    | tup hs ht => cases a <;> exact ninl (.inr hs) ht rfl h
    | str t =>
      cases ha with
      | str s =>
        match s, h with
        | [], h => exact False.elim h
        | [c], h =>
          refine rw2_of op_notIn_sign ⟨c, sv t, rfl, rfl, ?_⟩
          rw [sv_cps]
          have e : decide (c ∈ t) = t.contains c := by rw [Bool.eq_iff_iff]; simp
          rw [e]; exact h
        | _ :: _ :: _, h => exact False.elim h
      | _ => exact False.elim h
    | _ => cases a <;> exact False.elim h
end
end DP

namespace DP
open PySem PySem.Spec PyProof.Rows L2
section
variable {K : PySem.W.Frag} {G G' G2 H H' H2 : Hp} {m : Mk} {v : V} {d : D} {fp F : List Addr}
/-- the parts of a list -/
theorem Val.kids {ds : List D} (x : Val K m G H v (.lst ds) fp) (s : Same G H) (hF : ∀ a ∈ fp, a ∈ F) (o : ∀ a ∈ F, G a = none) (h : m = .bf → D.flatL ds = true) :
    ∃ a vs, v = .ref a ∧ H a = some (.lst vs) ∧ Datas K (shr G H F) vs ds := by
  have up : Same G (DP.shr G H F) := shr_same o
  have inF : ∀ a, a ∈ F → ∀ u, H a = some u → DP.shr G H F a = some u := fun a ha u e => withT_same a u (by rw [frzH_in ha]; exact e)
  cases m with
  | fr =>
    obtain ⟨_, q⟩ := x
    cases q with
    | lst h t => exact ⟨_, _, rfl, s _ _ h, t.mono up⟩
  | sh =>
    rcases x with ⟨_, q, f⟩ | ⟨a, u, rfl, rfl, q, c⟩
    · simp [D.flat] at f
    · cases c with
      | lst t => exact ⟨_, _, rfl, q, t.mono up⟩
  | fu =>
    have x' : Tree K G H v (.lst ds) fp := x
    cases x' with
    | flat _ f => simp [D.flat] at f
    | lst h t => exact ⟨_, _, rfl, h, Trees.data up t fun a ha u e => inF a (hF a (List.mem_cons_of_mem _ ha)) u e⟩
  | bs =>
    rcases x with ⟨_, ⟨q, f⟩ | ⟨a, u, rfl, q, c⟩⟩
    · simp [D.flat] at f
    · cases c with
      | lst t => exact ⟨_, _, rfl, q, t.mono up⟩
  | bf =>
    obtain ⟨_, q⟩ := x
    cases q with
    | lst h' t => exact ⟨_, _, rfl, h', Datas.flat (frz_sub s) t (h rfl)⟩
/-- a new list at p of shared parts -/
theorem Got.newL {vs : List V} {ds : List D} (g : Grow G H G2 H2) (q : Datas K G2 vs ds) {p : Addr} (hp : H2 p = none) : Got K G H G2 (upd H2 p (.lst vs)) .sh (.ref p) (.lst ds) [p] := by
  refine ⟨g.trans (Grow.mine g.sub hp), .inr ⟨p, _, rfl, rfl, upd_same, .lst q⟩, by simp, fun a h => ?_, fun a h => ?_⟩
  · have e : a = p := by simpa using h
    subst e; exact g.sH.free hp
  · have e : a = p := by simpa using h
    subst e; exact g.sub.free hp
theorem Got.newLB {vs : List V} {ds : List D} (g : Grow G H G2 H2) (q : Datas K H2 vs ds) {p : Addr} (hp : H2 p = none) : Got K G H G2 (upd H2 p (.lst vs)) .bf (.ref p) (.lst ds) [] := by
  have g2 := Grow.mine (o := .lst vs) g.sub hp
  exact ⟨g.trans g2, ⟨rfl, .lst upd_same (q.mono g2.sH)⟩, List.nodup_nil, (fun _ z => by cases z), (fun _ z => by cases z)⟩
theorem Got.of_atom (g : Grow G H G' H') (q : Data K G' v d) (f : d.flat = true) : Got K G H G' H' .fu v d [] :=
  ⟨g, .flat q f, List.nodup_nil, (fun _ z => by cases z), (fun _ z => by cases z)⟩
/-- a new list of parts of a list -/
theorem Got.copyL {ds ds2 : List D} (x : Got K G H G' H' m v (.lst ds) fp) (R : List V → List V) (hR : ∀ G vs, Datas K G vs ds → Datas K G (R vs) ds2) :
    ∃ a vs, v = .ref a ∧ H' a = some (.lst vs) ∧ ∀ p, H' p = none → ∃ G2 fq, Got K G H G2 (upd H' p (.lst (R vs))) (copyM m (.lst ds2)) (.ref p) (.lst ds2) fq := by
  by_cases hb : m = .bf
  · subst hb
    obtain ⟨_, q⟩ := x.val
    cases q with
    | lst h' t =>
      refine ⟨_, _, rfl, h', fun p hp => ?_⟩
      cases e : D.flatL ds2 with
      | false =>
        have e2 : copyM .bf (.lst ds2) = .bf := by simp [copyM, e]
        rw [e2]
        exact ⟨G', [], Got.newLB x.gr (hR _ _ t) hp⟩
      | true =>
        have e2 : copyM .bf (.lst ds2) = .sh := by simp [copyM, e]
        rw [e2]
        exact ⟨withT G' H', [p], Got.newL x.gr.withT (Datas.flat x.gr.sub (hR _ _ t) e) hp⟩
  · obtain ⟨a, vs, e1, e2, q⟩ := x.val.kids x.gr.sub (fun _ h => h) x.out fun z => absurd z hb
    refine ⟨a, vs, e1, e2, fun p hp => ⟨shr G' H' fp, [p], ?_⟩⟩
    have e3 : copyM m (.lst ds2) = .sh := by
      cases m with
      | bf => exact absurd rfl hb
      | _ => rfl
    rw [e3]
    exact Got.newL (x.gr.shr x.fresh x.out) (hR _ _ q) hp
theorem Val.tupG {ds : List D} (x : Val K m G H v (.tup ds) fp) (h : m ≠ .bf) : Data K G v (.tup ds) := by
  cases m with
  | fr => exact x.2
  | sh =>
    rcases x with ⟨_, q, _⟩ | ⟨_, _, _, _, _, c⟩
    · exact q
    · cases c
  | fu =>
    have x' : Tree K G H v (.tup ds) fp := x
    cases x' with
    | flat q _ => exact q
  | bs =>
    rcases x with ⟨_, ⟨q, _⟩ | ⟨_, _, _, _, c⟩⟩
    · exact q
    · cases c
  | bf => exact absurd rfl h
theorem Val.rlsG {ds : List D} (x : Val K m G H v (.rls ds) fp) (h : m ≠ .bf) : Data K G v (.rls ds) := by
  cases m with
  | fr => exact x.2
  | sh =>
    rcases x with ⟨_, q, _⟩ | ⟨_, _, _, _, _, c⟩
    · exact q
    · cases c
  | fu =>
    have x' : Tree K G H v (.rls ds) fp := x
    cases x' with
    | flat q _ => exact q
  | bs =>
    rcases x with ⟨_, ⟨q, _⟩ | ⟨_, _, _, _, c⟩⟩
    · exact q
    · cases c
  | bf => exact absurd rfl h
/-- a part, as its mark says -/
theorem Got.partOf {u : V} {x : D} (g : Grow G H G' H') (hm : m ≠ .bf) (q : Data K G' u x) : Got K G H G' H' (partM m x) u x [] := by
  have e : partM m x = .fr := by
    cases m with
    | bf => exact absurd rfl hm
    | _ => rfl
  rw [e]
  exact ⟨g, ⟨rfl, q⟩, List.nodup_nil, (fun _ z => by cases z), (fun _ z => by cases z)⟩
theorem Got.partBf {u : V} {x : D} (g : Grow G H G' H') (q : Data K H' u x) : ∃ G2, Got K G H G2 H' (partM .bf x) u x [] := by
  cases f : x.flat with
  | true =>
    have e : partM .bf x = .fu := by simp [partM, f]
    rw [e]
    exact ⟨withT G' H', g.withT, .flat (Data.flat g.sub q f) f, List.nodup_nil, (fun _ z => by cases z), (fun _ z => by cases z)⟩
  | false =>
    have e : partM .bf x = .bf := by simp [partM, f]
    rw [e]
    exact ⟨G', g, ⟨rfl, q⟩, List.nodup_nil, (fun _ z => by cases z), (fun _ z => by cases z)⟩
/-- the parts of a list, a tuple, a list that is read: the k-th -/
theorem Got.part {ds : List D} {x : D} {k : Nat} (y : Got K G H G' H' m v d fp) (hd : d = .lst ds ∨ d = .tup ds ∨ d = .rls ds) (hk : ds[k]? = some x) :
    ∃ a vs u, v = .ref a ∧ vs.length = ds.length ∧ ((d = .tup ds ∧ SqT K H' a vs) ∨ SqL K H' a vs) ∧ vs[k]? = some u ∧ ∃ G2, Got K G H G2 H' (partM m x) u x [] := by
  by_cases hb : m = .bf
  · subst hb
    obtain ⟨_, q⟩ := y.val
    rcases hd with rfl | rfl | rfl
    · cases q with
      | lst h t =>
        obtain ⟨u, e1, e2⟩ := t.get hk
        exact ⟨_, _, u, rfl, t.length, .inr (SqL.of h), e1, Got.partBf y.gr e2⟩
    · cases q with
      | tup h t =>
        obtain ⟨u, e1, e2⟩ := t.get hk
        exact ⟨_, _, u, rfl, t.length, .inl ⟨rfl, h⟩, e1, Got.partBf y.gr e2⟩
    · cases q with
      | rls h t =>
        obtain ⟨u, e1, e2⟩ := t.get hk
        exact ⟨_, _, u, rfl, t.length, .inr h, e1, Got.partBf y.gr e2⟩
  · rcases hd with rfl | rfl | rfl
    · obtain ⟨a, vs, e1, e2, q⟩ := y.val.kids y.gr.sub (fun _ h => h) y.out fun z => absurd z hb
      obtain ⟨u, f1, f2⟩ := q.get hk
      exact ⟨a, vs, u, e1, q.length, .inr (SqL.of e2), f1, _, Got.partOf (y.gr.shr y.fresh y.out) hb f2⟩
    · have q := y.val.tupG hb
      cases q with
      | tup h t =>
        obtain ⟨u, e1, e2⟩ := t.get hk
        exact ⟨_, _, u, rfl, t.length, .inl ⟨rfl, Same.seqT y.gr.sub h⟩, e1, _, Got.partOf y.gr hb e2⟩
    · have q := y.val.rlsG hb
      cases q with
      | rls h t =>
        obtain ⟨u, e1, e2⟩ := t.get hk
        exact ⟨_, _, u, rfl, t.length, .inr (y.gr.sub.seq h), e1, _, Got.partOf y.gr hb e2⟩
theorem flatL_append {a b : List D} (h : D.flatL (a ++ b) = true) : D.flatL a = true ∧ D.flatL b = true := by
  induction a with
  | nil => exact ⟨rfl, h⟩
  | cons x a ih =>
    simp only [List.cons_append, D.flatL, Bool.and_eq_true] at h ⊢
    exact ⟨⟨h.1, (ih h.2).1⟩, (ih h.2).2⟩
end

section
variable {X : Cx} {C : Ck} {cal : Nat → List D → Rs Vl} {gl : Nat → D} {xr : XRep} {xw : WX} {e : Nat → D → Prop}
theorem data_int {K : PySem.W.Frag} {H : Hp} {v : V} {i : Int} (h : Data K H v (.int i)) : v = .int i := by cases h; rfl
theorem data_str {K : PySem.W.Frag} {H : Hp} {v : V} {i : List Nat} (h : Data K H v (.str i)) : v = .str (sv i) := by cases h; rfl
theorem data_bl {K : PySem.W.Frag} {H : Hp} {v : V} {i : Bool} (h : Data K H v (.bl i)) : v = .bl i := by cases h; rfl
theorem big_ok {a b : Int} (h : (big a || big b) = true) : CMul a b := by
  unfold big at h
  simp only [Bool.or_eq_true, Bool.and_eq_true, decide_eq_true_eq] at h
  rcases h with h | h
  · exact .inl ⟨by have := h.1; omega, by have := h.2; omega⟩
  · exact .inr ⟨by have := h.1; omega, by have := h.2; omega⟩
/-- arithmetic, texts and lists put together -/
theorem rep_flat (x : List Nat) : ∀ (n : Nat) (acc : Array Nat), ((List.replicate n x.toArray).foldl (· ++ ·) acc).toList = acc.toList ++ repS x n
  | 0, acc => by simp [repS]
  | n + 1, acc => by
    rw [List.replicate_succ, List.foldl_cons, rep_flat x n]
    simp only [Array.toList_append, repS]
    have : ∀ n, repS x n ++ x = x ++ repS x n := fun n => by
      induction n with
      | zero => simp [repS]
      | succ n ih => simp only [repS]; rw [← List.append_assoc, ← ih]
    rw [this, List.append_assoc]
theorem repS_len (x : List Nat) (n : Nat) : (repS x n).length = x.length * n := by
  induction n with
  | zero => simp [repS]
  | succ n ih => simp [repS, ih, Nat.mul_succ]
/-- text * n -/
theorem op_mulS {X : Cx} : OpR X (binaryOp .Mult) (fun x y H Q => ∃ (s : List Nat) (n : Int), x = .str (sv s) ∧ y = .int n ∧ -1000000 < n ∧ n < 1000000 ∧ s.length * n.toNat ≤ SZ ∧ Q (.str (sv (repS s n.toNat))) H) := by
  intro pins st σ H x y v u Q I r1 r2 h
  obtain ⟨s, n, rfl, rfl, h1, h2, h3, q⟩ := h
  obtain ⟨t, rfl⟩ := r1
  obtain ⟨t2, rfl⟩ := r2
  have hr : (decide (n < -(2 ^ 63 : Int)) || decide (n ≥ 2 ^ 63)) = false := by
    rw [decide_eq_false (by omega), decide_eq_false (by omega)]; rfl
  refine P.mul_str hr (fun c1 c2 => ?_) (fun c1 c2 => ?_) ?_
  · rw [sv_len]
    have hlen : (s.length : Int) * n ≤ 16777216 := by
      have : ((s.length * n.toNat : Nat) : Int) ≤ 16777216 := by unfold SZ at h3; omega
      have e : ((n.toNat : Nat) : Int) = n := Int.toNat_of_nonneg (by omega)
      rw [Int.natCast_mul, e] at this
      exact this
    have : (s.length : Int) ≤ (2 ^ 63 - 1) / n := by
      refine (Int.le_ediv_iff_mul_le (by omega)).mpr ?_
      omega
    omega
  · unfold Builtin.Str.tooLong
    rw [sv_len, decide_eq_false_iff_not, SZ_eq]
    omega
  · have fin : ∀ z : List Nat, z = repS s n.toNat → z.length ≤ sizeLine ∧ ∀ t s', Inv X pins σ H s' → EP X pins σ Q (.str (sv z) t) s' := fun z e => by
      subst e
      exact ⟨by rw [repS_len, SZ_eq]; exact h3, fun t s' I' => ⟨.str (sv (repS s n.toNat)), H, I', ⟨_, rfl⟩, q⟩⟩
    by_cases c : n < 1
    · rw [if_pos c]
      have e0 : n.toNat = 0 := by omega
      have := fin [] (by rw [e0]; rfl)
      exact ⟨by decide, this.2 _ _ (I.tok _)⟩
    · rw [if_neg c]
      by_cases c2 : (n == 1 || (sv s).length == 0) = true
      · rw [if_pos c2]
        have e1 : s = repS s n.toNat := by
          rw [Bool.or_eq_true] at c2
          rcases c2 with c2 | c2
          · have : n = 1 := by simpa using c2
            subst this; simp [repS]
          · have hl : s = [] := by rw [sv_len] at c2; simpa using c2
            subst hl
            have := repS_len [] n.toNat
            simp at this
            rw [this]
        exact (fin s e1).2 _ _ I
      · rw [if_neg c2]
        have e2 : (⟨(List.replicate n.toNat (sv s).cps).foldl (· ++ ·) #[]⟩ : Str) = sv (repS s n.toNat) := by
          unfold sv
          congr 1
          apply Array.toList_inj.mp
          have := rep_flat s n.toNat #[]
          simpa using this
        rw [e2]
        have f := fin (repS s n.toNat) rfl
        exact ⟨by rw [sv_len]; exact f.1, f.2 _ _ (I.tok _)⟩
theorem bin_ok {op : Op} {o : Operator} (ho : opC op o = true) {G H G1 H1 G2 H2 : Hp} {m n : Mk} {v w : V} {a b : D} {fp fq : List Addr} {Q : VK} (x : Got X.K G H G1 H1 m v a fp) (y : Got X.K G1 H1 G2 H2 n w b fq)
    (h : (binD op a b).Post e fun d => ∀ u G' H' fp, Got X.K G H G' H' (binM m n d) u d fp → Q u H') : rw2 X (binaryOp o) v w H2 Q := by
  have g := x.gr.trans y.gr
  have hx := (x.grow y.gr).data
  have hy := y.data
  have atom : ∀ {d : D} {u : V}, Data X.K G2 u d → d.flat = true → binM m n d = .fu → (∀ u G' H' fp, Got X.K G H G' H' (binM m n d) u d fp → Q u H') → Q u H2 := fun {d u} q f e h => h _ _ _ _ (by rw [e]; exact Got.of_atom g q f)
  cases op with
  | add =>
    cases o <;> first | cases ho; done | skip
    cases a <;> cases b <;> first | exact False.elim h | skip
    · obtain rfl := data_int hx
      obtain rfl := data_int hy
      exact rw2_of op_add ⟨_, _, rfl, rfl, atom (.int _) rfl rfl h⟩
    · obtain rfl := data_str hx
      obtain rfl := data_str hy
      rename_i s t
      by_cases c : s.length + t.length ≤ SZ
      · simp only [binD, c, if_true] at h
        exact rw2_of op_add_str ⟨_, _, rfl, rfl, by rw [sv_len, sv_len, SZ_eq]; exact c, by rw [sv_app]; exact atom (.str _) rfl rfl h⟩
      · simp only [binD, c, if_false] at h; exact False.elim h
    · rename_i s t
      by_cases c : s.length + t.length ≤ SZ
      · simp only [binD, c, if_true] at h
        cases hx with
        | lst h1 t1 =>
          cases hy with
          | lst h2 t2 =>
            refine rw2_of op_cat ⟨_, _, _, _, rfl, rfl, h1, h2, by rw [t1.length, t2.length, SZ_eq]; exact c, fun p hp => ?_⟩
            by_cases hb : (m == .bf || n == .bf) = true ∧ D.flatL (s ++ t) = false
            · refine h (.ref p) G2 _ [] ?_
              have em : binM m n (.lst (s ++ t)) = .bf := by simp only [binM]; rw [if_pos hb.1, hb.2]; rfl
              rw [em]
              exact Got.newLB g (t1.append t2) hp
            · have em : binM m n (.lst (s ++ t)) = .sh := by
                simp only [binM]
                by_cases q : (m == .bf || n == .bf) = true
                · rw [if_pos q]
                  cases z : D.flatL (s ++ t) with
                  | true => rfl
                  | false => exact absurd ⟨q, z⟩ hb
                · rw [if_neg q]
              have fl : (m = .bf ∨ n = .bf) → D.flatL (s ++ t) = true := fun q => by
                cases z : D.flatL (s ++ t) with
                | true => rfl
                | false => exact absurd ⟨by rcases q with rfl | rfl <;> simp, z⟩ hb
              have xg := x.grow y.gr
              have fr : ∀ a ∈ fp ++ fq, H a = none := fun a ha => (List.mem_append.mp ha).elim (x.fresh a) fun z => x.gr.sH.free (y.fresh a z)
              have ot : ∀ a ∈ fp ++ fq, G2 a = none := fun a ha => (List.mem_append.mp ha).elim (xg.out a) (y.out a)
              obtain ⟨a1, vs1, e1, f1, q1⟩ := xg.val.kids (F := fp ++ fq) g.sub (fun _ h => List.mem_append_left _ h) ot fun q => (flatL_append (fl (.inl q))).1
              obtain ⟨a2, vs2, e2, f2, q2⟩ := y.val.kids (F := fp ++ fq) g.sub (fun _ h => List.mem_append_right _ h) ot fun q => (flatL_append (fl (.inr q))).2
              cases e1; cases e2
              rw [h1] at f1; cases f1
              rw [h2] at f2; cases f2
              refine h (.ref p) (shr G2 H2 (fp ++ fq)) _ [p] ?_
              rw [em]
              exact Got.newL (g.shr fr ot) (q1.append q2) hp
      · simp only [binD, c, if_false] at h; exact False.elim h
  | sub =>
    cases o <;> first | cases ho; done | skip
    cases a <;> cases b <;> first | exact False.elim h | skip
    obtain rfl := data_int hx
    obtain rfl := data_int hy
    exact rw2_of op_sub ⟨_, _, rfl, rfl, atom (.int _) rfl rfl h⟩
  | mul =>
    cases o <;> first | cases ho; done | skip
    cases a <;> cases b <;> first | exact False.elim h | skip
    · obtain rfl := data_int hx
      obtain rfl := data_int hy
      rename_i i j
      by_cases c : (big i || big j) = true
      · simp only [binD, c, if_true] at h
        exact rw2_of op_mul ⟨_, _, rfl, rfl, big_ok c, atom (.int _) rfl rfl h⟩
      · simp only [binD, c] at h; exact False.elim h
    · obtain rfl := data_str hx
      obtain rfl := data_int hy
      rename_i s n
      by_cases c : (decide (-1000000 < n) && decide (n < 1000000) && decide (s.length * n.toNat ≤ SZ)) = true
      · simp only [binD, c, if_true] at h
        simp only [Bool.and_eq_true, decide_eq_true_eq] at c
        exact rw2_of op_mulS ⟨s, n, rfl, rfl, c.1.1, c.1.2, c.2, atom (.str _) rfl rfl h⟩
      · simp only [binD, c] at h; exact False.elim h
  | mod =>
    cases o <;> first | cases ho; done | skip
    cases a <;> cases b <;> first | exact False.elim h | skip
    obtain rfl := data_int hx
    obtain rfl := data_int hy
    rename_i i j
    by_cases c : 0 < j
    · simp only [binD, c, if_true] at h
      exact rw2_of op_mod ⟨_, _, rfl, rfl, c, atom (.int _) rfl rfl h⟩
    · simp only [binD, c, if_false] at h; exact False.elim h
  | fdiv =>
    cases o <;> first | cases ho; done | skip
    cases a <;> cases b <;> first | exact False.elim h | skip
    obtain rfl := data_int hx
    obtain rfl := data_int hy
    rename_i i j
    by_cases c : (0 < j && j < 1073741824) = true
    · simp only [binD, c, if_true] at h
      have c' : 0 < j ∧ j < 1073741824 := by simpa using c
      exact rw2_of op_fdiv ⟨_, _, rfl, rfl, c', atom (.int _) rfl rfl h⟩
    · simp only [binD, c] at h; exact False.elim h
  | pow =>
    cases o <;> first | cases ho; done | skip
    cases a <;> cases b <;> first | exact False.elim h | skip
    obtain rfl := data_int hx
    obtain rfl := data_int hy
    rename_i i j
    by_cases c : (0 ≤ j && j ≤ 1000000 && i.natAbs < 18446744073709551616) = true
    · simp only [binD, c, if_true] at h
      have c' : (0 ≤ j ∧ j ≤ 1000000) ∧ i.natAbs < 18446744073709551616 := by simpa using c
      exact rw2_of op_pow ⟨_, _, rfl, rfl, ⟨c'.1.1, c'.1.2, by have := c'.2; omega⟩, atom (.int _) rfl rfl h⟩
    · simp only [binD, c] at h; exact False.elim h

/-- truth -/
theorem tru_data {H : Hp} {v : V} {d : D} {q : Bool → Prop} (x : Data X.K H v d) (h : (truD d).Post e q) : ∃ k, TruV X.K v H k ∧ q k := by
  cases x with
  | non => exact ⟨false, rfl, h⟩
  | bl b => exact ⟨b, rfl, h⟩
  | int i =>
    refine ⟨_, rfl, ?_⟩
    have e2 : (i != 0) = decide (i ≠ 0) := by rw [Bool.eq_iff_iff]; simp
    rw [e2]; exact h
  | str s =>
    by_cases c : s.length ≤ SZ
    · simp only [truD, c, if_true] at h
      refine ⟨_, ⟨by rw [sv_len, SZ_eq]; exact c, rfl⟩, ?_⟩
      have e2 : (((sv s).length : Int) != 0) = !s.isEmpty := by
        rw [sv_len, Bool.eq_iff_iff]
        cases s <;> simp <;> omega
      rw [e2]; exact h
    · simp only [truD, c, if_false] at h; exact False.elim h
  | lst h1 t =>
    refine ⟨_, .inl ⟨_, SqL.of h1, rfl⟩, ?_⟩
    rw [t.isEmpty]; exact h
  | tup h1 t =>
    refine ⟨_, .inr (.inl ⟨_, h1, rfl⟩), ?_⟩
    rw [t.isEmpty]; exact h
  | rls h1 t => exact False.elim h
  | dic h1 l t => exact False.elim h

/-- a part -/
theorem ixN_eq (n : Nat) (i : Int) : DP.ixN n i = L2.ixN n i := by
  unfold DP.ixN L2.ixN
  by_cases h : 0 ≤ i
  · rw [if_pos h, if_pos h]
  · rw [if_neg h, if_neg h]
    by_cases c : 0 ≤ i + (n : Int)
    · rw [if_pos c, if_pos (by omega)]
    · rw [if_neg c, if_neg (by omega)]
def rwX (X : Cx) (value slice : Expr) : R2 := fun x y H Q => ∀ (pins : List (Addr × Obj)) (s : Shared) (σ : List (Option V)) (v u : Value), Inv X pins σ H s → RelV x v → RelV y u →
  subscripted slice false v u = operate [v, u] (getItem v u) → wpAny (model X.prog X.w) X.A (subscriptTail value slice v u) (EP X pins σ Q) X.xe s
theorem pe_ixw {a b : Expr} {pos : Pos} (hs : PlainIx b) : PE X (.Subscript a b pos) (tOp (rwX X a b) (tw X a) (tw X b)) := by
  refine ⟨fun pins s σ H Q I h => ?_⟩
  exact Subscript_ (binT pe_tw pe_tw I h fun v u s2 x y H2 I2 rx ry q => q pins s2 σ v u I2 rx ry (hs _ _))
theorem rwX_of {r : R2} (h : IxR X r) {a b : Expr} {x y : V} {H : Hp} {Q : VK} (q : r x y H Q) : rwX X a b x y H Q := fun pins s σ v u I r1 r2 hs => h a b pins s σ H x y v u Q I r1 r2 q hs
theorem atI_of {vs : List V} {u : V} {k : Nat} {i : Int} (h : DP.ixN vs.length i = some k) (q : vs[k]? = some u) : atI vs i = some u := by
  unfold atI
  rw [← ixN_eq, h]
  exact q
/-- a[b] -/
theorem idx_ok {a b : Expr} {G H G1 H1 G2 H2 : Hp} {m n : Mk} {v w : V} {c d : D} {fp fq : List Addr} {Q : VK} (x : Got X.K G H G1 H1 m v c fp) (y : Got X.K G1 H1 G2 H2 n w d fq)
    (h : (idxD c d).Post e fun d => ∀ u G' H' fp, Got X.K G H G' H' (partM m d) u d fp → Q u H') : rwX X a b v w H2 Q := by
  have xg := x.grow y.gr
  have hy := y.data
  have seq : ∀ {ds : List D} {i : Int}, (c = .lst ds ∨ c = .tup ds ∨ c = .rls ds) → d = .int i →
      (match DP.ixN ds.length i with | some k => (match ds[k]? with | some d => Rs.ok d | none => .no) | none => .no).Post e (fun d => ∀ u G' H' fp, Got X.K G H G' H' (partM m d) u d fp → Q u H') → rwX X a b v w H2 Q := fun {ds i} hc hd h2 => by
    subst hd
    obtain rfl := data_int hy
    cases hk : DP.ixN ds.length i with
    | none => rw [hk] at h2; exact False.elim h2
    | some k =>
      rw [hk] at h2
      simp only at h2
      cases hx : ds[k]? with
      | none => rw [hx] at h2; exact False.elim h2
      | some z =>
        rw [hx] at h2
        obtain ⟨p, vs, u, rfl, hl, loc, hu, G3, g⟩ := xg.part hc hx
        have ha : atI vs i = some u := atI_of (by rw [hl]; exact hk) hu
        rcases loc with ⟨_, loc⟩ | loc
        · exact rwX_of ix_tup ⟨p, vs, i, u, rfl, rfl, loc, ha, h2 _ _ _ _ g⟩
        · exact rwX_of ix_list ⟨p, vs, i, u, rfl, rfl, loc, ha, h2 _ _ _ _ g⟩
  cases c with
  | lst ds => cases d <;> first | exact False.elim h | exact seq (.inl rfl) rfl h
  | tup ds => cases d <;> first | exact False.elim h | exact seq (.inr (.inl rfl)) rfl h
  | rls ds => cases d <;> first | exact False.elim h | exact seq (.inr (.inr rfl)) rfl h
  | str s =>
    cases d with
    | int i =>
      obtain rfl := data_int hy
      obtain rfl := data_str xg.data
      have h2 : (if s.length ≤ SZ then (match DP.ixN s.length i with | some k => (match s[k]? with | some c => Rs.ok (D.str [c]) | none => .no) | none => .no) else .no).Post e (fun d => ∀ u G' H' fp, Got X.K G H G' H' (partM m d) u d fp → Q u H') := h
      by_cases hz : s.length ≤ SZ
      · rw [if_pos hz] at h2
        cases hk : DP.ixN s.length i with
        | none => rw [hk] at h2; exact False.elim h2
        | some k =>
          rw [hk] at h2
          simp only at h2
          cases hx : s[k]? with
          | none => rw [hx] at h2; exact False.elim h2
          | some z =>
            rw [hx] at h2
            have hq : Q (V.str (sv [z])) H2 := by
              by_cases hb : m = .bf
              · subst hb
                obtain ⟨G3, g⟩ := Got.partBf (K := X.K) (u := V.str (sv [z])) (x := D.str [z]) xg.gr (Data.str _)
                exact h2 _ _ _ _ g
              · exact h2 _ _ _ _ (Got.partOf xg.gr hb (Data.str _))
            refine rwX_of ix_str ⟨sv s, i, z, rfl, rfl, by rw [sv_len, SZ_eq]; exact hz, ?_, hq⟩
            unfold atI
            rw [sv_cps, ← ixN_eq, hk]
            exact hx
      · rw [if_neg hz] at h2; exact False.elim h2
    | _ => exact False.elim h
  | _ => cases d <;> exact False.elim h
/-- slices -/
theorem cut_eq {vs : List V} {ds : List D} (h : vs.length = ds.length) (lo hi : Option Int) : cutV vs lo hi = (vs.drop (slA ds.length lo)).take (slB ds.length hi - slA ds.length lo) := by
  unfold cutV
  rw [h]
  cases lo <;> cases hi <;> rfl
theorem slB_eq (n : Nat) (hi : Option Int) : slB n hi = HT.sIx n n hi := by cases hi <;> rfl
theorem slA_eq (n : Nat) (lo : Option Int) : slA n lo = HT.sIx n 0 lo := by cases lo <;> rfl
def rwS (X : Cx) : V → Option Int → Option Int → Hp → VK → Prop := fun x lo hi H Q => ∀ (pins : List (Addr × Obj)) (s : Shared) (σ : List (Option V)) (v vl vu : Value) (sl : Addr), Inv X pins σ H s → RelV x v → s.heap.IsSliceOf sl vl vu .none → IsPart vl lo → IsPart vu hi →
    ∃ T id, typeLookup (.type T) "__getitem__" = pure (some (.builtin id)) ∧ s.TypeIs v T ∧ wpAny (model X.prog X.w) X.A (getItem v (.ref sl)) (EP X pins σ Q) X.xe s
theorem sl_rw : SlR X (rwS X) := fun pins s σ H x v vl vu lo hi sl Q I r1 hs pl pu h => h pins s σ v vl vu sl I r1 hs pl pu
theorem rwS_of {r : V → Option Int → Option Int → Hp → VK → Prop} (hr : SlR X r) {x : V} {lo hi : Option Int} {H : Hp} {Q : VK} (q : r x lo hi H Q) : rwS X x lo hi H Q := fun pins s σ v vl vu sl I r1 hs pl pu => hr pins s σ H x v vl vu lo hi sl Q I r1 hs pl pu q
theorem slc_ok {G H G1 H1 : Hp} {m : Mk} {v : V} {c : D} {fp : List Addr} {lo hi : Option Int} {Q : VK} (x : Got X.K G H G1 H1 m v c fp)
    (h : (slcD c lo hi).Post e fun d => ∀ u G' H' fp, Got X.K G H G' H' (copyM m d) u d fp → Q u H') : rwS X v lo hi H1 Q := by
  cases c with
  | lst ds =>
    obtain ⟨a, vs, rfl, hl, k⟩ := x.copyL (fun vs => (vs.drop (slA ds.length lo)).take (slB ds.length hi - slA ds.length lo)) (ds2 := cut ds lo hi) fun G vs q => (q.drop _).take _
    have hlen : vs.length = ds.length := by
      have q := x.data
      cases q with
      | lst h2 t => rw [hl] at h2; cases h2; exact t.length
    refine rwS_of sl_list ⟨a, vs, rfl, SqL.of hl, fun p hp => ?_⟩
    obtain ⟨G2, fq, g⟩ := k p hp
    rw [cut_eq hlen]
    exact h _ _ _ _ g
  | str s =>
    obtain rfl := data_str x.data
    have h2 : (if s.length ≤ SZ then Rs.ok (D.str (cut s lo hi)) else .no).Post e (fun d => ∀ u G' H' fp, Got X.K G H G' H' (copyM m d) u d fp → Q u H') := h
    by_cases hz : s.length ≤ SZ
    · rw [if_pos hz] at h2
      refine rwS_of sl_str ⟨sv s, rfl, by rw [sv_len, SZ_eq]; exact hz, ?_⟩
      have e2 : cutS (sv s) lo hi = sv (cut s lo hi) := by
        unfold cutS cut sv
        rw [slA_eq, slB_eq]
        simp [Str.length]
      rw [e2]
      refine h2 _ G1 _ [] ?_
      have e3 : copyM m (.str (cut s lo hi)) = .fu := by cases m <;> rfl
      rw [e3]
      exact Got.of_atom x.gr (.str _) rfl
    · rw [if_neg hz] at h2; exact False.elim h2
  | _ => exact False.elim h
end
end DP

namespace DP
open PySem PySem.Spec PyProof.Rows L2
section
variable {K : PySem.W.Frag} {G G' G2 H H' H2 : Hp} {m : Mk} {v : V} {d : D} {fp F : List Addr}
theorem Gots.one {x : Vl} {vs : List V} (y : Gots K G H G' H' [x] vs fp) : ∃ v, vs = [v] ∧ Got K G H G' H' x.1 v x.2 fp := by
  obtain ⟨g, val, nd, fr, ot⟩ := y
  cases val with
  | cons h t =>
    cases t
    rw [List.append_nil] at nd fr ot
    exact ⟨_, rfl, g, by rw [List.append_nil]; exact h, by rw [List.append_nil]; exact nd, by rw [List.append_nil]; exact fr, by rw [List.append_nil]; exact ot⟩
theorem Gots.two {x y : Vl} {vs : List V} (z : Gots K G H G' H' [x, y] vs fp) : ∃ v w, vs = [v, w] ∧ Data K H' v x.2 ∧ Data K H' w y.2 := by
  have q := z.data
  cases q with
  | cons h t => cases t with | cons h2 t2 => cases t2; exact ⟨_, _, rfl, h, h2⟩
theorem bools_some : ∀ {ds : List D} {bs : List Bool} {vs : List V}, listB ds = some bs → Datas K H vs ds → vs = bs.map V.bl
  | [], bs, vs, e, h => by cases h; simp [listB] at e; subst e; rfl
  | d :: ds, bs, vs, e, h => by
    cases h with
    | cons h t =>
      cases h with
      | bl b =>
        simp only [listB] at e
        cases q : listB ds with
        | none => rw [q] at e; cases e
        | some r =>
          rw [q] at e
          simp only [Option.map_some, Option.some.injEq] at e
          subst e
          rw [bools_some q t]; rfl
      | _ => simp [listB] at e
theorem ints_some : ∀ {ds : List D} {bs : List Int} {vs : List V}, listI ds = some bs → Datas K H vs ds → vs = bs.map V.int
  | [], bs, vs, e, h => by cases h; simp [listI] at e; subst e; rfl
  | d :: ds, bs, vs, e, h => by
    cases h with
    | cons h t =>
      cases h with
      | int b =>
        simp only [listI] at e
        cases q : listI ds with
        | none => rw [q] at e; cases e
        | some r =>
          rw [q] at e
          simp only [Option.map_some, Option.some.injEq] at e
          subst e
          rw [ints_some q t]; rfl
      | _ => simp [listI] at e
theorem strs_some : ∀ {ds : List D} {bs : List (List Nat)} {vs : List V}, listS ds = some bs → Datas K H vs ds → vs = (bs.map sv).map V.str
  | [], bs, vs, e, h => by cases h; simp [listS] at e; subst e; rfl
  | d :: ds, bs, vs, e, h => by
    cases h with
    | cons h t =>
      cases h with
      | str b =>
        simp only [listS] at e
        cases q : listS ds with
        | none => rw [q] at e; cases e
        | some r =>
          rw [q] at e
          simp only [Option.map_some, Option.some.injEq] at e
          subst e
          rw [strs_some q t]; rfl
      | _ => simp [listS] at e
theorem Datas.mapI : ∀ (ns : List Int), Datas K G (ns.map V.int) (ns.map D.int)
  | [] => .nil
  | n :: ns => .cons (.int n) (Datas.mapI ns)
theorem Datas.mapS : ∀ (ns : List (List Nat)), Datas K G ((ns.map sv).map V.str) (ns.map D.str)
  | [] => .nil
  | n :: ns => .cons (.str n) (Datas.mapS ns)
/-! sorting -/
theorem insI_perm (x : Int) : ∀ l, (insI x l).Perm (x :: l)
  | [] => .refl _
  | y :: r => by
    unfold insI
    by_cases h : x ≤ y
    · rw [if_pos h]
    · rw [if_neg h]; exact ((insI_perm x r).cons y).trans (.swap x y r)
theorem sortI_perm : ∀ l, (sortI l).Perm l
  | [] => .refl _
  | x :: r => (insI_perm x _).trans ((sortI_perm r).cons x)
theorem insI_sorted (x : Int) : ∀ l : List Int, l.Pairwise (· ≤ ·) → (insI x l).Pairwise (· ≤ ·)
  | [], _ => by unfold insI; exact .cons (by simp) .nil
  | y :: r, h => by
    unfold insI
    by_cases c : x ≤ y
    · rw [if_pos c]
      refine .cons (fun z hz => ?_) h
      rcases List.mem_cons.mp hz with rfl | hz
      · exact c
      · exact Int.le_trans c (List.rel_of_pairwise_cons h hz)
    · rw [if_neg c]
      refine .cons (fun z hz => ?_) (insI_sorted x r (List.Pairwise.of_cons h))
      rcases List.mem_cons.mp ((insI_perm x r).mem_iff.mp hz) with rfl | hz
      · omega
      · exact List.rel_of_pairwise_cons h hz
theorem sortI_sorted : ∀ l, (sortI l).Pairwise (· ≤ ·)
  | [] => .nil
  | x :: r => insI_sorted x _ (sortI_sorted r)
theorem perm_sorted_eq {α : Type} {R : α → α → Prop} (anti : ∀ a b, R a b → R b a → a = b) : ∀ {l₁ l₂ : List α}, l₁.Perm l₂ → l₁.Pairwise R → l₂.Pairwise R → l₁ = l₂
  | [], l₂, p, _, _ => by rw [List.Perm.nil_eq p]
  | a :: l₁, [], p, _, _ => by have := p.length_eq; simp at this
  | a :: l₁, b :: l₂, p, h1, h2 => by
    have ha : a ∈ b :: l₂ := p.mem_iff.mp List.mem_cons_self
    have hb : b ∈ a :: l₁ := p.mem_iff.mpr List.mem_cons_self
    have e : a = b := by
      rcases List.mem_cons.mp ha with e | ha
      · exact e
      · rcases List.mem_cons.mp hb with e | hb
        · exact e.symm
        · exact anti a b (List.rel_of_pairwise_cons h1 hb) (List.rel_of_pairwise_cons h2 ha)
    subst e
    rw [perm_sorted_eq anti (List.Perm.cons_inv p) h1.of_cons h2.of_cons]
theorem strLt_irr : ∀ a, strLt a a = false
  | [] => rfl
  | x :: a => by simp [strLt, strLt_irr a]
theorem strLt_asymm : ∀ a b, strLt a b = true → strLt b a = false
  | [], [], h => by cases h
  | [], _ :: _, _ => rfl
  | _ :: _, [], h => by cases h
  | x :: a, y :: b, h => by
    unfold strLt at h ⊢
    by_cases c : x < y
    · have : ¬ y < x := by omega
      simp [this, c]
    · rw [if_neg c] at h
      by_cases c2 : y < x
      · rw [if_pos c2] at h; cases h
      · rw [if_neg c2] at h
        rw [if_neg c2, if_neg c]
        exact strLt_asymm a b h
theorem strLt_total : ∀ a b, strLt a b = false → strLt b a = false → a = b
  | [], [], _, _ => rfl
  | [], _ :: _, h, _ => by cases h
  | _ :: _, [], _, h => by cases h
  | x :: a, y :: b, h, g => by
    unfold strLt at h g
    by_cases c : x < y
    · rw [if_pos c] at h; cases h
    · by_cases c2 : y < x
      · rw [if_pos c2] at g; cases g
      · rw [if_neg c, if_neg c2] at h
        rw [if_neg c2, if_neg c] at g
        rw [show x = y by omega, strLt_total a b h g]
theorem strLt_trans : ∀ a b c, strLt a b = true → strLt b c = true → strLt a c = true
  | [], [], _, h, _ => by cases h
  | [], _ :: _, [], _, h => by cases h
  | [], _ :: _, _ :: _, _, _ => rfl
  | _ :: _, [], _, h, _ => by cases h
  | _ :: _, _ :: _, [], _, h => by cases h
  | x :: a, y :: b, z :: c, h, g => by
    unfold strLt at h g ⊢
    by_cases h1 : x < y
    · by_cases h2 : y < z
      · rw [if_pos (by omega)]
      · rw [if_neg h2] at g
        by_cases h3 : z < y
        · rw [if_pos h3] at g; cases g
        · rw [if_pos (by omega)]
    · rw [if_neg h1] at h
      by_cases h1b : y < x
      · rw [if_pos h1b] at h; cases h
      · rw [if_neg h1b] at h
        by_cases h2 : y < z
        · rw [if_pos (by omega)]
        · rw [if_neg h2] at g
          by_cases h3 : z < y
          · rw [if_pos h3] at g; cases g
          · rw [if_neg h3] at g
            rw [if_neg (by omega), if_neg (by omega)]
            exact strLt_trans a b c h g
/-- not above: a ≤ b -/
def strLe (a b : List Nat) : Prop := strLt b a = false
theorem strLe_trans {a b c : List Nat} (h : strLe a b) (g : strLe b c) : strLe a c := by
  unfold strLe at h g ⊢
  cases q : strLt c a with
  | false => rfl
  | true =>
    -- c < a ≤ b ≤ c
    by_cases e : a = b
    · subst e; rw [g] at q; cases q
    · have ab : strLt a b = true := by
        cases z : strLt a b with
        | true => rfl
        | false => exact absurd (strLt_total a b z h) e
      have := strLt_trans c a b q ab
      rw [g] at this; cases this
theorem insS_perm (x : List Nat) : ∀ l, (insS x l).Perm (x :: l)
  | [] => .refl _
  | y :: r => by
    unfold insS
    by_cases h : strLt y x = true
    · rw [if_pos h]; exact ((insS_perm x r).cons y).trans (.swap x y r)
    · rw [if_neg h]
theorem sortS_perm : ∀ l, (sortS l).Perm l
  | [] => .refl _
  | x :: r => (insS_perm x _).trans ((sortS_perm r).cons x)
theorem insS_sorted (x : List Nat) : ∀ l : List (List Nat), l.Pairwise strLe → (insS x l).Pairwise strLe
  | [], _ => by unfold insS; exact .cons (by simp) .nil
  | y :: r, h => by
    unfold insS
    by_cases c : strLt y x = true
    · rw [if_pos c]
      refine .cons (fun z hz => ?_) (insS_sorted x r (List.Pairwise.of_cons h))
      rcases List.mem_cons.mp ((insS_perm x r).mem_iff.mp hz) with rfl | hz
      · exact strLt_asymm _ _ c
      · exact List.rel_of_pairwise_cons h hz
    · rw [if_neg c]
      have c' : strLe x y := by unfold strLe; simpa using c
      refine .cons (fun z hz => ?_) h
      rcases List.mem_cons.mp hz with rfl | hz
      · exact c'
      · exact strLe_trans c' (List.rel_of_pairwise_cons h hz)
theorem sortS_sorted : ∀ l, (sortS l).Pairwise strLe
  | [] => .nil
  | x :: r => insS_sorted x _ (sortS_sorted r)
theorem ltCps_eq (a b : List Nat) : ltCps a b = strLt a b := by
  induction a generalizing b with
  | nil => cases b <;> rfl
  | cons x a ih =>
    cases b with
    | nil => rfl
    | cons y b =>
      unfold ltCps strLt
      rw [ih]
      by_cases h : x < y
      · simp [h]
      · by_cases h2 : y < x
        · have h3 : ¬ x = y := by omega
          simp [h, h2, h3]
        · have h3 : x = y := by omega
          simp [h3]
theorem sortedS_pw : ∀ {ys : List (List Nat)}, sortedS (ys.map sv) = true → ys.Pairwise strLe := by
  have go : ∀ (p : List Nat) (ys : List (List Nat)), risingS (sv p) (ys.map sv) = true → (p :: ys).Pairwise strLe := by
    intro p ys
    induction ys generalizing p with
    | nil => intro _; exact .cons (by simp) .nil
    | cons y ys ih =>
      intro h
      simp only [List.map_cons, risingS, Bool.and_eq_true, Bool.not_eq_true', sv_cps, ltCps_eq] at h
      have q := ih y h.2
      refine .cons (fun z hz => ?_) q
      have c : strLe p y := h.1
      rcases List.mem_cons.mp hz with rfl | hz
      · exact c
      · exact strLe_trans c (List.rel_of_pairwise_cons q hz)
  intro ys h
  cases ys with
  | nil => exact .nil
  | cons y ys => exact go y ys h
theorem joinS_eq (sep : List Nat) : ∀ ss : List (List Nat), Txt.join (sv sep) (ss.map sv) = sv (joinS sep ss) := by
  have go : ∀ ss : List (List Nat), Str.join (sv sep) (ss.map sv) = sv (joinS sep ss) := by
    intro ss
    induction ss with
    | nil => rfl
    | cons x ss ih =>
      cases ss with
      | nil => rfl
      | cons y ss =>
        show sv x ++ sv sep ++ Str.join (sv sep) ((y :: ss).map sv) = sv (x ++ sep ++ joinS sep (y :: ss))
        rw [ih, sv_app, sv_app]
  intro ss
  unfold Txt.join
  rw [StrLaws.glued_eq_join]
  exact go ss
/-- a new tuple of a list's parts -/
theorem Got.tupOf {ds : List D} (x : Got K G H G' H' m v (.lst ds) fp) : ∃ a vs, v = .ref a ∧ H' a = some (.lst vs) ∧ ∀ p, H' p = none →
    ∃ G2, Got K G H G2 (upd H' p (.tup vs)) (if (m == .bf && !D.flatL ds) = true then .bf else .fr) (.ref p) (.tup ds) [] := by
  by_cases hb : m = .bf
  · subst hb
    obtain ⟨_, q⟩ := x.val
    cases q with
    | lst h' t =>
      refine ⟨_, _, rfl, h', fun p hp => ?_⟩
      cases e : D.flatL ds with
      | false =>
        rename_i vs'
        have g2 := Grow.mine (o := .tup vs') x.gr.sub hp
        exact ⟨G', x.gr.trans g2, ⟨rfl, .tup (SqT.of upd_same) (t.mono g2.sH)⟩, List.nodup_nil, (fun _ z => by cases z), (fun _ z => by cases z)⟩
      | true =>
        rename_i vs'
        have g1 := x.gr.withT
        have g2 := Grow.laid (o := .tup vs') g1.sub hp
        exact ⟨_, g1.trans g2, ⟨rfl, .tup (SqT.of upd_same) ((Datas.flat x.gr.sub t e).mono g2.sG)⟩, List.nodup_nil, (fun _ z => by cases z), (fun _ z => by cases z)⟩
  · obtain ⟨a, vs, e1, e2, q⟩ := x.val.kids x.gr.sub (fun _ h => h) x.out fun z => absurd z hb
    refine ⟨a, vs, e1, e2, fun p hp => ?_⟩
    have e3 : (if (m == .bf && !D.flatL ds) = true then Mk.bf else .fr) = .fr := by
      have : (m == Mk.bf) = false := by cases m <;> first | rfl | exact absurd rfl hb
      rw [this]; rfl
    rw [e3]
    have g1 := x.gr.shr x.fresh x.out
    have g2 := Grow.laid (o := .tup vs) g1.sub hp
    exact ⟨_, g1.trans g2, ⟨rfl, .tup (SqT.of upd_same) (q.mono g2.sG)⟩, List.nodup_nil, (fun _ z => by cases z), (fun _ z => by cases z)⟩
/-- a new list of a tuple's parts -/
theorem Got.lstOf {ds : List D} (x : Got K G H G' H' m v (.tup ds) fp) : ∃ a vs, v = .ref a ∧ SqT K H' a vs ∧ ∀ p, H' p = none →
    ∃ G2 fq, Got K G H G2 (upd H' p (.lst vs)) (copyM m (.lst ds)) (.ref p) (.lst ds) fq := by
  by_cases hb : m = .bf
  · subst hb
    obtain ⟨_, q⟩ := x.val
    cases q with
    | tup h' t =>
      refine ⟨_, _, rfl, h', fun p hp => ?_⟩
      cases e : D.flatL ds with
      | false =>
        have e2 : copyM .bf (.lst ds) = .bf := by simp [copyM, e]
        rw [e2]
        exact ⟨G', [], Got.newLB x.gr t hp⟩
      | true =>
        have e2 : copyM .bf (.lst ds) = .sh := by simp [copyM, e]
        rw [e2]
        exact ⟨withT G' H', [p], Got.newL x.gr.withT (Datas.flat x.gr.sub t e) hp⟩
  · have q := x.val.tupG hb
    cases q with
    | tup h t =>
      refine ⟨_, _, rfl, Same.seqT x.gr.sub h, fun p hp => ⟨G', [p], ?_⟩⟩
      have e3 : copyM m (.lst ds) = .sh := by
        cases m with
        | bf => exact absurd rfl hb
        | _ => rfl
      rw [e3]
      exact Got.newL x.gr t hp
end

def biVal : Bi → Value
  | .len => .builtin "len"
  | .int1 => .type "int"
  | .list1 => .type "list"
  | .tuple1 => .type "tuple"
  | .sorted1 => .builtin "sorted"
  | .all1 => .builtin "all"
  | .any1 => .builtin "any"
  | .sum1 => .builtin "sum"
  | .min2 => .builtin "min"
  | .max2 => .builtin "max"
  | .abs1 => .builtin "abs"
  | .gcd2 => .builtin "math.gcd"
section
variable {X : Cx} {C : Ck} {cal : Nat → List D → Rs Vl} {gl : Nat → D} {xr : XRep} {xw : WX} {e : Nat → D → Prop}
/-- list(text), tuple(text) -/
theorem vals_signs {s : List Nat} {acc : Array Value} (h : ItemsOf (SignAt (sv s)) acc (sv s).cps.size) : Vals (s.map fun c => V.str (sv [c])) acc.toList := by
  refine vals_of_idx _ _ (by rw [Array.length_toList, List.length_map, h.1]; simp [sv]) fun j u hj => ?_
  obtain ⟨c, t, hc, rfl⟩ := h.2 j u (by rw [← Array.getElem?_toList]; exact hj)
  have hc2 : s[j]? = some c := by simpa [sv] using hc
  exact ⟨.str (sv [c]), by rw [List.getElem?_map, hc2]; rfl, ⟨_, rfl⟩⟩
theorem cr_listS {X : Cx} (hc : X.calm = true) : CallR X (.type "list") (fun xs H Q => ∃ s, xs = [.str (sv s)] ∧ s.length ≤ SZ ∧ ∀ p, H p = none → Q (.ref p) (upd H p (.lst (s.map fun c => .str (sv [c]))))) := by
  intro pins s σ H xs us Q I r h
  obtain ⟨z, rfl, hz, q⟩ := h
  cases r with
  | cons r1 r2 =>
    cases r2
    obtain ⟨t, rfl⟩ := r1
    have hz2 : (sv z).cps.size ≤ sizeLine := by rw [SZ_eq]; simpa [sv] using hz
    refine call_list_str (I.ok.hd hc) (sv z) t (fun h' tk acc c' hk e hi => ?_) hz2
    refine ⟨.ref s.heap.objs.size, upd H s.heap.objs.size (.lst (z.map fun c => .str (sv [c]))), I.laid hk (Nat.le_refl _) ⟨by rw [List.length_map, SZ_eq]; exact hz, acc.toList, c', vals_signs hi, by rw [Array.toArray_toList]; exact e⟩, rfl, q _ (I.hok.fresh (Nat.le_refl _))⟩
theorem cr_tupS {X : Cx} (hc : X.calm = true) : CallR X (.type "tuple") (fun xs H Q => ∃ s, xs = [.str (sv s)] ∧ s.length ≤ SZ ∧ ∀ p, H p = none → Q (.ref p) (upd H p (.tup (s.map fun c => .str (sv [c]))))) := by
  intro pins s σ H xs us Q I r h
  obtain ⟨z, rfl, hz, q⟩ := h
  cases r with
  | cons r1 r2 =>
    cases r2
    obtain ⟨t, rfl⟩ := r1
    have hz2 : (sv z).cps.size ≤ sizeLine := by rw [SZ_eq]; simpa [sv] using hz
    refine call_tuple_str (I.ok.hd hc) (sv z) t (fun h' tk acc hk hi => ?_) hz2
    have I2 : Inv X pins σ H { s with heap := h', toks := tk } := I.kept hk
    refine ⟨.ref h'.objs.size, upd H h'.objs.size (.tup (z.map fun c => .str (sv [c]))), I2.laid (t' := tk) (fun c o e => Heap.get?_push_of_some _ e) (Nat.le_refl _) (show ObjOk X.prog X.w _ _ _ (.tup (z.map fun c => .str (sv [c]))) from ⟨?_, acc.toList, vals_signs hi, ?_⟩), rfl, q _ (I2.hok.fresh (Nat.le_refl _))⟩
    · rw [List.length_map, SZ_eq]; exact hz
    · rw [Array.toArray_toList]; exact IsTup.new _ _
theorem datas_signs {K : PySem.W.Frag} {G : Hp} : ∀ s : List Nat, Datas K G (s.map fun c => V.str (sv [c])) (s.map fun c => D.str [c])
  | [] => .nil
  | c :: r => .cons (.str [c]) (datas_signs r)
theorem bi_ok1 (O : XOk X C cal gl xr xw) {b : Bi} {G H G' H' : Hp} {m : Mk} {d : D} {v : V} {fp : List Addr} {Q : VK} (y : Got X.K G H G' H' m v d fp)
    (h : (biD1 b (m, d)).Post e fun r => ∀ v G2 H2 fq, Got X.K G H G2 H2 r.1 v r.2 fq → Q v H2) : rwC X (biVal b) [v] H' Q := by
  have at_ : ∀ {d : D} {u : V}, Data X.K G' u d → d.flat = true → (∀ v G2 H2 fq, Got X.K G H G2 H2 .fu v d fq → Q v H2) → Q u H' := fun {d u} q fl h => h _ _ _ _ (Got.of_atom y.gr q fl)
  cases b with
  | len =>
    have q := y.data
    cases q with
    | lst h1 t =>
      refine rwC_of call_len ⟨_, _, rfl, .inl ⟨_, SqL.of h1, rfl⟩, ?_⟩
      rw [t.length]; exact at_ (.int _) rfl h
    | tup h1 t =>
      refine rwC_of call_len ⟨_, _, rfl, .inr ⟨_, h1, rfl⟩, ?_⟩
      rw [t.length]; exact at_ (.int _) rfl h
    | rls h1 t =>
      refine rwC_of call_len ⟨_, _, rfl, .inl ⟨_, h1, rfl⟩, ?_⟩
      rw [t.length]; exact at_ (.int _) rfl h
    | dic h1 l t =>
      rename_i a ks vs ds
      refine rwC_of call_lenD ⟨_, _, rfl, h1, ?_⟩
      have e1 : (ks.zip vs).length = (ks.map keyD).length := by rw [List.length_zip, List.length_map, l, Nat.min_self]
      rw [e1]
      exact at_ (.int _) rfl h
    | str s =>
      by_cases c : s.length ≤ SZ
      · simp only [biD1, c, if_true] at h
        refine rwC_of call_len ⟨_, _, rfl, ⟨by rw [sv_len, SZ_eq]; exact c, rfl⟩, ?_⟩
        rw [sv_len]; exact at_ (.int _) rfl h
      · simp only [biD1, c, if_false] at h; exact False.elim h
    | _ => exact False.elim h
  | int1 =>
    have q := y.data
    cases q with
    | int i => exact rwC_of call_int1 (.inl ⟨_, rfl, at_ (.int _) rfl h⟩)
    | bl i => exact rwC_of call_int1 (.inr ⟨_, rfl, at_ (.int _) rfl h⟩)
    | _ => exact False.elim h
  | list1 =>
    cases d with
    | lst ds =>
      obtain ⟨a, vs, rfl, hl, k⟩ := y.copyL (fun vs => vs) (ds2 := ds) fun _ _ q => q
      refine rwC_of call_list_of ⟨a, vs, rfl, .inl (SqL.of hl), fun l hl => ?_⟩
      obtain ⟨G2, fq, g⟩ := k l hl
      exact h _ _ _ _ g
    | tup ds =>
      obtain ⟨a, vs, rfl, hl, k⟩ := y.lstOf
      refine rwC_of call_list_of ⟨a, vs, rfl, .inr hl, fun l hl => ?_⟩
      obtain ⟨G2, fq, g⟩ := k l hl
      exact h _ _ _ _ g
    | str s =>
      obtain rfl := data_str y.data
      by_cases c : s.length ≤ SZ
      · simp only [biD1, c, if_true] at h
        exact rwC_of (cr_listS O.calm) ⟨s, rfl, c, fun p hp => h _ _ _ _ (Got.newL y.gr (datas_signs s) hp)⟩
      · simp only [biD1, c, if_false] at h; exact False.elim h
    | _ => exact False.elim h
  | tuple1 =>
    cases d with
    | lst ds =>
      obtain ⟨a, vs, rfl, hl, k⟩ := y.tupOf
      refine rwC_of call_tuple_of ⟨a, vs, rfl, .inl ⟨SqL.of hl, fun l hl => ?_⟩⟩
      obtain ⟨G2, g⟩ := k l hl
      by_cases c : (m == .bf && !D.flatL ds) = true
      · simp only [biD1, c, if_true] at h
        rw [if_pos c] at g
        exact h _ _ _ _ g
      · simp only [biD1, c, if_false] at h
        rw [if_neg c] at g
        exact h _ _ _ _ g
    | tup ds =>
      have q := y.data
      cases q with
      | tup h1 t => exact rwC_of call_tuple_of ⟨_, _, rfl, .inr ⟨h1, h _ _ _ _ y⟩⟩
    | str s =>
      obtain rfl := data_str y.data
      by_cases c : s.length ≤ SZ
      · simp only [biD1, c, if_true] at h
        refine rwC_of (cr_tupS O.calm) ⟨s, rfl, c, fun p hp => ?_⟩
        have g2 := Grow.laid (o := .tup (s.map fun c => V.str (sv [c]))) y.gr.sub hp
        exact h _ _ _ _ ⟨y.gr.trans g2, ⟨rfl, .tup (SqT.of upd_same) (datas_signs s)⟩, List.nodup_nil, (fun _ z => by cases z), (fun _ z => by cases z)⟩
      · simp only [biD1, c, if_false] at h; exact False.elim h
    | _ => exact False.elim h
  | sorted1 =>
    cases d with
    | lst ds =>
      have q := y.data
      cases q with
      | lst h1 t =>
        cases hi : listI ds with
        | some ns =>
          simp only [biD1, hi] at h
          have ev := ints_some hi t
          subst ev
          refine rwC_of cr_sortedI ⟨_, ns, rfl, SqL.of h1, fun ns' p pm so hp => ?_⟩
          have es : ns' = sortI ns := perm_sorted_eq (R := (· ≤ ·)) (fun a b h1 h2 => Int.le_antisymm h1 h2) (pm.trans (sortI_perm ns).symm) so (sortI_sorted ns)
          subst es
          exact h _ _ _ _ (Got.newL y.gr (Datas.mapI _) hp)
        | none =>
          simp only [biD1, hi] at h
          cases hs : listS ds with
          | none => rw [hs] at h; exact False.elim h
          | some ss =>
            rw [hs] at h
            simp only at h
            by_cases c : ss.length < 64
            · rw [if_pos c] at h
              have ev := strs_some hs t
              subst ev
              refine rwC_of cr_sortedS ⟨_, ss.map sv, rfl, SqL.of h1, by simpa using c, fun ys p pm so hp => ?_⟩
              obtain ⟨zs, rfl⟩ : ∃ zs : List (List Nat), ys = zs.map sv := ⟨ys.map fun y => y.cps.toList, by
                rw [List.map_map]
                conv => lhs; rw [← List.map_id ys]
                refine List.map_congr_left fun y _ => ?_
                cases y; simp [sv]⟩
              have pm2 : zs.Perm ss := by
                have q := pm.map (fun y => y.cps.toList)
                rw [List.map_map, List.map_map] at q
                have id_ : ∀ l : List (List Nat), l.map ((fun y => y.cps.toList) ∘ sv) = l := fun l => by
                  conv => rhs; rw [← List.map_id l]
                  exact List.map_congr_left fun y _ => by simp [sv]
                rw [id_, id_] at q
                exact q
              have es : zs = sortS ss := perm_sorted_eq (R := strLe) (fun a b h1 h2 => strLt_total a b h2 h1) (pm2.trans (sortS_perm ss).symm) (sortedS_pw so) (sortS_sorted ss)
              subst es
              exact h _ _ _ _ (Got.newL y.gr (Datas.mapS _) hp)
            · rw [if_neg c] at h; exact False.elim h
    | _ => exact False.elim h
  | all1 =>
    cases d with
    | lst ds =>
      have q := y.data
      cases q with
      | lst h1 t =>
        cases hi : listB ds with
        | none => simp only [biD1, hi] at h; exact False.elim h
        | some bs =>
          simp only [biD1, hi] at h
          have ev := bools_some hi t
          subst ev
          exact rwC_of (cr_all O.calm) ⟨_, bs, rfl, SqL.of h1, at_ (.bl _) rfl h⟩
    | _ => exact False.elim h
  | any1 =>
    cases d with
    | lst ds =>
      have q := y.data
      cases q with
      | lst h1 t =>
        cases hi : listB ds with
        | none => simp only [biD1, hi] at h; exact False.elim h
        | some bs =>
          simp only [biD1, hi] at h
          have ev := bools_some hi t
          subst ev
          exact rwC_of (cr_any O.calm) ⟨_, bs, rfl, SqL.of h1, at_ (.bl _) rfl h⟩
    | _ => exact False.elim h
  | sum1 =>
    cases d with
    | lst ds =>
      have q := y.data
      cases q with
      | lst h1 t =>
        cases hi : listI ds with
        | none => simp only [biD1, hi] at h; exact False.elim h
        | some bs =>
          simp only [biD1, hi] at h
          have ev := ints_some hi t
          subst ev
          exact rwC_of (cr_sum O.calm) ⟨_, bs, rfl, SqL.of h1, at_ (.int _) rfl h⟩
    | _ => exact False.elim h
  | abs1 =>
    cases d with
    | int i =>
      obtain rfl := data_int y.data
      exact rwC_of call_abs ⟨_, rfl, at_ (.int _) rfl h⟩
    | _ => exact False.elim h
  | _ => exact False.elim h
theorem bi_ok2 (O : XOk X C cal gl xr xw) {b : Bi} {G H G' H' : Hp} {m n : Mk} {d d2 : D} {v w : V} {Q : VK} (g : Grow G H G' H') (q1 : Data X.K H' v d) (q2 : Data X.K H' w d2)
    (h : (biD2 b (m, d) (n, d2)).Post e fun r => ∀ v G2 H2 fq, Got X.K G H G2 H2 r.1 v r.2 fq → Q v H2) : rwC X (biVal b) [v, w] H' Q := by
  have at_ : ∀ {d : D} {u : V}, Data X.K G' u d → d.flat = true → (∀ v G2 H2 fq, Got X.K G H G2 H2 .fu v d fq → Q v H2) → Q u H' := fun {d u} q fl h => h _ _ _ _ (Got.of_atom g q fl)
  cases b with
  | min2 =>
    cases d <;> cases d2 <;> first | exact False.elim h | skip
    obtain rfl := data_int q1
    obtain rfl := data_int q2
    exact rwC_of (call_min2 O.calm) ⟨_, _, rfl, at_ (.int _) rfl h⟩
  | max2 =>
    cases d <;> cases d2 <;> first | exact False.elim h | skip
    obtain rfl := data_int q1
    obtain rfl := data_int q2
    exact rwC_of (call_max2 O.calm) ⟨_, _, rfl, at_ (.int _) rfl h⟩
  | gcd2 =>
    cases d <;> cases d2 <;> first | exact False.elim h | skip
    obtain rfl := data_int q1
    obtain rfl := data_int q2
    exact rwC_of cr_gcd ⟨_, _, rfl, at_ (.int _) rfl h⟩
  | _ => exact False.elim h
theorem bi_ok (O : XOk X C cal gl xr xw) {b : Bi} {G H G' H' : Hp} {ms : List Vl} {vs : List V} {fp : List Addr} {Q : VK} (x : Gots X.K G H G' H' ms vs fp)
    (h : (biD b ms).Post e fun r => ∀ v G2 H2 fq, Got X.K G H G2 H2 r.1 v r.2 fq → Q v H2) : rwC X (biVal b) vs H' Q := by
  match ms, x, h with
  | [], _, h => exact False.elim h
  | [(m, d)], x, h =>
    obtain ⟨v, rfl, y⟩ := x.one
    exact bi_ok1 O y h
  | [(m, d), (n, d2)], x, h =>
    obtain ⟨v, w, rfl, q1, q2⟩ := x.two
    exact bi_ok2 O x.gr q1 q2 h
  | _ :: _ :: _ :: _, _, h => exact False.elim h
end
end DP

namespace DP
open PySem PySem.Spec PyProof.Rows L2
section
variable {K : PySem.W.Frag} {Gc Hc G H G' H' : Hp} {E : Ev} {σ : List (Option V)} {fps : Nat → List Addr}
/-- a slot is stored -/
theorem Holds.set (h : Holds K Gc Hc G H E σ fps) {m : Mk} {v : V} {d : D} {fp : List Addr} (g : Got K G H G' H' m v d fp) (hm : m = .fr ∨ m = .sh ∨ m = .fu) (i : Nat) :
    Holds K Gc Hc G' H' (E.set i (some (m, d))) (σ.set i (some v)) (fun j => if j = i then fp else fps j) := by
  have h2 := h.grow g.gr
  refine ⟨h2.gr, fun j n x e => ?_, by rw [List.length_set, List.length_set]; exact h.len, fun j => ?_, fun j k a ha hb => ?_, fun j a ha => ?_, fun j a ha => ?_, fun j a ha => ?_⟩
  · by_cases hj : j = i
    · subst hj
      have hl : j < E.length := by
        rw [List.getElem?_set] at e
        by_cases c : j < E.length
        · exact c
        · simp [c] at e
      rw [List.getElem?_set_self hl] at e
      cases e
      refine ⟨hm, v, ?_, ?_⟩
      · rw [List.getElem?_set_self (by rw [h.len]; exact hl)]
      · simp only [if_pos]; exact g.val
    · rw [List.getElem?_set_ne (Ne.symm hj)] at e
      obtain ⟨q1, w, q2, q3⟩ := h2.slot j n x e
      refine ⟨q1, w, ?_, ?_⟩
      · rw [List.getElem?_set_ne (Ne.symm hj)]; exact q2
      · rw [if_neg hj]; exact q3
  · by_cases hj : j = i
    · rw [if_pos hj]; exact g.nd
    · rw [if_neg hj]; exact h.nd j
  · by_cases hj : j = i <;> by_cases hk : k = i
    · rw [hj, hk]
    · rw [if_pos hj] at ha
      rw [if_neg hk] at hb
      have m1 := h.mu k a hb
      rw [g.fresh a ha] at m1
      exact False.elim m1
    · rw [if_neg hj] at ha
      rw [if_pos hk] at hb
      have m1 := h.mu j a ha
      rw [g.fresh a hb] at m1
      exact False.elim m1
    · rw [if_neg hj] at ha
      rw [if_neg hk] at hb
      exact h.dj j k a ha hb
  · by_cases hj : j = i
    · rw [if_pos hj] at ha; exact h.gr.sH.free (g.fresh a ha)
    · rw [if_neg hj] at ha; exact h.fresh j a ha
  · by_cases hj : j = i
    · rw [if_pos hj] at ha; exact g.out a ha
    · rw [if_neg hj] at ha; exact h2.out j a ha
  · by_cases hj : j = i
    · rw [if_pos hj] at ha; exact g.val.mut a ha
    · rw [if_neg hj] at ha; exact h2.mu j a ha
theorem Got.ofData (s : Same G H) {v : V} {d : D} (q : Data K G v d) : Got K G H G H .fr v d [] := ⟨Grow.refl s, ⟨rfl, q⟩, List.nodup_nil, (fun _ z => by cases z), (fun _ z => by cases z)⟩
/-- slots forgotten -/
theorem wipeE_get (own : List Nat) (E : Ev) (j : Nat) : (wipeE own E)[j]? = if j ∈ own then (if j < E.length then some none else none) else E[j]? := by
  have len : ∀ own : List Nat, (wipeE own E).length = E.length := by
    intro own
    induction own with
    | nil => rfl
    | cons i own ih =>
      show ((wipeE own E).set i none).length = E.length
      rw [List.length_set, ih]
  induction own with
  | nil => simp [wipeE]
  | cons i own ih =>
    show ((wipeE own E).set i none)[j]? = _
    by_cases hj : j = i
    · subst hj
      rw [List.getElem?_set]
      simp [len own]
    · rw [List.getElem?_set_ne (Ne.symm hj), ih]
      simp [hj]
theorem wipeE_len (own : List Nat) (E : Ev) : (wipeE own E).length = E.length := by
  induction own with
  | nil => rfl
  | cons i own ih =>
    show ((wipeE own E).set i none).length = E.length
    rw [List.length_set, ih]
theorem wipe_get (own : List Nat) (σ : List (Option V)) (j : Nat) : (wipe σ own)[j]? = if j ∈ own then (if j < σ.length then some none else none) else σ[j]? := by
  induction own with
  | nil => simp [wipe]
  | cons i own ih =>
    show ((wipe σ own).set i none)[j]? = _
    by_cases hj : j = i
    · subst hj
      rw [List.getElem?_set]
      simp [wipe_length σ own]
    · rw [List.getElem?_set_ne (Ne.symm hj), ih]
      simp [hj]
theorem Holds.wipe (h : Holds K Gc Hc G H E σ fps) (own : List Nat) : Holds K Gc Hc G H (wipeE own E) (L2.wipe σ own) fps := by
  refine ⟨h.gr, fun i m d e => ?_, by rw [wipeE_len, wipe_length]; exact h.len, h.nd, h.dj, h.fresh, h.out, h.mu⟩
  rw [wipeE_get] at e
  by_cases c : i ∈ own
  · rw [if_pos c] at e
    split at e <;> simp at e
  · rw [if_neg c] at e
    obtain ⟨q1, v, q2, q3⟩ := h.slot i m d e
    exact ⟨q1, v, by rw [wipe_get, if_neg c]; exact q2, q3⟩
theorem wipe_same {σ σ' : List (Option V)} {own : List Nat} (hl : σ'.length = σ.length) (h : ∀ j, j ∉ own → σ'[j]? = σ[j]?) : L2.wipe σ' own = L2.wipe σ own := by
  refine List.ext_getElem? fun j => ?_
  rw [wipe_get, wipe_get, hl]
  by_cases c : j ∈ own
  · rw [if_pos c, if_pos c]
  · rw [if_neg c, if_neg c, h j c]
theorem wipe_wipe (σ : List (Option V)) (own : List Nat) : L2.wipe (L2.wipe σ own) own = L2.wipe σ own := by
  refine List.ext_getElem? fun j => ?_
  rw [wipe_get, wipe_length]
  by_cases c : j ∈ own
  · rw [if_pos c, wipe_get, if_pos c]
  · rw [if_neg c]
/-- several slots stored, shared -/
theorem Holds.setAll : ∀ {is : List Nat} {ds : List D} {vs : List V} {E : Ev} {σ : List (Option V)} {fps : Nat → List Addr}, Holds K Gc Hc G H E σ fps → Datas K G vs ds → is.length = ds.length →
    ∃ fps', Holds K Gc Hc G H (DP.setAll is ds E) ((is.zip vs).foldl (fun σ p => σ.set p.1 (some p.2)) σ) fps'
  | [], ds, vs, E, σ, fps, h, q, e => by
    cases ds with
    | nil => cases q; exact ⟨fps, h⟩
    | cons _ _ => simp at e
  | i :: is, [], vs, E, σ, fps, h, q, e => by simp at e
  | i :: is, d :: ds, vs, E, σ, fps, h, q, e => by
    cases q with
    | cons q1 q2 =>
      have h2 := h.set (Got.ofData h.gr.sub q1) (.inl rfl) i
      exact Holds.setAll (is := is) (ds := ds) (E := E.set i (some (.fr, d))) h2 q2 (by simpa using e)
end
/-! targets -/
def gsOf : List Nat → TGs
  | [] => gNil
  | i :: is => gCons (gName i) (gsOf is)
def gOf (K : PySem.W.Frag) : Pat → TG
  | .nm i => gName i
  | .tp is => gTup K is.length (gsOf is)
section
variable {X : Cx} {C : Ck} {cal : Nat → List D → Rs Vl} {gl : Nat → D} {xr : XRep} {xw : WX}
theorem tg_ok (O : XOk X C cal gl xr xw) {i : Nat} {e : Expr} (h : tgC C i e = true) : PG X e (gName i) ∧ ∃ x p, e = .Name x p := by
  unfold tgC at h
  split at h
  · simp only [Bool.and_eq_true, decide_eq_true_eq, Bool.or_eq_true] at h
    obtain ⟨⟨⟨h1, h2⟩, h3⟩, h4⟩ := h
    refine ⟨pg_name O.nd (by rw [O.hN]; exact h1) (by rw [O.hsc]; exact locC_ok h2) ?_, _, _, rfl⟩
    rcases h4 with h4 | h4
    · exact .inl (O.fl _ h4)
    · exact .inr (by rw [O.hsc]; exact h4)
  · cases h
theorem tgs_ok (O : XOk X C cal gl xr xw) : ∀ {is : List Nat} {es : List Expr}, tgsC C is es = true → PGs X es (gsOf is) ∧ (assignEach es X.env).length = is.length ∧ (assignEach es X.env).findIdx? (·.1) = none
  | [], [], _ => ⟨pgs_nil, rfl, rfl⟩
  | [], _ :: _, h => by cases h
  | _ :: _, [], h => by cases h
  | i :: is, e :: es, h => by
    simp only [tgsC, Bool.and_eq_true] at h
    obtain ⟨g, x, p, rfl⟩ := tg_ok O h.1
    obtain ⟨r1, r2, r3⟩ := tgs_ok O h.2
    refine ⟨pgs_cons g r1 rfl, ?_, ?_⟩
    · show (_ :: assignEach es X.env).length = _
      rw [List.length_cons, r2]; rfl
    · show List.findIdx? _ ((false, _) :: assignEach es X.env) = none
      rw [List.findIdx?_cons]
      simp [r3]
theorem pat_ok (O : XOk X C cal gl xr xw) {p : Pat} {e : Expr} (h : patC C p e = true) : PG X e (gOf X.K p) := by
  cases p with
  | nm i => exact (tg_ok O h).1
  | tp is =>
    cases e <;> first | (simp [patC] at h; done) | skip
    obtain ⟨r1, r2, r3⟩ := tgs_ok O h
    exact pg_tup O.calm r1 r2 r3
theorem gs_run : ∀ {is : List Nat} {vs : List V} {σ : List (Option V)} {H : Hp} {Q : List (Option V) → Hp → Prop}, is.length = vs.length → Q ((is.zip vs).foldl (fun σ p => σ.set p.1 (some p.2)) σ) H → gsOf is vs σ H Q
  | [], vs, σ, H, Q, e, q => by
    cases vs with
    | nil => exact ⟨rfl, q⟩
    | cons _ _ => simp at e
  | i :: is, [], σ, H, Q, e, q => by simp at e
  | i :: is, v :: vs, σ, H, Q, e, q => ⟨v, vs, rfl, gs_run (by simpa using e) q⟩
theorem foldl_out : ∀ {l : List (Nat × V)} {σ : List (Option V)}, (l.foldl (fun σ p => σ.set p.1 (some p.2)) σ).length = σ.length ∧ ∀ j, (∀ p ∈ l, p.1 ≠ j) → (l.foldl (fun σ p => σ.set p.1 (some p.2)) σ)[j]? = σ[j]?
  | [], σ => ⟨rfl, fun _ _ => rfl⟩
  | p :: l, σ => by
    obtain ⟨h1, h2⟩ := foldl_out (l := l) (σ := σ.set p.1 (some p.2))
    refine ⟨by rw [List.foldl_cons, h1, List.length_set], fun j hj => ?_⟩
    rw [List.foldl_cons, h2 j fun q hq => hj q (List.mem_cons_of_mem _ hq), List.getElem?_set_ne (hj p List.mem_cons_self)]
/-- a value to a target -/
theorem bind_ok {K : PySem.W.Frag} {Gc Hc G H : Hp} {E E' : Ev} {σ : List (Option V)} {fps : Nat → List Addr} (hH : Holds K Gc Hc G H E σ fps) {p : Pat} {x : V} {d : D} (q : Data K G x d) (hb : bindP p d E = some E') {Q : List (Option V) → Hp → Prop}
    (k : ∀ σ' fps', Holds K Gc Hc G H E' σ' fps' → σ'.length = σ.length → (∀ j, j ∉ p.slots → σ'[j]? = σ[j]?) → Q σ' H) : gOf K p x σ H Q := by
  cases p with
  | nm i =>
    cases hb
    refine k _ _ (hH.set (Got.ofData hH.gr.sub q) (.inl rfl) i) (by rw [List.length_set]) fun j hj => ?_
    rw [List.getElem?_set_ne]
    intro e
    exact hj (by simp [Pat.slots, e])
  | tp is =>
    cases d <;> first | (simp [bindP] at hb; done) | skip
    rename_i ds
    simp only [bindP] at hb
    by_cases c : is.length = ds.length
    · rw [if_pos c] at hb
      cases hb
      cases q with
      | tup h t =>
        rename_i a vs
        have hl := t.length
        refine ⟨a, vs, rfl, Same.seqT hH.gr.sub h, by omega, ?_⟩
        obtain ⟨fps', h2⟩ := hH.setAll t c
        refine gs_run (by omega) (k _ fps' h2 foldl_out.1 fun j hj => foldl_out.2 j fun p hp e => ?_)
        subst e
        exact hj (List.of_mem_zip hp).1
    · rw [if_neg c] at hb; cases hb
/-! what is walked -/
/-- J walks the data ds, which stand in G0, while what stands in P stays -/
def WP (K : PySem.W.Frag) (G0 P : Hp) (J : It) (ds : List D) : Prop := ∃ (Gp : Hp → Prop) (Y : Nat → Hp → V → Hp → Prop), Walk J ds.length Gp Y ∧ (∀ H, Same P H → Gp H) ∧
  ∀ i H x H' d, ds[i]? = some d → Gp H → Y i H x H' → ∀ G, Same G0 G → Same G H → ∃ G', Grow G H G' H' ∧ Data K G' x d
/-- J walks the data ds, whose cells stand in G0 -/
def WD (K : PySem.W.Frag) (G0 : Hp) (J : It) (ds : List D) : Prop := ∃ (Gp : Hp → Prop) (Y : Nat → Hp → V → Hp → Prop), Walk J ds.length Gp Y ∧ (∀ H, Same G0 H → Gp H) ∧
  ∀ i H x H' d, ds[i]? = some d → Gp H → Y i H x H' → ∀ G, Same G0 G → Same G H → ∃ G', Grow G H G' H' ∧ Data K G' x d
theorem WD.up {K : PySem.W.Frag} {G0 P : Hp} {J : It} {ds : List D} (h : WD K G0 J ds) (s : Same G0 P) : WP K G0 P J ds := by
  obtain ⟨Gp, Y, w, h1, h2⟩ := h
  exact ⟨Gp, Y, w, fun H q => h1 H (s.trans q), h2⟩
/-- a list of one's own, its items shared -/
theorem wp_own {K : PySem.W.Frag} {G0 P : Hp} {a : Addr} {vs : List V} {ds : List D} (h : P a = some (.lst vs)) (t : Datas K G0 vs ds) : WP K G0 P (Itl K a) ds := by
  rw [WP, ← t.length]
  refine ⟨_, _, walk_list, fun H s => SqL.of (s _ _ h), fun i H x H' d hd _ y G s sG => ?_⟩
  obtain ⟨rfl, hx⟩ := y
  obtain ⟨u, hu, r⟩ := t.getV hx
  rw [hd] at hu
  cases hu
  exact ⟨G, Grow.refl sG, r.mono s⟩
theorem wd_list {K : PySem.W.Frag} {G0 : Hp} {a : Addr} {ds : List D} (q : Data K G0 (.ref a) (.lst ds)) : WD K G0 (Itl K a) ds := by
  cases q with
  | lst h t =>
    rename_i vs
    rw [WD, ← t.length]
    refine ⟨_, _, walk_list, fun H s => SqL.of (s _ _ h), fun i H x H' d hd _ y G s sG => ?_⟩
    obtain ⟨rfl, hx⟩ := y
    obtain ⟨u, hu, r⟩ := t.getV hx
    rw [hd] at hu
    cases hu
    exact ⟨G, Grow.refl sG, r.mono s⟩
theorem wd_tup {K : PySem.W.Frag} {G0 : Hp} {a : Addr} {ds : List D} (q : Data K G0 (.ref a) (.tup ds)) : WD K G0 (Itt K a) ds := by
  cases q with
  | tup h t =>
    rename_i vs
    rw [WD, ← t.length]
    refine ⟨_, _, walk_tup, fun H s => Same.seqT s h, fun i H x H' d hd _ y G s sG => ?_⟩
    obtain ⟨rfl, hx⟩ := y
    obtain ⟨u, hu, r⟩ := t.getV hx
    rw [hd] at hu
    cases hu
    exact ⟨G, Grow.refl sG, r.mono s⟩
theorem wd_str {K : PySem.W.Frag} {G0 : Hp} {s : List Nat} : WD K G0 (Its (sv s)) (s.map fun c => .str [c]) := by
  have e : (s.map fun c => D.str [c]).length = (sv s).cps.size := by simp [sv]
  rw [WD, e]
  refine ⟨_, _, walk_str, fun _ _ => trivial, fun i H x H' d hd _ y G s0 sG => ?_⟩
  obtain ⟨rfl, c, hc, rfl⟩ := y
  rw [List.getElem?_map] at hd
  have hc2 : s[i]? = some c := by simpa [sv] using hc
  rw [hc2] at hd
  cases hd
  exact ⟨G, Grow.refl sG, .str [c]⟩
theorem rngL_len (lo : Int) (n : Nat) : (rngL lo n).length = n := by
  induction n generalizing lo with
  | zero => rfl
  | succ n ih => simp [rngL, ih]
theorem rngL_get (lo : Int) (n i : Nat) : (rngL lo n)[i]? = if i < n then some (.int (lo + i)) else none := by
  induction n generalizing lo i with
  | zero => simp [rngL]
  | succ n ih =>
    cases i with
    | zero => simp [rngL]
    | succ i =>
      simp only [rngL, List.getElem?_cons_succ, ih]
      by_cases c : i < n
      · rw [if_pos c, if_pos (by omega)]
        congr 2
        omega
      · rw [if_neg c, if_neg (by omega)]
theorem wd_rng {K : PySem.W.Frag} {G0 : Hp} {lo : Int} {n : Nat} : WD K G0 (Itr lo n) (rngL lo n) := by
  rw [WD, rngL_len]
  refine ⟨_, _, walk_range, fun _ _ => trivial, fun i H x H' d hd _ y G s0 sG => ?_⟩
  obtain ⟨rfl, rfl⟩ := y
  rw [rngL_get] at hd
  split at hd
  · cases hd
    exact ⟨G, Grow.refl sG, .int _⟩
  · cases hd
theorem enumL_len (k : Int) (ds : List D) : (enumL k ds).length = ds.length := by
  induction ds generalizing k with
  | nil => rfl
  | cons d ds ih => simp [enumL, ih]
theorem enumL_get (k : Int) (ds : List D) (i : Nat) : (enumL k ds)[i]? = (ds[i]?).map fun d => .tup [.int (k + i), d] := by
  induction ds generalizing k i with
  | nil => simp [enumL]
  | cons d ds ih =>
    cases i with
    | zero => simp [enumL]
    | succ i =>
      have e : k + 1 + (i : Int) = k + ((i + 1 : Nat) : Int) := by omega
      simp only [enumL, List.getElem?_cons_succ, ih, e]
theorem wd_enum {K : PySem.W.Frag} {G0 : Hp} {a : Addr} {ds : List D} (q : Data K G0 (.ref a) (.lst ds)) : WD K G0 (Ite K a) (enumL 0 ds) := by
  cases q with
  | lst h t =>
    rename_i vs
    rw [WD, enumL_len, ← t.length]
    refine ⟨_, _, walk_enum, fun H s => SqL.of (s _ _ h), fun i H x H' d hd _ y G s sG => ?_⟩
    obtain ⟨T, u, w, rfl, hT, rfl, hu, hw⟩ := y
    cases hu
    obtain ⟨z, hz, r⟩ := t.getV hw
    rw [enumL_get, hz] at hd
    cases hd
    refine ⟨_, Grow.laid sG hT, .tup (SqT.of upd_same) (.cons ?_ (.cons (r.mono (s.trans (Grow.laid sG hT).sG)) .nil))⟩
    rw [Int.zero_add]
    exact .int _
theorem zipL_len (xs ys : List D) : (zipL xs ys).length = min xs.length ys.length := by
  induction xs generalizing ys with
  | nil => simp [zipL]
  | cons x xs ih =>
    cases ys with
    | nil => simp [zipL]
    | cons y ys => simp [zipL, ih]
theorem zipL_get (xs ys : List D) (i : Nat) {d : D} (h : (zipL xs ys)[i]? = some d) : ∃ x y, xs[i]? = some x ∧ ys[i]? = some y ∧ d = .tup [x, y] := by
  induction xs generalizing ys i with
  | nil => simp [zipL] at h
  | cons x xs ih =>
    cases ys with
    | nil => simp [zipL] at h
    | cons y ys =>
      cases i with
      | zero => simp [zipL] at h; exact ⟨x, y, rfl, rfl, h.symm⟩
      | succ i =>
        simp only [zipL, List.getElem?_cons_succ] at h ⊢
        exact ih ys i h
theorem wd_zip {K : PySem.W.Frag} {G0 : Hp} {a b : Addr} {xs ys : List D} (q : Data K G0 (.ref a) (.lst xs)) (q2 : Data K G0 (.ref b) (.lst ys)) : WD K G0 (Itz K a b) (zipL xs ys) := by
  cases q with
  | lst h t =>
    cases q2 with
    | lst h2 t2 =>
      rw [WD, zipL_len]
      refine ⟨_, _, walk_zip (by rw [t.length, t2.length]), fun H s => ⟨SqL.of (s _ _ h), SqL.of (s _ _ h2)⟩, fun i H x H' d hd _ y G s sG => ?_⟩
      obtain ⟨T, u, w, rfl, hT, rfl, hu, hw⟩ := y
      obtain ⟨z1, z2, e1, e2, rfl⟩ := zipL_get xs ys i hd
      obtain ⟨y1, f1, r1⟩ := t.getV hu
      obtain ⟨y2, f2, r2⟩ := t2.getV hw
      rw [e1] at f1; cases f1
      rw [e2] at f2; cases f2
      have g := Grow.laid (o := .tup [u, w]) sG hT
      exact ⟨_, g, .tup (SqT.of upd_same) (.cons (r1.mono (s.trans g.sG)) (.cons (r2.mono (s.trans g.sG)) .nil))⟩
theorem wd_rev {K : PySem.W.Frag} {G0 : Hp} {a : Addr} {vs : List V} {ds : List D} (h : G0 a = some (.lst vs)) (t : Datas K G0 vs ds) : WD K G0 (Itv K a vs.length) ds.reverse := by
  rw [WD, List.length_reverse, ← t.length]
  refine ⟨_, _, walk_rev, fun H s => SqL.of (s _ _ h), fun i H x H' d hd _ y G s sG => ?_⟩
  obtain ⟨rfl, hx⟩ := y
  have hi : i < ds.length := by
    have := (List.getElem?_eq_some_iff.mp hd).1
    simpa using this
  rw [List.getElem?_reverse hi] at hd
  rw [t.length] at hx
  obtain ⟨z, hz, r⟩ := t.getV hx
  rw [hd] at hz
  cases hz
  exact ⟨G, Grow.refl sG, r.mono s⟩
/-! enumerate(text) -/
def Itn (x : Str) : It :=
  ⟨fun i _ => i < x.cps.size, fun i H v H' => ∃ T c, v = .ref T ∧ H T = none ∧ H' = upd H T (.tup [.int (i : Nat), .str ⟨#[c]⟩]) ∧ x.cps[i]? = some c, fun i _ => x.cps.size ≤ i⟩
theorem draws_str {prog : Program} {w : World} {A : Around} (hh : A.handled = none) (it : Addr) (x : Str) (t : Tok) : Draws prog w A it [it] x.cps.size (SignAt x) (fun i h => h.IsStrIter it (strIterType x) x t i) := by
  unfold strIterType
  split
  · exact Draws.strAscii hh it x t
  · exact Draws.strWide hh it x t
theorem nextS_end {prog : Program} {w : World} {A : Around} {E : Value → Shared → Prop} {s : Shared} {it : Addr} {x : Str} {t : Tok} {i : Nat} {Q : Value → Shared → Prop} (hh : A.handled = none) (hit : s.heap.IsStrIter it (strIterType x) x t i) (hx : x.cps[i]? = none)
    (hE : ∀ h' e, Heap.ExtBut it s.heap h' → (∃ o, h'.get? e = some o ∧ o.cls = .type "StopIteration") → E (.ref e) { s with heap := h' }) : wpAny (model prog w) A (Builtin.SmallTypes.nextOf (.ref it)) Q E s := by
  unfold strIterType at hit
  split at hit
  · exact wpAny_nextOf_ascii_end hh hit hx hE
  · exact wpAny_nextOf_wide_end hh hit hx hE
theorem enumS_end {prog : Program} {w : World} {A : Around} {E : Value → Shared → Prop} {s : Shared} {e it : Addr} {x : Str} {t : Tok} {i : Nat} {old : Value} {Q : Option Value → Shared → Prop} (hh : A.in1.handled = none) (he : IsEnum s.heap e it i old) (hit : s.heap.IsStrIter it (strIterType x) x t i) (hx : x.cps.size ≤ i)
    (hQ : ∀ h', Heap.ExtBut it s.heap h' → Q none { s with heap := h' }) : wpAny (model prog w) A (pyNext (.ref e)) Q E s := by
  have hT : s.TypeIs (.ref e) "enumerate" := ⟨_, he, rfl⟩
  have hx' : x.cps[i]? = none := Array.getElem?_eq_none hx
  unfold pyNext
  refine wpAny_bind (wpAny_attempt (wpAny_callSpecial?_slot (name := Str.ofString "__next__") hT F.slot_enumerate_next
    (wpAny_call_entry F.slot_enumerate_next hT F.entry_enumerate_next ?_ (F.args_enumerate_next_1 _))))
  show wpAny _ _ (field (.ref e) 2 >>= _) _ _ _
  refine wpAny_bind (wpAny_field he rfl (x := .ref it) rfl ?_)
  refine wpAny_bind (nextS_end hh hit hx' fun h' y he' hx2 => ?_)
  obtain ⟨o, ho, hc⟩ := hx2
  refine wpAny_bind (wpAny_isInstance (T := "StopIteration") (b := true) ⟨o, ho, hc⟩ isSubtype_stop ?_)
  exact wpAny_pure (hQ _ he')
theorem turn_enumS {P : Program} {w : World} {K : PySem.W.Frag} {elts : List Expr} {kk : Nat} {tpos : Pos} (x : Str) (tx : Tok) (e it : Addr) :
    Turn P w K (.Tuple elts kk tpos) (Itn x) [e, it] e (fun i h => (∃ old, IsEnum h e it ((i : Nat) : Int) old) ∧ h.IsStrIter it (strIterType x) x tx i ∧ e ≠ it) where
  mem := by simp
  obj := fun i h st b hb => by
    obtain ⟨⟨old, he⟩, ⟨o, ho, hc, hd⟩, _⟩ := st
    have e' : b = e ∨ b = it := by simpa using hb
    rcases e' with z | z
    · rw [z]; exact ⟨_, he, fun v q => nomatch q⟩
    · rw [z]; exact ⟨o, ho, fun v q => by rw [hd] at q; cases q⟩
  keep := fun i h h' st k => let ⟨⟨old, he⟩, ⟨o, ho, r⟩, hne⟩ := st; ⟨⟨old, k e (by simp) _ he⟩, ⟨o, k it (by simp) o ho, r⟩, hne⟩
  item := by
    intro X hP hw hK hc i pins s σ H E I hf st hg
    subst hP hw hK
    obtain ⟨⟨old, he⟩, hit, hne⟩ := st
    have hel : e < s.heap.objs.size := Heap.lt_size he
    have hil : it < s.heap.objs.size := by obtain ⟨_, q, _⟩ := hit; exact Heap.lt_size q
    have hh : X.A.in1.handled = none := I.ok.hd hc
    refine wpAny_pyNext_enum_itemD (draws_str hh it x tx) he hit hg hne (by simpa using hne) fun u h' tk hP ho hit' hT hsz hk => ?_
    obtain ⟨c, tc, hcx, rfl⟩ := hP
    refine ⟨_, rfl, wpAny_letOwnedTupleGo_enum (s := { s with heap := h', toks := tk + 1 }) ho fun h'' he' sb => ?_⟩
    have hT2 : h''.get? s.heap.objs.size = some { cls := .type "tuple", data := .seq #[.int i tk, .str ⟨#[c]⟩ tc] } := (sb.2 _ (Nat.ne_of_gt hel)).trans hT
    have new : ObjOk X.prog X.w (upd H s.heap.objs.size (.tup [.int (i : Nat), .str ⟨#[c]⟩])) h'' s.heap.objs.size (.tup [.int (i : Nat), .str ⟨#[c]⟩]) :=
      ⟨by show 2 ≤ sizeLine; decide, [.int i tk, .str ⟨#[c]⟩ tc], .cons ⟨_, rfl⟩ (.cons ⟨_, rfl⟩ .nil), ⟨_, hT2, rfl, _, rfl⟩⟩
    have I1 : Inv X pins σ (upd H s.heap.objs.size (.tup [.int (i : Nat), .str ⟨#[c]⟩])) { s with heap := h'', toks := tk + 1 } :=
      I.turnedNew (ch := [e, it]) (fun b ob hb q => (sb.2 b (fun z => hb (by simp [z]))).trans (hk b ob (fun z => hb (by simp [z])) (fun z => hb (by simp [z])) q)) hf (Nat.le_refl _) new
    refine ⟨.ref s.heap.objs.size, _, I1, rfl, ⟨_, c, rfl, I.hok.fresh (Nat.le_refl _), rfl, hcx⟩, ⟨⟨.str ⟨#[c]⟩ tc, ?_⟩, ?_, hne⟩, fun b hb => ?_⟩
    · have e1 : ((i + 1 : Nat) : Int) = (i : Int) + 1 := by omega
      rw [e1]; exact he'
    · obtain ⟨o, q1, q2⟩ := hit'
      exact ⟨o, (sb.2 it (Ne.symm hne)).trans q1, q2⟩
    · have hb' : b < s.heap.objs.size := by
        have e' : b = e ∨ b = it := by simpa using hb
        rcases e' with z | z
        · rw [z]; exact hel
        · rw [z]; exact hil
      rw [upd_ne (Nat.ne_of_lt hb')]
      exact (hf b hb).1
  done := by
    intro X hP hw hK hc i pins s σ H E I hf st hg
    subst hP hw hK
    obtain ⟨⟨old, he⟩, hit, hne⟩ := st
    obtain ⟨f0, f1, f2, f3, f4, f5⟩ := hf it (by simp)
    have hh : X.A.in1.handled = none := I.ok.hd hc
    exact enumS_end hh he hit hg fun h' eb => ⟨rfl, I.turned (t' := s.toks) (fun b o hb q => eb b o hb q) f0 f1 f3 f4 f5⟩
  self := fun A i s Q E st h => let ⟨⟨_, he⟩, _⟩ := st; wpAny_pyIter_enum he h
def iEnumS (ta : TA) : TI := fun σ H R => ta σ H fun vs H1 => ∃ x, vs = [.str x] ∧ R (Itn x) H1
theorem pi_enumS {X : Cx} {e : Expr} {ta : TA} {p pos tpos : Pos} {elts : List Expr} {kk : Nat} (hg : Gl X "enumerate") (hm : X.mg "enumerate" = none) (ha : PA X [e] ta) (hs : starEach [e] X.env = [(false, eval e X.env)] := by rfl) :
    PI X (.Tuple elts kk tpos) (.Call (.Name "enumerate" p) [e] [] pos) (iEnumS ta) := by
  refine ⟨fun pins s σ H R I h => ?_⟩
  refine Call_ (ld_blt I hg hm boot_enumerate (PyProof.Rows.callWith_type1 (thn (ha.run pos pins s σ H _ I h) fun us s1 ⟨vs, H1, I1, r1, q1⟩ => ?_) hs rfl))
  obtain ⟨x, ex, q⟩ := q1
  subst ex
  cases r1 with
  | cons r rr =>
    cases rr
    obtain ⟨t, rfl⟩ := r
    refine call_enumerate_str fun h' he hit hsz hk => wpAny_pyIter_enum he ?_
    have I2 : Inv X pins σ H1 { s1 with heap := h' } := I1.kept (t' := s1.toks) hk
    refine ⟨s1.heap.objs.size + 1, [s1.heap.objs.size + 1, s1.heap.objs.size], _, _, H1, rfl, I2, turn_enumS x t (s1.heap.objs.size + 1) s1.heap.objs.size, ⟨⟨.none, he⟩, hit, Nat.succ_ne_self _⟩, fun b hb => ?_, q⟩
    have e' : b = s1.heap.objs.size + 1 ∨ b = s1.heap.objs.size := by simpa using hb
    have hle : s1.heap.objs.size ≤ b := by
      rcases e' with z | z
      · rw [z]; exact Nat.le_add_right _ _
      · rw [z]; exact Nat.le_refl _
    exact I1.fpOk hle (I1.hok.fresh hle)
theorem wd_enumS {K : PySem.W.Frag} {G0 : Hp} {s : List Nat} : WD K G0 (Itn (sv s)) (enumL 0 (s.map fun c => .str [c])) := by
  have e : (enumL 0 (s.map fun c => D.str [c])).length = (sv s).cps.size := by rw [enumL_len]; simp [sv]
  rw [WD, e]
  refine ⟨fun _ => True, fun i H v H' => ∃ T c, v = .ref T ∧ H T = none ∧ H' = upd H T (.tup [.int (i : Nat), .str ⟨#[c]⟩]) ∧ (sv s).cps[i]? = some c, ⟨fun _ _ hi _ => hi, fun _ _ => Nat.le_refl _, fun _ _ _ _ _ _ y => y⟩, fun _ _ => trivial, fun i H x H' d hd _ y G s0 sG => ?_⟩
  obtain ⟨T, c, rfl, hT, rfl, hc⟩ := y
  have hc2 : s[i]? = some c := by simpa [sv] using hc
  rw [enumL_get, List.getElem?_map, hc2] at hd
  cases hd
  refine ⟨_, Grow.laid sG hT, .tup (SqT.of upd_same) (.cons ?_ (.cons (.str [c]) .nil))⟩
  rw [Int.zero_add]
  exact .int _
/-- a comprehension's block -/
theorem passF {X : Cx} {P : Program} {w : World} {σ : List (Option V)} : PassesAt (L2.CX P w) X σ (fun _ _ _ => False) := fun _ _ _ _ _ _ h => by
  obtain ⟨_, _, _, _, _, _, _, _, _, _, _, _, z⟩ := h
  exact z.elim
theorem XOk.blk (O : XOk X C cal gl xr xw) (s : Shared) (H : Hp) (scope : Scope) (Ca : Addr) (cl : List (Str × Addr)) (fp : List Addr) :
    XOk (X.blk s H scope (compEnvC scope cl Ca X.env) fp) (C.blk scope) cal gl xr (fun _ _ _ _ => False) :=
  { hN := O.hN
    hsc := by
      show relS scope X.env.scope = relS scope C.sc
      rw [O.hsc]
    nd := O.nd
    calm := O.calm
    fl := fun x h => h
    un := O.un
    fns := O.fns
    gls := O.gls
    un2 := O.un2
    gcd := O.gcd
    blt := O.blt
    wish := fun σ => passF }
end
end DP

namespace DP
open PySem PySem.Spec PyProof.Rows L2
theorem SE.step {X : Cx} {xr : XRep} {xw : WX} {x : Expr} {fa : Ev → Rs Vl} (ha : SE X xr xw x fa) {E : Ev} {σ : List (Option V)} {Gc Hc G H : Hp} {fps : Nat → List Addr} (hH : Holds X.K Gc Hc G H E σ fps) {β : Type} {k : Vl → Rs β} {q : β → Prop} {Q1 : VK}
    (h : ((fa E).bind k).Post (EXw xr xw σ G H) q) (hk : ∀ y v G1 H1 fp, Got X.K G H G1 H1 y.1 v y.2 fp → (k y).Post (EXw xr xw σ G1 H1) q → Q1 v H1) : tw X x σ H Q1 :=
  ha E σ Gc Hc G H fps hH Q1 ((Rs.Post.bind h).mono (fun _ _ h => h) fun y hy v G' H' fp g => hk y v G' H' fp g (hy.mono (fun _ _ z => z.grow g.gr) fun _ z => z))
def pwal (c : Bool) (G H : Hp) : Hp := if c then H else G
theorem pwal_s {c : Bool} {G H : Hp} (s : Same G H) : Same G (pwal c G H) := by cases c with | true => exact s | false => exact Same.refl _
def SI (c : Bool) (X : Cx) (xr : XRep) (xw : WX) (tg it : Expr) (f : Ev → Rs (List D)) : Prop := ∀ (E : Ev) (σ : List (Option V)) (Gc Hc G H : Hp) (fps : Nat → List Addr), Holds X.K Gc Hc G H E σ fps → ∀ R : It → Hp → Prop,
  (f E).Post (EXw xr xw σ G H) (fun ds => ∀ J G' H', Grow G H G' H' → WP X.K G' (pwal c G' H') J ds → R J H') → twI X tg it σ H R
def twTs (X : Cx) (ifs : List Expr) : TT := fun σ H Q => ∀ (pins : List (Addr × Obj)) (s : Shared), Inv X pins σ H s →
    wpAny (model X.prog X.w) X.A (forIn ifs true fun c r => if r = true then do let ok ← isTrue c X.env (eval c X.env); pure (ForInStep.yield ok) else pure (ForInStep.yield r)) (TP X pins σ Q) X.xe s
theorem twTs_of {X : Cx} {ifs : List Expr} {t : TT} (h : PTs X ifs t) {σ : List (Option V)} {H : Hp} {Q : Bool → Hp → Prop} (q : t σ H Q) : twTs X ifs σ H Q := fun pins s I => h.run pins s σ H Q I q
def SF (X : Cx) (xr : XRep) (xw : WX) (ifs : List Expr) (f : Ev → Rs Bool) : Prop := ∀ (E : Ev) (σ : List (Option V)) (Gc Hc G H : Hp) (fps : Nat → List Addr), Holds X.K Gc Hc G H E σ fps → ∀ Q : Bool → Hp → Prop,
  (f E).Post (EXw xr xw σ G H) (fun b => ∀ G' H', Grow G H G' H' → Q b H') → twTs X ifs σ H Q

section
variable {K : PySem.W.Frag} {G G' G2 H H' H2 : Hp} {m : Mk} {v : V} {d : D} {fp F : List Addr}
/-- the items so far: shared, or one's own (k) -/
def Acc (K : PySem.W.Frag) (k : Bool) (G H : Hp) (vs : List V) (ds : List D) (fp : List Addr) : Prop := match k with
  | false => fp = [] ∧ Datas K G vs ds
  | true => Trees K G H vs ds fp
theorem Acc.grow {k : Bool} {vs : List V} {ds : List D} (a : Acc K k G H vs ds fp) (g : Grow G H G' H') : Acc K k G' H' vs ds fp := by
  cases k with
  | false => exact ⟨a.1, a.2.mono g.sG⟩
  | true => exact Trees.mono g.sG a fun _ _ _ e => g.sH _ _ e
theorem Acc.upd {k : Bool} {vs : List V} {ds : List D} {p : Addr} {o : HO} (a : Acc K k G H vs ds fp) (hp : p ∉ fp) : Acc K k G (upd H p o) vs ds fp := by
  cases k with
  | false => exact a
  | true => exact Trees.mono (Same.refl _) a fun b hb u e => by rw [upd_ne (show b ≠ p from fun z => by subst z; exact hp hb)]; exact e
theorem Trees.len : ∀ {vs : List V} {ds : List D} {fp : List Addr}, Trees K G H vs ds fp → vs.length = ds.length
  | _, _, _, .nil => rfl
  | _, _, _, .cons _ t => by rw [List.length_cons, List.length_cons, Trees.len t]
theorem Acc.len {k : Bool} {vs : List V} {ds : List D} (a : Acc K k G H vs ds fp) : vs.length = ds.length := by
  cases k with
  | false => exact a.2.length
  | true => exact Trees.len a
theorem Acc.there {k : Bool} {vs : List V} {ds : List D} (a : Acc K k G H vs ds fp) : ∀ b ∈ fp, ∃ o, H b = some o := by
  cases k with
  | false => intro b hb; rw [a.1] at hb; cases hb
  | true => intro b hb; obtain ⟨vs, e⟩ := Trees.there a b hb; exact ⟨_, e⟩
def AccC (k : Bool) (m : Mk) (d : D) : Bool := match k with
  | false => !(m.bor && !d.flat)
  | true => m == .fu || d.flat
theorem Acc.push {k : Bool} {vs : List V} {ds : List D} (a : Acc K k G H vs ds fp) (g : Got K G H G' H' m v d F) (c : AccC k m d = true) (ot : ∀ b ∈ fp, G b = none) (mu : ∀ b ∈ fp, Mut (H b)) (nd : fp.Nodup) :
    ∃ G2 fp2, Grow G H G2 H' ∧ Acc K k G2 H' (vs ++ [v]) (ds ++ [d]) fp2 ∧ (∀ b ∈ fp2, b ∈ fp ∨ H b = none) ∧ fp2.Nodup ∧ (∀ b ∈ fp2, G2 b = none) ∧ (∀ b ∈ fp2, Mut (H' b)) := by
  cases k with
  | false =>
    obtain ⟨G2, g2, _⟩ := g.share (by unfold AccC at c; simpa only [Bool.not_eq_true'] using c)
    exact ⟨G2, [], g2.gr, ⟨rfl, (a.2.mono g2.gr.sG).append (.cons g2.val.2 .nil)⟩, (fun _ z => by cases z), List.nodup_nil, (fun _ z => by cases z), (fun _ z => by cases z)⟩
  | true =>
    have gw := g.gr.withT
    have t1 : Trees K (withT G' H') H' vs ds fp := Trees.mono gw.sG a fun _ _ _ e => gw.sH _ _ e
    have t2 : Trees K (withT G' H') H' [v] [d] (F ++ []) := .cons (g.val.tree g.gr.sub c) .nil
    rw [List.append_nil] at t2
    refine ⟨_, fp ++ F, gw, t1.append t2, fun b hb => ?_, List.nodup_append.mpr ⟨nd, g.nd, fun x hx y hy e => ?_⟩, fun b hb => ?_, fun b hb => ?_⟩
    · exact (List.mem_append.mp hb).imp_right (g.fresh b)
    · subst e
      obtain ⟨vs, e⟩ := Trees.there a x hx
      rw [g.fresh x hy] at e; cases e
    · rcases List.mem_append.mp hb with hb | hb
      · exact gw.new b (ot b hb) (mu b hb)
      · exact mut_ntup (g.val.mut b hb) (g.out b hb)
    · rcases List.mem_append.mp hb with hb | hb
      · exact mut_same gw.sH (mu b hb)
      · exact g.val.mut b hb
theorem Grow.atD (g : Grow G H G' H') {p : Addr} {o : HO} (h1 : H p = none) (h2 : G' p = none) : Grow G H G' (upd H' p o) :=
  ⟨g.sG, fun b u e => by rw [upd_ne (ne_of_none e h1)]; exact g.sH b u e, fun b u e => by rw [upd_ne (ne_of_none e h2)]; exact g.sub b u e, g.new⟩
end

theorem compV_ok {k : Bool} {vs : List Vl} {e : Nat → D → Prop} {q : Vl → Prop} (h : (compV k (.ok vs)).Post e q) : vs.length ≤ SZ ∧ (∀ x ∈ vs, AccC k x.1 x.2 = true) ∧ q (if k then .fu else .sh, .lst (vs.map (·.2))) := by
  unfold compV at h
  by_cases c : vs.length ≤ SZ
  · simp only [c, if_true] at h
    cases k with
    | true =>
      simp only [if_true] at h
      by_cases c2 : (vs.all fun v => v.1 == .fu || v.2.flat) = true
      · simp only [c2, if_true] at h
        exact ⟨c, fun x hx => List.all_eq_true.mp c2 x hx, h⟩
      · simp only [c2] at h; exact False.elim h
    | false =>
      simp only [Bool.false_eq_true, if_false] at h
      cases b : isBor vs with
      | true => rw [b] at h; exact False.elim h
      | false =>
        rw [b] at h
        refine ⟨c, fun x hx => ?_, h⟩
        unfold isBor at b
        have := List.any_eq_false.mp b x hx
        unfold AccC
        simp only [Bool.not_eq_true']
        simpa only [Bool.not_eq_true] using this
  · simp only [c, if_false] at h; exact False.elim h
theorem compD_cons {bind : D → Option Ev} {test : Ev → Rs Bool} {el : Ev → Rs Vl} {d : D} {ds : List D} {vs : List Vl} (h : compD bind test el (d :: ds) = .ok vs) :
    ∃ E, bind d = some E ∧ ((test E = .ok true ∧ ∃ v r, el E = .ok v ∧ compD bind test el ds = .ok r ∧ vs = v :: r) ∨ (test E = .ok false ∧ compD bind test el ds = .ok vs)) := by
  simp only [compD] at h
  cases hb : bind d with
  | none => rw [hb] at h; cases h
  | some E =>
    rw [hb] at h
    refine ⟨E, rfl, ?_⟩
    simp only at h
    cases ht : test E with
    | no => rw [ht] at h; cases h
    | ex c x => rw [ht] at h; cases h
    | ok b =>
      rw [ht] at h
      cases b with
      | false => exact .inr ⟨rfl, h⟩
      | true =>
        simp only at h
        cases he : el E with
        | no => rw [he] at h; cases h
        | ex c x => rw [he] at h; cases h
        | ok v =>
          rw [he] at h
          simp only at h
          cases hr : compD bind test el ds with
          | no => rw [hr] at h; cases h
          | ex c x => rw [hr] at h; cases h
          | ok r =>
            rw [hr] at h
            cases h
            exact .inl ⟨rfl, v, r, rfl, rfl, rfl⟩
theorem folded_ok {it : Expr} {env : Env} (h : noSet it = true) : ∀ x, foldedSetIterable it env x = pure x := by cases it <;> first | (intro _; rfl) | cases h

section
variable {X : Cx} {C : Ck} {cal : Nat → List D → Rs Vl} {gl : Nat → D} {xr : XRep} {xw : WX}
theorem ownP_map (C : Ck) (own : List Nat) : (ownP C own).map (·.2) = own := by
  unfold ownP
  rw [List.map_map]
  exact List.map_id own
/-- a block's tests, its item -/
def ttB (X : Cx) (scope : Scope) (fs : List Expr) : TT := fun σ H Q => ∀ (s0 : Shared) (H0 : Hp) (Ca : Addr) (cl : List (Str × Addr)) (fp : List Addr), twTs (X.blk s0 H0 scope (compEnvC scope cl Ca X.env) fp) fs σ H Q
def teB (X : Cx) (scope : Scope) (elt : Expr) : TE := fun σ H Q => ∀ (s0 : Shared) (H0 : Hp) (Ca : Addr) (cl : List (Str × Addr)) (fp : List Addr), tw (X.blk s0 H0 scope (compEnvC scope cl Ca X.env) fp) elt σ H Q
theorem comp_t (O : XOk X C cal gl xr xw) {elt tg it : Expr} {fs : List Expr} {scope : Scope} {own : List Nat} {p : Pat} {k : Bool} {fi : Ev → Rs (List D)} {ft : Ev → Rs Bool} {fe : Ev → Rs Vl}
    (hsl : p.slots.all (fun i => own.contains i) = true) (hi : SI true X xr xw tg it fi)
    (he : ∀ {X' : Cx} {xw' : WX}, XOk X' (C.blk scope) cal gl xr xw' → SE X' xr xw' elt fe) (ht : ∀ {X' : Cx} {xw' : WX}, XOk X' (C.blk scope) cal gl xr xw' → SF X' xr xw' fs ft)
    {E : Ev} {σ : List (Option V)} {Gc Hc G H : Hp} {fps : Nat → List Addr} (hH : Holds X.K Gc Hc G H E σ fps) {Q : VK}
    (hq : ((fi E).bind fun ds => compV k (compD (fun d => bindP p d (wipeE own E)) ft fe ds)).Post (EXw xr xw σ G H) (fun x => ∀ v G' H' fp, Got X.K G H G' H' x.1 v x.2 fp → Q v H')) :
    tLc (twI X tg it) (gOf X.K p) (ttB X scope fs) (teB X scope elt) own σ H Q := by
  have hq := Rs.Post.bind hq
  refine hi E σ Gc Hc G H fps hH _ (hq.mono (fun _ _ z => z) fun ds hds J G1 H1 gr1 wd => ?_)
  intro Dn hD
  obtain ⟨Gp, Y, wk, hGp, hY⟩ := wd
  -- what is left to be made, of what was made so far
  let Fin : Rs (List Vl) → List Vl → Prop := fun r acc => ∃ vs, r = .ok vs ∧ (compV k (.ok (acc ++ vs))).Post (EXw xr xw σ G H) (fun x => ∀ v G' H' fp, Got X.K G H G' H' x.1 v x.2 fp → Q v H')
  let cd : List D → Rs (List Vl) := compD (fun d => bindP p d (wipeE own E)) ft fe
  have f0 : Fin (cd ds) [] := by
    have hds : (compV k (cd ds)).Post (EXw xr xw σ G H) (fun x => ∀ v G' H' fp, Got X.K G H G' H' x.1 v x.2 fp → Q v H') := hds
    cases e : cd ds with
    | ok vs => rw [e] at hds; exact ⟨vs, rfl, hds⟩
    | no => rw [e] at hds; exact False.elim hds
    | ex c x => rw [e] at hds; exact False.elim hds
  refine lc_it wk (fun i Hx => ∃ Gi accV acc fp, Grow G1 H1 Gi Hx ∧ Hx Dn = some (.lst accV) ∧ Gi Dn = none ∧ Acc X.K k Gi Hx accV (acc.map (·.2)) fp ∧ fp.Nodup ∧ (∀ a ∈ fp, H1 a = none) ∧ (∀ a ∈ fp, Gi a = none) ∧ (∀ a ∈ fp, Mut (Hx a)) ∧ Dn ∉ fp ∧ Fin (cd (ds.drop i)) acc) ?_ ?_ ?_ ?_
  · refine ⟨G1, [], [], [], (Grow.refl gr1.sub).atD hD (gr1.sub.free hD), upd_same, gr1.sub.free hD, ?_, List.nodup_nil, (fun _ z => by cases z), (fun _ z => by cases z), (fun _ z => by cases z), by simp, f0⟩
    cases k with
    | false => exact ⟨rfl, .nil⟩
    | true => exact .nil
  · rintro i Hx _ ⟨Gi, accV, acc, fp, g, _⟩
    exact hGp Hx g.sH
  · rintro i x Hx Hx' hi ⟨Gi, accV, acc, fp, g, hD1, hG1, ac, nd, fr, ot, mu, nin, vs, ec, hfin⟩ y
    have hd : ds[i]? = some ds[i] := List.getElem?_eq_getElem hi
    obtain ⟨G3, g3, q3⟩ := hY i Hx x Hx' _ hd (hGp Hx g.sH) y Gi g.sG g.sub
    rw [List.drop_eq_getElem_cons hi] at ec
    obtain ⟨E1, hb, hrest⟩ := compD_cons ec
    have hH3 := (((hH.grow gr1).grow g).grow g3).wipe own
    refine bind_ok hH3 q3 hb fun σ' fps' hH4 hl hout => ?_
    have hw : L2.wipe σ' own = L2.wipe σ own := by
      rw [← wipe_wipe σ own]
      refine wipe_same hl fun j hj => hout j fun hjs => hj ?_
      have := List.all_eq_true.mp hsl j hjs
      simpa using this
    refine ⟨hw, fun s0 H0 Ca cl fp0 => ?_⟩
    have hD3 : Hx' Dn = some (.lst accV) := g3.sH _ _ hD1
    have hG3 : G3 Dn = none := g3.new Dn hG1 (by rw [hD1]; trivial)
    have O' := O.blk s0 H0 scope Ca cl fp0
    rcases hrest with ⟨e1, v, r, e2, e3, rfl⟩ | ⟨e1, e2⟩
    · refine ht O' E1 σ' Gc Hc G3 Hx' fps' hH4 _ ?_
      rw [e1]
      intro G4 H4 g4
      rw [if_pos rfl]
      intro s1 H1' Ca1 cl1 fp1
      refine he (O.blk s1 H1' scope Ca1 cl1 fp1) E1 σ' Gc Hc G4 H4 fps' (hH4.grow g4) _ ?_
      rw [e2]
      intro u G5 H5 fq g5
      obtain ⟨c1, c2, c3⟩ := compV_ok hfin
      have g34 := g3.trans g4
      have hD4 : H4 Dn = some (.lst accV) := g4.sH _ _ hD3
      have hG4 : G4 Dn = none := g4.new Dn hG3 (by rw [hD3]; trivial)
      have ot4 : ∀ a ∈ fp, G4 a = none := fun a ha => g34.new a (ot a ha) (mu a ha)
      have mu4 : ∀ a ∈ fp, Mut (H4 a) := fun a ha => mut_same g34.sH (mu a ha)
      obtain ⟨G6, fp2, g6, ac6, in6, nd6, ot6, mu6⟩ := (ac.grow g34).push g5 (c2 v (List.mem_append_right _ List.mem_cons_self)) ot4 mu4 nd
      have hD5 : H5 Dn = some (.lst accV) := g6.sH _ _ hD4
      have hG6 : G6 Dn = none := g6.new Dn hG4 (by rw [hD4]; trivial)
      have nin2 : Dn ∉ fp2 := fun z => by
        rcases in6 Dn z with z | z
        · exact nin z
        · rw [hD4] at z; cases z
      have gall := (g.trans g34).trans g6
      refine ⟨accV, hD5, ?_, G6, accV ++ [u], acc ++ [v], fp2, gall.atD hD hG6, upd_same, hG6, ?_, nd6, ?_, ot6, ?_, nin2, r, e3, ?_⟩
      · have := ac.len
        rw [List.length_map] at this
        rw [this, SZ_eq]
        rw [List.length_append, List.length_cons] at c1
        omega
      · rw [List.map_append]
        exact ac6.upd nin2
      · intro a ha
        rcases in6 a ha with z | z
        · exact fr a z
        · exact (g.trans g34).sH.free z
      · intro a ha
        have hne : a ≠ Dn := fun z => by subst z; exact nin2 ha
        rw [upd_ne hne]
        exact mu6 a ha
      · rw [List.append_assoc]
        exact hfin
    · refine ht O' E1 σ' Gc Hc G3 Hx' fps' hH4 _ ?_
      rw [e1]
      intro G4 H4 g4
      rw [if_neg Bool.false_ne_true]
      have g34 := g3.trans g4
      exact ⟨G4, accV, acc, fp, g.trans g34, g4.sH _ _ hD3, g4.new Dn hG3 (by rw [hD3]; trivial), ac.grow g34, nd, fr, fun a ha => g34.new a (ot a ha) (mu a ha), fun a ha => mut_same g34.sH (mu a ha), nin, vs, e2, hfin⟩
  · rintro Hx ⟨Gi, accV, acc, fp, g, hD1, hG1, ac, nd, fr, ot, mu, nin, vs, ec, hfin⟩
    rw [List.drop_length] at ec
    have ev : vs = [] := by
      have : cd [] = .ok [] := rfl
      rw [this] at ec
      cases ec; rfl
    subst ev
    rw [List.append_nil] at hfin
    obtain ⟨c1, c2, c3⟩ := compV_ok hfin
    have gg := gr1.trans g
    cases k with
    | false =>
      refine c3 (.ref Dn) Gi Hx [Dn] ⟨gg, .inr ⟨Dn, _, rfl, rfl, hD1, .lst ac.2⟩, by simp, fun a ha => ?_, fun a ha => ?_⟩
      · have e : a = Dn := by simpa using ha
        subst e; exact gr1.sH.free hD
      · have e : a = Dn := by simpa using ha
        subst e; exact hG1
    | true =>
      refine c3 (.ref Dn) Gi Hx (Dn :: fp) ⟨gg, .lst hD1 ac, List.nodup_cons.mpr ⟨nin, nd⟩, fun a ha => ?_, fun a ha => ?_⟩
      · rcases List.mem_cons.mp ha with rfl | ha
        · exact gr1.sH.free hD
        · exact gr1.sH.free (fr a ha)
      · rcases List.mem_cons.mp ha with rfl | ha
        · exact hG1
        · exact ot a ha
theorem comp_ok (O : XOk X C cal gl xr xw) {elt tg it : Expr} {fs : List Expr} {scope : Scope} {pos : Pos} {own : List Nat} {p : Pat} {k : Bool} {fi : Ev → Rs (List D)} {ft : Ev → Rs Bool} {fe : Ev → Rs Vl}
    (hblk : blkC C.N C.sc scope (ownP C own) = true) (hsl : p.slots.all (fun i => own.contains i) = true) (hns : noSet it = true) (hi : SI true X xr xw tg it fi) (hp : patC (C.blk scope) p tg = true)
    (he : ∀ {X' : Cx} {xw' : WX}, XOk X' (C.blk scope) cal gl xr xw' → SE X' xr xw' elt fe) (ht : ∀ {X' : Cx} {xw' : WX}, XOk X' (C.blk scope) cal gl xr xw' → SF X' xr xw' fs ft) :
    SE X xr xw (.ListComp elt [⟨tg, it, fs, 0⟩] scope pos) (fun E => (fi E).bind fun ds => compV k (compD (fun d => bindP p d (wipeE own E)) ft fe ds)) := by
  intro E σ Gc Hc G H fps hH Q hq
  have hok : BlkOk X.N X.env.scope scope (ownP C own) := by rw [O.hN, O.hsc]; exact blkOk_by hblk
  refine tw_of (pe_lc (tt := ttB X scope fs) (te := teB X scope elt) (g := gOf X.K p) O.calm O.nd pi_tw hok (fun s0 H0 Ca cl fp => pat_ok (O.blk s0 H0 scope Ca cl fp) hp) (fun s0 H0 Ca cl fp => ⟨fun pins s σ H Q I h => h s0 H0 Ca cl fp pins s I⟩) (fun s0 H0 Ca cl fp => ⟨fun pins s σ H Q I h => h s0 H0 Ca cl fp pins s I⟩) (folded_ok hns)) ?_
  rw [ownP_map]
  exact comp_t O hsl hi he ht hH hq
theorem compS_ok (O : XOk X C cal gl xr xw) {elt tg it : Expr} {fs : List Expr} {scope : Scope} {pos spos py : Pos} {own : List Nat} {p : Pat} {k : Bool} {fi : Ev → Rs (List D)} {ft : Ev → Rs Bool} {fe : Ev → Rs Vl} {i : Nat} {y : Str}
    (hy : X.N[i]? = some y) (hyl : X.env.scope.names.lookup y = some .local) (hsw : swapsWith (.ListComp elt [⟨tg, it, fs, 0⟩] scope pos) (some (.Name y py)) spos.line X.env = pure true)
    (hblk : blkC C.N C.sc scope (ownP C own) = true) (hsl : p.slots.all (fun i => own.contains i) = true) (hns : noSet it = true) (hi : SI true X xr xw tg it fi) (hp : patC (C.blk scope) p tg = true)
    (he : ∀ {X' : Cx} {xw' : WX}, XOk X' (C.blk scope) cal gl xr xw' → SE X' xr xw' elt fe) (ht : ∀ {X' : Cx} {xw' : WX}, XOk X' (C.blk scope) cal gl xr xw' → SF X' xr xw' fs ft)
    {E : Ev} {σ : List (Option V)} {Gc Hc G H : Hp} {fps : Nat → List Addr} (hH : Holds X.K Gc Hc G H E σ fps) {Dn : Ends}
    (hq : ((fi E).bind fun ds => compV k (compD (fun d => bindP p d (wipeE own E)) ft fe ds)).Post (EXw xr xw σ G H) (fun x => ∀ v G' H' fp, Got X.K G H G' H' x.1 v x.2 fp → Dn.nx (σ.set i (some v)) H')) :
    ∃ t, PS X (.Assign [.Name y py] (.ListComp elt [⟨tg, it, fs, 0⟩] scope pos) spos) t ∧ t Dn σ H := by
  have hok : BlkOk X.N X.env.scope scope (ownP C own) := by rw [O.hN, O.hsc]; exact blkOk_by hblk
  refine ⟨_, ps_setLc (tt := ttB X scope fs) (te := teB X scope elt) (g := gOf X.K p) O.calm O.nd hy hyl hsw pi_tw hok (fun s0 H0 Ca cl fp => pat_ok (O.blk s0 H0 scope Ca cl fp) hp) (fun s0 H0 Ca cl fp => ⟨fun pins s σ H Q I h => h s0 H0 Ca cl fp pins s I⟩) (fun s0 H0 Ca cl fp => ⟨fun pins s σ H Q I h => h s0 H0 Ca cl fp pins s I⟩) (folded_ok hns), ?_⟩
  rw [ownP_map]
  exact comp_t O hsl hi he ht hH hq
/-! dict comprehensions -/
theorem keyD_eqv (a b : Key) : D.eqv (keyD a) (keyD b) = decide (a = b) := by
  cases a <;> cases b
  · rename_i i j
    show (i == j) = _
    by_cases e : i = j
    · subst e; simp
    · simp [e]
  · rfl
  · rfl
  · rename_i x y
    show (x.cps.toList == y.cps.toList) = _
    by_cases e : x = y
    · subst e; simp
    · have e2 : x.cps.toList ≠ y.cps.toList := fun z => e (by
        obtain ⟨x⟩ := x
        obtain ⟨y⟩ := y
        congr 1
        exact Array.toList_inj.mp z)
      have e3 : (x.cps.toList == y.cps.toList) = false := by simpa using e2
      rw [e3]; simp [e]
theorem key_of {K : PySem.W.Frag} {G : Hp} {v : V} {d : D} (q : Data K G v d) (h : isKey d = true) : ∃ k, v = kV k ∧ d = keyD k := by
  cases q <;> first | (cases h; done) | skip
  · exact ⟨.inl _, rfl, rfl⟩
  · exact ⟨.inr _, rfl, by simp [keyD, sv]⟩
theorem put_any (ks : List Key) (k : Key) : (ks.map keyD).any (fun x => D.eqv x (keyD k)) = ks.any (fun x => decide (x = k)) := by
  induction ks with
  | nil => rfl
  | cons a r ih => rw [List.map_cons, List.any_cons, List.any_cons, ih, keyD_eqv]
theorem zip_any (ks : List Key) (vs : List V) (k : Key) (h : ks.length = vs.length) : (ks.zip vs).any (fun kv => decide (kv.1 = k)) = ks.any (fun x => decide (x = k)) := by
  induction ks generalizing vs with
  | nil => rfl
  | cons a r ih =>
    cases vs with
    | nil => simp at h
    | cons v vs => rw [List.zip_cons_cons, List.any_cons, List.any_cons, ih vs (by simpa using h)]
theorem repl_ok {K : PySem.W.Frag} {G : Hp} {k : Key} {z : V} {d : D} (q : Data K G z d) : ∀ (ks : List Key) {vs : List V} {ds : List D}, ks.length = vs.length → Datas K G vs ds → ∃ vs', (ks.zip vs).map (fun kv => if kv.1 = k then (kv.1, z) else kv) = ks.zip vs' ∧ ks.length = vs'.length ∧ Datas K G vs' (replA (ks.map keyD) ds (keyD k) d)
  | [], vs, ds, h, t => by
    cases vs with
    | cons _ _ => simp at h
    | nil => cases t; exact ⟨[], rfl, rfl, .nil⟩
  | a :: r, vs, ds, h, t => by
    cases t with
    | nil => simp at h
    | cons t1 t2 =>
      rename_i v vs d1 ds
      obtain ⟨vs', e1, e2, e3⟩ := repl_ok (k := k) q r (by simpa using h) t2
      refine ⟨(if a = k then z else v) :: vs', ?_, by simp [e2], ?_⟩
      · rw [List.zip_cons_cons, List.map_cons, e1, List.zip_cons_cons]
        by_cases c : a = k <;> simp [c]
      · show Datas K G _ ((if D.eqv (keyD a) (keyD k) = true then d else d1) :: _)
        rw [keyD_eqv]
        by_cases c : a = k
        · simp only [c, decide_true, if_true]; exact .cons q e3
        · simp only [c, decide_false]; exact .cons t1 e3
theorem put_ok {K : PySem.W.Frag} {G : Hp} {k : Key} {z : V} {d : D} (q : Data K G z d) (ks : List Key) {vs : List V} {ds : List D} (h : ks.length = vs.length) (t : Datas K G vs ds) :
    ∃ (ks' : List Key) (vs' : List V), putK (ks.zip vs) k z = ks'.zip vs' ∧ ks'.length = vs'.length ∧ ks'.map keyD = (putA (ks.map keyD) ds (keyD k) d).1 ∧ Datas K G vs' (putA (ks.map keyD) ds (keyD k) d).2 := by
  unfold putK putA
  rw [put_any, zip_any _ _ _ h]
  by_cases c : (ks.any fun x => decide (x = k)) = true
  · rw [if_pos c, if_pos c]
    obtain ⟨vs', e1, e2, e3⟩ := repl_ok (k := k) q ks h t
    exact ⟨ks, vs', e1, e2, rfl, e3⟩
  · rw [if_neg c, if_neg c]
    refine ⟨ks ++ [k], vs ++ [z], ?_, by simp [h], by simp, t.append (.cons q .nil)⟩
    rw [List.zip_append h]; rfl
theorem dcompD_cons {bind : D → Option Ev} {test : Ev → Rs Bool} {kf vf : Ev → Rs Vl} {d : D} {ds ks vs : List D} {r : List D × List D} (h : dcompD bind test kf vf (d :: ds) ks vs = .ok r) :
    ∃ E, bind d = some E ∧ ((test E = .ok true ∧ ∃ k v, kf E = .ok k ∧ vf E = .ok v ∧ isKey k.2 = true ∧ (v.1.bor && !v.2.flat) = false ∧ ks.length < SZ ∧ dcompD bind test kf vf ds (putA ks vs k.2 v.2).1 (putA ks vs k.2 v.2).2 = .ok r) ∨ (test E = .ok false ∧ dcompD bind test kf vf ds ks vs = .ok r)) := by
  simp only [dcompD] at h
  cases hb : bind d with
  | none => rw [hb] at h; cases h
  | some E =>
    rw [hb] at h
    refine ⟨E, rfl, ?_⟩
    simp only at h
    cases ht : test E with
    | no => rw [ht] at h; cases h
    | ex c x => rw [ht] at h; cases h
    | ok b =>
      rw [ht] at h
      cases b with
      | false => exact .inr ⟨rfl, h⟩
      | true =>
        simp only at h
        cases hk : kf E with
        | no => rw [hk] at h; cases h
        | ex c x => rw [hk] at h; cases h
        | ok k =>
          rw [hk] at h
          simp only at h
          cases hv : vf E with
          | no => rw [hv] at h; cases h
          | ex c x => rw [hv] at h; cases h
          | ok v =>
            rw [hv] at h
            simp only at h
            by_cases c : (isKey k.2 && !(v.1.bor && !v.2.flat) && decide (ks.length < SZ)) = true
            · rw [if_pos c] at h
              simp only [Bool.and_eq_true, decide_eq_true_eq, Bool.not_eq_true'] at c
              exact .inl ⟨rfl, k, v, rfl, rfl, c.1.1, c.1.2, c.2, h⟩
            · rw [if_neg c] at h; cases h
theorem dcomp_ok (O : XOk X C cal gl xr xw) {kx vx tg it : Expr} {fs : List Expr} {scope : Scope} {pos : Pos} {own : List Nat} {p : Pat} {fi : Ev → Rs (List D)} {ft : Ev → Rs Bool} {fk fv : Ev → Rs Vl}
    (hblk : blkC C.N C.sc scope (ownP C own) = true) (hsl : p.slots.all (fun i => own.contains i) = true) (hns : noSet it = true) (hi : SI true X xr xw tg it fi) (hp : patC (C.blk scope) p tg = true)
    (hk : ∀ {X' : Cx} {xw' : WX}, XOk X' (C.blk scope) cal gl xr xw' → SE X' xr xw' kx fk) (hv : ∀ {X' : Cx} {xw' : WX}, XOk X' (C.blk scope) cal gl xr xw' → SE X' xr xw' vx fv)
    (ht : ∀ {X' : Cx} {xw' : WX}, XOk X' (C.blk scope) cal gl xr xw' → SF X' xr xw' fs ft) :
    SE X xr xw (.DictComp kx vx [⟨tg, it, fs, 0⟩] scope pos) (fun E => (fi E).bind fun ds => dcV (dcompD (fun d => bindP p d (wipeE own E)) ft fk fv ds [] [])) := by
  intro E σ Gc Hc G H fps hH Q hq
  have hok : BlkOk X.N X.env.scope scope (ownP C own) := by rw [O.hN, O.hsc]; exact blkOk_by hblk
  refine tw_of (pe_dc (tt := ttB X scope fs) (tk := teB X scope kx) (tv := teB X scope vx) (g := gOf X.K p) O.calm O.nd pi_tw hok (fun s0 H0 Ca cl fp => pat_ok (O.blk s0 H0 scope Ca cl fp) hp) (fun s0 H0 Ca cl fp => ⟨fun pins s σ H Q I h => h s0 H0 Ca cl fp pins s I⟩)
    (fun s0 H0 Ca cl fp => ⟨fun pins s σ H Q I h => h s0 H0 Ca cl fp pins s I⟩) (fun s0 H0 Ca cl fp => ⟨fun pins s σ H Q I h => h s0 H0 Ca cl fp pins s I⟩) (folded_ok hns)) ?_
  rw [ownP_map]
  have hq := Rs.Post.bind hq
  refine hi E σ Gc Hc G H fps hH _ (hq.mono (fun _ _ z => z) fun ds hds J G1 H1 gr1 wd => ?_)
  intro Dn hD
  obtain ⟨Gp, Y, wk, hGp, hY⟩ := wd
  let cd : List D → List D → List D → Rs (List D × List D) := dcompD (fun d => bindP p d (wipeE own E)) ft fk fv
  obtain ⟨r, f0⟩ : ∃ r, cd ds [] [] = .ok r := by
    have hds : (dcV (cd ds [] [])).Post (EXw xr xw σ G H) (fun x => ∀ v G' H' fp, Got X.K G H G' H' x.1 v x.2 fp → Q v H') := hds
    cases e : cd ds [] [] with
    | ok vs => exact ⟨vs, rfl⟩
    | no => rw [e] at hds; exact False.elim hds
    | ex c x => rw [e] at hds; exact False.elim hds
  have hfin : ∀ v G' H' fp, Got X.K G H G' H' .sh v (.dic r.1 r.2) fp → Q v H' := by
    have hds : (dcV (cd ds [] [])).Post (EXw xr xw σ G H) (fun x => ∀ v G' H' fp, Got X.K G H G' H' x.1 v x.2 fp → Q v H') := hds
    rw [f0] at hds
    exact hds
  let Pv : Nat → Hp → Prop := fun i Hx => ∃ (Gi : Hp) (ks : List Key) (vs : List V) (dvs : List D), Grow G1 H1 Gi Hx ∧ Hx Dn = some (.dK (ks.zip vs)) ∧ Gi Dn = none ∧ ks.length = vs.length ∧ Datas X.K Gi vs dvs ∧ cd (ds.drop i) (ks.map keyD) dvs = .ok r
  have h0 : Pv 0 (upd H1 Dn (.dK [])) := ⟨G1, [], [], [], (Grow.refl gr1.sub).atD hD (gr1.sub.free hD), upd_same, gr1.sub.free hD, rfl, .nil, f0⟩
  refine ⟨fun i m Hx => m = ds.length - i ∧ i ≤ ds.length ∧ Pv i Hx, ⟨ds.length, by simp, Nat.zero_le _, h0⟩, ?_⟩
  rintro i m Hx ⟨rfl, hin, Gi, ks, vs, dvs, g, hD1, hG1, hl1, t1, ec⟩
  have hgp := hGp Hx g.sH
  by_cases hlt : i < ds.length
  · refine .inr ⟨wk.goes i Hx hlt hgp, Pv (i + 1), fun H' p' => ⟨ds.length - (i + 1), by omega, rfl, hlt, p'⟩, fun x Hx' yy => ?_⟩
    have y := wk.yields i Hx x Hx' hlt hgp yy
    have hd : ds[i]? = some ds[i] := List.getElem?_eq_getElem hlt
    obtain ⟨G3, g3, q3⟩ := hY i Hx x Hx' _ hd hgp y Gi g.sG g.sub
    rw [List.drop_eq_getElem_cons hlt] at ec
    obtain ⟨E1, hb, hrest⟩ := dcompD_cons ec
    have hH3 := (((hH.grow gr1).grow g).grow g3).wipe own
    refine bind_ok hH3 q3 hb fun σ' fps' hH4 hl hout => ?_
    have hw : L2.wipe σ' own = L2.wipe σ own := by
      rw [← wipe_wipe σ own]
      refine wipe_same hl fun j hj => hout j fun hjs => hj ?_
      have := List.all_eq_true.mp hsl j hjs
      simpa using this
    refine ⟨hw, fun s0 H0 Ca cl fp0 => ?_⟩
    have hD3 : Hx' Dn = some (.dK (ks.zip vs)) := g3.sH _ _ hD1
    have hG3 : G3 Dn = none := g3.new Dn hG1 (by rw [hD1]; trivial)
    have O' := O.blk s0 H0 scope Ca cl fp0
    rcases hrest with ⟨e1, k, v, e2, e3, ck, cv, cl3, e4⟩ | ⟨e1, e2⟩
    · refine ht O' E1 σ' Gc Hc G3 Hx' fps' hH4 _ ?_
      rw [e1]
      intro G4 H4 g4
      rw [if_pos rfl]
      intro s1 H1' Ca1 cl1 fp1
      refine hk (O.blk s1 H1' scope Ca1 cl1 fp1) E1 σ' Gc Hc G4 H4 fps' (hH4.grow g4) _ ?_
      rw [e2]
      intro u G5 H5 fq g5 s2 H2' Ca2 cl2 fp2
      refine hv (O.blk s2 H2' scope Ca2 cl2 fp2) E1 σ' Gc Hc G5 H5 fps' ((hH4.grow g4).grow g5.gr) _ ?_
      rw [e3]
      intro u2 G6 H6 fq2 g6
      obtain ⟨G7, g7, s7⟩ := g6.share cv
      have gall := ((g3.trans g4).trans g5.gr).trans g7.gr
      obtain ⟨kk, rfl, ek⟩ := key_of g5.data ck
      have hD6 : H6 Dn = some (.dK (ks.zip vs)) := gall.sH _ _ hD1
      have hG7 : G7 Dn = none := gall.new Dn hG1 (by rw [hD1]; trivial)
      obtain ⟨ks', vs', p1, p2, p3, p4⟩ := put_ok (k := kk) g7.val.2 ks hl1 (t1.mono gall.sG)
      refine ⟨ks.zip vs, kk, rfl, hD6, ?_, G7, ks', vs', _, (g.trans gall).atD hD hG7, by rw [upd_same, p1], hG7, p2, p4, ?_⟩
      · rw [List.length_zip, ← hl1, Nat.min_self, SZ_eq]
        simpa using cl3
      · rw [p3, ← ek]; exact e4
    · refine ht O' E1 σ' Gc Hc G3 Hx' fps' hH4 _ ?_
      rw [e1]
      intro G4 H4 g4
      rw [if_neg Bool.false_ne_true]
      have g34 := g3.trans g4
      exact ⟨G4, ks, vs, dvs, g.trans g34, g4.sH _ _ hD3, g4.new Dn hG3 (by rw [hD3]; trivial), hl1, t1.mono g34.sG, e2⟩
  · have e : i = ds.length := by omega
    subst e
    refine .inl ⟨wk.stops Hx hgp, ?_⟩
    rw [List.drop_length] at ec
    have er : cd [] (ks.map keyD) dvs = .ok (ks.map keyD, dvs) := rfl
    rw [er] at ec
    cases ec
    refine hfin (.ref Dn) Gi Hx [Dn] ⟨gr1.trans g, .inr ⟨Dn, _, rfl, rfl, hD1, .dic hl1 t1⟩, by simp, fun a ha => ?_, fun a ha => ?_⟩
    · have e : a = Dn := by simpa using ha
      subst e; exact gr1.sH.free hD
    · have e : a = Dn := by simpa using ha
      subst e; exact hG1
end
end DP

namespace DP
open PySem PySem.Spec PyProof.Rows L2
section
variable {X : Cx} {C : Ck} {cal : Nat → List D → Rs Vl} {gl : Nat → D} {xr : XRep} {xw : WX}
theorem ST.step {x : Expr} {fa : Ev → Rs Bool} (ha : ST X xr xw x fa) {E : Ev} {σ : List (Option V)} {Gc Hc G H : Hp} {fps : Nat → List Addr} (hH : Holds X.K Gc Hc G H E σ fps) {β : Type} {k : Bool → Rs β} {q : β → Prop} {Q1 : Bool → Hp → Prop}
    (h : ((fa E).bind k).Post (EXw xr xw σ G H) q) (hk : ∀ y G1 H1, Grow G H G1 H1 → (k y).Post (EXw xr xw σ G1 H1) q → Q1 y H1) : twT X x σ H Q1 :=
  ha E σ Gc Hc G H fps hH Q1 ((Rs.Post.bind h).mono (fun _ _ h => h) fun y hy G' H' g => hk y G' H' g (hy.mono (fun _ _ z => z.grow g) fun _ z => z))
theorem SL.step {x : List Expr} {fa : Ev → Rs (List Vl)} (ha : SL X xr xw x fa) {E : Ev} {σ : List (Option V)} {Gc Hc G H : Hp} {fps : Nat → List Addr} (hH : Holds X.K Gc Hc G H E σ fps) {β : Type} {k : List Vl → Rs β} {q : β → Prop} {Q1 : List V → Hp → Prop}
    (h : ((fa E).bind k).Post (EXw xr xw σ G H) q) (hk : ∀ y vs G1 H1 fp, Gots X.K G H G1 H1 y vs fp → (k y).Post (EXw xr xw σ G1 H1) q → Q1 vs H1) : twA X x σ H Q1 :=
  ha E σ Gc Hc G H fps hH Q1 ((Rs.Post.bind h).mono (fun _ _ h => h) fun y hy v G' H' fp g => hk y v G' H' fp g (hy.mono (fun _ _ z => z.grow g.gr) fun _ z => z))
theorem Got.trans {K : PySem.W.Frag} {Gc Hc G H G' H' : Hp} {m : Mk} {v : V} {d : D} {fp : List Addr} (g : Grow Gc Hc G H) (x : Got K G H G' H' m v d fp) : Got K Gc Hc G' H' m v d fp :=
  ⟨g.trans x.gr, x.val, x.nd, fun a ha => g.sH.free (x.fresh a ha), x.out⟩
/-! text.index(sign), list.index(x) -/
theorem occ_keep (s sub : Str) (hi : Nat) : ∀ (l : List Nat) (st : Array Nat × Nat), 1 ≤ st.fst.size → (forIn l st (StrLaws.occBody s sub hi 1)).run.fst = st.fst
  | [], st, _ => rfl
  | a :: l, st, h => by
    rw [List.forIn_cons]
    unfold StrLaws.occBody
    rw [if_neg (fun c => by have := c.1.1.1; omega)]
    exact occ_keep s sub hi l st h
theorem occ_first (s sub : Str) (hi k : Nat) (hk : k + sub.length ≤ hi ∧ Builtin.Str.subAt s sub k = true) : ∀ (pre post : List Nat) (free : Nat), (∀ i ∈ pre ++ k :: post, free ≤ i) → (∀ i ∈ pre, ¬ (i + sub.length ≤ hi ∧ Builtin.Str.subAt s sub i = true)) →
    (forIn (pre ++ k :: post) ((#[] : Array Nat), free) (StrLaws.occBody s sub hi 1)).run.fst = #[k]
  | [], post, free, hf, _ => by
    rw [List.nil_append, List.forIn_cons]
    unfold StrLaws.occBody
    rw [if_pos ⟨⟨⟨by simp, hf k (by simp)⟩, hk.1⟩, hk.2⟩]
    exact occ_keep s sub hi post _ (by simp)
  | a :: pre, post, free, hf, hn => by
    rw [List.cons_append, List.forIn_cons]
    unfold StrLaws.occBody
    rw [if_neg (fun c => hn a List.mem_cons_self ⟨c.1.2, c.2⟩)]
    exact occ_first s sub hi k hk pre post free (fun i hi' => hf i (by rw [List.cons_append]; exact List.mem_cons_of_mem _ hi')) fun i hi' => hn i (List.mem_cons_of_mem _ hi')
theorem firstN_ok {c : Nat} : ∀ {s : List Nat} {j k : Nat}, firstN c s j = some k → ∃ i, k = j + i ∧ s[i]? = some c ∧ ∀ m, m < i → s[m]? ≠ some c
  | [], j, k, h => by cases h
  | x :: r, j, k, h => by
    simp only [firstN] at h
    by_cases e : x = c
    · rw [if_pos e] at h
      cases h
      exact ⟨0, rfl, by rw [e]; rfl, fun m hm => absurd hm (Nat.not_lt_zero _)⟩
    · rw [if_neg e] at h
      obtain ⟨i, e1, e2, e3⟩ := firstN_ok h
      refine ⟨i + 1, by omega, by simpa using e2, fun m hm => ?_⟩
      cases m with
      | zero => simpa using e
      | succ m => simpa using e3 m (by omega)
theorem first_occ {s : List Nat} {c k : Nat} (h : firstN c s 0 = some k) : Builtin.Str.occurrences (sv s) (sv [c]) 0 (sv s).length 1 = [k] := by
  obtain ⟨i, e1, e2, e3⟩ := firstN_ok h
  have ek : k = i := by omega
  subst ek
  have hl : k < s.length := (List.getElem?_eq_some_iff.mp e2).1
  have hk := (StrLaws.subAt_one (sv s) c k).mpr (by rw [sv_cps]; exact e2)
  rw [StrLaws.occ_eq]
  have e : List.range' 0 ((sv s).length + 1 - 0) = List.range' 0 k ++ k :: List.range' (k + 1) (s.length - k) := by
    rw [sv_len]
    have a1 : s.length + 1 - 0 = k + (1 + (s.length - k)) := by omega
    rw [a1, ← List.range'_append_1, ← List.range'_append_1]
    simp [List.range'_one]
  rw [e, occ_first (sv s) (sv [c]) _ k hk _ _ 0 (fun _ _ => Nat.zero_le _) fun m hm z => ?_]
  have := (StrLaws.subAt_one (sv s) c m).mp z
  rw [sv_cps] at this
  exact e3 m (by simp [List.mem_range'] at hm; omega) this
theorem find_ge {y : D} : ∀ {xs : List D} {j k : Nat}, findD y xs j = some k → j ≤ k
  | [], j, k, h => by cases h
  | x :: r, j, k, h => by
    simp only [findD] at h
    split at h
    · cases h; exact Nat.le_refl _
    · have := find_ge h; omega
theorem find_ok {K : PySem.W.Frag} {H : Hp} {u : V} {y : D} (hu : Data K H u y) (hy : y.atom = true) : ∀ {xs : List D} {vs : List V} {j k : Nat}, Datas K H vs xs → xs.all D.atom = true → findD y xs j = some k →
    ∃ z, vs[k - j]? = some z ∧ eqV z u = true ∧ (∀ (m : Nat) (z' : V), m < k - j → vs[m]? = some z' → eqV z' u = false)
  | [], vs, j, k, t, a, h => by cases h
  | x :: r, _, j, k, .cons (v := v) (vs := vs) t1 t2, a, h => by
    rw [List.all_cons, Bool.and_eq_true] at a
    simp only [findD] at h
    by_cases e : D.eqv x y = true
    · rw [if_pos e] at h
      cases h
      rw [Nat.sub_self]
      exact ⟨v, rfl, by rw [atom_eq t1 hu a.1 hy]; exact e, fun m z' hm => absurd hm (Nat.not_lt_zero _)⟩
    · rw [if_neg e] at h
      have hjk := find_ge h
      obtain ⟨z, e1, e2, e3⟩ := find_ok hu hy t2 a.2 h
      have ej : k - j = (k - (j + 1)) + 1 := by omega
      rw [ej]
      refine ⟨z, by simpa using e1, e2, fun m z' hm hz => ?_⟩
      cases m with
      | zero =>
        have : v = z' := by simpa using hz
        subst this
        rw [atom_eq t1 hu a.1 hy]
        simpa using e
      | succ m => exact e3 m z' (by omega) (by simpa using hz)
/-! xs[::-1] -/
theorem rev_ix (n : Nat) : Builtin.Str.strSliceIndices none none (-1) n = (List.range n).reverse := by
  have h1 : ((-1 : Int) > 0) = False := by simp
  simp only [Builtin.Str.strSliceIndices, h1, if_false]
  rw [show sliceRange ((n : Int) - 1) (-1) (-1) = _ from PySem.W.krv_sliceRange n]
  exact PySem.W.krv_range n
theorem rev_cps (x : Str) : ((List.range x.length).reverse.filterMap (x.cps[·]?)) = x.cps.toList.reverse := by
  rw [List.filterMap_reverse]
  congr 1
  exact PySem.W.krv_all x.cps
def tRev (K : PySem.W.Frag) (te : TE) : TE := fun σ H Q => te σ H fun x H1 => (∃ a xs, x = .ref a ∧ SqL K H1 a xs ∧ ∀ p, H1 p = none → Q (.ref p) (upd H1 p (.lst xs.reverse))) ∨ ∃ s : List Nat, x = .str (sv s) ∧ s.length ≤ SZ ∧ Q (.str (sv s.reverse)) H1
theorem pe_rev {e : Expr} {te : TE} {k : Nat} {p1 p2 p3 pos : Pos} (he : PE X e te) : PE X (.Subscript e (.Slice none none (some (.UnaryOp .USub (.Constant (.int 1) k p1) p2)) p3) pos) (tRev X.K te) := by
  refine ⟨fun pins s σ H Q I h => ?_⟩
  refine Subscript_ (thn (he.run pins s σ H _ I h) fun v s1 ⟨x, H1, I1, r1, q1⟩ => ?_)
  have hst : PO X (some (.UnaryOp .USub (.Constant (.int 1) k p1) p2)) (tPart (tUn (rU fun i => .int (-i)) (tC (.int 1)))) := po_some (pe_un un_neg pe_int)
  refine wpAny_Slice (thn (po_none.run pins s1 σ H1 (fun o H2 => o = none ∧ H2 = H1) I1 ⟨rfl, rfl⟩) fun vl s2 ⟨l, H2, I2, pl, el, e2⟩ => ?_)
  subst el e2
  refine thn (po_none.run pins s2 σ H2 (fun o H3 => o = none ∧ H3 = H2) I2 ⟨rfl, rfl⟩) fun vu s3 ⟨u, H3, I3, pu, eu, e3⟩ => ?_
  subst eu e3
  refine thn (hst.run pins s3 σ H3 (fun o H4 => o = some (-1) ∧ H4 = H3) I3 ⟨1, rfl, -1, rfl, rfl, rfl⟩) fun vs s4 ⟨o, H4, I4, ps, eo, e4⟩ => ?_
  subst eo e4
  have I5 : Inv X pins σ H4 { s4 with heap := s4.heap.push { cls := .type "slice", data := .fields #[vl, vu, vs] } } := I4.kept (t' := s4.toks) fun b ob q => Heap.get?_push_of_some _ q
  rcases q1 with ⟨a, xs, ex, hx, q⟩ | ⟨z, ex, hz, q⟩
  · subst ex
    cases r1
    obtain ⟨its, r, ht, hz⟩ := I5.list hx
    have hlen := r.length
    show wpAny (model X.prog X.w) X.A (subscriptTail e (.Slice none none (some (.UnaryOp .USub (.Constant (.int 1) k p1) p2)) p3) (.ref a) (.ref s4.heap.objs.size)) (EP X pins σ Q) X.xe { s4 with heap := s4.heap.push { cls := .type "slice", data := .fields #[vl, vu, vs] } }
    refine tail_any (ops := [.ref a, .ref s4.heap.objs.size]) ht.isList.typeIs (PySem.slot_list_getitem.lookup) ?_ (by with_unfolding_all rfl)
    refine wpAny_getItem_list_slice ht.isList (Heap.IsSliceOf.new _ vl vu vs) pl pu ps (by decide) ?_ (by rw [List.size_toArray]; omega)
    rw [PySem.W.krv_pick]
    refine ⟨.ref _, _, I5.laid (t' := s4.toks) (o := .lst xs.reverse) (fun b ob q => Heap.get?_push_of_some _ q) (Nat.le_refl _) ?_, rfl, q _ (I5.hok.fresh (Nat.le_refl _))⟩
    exact ⟨by rw [List.length_reverse]; exact hz, _, 0, r.reverse, Heap.get?_push_size _ rfl⟩
  · subst ex
    obtain ⟨t, rfl⟩ := r1
    show wpAny (model X.prog X.w) X.A (subscriptTail e (.Slice none none (some (.UnaryOp .USub (.Constant (.int 1) k p1) p2)) p3) (.str (sv z) t) (.ref s4.heap.objs.size)) (EP X pins σ Q) X.xe { s4 with heap := s4.heap.push { cls := .type "slice", data := .fields #[vl, vu, vs] } }
    refine tail_any (ops := [.str (sv z) t, .ref s4.heap.objs.size]) (typeIs_str _ _ _) (F.slot_str_getitem.lookup) ?_ (by with_unfolding_all rfl)
    obtain ⟨os, hos, hcs, hds⟩ := Heap.IsSliceOf.new s4.heap vl vu vs
    obtain ⟨l', rfl, hl⟩ := IsPart.raw pl
    obtain ⟨u', rfl, hu⟩ := IsPart.raw pu
    obtain ⟨v', rfl, hv⟩ := IsPart.raw ps
    refine wpAny_getItem_str_slice (l := l') (u := u') (st := v') ⟨os, hos, hcs, hds⟩ (by rw [hv]; rfl) ?_
    unfold sliceMade slicePicked
    rw [hl, hu, hv]
    show Made.post (if ((-1 : Int) == 1 && (Builtin.Str.strSliceIndices none none (-1) (sv z).length).length == (sv z).length) = true then Made.val (.str (sv z) t) else Made.str ⟨((Builtin.Str.strSliceIndices none none (-1) (sv z).length).filterMap ((sv z).cps[·]?)).toArray⟩) (EP X pins σ Q) _
    rw [if_neg (by simp), rev_ix, rev_cps]
    have e3 : (⟨(sv z).cps.toList.reverse.toArray⟩ : Str) = sv z.reverse := by rw [sv_cps]; rfl
    rw [e3]
    exact ⟨by rw [sv_len, List.length_reverse, SZ_eq]; exact hz, .str _, H4, I5.tok _, ⟨_, rfl⟩, q⟩
theorem noSet_mark {o : CmpOp} {r : Expr} (h : noSet r = true) : behindInMarks o r = false := by cases r <;> first | rfl | cases h
theorem base_ok {o : Expr} {m : Str} {env : Env} (h : noCall o = true) : attributeBase o m env (eval o env) = eval o env := by cases o <;> first | rfl | cases h
theorem plainIx_ok {b : Expr} (h : noSlc b = true) : PlainIx b := by cases b <;> first | (intro o i; rfl) | cases h
theorem any_star {es : List Expr} {env : Env} {pos : Pos} (h : es.all noStar = true) : (backTo pos (starEach es env)).any (·.1) = false := by
  unfold backTo
  rw [List.any_map, List.any_eq_false]
  intro x hx
  have := stars (env := env) h x hx
  simp [this]
theorem fewA {v : Expr} {cp : Pos} {env : Env} (h : noStar v = true) : ((backTo cp (starEach [v] env)).all (fun x => !x.1) && (backToKw cp (keywordEach [] env)).all (fun x => x.1.isSome)
      && decide (([v] : List Expr).length + ([] : List Keyword).length + (if ([] : List Keyword).isEmpty then 0 else 1) < 30)) = true := by
  rw [star_cons h]
  rfl
theorem chL_star {es : List Ex} {vs : List Expr} (h : chL C es vs = true) : vs.all noStar = true := by
  induction es generalizing vs with
  | nil =>
    cases vs with
    | nil => rfl
    | cons v vs => simp [chL] at h
  | cons e es ih =>
    cases vs with
    | nil => rfl
    | cons v vs =>
      simp only [chL, Bool.and_eq_true] at h
      rw [List.all_cons, h.1.1, ih h.2]; rfl
theorem noStar_of {v : Expr} {vs : List Expr} (h : (v :: vs).all noStar = true) : noStar v = true ∧ vs.all noStar = true := by
  rw [List.all_cons, Bool.and_eq_true] at h; exact h
def twW (X : Cx) (e : Expr) : TT := fun σ H Q => ∀ (whole : Sem Value) (pins : List (Addr × Obj)) (s : Shared), Inv X pins σ H s → wpAny (model X.prog X.w) X.A (isTrue e X.env whole) (TP X pins σ Q) X.xe s
theorem pw_tw {e : Expr} : PW X e (twW X e) := ⟨fun wh pins s _ _ _ I h => h wh pins s I⟩
theorem twW_of {e : Expr} {t : TT} (h : PW X e t) {σ : List (Option V)} {H : Hp} {Q : Bool → Hp → Prop} (q : t σ H Q) : twW X e σ H Q := fun wh pins s I => h.run wh pins s σ H Q I q
def SW (X : Cx) (xr : XRep) (xw : WX) (e : Expr) (f : Ev → Rs Bool) : Prop := ∀ (E : Ev) (σ : List (Option V)) (Gc Hc G H : Hp) (fps : Nat → List Addr), Holds X.K Gc Hc G H E σ fps → ∀ Q : Bool → Hp → Prop,
  (f E).Post (EXw xr xw σ G H) (fun b => ∀ G' H', Grow G H G' H' → Q b H') → twW X e σ H Q
theorem isNonC_eq {e : Ex} (h : isNonC e = true) : e = .cst .non := by
  cases e with
  | cst d => cases d <;> first | rfl | cases h
  | _ => cases h
/-- what a slice's part is -/
theorem optI_int {e : Ex} {d : D} {E : Nat → D → Prop} {q : Option Int → Prop} (h : isNonC e = false) (p : (optI e d).Post E q) : ∃ i, d = .int i ∧ q (some i) := by
  unfold optI at p
  split at p
  · cases h
  · exact ⟨_, rfl, p⟩
  · exact False.elim p
theorem part_ok {e : Ex} {o : Option Expr} (h : (match o with | none => isNonC e | some l => !isNonC e && chE C e l) = true) (he : ∀ y, o = some y → chE C e y = true → SE X xr xw y (den cal gl e)) :
    ∃ t : TO, PO X o t ∧ ∀ {E : Ev} {σ : List (Option V)} {Gc Hc G H : Hp} {fps : Nat → List Addr}, Holds X.K Gc Hc G H E σ fps → ∀ {β : Type} {k : Option Int → Rs β} {q : β → Prop} {Q1 : Option Int → Hp → Prop},
      ((den cal gl e E).bind fun l => (optI e l.2).bind k).Post (EXw xr xw σ G H) q → (∀ i G1 H1, Grow G H G1 H1 → (k i).Post (EXw xr xw σ G1 H1) q → Q1 i H1) → t σ H Q1 := by
  cases o with
  | none =>
    have e1 : e = .cst .non := isNonC_eq h
    subst e1
    exact ⟨tNoPart, po_none, fun {E σ Gc Hc G H fps} hH {β k q Q1} hp hk => hk none G H (Grow.refl hH.gr.sub) hp⟩
  | some l =>
    have h' : (!isNonC e) = true ∧ chE C e l = true := by simpa using h
    have h1 : isNonC e = false := by simpa using h'.1
    refine ⟨tPart (tw X l), po_some pe_tw, fun {E σ Gc Hc G H fps} hH {β k q Q1} hp hk => ?_⟩
    refine (he l rfl h'.2).step hH hp fun y v G1 H1 fp g1 hp1 => ?_
    obtain ⟨i, e1, e2⟩ := optI_int h1 (Rs.Post.bind hp1)
    have q := g1.data
    rw [e1] at q
    exact ⟨i, data_int q, hk _ G1 H1 g1.gr e2⟩
/-- a def that is called without arguments -/
theorem pe_call0S {CX : CXT} {k : Nat} {f : Addr} {fd : FuncData} {ps : List Str} {sp : Sp} {E : List (Option V) → XK} {x : Str} {p pos : Pos} (F : FnOk X.prog X.w X.K X.mg X.base CX k f fd ps sp) (hr : Room k X.A) (hg : Gl X x) (hm : X.mg x = some (.ref f)) (hk : PySem.W.keepIn X.K (.ref f) = true) (hb : Binds X.K fd ps []) (hx : ∀ σ, PassesAt CX X σ (E σ))
    (hdb : (x == ("__debug__" : Str)) = false) : PE X (.Call (.Name x p) [] [] pos) (tCallS sp E tNil) := by
  refine ⟨fun pins s σ H Q I h => ?_⟩
  refine wpAny_Call_Name_kw (ld_glob I hg hm ?_ hdb)
  exact PySem.W.callWith_K0 I.kIn hk (run_fnS (us := []) F hr hb (hx σ) I .nil h)
/-- the promise of a def at a call -/
theorem call_sp {f : Nat} {G H G1 H1 : Hp} {σ : List (Option V)} {ms : List Vl} {us : List V} {fp : List Addr} {Q : VK} (g1 : Gots X.K G H G1 H1 ms us fp)
    (hp : ((cal f (ms.map (·.2))).bind fun r => Rs.ok (callM ms r)).Post (EXw xr xw σ G1 H1) fun x => ∀ v G' H' fp, Got X.K G H G' H' x.1 v x.2 fp → Q v H') : spOf X.K cal xr f us H1 Q (fun cls d H => xw cls d σ H) := by
  have hp := Rs.Post.bind hp
  cases b : isBor ms with
  | false =>
    obtain ⟨G2, g, q⟩ := g1.share b
    refine ⟨G2, _, g.sub, q, hp.mono (fun c x hx G' H' cls d gg r => ?_) fun r hr v G' H' fp gg => ?_⟩
    · exact hx G1 H' cls d ⟨Same.refl _, gg.sH, g1.gr.sub.trans gg.sH, fun _ z _ => z⟩ r
    · have e : callM ms r = r := by unfold callM; rw [b]; rfl
      have hr : ∀ v G' H' fp, Got X.K G H G' H' (callM ms r).1 v (callM ms r).2 fp → Q v H' := hr
      rw [e] at hr
      exact hr v G' H' fp ⟨g.trans gg.gr, gg.val, gg.nd, fun a m => g.sH.free (gg.fresh a m), gg.out⟩
  | true =>
    refine ⟨H1, _, Same.refl _, g1.data, hp.mono (fun c x hx G' H' cls d gg r => ?_) fun r hr v G' H' fp gg => ?_⟩
    · exact hx G1 H' cls d ⟨Same.refl _, gg.sH, g1.gr.sub.trans gg.sH, fun _ z _ => z⟩ r
    · have hr : ∀ v G' H' fp, Got X.K G H G' H' (callM ms r).1 v (callM ms r).2 fp → Q v H' := hr
      have gr1 : Grow G1 H1 G1 H' := ⟨Same.refl _, gg.gr.sH, g1.gr.sub.trans gg.gr.sH, fun _ z _ => z⟩
      cases f : r.2.flat with
      | true =>
        have e : callM ms r = (.fu, r.2) := by unfold callM; rw [b, f]; rfl
        rw [e] at hr
        exact hr v (withT G1 H') H' [] ⟨g1.gr.trans gr1.withT, .flat (Data.flat gr1.sub gg.data f) f, List.nodup_nil, (fun _ z => by cases z), (fun _ z => by cases z)⟩
      | false =>
        have e : callM ms r = (.bf, r.2) := by unfold callM; rw [b, f]; rfl
        rw [e] at hr
        exact hr v G1 H' [] ⟨g1.gr.trans gr1, ⟨rfl, gg.data⟩, List.nodup_nil, (fun _ z => by cases z), (fun _ z => by cases z)⟩
/-! isinstance -/
def tyStr : D → String
  | .non => "NoneType"
  | .bl _ => "bool"
  | .int _ => "int"
  | .str _ => "str"
  | .lst _ => "list"
  | .tup _ => "tuple"
  | .dic _ _ => "dict"
  | _ => ""
theorem tyX_ok {K : PySem.W.Frag} {H : Hp} {v : V} {d : D} (h : Data K H v d) (c : d.common = true) : TyX K H v (.type (tyStr d)) := by
  cases h with
  | non => exact .base .non
  | bl b => exact .base (.bl b)
  | int i => exact .base (.int i)
  | str s => exact .base (.str _)
  | lst h t => exact .base (.lst h)
  | rls h t => cases c
  | tup h t =>
    rcases h with (h | ⟨o, h⟩) | ⟨o, its, n, h1, h2, _⟩
    · exact .base (.tup h)
    · exact .fTuple h
    · exact .kTuple h1 h2
  | dic h l t => exact .base (.dK h)
def tyV : Ty → V
  | .int => .ty "int"
  | .bool => .ty "bool"
  | .str => .ty "str"
  | .list => .ty "list"
  | .tuple => .ty "tuple"
  | .dict => .ty "dict"
  | .cls _ => .non
def tyVal : Ty → Value
  | .int => .type "int"
  | .bool => .type "bool"
  | .str => .type "str"
  | .list => .type "list"
  | .tuple => .type "tuple"
  | .dict => .type "dict"
  | .cls _ => .none
theorem kit_all : ∀ a ∈ (["NoneType", "bool", "int", "str", "list", "tuple", "dict"] : List String), ∀ b ∈ (["int", "bool", "str", "list", "tuple", "dict"] : List String),
    kitB a b = some ((a == b) || (a == "bool" && b == "int")) := by decide +kernel
theorem ty_ok {t : Ty} {e : Expr} (O : XOk X C cal gl xr xw) (h : tyC C t e = true) : PE X e (tC (tyV t)) ∧ ClsV (tyV t) (tyVal t) ∧ noStar e = true ∧ ∀ d : D, d.common = true → PySem.W.kitOne X.K (.type (tyStr d)) (tyVal t) = some (tyB t d) := by
  unfold tyC at h
  have go : ∀ (s : String), glN C s e = true → s ∈ bltNames → bootBuiltins (Str.ofString s) = some (.type s) → s ∈ (["int", "bool", "str", "list", "tuple", "dict"] : List String) → (Str.ofString s ≠ "__name__") → ((Str.ofString s == ("__debug__" : Str)) = false) →
      PE X e (tC (.ty s)) ∧ ClsV (.ty s) (.type s) ∧ noStar e = true ∧ ∀ d : D, d.common = true → PySem.W.kitOne X.K (.type (tyStr d)) (.type s) = some ((tyStr d == s) || (tyStr d == "bool" && s == "int")) := fun s h hb hv hm hn hd => by
    obtain ⟨p, rfl, hg⟩ := glN_ok O h
    refine ⟨pe_bltn hg (O.blt _ hb) hv rfl hn hd, .ty s, rfl, fun d hc => kit_ty (kit_all _ ?_ _ hm)⟩
    cases d <;> first | cases hc; done | simp [tyStr]
  cases t with
  | cls c => cases h
  | int =>
    obtain ⟨a, b, c, d⟩ := go "int" h (by decide) PyProof.Rows.boot_int (by decide) (by decide) (by decide)
    exact ⟨a, b, c, fun x hx => by rw [show tyVal .int = .type "int" from rfl, d x hx]; cases x <;> first | rfl | cases hx⟩
  | bool =>
    obtain ⟨a, b, c, d⟩ := go "bool" h (by decide) PyProof.Rows.boot_bool (by decide) (by decide) (by decide)
    exact ⟨a, b, c, fun x hx => by rw [show tyVal .bool = .type "bool" from rfl, d x hx]; cases x <;> first | rfl | cases hx⟩
  | str =>
    obtain ⟨a, b, c, d⟩ := go "str" h (by decide) PyProof.Rows.boot_str (by decide) (by decide) (by decide)
    exact ⟨a, b, c, fun x hx => by rw [show tyVal .str = .type "str" from rfl, d x hx]; cases x <;> first | rfl | cases hx⟩
  | list =>
    obtain ⟨a, b, c, d⟩ := go "list" h (by decide) PyProof.Rows.boot_list (by decide) (by decide) (by decide)
    exact ⟨a, b, c, fun x hx => by rw [show tyVal .list = .type "list" from rfl, d x hx]; cases x <;> first | rfl | cases hx⟩
  | tuple =>
    obtain ⟨a, b, c, d⟩ := go "tuple" h (by decide) PyProof.Rows.boot_tuple (by decide) (by decide) (by decide)
    exact ⟨a, b, c, fun x hx => by rw [show tyVal .tuple = .type "tuple" from rfl, d x hx]; cases x <;> first | rfl | cases hx⟩
  | dict =>
    obtain ⟨a, b, c, d⟩ := go "dict" h (by decide) (by decide +kernel) (by decide) (by decide) (by decide)
    exact ⟨a, b, c, fun x hx => by rw [show tyVal .dict = .type "dict" from rfl, d x hx]; cases x <;> first | rfl | cases hx⟩
theorem tys_ok (O : XOk X C cal gl xr xw) : ∀ {ts : List Ty} {es : List Expr}, tysC C ts es = true → (∀ {σ : List (Option V)} {H : Hp} {Q : List V → Hp → Prop}, Q (ts.map tyV) H → twA X es σ H Q) ∧ Paired ClsV (ts.map tyV) (ts.map tyVal) ∧
    (∀ d : D, d.common = true → PySem.W.kitAny X.K (.type (tyStr d)) (ts.map tyVal) = some (ts.any fun t => tyB t d)) ∧ ts.length = es.length
  | [], [], _ => ⟨fun q => twA_of pa_nil q, .nil, fun _ _ => rfl, rfl⟩
  | [], _ :: _, h => by cases h
  | _ :: _, [], h => by cases h
  | t :: ts, e :: es, h => by
    simp only [tysC, Bool.and_eq_true] at h
    obtain ⟨h1, h2⟩ := h
    obtain ⟨p1, p2, p3, p4⟩ := ty_ok O h1
    obtain ⟨r1, r2, r3, r4⟩ := tys_ok O h2
    refine ⟨fun {σ H Q} q => twA_of (pa_cons p1 pa_tw (star_cons p3)) (r1 q), .cons p2 r2, fun d hd => ?_, by rw [List.length_cons, List.length_cons, r4]⟩
    refine kitAny_cons (p4 d hd) (fun hb => ?_) (fun hb => ?_)
    · rw [List.any_cons, hb, Bool.false_or]; exact r3 d hd
    · rw [List.any_cons, hb, Bool.true_or]
theorem boolD_ok {α : Type} {d : D} {f : Bool → Rs α} {e : Nat → D → Prop} {q : α → Prop} (h : (boolD d f).Post e q) : ∃ b, d = .bl b ∧ (f b).Post e q := by
  cases d <;> first | exact False.elim h | exact ⟨_, rfl, h⟩

theorem chI_noSet {tp : Bool} {i : Ix} {x : Expr} (h : chI C tp i x = true) : noSet x = true := by
  cases x <;> first | rfl | (cases i <;> simp [chI, noSet] at h)
mutual
theorem den_ok : ∀ (e : Ex) {x : Expr} {X : Cx} {C : Ck} {xw : WX}, XOk X C cal gl xr xw → chE C e x = true → SE X xr xw x (den cal gl e)
  | .var i, x, X, C, xw, O, h => by
    cases x <;> first | (simp [chE] at h; done) | skip
    rename_i n p
    simp only [chE, nmC, Bool.and_eq_true, decide_eq_true_eq] at h
    obtain ⟨⟨h1, h2⟩, h3⟩ := h
    obtain ⟨n1, n2, n3⟩ := okName_ok h3
    intro E σ Gc Hc G H fps hH Q hp
    refine tw_of (pe_var (i := i) (by rw [O.hN]; exact h1) (by rw [O.hsc]; exact visC_ok h2) n1 n2) ?_
    simp only [den] at hp
    split at hp
    · rename_i m d he
      obtain ⟨v, hv, g⟩ := hH.read he
      exact ⟨v, hv, hp v G H [] g⟩
    · exact False.elim hp
  | .cst d, x, X, C, xw, O, h => by
    cases x <;> first | (simp [chE] at h; done) | skip
    rename_i c k p
    intro E σ Gc Hc G H fps hH Q hp
    have g := Grow.refl hH.gr.sub
    have hp : ∀ v G' H' fp, Got X.K G H G' H' .fu v d fp → Q v H' := hp
    cases d <;> cases c <;> first | (simp [chE, cstC] at h; done) | skip
    · exact tw_of pe_non (hp _ _ _ _ (Got.of_atom g .non rfl))
    · simp only [chE, cstC, beq_iff_eq] at h
      subst h
      exact tw_of pe_bl (hp _ _ _ _ (Got.of_atom g (.bl _) rfl))
    · simp only [chE, cstC, beq_iff_eq] at h
      subst h
      exact tw_of pe_int (hp _ _ _ _ (Got.of_atom g (.int _) rfl))
    · simp only [chE, cstC, decide_eq_true_eq] at h
      subst h
      exact tw_of pe_str (hp _ _ _ _ (Got.of_atom g (.str _) rfl))
  | .gl k, x, X, C, xw, O, h => by
    cases x <;> first | (simp [chE] at h; done) | skip
    rename_i n p
    simp only [chE, Bool.and_eq_true, decide_eq_true_eq] at h
    obtain ⟨⟨h1, h2⟩, h3⟩ := h
    obtain ⟨n1, n2, n3⟩ := okName_ok h3
    obtain ⟨u, v, hm, r, q⟩ := O.gls k n h1
    intro E σ Gc Hc G H fps hH Q hp
    refine tw_of (pe_glob (glC_ok O h2) hm r n1) ?_
    have hp : ∀ v G' H' fp, Got X.K G H G' H' .fr v (gl k) fp → Q v H' := hp
    exact hp v G H [] ⟨Grow.refl hH.gr.sub, ⟨rfl, q.mono (fun _ _ z => by cases z)⟩, List.nodup_nil, (fun _ z => by cases z), (fun _ z => by cases z)⟩
  | .bin op a b, x, X, C, xw, O, h => by
    cases x <;> first | (simp [chE] at h; done) | skip
    simp only [chE, Bool.and_eq_true] at h
    obtain ⟨⟨h1, h2⟩, h3⟩ := h
    have ha := den_ok a O h2
    have hb := den_ok b O h3
    intro E σ Gc Hc G H fps hH Q hp
    refine tw_of (pe_op op_rw pe_tw pe_tw) ?_
    exact ha.step hH hp fun y v G1 H1 fp g1 hp1 => hb.step (hH.grow g1.gr) hp1 fun z w G2 H2 fq g2 hp2 =>
      bin_ok h1 g1 g2 (Rs.Post.bind hp2)
  | .neg a, x, X, C, xw, O, h => by
    cases x <;> first | (simp [chE] at h; done) | skip
    rename_i op _ _
    cases op <;> first | (simp [chE] at h; done) | skip
    simp only [chE] at h
    have ha := den_ok a O h
    intro E σ Gc Hc G H fps hH Q hp
    refine tw_of (pe_un un_neg pe_tw) ?_
    refine ha.step hH hp fun y v G1 H1 fp g1 hp1 => ?_
    obtain ⟨m, d⟩ := y
    cases d <;> first | exact False.elim hp1 | skip
    obtain rfl := data_int g1.data
    exact ⟨_, rfl, hp1 _ _ _ _ (Got.of_atom g1.gr (.int _) rfl)⟩
  | .cmp op a b, x, X, C, xw, O, h => by
    unfold chE at h
    split at h
    · simp only [Bool.and_eq_true] at h
      obtain ⟨⟨⟨h1, h2⟩, h3⟩, h4⟩ := h
      have ha := den_ok a O h3
      have hb := den_ok b O h4
      intro E σ Gc Hc G H fps hH Q hp
      refine tw_of (pe_cmpR op_rw pe_tw pe_tw (noSet_mark h2)) ?_
      exact ha.step hH hp fun y v G1 H1 fp g1 hp1 => hb.step (hH.grow g1.gr) hp1 fun z w G2 H2 fq g2 hp2 =>
        cmp_ok O h1 (g1.grow g2.gr).data g2.data ((Rs.Post.bind hp2).mono (fun _ _ z => z) fun c hc => hc _ _ _ _ (Got.of_atom (g1.gr.trans g2.gr) (.bl _) rfl))
    · cases h
  | .chain o1 o2 a b c, x, X, C, xw, O, h => by
    unfold chE at h
    split at h
    · rename_i l p1 p2 m r pos
      simp only [Bool.and_eq_true] at h
      obtain ⟨⟨⟨⟨⟨h1, h2⟩, h3⟩, h4⟩, h5⟩, h6⟩ := h
      have ha := den_ok a O h4
      have hb := den_ok b O h5
      have hc := den_ok c O h6
      intro E σ Gc Hc G H fps hH Q hp
      refine tw_of (pe_chain op_rw op_rw pe_tw pe_tw pe_tw (show lastMarks [p1, p2] [m, r] = false from noSet_mark h3)) ?_
      refine ha.step hH hp fun y v G1 H1 fp g1 hp1 => hb.step (hH.grow g1.gr) hp1 fun z w G2 H2 fq g2 hp2 => ?_
      refine cmp_ok O h1 (g1.grow g2.gr).data g2.data ((Rs.Post.bind hp2).mono (fun _ _ z => z) fun k hk => ?_)
      refine ⟨k, rfl, ?_⟩
      cases k with
      | true =>
        rw [if_pos rfl]
        have hk : ((den cal gl c E).bind fun z2 => (cmpD o2 z.2 z2.2).bind fun k2 => Rs.ok (Mk.fu, D.bl k2)).Post (EXw xr xw σ G2 H2) _ := hk
        refine hc.step (hH.grow (g1.gr.trans g2.gr)) hk fun z2 w2 G3 H3 fq2 g3 hp3 => ?_
        exact cmp_ok O h2 (g2.data.mono g3.gr.sH) g3.data ((Rs.Post.bind hp3).mono (fun _ _ z => z) fun c hc => hc _ _ _ _ (Got.of_atom ((g1.gr.trans g2.gr).trans g3.gr) (.bl _) rfl))
      | false =>
        rw [if_neg Bool.false_ne_true]
        exact hk _ _ _ _ (Got.of_atom (g1.gr.trans g2.gr) (.bl _) rfl)
    · cases h
  | .isN a, x, X, C, xw, O, h => by
    unfold chE at h
    split at h
    · rename_i l r pos
      simp only [Bool.and_eq_true] at h
      obtain ⟨h1, h2⟩ := h
      have ha := den_ok a O h2
      intro E σ Gc Hc G H fps hH Q hp
      cases r <;> first | (simp [noneC] at h1; done) | skip
      rename_i c kk pp
      cases c <;> first | (simp [noneC] at h1; done) | skip
      refine tw_of (pe_cmp (pc_isN pe_tw)) ?_
      refine ha.step hH hp fun y v G1 H1 fp g1 hp1 => ?_
      have e : decide (v = V.non) = isNon y.2 := by
        have q := g1.data
        revert q
        cases y.2 <;> intro q <;> cases q <;> simp [isNon]
      rw [e]
      exact hp1 _ _ _ _ (Got.of_atom g1.gr (.bl _) rfl)
    · cases h
  | .notN a, x, X, C, xw, O, h => by
    unfold chE at h
    split at h
    · rename_i l r pos
      simp only [Bool.and_eq_true] at h
      obtain ⟨h1, h2⟩ := h
      have ha := den_ok a O h2
      intro E σ Gc Hc G H fps hH Q hp
      cases r <;> first | (simp [noneC] at h1; done) | skip
      rename_i c kk pp
      cases c <;> first | (simp [noneC] at h1; done) | skip
      refine tw_of (pe_cmp (pc_notN pe_tw)) ?_
      refine ha.step hH hp fun y v G1 H1 fp g1 hp1 => ?_
      have e : decide (v = V.non) = isNon y.2 := by
        have q := g1.data
        revert q
        cases y.2 <;> intro q <;> cases q <;> simp [isNon]
      rw [e]
      exact hp1 _ _ _ _ (Got.of_atom g1.gr (.bl _) rfl)
    · cases h
  | .and_ es, x, X, C, xw, O, h => by
    unfold chE at h
    split at h
    · exact denAnd_ok es O h
    · cases h
  | .or_ es, x, X, C, xw, O, h => by
    unfold chE at h
    split at h
    · exact denOr_ok es O h
    · cases h
  | .not_ a, x, X, C, xw, O, h => by
    unfold chE at h
    split at h
    · have ha := den_ok a O h
      intro E σ Gc Hc G H fps hH Q hp
      refine tw_of (pe_notT pe_tw) ?_
      refine ha.step hH hp fun y v G1 H1 fp g1 hp1 => ?_
      exact tru_data g1.data ((Rs.Post.bind hp1).mono (fun _ _ z => z) fun c hc => hc _ _ _ _ (Got.of_atom g1.gr (.bl _) rfl))
    · cases h
  | .ite c a b, x, X, C, xw, O, h => by
    unfold chE at h
    split at h
    · simp only [Bool.and_eq_true] at h
      obtain ⟨⟨h1, h2⟩, h3⟩ := h
      have hc := tst_ok c O h1
      have ha := den_ok a O h2
      have hb := den_ok b O h3
      intro E σ Gc Hc G H fps hH Q hp
      refine tw_of (pe_ifExp pt_tw pe_tw pe_tw) ?_
      refine hc.step hH hp fun k G1 H1 g1 hp1 => ?_
      cases k with
      | true =>
        rw [if_pos rfl]
        exact ha E σ Gc Hc G1 H1 fps (hH.grow g1) Q (hp1.mono (fun _ _ z => z) fun y hy v G' H' fp g => hy v G' H' fp ⟨g1.trans g.gr, g.val, g.nd, fun a m => g1.sH.free (g.fresh a m), g.out⟩)
      | false =>
        rw [if_neg Bool.false_ne_true]
        exact hb E σ Gc Hc G1 H1 fps (hH.grow g1) Q (hp1.mono (fun _ _ z => z) fun y hy v G' H' fp g => hy v G' H' fp ⟨g1.trans g.gr, g.val, g.nd, fun a m => g1.sH.free (g.fresh a m), g.out⟩)
    · cases h
  | .lst k es, x, X, C, xw, O, h => by
    unfold chE at h
    split at h
    · have ha := dens_ok es O h
      intro E σ Gc Hc G H fps hH Q hp
      refine tw_of (pe_lst pa_tw) ?_
      refine ha.step hH hp fun y vs G1 H1 fp g1 hp1 => ?_
      simp only [lstV] at hp1
      by_cases c : y.length ≤ SZ
      · rw [if_pos c] at hp1
        refine ⟨by rw [g1.val.length, SZ_eq]; exact c, fun p hp2 => ?_⟩
        cases k with
        | true =>
          rw [if_pos rfl] at hp1
          by_cases c2 : (y.all fun v => v.1 == .fu || v.2.flat) = true
          · rw [if_pos c2] at hp1
            exact hp1 _ _ _ _ (g1.listF hp2 c2)
          · rw [if_neg c2] at hp1; exact False.elim hp1
        | false =>
          rw [if_neg Bool.false_ne_true] at hp1
          cases b : isBor y with
          | true => rw [b] at hp1; exact hp1 _ _ _ _ (g1.listB hp2)
          | false =>
            rw [b] at hp1
            obtain ⟨G2, g⟩ := g1.list hp2 b
            exact hp1 _ _ _ _ g
      · rw [if_neg c] at hp1; exact False.elim hp1
    · cases h
  | .tup es, x, X, C, xw, O, h => by
    unfold chE at h
    split at h
    · have ha := dens_ok es O h
      intro E σ Gc Hc G H fps hH Q hp
      refine tw_of (pe_tup pa_tw) ?_
      refine ha.step hH hp fun y vs G1 H1 fp g1 hp1 => ?_
      simp only [tupV] at hp1
      by_cases c : y.length ≤ SZ
      · rw [if_pos c] at hp1
        refine ⟨by rw [g1.val.length, SZ_eq]; exact c, fun p hp2 => ?_⟩
        cases b : isBor y with
        | true => rw [b] at hp1; exact hp1 _ _ _ _ (g1.tupB hp2)
        | false =>
          rw [b] at hp1
          obtain ⟨G2, g⟩ := g1.tup hp2 b
          exact hp1 _ _ _ _ g
      · rw [if_neg c] at hp1; exact False.elim hp1
    · cases h
  | .idx a b, x, X, C, xw, O, h => by
    unfold chE at h
    split at h
    · simp only [Bool.and_eq_true] at h
      obtain ⟨⟨h1, h2⟩, h3⟩ := h
      have ha := den_ok a O h2
      have hb := den_ok b O h3
      intro E σ Gc Hc G H fps hH Q hp
      refine tw_of (pe_ixw (plainIx_ok h1)) ?_
      exact ha.step hH hp fun y v G1 H1 fp g1 hp1 => hb.step (hH.grow g1.gr) hp1 fun z w G2 H2 fq g2 hp2 => idx_ok g1 g2 (Rs.Post.bind hp2)
    · cases h
  | .slc a lo hi, x, X, C, xw, O, h => by
    unfold chE at h
    split at h
    · rename_i y l hh p1 pos
      simp only [Bool.and_eq_true] at h
      obtain ⟨⟨h1, h2⟩, h3⟩ := h
      have ha := den_ok a O h1
      intro E σ Gc Hc G H fps hH Q hp
      obtain ⟨tl, pl, kl⟩ := part_ok (X := X) (xr := xr) (xw := xw) (cal := cal) (gl := gl) h2 fun y _ q => den_ok lo O q
      obtain ⟨th, ph, kh⟩ := part_ok (X := X) (xr := xr) (xw := xw) (cal := cal) (gl := gl) h3 fun y _ q => den_ok hi O q
      refine tw_of (pe_slice sl_rw pe_tw pl ph) ?_
      refine ha.step hH hp fun y v G1 H1 fp g1 hp1 => ?_
      refine kl (hH.grow g1.gr) hp1 fun i G2 H2 gr2 hp2 => ?_
      refine kh (hH.grow (g1.gr.trans gr2)) hp2 fun j G3 H3 gr3 hp3 => ?_
      exact slc_ok (g1.grow (gr2.trans gr3)) (Rs.Post.bind hp3)
    · cases h
  | .rev a, x, X, C, xw, O, h => by
    unfold chE at h
    split at h
    · rename_i y s p3 pos
      simp only [Bool.and_eq_true] at h
      obtain ⟨h1, h2⟩ := h
      have ha := den_ok a O h1
      unfold negOne at h2
      split at h2
      · intro E σ Gc Hc G H fps hH Q hp
        refine tw_of (pe_rev pe_tw) ?_
        refine ha.step hH hp fun y v G1 H1 fp g1 hp1 => ?_
        obtain ⟨m, d⟩ := y
        cases d <;> first | exact False.elim hp1 | skip
        · rename_i s
          have hp1 : (if s.length ≤ SZ then Rs.ok (Mk.fu, D.str s.reverse) else .no).Post (EXw xr xw σ G1 H1) (fun x => ∀ v G' H' fp, Got X.K G H G' H' x.1 v x.2 fp → Q v H') := hp1
          by_cases c : s.length ≤ SZ
          · rw [if_pos c] at hp1
            obtain rfl := data_str g1.data
            exact .inr ⟨s, rfl, c, hp1 _ _ _ _ (Got.of_atom g1.gr (.str _) rfl)⟩
          · rw [if_neg c] at hp1; exact False.elim hp1
        · rename_i ds
          obtain ⟨a, vs, rfl, hl, kk⟩ := g1.copyL (fun vs => vs.reverse) (ds2 := ds.reverse) fun _ _ q => q.reverse
          refine .inl ⟨a, vs, rfl, SqL.of hl, fun p hp2 => ?_⟩
          obtain ⟨G2, fq, g⟩ := kk p hp2
          exact hp1 _ _ _ _ g
      · cases h2
    · cases h
  | .call f es, x, X, C, xw, O, h => by
    unfold chE at h
    split at h
    · rename_i n p vs pos
      simp only [Bool.and_eq_true, decide_eq_true_eq] at h
      obtain ⟨⟨⟨h1, h2⟩, h3⟩, h4⟩ := h
      obtain ⟨n1, n2, n3⟩ := okName_ok h3
      obtain ⟨a, fd, ps, kk, hm, hk, hb, hr, F⟩ := O.fns f n h1
      have st := chL_star h4
      have ha := dens_ok es O h4
      intro E σ Gc Hc G H fps hH Q hp
      have fin : twA X vs σ H (fun us H1 => spOf X.K cal xr f us H1 Q (fun cls d H => xw cls d σ H)) := ha.step hH hp fun y us G1 H1 fp g1 hp1 => call_sp g1 hp1
      cases vs with
      | nil =>
        refine tw_of (pe_call0S (E := fun σ cls d H => xw cls d σ H) F hr (glC_ok O h2) hm hk hb O.wish n1) ?_
        cases es with
        | nil =>
          have g0 := Gots.nil (K := X.K) hH.gr.sub
          exact call_sp g0 hp
        | cons e es => simp [chL] at h4
      | cons v vs =>
        have s2 := noStar_of st
        exact tw_of (pe_callS (E := fun σ cls d H => xw cls d σ H) F hr (glC_ok O h2) hm hk hb O.wish pa_tw n1 (star_cons s2.1) (any_star s2.2)) fin
    · cases h
  | .bi b es, x, X, C, xw, O, h => by
    unfold chE at h
    split at h
    · rename_i f v vs pos
      simp only [Bool.and_eq_true] at h
      obtain ⟨⟨h1, h2⟩, h3⟩ := h
      obtain ⟨p, rfl, hg⟩ := glN_ok O h1
      have st := noStar_of (chL_star h2)
      have ha := dens_ok es O h2
      intro E σ Gc Hc G H fps hH Q hp
      have go : rwC X (biVal b) = rwC X (biVal b) := rfl
      have fin : twA X (v :: vs) σ H (fun us H1 => rwC X (biVal b) us H1 Q) := ha.step hH hp fun y vs G1 H1 fp g1 hp1 => bi_ok O g1 hp1
      cases b <;> first
        | exact tw_of (pe_callBfun (id := "math.gcd") call_rw hg (O.gcd (by simpa [biName] using h3)) pa_tw (by decide) (star_cons st.1) (any_star st.2)) fin
        | exact tw_of (pe_callB (id := "len") call_rw hg (O.blt _ (by decide)) boot_len pa_tw (by decide) (by decide) (star_cons st.1) (any_star st.2)) fin
        | exact tw_of (pe_callTy (T := "int") call_rw hg (O.blt _ (by decide)) PyProof.Rows.boot_int pa_tw (by decide) (by decide) (star_cons st.1) (any_star st.2)) fin
        | exact tw_of (pe_callTy (T := "list") call_rw hg (O.blt _ (by decide)) PyProof.Rows.boot_list pa_tw (by decide) (by decide) (star_cons st.1) (any_star st.2)) fin
        | exact tw_of (pe_callTy (T := "tuple") call_rw hg (O.blt _ (by decide)) PyProof.Rows.boot_tuple pa_tw (by decide) (by decide) (star_cons st.1) (any_star st.2)) fin
        | exact tw_of (pe_callB (id := "sorted") call_rw hg (O.blt _ (by decide)) PyProof.Rows.boot_sorted pa_tw (by decide) (by decide) (star_cons st.1) (any_star st.2)) fin
        | exact tw_of (pe_callB (id := "all") call_rw hg (O.blt _ (by decide)) PyProof.Rows.boot_all pa_tw (by decide) (by decide) (star_cons st.1) (any_star st.2)) fin
        | exact tw_of (pe_callB (id := "any") call_rw hg (O.blt _ (by decide)) PyProof.Rows.boot_any pa_tw (by decide) (by decide) (star_cons st.1) (any_star st.2)) fin
        | exact tw_of (pe_callB (id := "sum") call_rw hg (O.blt _ (by decide)) PyProof.Rows.boot_sum pa_tw (by decide) (by decide) (star_cons st.1) (any_star st.2)) fin
        | exact tw_of (pe_callB (id := "min") call_rw hg (O.blt _ (by decide)) PyProof.Rows.boot_min pa_tw (by decide) (by decide) (star_cons st.1) (any_star st.2)) fin
        | exact tw_of (pe_callB (id := "max") call_rw hg (O.blt _ (by decide)) PyProof.Rows.boot_max pa_tw (by decide) (by decide) (star_cons st.1) (any_star st.2)) fin
        | exact tw_of (pe_callB (id := "abs") call_rw hg (O.blt _ (by decide)) PyProof.Rows.boot_abs pa_tw (by decide) (by decide) (star_cons st.1) (any_star st.2)) fin
    · cases h
  | .mt1 b o a, x, X, C, xw, O, h => by
    unfold chE at h
    split at h
    · rename_i r m ap v cp
      simp only [Bool.and_eq_true, decide_eq_true_eq] at h
      obtain ⟨⟨⟨⟨⟨h1, h2⟩, h3⟩, h4⟩, h5⟩, h6⟩ := h
      have ho := den_ok o O h5
      have ha := den_ok a O h6
      intro E σ Gc Hc G H fps hH Q hp
      cases b with
      | join =>
        subst h1
        refine tw_of (pe_join pe_tw pe_tw (star_cons h4) (base_ok h3) h2) ?_
        refine ho.step hH hp fun y w G1 H1 fp g1 hp1 => ?_
        obtain ⟨m1, d1⟩ := y
        cases d1 <;> first | exact False.elim hp1 | skip
        obtain rfl := data_str g1.data
        refine ⟨⟨_, rfl⟩, ha.step (hH.grow g1.gr) hp1 fun z u G2 H2 fq g2 hp2 => ?_⟩
        obtain ⟨m2, d2⟩ := z
        cases d2 <;> first | exact False.elim hp2 | skip
        rename_i s ds
        have q := g2.data
        cases q with
        | lst l1 t1 =>
          simp only [mtD1] at hp2
          cases hs : listS ds with
          | none => rw [hs] at hp2; exact False.elim hp2
          | some ss =>
            rw [hs] at hp2
            simp only at hp2
            by_cases c : (ss.map List.length).sum + ss.length * s.length ≤ SZ
            · rw [if_pos c] at hp2
              have ev := strs_some hs t1
              subst ev
              refine ⟨sv s, _, ss.map sv, rfl, rfl, .inl (SqL.of l1), ?_, ?_⟩
              · have e1 : ((ss.map sv).map (·.length)) = ss.map List.length := by
                  rw [List.map_map]; exact List.map_congr_left fun x _ => sv_len x
                rw [e1, List.length_map, sv_len]; exact c
              · rw [joinS_eq]
                exact hp2 _ _ _ _ (Got.of_atom (g1.gr.trans g2.gr) (.str _) rfl)
            · rw [if_neg c] at hp2; exact False.elim hp2
      | index =>
        subst h1
        have hp : (((den cal gl o E).bind fun x => (rcvD .index x.2).bind fun _ => (den cal gl a E).bind fun y => mtD1 .index x y)).Post (EXw xr xw σ G H) (fun x => ∀ v G' H' fp, Got X.K G H G' H' x.1 v x.2 fp → Q v H') := hp
        have viaS : (∀ y, den cal gl o E = .ok y → ∃ s, y.2 = .str s) → tw X (.Call (.Attribute r (Str.ofString (mtName .index)) ap) [v] [] cp) σ H Q := fun hy => by
          refine tw_of (pe_bm PySem.F.plainAttrs_str PySem.F.slot_str_index PySem.F.type_str_index mt_sindex pe_tw (pa_cons pe_tw pa_nil (star_cons h4)) (base_ok h3) (fewA h4) h2 (star_cons h4) rfl) ?_
          cases hd : den cal gl o E with
          | no => rw [hd] at hp; exact False.elim hp
          | ex c x => rw [hd] at hp; exact ho E σ Gc Hc G H fps hH _ (by rw [hd]; exact hp)
          | ok y =>
            obtain ⟨s, es⟩ := hy y hd
            obtain ⟨m1, d1⟩ := y
            cases es
            rw [hd] at hp
            refine ho E σ Gc Hc G H fps hH _ ?_
            rw [hd]
            intro w G1 H1 fp g1
            obtain rfl := data_str g1.data
            have hp1 : ((den cal gl a E).bind fun y => mtD1 .index (m1, .str s) y).Post (EXw xr xw σ G1 H1) (fun x => ∀ v G' H' fp, Got X.K G1 H1 G' H' x.1 v x.2 fp → Q v H') := Rs.Post.mono hp (fun _ _ z => z.grow g1.gr) fun x hx v G' H' fp g => hx _ _ _ _ (Got.trans g1.gr g)
            refine ⟨rfl, ha.step (hH.grow g1.gr) hp1 fun z u G2 H2 fq g2 hp2 => ?_⟩
            obtain ⟨m2, d2⟩ := z
            cases d2 <;> first | exact False.elim hp2 | skip
            rename_i cs
            obtain rfl := data_str g2.data
            match cs, hp2 with
            | [c], hp2 =>
              replace hp2 : (ixV (firstN c s 0)).Post (EXw xr xw σ G2 H2) (fun x => ∀ v G' H' fp, Got X.K G1 H1 G' H' x.1 v x.2 fp → Q v H') := hp2
              cases hf : firstN c s 0 with
              | none => rw [hf] at hp2; exact False.elim hp2
              | some k =>
                rw [hf] at hp2
                exact ⟨sv s, sv [c], k, [], rfl, rfl, first_occ hf, hp2 _ _ _ _ (Got.of_atom g2.gr (.int _) rfl)⟩
        have viaL : (∀ y, den cal gl o E = .ok y → ∃ s, y.2 = .lst s) → tw X (.Call (.Attribute r (Str.ofString (mtName .index)) ap) [v] [] cp) σ H Q := fun hy => by
          refine tw_of (pe_bm PySem.F.plainAttrs_list PySem.F.slot_list_index PySem.F.type_list_index mt_index pe_tw (pa_cons pe_tw pa_nil (star_cons h4)) (base_ok h3) (fewA h4) h2 (star_cons h4) rfl) ?_
          cases hd : den cal gl o E with
          | no => rw [hd] at hp; exact False.elim hp
          | ex c x => rw [hd] at hp; exact ho E σ Gc Hc G H fps hH _ (by rw [hd]; exact hp)
          | ok y =>
            obtain ⟨s, es⟩ := hy y hd
            obtain ⟨m1, d1⟩ := y
            cases es
            rw [hd] at hp
            refine ho E σ Gc Hc G H fps hH _ ?_
            rw [hd]
            intro w G1 H1 fp g1
            have hp1 : ((den cal gl a E).bind fun y => mtD1 .index (m1, .lst s) y).Post (EXw xr xw σ G1 H1) (fun x => ∀ v G' H' fp, Got X.K G1 H1 G' H' x.1 v x.2 fp → Q v H') := Rs.Post.mono hp (fun _ _ z => z.grow g1.gr) fun x hx v G' H' fp g => hx _ _ _ _ (Got.trans g1.gr g)
            have q1 := g1.data
            cases q1 with
            | lst hl t =>
              rename_i p vs
              refine ⟨.inl ⟨rfl, _, SqL.of hl⟩, ha.step (hH.grow g1.gr) hp1 fun z u G2 H2 fq g2 hp2 => ?_⟩
              replace hp2 : (if (z.2.atom && s.all D.atom) = true then ixV (findD z.2 s 0) else Rs.no).Post (EXw xr xw σ G2 H2) (fun x => ∀ v G' H' fp, Got X.K G1 H1 G' H' x.1 v x.2 fp → Q v H') := hp2
              by_cases c : (z.2.atom && s.all D.atom) = true
              · rw [if_pos c] at hp2
                rw [Bool.and_eq_true] at c
                cases hf : findD z.2 s 0 with
                | none => rw [hf] at hp2; exact False.elim hp2
                | some k =>
                  rw [hf] at hp2
                  have t2 := t.mono g2.gr.sH
                  obtain ⟨zv, e1, e2, e3⟩ := find_ok g2.data c.1 t2 c.2 hf
                  exact ⟨p, vs, u, k, zv, rfl, rfl, SqL.of (g2.gr.sH _ _ hl), atom_flat g2.data c.1, atoms_flat t2 c.2, e1, e2, e3, hp2 _ _ _ _ (Got.of_atom g2.gr (.int _) rfl)⟩
              · rw [if_neg c] at hp2; exact False.elim hp2
        cases hd : den cal gl o E with
        | no => rw [hd] at hp; exact False.elim hp
        | ex c x => exact viaS fun y hy => by rw [hd] at hy; cases hy
        | ok y =>
          obtain ⟨m1, d1⟩ := y
          rw [hd] at hp
          cases d1 <;> first | exact False.elim hp | skip
          · exact viaS fun y hy => by rw [hd] at hy; cases hy; exact ⟨_, rfl⟩
          · exact viaL fun y hy => by rw [hd] at hy; cases hy; exact ⟨_, rfl⟩
    · cases h
  | .isi a ts, x, X, C, xw, O, h => by
    unfold chE at h
    split at h
    · rename_i f y t pos
      simp only [Bool.and_eq_true, decide_eq_true_eq] at h
      obtain ⟨⟨⟨⟨h0, hs⟩, hz⟩, h1⟩, h2⟩ := h
      obtain ⟨p, rfl, hg⟩ := glN_ok O h0
      have ha := den_ok a O h1
      intro E σ Gc Hc G H fps hH Q hp
      have one : ∀ {ty : Ty}, ts = [ty] → tyC C ty t = true → tw X (.Call (.Name (Str.ofString "isinstance") p) [y, t] [] pos) σ H Q := fun {ty} e hty => by
        subst e
        obtain ⟨p1, p2, p3, p4⟩ := ty_ok O hty
        refine tw_of (pe_callB (id := "isinstance") call_rw hg (O.blt _ (by decide)) PyProof.Rows.boot_isinstance (pa_cons pe_tw (pa_cons p1 pa_nil (star_cons p3)) (star_cons hs)) (by decide) (by decide) (star_cons hs) (any_star (by rw [List.all_cons, p3]; rfl))) ?_
        refine ha.step hH hp fun z v G1 H1 fp g1 hp1 => ?_
        simp only [tyD] at hp1
        by_cases c : z.2.common = true
        · rw [if_pos c] at hp1
          refine rwC_of call_isi ⟨v, tyV ty, _, tyVal ty, _, rfl, p2, tyX_ok g1.data c, p4 z.2 c, ?_⟩
          have hp1 : ∀ v G' H' fp, Got X.K G H G' H' .fu v (.bl ([ty].any fun t => tyB t z.2)) fp → Q v H' := hp1
          rw [List.any_cons, List.any_nil, Bool.or_false] at hp1
          exact hp1 _ _ _ _ (Got.of_atom g1.gr (.bl _) rfl)
        · rw [if_neg c] at hp1; exact False.elim hp1
      split at h2
      · rename_i es kk tp
        obtain ⟨r1, r2, r3, r4⟩ := tys_ok O h2
        refine tw_of (pe_callB (id := "isinstance") call_rw hg (O.blt _ (by decide)) PyProof.Rows.boot_isinstance (pa_cons pe_tw (pa_cons (pe_tup pa_tw) pa_nil (star_cons rfl)) (star_cons hs)) (by decide) (by decide) (star_cons hs) (any_star rfl)) ?_
        refine ha.step hH hp fun z v G1 H1 fp g1 hp1 => ?_
        simp only [tyD] at hp1
        by_cases c : z.2.common = true
        · rw [if_pos c] at hp1
          refine r1 ⟨?_, fun q hq => ?_⟩
          · rw [List.length_map, SZ_eq]
            exact Nat.le_trans hz (by decide)
          · refine rwC_of call_isiT ⟨v, q, _, _, _, _, rfl, upd_same, r2, tyX_ok (g1.data.mono (Grow.mine g1.gr.sub hq).sH) c, r3 z.2 c, ?_⟩
            exact hp1 _ _ _ _ (Got.of_atom (g1.gr.trans (Grow.mine g1.gr.sub hq)) (.bl _) rfl)
        · rw [if_neg c] at hp1; exact False.elim hp1
      · exact one rfl h2
      · cases h2
    · cases h
  | .comp k el p it own ifs, x, X, C, xw, O, h => by
    unfold chE at h
    split at h
    · rename_i elt tg iter fs scope pos
      simp only [Bool.and_eq_true] at h
      obtain ⟨⟨⟨⟨⟨h1, h2⟩, h3⟩, h4⟩, h5⟩, h6⟩ := h
      exact comp_ok O h1 h2 (chI_noSet h3) (iter_ok true it O h3 fun hp => by
        cases p with
        | nm i => cases hp
        | tp is =>
          cases tg <;> first | (simp [patC] at h4; done) | exact ⟨_, _, _, rfl⟩) h4 (fun O' => den_ok el O' h5) fun O' => tsts_ok ifs O' h6
    · cases h
  | .dcomp kx vx p it own ifs, x, X, C, xw, O, h => by
    unfold chE at h
    split at h
    · rename_i k v tg iter fs scope pos
      simp only [Bool.and_eq_true] at h
      obtain ⟨⟨⟨⟨⟨⟨h1, h2⟩, h3⟩, h4⟩, h5⟩, h6⟩, h7⟩ := h
      exact dcomp_ok O h1 h2 (chI_noSet h3) (iter_ok true it O h3 fun hp => by
        cases p with
        | nm i => cases hp
        | tp is =>
          cases tg <;> first | (simp [patC] at h4; done) | exact ⟨_, _, _, rfl⟩) h4 (fun O' => den_ok kx O' h5) (fun O' => den_ok vx O' h6) fun O' => tsts_ok ifs O' h7
    · cases h
  | .dic0, x, X, C, xw, O, h => by
    unfold chE at h
    split at h
    · intro E σ Gc Hc G H fps hH Q hp
      refine tw_of pe_dnewK fun p hp2 => hp (.ref p) G _ [p] ⟨Grow.mine hH.gr.sub hp2, .inr ⟨p, _, rfl, rfl, upd_same, .dic (ks := []) (vs := []) rfl .nil⟩, by simp, fun a ha => ?_, fun a ha => ?_⟩
      · have e : a = p := by simpa using ha
        subst e; exact hp2
      · have e : a = p := by simpa using ha
        subst e; exact hH.gr.sub.free hp2
    · cases h
theorem denAnd_ok : ∀ (es : List Ex) {vs : List Expr} {X : Cx} {C : Ck} {xw : WX} {pos : Pos}, XOk X C cal gl xr xw → chL C es vs = true → SE X xr xw (.BoolOp .And vs pos) (denAnd cal gl es)
  | [], vs, X, C, xw, pos, O, h => fun E σ Gc Hc G H fps hH Q hp => False.elim hp
  | a :: r, vs, X, C, xw, pos, O, h => by
    cases vs with
    | nil => simp [chL] at h
    | cons v vs =>
      simp only [chL, Bool.and_eq_true] at h
      obtain ⟨⟨_, h1⟩, h2⟩ := h
      have ha := den_ok a O h1
      have hr := denAnd_ok r (pos := pos) O h2
      intro E σ Gc Hc G H fps hH Q hp
      cases r with
      | nil =>
        cases vs with
        | nil =>
          refine tw_of (pe_one pe_tw) ?_
          exact ha.step hH hp fun y v G1 H1 fp g1 hp1 => hp1 _ _ _ _ g1
        | cons w ws => simp [chL] at h2
      | cons b r =>
        cases vs with
        | nil => simp [chL] at h2
        | cons w ws =>
          refine tw_of (pe_and pe_tw pe_tw) ?_
          refine ha.step hH hp fun y v G1 H1 fp g1 hp1 => ?_
          obtain ⟨c, e, q⟩ := boolD_ok hp1
          have hd := g1.data
          rw [e] at hd
          refine ⟨c, data_bl hd, ?_⟩
          cases c with
          | true =>
            rw [if_pos rfl]
            exact hr E σ Gc Hc G1 H1 fps (hH.grow g1.gr) Q (Rs.Post.mono q (fun _ _ z => z) fun y hy v G' H' fp g => hy v G' H' fp ⟨g1.gr.trans g.gr, g.val, g.nd, fun a m => g1.gr.sH.free (g.fresh a m), g.out⟩)
          | false =>
            rw [if_neg Bool.false_ne_true]
            exact q _ _ _ _ (Got.of_atom g1.gr (.bl _) rfl)
theorem denOr_ok : ∀ (es : List Ex) {vs : List Expr} {X : Cx} {C : Ck} {xw : WX} {pos : Pos}, XOk X C cal gl xr xw → chL C es vs = true → SE X xr xw (.BoolOp .Or vs pos) (denOr cal gl es)
  | [], vs, X, C, xw, pos, O, h => fun E σ Gc Hc G H fps hH Q hp => False.elim hp
  | a :: r, vs, X, C, xw, pos, O, h => by
    cases vs with
    | nil => simp [chL] at h
    | cons v vs =>
      simp only [chL, Bool.and_eq_true] at h
      obtain ⟨⟨_, h1⟩, h2⟩ := h
      have ha := den_ok a O h1
      have hr := denOr_ok r (pos := pos) O h2
      intro E σ Gc Hc G H fps hH Q hp
      cases r with
      | nil =>
        cases vs with
        | nil =>
          refine tw_of (pe_one pe_tw) ?_
          exact ha.step hH hp fun y v G1 H1 fp g1 hp1 => hp1 _ _ _ _ g1
        | cons w ws => simp [chL] at h2
      | cons b r =>
        cases vs with
        | nil => simp [chL] at h2
        | cons w ws =>
          refine tw_of (pe_or pe_tw pe_tw) ?_
          refine ha.step hH hp fun y v G1 H1 fp g1 hp1 => ?_
          obtain ⟨c, e, q⟩ := boolD_ok hp1
          have hd := g1.data
          rw [e] at hd
          refine ⟨c, data_bl hd, ?_⟩
          cases c with
          | false =>
            rw [if_neg Bool.false_ne_true]
            exact hr E σ Gc Hc G1 H1 fps (hH.grow g1.gr) Q (Rs.Post.mono q (fun _ _ z => z) fun y hy v G' H' fp g => hy v G' H' fp ⟨g1.gr.trans g.gr, g.val, g.nd, fun a m => g1.gr.sH.free (g.fresh a m), g.out⟩)
          | true =>
            rw [if_pos rfl]
            exact q _ _ _ _ (Got.of_atom g1.gr (.bl _) rfl)
theorem dens_ok : ∀ (es : List Ex) {vs : List Expr} {X : Cx} {C : Ck} {xw : WX}, XOk X C cal gl xr xw → chL C es vs = true → SL X xr xw vs (dens cal gl es)
  | [], vs, X, C, xw, O, h => by
    cases vs with
    | nil =>
      intro E σ Gc Hc G H fps hH Q hp
      exact twA_of pa_nil (hp _ _ _ _ (Gots.nil hH.gr.sub))
    | cons v vs => simp [chL] at h
  | a :: r, vs, X, C, xw, O, h => by
    cases vs with
    | nil => simp [chL] at h
    | cons v vs =>
      simp only [chL, Bool.and_eq_true] at h
      obtain ⟨⟨h0, h1⟩, h2⟩ := h
      have ha := den_ok a O h1
      have hr := dens_ok r O h2
      intro E σ Gc Hc G H fps hH Q hp
      refine twA_of (pa_cons pe_tw pa_tw (star_cons h0)) ?_
      exact ha.step hH hp fun y v G1 H1 fp g1 hp1 => hr.step (hH.grow g1.gr) hp1 fun ys vs G2 H2 fq g2 hp2 => hp2 _ _ _ _ (Gots.cons g1 g2)
theorem tst_ok : ∀ (t : Tx) {x : Expr} {X : Cx} {C : Ck} {xw : WX}, XOk X C cal gl xr xw → chT C t x = true → ST X xr xw x (tst cal gl t)
  | .val e, x, X, C, xw, O, h => by
    simp only [chT, Bool.and_eq_true] at h
    obtain ⟨h1, h2⟩ := h
    have ha := den_ok e O h2
    intro E σ Gc Hc G H fps hH Q hp
    have he : ∀ whole, isTrue x X.env whole = (do let v ← whole; standAt x.pos; holding [v] (truthy v)) := by
      cases x <;> first | (intro _; rfl) | cases h1 | skip
      rename_i op _ _
      cases op <;> first | (intro _; rfl) | cases h1
    refine twT_of (pt_truth pe_tw he) ?_
    refine ha.step hH hp fun y v G1 H1 fp g1 hp1 => ?_
    exact tru_data g1.data (hp1.mono (fun _ _ z => z) fun c hc => hc _ _ g1.gr)
  | .cmp op a b, x, X, C, xw, O, h => by
    unfold chT at h
    split at h
    · simp only [Bool.and_eq_true] at h
      obtain ⟨⟨⟨h1, h2⟩, h3⟩, h4⟩ := h
      have ha := den_ok a O h3
      have hb := den_ok b O h4
      intro E σ Gc Hc G H fps hH Q hp
      refine twT_of (pt_cmpR op_rw pe_tw pe_tw (noSet_mark h2)) ?_
      exact ha.step hH hp fun y v G1 H1 fp g1 hp1 => hb.step (hH.grow g1.gr) hp1 fun z w G2 H2 fq g2 hp2 =>
        cmp_ok O h1 (g1.grow g2.gr).data g2.data (hp2.mono (fun _ _ z => z) fun c hc => ⟨c, rfl, hc _ _ (g1.gr.trans g2.gr)⟩)
    · cases h
  | .chain o1 o2 a b c, x, X, C, xw, O, h => by
    unfold chT at h
    split at h
    · rename_i l p1 p2 m r pos
      simp only [Bool.and_eq_true] at h
      obtain ⟨⟨⟨⟨⟨h1, h2⟩, h3⟩, h4⟩, h5⟩, h6⟩ := h
      have ha := den_ok a O h4
      have hb := den_ok b O h5
      have hc := den_ok c O h6
      intro E σ Gc Hc G H fps hH Q hp
      refine twT_of (pt_chain op_rw op_rw pe_tw pe_tw pe_tw (show lastMarks [p1, p2] [m, r] = false from noSet_mark h3)) ?_
      refine ha.step hH hp fun y v G1 H1 fp g1 hp1 => hb.step (hH.grow g1.gr) hp1 fun z w G2 H2 fq g2 hp2 => ?_
      refine cmp_ok O h1 (g1.grow g2.gr).data g2.data ((Rs.Post.bind hp2).mono (fun _ _ z => z) fun k hk => ?_)
      refine ⟨k, rfl, ?_⟩
      cases k with
      | true =>
        rw [if_pos rfl]
        have hk : ((den cal gl c E).bind fun z2 => cmpD o2 z.2 z2.2).Post (EXw xr xw σ G2 H2) _ := hk
        refine hc.step (hH.grow (g1.gr.trans g2.gr)) hk fun z2 w2 G3 H3 fq2 g3 hp3 => ?_
        exact cmp_ok O h2 (g2.data.mono g3.gr.sH) g3.data (hp3.mono (fun _ _ z => z) fun c hc => ⟨c, rfl, hc _ _ ((g1.gr.trans g2.gr).trans g3.gr)⟩)
      | false =>
        rw [if_neg Bool.false_ne_true]
        exact ⟨false, rfl, hk _ _ (g1.gr.trans g2.gr)⟩
    · cases h
  | .isN a, x, X, C, xw, O, h => by
    unfold chT at h
    split at h
    · rename_i l r pos
      simp only [Bool.and_eq_true] at h
      obtain ⟨h1, h2⟩ := h
      have ha := den_ok a O h2
      intro E σ Gc Hc G H fps hH Q hp
      cases r <;> first | (simp [noneC] at h1; done) | skip
      rename_i c kk pp
      cases c <;> first | (simp [noneC] at h1; done) | skip
      refine twT_of (pt_cmp (pc_isN pe_tw)) ?_
      refine ha.step hH hp fun y v G1 H1 fp g1 hp1 => ?_
      have e : decide (v = V.non) = isNon y.2 := by
        have q := g1.data
        revert q
        cases y.2 <;> intro q <;> cases q <;> simp [isNon]
      rw [e]
      exact ⟨_, rfl, hp1 _ _ g1.gr⟩
    · cases h
  | .notN a, x, X, C, xw, O, h => by
    unfold chT at h
    split at h
    · rename_i l r pos
      simp only [Bool.and_eq_true] at h
      obtain ⟨h1, h2⟩ := h
      have ha := den_ok a O h2
      intro E σ Gc Hc G H fps hH Q hp
      cases r <;> first | (simp [noneC] at h1; done) | skip
      rename_i c kk pp
      cases c <;> first | (simp [noneC] at h1; done) | skip
      refine twT_of (pt_cmp (pc_notN pe_tw)) ?_
      refine ha.step hH hp fun y v G1 H1 fp g1 hp1 => ?_
      have e : decide (v = V.non) = isNon y.2 := by
        have q := g1.data
        revert q
        cases y.2 <;> intro q <;> cases q <;> simp [isNon]
      rw [e]
      exact ⟨_, rfl, hp1 _ _ g1.gr⟩
    · cases h
  | .and_ ts, x, X, C, xw, O, h => by
    unfold chT at h
    split at h
    · have q := tstAnd_ok ts (pos := by assumption) O h
      exact fun E σ Gc Hc G H fps hH Q hp => twT_of pw_tw.pt (q E σ Gc Hc G H fps hH Q hp)
    · cases h
  | .or_ ts, x, X, C, xw, O, h => by
    unfold chT at h
    split at h
    · have q := tstOr_ok ts (pos := by assumption) O h
      exact fun E σ Gc Hc G H fps hH Q hp => twT_of pw_tw.pt (q E σ Gc Hc G H fps hH Q hp)
    · cases h
  | .not_ t, x, X, C, xw, O, h => by
    unfold chT at h
    split at h
    · have ha := tst_ok t O h
      intro E σ Gc Hc G H fps hH Q hp
      refine twT_of (pt_not pt_tw) ?_
      exact ha.step hH hp fun k G1 H1 g1 hp1 => hp1 _ _ g1
    · cases h
theorem tstAnd_ok : ∀ (ts : List Tx) {vs : List Expr} {X : Cx} {C : Ck} {xw : WX} {pos : Pos}, XOk X C cal gl xr xw → chTs C ts vs = true → SW X xr xw (.BoolOp .And vs pos) (tstAnd cal gl ts)
  | [], vs, X, C, xw, pos, O, h => fun E σ Gc Hc G H fps hH Q hp => False.elim hp
  | a :: r, vs, X, C, xw, pos, O, h => by
    cases vs with
    | nil => simp [chTs] at h
    | cons v vs =>
      simp only [chTs, Bool.and_eq_true] at h
      obtain ⟨h1, h2⟩ := h
      have ha := tst_ok a O h1
      have hr := tstAnd_ok r (pos := pos) O h2
      intro E σ Gc Hc G H fps hH Q hp
      cases r with
      | nil =>
        cases vs with
        | nil =>
          refine twW_of (pw_and1 pt_tw) ?_
          exact ha.step hH hp fun y G1 H1 g1 hp1 => hp1 _ _ g1
        | cons w ws => simp [chTs] at h2
      | cons b r =>
        cases vs with
        | nil => simp [chTs] at h2
        | cons w ws =>
          refine twW_of (pw_and pt_tw pw_tw) ?_
          refine ha.step hH hp fun y G1 H1 g1 hp1 => ?_
          cases y with
          | true =>
            rw [if_pos rfl]
            exact hr E σ Gc Hc G1 H1 fps (hH.grow g1) Q (Rs.Post.mono hp1 (fun _ _ z => z) fun y hy G' H' g => hy G' H' (g1.trans g))
          | false =>
            rw [if_neg Bool.false_ne_true]
            exact hp1 _ _ g1
theorem tstOr_ok : ∀ (ts : List Tx) {vs : List Expr} {X : Cx} {C : Ck} {xw : WX} {pos : Pos}, XOk X C cal gl xr xw → chTs C ts vs = true → SW X xr xw (.BoolOp .Or vs pos) (tstOr cal gl ts)
  | [], vs, X, C, xw, pos, O, h => fun E σ Gc Hc G H fps hH Q hp => False.elim hp
  | a :: r, vs, X, C, xw, pos, O, h => by
    cases vs with
    | nil => simp [chTs] at h
    | cons v vs =>
      simp only [chTs, Bool.and_eq_true] at h
      obtain ⟨h1, h2⟩ := h
      have ha := tst_ok a O h1
      have hr := tstOr_ok r (pos := pos) O h2
      intro E σ Gc Hc G H fps hH Q hp
      cases r with
      | nil =>
        cases vs with
        | nil =>
          refine twW_of (pw_or1 pt_tw) ?_
          exact ha.step hH hp fun y G1 H1 g1 hp1 => hp1 _ _ g1
        | cons w ws => simp [chTs] at h2
      | cons b r =>
        cases vs with
        | nil => simp [chTs] at h2
        | cons w ws =>
          refine twW_of (pw_or pt_tw pw_tw) ?_
          refine ha.step hH hp fun y G1 H1 g1 hp1 => ?_
          cases y with
          | false =>
            rw [if_neg Bool.false_ne_true]
            exact hr E σ Gc Hc G1 H1 fps (hH.grow g1) Q (Rs.Post.mono hp1 (fun _ _ z => z) fun y hy G' H' g => hy G' H' (g1.trans g))
          | true =>
            rw [if_pos rfl]
            exact hp1 _ _ g1
theorem tsts_ok : ∀ (ts : List Tx) {vs : List Expr} {X : Cx} {C : Ck} {xw : WX}, XOk X C cal gl xr xw → chTs C ts vs = true → SF X xr xw vs (tsts cal gl ts)
  | [], vs, X, C, xw, O, h => by
    cases vs with
    | nil => exact fun E σ Gc Hc G H fps hH Q hp => twTs_of pts_nil (hp _ _ (Grow.refl hH.gr.sub))
    | cons v vs => simp [chTs] at h
  | a :: r, vs, X, C, xw, O, h => by
    cases vs with
    | nil => simp [chTs] at h
    | cons v vs =>
      simp only [chTs, Bool.and_eq_true] at h
      obtain ⟨h1, h2⟩ := h
      have ha := tst_ok a O h1
      intro E σ Gc Hc G H fps hH Q hp
      cases r with
      | nil =>
        cases vs with
        | nil => exact twTs_of (pts_one pt_tw) (ha E σ Gc Hc G H fps hH Q hp)
        | cons w ws => simp [chTs] at h2
      | cons b r => exact False.elim hp
theorem iter_ok (c : Bool) : ∀ (i : Ix) {x tg : Expr} {tp : Bool} {X : Cx} {C : Ck} {xw : WX}, XOk X C cal gl xr xw → chI C tp i x = true → (tp = true → ∃ es k p, tg = .Tuple es k p) → SI c X xr xw tg x (iter cal gl c i)
  | .val e, x, tg, tp, X, C, xw, O, h, ht => by
    simp only [chI, Bool.and_eq_true] at h
    have ha := den_ok e O h.2
    intro E σ Gc Hc G H fps hH R hp
    replace hp : ((den cal gl e E).bind (iterD c)).Post (EXw xr xw σ G H) (fun ds => ∀ J G' H', Grow G H G' H' → WP X.K G' (pwal c G' H') J ds → R J H') := hp
    cases hd : den cal gl e E with
    | no => rw [hd] at hp; exact False.elim hp
    | ex c y =>
      rw [hd] at hp
      refine twI_of (pi_list pe_tw) (ha E σ Gc Hc G H fps hH _ ?_)
      rw [hd]; exact hp
    | ok y =>
      rw [hd] at hp
      obtain ⟨m, d⟩ := y
      replace hp : (iterD c (m, d)).Post (EXw xr xw σ G H) (fun ds => ∀ J G' H', Grow G H G' H' → WP X.K G' (pwal c G' H') J ds → R J H') := hp
      cases d <;> first | exact False.elim hp | skip
      · rename_i s
        refine twI_of (pi_str pe_tw) (ha E σ Gc Hc G H fps hH _ ?_)
        rw [hd]
        intro v G1 H1 fp g
        obtain rfl := data_str g.data
        exact ⟨sv s, rfl, hp _ _ _ g.gr (WD.up wd_str (pwal_s g.gr.sub))⟩
      · rename_i ds
        refine twI_of (pi_list pe_tw) (ha E σ Gc Hc G H fps hH _ ?_)
        rw [hd]
        intro v G1 H1 fp g
        simp only [iterD] at hp
        cases b : m.bor with
        | true =>
          cases b2 : (c && m == .bs) with
          | false => rw [b, b2] at hp; exact False.elim hp
          | true =>
            rw [b, b2] at hp
            rw [Bool.and_eq_true] at b2
            obtain ⟨rfl, b3⟩ := b2
            obtain rfl : m = .bs := by simpa using b3
            rcases g.val with ⟨_, ⟨_, f⟩ | ⟨a, o, rfl, h1, cl⟩⟩
            · simp [D.flat] at f
            · cases cl with
              | lst t => exact ⟨_, rfl, ⟨_, SqL.of h1⟩, hp _ _ _ g.gr (wp_own h1 t)⟩
        | false =>
          rw [b] at hp
          obtain ⟨G2, g2, _⟩ := g.share (by show (m.bor && _) = false; rw [b]; rfl)
          have q := g2.val.2
          cases q with
          | lst h1 t => exact ⟨_, rfl, ⟨_, SqL.of (g2.gr.sub _ _ h1)⟩, hp _ _ _ g2.gr (WD.up (wd_list (.lst h1 t)) (pwal_s g2.gr.sub))⟩
      · rename_i ds
        refine twI_of (pi_tup pe_tw) (ha E σ Gc Hc G H fps hH _ ?_)
        rw [hd]
        intro v G1 H1 fp g
        simp only [iterD] at hp
        cases b : m.bor with
        | true => rw [b] at hp; exact False.elim hp
        | false =>
          rw [b] at hp
          obtain ⟨G2, g2, _⟩ := g.share (by show (m.bor && _) = false; rw [b]; rfl)
          have q := g2.val.2
          cases q with
          | tup h1 t => exact ⟨_, rfl, ⟨_, Same.seqT g2.gr.sub h1⟩, hp _ _ _ g2.gr (WD.up (wd_tup (.tup h1 t)) (pwal_s g2.gr.sub))⟩
  | .rng1 a, x, tg, tp, X, C, xw, O, h, ht => by
    unfold chI at h
    split at h
    · rename_i f y pos
      simp only [Bool.and_eq_true] at h
      obtain ⟨⟨h0, hs⟩, h1⟩ := h
      obtain ⟨p, rfl, hg⟩ := glN_ok O h0
      have ha := den_ok a O h1
      intro E σ Gc Hc G H fps hH R hp
      refine twI_of (pi_range1 hg (O.blt _ (by decide)) (pa_cons pe_tw pa_nil (star_cons hs)) (star_cons hs)) ?_
      refine ha.step hH hp fun y v G1 H1 fp g1 hp1 => ?_
      obtain ⟨m, d⟩ := y
      cases d <;> first | exact False.elim hp1 | skip
      rename_i n
      have hp1 : (if (chk62 0 && chk62 n) = true then Rs.ok (rngL 0 (n - 0).toNat) else .no).Post (EXw xr xw σ G1 H1) (fun ds => ∀ J G' H', Grow G H G' H' → WP X.K G' (pwal c G' H') J ds → R J H') := hp1
      by_cases c : (chk62 0 && chk62 n) = true
      · rw [if_pos c] at hp1
        rw [Bool.and_eq_true] at c
        have c2 : -4611686018427387904 ≤ n ∧ n < 4611686018427387904 := by simpa [chk62] using c.2
        obtain rfl := data_int g1.data
        refine ⟨n, rfl, by omega, by omega, ?_⟩
        rw [Int.sub_zero] at hp1
        exact hp1 _ _ _ g1.gr (WD.up wd_rng (pwal_s g1.gr.sub))
      · rw [if_neg c] at hp1; exact False.elim hp1
    · cases h
  | .rng2 a b, x, tg, tp, X, C, xw, O, h, ht => by
    unfold chI at h
    split at h
    · rename_i f y z pos
      simp only [Bool.and_eq_true] at h
      obtain ⟨⟨⟨⟨h0, hs⟩, hs2⟩, h1⟩, h2⟩ := h
      obtain ⟨p, rfl, hg⟩ := glN_ok O h0
      have ha := den_ok a O h1
      have hb := den_ok b O h2
      intro E σ Gc Hc G H fps hH R hp
      refine twI_of (pi_range2 hg (O.blt _ (by decide)) (pa_cons pe_tw (pa_cons pe_tw pa_nil (star_cons hs2)) (star_cons hs)) (by rw [star_cons hs, star_cons hs2]; rfl) (star_cons hs2)) ?_
      refine ha.step hH hp fun y v G1 H1 fp g1 hp1 => hb.step (hH.grow g1.gr) hp1 fun z w G2 H2 fq g2 hp2 => ?_
      obtain ⟨m, d⟩ := y
      obtain ⟨m2, d2⟩ := z
      cases d <;> first | exact False.elim hp2 | skip
      cases d2 <;> first | exact False.elim hp2 | skip
      rename_i lo hi
      have hp2 : (if (chk62 lo && chk62 hi) = true then Rs.ok (rngL lo (hi - lo).toNat) else .no).Post (EXw xr xw σ G2 H2) (fun ds => ∀ J G' H', Grow G H G' H' → WP X.K G' (pwal c G' H') J ds → R J H') := hp2
      by_cases c : (chk62 lo && chk62 hi) = true
      · rw [if_pos c] at hp2
        rw [Bool.and_eq_true] at c
        have c1 : -4611686018427387904 ≤ lo ∧ lo < 4611686018427387904 := by simpa [chk62] using c.1
        have c2 : -4611686018427387904 ≤ hi ∧ hi < 4611686018427387904 := by simpa [chk62] using c.2
        obtain rfl := data_int g1.data
        obtain rfl := data_int g2.data
        exact ⟨lo, hi, rfl, ⟨by omega, by omega, by omega, by omega⟩, hp2 _ _ _ (g1.gr.trans g2.gr) (WD.up wd_rng (pwal_s g2.gr.sub))⟩
      · rw [if_neg c] at hp2; exact False.elim hp2
    · cases h
  | .enum a, x, tg, tp, X, C, xw, O, h, ht => by
    unfold chI at h
    split at h
    · rename_i f y pos
      simp only [Bool.and_eq_true] at h
      obtain ⟨⟨⟨htp, h0⟩, hs⟩, h1⟩ := h
      obtain ⟨p, rfl, hg⟩ := glN_ok O h0
      obtain ⟨es, kk, tpos, rfl⟩ := ht htp
      have ha := den_ok a O h1
      intro E σ Gc Hc G H fps hH R hp
      have hp : ((den cal gl a E).bind enumD).Post (EXw xr xw σ G H) (fun ds => ∀ J G' H', Grow G H G' H' → WP X.K G' (pwal c G' H') J ds → R J H') := hp
      have viaL : (∀ y, den cal gl a E = .ok y → ∃ s, y.2 = .lst s) → twI X (.Tuple es kk tpos) (.Call (.Name (Str.ofString "enumerate") p) [y] [] pos) σ H R := fun hy => by
        refine twI_of (pi_enum hg (O.blt _ (by decide)) (pa_cons pe_tw pa_nil (star_cons hs)) (star_cons hs)) ?_
        cases hd : den cal gl a E with
        | no => rw [hd] at hp; exact False.elim hp
        | ex c z => rw [hd] at hp; exact ha E σ Gc Hc G H fps hH _ (by rw [hd]; exact hp)
        | ok z =>
          obtain ⟨ds, ez⟩ := hy z hd
          obtain ⟨m, d⟩ := z
          cases ez
          rw [hd] at hp
          refine ha E σ Gc Hc G H fps hH _ ?_
          rw [hd]
          intro v G1 H1 fp g1
          replace hp : (if m.bor = true then Rs.no else Rs.ok (enumL 0 ds)).Post (EXw xr xw σ G H) (fun ds => ∀ J G' H', Grow G H G' H' → WP X.K G' (pwal c G' H') J ds → R J H') := hp
          cases b : m.bor with
          | true => rw [b] at hp; exact False.elim hp
          | false =>
            rw [b] at hp
            obtain ⟨G2, g2, _⟩ := g1.share (by show (m.bor && _) = false; rw [b]; rfl)
            have q := g2.val.2
            cases q with
            | lst l1 t => exact ⟨_, _, rfl, SqL.of (g2.gr.sub _ _ l1), hp _ _ _ g2.gr (WD.up (wd_enum (.lst l1 t)) (pwal_s g2.gr.sub))⟩
      have viaS : (∀ y, den cal gl a E = .ok y → ∃ s, y.2 = .str s) → twI X (.Tuple es kk tpos) (.Call (.Name (Str.ofString "enumerate") p) [y] [] pos) σ H R := fun hy => by
        refine twI_of (pi_enumS hg (O.blt _ (by decide)) (pa_cons pe_tw pa_nil (star_cons hs)) (star_cons hs)) ?_
        cases hd : den cal gl a E with
        | no => rw [hd] at hp; exact False.elim hp
        | ex c z => rw [hd] at hp; exact ha E σ Gc Hc G H fps hH _ (by rw [hd]; exact hp)
        | ok z =>
          obtain ⟨ds, ez⟩ := hy z hd
          obtain ⟨m, d⟩ := z
          cases ez
          rw [hd] at hp
          refine ha E σ Gc Hc G H fps hH _ ?_
          rw [hd]
          intro v G1 H1 fp g1
          obtain rfl := data_str g1.data
          exact ⟨sv ds, rfl, hp _ _ _ g1.gr (WD.up wd_enumS (pwal_s g1.gr.sub))⟩
      cases hd : den cal gl a E with
      | no => rw [hd] at hp; exact False.elim hp
      | ex c z => exact viaS fun y hy => by rw [hd] at hy; cases hy
      | ok z =>
        obtain ⟨m1, d1⟩ := z
        rw [hd] at hp
        cases d1 <;> first | exact False.elim hp | skip
        · exact viaS fun y hy => by rw [hd] at hy; cases hy; exact ⟨_, rfl⟩
        · exact viaL fun y hy => by rw [hd] at hy; cases hy; exact ⟨_, rfl⟩
    · cases h
  | .zip a b, x, tg, tp, X, C, xw, O, h, ht => by
    unfold chI at h
    split at h
    · rename_i f y z pos
      simp only [Bool.and_eq_true] at h
      obtain ⟨⟨⟨⟨⟨htp, h0⟩, hs⟩, hs2⟩, h1⟩, h2⟩ := h
      obtain ⟨p, rfl, hg⟩ := glN_ok O h0
      obtain ⟨es, kk, tpos, rfl⟩ := ht htp
      have ha := den_ok a O h1
      have hb := den_ok b O h2
      intro E σ Gc Hc G H fps hH R hp
      refine twI_of (pi_zip hg (O.blt _ (by decide)) (pa_cons pe_tw (pa_cons pe_tw pa_nil (star_cons hs2)) (star_cons hs)) (star_cons hs) (any_star (by rw [List.all_cons, hs2]; rfl))) ?_
      refine ha.step hH hp fun y v G1 H1 fp g1 hp1 => ?_
      obtain ⟨m, d⟩ := y
      -- the first is shared ahead of the second
      by_cases bb : m.bor = true
      · refine hb.step (hH.grow g1.gr) hp1 fun z w G2 H2 fq g2 hp2 => ?_
        obtain ⟨m2, d2⟩ := z
        exfalso
        cases d <;> first | exact False.elim hp2 | skip
        cases d2 <;> first | exact False.elim hp2 | skip
        simp only [zipD, bb, Bool.true_or, if_true] at hp2
        exact hp2
      · have bf : m.bor = false := by simpa using bb
        obtain ⟨G1', g1', s1⟩ := g1.share (by show (m.bor && _) = false; rw [bf]; rfl)
        refine hb E σ Gc Hc G1' H1 fps (hH.grow g1'.gr) _ ?_
        refine (Rs.Post.bind hp1).mono (fun c x hx G' H' cls dd g r => ?_) fun z hz w G2 H2 fq g2 => ?_
        · exact hx G1 H' cls dd ⟨Same.refl _, g.sH, g1.gr.sub.trans g.sH, fun _ z _ => z⟩ r
        · obtain ⟨m2, d2⟩ := z
          cases d <;> first | exact False.elim hz | skip
          cases d2 <;> first | exact False.elim hz | skip
          rename_i ds ds2
          simp only [zipD, bf, Bool.false_or] at hz
          cases b2 : m2.bor with
          | true => rw [b2] at hz; exact False.elim hz
          | false =>
            rw [b2] at hz
            obtain ⟨G3, g3, _⟩ := g2.share (by show (m2.bor && _) = false; rw [b2]; rfl)
            have q1 := (g1'.grow g3.gr).val.2
            have q2 := g3.val.2
            cases q1 with
            | lst l1 t1 =>
              cases q2 with
              | lst l2 t2 =>
                exact ⟨_, _, _, _, rfl, SqL.of (g3.gr.sub _ _ l1), SqL.of (g3.gr.sub _ _ l2), hz _ _ _ (g1'.gr.trans g3.gr) (WD.up (wd_zip (.lst l1 t1) (.lst l2 t2)) (pwal_s g3.gr.sub))⟩
    · cases h
  | .revd a, x, tg, tp, X, C, xw, O, h, ht => by
    unfold chI at h
    split at h
    · rename_i f y pos
      simp only [Bool.and_eq_true] at h
      obtain ⟨⟨h0, hs⟩, h1⟩ := h
      obtain ⟨p, rfl, hg⟩ := glN_ok O h0
      have ha := den_ok a O h1
      intro E σ Gc Hc G H fps hH R hp
      refine twI_of (pi_reversed hg (O.blt _ (by decide)) (pa_cons pe_tw pa_nil (star_cons hs)) (star_cons hs)) ?_
      refine ha.step hH hp fun y v G1 H1 fp g1 hp1 => ?_
      obtain ⟨m, d⟩ := y
      cases d <;> first | exact False.elim hp1 | skip
      rename_i ds
      simp only [revdD] at hp1
      cases b : m.bor with
      | true => rw [b] at hp1; exact False.elim hp1
      | false =>
        rw [b] at hp1
        obtain ⟨G2, g2, _⟩ := g1.share (by show (m.bor && _) = false; rw [b]; rfl)
        have q := g2.val.2
        cases q with
        | lst l1 t => exact ⟨_, _, rfl, SqL.of (g2.gr.sub _ _ l1), hp1 _ _ _ g2.gr (WD.up (wd_rev l1 t) (pwal_s g2.gr.sub))⟩
    · cases h
end
end
end DP

namespace DP
open PySem PySem.Spec PyProof.Rows L2

/-! ### the checker -/
def swB (C : Ck) (y : Str) (py pos : Pos) (scope : Scope) : Bool :=
  decide (C.sc.names.lookup y = some .local) && (py.line == pos.line) && !(scope.names.any fun (n, k) => n == y && (k == .local || k == .cell))
def fnK (C : Ck) : Bool := decide (C.sc.kind = .function)
def noComp : Expr → Bool
  | .ListComp _ _ _ _ => false
  | .SetComp _ _ _ _ => false
  | .DictComp _ _ _ _ _ => false
  | _ => true
def notTup : Expr → Bool
  | .Tuple _ _ _ => false
  | _ => true
/-- two or three local names of one line from as many expressions -/
def parC (C : Ck) : List Expr → List Expr → Bool
  | [.Name x px, .Name y py], [a, b] => decide (C.sc.names.lookup x = some .local) && decide (C.sc.names.lookup y = some .local) && decide (x ≠ y) && (px.line == py.line) && !([a, b].all (foldedForSure 8)) && !([a, b].all (constantsAlone 8))
  | [.Name x px, .Name y py, .Name z pz], [a, b, c] => decide (C.sc.names.lookup x = some .local) && decide (C.sc.names.lookup y = some .local) && decide (C.sc.names.lookup z = some .local) &&
      decide (x ≠ y) && decide (x ≠ z) && decide (y ≠ z) && (px.line == py.line) && (px.line == pz.line) && !([a, b, c].all (foldedForSure 8)) && !([a, b, c].all (constantsAlone 8))
  | _, _ => false
def parF (C : Ck) : List Expr → List Expr → Bool
  | [.Name x px, .Name y py], [a, b] => [a, b].all (foldedForSure 8)
  | _, _ => false
def noDc : Ex → Bool
  | .dcomp _ _ _ _ _ _ => false
  | _ => true
def augC : Op → Operator → Bool
  | .pow, _ => false
  | op, o => opC op o
def patL : List (List Nat) → List Pattern → Bool
  | [], [] => true
  | s :: l, .MatchValue (.Constant (.str z) _ _) _ :: ps => decide (z = sv s) && patL l ps
  | _, _ => false
def patsC (l : List (List Nat)) : Pattern → Bool
  | .MatchAs none none _ => l.isEmpty
  | .MatchValue v p => !l.isEmpty && patL l [.MatchValue v p]
  | .MatchOr ps _ => !l.isEmpty && patL l ps
  | _ => false
mutual
def chS (C : Ck) : St → Stmt → Bool
  | .set i e, st => match st with
    | .Assign [.Name x p] v _ => tgC C i (.Name x p) && chE C e v && fnK C && noDc e
    | _ => false
  | .own i e, st => match st with
    | .Assign [.Name x p] v _ => tgC C i (.Name x p) && chE C e v && fnK C && noDc e
    | _ => false
  | .par is es, st => match st with
    | .Assign [.Tuple ts _ _] (.Tuple vs _ _) _ => fnK C && tgsC C is ts && chL C es vs && (parC C ts vs || parF C ts vs) && decide is.Nodup
    | _ => false
  | .unp is e, st => match st with
    | .Assign [.Tuple ts _ _] v _ => tgsC C is ts && chE C e v && noComp v && notTup v
    | _ => false
  | .aug i op e, st => match st with
    | .AugAssign (.Name x p) o v _ => tgC C i (.Name x p) && augC op o && chE C e v
    | _ => false
  | .app i e, st => match st with
    | .Expr (.Call (.Attribute (.Name x _) m ap) [v] [] cp) _ => nmC C i x && decide (m = Str.ofString "append") && (ap.endLine == cp.line) && noStar v && chE C e v
    | _ => false
  | .put i k e, st => match st with
    | .Assign [.Subscript (.Name x _) kx _] v _ => nmC C i x && noSlc kx && noComp v && chE C k kx && chE C e v
    | _ => false
  | .exp e, st => match st with
    | .Expr v _ => noComp v && chE C e v
    | _ => false
  | .ret e, st => match st with
    | .Return (some v) _ => chE C e v
    | _ => false
  | .retV i, st => match st with
    | .Return (some (.Name x _)) _ => nmC C i x
    | _ => false
  | .retN, st => match st with
    | .Return none _ => true
    | _ => false
  | .ite c a b, st => match st with
    | .If t xs ys _ => chT C c t && chSs C a xs && chSs C b ys
    | _ => false
  | .for_ p it body, st => match st with
    | .For tg iter xs [] _ => chI C (isTp p) it iter && patC C p tg && chSs C body xs
    | _ => false
  | .whl c body, st => match st with
    | .While t xs [] _ => chT C c t && chSs C body xs
    | _ => false
  | .brk, st => match st with
    | .Break _ => true
    | _ => false
  | .cnt, st => match st with
    | .Continue _ => true
    | _ => false
  | .pas, st => match st with
    | .Pass _ => true
    | _ => false
  | .frz _, _ => false
  | .nev, _ => true
  | .mtc e m, st => match st with
    | .Match subject cs _ => chE C e subject && chM C m cs
    | _ => false
def chM (C : Ck) : Ms → List MatchCase → Bool
  | .nil, cs => match cs with
    | [] => true
    | _ => false
  | .cons l body rest, cs => match cs with
    | ⟨pat, none, xs⟩ :: cs => patsC l pat && chSs C body xs && chM C rest cs
    | _ => false
def chSs (C : Ck) : List St → List Stmt → Bool
  | [], xs => match xs with
    | [] => true
    | _ => false
  | s :: r, xs => match s with
    | .frz _ => chSs C r xs
    | _ => match xs with
      | x :: xs => chS C s x && chSs C r xs
      | [] => false
end

/-! ### what is kept -/
section
variable {K : PySem.W.Frag} {Gc Hc G H G' H' G2 H2 : Hp} {E : Ev} {σ : List (Option V)} {fps : Nat → List Addr}
theorem Holds.sameLen (h : Holds K Gc Hc G H E σ fps) {i : Nat} {x : Vl} (e : E[i]? = some (some x)) : i < E.length := (List.getElem?_eq_some_iff.mp e).1
/-- a cell of one's own is written -/
theorem Holds.write (h : Holds K Gc Hc G H E σ fps) {i : Nat} {m : Mk} {d d' : D} {v : V} {a : Addr} {o : HO} {fp' : List Addr} (e : E[i]? = some (some (m, d))) (hv : σ[i]? = some (some v)) (ha : a ∈ fps i)
    (hm : m = .fr ∨ m = .sh ∨ m = .fu) (val : Val K m G (upd H a o) v d' fp') (mo : Mut (some o)) (nd : fp'.Nodup) (hf : ∀ b ∈ fp', b ∈ fps i ∨ (Hc b = none ∧ G b = none ∧ Mut (H b) ∧ ∀ j, b ∉ fps j)) :
    Holds K Gc Hc G (upd H a o) (E.set i (some (m, d'))) σ (fun j => if j = i then fp' else fps j) := by
  have hl := h.sameLen e
  have hHa : Hc a = none := h.fresh i a ha
  have hGa : G a = none := h.out i a ha
  refine ⟨⟨h.gr.sG, fun b u q => ?_, fun b u q => ?_, fun b g q => ?_⟩, fun j n x q => ?_, by rw [List.length_set]; exact h.len, fun j => ?_, fun j k b hb hc => ?_, fun j b hb => ?_, fun j b hb => ?_, fun j b hb => ?_⟩
  · rw [upd_ne (ne_of_none q hHa)]; exact h.gr.sH _ _ q
  · rw [upd_ne (ne_of_none q hGa)]; exact h.gr.sub _ _ q
  · exact h.gr.new b g q
  · by_cases hj : j = i
    · subst hj
      rw [List.getElem?_set_self hl] at q
      cases q
      exact ⟨hm, v, hv, by rw [if_pos rfl]; exact val⟩
    · rw [List.getElem?_set_ne (Ne.symm hj)] at q
      obtain ⟨q1, w, q2, q3⟩ := h.slot j n x q
      have nin : a ∉ fps j := fun z => hj (h.dj j i a z ha)
      refine ⟨q1, w, q2, ?_⟩
      rw [if_neg hj]
      rcases q1 with rfl | rfl | rfl
      · exact q3
      · rcases q3 with z | ⟨b, u, z1, z2, z3, z4⟩
        · exact .inl z
        · refine .inr ⟨b, u, z1, z2, ?_, z4⟩
          rw [upd_ne (show b ≠ a from fun z => by subst z; rw [z2] at nin; simp at nin)]; exact z3
      · exact Tree.mono (Same.refl _) q3 fun b hb u z => by rw [upd_ne (show b ≠ a from fun z => by subst z; exact nin hb)]; exact z
  · by_cases hj : j = i
    · rw [if_pos hj]; exact nd
    · rw [if_neg hj]; exact h.nd j
  · by_cases hj : j = i <;> by_cases hk : k = i
    · rw [hj, hk]
    · rw [if_pos hj] at hb
      rw [if_neg hk] at hc
      rcases hf b hb with z | ⟨_, _, _, z⟩
      · exact absurd (h.dj i k b z hc).symm hk
      · exact absurd hc (z k)
    · rw [if_neg hj] at hb
      rw [if_pos hk] at hc
      rcases hf b hc with z | ⟨_, _, _, z⟩
      · exact absurd (h.dj i j b z hb).symm hj
      · exact absurd hb (z j)
    · rw [if_neg hj] at hb
      rw [if_neg hk] at hc
      exact h.dj j k b hb hc
  · by_cases hj : j = i
    · rw [if_pos hj] at hb
      rcases hf b hb with z | z
      · exact h.fresh i b z
      · exact z.1
    · rw [if_neg hj] at hb; exact h.fresh j b hb
  · by_cases hj : j = i
    · rw [if_pos hj] at hb
      rcases hf b hb with z | z
      · exact h.out i b z
      · exact z.2.1
    · rw [if_neg hj] at hb; exact h.out j b hb
  · have hmb : Mut (H b) := by
      by_cases hj : j = i
      · rw [if_pos hj] at hb
        rcases hf b hb with z | z
        · exact h.mu i b z
        · exact z.2.2.1
      · rw [if_neg hj] at hb; exact h.mu j b hb
    by_cases hba : b = a
    · subst hba; rw [upd_same]; exact mo
    · rw [upd_ne hba]; exact hmb
/-- a slot becomes shared -/
theorem Holds.frz (h : Holds K Gc Hc G H E σ fps) {i : Nat} {m : Mk} {d : D} (e : E[i]? = some (some (m, d))) :
    ∃ G2, Same G G2 ∧ Holds K Gc Hc G2 H (E.set i (some (.fr, d))) σ (fun j => if j = i then [] else fps j) := by
  have hl := h.sameLen e
  have sm : Same G (frzH G H (fps i)) := frzH_same (h.out i)
  obtain ⟨hm, v, hv, val⟩ := h.slot i m d e
  refine ⟨_, sm, h.gr.frz (h.fresh i) (h.out i), fun j n x q => ?_, by rw [List.length_set]; exact h.len, fun j => ?_, fun j k b hb hc => ?_, fun j b hb => ?_, fun j b hb => ?_, fun j b hb => ?_⟩
  · by_cases hj : j = i
    · subst hj
      rw [List.getElem?_set_self hl] at q
      cases q
      refine ⟨.inl rfl, v, hv, by rw [if_pos rfl], ?_⟩
      rcases hm with rfl | rfl | rfl
      · exact val.2.mono sm
      · rcases val with ⟨_, q, f⟩ | ⟨a, o, rfl, h2, q, c⟩
        · exact q.mono sm
        · exact Cell.data sm (by rw [frzH_in (by rw [h2]; simp)]; exact q) c
      · exact Tree.data sm val fun a ha o z => by rw [frzH_in ha]; exact z
    · rw [List.getElem?_set_ne (Ne.symm hj)] at q
      obtain ⟨q1, w, q2, q3⟩ := h.slot j n x q
      refine ⟨q1, w, q2, ?_⟩
      rw [if_neg hj]
      rcases q1 with rfl | rfl | rfl
      · exact ⟨q3.1, q3.2.mono sm⟩
      · rcases q3 with ⟨z1, z2, z3⟩ | ⟨b, u, z1, z2, z3, z4⟩
        · exact .inl ⟨z1, z2.mono sm, z3⟩
        · exact .inr ⟨b, u, z1, z2, z3, z4.mono sm⟩
      · exact Tree.mono sm q3 fun b hb u z => z
  · by_cases hj : j = i
    · rw [if_pos hj]; exact List.nodup_nil
    · rw [if_neg hj]; exact h.nd j
  · by_cases hj : j = i
    · rw [if_pos hj] at hb; cases hb
    · by_cases hk : k = i
      · rw [if_pos hk] at hc; cases hc
      · rw [if_neg hj] at hb
        rw [if_neg hk] at hc
        exact h.dj j k b hb hc
  · by_cases hj : j = i
    · rw [if_pos hj] at hb; cases hb
    · rw [if_neg hj] at hb; exact h.fresh j b hb
  · by_cases hj : j = i
    · rw [if_pos hj] at hb; cases hb
    · rw [if_neg hj] at hb
      rw [frzH_out fun z => hj (h.dj j i b hb z)]
      exact h.out j b hb
  · by_cases hj : j = i
    · rw [if_pos hj] at hb; cases hb
    · rw [if_neg hj] at hb; exact h.mu j b hb
end

/-! ### statements -/
def OutP (X : Cx) (xr : XRep) (xw : WX) (Gc Hc G : Hp) (Dn : Ends) : Out → Prop
  | .no => False
  | .nx E => ∀ σ G' H fps, Same G G' → Holds X.K Gc Hc G' H E σ fps → Dn.nx σ H
  | .bk E => ∀ σ G' H fps, Same G G' → Holds X.K Gc Hc G' H E σ fps → Dn.bk σ H
  | .ct E => ∀ σ G' H fps, Same G G' → Holds X.K Gc Hc G' H E σ fps → Dn.ct σ H
  | .rt v => ∀ u G' H fp, Got X.K Gc Hc G' H v.1 u v.2 fp → Dn.rt u H
  | .ex c x E => ∀ σ G' H fps, Same G G' → Holds X.K Gc Hc G' H E σ fps → EXw xr xw σ G' H c x
theorem OutP.mono {X : Cx} {xr : XRep} {xw : WX} {Gc Hc G G2 : Hp} {Dn : Ends} (s : Same G G2) : ∀ {o : Out}, OutP X xr xw Gc Hc G Dn o → OutP X xr xw Gc Hc G2 Dn o
  | .no, h => h
  | .nx E, h => fun σ G' H fps q => h σ G' H fps (s.trans q)
  | .bk E, h => fun σ G' H fps q => h σ G' H fps (s.trans q)
  | .ct E, h => fun σ G' H fps q => h σ G' H fps (s.trans q)
  | .rt v, h => h
  | .ex c x E, h => fun σ G' H fps q => h σ G' H fps (s.trans q)
theorem OutP.lift {X : Cx} {xr : XRep} {xw : WX} {Gc Hc G H : Hp} {E : Ev} {σ : List (Option V)} {fps : Nat → List Addr} (hH : Holds X.K Gc Hc G H E σ fps) {Dn : Ends} {α : Type} {r : Rs α} {k : α → Out} (h : OutP X xr xw Gc Hc G Dn (DP.lift E r k)) :
    r.Post (EXw xr xw σ G H) fun a => OutP X xr xw Gc Hc G Dn (k a) := by
  cases r with
  | no => exact h
  | ok a => exact h
  | ex c x => exact h σ G H fps (Same.refl _) hH
def twS (X : Cx) (st : Stmt) : TS := fun Dn σ H => ∀ (pins : List (Addr × Obj)) (s : Shared), Inv X pins σ H s → wpAny (model X.prog X.w) X.A (exec st X.env) (SP X pins Dn) X.xe s
theorem ps_tw {X : Cx} {st : Stmt} : PS X st (twS X st) := ⟨fun pins s _ _ _ I h => h pins s I⟩
theorem twS_of {X : Cx} {st : Stmt} {t : TS} (h : PS X st t) {σ : List (Option V)} {H : Hp} {Dn : Ends} (q : t Dn σ H) : twS X st Dn σ H := fun pins s I => h.run pins s σ H Dn I q
def twSs (X : Cx) (st : List Stmt) : TS := fun Dn σ H => ∀ (pins : List (Addr × Obj)) (s : Shared), Inv X pins σ H s → wpAny (model X.prog X.w) X.A (execs st X.env) (SP X pins Dn) X.xe s
theorem pss_tw {X : Cx} {st : List Stmt} : PSs X st (twSs X st) := ⟨fun pins s _ _ _ I h => h pins s I⟩
theorem twSs_of {X : Cx} {st : List Stmt} {t : TS} (h : PSs X st t) {σ : List (Option V)} {H : Hp} {Dn : Ends} (q : t Dn σ H) : twSs X st Dn σ H := fun pins s I => h.run pins s σ H Dn I q
def SS (X : Cx) (xr : XRep) (xw : WX) (st : Stmt) (f : Ev → Out) : Prop := ∀ (E : Ev) (σ : List (Option V)) (Gc Hc G H : Hp) (fps : Nat → List Addr), Holds X.K Gc Hc G H E σ fps → ∀ Dn : Ends, OutP X xr xw Gc Hc G Dn (f E) → twS X st Dn σ H
def SSs (X : Cx) (xr : XRep) (xw : WX) (st : List Stmt) (f : Ev → Out) : Prop := ∀ (E : Ev) (σ : List (Option V)) (Gc Hc G H : Hp) (fps : Nat → List Addr), Holds X.K Gc Hc G H E σ fps → ∀ Dn : Ends, OutP X xr xw Gc Hc G Dn (f E) → twSs X st Dn σ H

section
variable {X : Cx} {C : Ck} {cal : Nat → List D → Rs Vl} {gl : Nat → D} {xr : XRep} {xw : WX}
theorem SE.lift {x : Expr} {fa : Ev → Rs Vl} (ha : SE X xr xw x fa) {E : Ev} {σ : List (Option V)} {Gc Hc G H : Hp} {fps : Nat → List Addr} (hH : Holds X.K Gc Hc G H E σ fps) {k : Vl → Out} {Dn : Ends} {Q1 : VK}
    (h : OutP X xr xw Gc Hc G Dn (DP.lift E (fa E) k)) (hk : ∀ y v G1 H1 fp, Got X.K G H G1 H1 y.1 v y.2 fp → OutP X xr xw Gc Hc G1 Dn (k y) → Q1 v H1) : tw X x σ H Q1 :=
  ha E σ Gc Hc G H fps hH Q1 ((OutP.lift hH h).mono (fun _ _ h => h) fun y hy v G' H' fp g => hk y v G' H' fp g (hy.mono g.gr.sG))
theorem ST.lift {x : Expr} {fa : Ev → Rs Bool} (ha : ST X xr xw x fa) {E : Ev} {σ : List (Option V)} {Gc Hc G H : Hp} {fps : Nat → List Addr} (hH : Holds X.K Gc Hc G H E σ fps) {k : Bool → Out} {Dn : Ends} {Q1 : Bool → Hp → Prop}
    (h : OutP X xr xw Gc Hc G Dn (DP.lift E (fa E) k)) (hk : ∀ y G1 H1, Grow G H G1 H1 → OutP X xr xw Gc Hc G1 Dn (k y) → Q1 y H1) : twT X x σ H Q1 :=
  ha E σ Gc Hc G H fps hH Q1 ((OutP.lift hH h).mono (fun _ _ h => h) fun y hy G' H' g => hk y G' H' g (hy.mono g.sG))
theorem SL.lift {x : List Expr} {fa : Ev → Rs (List Vl)} (ha : SL X xr xw x fa) {E : Ev} {σ : List (Option V)} {Gc Hc G H : Hp} {fps : Nat → List Addr} (hH : Holds X.K Gc Hc G H E σ fps) {k : List Vl → Out} {Dn : Ends} {Q1 : List V → Hp → Prop}
    (h : OutP X xr xw Gc Hc G Dn (DP.lift E (fa E) k)) (hk : ∀ y vs G1 H1 fp, Gots X.K G H G1 H1 y vs fp → OutP X xr xw Gc Hc G1 Dn (k y) → Q1 vs H1) : twA X x σ H Q1 :=
  ha E σ Gc Hc G H fps hH Q1 ((OutP.lift hH h).mono (fun _ _ h => h) fun y hy v G' H' fp g => hk y v G' H' fp g (hy.mono g.gr.sG))
/-- a result that no exception can be -/
theorem OutP.pure {Gc Hc G : Hp} {E : Ev} {Dn : Ends} {α : Type} {r : Rs α} {k : α → Out} (hr : ∀ c x, r ≠ .ex c x) (h : OutP X xr xw Gc Hc G Dn (DP.lift E r k)) : ∃ a, r = .ok a ∧ OutP X xr xw Gc Hc G Dn (k a) := by
  cases r with
  | no => exact False.elim h
  | ok a => exact ⟨a, rfl, h⟩
  | ex c x => exact absurd rfl (hr c x)
theorem shared_ne {v : Vl} {c : Nat} {x : D} : shared v ≠ .ex c x := by
  obtain ⟨m, d⟩ := v
  show (if (m.bor && !d.flat) = true then Rs.no else Rs.ok (Mk.fr, d)) ≠ _
  split <;> simp
theorem owned_ne {v : Vl} {c : Nat} {x : D} : owned v ≠ .ex c x := by
  obtain ⟨m, d⟩ := v
  cases m <;> simp [owned]
theorem given_ne {v : Vl} {c : Nat} {x : D} : given v ≠ .ex c x := by
  obtain ⟨m, d⟩ := v
  show (if m.bor = true then (if d.flat = true then Rs.ok (Mk.fr, d) else Rs.no) else Rs.ok (m, d)) ≠ _
  split
  · split <;> simp
  · simp
theorem rdS_ne {v : Slot} {c : Nat} {x : D} : rdS v ≠ .ex c x := by cases v <;> simp [rdS]
theorem rdS_ok {E : Ev} {i : Nat} {v : Vl} (h : rdS (E[i]?).join = .ok v) : E[i]? = some (some v) := by
  cases e : E[i]? with
  | none => rw [e] at h; simp [rdS] at h
  | some s =>
    rw [e] at h
    cases s with
    | none => simp [rdS] at h
    | some u => simp [rdS] at h; rw [h]
/-- stored shared -/
theorem set_sh {E : Ev} {σ : List (Option V)} {Gc Hc G H G1 H1 : Hp} {fps : Nat → List Addr} (hH : Holds X.K Gc Hc G H E σ fps) {i : Nat} {y : Vl} {v : V} {fp : List Addr} {Dn : Ends} (g : Got X.K G H G1 H1 y.1 v y.2 fp)
    (h : OutP X xr xw Gc Hc G1 Dn (DP.lift E (shared y) fun u => .nx (E.set i (some u)))) : Dn.nx (σ.set i (some v)) H1 := by
  obtain ⟨u, eu, h⟩ := OutP.pure (fun _ _ => shared_ne) h
  obtain ⟨m, d⟩ := y
  replace eu : (if (m.bor && !d.flat) = true then Rs.no else Rs.ok (Mk.fr, d)) = Rs.ok u := eu
  by_cases c : (m.bor && !d.flat) = true
  · rw [if_pos c] at eu; cases eu
  · rw [if_neg c] at eu
    cases eu
    obtain ⟨G2, g2, s2⟩ := g.share (by simpa using c)
    exact h _ _ _ _ s2 (hH.set g2 (.inl rfl) i)
theorem set_ow {E : Ev} {σ : List (Option V)} {Gc Hc G H G1 H1 : Hp} {fps : Nat → List Addr} (hH : Holds X.K Gc Hc G H E σ fps) {i : Nat} {y : Vl} {v : V} {fp : List Addr} {Dn : Ends} (g : Got X.K G H G1 H1 y.1 v y.2 fp)
    (h : OutP X xr xw Gc Hc G1 Dn (DP.lift E (owned y) fun u => .nx (E.set i (some u)))) : Dn.nx (σ.set i (some v)) H1 := by
  obtain ⟨u, eu, h⟩ := OutP.pure (fun _ _ => owned_ne) h
  obtain ⟨m, d⟩ := y
  cases m <;> simp [owned] at eu
  · subst eu; exact h _ _ _ _ (Same.refl _) (hH.set g (.inr (.inr rfl)) i)
  · subst eu; exact h _ _ _ _ (Same.refl _) (hH.set g (.inr (.inl rfl)) i)
theorem kind_ok (O : XOk X C cal gl xr xw) (h : fnK C = true) : X.env.scope.kind = .function := by
  rw [O.hsc]; simpa [fnK] using h
theorem swap_eq (O : XOk X C cal gl xr xw) (hk : fnK C = true) {elt : Expr} {gs : List Comprehension} {scope : Scope} {pos py : Pos} {y : Str} {l : Nat} :
    swapsWith (.ListComp elt gs scope pos) (some (.Name y py)) l X.env = pure (swB C y py pos scope) := by
  have hb : X.env.blockKind = .function := by unfold Env.blockKind; rw [kind_ok O hk]; rfl
  have ky : X.env.kindOf y = C.sc.names.lookup y := by rw [← O.hsc]; rfl
  unfold swapsWith swB
  simp only [hb, ky, Expr.pos]
  cases C.sc.names.lookup y with
  | none => rfl
  | some k => cases k <;> rfl
theorem swap_no {e : Expr} {t : Option Expr} {l : Nat} {env : Env} (h : noComp e = true) : swapsWith e t l env = pure false := by cases e <;> first | rfl | cases h
theorem swap_sub {e a b : Expr} {p : Pos} {l : Nat} {env : Env} : swapsWith e (some (.Subscript a b p)) l env = pure false := by cases e <;> rfl
theorem swap_tup {e : Expr} {ts : List Expr} {k : Nat} {p : Pos} {l : Nat} {env : Env} : swapsWith e (some (.Tuple ts k p)) l env = pure false := by cases e <;> rfl
theorem chE_comp {e : Ex} {v : Expr} (hd : noDc e = true) (h : chE C e v = true) : noComp v = true ∨ ∃ k el p it own ifs, e = .comp k el p it own ifs := by
  cases e <;> first | (cases hd; done) | exact .inr ⟨_, _, _, _, _, _, rfl⟩ | (refine .inl ?_; cases v <;> first | rfl | (simp [chE] at h; done))
/-- name = value -/
theorem name_ok (O : XOk X C cal gl xr xw) {i : Nat} {x : Str} {p q : Pos} {e : Ex} {v : Expr} (ht : tgC C i (.Name x p) = true) (he : chE C e v = true) (hk : fnK C = true) (hdc : noDc e = true) {E : Ev} {σ : List (Option V)} {Gc Hc G H : Hp} {fps : Nat → List Addr}
    (hH : Holds X.K Gc Hc G H E σ fps) {Dn : Ends} (hp : (den cal gl e E).Post (EXw xr xw σ G H) (fun y => ∀ u G' H' fp, Got X.K G H G' H' y.1 u y.2 fp → Dn.nx (σ.set i (some u)) H')) : twS X (.Assign [.Name x p] v q) Dn σ H := by
  have ha := den_ok e O he
  obtain ⟨hi, hx, hf⟩ : X.N[i]? = some x ∧ Loc X.env.scope x ∧ (X.fn x = true ∨ X.env.scope.names.lookup x = some .local) := by
    unfold tgC at ht
    simp only [Bool.and_eq_true, decide_eq_true_eq, Bool.or_eq_true] at ht
    obtain ⟨⟨⟨h1, h2⟩, h3⟩, h4⟩ := ht
    refine ⟨by rw [O.hN]; exact h1, by rw [O.hsc]; exact locC_ok h2, ?_⟩
    rcases h4 with h4 | h4
    · exact .inl (O.fl _ h4)
    · exact .inr (by rw [O.hsc]; exact h4)
  have plain : swapsWith v (some (.Name x p)) q.line X.env = pure false → twS X (.Assign [.Name x p] v q) Dn σ H := fun hs =>
    twS_of (ps_set O.nd hi hx pe_tw hs hf) (ha E σ Gc Hc G H fps hH _ (hp.mono (fun _ _ z => z) fun y hy u G' H' fp g => hy u G' H' fp g))
  rcases chE_comp hdc he with hn | ⟨k, el, pt, it, own, ifs, rfl⟩
  · exact plain (swap_no hn)
  · unfold chE at he
    split at he
    · rename_i elt tg iter fs scope pos
      cases hs : swB C x p pos scope with
      | false => exact plain (by rw [swap_eq O hk, hs])
      | true =>
        simp only [Bool.and_eq_true] at he
        obtain ⟨⟨⟨⟨⟨h1, h2⟩, h3⟩, h4⟩, h5⟩, h6⟩ := he
        have hxl : X.env.scope.names.lookup x = some .local := by
          unfold swB at hs
          simp only [Bool.and_eq_true, decide_eq_true_eq] at hs
          rw [O.hsc]; exact hs.1.1
        have hit : SI true X xr xw tg iter (DP.iter cal gl true it) := iter_ok true it O h3 fun ht => by
          cases pt with
          | nm i => cases ht
          | tp is =>
            cases tg <;> first | (simp [patC] at h4; done) | exact ⟨_, _, _, rfl⟩
        obtain ⟨t, P, q⟩ := compS_ok (spos := q) O hi hxl (by rw [swap_eq O hk, hs]) h1 h2 (chI_noSet h3) hit h4 (fun O' => den_ok el O' h5) (fun O' => tsts_ok ifs O' h6) hH (Dn := Dn) hp
        exact twS_of P q
    · cases he
end
end DP

namespace DP
open PySem PySem.Spec PyProof.Rows L2
section
variable {X : Cx} {C : Ck} {cal : Nat → List D → Rs Vl} {gl : Nat → D} {xr : XRep} {xw : WX}
theorem parD_ok {n : Nat} {vs : List Vl} {ds : List D} (h : parD n vs = .ok ds) : isBor vs = false ∧ n = vs.length ∧ ds = vs.map (·.2) := by
  unfold parD at h
  by_cases c : (isBor vs || n != vs.length) = true
  · rw [if_pos c] at h; cases h
  · rw [if_neg c] at h
    cases h
    simp only [Bool.or_eq_true, not_or, Bool.not_eq_true, bne_eq_false_iff_eq] at c
    exact ⟨c.1, c.2, rfl⟩
theorem parD_ne {n : Nat} {vs : List Vl} {c : Nat} {x : D} : parD n vs ≠ .ex c x := by
  unfold parD
  split <;> simp
theorem unpD_ne {n : Nat} {v : Vl} {c : Nat} {x : D} : unpD n v ≠ .ex c x := by
  obtain ⟨m, d⟩ := v
  cases d <;> simp [unpD]
  split <;> simp
theorem unpD_ok {n : Nat} {m : Mk} {d : D} {ds : List D} (h : unpD n (m, d) = .ok ds) : d = .tup ds ∧ n = ds.length ∧ (m.bor && !d.flat) = false := by
  cases d <;> first | (simp [unpD] at h; done) | skip
  rename_i es
  replace h : (if (m.bor && !(D.flatL es)) || n != es.length then Rs.no else Rs.ok es) = Rs.ok ds := h
  by_cases c : ((m.bor && !(D.flatL es)) || n != es.length) = true
  · rw [if_pos c] at h; cases h
  · rw [if_neg c] at h
    cases h
    simp only [Bool.or_eq_true, not_or, Bool.not_eq_true, bne_eq_false_iff_eq] at c
    exact ⟨rfl, c.2, c.1⟩
theorem par_sh {E : Ev} {σ : List (Option V)} {Gc Hc G H G1 H1 : Hp} {fps : Nat → List Addr} (hH : Holds X.K Gc Hc G H E σ fps) {is : List Nat} {y : List Vl} {vs : List V} {fp : List Addr} {Dn : Ends} (g : Gots X.K G H G1 H1 y vs fp)
    (h : OutP X xr xw Gc Hc G Dn (DP.lift E (parD is.length y) fun ds => .nx (setAll is ds E))) : vs.length = is.length ∧ Dn.nx ((is.zip vs).foldl (fun σ p => σ.set p.1 (some p.2)) σ) H1 := by
  obtain ⟨ds, e, h⟩ := OutP.pure (fun _ _ => parD_ne) h
  obtain ⟨e1, e2, e3⟩ := parD_ok e
  obtain ⟨G2, g2, q⟩ := g.share e1
  rw [← e3] at q
  have l1 := q.length
  have l2 : ds.length = y.length := by rw [e3, List.length_map]
  obtain ⟨fps', h2⟩ := (hH.grow g2).setAll q (show is.length = ds.length by omega)
  exact ⟨by omega, h _ _ _ _ g2.sG h2⟩
theorem eraseDups2 {x y : Str} (h : x ≠ y) : [x, y].eraseDups.length = 2 := by
  have : (y == x) = false := by simpa using (Ne.symm h)
  rw [List.eraseDups_cons, List.filter_cons]
  simp [this, List.eraseDups_cons]
theorem eraseDups3 {x y z : Str} (h : x ≠ y) (h2 : x ≠ z) (h3 : y ≠ z) : [x, y, z].eraseDups.length = 3 := by
  have a : (y == x) = false := by simpa using (Ne.symm h)
  have b : (z == x) = false := by simpa using (Ne.symm h2)
  have c : (z == y) = false := by simpa using (Ne.symm h3)
  simp [List.eraseDups_cons, List.filter_cons, a, b, c]
theorem swapped2 (hb : X.env.blockKind = .function) {x y : Str} {px py pt p2 : Pos} {kt k2 : Nat} {a b : Expr} (hx : X.env.scope.names.lookup x = some .local) (hy : X.env.scope.names.lookup y = some .local) (hxy : x ≠ y) (hl : (px.line == py.line) = true)
    (ha : noStar a = true) (hb2 : noStar b = true) (hf : ([a, b].all (foldedForSure 8)) = false) (hc : ([a, b].all (constantsAlone 8)) = false) :
    swappedStores [.Tuple [.Name x px, .Name y py] kt pt] (.Tuple [a, b] k2 p2) X.env = pure (some [x, y]) := by
  have kx : X.env.kindOf x = some .local := hx
  have ky : X.env.kindOf y = some .local := hy
  have hl' : py.line = px.line := (eq_of_beq hl).symm
  unfold swappedStores
  simp only [List.length_cons, List.length_nil, hb, hf, hc]
  simp [kx, ky, hl', eraseDups2 hxy, Expr.pos]
  rintro (h | h)
  · cases a <;> first | (cases ha; done) | (cases h; done)
  · cases b <;> first | (cases hb2; done) | (cases h; done)
theorem swapped3 (hb : X.env.blockKind = .function) {x y z : Str} {px py pz pt p2 : Pos} {kt k2 : Nat} {a b c : Expr} (hx : X.env.scope.names.lookup x = some .local) (hy : X.env.scope.names.lookup y = some .local) (hz : X.env.scope.names.lookup z = some .local)
    (hxy : x ≠ y) (hxz : x ≠ z) (hyz : y ≠ z) (hl : (px.line == py.line) = true) (hl2 : (px.line == pz.line) = true)
    (ha : noStar a = true) (hb2 : noStar b = true) (hc2 : noStar c = true) (hf : ([a, b, c].all (foldedForSure 8)) = false) (hc : ([a, b, c].all (constantsAlone 8)) = false) :
    swappedStores [.Tuple [.Name x px, .Name y py, .Name z pz] kt pt] (.Tuple [a, b, c] k2 p2) X.env = pure (some [x, y, z]) := by
  have kx : X.env.kindOf x = some .local := hx
  have ky : X.env.kindOf y = some .local := hy
  have kz : X.env.kindOf z = some .local := hz
  have hl' : py.line = px.line := (eq_of_beq hl).symm
  have hl3 : pz.line = px.line := (eq_of_beq hl2).symm
  unfold swappedStores
  simp only [List.length_cons, List.length_nil, hb, hf, hc]
  simp [kx, ky, kz, hl', hl3, eraseDups3 hxy hxz hyz, Expr.pos]
  rintro (h | h | h)
  · cases a <;> first | (cases ha; done) | (cases h; done)
  · cases b <;> first | (cases hb2; done) | (cases h; done)
  · cases c <;> first | (cases hc2; done) | (cases h; done)
theorem swappedF (hb : X.env.blockKind = .function) {x y : Str} {px py pt p2 : Pos} {kt k2 : Nat} {a b : Expr} (hf : ([a, b].all (foldedForSure 8)) = true) :
    swappedStores [.Tuple [.Name x px, .Name y py] kt pt] (.Tuple [a, b] k2 p2) X.env = pure none := by
  unfold swappedStores
  simp only [List.length_cons, List.length_nil, hb, hf]
  simp
theorem swappedV {ts : List Expr} {pt : Pos} {kt : Nat} {v : Expr} (h : notTup v = true) : swappedStores [.Tuple ts kt pt] v X.env = pure none := by cases v <;> first | rfl | cases h
theorem augD_ne {op : Op} {a b : D} {c : Nat} {x : D} : augD op a b ≠ .ex c x := by
  cases a <;> cases b <;> first | (simp [augD]; done) | skip
  all_goals (cases op <;> simp [augD, binD] <;> split <;> simp)
theorem appD_ne {s : Slot} {v : Vl} {c : Nat} {x : D} : appD s v ≠ .ex c x := by
  unfold appD
  split
  · split
    · simp
    · split <;> simp
  · split
    · split <;> simp
    · simp
  · simp
theorem putD_ne {s : Slot} {d : D} {v : Vl} {c : Nat} {x : D} : putD s d v ≠ .ex c x := by
  unfold putD
  split
  · split
    · simp
    · split <;> simp
  · simp
/-- x op= e -/
theorem aug_ok {op : Op} {o : Operator} (ho : augC op o = true) {G H G1 H1 : Hp} {fp : List Addr} {v w : V} {m : Mk} {a b d : D} {Q : VK} (hv : Data X.K G v a) (s : Same G H) (y : Got X.K G H G1 H1 m w b fp) (h : augD op a b = .ok d)
    (k : ∀ u, Data X.K G1 u d → Q u H1) : rw2 X (inplaceOp o) v w H1 Q := by
  have hx : Data X.K H1 v a := (hv.mono s).mono y.gr.sH
  have hy := y.data
  cases a <;> cases b <;> first | (simp [augD] at h; done) | skip
  · obtain rfl := data_int hx
    obtain rfl := data_int hy
    rename_i i j
    cases op with
    | add =>
      cases o <;> first | (cases ho; done) | skip
      cases h
      exact rw2_of iop_add ⟨_, _, rfl, rfl, k _ (.int _)⟩
    | sub =>
      cases o <;> first | (cases ho; done) | skip
      cases h
      exact rw2_of iop_sub ⟨_, _, rfl, rfl, k _ (.int _)⟩
    | mul =>
      cases o <;> first | (cases ho; done) | skip
      by_cases c : (big i || big j) = true
      · simp only [augD, binD, c, if_true] at h
        cases h
        exact rw2_of iop_mul ⟨_, _, rfl, rfl, big_ok c, k _ (.int _)⟩
      · simp [augD, binD, c] at h
    | mod =>
      cases o <;> first | (cases ho; done) | skip
      by_cases c : 0 < j
      · simp only [augD, binD, c, if_true] at h
        cases h
        exact rw2_of iop_mod ⟨_, _, rfl, rfl, c, k _ (.int _)⟩
      · simp [augD, binD, c] at h
    | fdiv =>
      cases o <;> first | (cases ho; done) | skip
      by_cases c : (0 < j && j < 1073741824) = true
      · simp only [augD, binD, c, if_true] at h
        cases h
        have c' : 0 < j ∧ j < 1073741824 := by simpa using c
        exact rw2_of iop_fdiv ⟨_, _, rfl, rfl, c', k _ (.int _)⟩
      · simp [augD, binD, c] at h
    | pow => cases ho
  · obtain rfl := data_str hx
    obtain rfl := data_str hy
    rename_i i j
    cases op <;> first | (simp [augD, binD] at h; done) | skip
    cases o <;> first | (cases ho; done) | skip
    by_cases c : i.length + j.length ≤ SZ
    · simp only [augD, binD, c, if_true] at h
      cases h
      exact rw2_of iop_add_str ⟨_, _, rfl, rfl, by rw [sv_len, sv_len, SZ_eq]; exact c, by rw [sv_app]; exact k _ (.str _)⟩
    · simp [augD, binD, c] at h
end
end DP

namespace DP
open PySem PySem.Spec PyProof.Rows L2
section
variable {X : Cx} {C : Ck} {cal : Nat → List D → Rs Vl} {gl : Nat → D} {xr : XRep} {xw : WX}
theorem appD_cases {s : Slot} {v r : Vl} (h : appD s v = .ok r) : ∃ xs, (s = some (.sh, .lst xs) ∧ (v.1.bor && !v.2.flat) = false ∧ xs.length < SZ ∧ r = (.sh, .lst (xs ++ [v.2]))) ∨
    (s = some (.fu, .lst xs) ∧ (v.1 == .fu || v.2.flat) = true ∧ xs.length < SZ ∧ r = (.fu, .lst (xs ++ [v.2]))) := by
  obtain _ | ⟨m, d⟩ := s
  · cases h
  · cases m <;> cases d <;> first | (simp [appD] at h; done) | skip
    · rename_i xs
      by_cases c : (v.1 == .fu || v.2.flat) = true
      · simp only [appD, c, if_true] at h
        by_cases c2 : xs.length < SZ
        · rw [if_pos c2] at h; cases h
          exact ⟨xs, .inr ⟨rfl, c, c2, rfl⟩⟩
        · rw [if_neg c2] at h; cases h
      · simp [appD, c] at h
    · rename_i xs
      by_cases c : (v.1.bor && !v.2.flat) = true
      · simp [appD, c] at h
      · simp only [appD, c] at h
        by_cases c2 : xs.length < SZ
        · simp only [c2, if_true] at h
          cases h
          exact ⟨xs, .inl ⟨rfl, by simpa using c, c2, rfl⟩⟩
        · simp [c2] at h
theorem putD_cases {s : Slot} {d : D} {v r : Vl} (h : putD s d v = .ok r) : ∃ xs i k, s = some (.sh, .lst xs) ∧ d = .int i ∧ (v.1.bor && !v.2.flat) = false ∧ DP.ixN xs.length i = some k ∧ r = (.sh, .lst (xs.set k v.2)) := by
  obtain _ | ⟨m, e⟩ := s
  · cases h
  · cases m <;> cases e <;> first | (simp [putD] at h; done) | skip
    cases d <;> first | (simp [putD] at h; done) | skip
    rename_i xs i
    by_cases c : (v.1.bor && !v.2.flat) = true
    · simp [putD, c] at h
    · simp only [putD, c] at h
      cases hk : DP.ixN xs.length i with
      | none => simp [hk] at h
      | some k =>
        simp only [hk] at h
        cases h
        exact ⟨xs, i, k, rfl, rfl, by simpa using c, hk, rfl⟩
theorem ownL_ne {s : Slot} {c : Nat} {x : D} : ownL s ≠ .ex c x := by
  unfold ownL
  split <;> simp
theorem ownL_ok {s : Slot} {u : Unit} (h : ownL s = .ok u) : ∃ xs, s = some (.sh, .lst xs) ∨ s = some (.fu, .lst xs) := by
  obtain _ | ⟨m, d⟩ := s
  · cases h
  · cases m <;> cases d <;> first | (simp [ownL] at h; done) | exact ⟨_, .inr rfl⟩ | exact ⟨_, .inl rfl⟩
theorem swapS_tup {e : Expr} {ts : List Expr} {k : Nat} {p : Pos} {l : Nat} {env : Env} : swapsWithSole [.Tuple ts k p] e l env = pure false := by cases e <;> rfl
theorem swapS_sub {e a b : Expr} {p : Pos} {l : Nat} {env : Env} : swapsWithSole [.Subscript a b p] e l env = pure false := by cases e <;> rfl
theorem swappedSub {a b v : Expr} {p : Pos} {env : Env} : swappedStores [.Subscript a b p] v env = pure none := by cases v <;> rfl
theorem join_some {α : Type} {E : List (Option α)} {i : Nat} {v : α} (h : (E[i]?).join = some v) : E[i]? = some (some v) := by
  cases e : E[i]? with
  | none => rw [e] at h; cases h
  | some s =>
    rw [e] at h
    cases s with
    | none => cases h
    | some u => cases h; rfl
/-- own cells by slot: a shared-part list -/
theorem sh_cell {K : PySem.W.Frag} {G H : Hp} {v : V} {xs : List D} {fp : List Addr} (h : Val K .sh G H v (.lst xs) fp) : ∃ a vs, v = .ref a ∧ fp = [a] ∧ H a = some (.lst vs) ∧ Datas K G vs xs := by
  rcases h with ⟨_, _, f⟩ | ⟨a, o, e, e2, h, c⟩
  · simp [D.flat] at f
  · cases c with
    | lst t => exact ⟨a, _, e, e2, h, t⟩
theorem fu_cell {K : PySem.W.Frag} {G H : Hp} {v : V} {xs : List D} {fp : List Addr} (h : Val K .fu G H v (.lst xs) fp) : ∃ a vs fq, v = .ref a ∧ fp = a :: fq ∧ H a = some (.lst vs) ∧ Trees K G H vs xs fq := by
  have h' : Tree K G H v (.lst xs) fp := h
  cases h' with
  | flat _ f => simp [D.flat] at f
  | lst h1 t => exact ⟨_, _, _, rfl, rfl, h1, t⟩
/-- a list of one's own is written -/
theorem write_sh {E : Ev} {σ : List (Option V)} {Gc Hc G H G1 H1 : Hp} {fps : Nat → List Addr} (hH : Holds X.K Gc Hc G H E σ fps) {i : Nat} {xs ys : List D} {y : Vl} {u : V} {fp : List Addr} (g : Got X.K G H G1 H1 y.1 u y.2 fp) (e : E[i]? = some (some (.sh, .lst xs)))
    (c : (y.1.bor && !y.2.flat) = false) : ∃ a vs, σ[i]? = some (some (.ref a)) ∧ H1 a = some (.lst vs) ∧ vs.length = xs.length ∧ ∃ G2, Same G1 G2 ∧ ∀ f : List V → List V, ∀ ys, (Datas X.K G2 vs xs → Data X.K G2 u y.2 → Datas X.K G2 (f vs) ys) →
      ∃ fps', Holds X.K Gc Hc G2 (upd H1 a (.lst (f vs))) (E.set i (some (.sh, .lst ys))) σ fps' := by
  obtain ⟨G2, g2, s2⟩ := g.share c
  have h2 := hH.grow g2.gr
  obtain ⟨_, v, hv, val⟩ := h2.slot i _ _ e
  obtain ⟨a, vs, rfl, ef, ha, t⟩ := sh_cell val
  refine ⟨a, vs, hv, ha, t.length, G2, s2, fun f ys k => ⟨_, h2.write e hv (by rw [ef]; simp) (.inr (.inl rfl)) (fp' := [a]) (.inr ⟨a, _, rfl, rfl, upd_same, .lst (k t g2.val.2)⟩) trivial (by simp) fun b hb => .inl (by rw [ef]; exact hb)⟩⟩
theorem write_fu {E : Ev} {σ : List (Option V)} {Gc Hc G H G1 H1 : Hp} {fps : Nat → List Addr} (hH : Holds X.K Gc Hc G H E σ fps) {i : Nat} {xs : List D} {y : Vl} {u : V} {fp : List Addr} (g : Got X.K G H G1 H1 y.1 u y.2 fp) (e : E[i]? = some (some (.fu, .lst xs)))
    (c : (y.1 == .fu || y.2.flat) = true) : ∃ a vs, σ[i]? = some (some (.ref a)) ∧ H1 a = some (.lst vs) ∧ vs.length = xs.length ∧ ∃ G2 fps', Same G1 G2 ∧
      Holds X.K Gc Hc G2 (upd H1 a (.lst (vs ++ [u]))) (E.set i (some (.fu, .lst (xs ++ [y.2])))) σ fps' := by
  have gw := g.gr.withT
  have h2 := hH.grow gw
  have tu := g.val.tree g.gr.sub c
  obtain ⟨_, v, hv, val⟩ := h2.slot i _ _ e
  obtain ⟨a, vs, fq, rfl, ef, ha, t⟩ := fu_cell val
  have nd := h2.nd i
  rw [ef] at nd
  have nd' := List.nodup_cons.mp nd
  -- the new cells are apart from all that was there
  have apart : ∀ b ∈ fp, ∀ j, b ∉ fps j := fun b hb j hj => by
    have m1 := hH.mu j b hj
    rw [g.fresh b hb] at m1
    exact m1
  have an : a ∉ fp := fun hb => apart a hb i (by rw [ef]; simp)
  have t2 : Trees X.K (withT G1 H1) H1 (vs ++ [u]) (xs ++ [y.2]) (fq ++ (fp ++ [])) := t.append (.cons tu .nil)
  rw [List.append_nil] at t2
  refine ⟨a, vs, hv, ha, Trees.len t, _, _, withT_same, h2.write e hv (by rw [ef]; simp) (.inr (.inr rfl)) (fp' := a :: (fq ++ fp)) ?_ trivial ?_ fun b hb => ?_⟩
  · refine .lst upd_same (Trees.mono (Same.refl _) t2 fun b hb o z => ?_)
    rw [upd_ne (show b ≠ a from fun z => by
      subst z
      rcases List.mem_append.mp hb with q | q
      · exact nd'.1 q
      · exact an q)]
    exact z
  · refine List.nodup_cons.mpr ⟨fun q => (List.mem_append.mp q).elim nd'.1 an, List.nodup_append.mpr ⟨nd'.2, g.nd, fun x hx z hz q => ?_⟩⟩
    subst q
    exact apart x hz i (by rw [ef]; exact List.mem_cons_of_mem _ hx)
  · rcases List.mem_cons.mp hb with rfl | hb
    · exact .inl (by rw [ef]; simp)
    · rcases List.mem_append.mp hb with hb | hb
      · exact .inl (by rw [ef]; exact List.mem_cons_of_mem _ hb)
      · exact .inr ⟨hH.gr.sH.free (g.fresh b hb), mut_ntup (g.val.mut b hb) (g.out b hb), g.val.mut b hb, apart b hb⟩
theorem own_rcv {E : Ev} {σ : List (Option V)} {Gc Hc G H : Hp} {fps : Nat → List Addr} (hH : Holds X.K Gc Hc G H E σ fps) {i : Nat} (h : ∃ xs, (E[i]?).join = some (.sh, .lst xs) ∨ (E[i]?).join = some (.fu, .lst xs)) :
    ∃ a vs, σ[i]? = some (some (.ref a)) ∧ H a = some (.lst vs) := by
  obtain ⟨xs, z1 | z1⟩ := h
  · obtain ⟨_, u, hu, val⟩ := hH.slot i _ _ (join_some z1)
    obtain ⟨a, vs, rfl, _, ha, _⟩ := sh_cell val
    exact ⟨a, vs, hu, ha⟩
  · obtain ⟨_, u, hu, val⟩ := hH.slot i _ _ (join_some z1)
    obtain ⟨a, vs, _, rfl, _, ha, _⟩ := fu_cell val
    exact ⟨a, vs, hu, ha⟩
theorem nmC_ok (O : XOk X C cal gl xr xw) {i : Nat} {x : Str} {p : Pos} (h : nmC C i x = true) : PE X (.Name x p) (tVar i) := by
  unfold nmC at h
  simp only [Bool.and_eq_true, decide_eq_true_eq] at h
  obtain ⟨⟨h1, h2⟩, h3⟩ := h
  obtain ⟨k1, k2, _⟩ := okName_ok h3
  exact pe_var (by rw [O.hN]; exact h1) (by rw [O.hsc]; exact visC_ok h2) k1 k2
theorem tgC_ok (O : XOk X C cal gl xr xw) {i : Nat} {x : Str} {p : Pos} (ht : tgC C i (.Name x p) = true) : X.N[i]? = some x ∧ Loc X.env.scope x ∧ (X.fn x = true ∨ X.env.scope.names.lookup x = some .local) := by
  unfold tgC at ht
  simp only [Bool.and_eq_true, decide_eq_true_eq, Bool.or_eq_true] at ht
  obtain ⟨⟨⟨h1, h2⟩, h3⟩, h4⟩ := ht
  refine ⟨by rw [O.hN]; exact h1, by rw [O.hsc]; exact locC_ok h2, ?_⟩
  rcases h4 with h4 | h4
  · exact .inl (O.fl _ h4)
  · exact .inr (by rw [O.hsc]; exact h4)
theorem isTp_ok {p : Pat} {C : Ck} {tg : Expr} (h : patC C p tg = true) (ht : isTp p = true) : ∃ es k q, tg = .Tuple es k q := by
  cases p with
  | nm i => cases ht
  | tp is => cases tg <;> first | (simp [patC] at h; done) | exact ⟨_, _, _, rfl⟩
theorem given_cases {m : Mk} {d : D} {r : Vl} (h : given (m, d) = .ok r) : (m.bor = true ∧ d.flat = true ∧ r = (.fr, d)) ∨ (m.bor = false ∧ r = (m, d)) := by
  replace h : (if m.bor = true then (if d.flat = true then Rs.ok (Mk.fr, d) else Rs.no) else Rs.ok (m, d)) = Rs.ok r := h
  by_cases c : m.bor = true
  · rw [if_pos c] at h
    by_cases c2 : d.flat = true
    · rw [if_pos c2] at h; cases h; exact .inl ⟨c, c2, rfl⟩
    · rw [if_neg c2] at h; cases h
  · rw [if_neg c] at h; cases h; exact .inr ⟨by simpa using c, rfl⟩

/-! match -/
def MP (X : Cx) (pins : List (Addr × Obj)) (σ : L2.St) (H : Hp) (b : Bool) (r : Option (List (Str × Value))) (s' : Shared) : Prop := r = (if b then some [] else none) ∧ Inv X pins σ H s'
theorem pv_ok {s z : List Nat} {k : Nat} {p q : Pos} {t : Tok} {pins : List (Addr × Obj)} {σ : L2.St} {H : Hp} {st : Shared} (I : Inv X pins σ H st) :
    wpAny (model X.prog X.w) X.A (matchPattern (.MatchValue (.Constant (.str (sv z)) k p) q) X.env (.str (sv s) t)) (MP X pins σ H (decide (s = z))) X.xe st := by
  refine wpAny_matchPattern_Value (thn (pe_str.run pins st σ H (fun v H' => v = .str (sv z) ∧ H' = H) I ⟨rfl, rfl⟩) fun u s1 ⟨v, H1, I1, r1, e1, e2⟩ => ?_)
  subst e1 e2
  refine thn (rw2_of op_eq (x := .str (sv s)) (y := .str (sv z)) (H := H1) (Q := fun v H' => v = .bl (decide (s = z)) ∧ H' = H1) ⟨rfl, by
    refine ⟨?_, rfl⟩
    congr 1
    simp [sv_inj]⟩ pins s1 σ _ _ I1 ⟨_, rfl⟩ r1) fun c s2 ⟨v2, H2, I2, r2, e3, e4⟩ => ?_
  subst e3 e4
  cases (show c = Value.bool (decide (s = z)) from r2)
  refine wpAny_truthy_bool ?_
  cases decide (s = z) <;> exact ⟨rfl, I2⟩
theorem pl_ok {s : List Nat} {t : Tok} {pins : List (Addr × Obj)} {σ : L2.St} {H : Hp} : ∀ {l : List (List Nat)} {ps : List Pattern} {st : Shared}, patL l ps = true → Inv X pins σ H st →
    wpAny (model X.prog X.w) X.A (matchFirst ps X.env (.str (sv s) t)) (MP X pins σ H (l.contains s)) X.xe st
  | [], ps, st, h, I => by
    cases ps with
    | cons _ _ => simp [patL] at h
    | nil => exact wpAny_matchFirst_nil ⟨rfl, I⟩
  | z :: l, ps, st, h, I => by
    unfold patL at h
    split at h
    · rename_i e; cases e
    · rename_i z' l' z2 k p q ps e
      cases e
      simp only [Bool.and_eq_true, decide_eq_true_eq] at h
      obtain ⟨h1, h2⟩ := h
      subst h1
      refine wpAny_matchFirst_cons (thn (pv_ok I) fun r s1 ⟨e, I1⟩ => ?_)
      subst e
      rw [List.contains_cons]
      by_cases c : s = z
      · simp only [c, decide_true, if_true, beq_self_eq_true, Bool.true_or]
        exact ⟨rfl, I1⟩
      · have c2 : (s == z) = false := by simpa using c
        simp only [c, decide_false, c2, Bool.false_or]
        exact pl_ok h2 I1
    · cases h
theorem pats_ok {s : List Nat} {t : Tok} {pins : List (Addr × Obj)} {σ : L2.St} {H : Hp} {l : List (List Nat)} {p : Pattern} {st : Shared} (h : patsC l p = true) (I : Inv X pins σ H st) :
    wpAny (model X.prog X.w) X.A (matchPattern p X.env (.str (sv s) t)) (MP X pins σ H (l.isEmpty || l.contains s)) X.xe st := by
  unfold patsC at h
  split at h
  · rw [h]
    exact wpAny_matchPattern_Capture ⟨rfl, I⟩
  · rename_i v q
    simp only [Bool.and_eq_true, Bool.not_eq_true'] at h
    obtain ⟨h1, h2⟩ := h
    rw [h1, Bool.false_or]
    cases l with
    | nil => simp at h1
    | cons z l =>
      cases l with
      | cons _ _ =>
        unfold patL at h2
        split at h2
        · rename_i e _; cases e
        · rename_i e e2
          cases e; cases e2
          simp [patL] at h2
        · cases h2
      | nil =>
        unfold patL at h2
        split at h2
        · rename_i e _; cases e
        · rename_i e e2
          cases e; cases e2
          simp only [patL, Bool.and_true, decide_eq_true_eq] at h2
          subst h2
          have e : [z].contains s = decide (s = z) := by
            rw [Bool.eq_iff_iff]; simp
          rw [e]
          exact pv_ok I
        · cases h2
  · rename_i ps q
    simp only [Bool.and_eq_true, Bool.not_eq_true'] at h
    obtain ⟨h1, h2⟩ := h
    rw [h1, Bool.false_or]
    refine wpAny_matchPattern_Or (thn (pl_ok h2 I) fun r s1 ⟨e, I1⟩ => ?_)
    subst e
    cases l.contains s with
    | false => exact ⟨rfl, I1⟩
    | true =>
      refine ⟨?_, I1⟩
      show some _ = some []
      congr 1
      exact List.filterMap_eq_nil_iff.mpr fun n _ => rfl
  · cases h
mutual
theorem exe_ok (w : Nat) (O : XOk X C cal gl xr xw) (po : PassesOwn (model X.prog X.w) X.A X.env X.xe) : ∀ (s : DP.St) {st : Stmt}, chS C s st = true → SS X xr xw st (exe cal gl w s)
  | .set i e, st, h => by
    unfold chS at h
    split at h
    · rename_i x p v q
      simp only [Bool.and_eq_true] at h
      intro E σ Gc Hc G H fps hH Dn hp
      refine name_ok O h.1.1.1 h.1.1.2 h.1.2 h.2 hH ((OutP.lift hH hp).mono (fun _ _ z => z) fun y hy u G1 H1 fp g => set_sh hH g (hy.mono g.gr.sG))
    · cases h
  | .own i e, st, h => by
    unfold chS at h
    split at h
    · rename_i x p v q
      simp only [Bool.and_eq_true] at h
      intro E σ Gc Hc G H fps hH Dn hp
      refine name_ok O h.1.1.1 h.1.1.2 h.1.2 h.2 hH ((OutP.lift hH hp).mono (fun _ _ z => z) fun y hy u G1 H1 fp g => set_ow hH g (hy.mono g.gr.sG))
    · cases h
  | .par is es, st, h => by
    unfold chS at h
    split at h
    · rename_i ts k1 p1 vs k2 p2 q
      simp only [Bool.and_eq_true, Bool.or_eq_true, decide_eq_true_eq] at h
      obtain ⟨⟨⟨⟨h1, h2⟩, h3⟩, h4⟩, h5⟩ := h
      have hb : X.env.blockKind = .function := by unfold Env.blockKind; rw [kind_ok O h1]; rfl
      have ha := dens_ok es O h3
      obtain ⟨r1, r2, r3⟩ := tgs_ok O h2
      have sts := chL_star h3
      intro E σ Gc Hc G H fps hH Dn hp
      have run : ∀ {Q1 : List V → Hp → Prop}, (∀ us H1, us.length = is.length → Dn.nx ((is.zip us).foldl (fun σ p => σ.set p.1 (some p.2)) σ) H1 → Q1 us H1) → twA X vs σ H Q1 := fun {Q1} hk =>
        ha E σ Gc Hc G H fps hH Q1 ((OutP.lift hH hp).mono (fun _ _ z => z) fun y hy us G1 H1 fp g => by
          obtain ⟨z1, z2⟩ := par_sh hH g hy
          exact hk us H1 z1 z2)
      rcases h4 with h4 | h4
      · unfold parC at h4
        split at h4
        · rename_i x px y py a b
          simp only [Bool.and_eq_true, decide_eq_true_eq, Bool.not_eq_true'] at h4
          obtain ⟨⟨⟨⟨⟨c1, c2⟩, c3⟩, c4⟩, c5⟩, c6⟩ := h4
          cases is with
          | nil => simp [tgsC] at h2
          | cons i is =>
            cases is with
            | nil => simp [tgsC] at h2
            | cons j is =>
              cases is with
              | cons _ _ => simp [tgsC] at h2
              | nil =>
                simp only [tgsC, Bool.and_eq_true] at h2
                obtain ⟨i1, i2, i3⟩ := tgC_ok O h2.1
                obtain ⟨j1, j2, j3⟩ := tgC_ok O h2.2.1
                have lx : X.env.scope.names.lookup x = some .local := by rw [O.hsc]; exact c1
                have ly : X.env.scope.names.lookup y = some .local := by rw [O.hsc]; exact c2
                have sa := (noStar_of sts).1
                have sb := (noStar_of (noStar_of sts).2).1
                have hij : i ≠ j := by
                  have := (List.nodup_cons.mp h5).1
                  simpa using this
                refine twS_of (ps_par O.calm O.nd i1 j1 hij lx ly pa_tw (swapped2 hb lx ly c3 c4 sa sb c5 c6) swapS_tup) (run fun us H1 hl hn => ?_)
                cases us with
                | nil => simp at hl
                | cons v us =>
                  cases us with
                  | nil => simp at hl
                  | cons w us =>
                    cases us with
                    | cons _ _ => simp at hl
                    | nil => exact ⟨v, w, rfl, hn⟩
        · rename_i x px y py z pz a b c
          simp only [Bool.and_eq_true, decide_eq_true_eq, Bool.not_eq_true'] at h4
          obtain ⟨⟨⟨⟨⟨⟨⟨⟨⟨c1, c2⟩, c3⟩, c4⟩, c5⟩, c6⟩, c7⟩, c8⟩, c9⟩, c10⟩ := h4
          cases is with
          | nil => simp [tgsC] at h2
          | cons i is =>
            cases is with
            | nil => simp [tgsC] at h2
            | cons j is =>
              cases is with
              | nil => simp [tgsC] at h2
              | cons l is =>
                cases is with
                | cons _ _ => simp [tgsC] at h2
                | nil =>
                  simp only [tgsC, Bool.and_eq_true] at h2
                  obtain ⟨i1, i2, i3⟩ := tgC_ok O h2.1
                  obtain ⟨j1, j2, j3⟩ := tgC_ok O h2.2.1
                  obtain ⟨l1, l2, l3⟩ := tgC_ok O h2.2.2.1
                  have lx : X.env.scope.names.lookup x = some .local := by rw [O.hsc]; exact c1
                  have ly : X.env.scope.names.lookup y = some .local := by rw [O.hsc]; exact c2
                  have lz : X.env.scope.names.lookup z = some .local := by rw [O.hsc]; exact c3
                  have sa := (noStar_of sts).1
                  have sb := (noStar_of (noStar_of sts).2).1
                  have sc := (noStar_of (noStar_of (noStar_of sts).2).2).1
                  have q1 := (List.nodup_cons.mp h5).1
                  have q2 := (List.nodup_cons.mp (List.nodup_cons.mp h5).2).1
                  have hij : i ≠ j := fun e => q1 (by simp [e])
                  have hil : i ≠ l := fun e => q1 (by simp [e])
                  have hjl : j ≠ l := fun e => q2 (by simp [e])
                  refine twS_of (ps_par3 O.calm O.nd i1 j1 l1 hij hil hjl lx ly lz pa_tw (swapped3 hb lx ly lz c4 c5 c6 c7 c8 sa sb sc c9 c10) swapS_tup) (run fun us H1 hl hn => ?_)
                  cases us with
                  | nil => simp at hl
                  | cons v us =>
                    cases us with
                    | nil => simp at hl
                    | cons w us =>
                      cases us with
                      | nil => simp at hl
                      | cons z us =>
                        cases us with
                        | cons _ _ => simp at hl
                        | nil => exact ⟨v, w, z, rfl, hn⟩
        · cases h4
      · unfold parF at h4
        split at h4
        · rename_i x px y py a b
          refine twS_of (ps_asg (pe_tup pa_tw) (pg_tup O.calm r1 r2 r3) swapS_tup (swappedF hb h4) rfl) ?_
          refine ha E σ Gc Hc G H fps hH _ ((OutP.lift hH hp).mono (fun _ _ z => z) fun ms hy us G1 H1 fp g => ?_)
          obtain ⟨ds, e, hy⟩ := OutP.pure (fun _ _ => parD_ne) hy
          obtain ⟨e1, e2, e3⟩ := parD_ok e
          obtain ⟨G2, g2, q⟩ := g.share e1
          rw [← e3] at q
          have l1 := q.length
          have l2 : ds.length = ms.length := by rw [e3, List.length_map]
          have l3 : is.length = 2 := by
            have := r2
            simp [assignEach] at this
            exact this.symm
          refine ⟨by rw [SZ_eq]; have : us.length = 2 := by omega
                     rw [this]; decide, fun p hpn => ?_⟩
          refine ⟨p, us, rfl, SqT.of upd_same, by omega, ?_⟩
          have gl := Grow.laid (o := .tup us) g2.sub hpn
          obtain ⟨fps', h2⟩ := ((hH.grow g2).grow gl).setAll (q.mono gl.sG) (show is.length = ds.length by omega)
          exact gs_run (by omega) (hy _ _ _ _ (g2.sG.trans gl.sG) h2)
        · cases h4
    · cases h
  | .unp is e, st, h => by
    unfold chS at h
    split at h
    · rename_i ts k1 p1 v q
      simp only [Bool.and_eq_true] at h
      obtain ⟨⟨⟨h1, h2⟩, h3⟩, h4⟩ := h
      obtain ⟨r1, r2, r3⟩ := tgs_ok O h1
      have ha := den_ok e O h2
      intro E σ Gc Hc G H fps hH Dn hp
      refine twS_of (ps_asg pe_tw (pg_tup O.calm r1 r2 r3) swapS_tup (swappedV h4) rfl) ?_
      refine ha.lift hH hp fun y u G1 H1 fp g hy => ?_
      obtain ⟨ds, ed, hn⟩ := OutP.pure (fun _ _ => unpD_ne) hy
      obtain ⟨m, d⟩ := y
      obtain ⟨rfl, e2, e3⟩ := unpD_ok ed
      obtain ⟨G2, g2, s2⟩ := g.share e3
      have qd := g2.val.2
      cases qd with
      | tup hq t =>
        rename_i a us
        have l1 := t.length
        obtain ⟨fps', h2⟩ := (hH.grow g2.gr).setAll t e2
        exact ⟨a, us, rfl, Same.seqT g2.gr.sub hq, by omega, gs_run (by omega) (hn _ _ _ _ s2 h2)⟩
    · cases h
  | .aug i op e, st, h => by
    unfold chS at h
    split at h
    · rename_i x p o v q
      simp only [Bool.and_eq_true] at h
      obtain ⟨⟨h1, h2⟩, h3⟩ := h
      obtain ⟨i1, i2, i3⟩ := tgC_ok O h1
      have ha := den_ok e O h3
      intro E σ Gc Hc G H fps hH Dn hp
      obtain ⟨x0, ex, hp⟩ := OutP.pure (fun _ _ => rdS_ne) hp
      have ee := rdS_ok ex
      obtain ⟨m, a⟩ := x0
      obtain ⟨_, u0, hu, q0⟩ := hH.slot i m a ee
      refine twS_of (ps_aug O.nd i1 i2 pe_tw (show PIp X o (rw2 X (inplaceOp o)) from op_rw) i3) ⟨u0, hu, ?_⟩
      refine ha.lift hH hp fun y u G1 H1 fp g hy => ?_
      obtain ⟨d, ed, hn⟩ := OutP.pure (fun _ _ => augD_ne) hy
      obtain ⟨m2, b⟩ := y
      have hf : a.flat = true := by
        cases a <;> cases b <;> first | (simp [augD] at ed; done) | rfl
      have gw := g.gr.withT
      have q1 : Data X.K (withT G H) u0 a := Data.flat hH.gr.sub (q0.data hH.gr.sub) hf
      have hwT : Same (withT G H) H := withT_sub hH.gr.sub
      have gT : Got X.K (withT G H) H (withT G1 H1) H1 m2 u b fp := by
        have gx := g.grow ((Grow.refl g.gr.sub).withT)
        refine ⟨⟨fun c o z => ?_, g.gr.sH, withT_sub g.gr.sub, fun c z mc => ?_⟩, gx.val, gx.nd, gx.fresh, gx.out⟩
        · have := withT_same (G := withT G1 H1) (H := H1)
          cases hg : G c with
          | some o' =>
            have z1 : withT G H c = some o' := withT_same c o' hg
            rw [z1] at z; cases z
            exact gw.sG c _ hg
          | none =>
            unfold withT at z
            rw [hg] at z
            cases hh : H c with
            | none => rw [hh] at z; cases z
            | some o' =>
              rw [hh] at z
              by_cases t : isTupO o' = true
              · simp only [t, if_true] at z
                cases z
                exact withT_tup g.gr.sub (g.gr.sH c _ hh) t
              · simp only [t] at z; cases z
        · have z1 : G c = none := by
            cases hg : G c with
            | none => rfl
            | some o' =>
              rw [withT_same c o' hg] at z; cases z
          exact mut_ntup (mut_same g.gr.sH mc) (g.gr.new c z1 mc)
      refine aug_ok h2 q1 hwT gT ed fun z qz => ?_
      have h2' := hH.grow gw
      exact hn _ _ _ _ withT_same (h2'.set (Got.ofData h2'.gr.sub qz) (.inl rfl) i)
    · cases h
  | .app i e, st, h => by
    unfold chS at h
    split at h
    · rename_i x px m ap v cp q
      simp only [Bool.and_eq_true, decide_eq_true_eq] at h
      obtain ⟨⟨⟨⟨h1, h2⟩, h3⟩, h4⟩, h5⟩ := h
      subst h2
      have ha := den_ok e O h5
      intro E σ Gc Hc G H fps hH Dn hp
      refine twS_of (ps_expr (pe_bm PySem.F.plainAttrs_list PySem.F.slot_list_append PySem.F.type_list_append mt_append (nmC_ok O h1) (pa_cons pe_tw pa_nil (star_cons h4)) rfl (fewA h4) h3 (star_cons h4) rfl)) ?_
      obtain ⟨u0, eu, hp⟩ := OutP.pure (fun _ _ => ownL_ne) hp
      have rcv := own_rcv hH (ownL_ok eu)
      obtain ⟨a, vs0, hu, hHa⟩ := rcv
      refine ⟨.ref a, hu, .inl ⟨rfl, _, SqL.of hHa⟩, ?_⟩
      refine ha.lift hH hp fun y u G1 H1 fp g hy => ?_
      obtain ⟨r, er, hy⟩ := OutP.pure (fun _ _ => appD_ne) hy
      obtain ⟨xs, ⟨z1, z2, z3, rfl⟩ | ⟨z1, z2, z3, rfl⟩⟩ := appD_cases er
      · obtain ⟨a', vs, w1, w2, w3, G2, s2, k⟩ := write_sh (ys := []) hH g (join_some z1) z2
        rw [hu] at w1; cases w1
        obtain ⟨fps', h2⟩ := k (fun vs => vs ++ [u]) (xs ++ [y.2]) fun q1 q2 => q1.append (.cons q2 .nil)
        exact ⟨a, vs, u, rfl, rfl, w2, by rw [w3, SZ_eq]; exact z3, hy _ _ _ _ s2 h2⟩
      · obtain ⟨a', vs, w1, w2, w3, G2, fps', s2, h2⟩ := write_fu hH g (join_some z1) z2
        rw [hu] at w1; cases w1
        exact ⟨a, vs, u, rfl, rfl, w2, by rw [w3, SZ_eq]; exact z3, hy _ _ _ _ s2 h2⟩
    · cases h
  | .put i k e, st, h => by
    unfold chS at h
    split at h
    · rename_i x px kx tp v q
      simp only [Bool.and_eq_true] at h
      obtain ⟨⟨⟨⟨h1, h2⟩, h3⟩, h4⟩, h5⟩ := h
      have ha := den_ok e O h5
      have hk := den_ok k O h4
      intro E σ Gc Hc G H fps hH Dn hp
      refine twS_of (ps_asg pe_tw (pg_sub (nmC_ok O h1) (pe_tw (e := kx)) set_list (fun v => by cases kx <;> first | rfl | cases h2)) swapS_sub swappedSub rfl) ?_
      refine ha.lift hH hp fun y u G1 H1 fp g hy => ?_
      obtain ⟨u0, eu, hy⟩ := OutP.pure (fun _ _ => ownL_ne) hy
      obtain ⟨a, vs0, hu, hHa⟩ := own_rcv hH (ownL_ok eu)
      refine ⟨.ref a, hu, ?_⟩
      refine hk.lift (hH.grow g.gr) hy fun z iv G2 H2 fq g2 hz => ?_
      obtain ⟨r, er, hn⟩ := OutP.pure (fun _ _ => putD_ne) hz
      obtain ⟨xs, ix, kk, z1, z2, z3, z4, rfl⟩ := putD_cases er
      obtain ⟨mz, dz⟩ := z
      cases z2
      obtain rfl := data_int g2.data
      obtain ⟨a', vs, w1, w2, w3, G3, s3, kf⟩ := write_sh (ys := []) hH (g.grow g2.gr) (join_some z1) z3
      rw [hu] at w1; cases w1
      obtain ⟨fps', h2⟩ := kf (fun vs => vs.set kk u) (xs.set kk y.2) fun q1 q2 => q1.set kk q2
      exact ⟨a, vs, ix, kk, rfl, rfl, w2, by rw [w3, ← ixN_eq]; exact z4, hn _ _ _ _ s3 h2⟩
    · cases h
  | .exp e, st, h => by
    unfold chS at h
    split at h
    · rename_i v q
      simp only [Bool.and_eq_true] at h
      have ha := den_ok e O h.2
      intro E σ Gc Hc G H fps hH Dn hp
      refine twS_of (ps_expr pe_tw (swap_no h.1)) ?_
      exact ha.lift hH hp fun y u G1 H1 fp g hy => hy _ _ _ _ (Same.refl _) (hH.grow g.gr)
    · cases h
  | .ret e, st, h => by
    unfold chS at h
    split at h
    · rename_i v q
      have ha := den_ok e O h
      intro E σ Gc Hc G H fps hH Dn hp
      refine twS_of (ps_ret pe_tw) ?_
      refine ha.lift hH hp fun y u G1 H1 fp g hy => ?_
      obtain ⟨r, er, hn⟩ := OutP.pure (fun _ _ => given_ne) hy
      obtain ⟨m, d⟩ := y
      rcases given_cases er with ⟨z1, z2, rfl⟩ | ⟨z1, rfl⟩
      · obtain ⟨G2, g2, s2⟩ := g.share (by rw [z2]; simp)
        exact hn _ _ _ _ (Got.trans hH.gr g2)
      · exact hn _ _ _ _ (Got.trans hH.gr g)
    · cases h
  | .retV i, st, h => by
    unfold chS at h
    split at h
    · rename_i x p q
      intro E σ Gc Hc G H fps hH Dn hp
      obtain ⟨r, er, hn⟩ := OutP.pure (fun _ _ => rdS_ne) hp
      obtain ⟨m, d⟩ := r
      obtain ⟨_, u, hu, val⟩ := hH.slot i m d (rdS_ok er)
      exact twS_of (ps_ret (nmC_ok O h)) ⟨u, hu, hn _ _ _ _ ⟨hH.gr, val, hH.nd i, hH.fresh i, hH.out i⟩⟩
    · cases h
  | .retN, st, h => by
    unfold chS at h
    split at h
    · intro E σ Gc Hc G H fps hH Dn hp
      exact twS_of ps_retN (hp _ _ _ _ (Got.of_atom hH.gr .non rfl))
    · cases h
  | .ite c a b, st, h => by
    unfold chS at h
    split at h
    · rename_i t xs ys q
      simp only [Bool.and_eq_true] at h
      have hc := tst_ok c O h.1.1
      have ha := exes_ok w O po a h.1.2
      have hb := exes_ok w O po b h.2
      intro E σ Gc Hc G H fps hH Dn hp
      refine twS_of (ps_if pt_tw pss_tw pss_tw) ?_
      refine hc.lift hH hp fun k G1 H1 g hy => ?_
      cases k with
      | true =>
        rw [if_pos rfl]
        exact ha E σ Gc Hc G1 H1 fps (hH.grow g) Dn hy
      | false =>
        rw [if_neg (by simp)]
        exact hb E σ Gc Hc G1 H1 fps (hH.grow g) Dn hy
    · cases h
  | .for_ p it body, st, h => by
    unfold chS at h
    split at h
    · rename_i tg iter xs q
      simp only [Bool.and_eq_true] at h
      have hit := iter_ok false it (tg := tg) O h.1.1 (isTp_ok h.1.2)
      have hb := exes_ok w O po body h.2
      intro E σ Gc Hc G H fps hH Dn hp
      refine twS_of (ps_for po O.calm pi_tw (pat_ok O h.1.2) pss_tw (folded_ok (chI_noSet h.1.1))) ?_
      refine hit E σ Gc Hc G H fps hH _ ((OutP.lift hH hp).mono (fun _ _ z => z) fun ds hds J G1 H1 gr1 wd => ?_)
      obtain ⟨Gp, Y, wk, hGp, hY⟩ := wd
      refine for_it wk (fun i σ' Hx => ∃ Ei Gi fps', Holds X.K Gc Hc Gi Hx Ei σ' fps' ∧ Same G1 Gi ∧ OutP X xr xw Gc Hc Gi Dn (forD (bindP p) (exes cal gl w body) (ds.drop i) Ei)) ?_ ?_ ?_ ?_
      · exact ⟨E, G1, fps, hH.grow gr1, Same.refl _, OutP.mono gr1.sG hds⟩
      · rintro i σ' Hx _ ⟨Ei, Gi, fps', hi, s1, _⟩
        exact hGp Hx (s1.trans hi.gr.sub)
      · rintro i x σ' Hx Hx' hi ⟨Ei, Gi, fps', hHi, s1, hpi⟩ y
        have hd : ds[i]? = some ds[i] := List.getElem?_eq_getElem hi
        obtain ⟨G3, g3, q3⟩ := hY i Hx x Hx' _ hd (hGp Hx (s1.trans hHi.gr.sub)) y Gi s1 hHi.gr.sub
        rw [List.drop_eq_getElem_cons hi] at hpi
        simp only [forD] at hpi
        cases hbn : bindP p ds[i] Ei with
        | none => rw [hbn] at hpi; exact False.elim hpi
        | some E1 =>
          rw [hbn] at hpi
          simp only at hpi
          refine bind_ok (hHi.grow g3) q3 hbn fun σ2 fps2 hH4 hl hout => ?_
          refine hb E1 σ2 Gc Hc G3 Hx' fps2 hH4 _ ?_
          have s3 := s1.trans g3.sG
          cases eb : exes cal gl w body E1 with
          | no => rw [eb] at hpi; exact False.elim hpi
          | nx E2 => rw [eb] at hpi; exact fun σ5 G5 H5 fps5 s5 h5 => ⟨E2, G5, fps5, h5, s3.trans s5, OutP.mono (g3.sG.trans s5) hpi⟩
          | ct E2 => rw [eb] at hpi; exact fun σ5 G5 H5 fps5 s5 h5 => ⟨E2, G5, fps5, h5, s3.trans s5, OutP.mono (g3.sG.trans s5) hpi⟩
          | bk E2 => rw [eb] at hpi; exact fun σ5 G5 H5 fps5 s5 h5 => hpi _ _ _ _ (g3.sG.trans s5) h5
          | rt v => rw [eb] at hpi; exact hpi
          | ex c z E2 => rw [eb] at hpi; exact fun σ5 G5 H5 fps5 s5 h5 => hpi _ _ _ _ (g3.sG.trans s5) h5
      · rintro σ' Hx ⟨Ei, Gi, fps', hHi, s1, hpi⟩
        rw [List.drop_length] at hpi
        exact hpi _ _ _ _ (Same.refl _) hHi
    · cases h
  | .whl c body, st, h => by
    unfold chS at h
    split at h
    · rename_i t xs q
      simp only [Bool.and_eq_true] at h
      have hc := tst_ok c O h.1
      have hb := exes_ok w O po body h.2
      intro E σ Gc Hc G H fps hH Dn hp
      refine twS_of (ps_while po pt_tw pss_tw) ?_
      refine ⟨fun m σ' Hx => ∃ Ei Gi fps', Holds X.K Gc Hc Gi Hx Ei σ' fps' ∧ OutP X xr xw Gc Hc Gi Dn (whlD (tst cal gl c) (exes cal gl w body) m Ei), ⟨w, E, G, fps, hH, hp⟩, ?_⟩
      rintro m σ' Hx ⟨Ei, Gi, fps', hHi, hpi⟩
      cases m with
      | zero => exact False.elim hpi
      | succ m =>
        refine hc.lift hHi hpi fun k G1 H1 g hy => ?_
        cases k with
        | false =>
          rw [if_neg (by simp)]
          exact hy _ _ _ _ (Same.refl _) (hHi.grow g)
        | true =>
          rw [if_pos rfl]
          refine ⟨fun σ' Hx => ∃ Ei Gi fps', Holds X.K Gc Hc Gi Hx Ei σ' fps' ∧ OutP X xr xw Gc Hc Gi Dn (whlD (tst cal gl c) (exes cal gl w body) m Ei), fun σ' H' z => ⟨m, Nat.lt_succ_self m, z⟩, ?_⟩
          refine hb Ei σ' Gc Hc G1 H1 fps' (hHi.grow g) _ ?_
          simp only [if_true] at hy
          cases eb : exes cal gl w body Ei with
          | no => rw [eb] at hy; exact False.elim hy
          | nx E2 => rw [eb] at hy; exact fun σ5 G5 H5 fps5 s5 h5 => ⟨E2, G5, fps5, h5, OutP.mono s5 hy⟩
          | ct E2 => rw [eb] at hy; exact fun σ5 G5 H5 fps5 s5 h5 => ⟨E2, G5, fps5, h5, OutP.mono s5 hy⟩
          | bk E2 => rw [eb] at hy; exact hy
          | rt v => rw [eb] at hy; exact hy
          | ex c z E2 => rw [eb] at hy; exact hy
    · cases h
  | .brk, st, h => by
    unfold chS at h
    split at h
    · intro E σ Gc Hc G H fps hH Dn hp
      exact twS_of ps_break (hp _ _ _ _ (Same.refl _) hH)
    · cases h
  | .cnt, st, h => by
    unfold chS at h
    split at h
    · intro E σ Gc Hc G H fps hH Dn hp
      exact twS_of ps_continue (hp _ _ _ _ (Same.refl _) hH)
    · cases h
  | .pas, st, h => by
    unfold chS at h
    split at h
    · intro E σ Gc Hc G H fps hH Dn hp
      exact twS_of ps_pass (hp _ _ _ _ (Same.refl _) hH)
    · cases h
  | .frz i, st, h => by
    unfold chS at h
    cases h
  | .nev, st, h => fun E σ Gc Hc G H fps hH Dn hp => False.elim hp
  | .mtc e m, st, h => by
    unfold chS at h
    split at h
    · rename_i subject cs pos
      simp only [Bool.and_eq_true] at h
      have ha := den_ok e O h.1
      intro E σ Gc Hc G H fps hH Dn hp pins s I
      refine wpAny_Match (thn ((ha.lift (Q1 := fun x H1 => ∃ (d : D) (G1 : Hp), Data X.K H1 x d ∧ Holds X.K Gc Hc G1 H1 E σ fps ∧ OutP X xr xw Gc Hc G1 Dn (exeM cal gl w m d E)) hH hp fun y v G1 H1 fp g hy => ⟨y.2, G1, g.data, hH.grow g.gr, hy⟩) pins s I) fun u s1 ⟨x, H1, I1, r1, d, G1, q, hH1, hy⟩ => ?_)
      exact exeM_ok w O po m h.2 q r1 hH1 hy I1
    · cases h
theorem exeM_ok (w : Nat) (O : XOk X C cal gl xr xw) (po : PassesOwn (model X.prog X.w) X.A X.env X.xe) : ∀ (m : Ms) {cs : List MatchCase}, chM C m cs = true → ∀ {E : Ev} {σ : List (Option V)} {Gc Hc G H : Hp} {fps : Nat → List Addr} {Dn : Ends} {x : V} {u : Value} {d : D} {pins : List (Addr × Obj)} {s : Shared} {first : Bool},
    Data X.K H x d → RelV x u → Holds X.K Gc Hc G H E σ fps → OutP X xr xw Gc Hc G Dn (exeM cal gl w m d E) → Inv X pins σ H s → wpAny (model X.prog X.w) X.A (matchCases cs X.env u first) (SP X pins Dn) X.xe s
  | .nil, cs, h, E, σ, Gc, Hc, G, H, fps, Dn, x, u, d, pins, s, first, q, r, hH, hp, I => by
    cases cs with
    | cons _ _ => simp [chM] at h
    | nil => exact wpAny_matchCases_nil ⟨σ, H, I, hp _ _ _ _ (Same.refl _) hH⟩
  | .cons l body rest, cs, h, E, σ, Gc, Hc, G, H, fps, Dn, x, u, d, pins, s, first, q, r, hH, hp, I => by
    unfold chM at h
    split at h
    · rename_i pat xs cs'
      simp only [Bool.and_eq_true] at h
      obtain ⟨⟨h1, h2⟩, h3⟩ := h
      have hb := exes_ok w O po body h2
      cases d <;> first | exact False.elim hp | skip
      rename_i t
      obtain rfl := data_str q
      obtain ⟨tk, rfl⟩ := r
      replace hp : OutP X xr xw Gc Hc G Dn (if (l.isEmpty || l.contains t) = true then exes cal gl w body E else exeM cal gl w rest (.str t) E) := hp
      refine wpAny_matchCases_cons (thn (pats_ok h1 I) fun r s1 ⟨e, I1⟩ => ?_)
      subst e
      cases c : (l.isEmpty || l.contains t) with
      | true =>
        rw [c, if_pos rfl] at hp
        exact wpAny_assignInOrder_none (hb E σ Gc Hc G H fps hH Dn hp pins s1 I1)
      | false =>
        rw [c, if_neg (by simp)] at hp
        exact exeM_ok w O po rest h3 q ⟨tk, rfl⟩ hH hp I1
    · cases h
theorem exes_ok (w : Nat) (O : XOk X C cal gl xr xw) (po : PassesOwn (model X.prog X.w) X.A X.env X.xe) : ∀ (ss : List DP.St) {sts : List Stmt}, chSs C ss sts = true → SSs X xr xw sts (exes cal gl w ss)
  | [], sts, h => by
    cases sts with
    | cons _ _ => simp [chSs] at h
    | nil =>
      intro E σ Gc Hc G H fps hH Dn hp
      exact twSs_of pss_nil (hp _ _ _ _ (Same.refl _) hH)
  | s :: r, sts, h => by
    have step : ∀ x xs, sts = x :: xs → (chS C s x && chSs C r xs) = true → SSs X xr xw sts (exes cal gl w (s :: r)) := fun x xs e hc => by
      subst e
      rw [Bool.and_eq_true] at hc
      have h1 := exe_ok w O po s hc.1
      have h2 := exes_ok w O po r hc.2
      intro E σ Gc Hc G H fps hH Dn hp
      refine twSs_of (pss_cons ps_tw pss_tw) ?_
      refine h1 E σ Gc Hc G H fps hH _ ?_
      replace hp : OutP X xr xw Gc Hc G Dn (match exe cal gl w s E with
        | .nx E2 => exes cal gl w r E2
        | .bk E2 => .bk E2
        | .ct E2 => .ct E2
        | .rt v => .rt v
        | .no => .no
        | .ex c x E2 => .ex c x E2) := hp
      cases es : exe cal gl w s E with
      | no => rw [es] at hp; exact False.elim hp
      | nx E2 => rw [es] at hp; exact fun σ5 G5 H5 fps5 s5 h5 => h2 E2 σ5 Gc Hc G5 H5 fps5 h5 Dn (OutP.mono s5 hp)
      | bk E2 => rw [es] at hp; exact hp
      | ct E2 => rw [es] at hp; exact hp
      | rt v => rw [es] at hp; exact hp
      | ex c z E2 => rw [es] at hp; exact hp
    have h2 : (∃ i, s = .frz i) ∨ ∀ i, s ≠ .frz i := by
      cases s <;> first | exact .inl ⟨_, rfl⟩ | exact .inr (fun _ z => by cases z)
    rcases h2 with ⟨i, rfl⟩ | hs
    · have hr := exes_ok w O po r (sts := sts) (by unfold chSs at h; exact h)
      intro E σ Gc Hc G H fps hH Dn hp
      replace hp : OutP X xr xw Gc Hc G Dn (match DP.lift E (rdS (E[i]?).join) (fun v => Out.nx (E.set i (some (.fr, v.2)))) with
        | .nx E2 => exes cal gl w r E2
        | .bk E2 => .bk E2
        | .ct E2 => .ct E2
        | .rt v => .rt v
        | .no => .no
        | .ex c x E2 => .ex c x E2) := hp
      cases es : rdS (E[i]?).join with
      | no => rw [es] at hp; exact False.elim hp
      | ex c x => exact absurd es rdS_ne
      | ok v =>
        rw [es] at hp
        obtain ⟨m, d⟩ := v
        obtain ⟨G2, s2, h2⟩ := hH.frz (rdS_ok es)
        exact hr _ σ Gc Hc G2 H _ h2 Dn (OutP.mono s2 hp)
    · cases sts with
      | nil =>
        unfold chSs at h
        cases s <;> first | (exact absurd rfl (hs _)) | (simp at h; done)
      | cons x xs =>
        refine step x xs rfl ?_
        unfold chSs at h
        cases s <;> first | (exact absurd rfl (hs _)) | exact h
end
end
end DP

namespace DP
open PySem PySem.Spec PyProof.Rows L2
theorem startE_get {n : Nat} {ds : List D} {i : Nat} {m : Mk} {d : D} (h : (startE n ds)[i]? = some (some (m, d))) : m = .fr ∧ ds[i]? = some d := by
  unfold startE at h
  by_cases c : i < ds.length
  · rw [List.getElem?_append_left (by simpa using c), List.getElem?_map] at h
    rw [List.getElem?_eq_getElem c] at h ⊢
    simp at h
    exact ⟨h.1.symm, by rw [h.2]⟩
  · rw [List.getElem?_append_right (by simpa using c), List.getElem?_replicate] at h
    split at h <;> simp at h
theorem start_get {N : List Str} {vs : List V} {i : Nat} {v : V} (h : vs[i]? = some v) : (L2.start N vs)[i]? = some (some v) := by
  have c := (List.getElem?_eq_some_iff.mp h).1
  unfold L2.start
  rw [List.getElem?_append_left (by simpa using c), List.getElem?_map, h]
  rfl
theorem holds_start {K : PySem.W.Frag} {G H : Hp} {N : List Str} {vs : List V} {ds : List D} (s : Same G H) (t : Datas K G vs ds) : Holds K G H G H (startE N.length ds) (L2.start N vs) (fun _ => []) := by
  refine ⟨Grow.refl s, fun i m d e => ?_, ?_, fun i => List.nodup_nil, (fun _ _ _ z => by cases z), (fun _ _ z => by cases z), (fun _ _ z => by cases z), (fun _ _ z => by cases z)⟩
  · obtain ⟨rfl, hd⟩ := startE_get e
    obtain ⟨v, hv, q⟩ := t.get hd
    exact ⟨.inl rfl, v, start_get hv, rfl, q⟩
  · have := t.length
    unfold L2.start startE
    simp [this]
theorem Got.norm {K : PySem.W.Frag} {G H G' H' : Hp} {m : Mk} {v : V} {d : D} {fp : List Addr} (g : Got K G H G' H' m v d fp) : ∃ G2 fq, Got K G H G2 H' (DP.norm (m, d)).1 v (DP.norm (m, d)).2 fq := by
  unfold DP.norm
  by_cases f : d.flat = true
  · simp only [f, if_true]
    exact ⟨_, [], Got.of_atom g.gr.withT (g.val.toFlat g.gr.sub f) f⟩
  · simp only [f, if_false]
    exact ⟨G', fp, g⟩
/-- a def of the text, at a -/
structure DefAt (K : PySem.W.Frag) (mg : Str → Option Value) (Ps : List Fn) (names gls : List Str) (gcd : Bool) (f : Nat) (x : Str) (a : Addr) (fd : FuncData) (ps : List Str) : Prop where
  ex : ∃ (N : List Str) (st : Stmt) (fn : Fn), Ps[f]? = some fn ∧ Fun K x x st a fd ∧ FnScope N ps (defScope st) ∧ fn.pars = ps.length ∧ fn.slots = N.length ∧ chSs ⟨N, defScope st, names, gls, fun _ => true, gcd⟩ fn.body (defBody st) = true
  mg : mg x = some (.ref a)
  bi : Binds K fd ps []
  kp : PySem.W.keepIn K (.ref a) = true
section
variable {P : Program} {w : World} {K : PySem.W.Frag} {mg : Str → Option Value} {base : Heap}
theorem fn_ok {Ps : List Fn} {names gls : List Str} {gcd : Bool} {gl : Nat → D} {wb : Nat} {xr : XRep} (hd : ∀ f x, names[f]? = some x → ∃ a fd ps, DefAt K mg Ps names gls gcd f x a fd ps)
    (hg : ∀ k x, gls[k]? = some x → ∃ u v, mg x = some u ∧ RelV v u ∧ Data K (fun _ => none) v (gl k)) (hgcd : gcd = true → mg "gcd" = some (.builtin "math.gcd")) (hb : ∀ s, s ∈ bltNames → mg (Str.ofString s) = none) :
    ∀ (n : Nat) (f : Nat) (x : Str) (a : Addr) (fd : FuncData) (ps : List Str), DefAt K mg Ps names gls gcd f x a fd ps → FnOk P w K mg base (L2.CX P w) n a fd ps (spOf K (callD Ps gl wb n) xr f)
  | 0, f, x, a, fd, ps, h => ⟨fun vs H Q E hs => by obtain ⟨_, _, _, _, z⟩ := hs; exact False.elim z, fun A outer s H args us vs Q E _ _ _ _ hs => by obtain ⟨_, _, _, _, z⟩ := hs; exact False.elim z⟩
  | n + 1, f, x, a, fd, ps, h => by
    obtain ⟨N, st, fn, e1, F, S, e2, e3, hc⟩ := h.ex
    have eq : ∀ ds, callD Ps gl wb (n + 1) f ds = runFn (callD Ps gl wb n) gl wb fn ds := fun ds => by
      show (match Ps[f]? with | some fn => runFn (callD Ps gl wb n) gl wb fn ds | none => .no) = _
      rw [e1]
    refine F.okX S (fun vs H Q E hs => ?_) (fun cdv A outer s H vs Q E hr hs => ?_)
    · obtain ⟨G, ds, sG, t, hp⟩ := hs
      rw [eq ds] at hp
      unfold runFn at hp
      by_cases c : ds.length = fn.pars
      · rw [t.length, c, e2]
      · rw [if_neg c] at hp; exact False.elim hp
    · obtain ⟨G, ds, sG, t, hp⟩ := hs
      rw [eq ds] at hp
      unfold runFn at hp
      by_cases c : ds.length = fn.pars
      · rw [if_pos c, e3] at hp
        let X : Cx := cxOf (L2.CX P w) P w K mg base N x (defScope st) a cdv A outer s H E
        let xw : WX := fun cls d _ H => E cls d H
        have O : XOk X ⟨N, defScope st, names, gls, fun _ => true, gcd⟩ (callD Ps gl wb n) gl xr xw :=
          { hN := rfl, hsc := rfl, nd := S.nd, calm := rfl, fl := fun _ _ => rfl
            un := by have := hr.un; show (A.deeper (envOfC x (defScope st) s.heap.objs.size a cdv)).units + 64 < cLine; omega
            un2 := by have := hr.un; show (A.deeper (envOfC x (defScope st) s.heap.objs.size a cdv)).units + 65 < cLine; omega
            fns := fun g y hy => by
              obtain ⟨b, fd', ps', D⟩ := hd g y hy
              exact ⟨b, fd', ps', n, D.mg, D.kp, D.bi, hr, fn_ok hd hg hgcd hb n g y b fd' ps' D⟩
            gls := hg
            gcd := hgcd
            blt := hb
            wish := fun σ => passAt (W := xw) (takes_of rfl rfl rfl rfl) σ }
        refine ⟨twSs X (defBody st), pss_tw, ?_⟩
        refine exes_ok wb O (passes_of rfl) fn.body hc _ _ G H G H _ (holds_start sG t) _ ?_
        cases eo : exes (callD Ps gl wb n) gl wb fn.body (startE N.length ds) with
        | no => rw [eo] at hp; exact False.elim hp
        | bk E' => rw [eo] at hp; exact False.elim hp
        | ct E' => rw [eo] at hp; exact False.elim hp
        | rt v =>
          rw [eo] at hp
          obtain ⟨m, d⟩ := v
          exact fun u G' H' fp g => by
            obtain ⟨G2, fq, g2⟩ := g.norm
            exact hp u G2 H' fq g2
        | nx E' => rw [eo] at hp; exact fun σ' G' H' fps _ hH => hp .non G' H' [] (Got.of_atom hH.gr .non rfl)
        | ex c y E' => rw [eo] at hp; exact fun σ' G' H' fps _ hH G2 H2 cls d g r => hp G2 H2 cls d (hH.gr.trans g) r
      · rw [if_neg c] at hp; exact False.elim hp
end
theorem datas_ints {K : PySem.W.Frag} {H : Hp} : ∀ ns : List Int, Datas K H (ns.map V.int) (ns.map D.int)
  | [] => .nil
  | n :: r => .cons (.int n) (datas_ints r)
/-- a law over it -/
def xr0 : XRep := fun _ _ _ _ _ => False
theorem law_walk {l : PySem.W.OpenLaw} {q : Program} {loose : List Str} {XP : (Str → Option Value) → Heap → Prop} {YP : World → Heap → Prop} {d : DefRec} {K : Params → PySem.W.Frag} {Ps : List Fn} {gl : Nat → D} {wb k f : Nat} {xr : XRep} (hn : l.most = some 63) (hdf : d.params.defaults = [])
    (hr : Room k callerA) (hY : ∀ (w : World) (h : Heap), YP w h → (K w.params).In h)
    (F : ∀ (w : World) (mg : Str → Option Value) (fa : Addr) (h : Heap), (K w.params).In h → h.Ns mainGlobals mg → mg d.name = some (.ref fa) →
      ∃ fd : FuncData, (∀ (s : Shared) (u : Value), BindsTo s fd ⟨[u], []⟩ [("script", u)]) ∧ ∀ base : Heap, (K w.params).In base → base.Ns mainGlobals mg → FnOk l.prog w (K w.params) mg base (L2.CX l.prog w) k fa fd ["script"] (spOf (K w.params) (callD Ps gl wb k) xr f))
    (hlaw : ∀ ns : List Int, ns.length ≤ 63 → ∃ m, callD Ps gl wb k f [.rls (ns.map .int)] = .ok (m, .bl true)) :
    PySem.W.WalkO q loose XP YP l.row.toRowW d [] (fun f vs => PySem.call f vs) :=
  L2.walk_of (n := 63) (k := k) (x := "script") (CX := fun w => L2.CX l.prog w) (sp := fun w => spOf (K w.params) (callD Ps gl wb k) xr f) hn (by decide) hdf hr hY F
    (fun w H a ns hl hO hS => by
      obtain ⟨m, e⟩ := hlaw ns hl
      refine ⟨H, [.rls (ns.map .int)], Same.refl _, .cons (.rls hS (datas_ints ns)) .nil, ?_⟩
      rw [e]
      exact fun v G' H' fp g => data_bl g.data) fun _ _ _ _ _ z => by
      obtain ⟨_, _, _, _, _, _, _, _, _, _, _, _, z⟩ := z
      exact z
end DP

namespace DP
open PySem PySem.Spec PyProof.Rows L2
section
variable {K : PySem.W.Frag} {mg : Str → Option Value}
theorem def_at {Ps : List Fn} {names gls : List Str} {gcd : Bool} {f : Nat} {x : Str} {a : Addr} {ps N : List Str} {st : Stmt} {fn : Fn} {oc : Value} {od an : Option Addr} {osl : Array (Option Value)} {kV doc pm cdv ct : Value}
    (e0 : Ps[f]? = some fn) (l : K.lookup a = some ⟨oc, od, .func (PySem.W.fnOf x x (defArgs st) (defBody st) (defScope st) .none kV doc pm an cdv ct), osl⟩) (c : PySem.W.codeIn K cdv x = true) (k : PySem.W.keepIn K (.ref a) = true) (hm : mg x = some (.ref a))
    (S : FnScope N ps (defScope st)) (e1 : fn.pars = ps.length) (e2 : fn.slots = N.length) (hc : chSs ⟨N, defScope st, names, gls, fun _ => true, gcd⟩ fn.body (defBody st) = true)
    (hb : ∀ (kV doc pm : Value) (an : Option Addr) (cdv ct : Value) (us : List Value), us.length = ps.length → bindArgs (PySem.W.fnOf x x (defArgs st) (defBody st) (defScope st) .none kV doc pm an cdv ct) ⟨us, []⟩ = pure (ps.zip us)) :
    DefAt K mg Ps names gls gcd f x a (PySem.W.fnOf x x (defArgs st) (defBody st) (defScope st) .none kV doc pm an cdv ct) ps :=
  have F := fun_mk (st := st) l c k
  ⟨⟨N, st, fn, e0, F, S, e1, e2, hc⟩, hm, F.binds hb, k⟩
/-- a tuple that the module's text has made -/
theorem gtup {a : Addr} {its : Array Value} {n : Nat} {sl : Array (Option Value)} {vs : List V} {ds : List D} (l : K.lookup a = some ⟨.type "tuple", none, .seq its n, sl⟩) (hz : its.size ≤ sizeLine) (hv : Vals vs its.toList) (hd : Datas K (fun _ => none) vs ds) : Data K (fun _ => none) (.ref a) (.tup ds) :=
  .tup (.inr ⟨_, its, n, l, rfl, rfl, hz, hv⟩) hd
theorem at_nil {Q : Nat → Str → Prop} {n : Nat} : ∀ f x, ([] : List Str)[f]? = some x → Q (n + f) x := fun f x h => by simp at h
theorem at_cons {Q : Nat → Str → Prop} {n : Nat} {y : Str} {r : List Str} (h0 : Q n y) (hr : ∀ f x, r[f]? = some x → Q (n + 1 + f) x) : ∀ f x, (y :: r)[f]? = some x → Q (n + f) x
  | 0, x, h => by cases h; exact h0
  | f + 1, x, h => by
    have := hr f x (by simpa using h)
    rw [show n + (f + 1) = n + 1 + f by omega]
    exact this
theorem at_0 {Q : Nat → Str → Prop} {names : List Str} (h : ∀ f x, names[f]? = some x → Q (0 + f) x) : ∀ f x, names[f]? = some x → Q f x := fun f x e => by
  have := h f x e
  rwa [Nat.zero_add] at this
theorem blt_nil {mg : Str → Option Value} : ∀ s, s ∈ ([] : List String) → mg (Str.ofString s) = none := fun _ h => by cases h
theorem blt_cons {mg : Str → Option Value} {y : String} {r : List String} (h : mg (Str.ofString y) = none) (hr : ∀ s, s ∈ r → mg (Str.ofString s) = none) : ∀ s, s ∈ y :: r → mg (Str.ofString s) = none := fun s hs => by
  rcases List.mem_cons.mp hs with rfl | hs
  · exact h
  · exact hr s hs
end
end DP

namespace DP
/-- a question by a truth value -/
structure BT (A B : Prop) : Type where
  u : Unit
def bt {A B : Prop} : BT A B := ⟨()⟩
def bq (k : Bool) (A B : Prop) (_ : BT A B) : Prop := (k = true → A) ∧ (k = false → B)
def bq0 (k : Bool) (A B : Prop) : Prop := (k = true → A) ∧ (k = false → B)
theorem un_b {k : Bool} {A B : Prop} {u : BT A B} : DP.bq k A B u = bq0 k A B := by exact Eq.trans rfl rfl
theorem bq_t {A B : Prop} : bq true A B bt = A := by simp [bq]
theorem bq_f {A B : Prop} : bq false A B bt = B := by simp [bq]
theorem bq_not {k : Bool} {A B : Prop} : bq (!k) A B bt = bq k B A bt := by cases k <;> simp [bq]
theorem bq_yes {p : Prop} [Decidable p] {A B : Prop} (h : p) : bq (decide p) A B bt = A := by simp [bq, h]
theorem bq_no {p : Prop} [Decidable p] {A B : Prop} (h : ¬ p) : bq (decide p) A B bt = B := by simp [bq, h]
theorem bq_dec {p : Prop} [Decidable p] {A B : Prop} : bq (decide p) A B bt = ((p → A) ∧ (¬ p → B)) := by by_cases h : p <;> simp [bq, h]
theorem bq_and {a b : Bool} {A B : Prop} : bq (a && b) A B bt = bq a (bq b A B bt) B bt := by cases a <;> cases b <;> simp [bq]
theorem bq_or {a b : Bool} {A B : Prop} : bq (a || b) A B bt = bq a A (bq b A B bt) bt := by cases a <;> cases b <;> simp [bq]
theorem bq_same {k : Bool} {A : Prop} (h : A) : bq k A A bt := ⟨fun _ => h, fun _ => h⟩

/-- it keeps simp out of what comes later -/
structure TG {α : Type} (Q : α → Prop) (X : Nat → D → Prop) : Type where
  u : Unit
def tg {α : Type} {Q : α → Prop} {X : Nat → D → Prop} : TG Q X := ⟨()⟩
def Rs.wp {α : Type} (r : Rs α) (Q : α → Prop) (X : Nat → D → Prop) (_ : TG Q X) : Prop := match r with
  | .no => False
  | .ok a => Q a
  | .ex c x => X c x
section
variable {α β : Type} {Q : α → Prop} {X : Nat → D → Prop}
theorem wp_ok {a : α} : (Rs.ok a).wp Q X tg = Q a := by exact Eq.trans rfl rfl
theorem wp_ex {c : Nat} {x : D} : (Rs.ex c x : Rs α).wp Q X tg = X c x := by exact Eq.trans rfl rfl
theorem wp_no : (Rs.no : Rs α).wp Q X tg = False := by exact Eq.trans rfl rfl
theorem wp_bind {r : Rs β} {k : β → Rs α} : (r.bind k).wp Q X tg = r.wp (fun a => (k a).wp Q X tg) X tg := by cases r <;> rfl
theorem wp_if {k : Bool} {r s : Rs α} : (if k then r else s).wp Q X tg = bq k (r.wp Q X tg) (s.wp Q X tg) bt := by cases k <;> simp [bq]
theorem wp_ifp {p : Prop} [Decidable p] {r s : Rs α} : (if p then r else s).wp Q X tg = bq (decide p) (r.wp Q X tg) (s.wp Q X tg) bt := by by_cases h : p <;> simp [bq, h]
theorem Rs.wp_mono {r : Rs α} {Q' : α → Prop} {X' : Nat → D → Prop} (h : r.wp Q X tg) (hq : ∀ a, Q a → Q' a) (hx : ∀ c x, X c x → X' c x) : r.wp Q' X' tg := by
  cases r with
  | no => exact h
  | ok a => exact hq a h
  | ex c x => exact hx c x h
theorem Rs.wp_of {r : Rs α} {a : α} (h : r = .ok a) (hq : Q a) : r.wp Q X tg := by rw [h]; exact hq
theorem Rs.wp_eq {r : Rs α} {a : α} (h : r.wp (fun b => b = a) (fun _ _ => False) tg) : r = .ok a := by
  cases r with
  | no => exact False.elim h
  | ok b => exact congrArg _ h
  | ex c x => exact False.elim h
theorem Rs.wp_ex_some {r : Rs α} (h : r.wp Q (fun _ _ => False) tg) : ∃ a, r = .ok a ∧ Q a := by
  cases r with
  | no => exact False.elim h
  | ok b => exact ⟨b, rfl, h⟩
  | ex c x => exact False.elim h
end
structure OG (N B C : Ev → Prop) (R : Vl → Prop) (X : Nat → D → Ev → Prop) : Type where
  u : Unit
def og {N B C : Ev → Prop} {R : Vl → Prop} {X : Nat → D → Ev → Prop} : OG N B C R X := ⟨()⟩
def Out.wp (o : Out) (N B C : Ev → Prop) (R : Vl → Prop) (X : Nat → D → Ev → Prop) (_ : OG N B C R X) : Prop := match o with
  | .no => False
  | .nx E => N E
  | .bk E => B E
  | .ct E => C E
  | .rt v => R v
  | .ex c x E => X c x E
section
variable {N B C : Ev → Prop} {R : Vl → Prop} {Y : Nat → D → Ev → Prop} {E : Ev}
theorem ow_nx : (Out.nx E).wp N B C R Y og = N E := by exact Eq.trans rfl rfl
theorem ow_bk : (Out.bk E).wp N B C R Y og = B E := by exact Eq.trans rfl rfl
theorem ow_ct : (Out.ct E).wp N B C R Y og = C E := by exact Eq.trans rfl rfl
theorem ow_rt {v : Vl} : (Out.rt v).wp N B C R Y og = R v := by exact Eq.trans rfl rfl
theorem ow_no : (Out.no).wp N B C R Y og = False := by exact Eq.trans rfl rfl
theorem ow_ex {c : Nat} {x : D} : (Out.ex c x E).wp N B C R Y og = Y c x E := by exact Eq.trans rfl rfl
theorem ow_lift {α : Type} {r : Rs α} {k : α → Out} : (lift E r k).wp N B C R Y og = r.wp (fun a => (k a).wp N B C R Y og) (fun c x => Y c x E) tg := by cases r <;> rfl
theorem ow_if {k : Bool} {r s : Out} : (if k then r else s).wp N B C R Y og = bq k (r.wp N B C R Y og) (s.wp N B C R Y og) bt := by cases k <;> simp [bq]
theorem Out.wp_mono {o : Out} {N' B' C' : Ev → Prop} {R' : Vl → Prop} {Y' : Nat → D → Ev → Prop} (h : o.wp N B C R Y og) (hn : ∀ E, N E → N' E) (hb : ∀ E, B E → B' E) (hc : ∀ E, C E → C' E) (hr : ∀ E, R E → R' E) (hy : ∀ c x E, Y c x E → Y' c x E) : o.wp N' B' C' R' Y' og := by
  cases o with
  | no => exact h
  | nx E => exact hn E h
  | bk E => exact hb E h
  | ct E => exact hc E h
  | rt v => exact hr v h
  | ex c x E => exact hy c x E h
end

def wp0 {α : Type} (r : Rs α) (Q : α → Prop) (X : Nat → D → Prop) : Prop := match r with
  | .no => False
  | .ok a => Q a
  | .ex c x => X c x
def ow0 (o : Out) (N B C : Ev → Prop) (R : Vl → Prop) (X : Nat → D → Ev → Prop) : Prop := match o with
  | .no => False
  | .nx E => N E
  | .bk E => B E
  | .ct E => C E
  | .rt v => R v
  | .ex c x E => X c x E
theorem un_r {α : Type} {r : Rs α} {Q : α → Prop} {X : Nat → D → Prop} {u : TG Q X} : @Rs.wp α r Q X u = wp0 r Q X := by exact Eq.trans rfl rfl
theorem un_o {o : Out} {N B C : Ev → Prop} {R : Vl → Prop} {X : Nat → D → Ev → Prop} {u : OG N B C R X} : @Out.wp o N B C R X u = ow0 o N B C R X := by exact Eq.trans rfl rfl
section
variable {α β : Type} {Q : α → Prop} {X : Nat → D → Prop}
theorem wp_ok0 {a : α} : wp0 (Rs.ok a) Q X = Q a := by exact Eq.trans rfl rfl
theorem wp_no0 : wp0 (Rs.no : Rs α) Q X = False := by exact Eq.trans rfl rfl
theorem wp_bind0 {r : Rs β} {k : β → Rs α} : wp0 (r.bind k) Q X = wp0 r (fun a => wp0 (k a) Q X) X := by cases r <;> rfl
theorem wp_if0 {k : Bool} {r s : Rs α} : wp0 (if k then r else s) Q X = bq0 k (wp0 r Q X) (wp0 s Q X) := by cases k <;> simp [bq0]
end
section
variable {N B C : Ev → Prop} {R : Vl → Prop} {Y : Nat → D → Ev → Prop} {E : Ev}
theorem ow_nx0 : ow0 (Out.nx E) N B C R Y = N E := by exact Eq.trans rfl rfl
theorem ow_bk0 : ow0 (Out.bk E) N B C R Y = B E := by exact Eq.trans rfl rfl
theorem ow_ct0 : ow0 (Out.ct E) N B C R Y = C E := by exact Eq.trans rfl rfl
theorem ow_rt0 {v : Vl} : ow0 (Out.rt v) N B C R Y = R v := by exact Eq.trans rfl rfl
theorem ow_no0 : ow0 (Out.no) N B C R Y = False := by exact Eq.trans rfl rfl
theorem ow_lift0 {α : Type} {r : Rs α} {k : α → Out} : ow0 (lift E r k) N B C R Y = wp0 r (fun a => ow0 (k a) N B C R Y) (fun c x => Y c x E) := by cases r <;> rfl
theorem ow_if0 {k : Bool} {r s : Out} : ow0 (if k then r else s) N B C R Y = bq0 k (ow0 r N B C R Y) (ow0 s N B C R Y) := by cases k <;> simp [bq0]
end

/-! ### slots -/
def getV : Ev → Nat → Rs Vl
  | [], _ => .no
  | some (m, d) :: _, 0 => .ok (rdV m, d)
  | none :: _, 0 => .no
  | _ :: r, i + 1 => getV r i
theorem getV_0 {m : Mk} {d : D} {E : Ev} : getV (some (m, d) :: E) 0 = .ok (rdV m, d) := by exact Eq.trans rfl rfl
theorem getV_s {s : Slot} {E : Ev} {i : Nat} : getV (s :: E) (i + 1) = getV E i := by cases s <;> rfl
def getS : Ev → Nat → Slot
  | [], _ => none
  | s :: _, 0 => s
  | _ :: r, i + 1 => getS r i
theorem getS_0 {s : Slot} {E : Ev} : getS (s :: E) 0 = s := by exact Eq.trans rfl rfl
theorem getS_s {s : Slot} {E : Ev} {i : Nat} : getS (s :: E) (i + 1) = getS E i := by exact Eq.trans rfl rfl
theorem getS_eq : ∀ (E : Ev) (i : Nat), (E[i]?).join = getS E i
  | [], i => by simp [getS]
  | s :: r, 0 => by simp [getS]
  | s :: r, i + 1 => by simp [getS, getS_eq r i]
theorem getV_eq {cal : Nat → List D → Rs Vl} {gl : Nat → D} : ∀ (E : Ev) (i : Nat), den cal gl (.var i) E = getV E i
  | [], i => by simp [den, getV]
  | none :: r, 0 => by simp [den, getV]
  | some (m, d) :: r, 0 => by simp [den, getV]
  | s :: r, i + 1 => by
    have := getV_eq (cal := cal) (gl := gl) r i
    simp only [un_r, un_o, un_b, den] at this
    rw [getV_s, ← this]
    simp [den]
def bindW (p : Pat) (d : D) (E : Ev) (Q : Ev → Prop) : Prop := match bindP p d E with
  | some E1 => Q E1
  | none => False
theorem bindW_nm {i : Nat} {d : D} {E : Ev} {Q : Ev → Prop} : bindW (.nm i) d E Q = Q (E.set i (some (.fr, d))) := by exact Eq.trans rfl rfl
theorem bindW_tp {is : List Nat} {ds : List D} {E : Ev} {Q : Ev → Prop} : bindW (.tp is) (.tup ds) E Q = (is.length = ds.length ∧ Q (setAll is ds E)) := by
  unfold bindW bindP
  by_cases h : is.length = ds.length <;> simp [h]
theorem setAll_c {i : Nat} {is : List Nat} {d : D} {ds : List D} {E : Ev} : setAll (i :: is) (d :: ds) E = setAll is ds (E.set i (some (.fr, d))) := by exact Eq.trans rfl rfl
theorem setAll_n {E : Ev} : setAll [] [] E = E := by exact Eq.trans rfl rfl
theorem bindW_ok {p : Pat} {d : D} {E : Ev} {Q : Ev → Prop} (h : bindW p d E Q) : ∃ E1, bindP p d E = some E1 ∧ Q E1 := by
  unfold bindW at h
  cases e : bindP p d E with
  | none => rw [e] at h; exact h.elim
  | some E1 => rw [e] at h; exact ⟨E1, rfl, h⟩

section
variable {cal : Nat → List D → Rs Vl} {gl : Nat → D} {Q : Vl → Prop} {X : Nat → D → Prop} {E : Ev}
theorem w_var {i : Nat} : (den cal gl (.var i) E).wp Q X tg = (getV E i).wp Q X tg := by rw [getV_eq]
theorem w_cst {d : D} : (den cal gl (.cst d) E).wp Q X tg = Q (.fu, d) := by exact Eq.trans rfl rfl
theorem w_gl {k : Nat} : (den cal gl (.gl k) E).wp Q X tg = Q (.fr, gl k) := by exact Eq.trans rfl rfl
theorem w_bin {op : Op} {a b : Ex} : (den cal gl (.bin op a b) E).wp Q X tg = (den cal gl a E).wp (fun x => (den cal gl b E).wp (fun y => (binD op x.2 y.2).wp (fun d => Q (binM x.1 y.1 d, d)) X tg) X tg) X tg := by simp only [un_r, un_o, un_b, den, wp_bind0, wp_ok0]
theorem w_neg {a : Ex} : (den cal gl (.neg a) E).wp Q X tg = (den cal gl a E).wp (fun x => (negD x.2).wp Q X tg) X tg := by simp only [un_r, un_o, un_b, den, wp_bind0, wp_ok0]
theorem w_cmp {op : Cm} {a b : Ex} : (den cal gl (.cmp op a b) E).wp Q X tg = (den cal gl a E).wp (fun x => (den cal gl b E).wp (fun y => (cmpD op x.2 y.2).wp (fun c => Q (.fu, .bl c)) X tg) X tg) X tg := by simp only [un_r, un_o, un_b, den, wp_bind0, wp_ok0]
theorem w_chain {o1 o2 : Cm} {a b c : Ex} : (den cal gl (.chain o1 o2 a b c) E).wp Q X tg = (den cal gl a E).wp (fun x => (den cal gl b E).wp (fun y => (cmpD o1 x.2 y.2).wp (fun k => bq k ((den cal gl c E).wp (fun z => (cmpD o2 y.2 z.2).wp (fun k2 => Q (.fu, .bl k2)) X tg) X tg) (Q (.fu, .bl false)) bt) X tg) X tg) X tg := by simp only [un_r, un_o, un_b, den, wp_bind0, wp_ok0, wp_if0]
theorem w_isN {a : Ex} : (den cal gl (.isN a) E).wp Q X tg = (den cal gl a E).wp (fun x => Q (.fu, .bl (isNon x.2))) X tg := by simp only [un_r, un_o, un_b, den, wp_bind0, wp_ok0]
theorem w_notN {a : Ex} : (den cal gl (.notN a) E).wp Q X tg = (den cal gl a E).wp (fun x => Q (.fu, .bl (!isNon x.2))) X tg := by simp only [un_r, un_o, un_b, den, wp_bind0, wp_ok0]
theorem w_and {es : List Ex} : (den cal gl (.and_ es) E).wp Q X tg = (denAnd cal gl es E).wp Q X tg := by simp only [un_r, un_o, un_b, den]
theorem w_or {es : List Ex} : (den cal gl (.or_ es) E).wp Q X tg = (denOr cal gl es E).wp Q X tg := by simp only [un_r, un_o, un_b, den]
theorem wp_boolD {d : D} {f : Bool → Rs Vl} : (boolD d f).wp Q X tg = (match d with | .bl b => (f b).wp Q X tg | _ => False) := by cases d <;> rfl
theorem w_and1 {a : Ex} : (denAnd cal gl [a] E).wp Q X tg = (den cal gl a E).wp Q X tg := by
  simp only [un_r, un_o, un_b, denAnd, wp_bind0, wp_ok0]
def boolW (d : D) (f : Bool → Prop) : Prop := match d with
  | .bl b => f b
  | _ => False
theorem boolW_bl {b : Bool} {f : Bool → Prop} : boolW (.bl b) f = f b := by exact Eq.trans rfl rfl
theorem wp_boolD0 {d : D} {f : Bool → Rs Vl} : wp0 (boolD d f) Q X = boolW d (fun b => wp0 (f b) Q X) := by cases d <;> rfl
theorem wp_boolD' {d : D} {f : Bool → Rs Vl} : (boolD d f).wp Q X tg = boolW d (fun b => (f b).wp Q X tg) := by cases d <;> rfl
theorem w_and2 {a b : Ex} {r : List Ex} : (denAnd cal gl (a :: b :: r) E).wp Q X tg = (den cal gl a E).wp (fun x => boolW x.2 fun k => bq k ((denAnd cal gl (b :: r) E).wp Q X tg) (Q (.fu, .bl false)) bt) X tg := by
  rw [denAnd.eq_2]
  simp only [un_r, un_o, un_b, wp_bind0, wp_ok0, wp_if0, wp_boolD0]
theorem w_or1 {a : Ex} : (denOr cal gl [a] E).wp Q X tg = (den cal gl a E).wp Q X tg := by
  simp only [un_r, un_o, un_b, denOr, wp_bind0, wp_ok0]
theorem w_or2 {a b : Ex} {r : List Ex} : (denOr cal gl (a :: b :: r) E).wp Q X tg = (den cal gl a E).wp (fun x => boolW x.2 fun k => bq k (Q (.fu, .bl true)) ((denOr cal gl (b :: r) E).wp Q X tg) bt) X tg := by
  rw [denOr.eq_2]
  simp only [un_r, un_o, un_b, wp_bind0, wp_ok0, wp_if0, wp_boolD0]
theorem w_not {a : Ex} : (den cal gl (.not_ a) E).wp Q X tg = (den cal gl a E).wp (fun x => (truD x.2).wp (fun b => Q (.fu, .bl (!b))) X tg) X tg := by simp only [un_r, un_o, un_b, den, wp_bind0, wp_ok0]
theorem w_ite {c : Tx} {a b : Ex} : (den cal gl (.ite c a b) E).wp Q X tg = (tst cal gl c E).wp (fun k => bq k ((den cal gl a E).wp Q X tg) ((den cal gl b E).wp Q X tg) bt) X tg := by simp only [un_r, un_o, un_b, den, wp_bind0, wp_ok0, wp_if0]
theorem w_lst {k : Bool} {es : List Ex} : (den cal gl (.lst k es) E).wp Q X tg = (dens cal gl es E).wp (fun vs => (lstV k vs).wp Q X tg) X tg := by simp only [un_r, un_o, un_b, den, wp_bind0]
theorem w_tup {es : List Ex} : (den cal gl (.tup es) E).wp Q X tg = (dens cal gl es E).wp (fun vs => (tupV vs).wp Q X tg) X tg := by simp only [un_r, un_o, un_b, den, wp_bind0]
theorem w_idx {a b : Ex} : (den cal gl (.idx a b) E).wp Q X tg = (den cal gl a E).wp (fun x => (den cal gl b E).wp (fun y => (idxD x.2 y.2).wp (fun d => Q (partM x.1 d, d)) X tg) X tg) X tg := by simp only [un_r, un_o, un_b, den, wp_bind0, wp_ok0]
theorem w_slc {a lo hi : Ex} : (den cal gl (.slc a lo hi) E).wp Q X tg = (den cal gl a E).wp (fun x => (den cal gl lo E).wp (fun l => (optI lo l.2).wp (fun l' => (den cal gl hi E).wp (fun h => (optI hi h.2).wp (fun h' => (slcV x l' h').wp Q X tg) X tg) X tg) X tg) X tg) X tg := by simp only [un_r, un_o, un_b, den, wp_bind0, wp_ok0]
theorem w_rev {a : Ex} : (den cal gl (.rev a) E).wp Q X tg = (den cal gl a E).wp (fun x => (revV x).wp Q X tg) X tg := by simp only [un_r, un_o, un_b, den, wp_bind0]
theorem w_call {f : Nat} {es : List Ex} : (den cal gl (.call f es) E).wp Q X tg = (dens cal gl es E).wp (fun vs => (cal f (vs.map (·.2))).wp (fun r => Q (callM vs r)) X tg) X tg := by simp only [un_r, un_o, un_b, den, wp_bind0, wp_ok0]
theorem w_bi {b : Bi} {es : List Ex} : (den cal gl (.bi b es) E).wp Q X tg = (dens cal gl es E).wp (fun vs => (biD b vs).wp Q X tg) X tg := by simp only [un_r, un_o, un_b, den, wp_bind0]
theorem w_mt1 {b : Mt} {o a : Ex} : (den cal gl (.mt1 b o a) E).wp Q X tg = (den cal gl o E).wp (fun x => (rcvD b x.2).wp (fun _ => (den cal gl a E).wp (fun y => (mtD1 b x y).wp Q X tg) X tg) X tg) X tg := by simp only [un_r, un_o, un_b, den, wp_bind0]
theorem w_isi {a : Ex} {ts : List Ty} : (den cal gl (.isi a ts) E).wp Q X tg = (den cal gl a E).wp (fun x => (tyD ts x.2).wp (fun k => Q (.fu, .bl k)) X tg) X tg := by simp only [un_r, un_o, un_b, den, wp_bind0, wp_ok0]
theorem w_comp {k : Bool} {el : Ex} {p : Pat} {it : Ix} {own : List Nat} {ifs : List Tx} : (den cal gl (.comp k el p it own ifs) E).wp Q X tg = (iter cal gl true it E).wp (fun ds => (compV k (compD (fun d => bindP p d (wipeE own E)) (tsts cal gl ifs) (den cal gl el) ds)).wp Q X tg) X tg := by simp only [un_r, un_o, un_b, den, wp_bind0]
theorem w_dcomp {kx vx : Ex} {p : Pat} {it : Ix} {own : List Nat} {ifs : List Tx} : (den cal gl (.dcomp kx vx p it own ifs) E).wp Q X tg = (iter cal gl true it E).wp (fun ds => (dcV (dcompD (fun d => bindP p d (wipeE own E)) (tsts cal gl ifs) (den cal gl kx) (den cal gl vx) ds [] [])).wp Q X tg) X tg := by simp only [un_r, un_o, un_b, den, wp_bind0]
theorem w_dic0 : (den cal gl .dic0 E).wp Q X tg = Q (.sh, .dic [] []) := by simp only [un_r, un_o, un_b, den, wp_ok0]
theorem w_dn {Q : List Vl → Prop} : (dens cal gl [] E).wp Q X tg = Q [] := by simp only [un_r, un_o, un_b, dens, wp_ok0]
theorem w_dc {Q : List Vl → Prop} {e : Ex} {es : List Ex} : (dens cal gl (e :: es) E).wp Q X tg = (den cal gl e E).wp (fun v => (dens cal gl es E).wp (fun vs => Q (v :: vs)) X tg) X tg := by simp only [un_r, un_o, un_b, dens, wp_bind0, wp_ok0]
end
section
variable {cal : Nat → List D → Rs Vl} {gl : Nat → D} {Q : Bool → Prop} {X : Nat → D → Prop} {E : Ev}
theorem t_val {e : Ex} : (tst cal gl (.val e) E).wp Q X tg = (den cal gl e E).wp (fun x => (truD x.2).wp Q X tg) X tg := by simp only [un_r, un_o, un_b, tst, wp_bind0]
theorem t_cmp {op : Cm} {a b : Ex} : (tst cal gl (.cmp op a b) E).wp Q X tg = (den cal gl a E).wp (fun x => (den cal gl b E).wp (fun y => (cmpD op x.2 y.2).wp Q X tg) X tg) X tg := by simp only [un_r, un_o, un_b, tst, wp_bind0]
theorem t_chain {o1 o2 : Cm} {a b c : Ex} : (tst cal gl (.chain o1 o2 a b c) E).wp Q X tg = (den cal gl a E).wp (fun x => (den cal gl b E).wp (fun y => (cmpD o1 x.2 y.2).wp (fun k => bq k ((den cal gl c E).wp (fun z => (cmpD o2 y.2 z.2).wp Q X tg) X tg) (Q false) bt) X tg) X tg) X tg := by simp only [un_r, un_o, un_b, tst, wp_bind0, wp_ok0, wp_if0]
theorem t_isN {a : Ex} : (tst cal gl (.isN a) E).wp Q X tg = (den cal gl a E).wp (fun x => Q (isNon x.2)) X tg := by simp only [un_r, un_o, un_b, tst, wp_bind0, wp_ok0]
theorem t_notN {a : Ex} : (tst cal gl (.notN a) E).wp Q X tg = (den cal gl a E).wp (fun x => Q (!isNon x.2)) X tg := by simp only [un_r, un_o, un_b, tst, wp_bind0, wp_ok0]
theorem t_not {t : Tx} : (tst cal gl (.not_ t) E).wp Q X tg = (tst cal gl t E).wp (fun k => Q (!k)) X tg := by simp only [un_r, un_o, un_b, tst, wp_bind0, wp_ok0]
theorem t_and {ts : List Tx} : (tst cal gl (.and_ ts) E).wp Q X tg = (tstAnd cal gl ts E).wp Q X tg := by simp only [un_r, un_o, un_b, tst]
theorem t_or {ts : List Tx} : (tst cal gl (.or_ ts) E).wp Q X tg = (tstOr cal gl ts E).wp Q X tg := by simp only [un_r, un_o, un_b, tst]
theorem t_and1 {a : Tx} : (tstAnd cal gl [a] E).wp Q X tg = (tst cal gl a E).wp Q X tg := by
  rw [tstAnd.eq_2]; simp only [un_r, un_o, un_b, wp_bind0, wp_ok0]
theorem t_and2 {a b : Tx} {r : List Tx} : (tstAnd cal gl (a :: b :: r) E).wp Q X tg = (tst cal gl a E).wp (fun k => bq k ((tstAnd cal gl (b :: r) E).wp Q X tg) (Q false) bt) X tg := by
  rw [tstAnd.eq_2]; simp only [un_r, un_o, un_b, wp_bind0, wp_ok0, wp_if0]
theorem t_or1 {a : Tx} : (tstOr cal gl [a] E).wp Q X tg = (tst cal gl a E).wp Q X tg := by
  rw [tstOr.eq_2]; simp only [un_r, un_o, un_b, wp_bind0, wp_ok0]
theorem t_or2 {a b : Tx} {r : List Tx} : (tstOr cal gl (a :: b :: r) E).wp Q X tg = (tst cal gl a E).wp (fun k => bq k (Q true) ((tstOr cal gl (b :: r) E).wp Q X tg) bt) X tg := by
  rw [tstOr.eq_2]; simp only [un_r, un_o, un_b, wp_bind0, wp_ok0, wp_if0]
theorem ts_n : (tsts cal gl [] E).wp Q X tg = Q true := by simp only [un_r, un_o, un_b, tsts, wp_ok0]
theorem ts_1 {t : Tx} : (tsts cal gl [t] E).wp Q X tg = (tst cal gl t E).wp Q X tg := by simp only [un_r, un_o, un_b, tsts]
end
section
variable {cal : Nat → List D → Rs Vl} {gl : Nat → D} {Q : List D → Prop} {X : Nat → D → Prop} {E : Ev}
theorem i_val {c : Bool} {e : Ex} : (iter cal gl c (.val e) E).wp Q X tg = (den cal gl e E).wp (fun x => (iterD c x).wp Q X tg) X tg := by simp only [un_r, un_o, un_b, iter, wp_bind0]
theorem i_rng1 {c : Bool} {a : Ex} : (iter cal gl c (.rng1 a) E).wp Q X tg = (den cal gl a E).wp (fun x => (rngD (.int 0) x.2).wp Q X tg) X tg := by simp only [un_r, un_o, un_b, iter, wp_bind0]
theorem i_rng2 {c : Bool} {a b : Ex} : (iter cal gl c (.rng2 a b) E).wp Q X tg = (den cal gl a E).wp (fun x => (den cal gl b E).wp (fun y => (rngD x.2 y.2).wp Q X tg) X tg) X tg := by simp only [un_r, un_o, un_b, iter, wp_bind0]
theorem i_enum {c : Bool} {a : Ex} : (iter cal gl c (.enum a) E).wp Q X tg = (den cal gl a E).wp (fun x => (enumD x).wp Q X tg) X tg := by simp only [un_r, un_o, un_b, iter, wp_bind0]
theorem i_zip {c : Bool} {a b : Ex} : (iter cal gl c (.zip a b) E).wp Q X tg = (den cal gl a E).wp (fun x => (den cal gl b E).wp (fun y => (zipD x y).wp Q X tg) X tg) X tg := by simp only [un_r, un_o, un_b, iter, wp_bind0]
theorem i_revd {c : Bool} {a : Ex} : (iter cal gl c (.revd a) E).wp Q X tg = (den cal gl a E).wp (fun x => (revdD x).wp Q X tg) X tg := by simp only [un_r, un_o, un_b, iter, wp_bind0]
end
section
variable {cal : Nat → List D → Rs Vl} {gl : Nat → D} {w : Nat} {N B C : Ev → Prop} {R : Vl → Prop} {Y : Nat → D → Ev → Prop} {E : Ev}
theorem s_nil : (exes cal gl w [] E).wp N B C R Y og = N E := by simp only [un_r, un_o, un_b, exes, ow_nx0]
theorem s_cons {s : St} {r : List St} : (exes cal gl w (s :: r) E).wp N B C R Y og = (exe cal gl w s E).wp (fun E => (exes cal gl w r E).wp N B C R Y og) B C R Y og := by
  rw [exes.eq_2]
  cases exe cal gl w s E <;> rfl
theorem s_set {i : Nat} {e : Ex} : (exe cal gl w (.set i e) E).wp N B C R Y og = (den cal gl e E).wp (fun v => (shared v).wp (fun u => N (E.set i (some u))) (fun c x => Y c x E) tg) (fun c x => Y c x E) tg := by simp only [un_r, un_o, un_b, exe, ow_lift0, ow_nx0]
theorem s_own {i : Nat} {e : Ex} : (exe cal gl w (.own i e) E).wp N B C R Y og = (den cal gl e E).wp (fun v => (owned v).wp (fun u => N (E.set i (some u))) (fun c x => Y c x E) tg) (fun c x => Y c x E) tg := by simp only [un_r, un_o, un_b, exe, ow_lift0, ow_nx0]
theorem s_par {is : List Nat} {es : List Ex} : (exe cal gl w (.par is es) E).wp N B C R Y og = (dens cal gl es E).wp (fun vs => (parD is.length vs).wp (fun ds => N (setAll is ds E)) (fun c x => Y c x E) tg) (fun c x => Y c x E) tg := by simp only [un_r, un_o, un_b, exe, ow_lift0, ow_nx0]
theorem s_unp {is : List Nat} {e : Ex} : (exe cal gl w (.unp is e) E).wp N B C R Y og = (den cal gl e E).wp (fun v => (unpD is.length v).wp (fun ds => N (setAll is ds E)) (fun c x => Y c x E) tg) (fun c x => Y c x E) tg := by simp only [un_r, un_o, un_b, exe, ow_lift0, ow_nx0]
theorem s_aug {i : Nat} {op : Op} {e : Ex} : (exe cal gl w (.aug i op e) E).wp N B C R Y og = (rdS (getS E i)).wp (fun x => (den cal gl e E).wp (fun v => (augD op x.2 v.2).wp (fun d => N (E.set i (some (.fr, d)))) (fun c x => Y c x E) tg) (fun c x => Y c x E) tg) (fun c x => Y c x E) tg := by simp only [un_r, un_o, un_b, exe, ow_lift0, ow_nx0, getS_eq]
theorem s_apd {i : Nat} {e : Ex} : (exe cal gl w (.app i e) E).wp N B C R Y og = (ownL (getS E i)).wp (fun _ => (den cal gl e E).wp (fun v => (appD (getS E i) v).wp (fun u => N (E.set i (some u))) (fun c x => Y c x E) tg) (fun c x => Y c x E) tg) (fun c x => Y c x E) tg := by simp only [un_r, un_o, un_b, exe, ow_lift0, ow_nx0, getS_eq]
theorem s_put {i : Nat} {k e : Ex} : (exe cal gl w (.put i k e) E).wp N B C R Y og = (den cal gl e E).wp (fun v => (ownL (getS E i)).wp (fun _ => (den cal gl k E).wp (fun x => (putD (getS E i) x.2 v).wp (fun u => N (E.set i (some u))) (fun c x => Y c x E) tg) (fun c x => Y c x E) tg) (fun c x => Y c x E) tg) (fun c x => Y c x E) tg := by simp only [un_r, un_o, un_b, exe, ow_lift0, ow_nx0, getS_eq]
theorem s_exp {e : Ex} : (exe cal gl w (.exp e) E).wp N B C R Y og = (den cal gl e E).wp (fun v => N E) (fun c x => Y c x E) tg := by simp only [un_r, un_o, un_b, exe, ow_lift0, ow_nx0]
theorem s_ret {e : Ex} : (exe cal gl w (.ret e) E).wp N B C R Y og = (den cal gl e E).wp (fun v => (given v).wp R (fun c x => Y c x E) tg) (fun c x => Y c x E) tg := by simp only [un_r, un_o, un_b, exe, ow_lift0]; rfl
theorem s_retV {i : Nat} : (exe cal gl w (.retV i) E).wp N B C R Y og = (rdS (getS E i)).wp R (fun c x => Y c x E) tg := by simp only [un_r, un_o, un_b, exe, ow_lift0, getS_eq]; rfl
theorem s_retN : (exe cal gl w .retN E).wp N B C R Y og = R (.fu, .non) := by simp only [un_r, un_o, un_b, exe, ow_rt0]
theorem s_ite {c : Tx} {a b : List St} : (exe cal gl w (.ite c a b) E).wp N B C R Y og = (tst cal gl c E).wp (fun k => bq k ((exes cal gl w a E).wp N B C R Y og) ((exes cal gl w b E).wp N B C R Y og) bt) (fun c x => Y c x E) tg := by simp only [un_r, un_o, un_b, exe, ow_lift0, ow_if0]
theorem s_for {p : Pat} {it : Ix} {body : List St} : (exe cal gl w (.for_ p it body) E).wp N B C R Y og = (iter cal gl false it E).wp (fun ds => (forD (bindP p) (exes cal gl w body) ds E).wp N B C R Y og) (fun c x => Y c x E) tg := by simp only [un_r, un_o, un_b, exe, ow_lift0]
theorem s_whl {c : Tx} {body : List St} : (exe cal gl w (.whl c body) E).wp N B C R Y og = (whlD (tst cal gl c) (exes cal gl w body) w E).wp N B C R Y og := by simp only [un_r, un_o, un_b, exe]
theorem s_brk : (exe cal gl w .brk E).wp N B C R Y og = B E := by simp only [un_r, un_o, un_b, exe, ow_bk0]
theorem s_cnt : (exe cal gl w .cnt E).wp N B C R Y og = C E := by simp only [un_r, un_o, un_b, exe, ow_ct0]
theorem s_pas : (exe cal gl w .pas E).wp N B C R Y og = N E := by simp only [un_r, un_o, un_b, exe, ow_nx0]
theorem s_frz {i : Nat} : (exe cal gl w (.frz i) E).wp N B C R Y og = (rdS (getS E i)).wp (fun v => N (E.set i (some (.fr, v.2)))) (fun c x => Y c x E) tg := by simp only [un_r, un_o, un_b, exe, ow_lift0, ow_nx0, getS_eq]
theorem s_nev : (exe cal gl w .nev E).wp N B C R Y og = False := by simp only [un_r, un_o, un_b, exe, ow_no0]
theorem s_mtc {e : Ex} {m : Ms} : (exe cal gl w (.mtc e m) E).wp N B C R Y og = (den cal gl e E).wp (fun v => (exeM cal gl w m v.2 E).wp N B C R Y og) (fun c x => Y c x E) tg := by simp only [un_r, un_o, un_b, exe, ow_lift0]
theorem m_nil {d : D} : (exeM cal gl w .nil d E).wp N B C R Y og = N E := by simp only [un_r, un_o, un_b, exeM, ow_nx0]
theorem m_cons {l : List (List Nat)} {body : List St} {rest : Ms} {s : List Nat} : (exeM cal gl w (.cons l body rest) (.str s) E).wp N B C R Y og = bq (l.isEmpty || l.contains s) ((exes cal gl w body E).wp N B C R Y og) ((exeM cal gl w rest (.str s) E).wp N B C R Y og) bt := by simp only [un_r, un_o, un_b, exeM, ow_if0]
theorem m_one {a : List Nat} {body : List St} {rest : Ms} {s : List Nat} : (exeM cal gl w (.cons [a] body rest) (.str s) E).wp N B C R Y og = bq (decide (s = a)) ((exes cal gl w body E).wp N B C R Y og) ((exeM cal gl w rest (.str s) E).wp N B C R Y og) bt := by
  rw [m_cons]
  have e : ([a].isEmpty || [a].contains s) = decide (s = a) := by simp
  rw [e]
theorem m_two {a b : List Nat} {body : List St} {rest : Ms} {s : List Nat} : (exeM cal gl w (.cons [a, b] body rest) (.str s) E).wp N B C R Y og = bq (decide (s = a) || decide (s = b)) ((exes cal gl w body E).wp N B C R Y og) ((exeM cal gl w rest (.str s) E).wp N B C R Y og) bt := by
  rw [m_cons]
  have e : ([a, b].isEmpty || [a, b].contains s) = (decide (s = a) || decide (s = b)) := by simp
  rw [e]
theorem m_any {body : List St} {rest : Ms} {s : List Nat} : (exeM cal gl w (.cons [] body rest) (.str s) E).wp N B C R Y og = (exes cal gl w body E).wp N B C R Y og := by
  rw [m_cons]
  exact bq_t
end

/-! ### values -/
section
variable {Q : D → Prop} {X : Nat → D → Prop}
theorem b_addI {a b : Int} : (binD .add (.int a) (.int b)).wp Q X tg = Q (.int (a + b)) := by exact Eq.trans rfl rfl
theorem b_subI {a b : Int} : (binD .sub (.int a) (.int b)).wp Q X tg = Q (.int (a - b)) := by exact Eq.trans rfl rfl
theorem b_addS {a b : List Nat} (h : a.length + b.length ≤ SZ) : (binD .add (.str a) (.str b)).wp Q X tg = Q (.str (a ++ b)) := by simp only [un_r, un_o, un_b, binD, h, if_true, wp_ok0]
theorem b_addL {a b : List D} (h : a.length + b.length ≤ SZ) : (binD .add (.lst a) (.lst b)).wp Q X tg = Q (.lst (a ++ b)) := by simp only [un_r, un_o, un_b, binD, h, if_true, wp_ok0]
theorem big_of {a : Int} (h : -18446744073709551616 < a ∧ a < 18446744073709551616) : big a = true := by simp [big, h.1, h.2]
theorem b_mulI {a b : Int} (h : (-18446744073709551616 < a ∧ a < 18446744073709551616) ∨ (-18446744073709551616 < b ∧ b < 18446744073709551616)) : (binD .mul (.int a) (.int b)).wp Q X tg = Q (.int (a * b)) := by
  have h : (big a || big b) = true := by
    rcases h with h | h
    · rw [big_of h, Bool.true_or]
    · rw [big_of h, Bool.or_true]
  simp only [un_r, un_o, un_b, binD, h, if_true, wp_ok0]
theorem b_mulIl {a b : Int} (h : -18446744073709551616 < a ∧ a < 18446744073709551616) : (binD .mul (.int a) (.int b)).wp Q X tg = Q (.int (a * b)) := b_mulI (.inl h)
theorem b_mulIr {a b : Int} (h : -18446744073709551616 < b ∧ b < 18446744073709551616) : (binD .mul (.int a) (.int b)).wp Q X tg = Q (.int (a * b)) := b_mulI (.inr h)
theorem b_modI {a b : Int} (h : 0 < b) : (binD .mod (.int a) (.int b)).wp Q X tg = Q (.int (a % b)) := by simp only [un_r, un_o, un_b, binD, h, if_true, wp_ok0]
theorem b_divI {a b : Int} (h : 0 < b ∧ b < 1073741824) : (binD .fdiv (.int a) (.int b)).wp Q X tg = Q (.int (a / b)) := by
  have h : (decide (0 < b) && decide (b < 1073741824)) = true := by simp [h.1, h.2]
  simp only [un_r, un_o, un_b, binD, h, if_true, wp_ok0]
theorem b_mulS {s : List Nat} {n : Int} (h : -1000000 < n ∧ n < 1000000) (h2 : s.length * n.toNat ≤ SZ) : (binD .mul (.str s) (.int n)).wp Q X tg = Q (.str (repS s n.toNat)) := by
  have h : (decide (-1000000 < n) && decide (n < 1000000) && decide (s.length * n.toNat ≤ SZ)) = true := by simp [h.1, h.2, h2]
  simp only [un_r, un_o, un_b, binD, h, if_true, wp_ok0]
theorem w_negI {Q : Vl → Prop} {i : Int} : (negD (.int i)).wp Q X tg = Q (.fu, .int (-i)) := by exact Eq.trans rfl rfl
theorem a_I {op : Op} {a b : Int} : (augD op (.int a) (.int b)).wp Q X tg = (binD op (.int a) (.int b)).wp Q X tg := by exact Eq.trans rfl rfl
theorem a_S {op : Op} {a b : List Nat} : (augD op (.str a) (.str b)).wp Q X tg = (binD op (.str a) (.str b)).wp Q X tg := by exact Eq.trans rfl rfl
theorem ixN_pos {n : Nat} {i : Int} (h : 0 ≤ i) (h2 : i < n) : ixN n i = some i.toNat := by unfold ixN; rw [if_pos h, if_pos h2]
theorem ixN_neg {n : Nat} {i : Int} (h : i < 0) (h2 : 0 ≤ i + n) : ixN n i = some (i + n).toNat := by unfold ixN; rw [if_neg (by omega), if_pos h2]
theorem x_lst {xs : List D} {i : Int} {d : D} (h : 0 ≤ i) (hd : xs[i.toNat]? = some d) : (idxD (.lst xs) (.int i)).wp Q X tg = Q d := by
  have hk := (List.getElem?_eq_some_iff.mp hd).1
  simp only [un_r, un_o, un_b, idxD, ixN_pos h (by omega : i < xs.length), hd, wp_ok0]
theorem x_rls {xs : List D} {i : Int} {d : D} (h : 0 ≤ i) (hd : xs[i.toNat]? = some d) : (idxD (.rls xs) (.int i)).wp Q X tg = Q d := by
  have hk := (List.getElem?_eq_some_iff.mp hd).1
  simp only [un_r, un_o, un_b, idxD, ixN_pos h (by omega : i < xs.length), hd, wp_ok0]
theorem x_tup {xs : List D} {i : Int} {d : D} (h : 0 ≤ i) (hd : xs[i.toNat]? = some d) : (idxD (.tup xs) (.int i)).wp Q X tg = Q d := by
  have hk := (List.getElem?_eq_some_iff.mp hd).1
  simp only [un_r, un_o, un_b, idxD, ixN_pos h (by omega : i < xs.length), hd, wp_ok0]
/-- the k-th of a list that is told by a map -/
def ith (xs : List Int) (i : Int) : Int := (xs[i.toNat]?).getD 0
theorem ith_get {xs : List Int} {i : Int} (h : 0 ≤ i ∧ i < xs.length) : (xs.map D.int)[i.toNat]? = some (.int (ith xs i)) := by
  have : i.toNat < xs.length := by omega
  rw [List.getElem?_map, List.getElem?_eq_getElem this, ith, List.getElem?_eq_getElem this]; rfl
theorem ith_mem {xs : List Int} {i : Int} (h : 0 ≤ i ∧ i < xs.length) : ith xs i ∈ xs := by
  have : i.toNat < xs.length := by omega
  rw [ith, List.getElem?_eq_getElem this]; exact List.getElem_mem _
theorem x_lstI {xs : List Int} {i : Int} (h : 0 ≤ i ∧ i < xs.length) : (idxD (.lst (xs.map .int)) (.int i)).wp Q X tg = Q (.int (ith xs i)) := x_lst h.1 (ith_get h)
theorem x_rlsI {xs : List Int} {i : Int} (h : 0 ≤ i ∧ i < xs.length) : (idxD (.rls (xs.map .int)) (.int i)).wp Q X tg = Q (.int (ith xs i)) := x_rls h.1 (ith_get h)
theorem b_powT : (binD .pow (.int 10) (.int 18)).wp Q X tg = Q (.int 1000000000000000000) := by exact Eq.trans rfl rfl
theorem x_lstI' {xs : List Int} {i : Int} (h : i < 0 ∧ 0 ≤ i + xs.length) : (idxD (.lst (xs.map .int)) (.int i)).wp Q X tg = Q (.int (ith xs (i + xs.length))) := by
  have hd := ith_get (xs := xs) (i := i + xs.length) (by omega)
  have e : (xs.map D.int).length = xs.length := List.length_map ..
  have e2 := ixN_neg (n := (xs.map D.int).length) h.1 (by rw [e]; exact h.2)
  rw [e] at e2
  simp only [un_r, un_o, un_b, idxD, e, e2, hd, wp_ok0]
/-- the i-th sign -/
def sgn (s : List Nat) (i : Int) : Nat := (s[i.toNat]?).getD 0
theorem sgn_get {s : List Nat} {i : Int} (h : 0 ≤ i ∧ i < s.length) : s[i.toNat]? = some (sgn s i) := by
  have : i.toNat < s.length := by omega
  rw [sgn, List.getElem?_eq_getElem this]; rfl
theorem sgn_mem {s : List Nat} {i : Int} (h : 0 ≤ i ∧ i < s.length) : sgn s i ∈ s := List.mem_of_getElem? (sgn_get h)
theorem x_str {s : List Nat} {i : Int} (h : 0 ≤ i ∧ i < s.length) (hz : s.length ≤ SZ) : (idxD (.str s) (.int i)).wp Q X tg = Q (.str [sgn s i]) := by
  have hd := sgn_get h
  simp only [un_r, un_o, un_b, idxD, hz, if_true, ixN_pos h.1 h.2, hd, wp_ok0]
theorem x_str' {s : List Nat} {i : Int} (h : i < 0 ∧ 0 ≤ i + s.length) (hz : s.length ≤ SZ) : (idxD (.str s) (.int i)).wp Q X tg = Q (.str [sgn s (i + s.length)]) := by
  have hd := sgn_get (s := s) (i := i + s.length) (by omega)
  simp only [un_r, un_o, un_b, idxD, hz, if_true, ixN_neg h.1 h.2, hd, wp_ok0]
end
section
variable {Q : D → Prop} {X : Nat → D → Prop}
theorem ith_b {P : Int → Prop} {xs : List Int} {i : Int} (hb : ∀ x ∈ xs, P x) (h : 0 ≤ i ∧ i < xs.length) : P (ith xs i) := hb _ (ith_mem h)
theorem modI {a : Int} {n : Nat} (h : 0 < n) : 0 ≤ a % (n : Int) ∧ a % (n : Int) < n := ⟨Int.emod_nonneg _ (by omega), Int.emod_lt_of_pos _ (by omega)⟩
theorem x_strM {s : List Nat} {a : Int} (h : 0 < s.length) (hz : s.length ≤ SZ) : (idxD (.str s) (.int (a % (s.length : Int)))).wp Q X tg = Q (.str [sgn s (a % (s.length : Int))]) := x_str (modI h) hz
theorem x_lstM {s : List Int} {a : Int} (h : 0 < s.length) : (idxD (.lst (s.map .int)) (.int (a % (s.length : Int)))).wp Q X tg = Q (.int (ith s (a % (s.length : Int)))) := x_lstI (modI h)
theorem x_i2 {a b i : Int} (h : 0 ≤ i ∧ i < 2) : (idxD (.lst [.int a, .int b]) (.int i)).wp Q X tg = Q (.int (ith [a, b] i)) := x_lstI (xs := [a, b]) h
theorem x_i3 {a b c i : Int} (h : 0 ≤ i ∧ i < 3) : (idxD (.lst [.int a, .int b, .int c]) (.int i)).wp Q X tg = Q (.int (ith [a, b, c] i)) := x_lstI (xs := [a, b, c]) h
theorem x_i4 {a b c d i : Int} (h : 0 ≤ i ∧ i < 4) : (idxD (.lst [.int a, .int b, .int c, .int d]) (.int i)).wp Q X tg = Q (.int (ith [a, b, c, d] i)) := x_lstI (xs := [a, b, c, d]) h
theorem x_i5 {a b c d e i : Int} (h : 0 ≤ i ∧ i < 5) : (idxD (.lst [.int a, .int b, .int c, .int d, .int e]) (.int i)).wp Q X tg = Q (.int (ith [a, b, c, d, e] i)) := x_lstI (xs := [a, b, c, d, e]) h
theorem x_i6 {a b c d e f i : Int} (h : 0 ≤ i ∧ i < 6) : (idxD (.lst [.int a, .int b, .int c, .int d, .int e, .int f]) (.int i)).wp Q X tg = Q (.int (ith [a, b, c, d, e, f] i)) := x_lstI (xs := [a, b, c, d, e, f]) h
theorem x_i11 {a b c d e f g k l m n i : Int} (h : 0 ≤ i ∧ i < 11) : (idxD (.lst [.int a, .int b, .int c, .int d, .int e, .int f, .int g, .int k, .int l, .int m, .int n]) (.int i)).wp Q X tg = Q (.int (ith [a, b, c, d, e, f, g, k, l, m, n] i)) := x_lstI (xs := [a, b, c, d, e, f, g, k, l, m, n]) h
theorem x_t0 {a : D} {r : List D} : (idxD (.tup (a :: r)) (.int 0)).wp Q X tg = Q a := x_tup (by omega) rfl
theorem x_t1 {a b : D} {r : List D} : (idxD (.tup (a :: b :: r)) (.int 1)).wp Q X tg = Q b := x_tup (by omega) rfl
theorem x_t2 {a b c : D} {r : List D} : (idxD (.tup (a :: b :: c :: r)) (.int 2)).wp Q X tg = Q c := x_tup (by omega) rfl
theorem x_t3 {a b c d : D} {r : List D} : (idxD (.tup (a :: b :: c :: d :: r)) (.int 3)).wp Q X tg = Q d := x_tup (by omega) rfl
theorem x_l0 {a : D} {r : List D} : (idxD (.lst (a :: r)) (.int 0)).wp Q X tg = Q a := x_lst (by omega) rfl
/-- slices -/
theorem cut_to {α : Type} {xs : List α} {j : Int} (h : 0 ≤ j) : cut xs none (some j) = xs.take j.toNat := by
  unfold cut slA slB
  simp only [show ¬ (j < 0) by omega, if_false, List.drop_zero, Nat.sub_zero]
  rw [List.take_eq_take_iff]; omega
theorem cut_from {α : Type} {xs : List α} {j : Int} (h : 0 ≤ j) : cut xs (some j) none = xs.drop j.toNat := by
  unfold cut slA slB
  simp only [show ¬ (j < 0) by omega, if_false]
  by_cases c : j.toNat ≤ xs.length
  · rw [Nat.min_eq_left c]; exact List.take_of_length_le (by rw [List.length_drop]; omega)
  · rw [Nat.min_eq_right (by omega), List.drop_of_length_le (Nat.le_refl _), List.drop_of_length_le (by omega)]; simp
theorem cut_mid {α : Type} {xs : List α} {i j : Int} (h : 0 ≤ i) (h2 : 0 ≤ j) : cut xs (some i) (some j) = (xs.drop i.toNat).take (j.toNat - i.toNat) := by
  unfold cut slA slB
  simp only [show ¬ (i < 0) by omega, show ¬ (j < 0) by omega, if_false]
  by_cases c : i.toNat ≤ xs.length
  · rw [Nat.min_eq_left c, List.take_eq_take_iff, List.length_drop]; omega
  · rw [Nat.min_eq_right (a := i.toNat) (b := xs.length) (by omega), List.drop_of_length_le (Nat.le_refl _), List.drop_of_length_le (i := i.toNat) (by omega)]; simp
theorem cut_toN {α : Type} {xs : List α} {j : Int} (h : j < 0) : cut xs none (some j) = xs.take (j + xs.length).toNat := by
  unfold cut slA slB
  simp only [h, if_true, List.drop_zero, Nat.sub_zero]
theorem cut_fromN {α : Type} {xs : List α} {j : Int} (h : j < 0) : cut xs (some j) none = xs.drop (j + xs.length).toNat := by
  unfold cut slA slB
  simp only [h, if_true]
  exact List.take_of_length_le (by rw [List.length_drop]; omega)
theorem take_drop_ith {s : List Nat} {j : Int} (h : 0 ≤ j ∧ j < s.length) : s.take j.toNat ++ sgn s j :: s.drop (j.toNat + 1) = s := by
  have hk : j.toNat < s.length := by omega
  rw [sgn, List.getElem?_eq_getElem hk]
  show s.take j.toNat ++ s[j.toNat] :: s.drop (j.toNat + 1) = s
  rw [List.getElem_cons_drop, List.take_append_drop]
end
section
variable {Q : Bool → Prop} {X : Nat → D → Prop}
theorem c_lt {a b : Int} : (cmpD .lt (.int a) (.int b)).wp Q X tg = Q (decide (a < b)) := by exact Eq.trans rfl rfl
theorem c_le {a b : Int} : (cmpD .le (.int a) (.int b)).wp Q X tg = Q (decide (a ≤ b)) := by exact Eq.trans rfl rfl
theorem c_gt {a b : Int} : (cmpD .gt (.int a) (.int b)).wp Q X tg = Q (decide (b < a)) := by exact Eq.trans rfl rfl
theorem c_ge {a b : Int} : (cmpD .ge (.int a) (.int b)).wp Q X tg = Q (decide (b ≤ a)) := by exact Eq.trans rfl rfl
theorem c_eq {a b : D} : (cmpD .eq a b).wp Q X tg = (eqD a b).wp Q X tg := by exact Eq.trans rfl rfl
theorem c_ne {a b : D} : (cmpD .ne a b).wp Q X tg = (eqD a b).wp (fun c => Q (!c)) X tg := by
  show ((eqD a b).bind _).wp Q X tg = _
  rw [wp_bind]; rfl
theorem e_I {a b : Int} : (eqD (.int a) (.int b)).wp Q X tg = Q (decide (a = b)) := by exact Eq.trans rfl rfl
theorem e_S {a b : List Nat} : (eqD (.str a) (.str b)).wp Q X tg = Q (decide (a = b)) := by exact Eq.trans rfl rfl
theorem e_P {a b : D} (ha : a.plain 60 = true) (hb : b.plain 60 = true) : (eqD a b).wp Q X tg = Q (D.eqv a b) := by
  unfold eqD
  split
  · simp only [un_r, un_o, un_b, D.eqv, wp_ok0]; rw [show (∀ i j : Int, (i == j) = decide (i = j)) from fun i j => rfl]
  · simp only [un_r, un_o, un_b, D.eqv, wp_ok0]; rw [show (∀ i j : List Nat, (i == j) = decide (i = j)) from fun i j => by by_cases h : i = j <;> simp [h]]
  · simp only [un_r, un_o, un_b, ha, hb, Bool.and_self, if_true, wp_ok0]
theorem e_B {a b : Bool} : (eqD (.bl a) (.bl b)).wp Q X tg = Q (decide (a = b)) := by
  rw [e_P rfl rfl, D.eqv]
  cases a <;> cases b <;> rfl
theorem c_iz {a b : Bool} : (cmpD .iz (.bl a) (.bl b)).wp Q X tg = Q (decide (a = b)) := by exact Eq.trans rfl rfl
theorem c_niz {a b : Bool} : (cmpD .niz (.bl a) (.bl b)).wp Q X tg = Q (!decide (a = b)) := by exact Eq.trans rfl rfl
theorem c_inS {c : Nat} {s : List Nat} : (cmpD .inn (.str [c]) (.str s)).wp Q X tg = Q (s.contains c) := by exact Eq.trans rfl rfl
theorem c_ninS {c : Nat} {s : List Nat} : (cmpD .nin (.str [c]) (.str s)).wp Q X tg = Q (!s.contains c) := by exact Eq.trans rfl rfl
theorem c_inP {a : D} {xs : List D} (ha : a.plain 60 = true) (h : D.plainL 59 xs = true) : (cmpD .inn a (.lst xs)).wp Q X tg = Q (inD a xs) := by
  have e : cmpD .inn a (.lst xs) = (if a.atom && xs.all D.atom then .ok (inD a xs) else if a.plain 60 && D.plainL 59 xs then .ok (inD a xs) else .no) := by cases a <;> rfl
  rw [e, ha, h, Bool.and_self, if_pos rfl]
  split <;> rfl
theorem c_ninP {a : D} {xs : List D} (ha : a.plain 60 = true) (h : D.plainL 59 xs = true) : (cmpD .nin a (.lst xs)).wp Q X tg = Q (!inD a xs) := by
  have e : cmpD .nin a (.lst xs) = (if a.atom && xs.all D.atom then .ok (!inD a xs) else if a.plain 60 && D.plainL 59 xs then .ok (!inD a xs) else .no) := by cases a <;> rfl
  rw [e, ha, h, Bool.and_self, if_pos rfl]
  split <;> rfl
theorem c_inL {a : D} {xs : List D} (h : (a.atom && xs.all D.atom) = true) : (cmpD .inn a (.lst xs)).wp Q X tg = Q (inD a xs) := by
  have e : cmpD .inn a (.lst xs) = (if a.atom && xs.all D.atom then .ok (inD a xs) else if a.plain 60 && D.plainL 59 xs then .ok (inD a xs) else .no) := by cases a <;> rfl
  rw [e, h, if_pos rfl]; rfl
theorem c_ninL {a : D} {xs : List D} (h : (a.atom && xs.all D.atom) = true) : (cmpD .nin a (.lst xs)).wp Q X tg = Q (!inD a xs) := by
  have e : cmpD .nin a (.lst xs) = (if a.atom && xs.all D.atom then .ok (!inD a xs) else if a.plain 60 && D.plainL 59 xs then .ok (!inD a xs) else .no) := by cases a <;> rfl
  rw [e, h, if_pos rfl]; rfl
theorem c_inT {a : D} {xs : List D} (h : (a.atom && xs.all D.atom) = true) : (cmpD .inn a (.tup xs)).wp Q X tg = Q (inD a xs) := by
  have e : ∀ b : Bool, b = (a.atom && xs.all D.atom) → b = true := fun b hb => by rw [hb, h]
  cases a <;> first | (rw [show D.atom _ = false from rfl] at h; cases h) | skip
  all_goals (show (if (_ && xs.all D.atom) = true then _ else _ : Rs Bool).wp Q X tg = _; rw [h]; rfl)
theorem c_ninT {a : D} {xs : List D} (h : (a.atom && xs.all D.atom) = true) : (cmpD .nin a (.tup xs)).wp Q X tg = Q (!inD a xs) := by
  have e : ∀ b : Bool, b = (a.atom && xs.all D.atom) → b = true := fun b hb => by rw [hb, h]
  cases a <;> first | (rw [show D.atom _ = false from rfl] at h; cases h) | skip
  all_goals (show (if (_ && xs.all D.atom) = true then _ else _ : Rs Bool).wp Q X tg = _; rw [h]; rfl)
theorem k_non : (truD .non).wp Q X tg = Q false := by exact Eq.trans rfl rfl
theorem k_bl {b : Bool} : (truD (.bl b)).wp Q X tg = Q b := by exact Eq.trans rfl rfl
theorem k_int {i : Int} : (truD (.int i)).wp Q X tg = Q (decide (i ≠ 0)) := by exact Eq.trans rfl rfl
theorem k_lst {xs : List D} : (truD (.lst xs)).wp Q X tg = Q (!xs.isEmpty) := by exact Eq.trans rfl rfl
theorem k_tup {xs : List D} : (truD (.tup xs)).wp Q X tg = Q (!xs.isEmpty) := by exact Eq.trans rfl rfl
theorem k_str {s : List Nat} (h : s.length ≤ SZ) : (truD (.str s)).wp Q X tg = Q (!s.isEmpty) := by simp only [un_r, un_o, un_b, truD, h, if_true, wp_ok0]
theorem ty_w {ts : List Ty} {d : D} (h : d.common = true) : (tyD ts d).wp Q X tg = Q (ts.any fun t => tyB t d) := by simp only [un_r, un_o, un_b, tyD, h, if_true, wp_ok0]
end
theorem isBor_n : isBor [] = false := by exact Eq.trans rfl rfl
theorem isBor_c {v : Vl} {r : List Vl} : isBor (v :: r) = ((v.1.bor && !v.2.flat) || isBor r) := by exact Eq.trans rfl rfl
section
variable {Q : Vl → Prop} {X : Nat → D → Prop}
theorem v_lst {vs : List Vl} (h : vs.length ≤ SZ) : (lstV false vs).wp Q X tg = Q (if isBor vs then .bf else .sh, .lst (vs.map (·.2))) := by simp only [un_r, un_o, un_b, lstV, h, if_true, Bool.false_eq_true, if_false, wp_ok0]
theorem v_tup {vs : List Vl} (h : vs.length ≤ SZ) : (tupV vs).wp Q X tg = Q (if isBor vs then .bf else .fr, .tup (vs.map (·.2))) := by simp only [un_r, un_o, un_b, tupV, h, if_true, wp_ok0]
theorem v_slcL {m : Mk} {xs : List D} {lo hi : Option Int} : (slcV (m, .lst xs) lo hi).wp Q X tg = Q (copyM m (.lst (cut xs lo hi)), .lst (cut xs lo hi)) := by exact Eq.trans rfl rfl
theorem v_slcS {m : Mk} {s : List Nat} {lo hi : Option Int} (h : s.length ≤ SZ) : (slcV (m, .str s) lo hi).wp Q X tg = Q (.fu, .str (cut s lo hi)) := by
  have e : copyM m (.str (cut s lo hi)) = .fu := by cases m <;> rfl
  simp only [un_r, un_o, un_b, slcV, slcD, h, if_true, wp_bind0, wp_ok0, e]
theorem v_revL {m : Mk} {xs : List D} : (revV (m, .lst xs)).wp Q X tg = Q (copyM m (.lst xs.reverse), .lst xs.reverse) := by exact Eq.trans rfl rfl
theorem v_revS {m : Mk} {s : List Nat} (h : s.length ≤ SZ) : (revV (m, .str s)).wp Q X tg = Q (.fu, .str s.reverse) := by simp only [un_r, un_o, un_b, revV, h, if_true, wp_ok0]
theorem bi_1 {b : Bi} {x : Vl} : (biD b [x]).wp Q X tg = (biD1 b x).wp Q X tg := by exact Eq.trans rfl rfl
theorem bi_2 {b : Bi} {x y : Vl} : (biD b [x, y]).wp Q X tg = (biD2 b x y).wp Q X tg := by exact Eq.trans rfl rfl
theorem l_lst {m : Mk} {xs : List D} : (biD1 .len (m, .lst xs)).wp Q X tg = Q (.fu, .int xs.length) := by exact Eq.trans rfl rfl
theorem l_rls {m : Mk} {xs : List D} : (biD1 .len (m, .rls xs)).wp Q X tg = Q (.fu, .int xs.length) := by exact Eq.trans rfl rfl
theorem l_tup {m : Mk} {xs : List D} : (biD1 .len (m, .tup xs)).wp Q X tg = Q (.fu, .int xs.length) := by exact Eq.trans rfl rfl
theorem l_str {m : Mk} {xs : List Nat} (h : xs.length ≤ SZ) : (biD1 .len (m, .str xs)).wp Q X tg = Q (.fu, .int xs.length) := by simp only [un_r, un_o, un_b, biD1, h, if_true, wp_ok0]
theorem i_int {m : Mk} {i : Int} : (biD1 .int1 (m, .int i)).wp Q X tg = Q (.fu, .int i) := by exact Eq.trans rfl rfl
theorem i_bl {m : Mk} {b : Bool} : (biD1 .int1 (m, .bl b)).wp Q X tg = Q (.fu, .int (if b then 1 else 0)) := by exact Eq.trans rfl rfl
theorem li_lst {m : Mk} {xs : List D} : (biD1 .list1 (m, .lst xs)).wp Q X tg = Q (copyM m (.lst xs), .lst xs) := by exact Eq.trans rfl rfl
theorem li_tup {m : Mk} {xs : List D} : (biD1 .list1 (m, .tup xs)).wp Q X tg = Q (copyM m (.lst xs), .lst xs) := by exact Eq.trans rfl rfl
theorem li_str {m : Mk} {s : List Nat} (h : s.length ≤ SZ) : (biD1 .list1 (m, .str s)).wp Q X tg = Q (.sh, .lst (s.map fun c => .str [c])) := by simp only [un_r, un_o, un_b, biD1, h, if_true, wp_ok0]
theorem so_int {m : Mk} {l : List Int} : (biD1 .sorted1 (m, .lst (l.map .int))).wp Q X tg = Q (.sh, .lst ((sortI l).map .int)) := by
  have e : ∀ l : List Int, listI (l.map D.int) = some l := fun l => by induction l with | nil => rfl | cons x r ih => simp [listI, ih]
  simp only [un_r, un_o, un_b, biD1, e, wp_ok0]
theorem listS_map : ∀ l : List (List Nat), listS (l.map D.str) = some l
  | [] => rfl
  | x :: r => by simp [listS, listS_map r]
theorem listB_map : ∀ l : List Bool, listB (l.map D.bl) = some l
  | [] => rfl
  | x :: r => by simp [listB, listB_map r]
theorem listI_map : ∀ l : List Int, listI (l.map D.int) = some l
  | [] => rfl
  | x :: r => by simp [listI, listI_map r]
theorem so_str {m : Mk} {l : List (List Nat)} (h : l.length < 64) : (biD1 .sorted1 (m, .lst (l.map .str))).wp Q X tg = Q (.sh, .lst ((sortS l).map .str)) := by
  cases l with
  | nil => rfl
  | cons s r =>
    have e : listI ((s :: r).map D.str) = none := rfl
    simp only [un_r, un_o, un_b, biD1, e, listS_map, h, if_true, wp_ok0]
theorem al_bl {m : Mk} {l : List Bool} : (biD1 .all1 (m, .lst (l.map .bl))).wp Q X tg = Q (.fu, .bl (l.all id)) := by simp only [un_r, un_o, un_b, biD1, listB_map, wp_ok0]
theorem an_bl {m : Mk} {l : List Bool} : (biD1 .any1 (m, .lst (l.map .bl))).wp Q X tg = Q (.fu, .bl (l.any id)) := by simp only [un_r, un_o, un_b, biD1, listB_map, wp_ok0]
theorem su_int {m : Mk} {l : List Int} : (biD1 .sum1 (m, .lst (l.map .int))).wp Q X tg = Q (.fu, .int l.sum) := by simp only [un_r, un_o, un_b, biD1, listI_map, wp_ok0]
theorem al_map {α : Type} {m : Mk} {l : List α} {f : α → Bool} : (biD1 .all1 (m, .lst (l.map fun x => .bl (f x)))).wp Q X tg = Q (.fu, .bl (l.all f)) := by
  have e : l.map (fun x => D.bl (f x)) = (l.map f).map D.bl := by rw [List.map_map]; rfl
  rw [e, al_bl, List.all_map]; rfl
theorem an_map {α : Type} {m : Mk} {l : List α} {f : α → Bool} : (biD1 .any1 (m, .lst (l.map fun x => .bl (f x)))).wp Q X tg = Q (.fu, .bl (l.any f)) := by
  have e : l.map (fun x => D.bl (f x)) = (l.map f).map D.bl := by rw [List.map_map]; rfl
  rw [e, an_bl, List.any_map]; rfl
theorem su_map {α : Type} {m : Mk} {l : List α} {f : α → Int} : (biD1 .sum1 (m, .lst (l.map fun x => .int (f x)))).wp Q X tg = Q (.fu, .int (l.map f).sum) := by
  have e : l.map (fun x => D.int (f x)) = (l.map f).map D.int := by rw [List.map_map]; rfl
  rw [e, su_int]
theorem gc_2 {m n : Mk} {i j : Int} : (biD2 .gcd2 (m, .int i) (n, .int j)).wp Q X tg = Q (.fu, .int (Int.gcd i j : Nat)) := by exact Eq.trans rfl rfl
theorem ab_int {m : Mk} {i : Int} : (biD1 .abs1 (m, .int i)).wp Q X tg = Q (.fu, .int (if i < 0 then -i else i)) := by exact Eq.trans rfl rfl
theorem mi_2 {m n : Mk} {i j : Int} : (biD2 .min2 (m, .int i) (n, .int j)).wp Q X tg = Q (.fu, .int (if j < i then j else i)) := by exact Eq.trans rfl rfl
theorem ma_2 {m n : Mk} {i j : Int} : (biD2 .max2 (m, .int i) (n, .int j)).wp Q X tg = Q (.fu, .int (if j > i then j else i)) := by exact Eq.trans rfl rfl
theorem r_joinS {Q : Unit → Prop} {s : List Nat} : (rcvD .join (.str s)).wp Q X tg = Q () := by exact Eq.trans rfl rfl
theorem r_indexS {Q : Unit → Prop} {s : List Nat} : (rcvD .index (.str s)).wp Q X tg = Q () := by exact Eq.trans rfl rfl
theorem r_indexL {Q : Unit → Prop} {s : List D} : (rcvD .index (.lst s)).wp Q X tg = Q () := by exact Eq.trans rfl rfl
theorem mt_join {m n : Mk} {s : List Nat} {l : List (List Nat)} (h : (l.map List.length).sum + l.length * s.length ≤ SZ) : (mtD1 .join (m, .str s) (n, .lst (l.map .str))).wp Q X tg = Q (.fu, .str (joinS s l)) := by simp only [un_r, un_o, un_b, mtD1, listS_map, h, if_true, wp_ok0]
theorem mt_idxS {m n : Mk} {s : List Nat} {c k : Nat} (h : firstN c s 0 = some k) : (mtD1 .index (m, .str s) (n, .str [c])).wp Q X tg = Q (.fu, .int k) := by simp only [un_r, un_o, un_b, mtD1, h, ixV, wp_ok0]
theorem mt_idxL {m n : Mk} {xs : List D} {y : D} {k : Nat} (h : (y.atom && xs.all D.atom) = true) (h2 : findD y xs 0 = some k) : (mtD1 .index (m, .lst xs) (n, y)).wp Q X tg = Q (.fu, .int k) := by
  have e : mtD1 .index (m, .lst xs) (n, y) = (if y.atom && xs.all D.atom then ixV (findD y xs 0) else .no) := by cases y <;> rfl
  rw [e, h, h2]; rfl
end
section
variable {Q : List D → Prop} {X : Nat → D → Prop}
theorem it_lst {c : Bool} {m : Mk} {xs : List D} (h : m.bor = false) : (iterD c (m, .lst xs)).wp Q X tg = Q xs := by simp only [un_r, un_o, un_b, iterD, h, Bool.false_and, Bool.false_eq_true, if_false, wp_ok0]
theorem it_own {xs : List D} : (iterD true (.bs, .lst xs)).wp Q X tg = Q xs := by exact Eq.trans rfl rfl
theorem it_tup {c : Bool} {m : Mk} {xs : List D} (h : m.bor = false) : (iterD c (m, .tup xs)).wp Q X tg = Q xs := by simp only [un_r, un_o, un_b, iterD, h, Bool.false_eq_true, if_false, wp_ok0]
theorem it_str {c : Bool} {m : Mk} {s : List Nat} : (iterD c (m, .str s)).wp Q X tg = Q (s.map fun c => .str [c]) := by exact Eq.trans rfl rfl
theorem rn_ok {lo hi : Int} (h : -4611686018427387904 ≤ lo ∧ lo < 4611686018427387904 ∧ -4611686018427387904 ≤ hi ∧ hi < 4611686018427387904) : (rngD (.int lo) (.int hi)).wp Q X tg = Q (rngL lo (hi - lo).toNat) := by
  have h : (chk62 lo && chk62 hi) = true := by simp [chk62, h.1, h.2.1, h.2.2.1, h.2.2.2]
  simp only [un_r, un_o, un_b, rngD, h, if_true, wp_ok0]
theorem en_str {m : Mk} {s : List Nat} : (enumD (m, .str s)).wp Q X tg = Q (enumL 0 (s.map fun c => .str [c])) := by exact Eq.trans rfl rfl
theorem en_lst {m : Mk} {xs : List D} (h : m.bor = false) : (enumD (m, .lst xs)).wp Q X tg = Q (enumL 0 xs) := by simp only [un_r, un_o, un_b, enumD, h, Bool.false_eq_true, if_false, wp_ok0]
theorem zi_lst {m n : Mk} {xs ys : List D} (h : m.bor = false) (h2 : n.bor = false) : (zipD (m, .lst xs) (n, .lst ys)).wp Q X tg = Q (zipL xs ys) := by simp only [un_r, un_o, un_b, zipD, h, h2, Bool.or_self, Bool.false_eq_true, if_false, wp_ok0]
theorem re_lst {m : Mk} {xs : List D} (h : m.bor = false) : (revdD (m, .lst xs)).wp Q X tg = Q xs.reverse := by simp only [un_r, un_o, un_b, revdD, h, Bool.false_eq_true, if_false, wp_ok0]
end
theorem mb_fu : Mk.bor .fu = false := by exact Eq.trans rfl rfl
theorem mb_fr : Mk.bor .fr = false := by exact Eq.trans rfl rfl
theorem mb_sh : Mk.bor .sh = false := by exact Eq.trans rfl rfl
theorem mb_bs : Mk.bor .bs = true := by exact Eq.trans rfl rfl
theorem mb_bf : Mk.bor .bf = true := by exact Eq.trans rfl rfl
section
variable {Q : Vl → Prop} {X : Nat → D → Prop} {d : D}
theorem h_fu : (shared (.fu, d)).wp Q X tg = Q (.fr, d) := by exact Eq.trans rfl rfl
theorem h_fr : (shared (.fr, d)).wp Q X tg = Q (.fr, d) := by exact Eq.trans rfl rfl
theorem h_sh : (shared (.sh, d)).wp Q X tg = Q (.fr, d) := by exact Eq.trans rfl rfl
theorem h_fl {m : Mk} (h : d.flat = true) : (shared (m, d)).wp Q X tg = Q (.fr, d) := by simp only [un_r, un_o, un_b, shared, h, Bool.not_true, Bool.and_false, Bool.false_eq_true, if_false, wp_ok0]
theorem o_fu : (owned (.fu, d)).wp Q X tg = Q (.fu, d) := by exact Eq.trans rfl rfl
theorem o_sh : (owned (.sh, d)).wp Q X tg = Q (.sh, d) := by exact Eq.trans rfl rfl
theorem g_fu : (given (.fu, d)).wp Q X tg = Q (.fu, d) := by exact Eq.trans rfl rfl
theorem g_fr : (given (.fr, d)).wp Q X tg = Q (.fr, d) := by exact Eq.trans rfl rfl
theorem g_sh : (given (.sh, d)).wp Q X tg = Q (.sh, d) := by exact Eq.trans rfl rfl
theorem g_fl {m : Mk} (h : m.bor = true) (h2 : d.flat = true) : (given (m, d)).wp Q X tg = Q (.fr, d) := by simp only [un_r, un_o, un_b, given, h, h2, if_true, wp_ok0]
theorem r_some {v : Vl} : (rdS (some v)).wp Q X tg = Q v := by exact Eq.trans rfl rfl
theorem ol_sh {Q : Unit → Prop} {xs : List D} : (ownL (some (.sh, .lst xs))).wp Q X tg = Q () := by exact Eq.trans rfl rfl
theorem ol_fu {Q : Unit → Prop} {xs : List D} : (ownL (some (.fu, .lst xs))).wp Q X tg = Q () := by exact Eq.trans rfl rfl
theorem ap_sh {xs : List D} {v : Vl} (h : (v.1.bor && !v.2.flat) = false) (h2 : xs.length < SZ) : (appD (some (.sh, .lst xs)) v).wp Q X tg = Q (.sh, .lst (xs ++ [v.2])) := by simp only [un_r, un_o, un_b, appD, h, h2, Bool.false_eq_true, if_false, if_true, wp_ok0]
theorem ap_fu {xs : List D} {v : Vl} (h : (v.1 == .fu || v.2.flat) = true) (h2 : xs.length < SZ) : (appD (some (.fu, .lst xs)) v).wp Q X tg = Q (.fu, .lst (xs ++ [v.2])) := by simp only [un_r, un_o, un_b, appD, h, h2, if_true, wp_ok0]
theorem pu_sh {xs : List D} {i : Int} {v : Vl} (h : (v.1.bor && !v.2.flat) = false) (h2 : 0 ≤ i ∧ i < xs.length) : (putD (some (.sh, .lst xs)) (.int i) v).wp Q X tg = Q (.sh, .lst (xs.set i.toNat v.2)) := by simp only [un_r, un_o, un_b, putD, h, ixN_pos h2.1 h2.2, Bool.false_eq_true, if_false, wp_ok0]
theorem un_ok {Q : List D → Prop} {m : Mk} {n : Nat} {ds : List D} (h : (m.bor && !(D.flatL ds)) = false) (h2 : n = ds.length) : (unpD n (m, .tup ds)).wp Q X tg = Q ds := by
  have e : (n != ds.length) = false := by simp [h2]
  simp only [un_r, un_o, un_b, unpD, h, e, Bool.or_self, Bool.false_eq_true, if_false, wp_ok0]
theorem pa_ok {Q : List D → Prop} {n : Nat} {vs : List Vl} (h : isBor vs = false) (h2 : n = vs.length) : (parD n vs).wp Q X tg = Q (vs.map (·.2)) := by
  have e : (n != vs.length) = false := by simp [h2]
  simp only [un_r, un_o, un_b, parD, h, e, Bool.or_self, Bool.false_eq_true, if_false, wp_ok0]
end
/-! marks -/
theorem bm_int {m n : Mk} {i : Int} : binM m n (.int i) = .fu := by cases m <;> cases n <;> rfl
theorem bm_str {m n : Mk} {i : List Nat} : binM m n (.str i) = .fu := by cases m <;> cases n <;> rfl
theorem bm_lst {m n : Mk} {ds : List D} (hm : m ≠ .bf) (hn : n ≠ .bf) : binM m n (.lst ds) = .sh := by cases m <;> cases n <;> simp_all [binM] <;> rfl
theorem pm_fr {d : D} : partM .fr d = .fr := by exact Eq.trans rfl rfl
theorem pm_sh {d : D} : partM .sh d = .fr := by exact Eq.trans rfl rfl
theorem pm_bs {d : D} : partM .bs d = .fr := by exact Eq.trans rfl rfl
theorem pm_fu {d : D} : partM .fu d = .fr := by exact Eq.trans rfl rfl
theorem pm_bf {d : D} (h : d.flat = true) : partM .bf d = .fu := by simp only [un_r, un_o, un_b, partM, h, if_true]
theorem cm_fr {xs : List D} : copyM .fr (.lst xs) = .sh := by exact Eq.trans rfl rfl
theorem cm_fu {xs : List D} : copyM .fu (.lst xs) = .sh := by exact Eq.trans rfl rfl
theorem cm_sh {xs : List D} : copyM .sh (.lst xs) = .sh := by exact Eq.trans rfl rfl
theorem cm_bs {xs : List D} : copyM .bs (.lst xs) = .sh := by exact Eq.trans rfl rfl
theorem callM_fl {vs : List Vl} {d : D} (h : d.flat = true) : callM vs (.fu, d) = (.fu, d) := by
  unfold callM
  rw [h]
  cases isBor vs <;> rfl
theorem callM_nb {vs : List Vl} {r : Vl} (h : isBor vs = false) : callM vs r = r := by
  unfold callM
  rw [h]; rfl
theorem rdV_fr : rdV .fr = .fr := by exact Eq.trans rfl rfl
theorem rdV_sh : rdV .sh = .bs := by exact Eq.trans rfl rfl
theorem rdV_fu : rdV .fu = .bf := by exact Eq.trans rfl rfl
theorem norm_fl {m : Mk} {d : D} (h : d.flat = true) : norm (m, d) = (.fu, d) := by simp only [un_r, un_o, un_b, norm, h, if_true]
theorem norm_lst {m : Mk} {d : List D} : norm (m, .lst d) = (m, .lst d) := by exact Eq.trans rfl rfl
theorem norm_nf {m : Mk} {d : D} (h : d.flat = false) : norm (m, d) = (m, d) := by simp only [un_r, un_o, un_b, norm, h, Bool.false_eq_true, if_false]
theorem fl_non : D.flat .non = true := by exact Eq.trans rfl rfl
theorem fl_bl {b : Bool} : D.flat (.bl b) = true := by exact Eq.trans rfl rfl
theorem fl_int {b : Int} : D.flat (.int b) = true := by exact Eq.trans rfl rfl
theorem fl_str {b : List Nat} : D.flat (.str b) = true := by exact Eq.trans rfl rfl
theorem fl_tup {b : List D} : D.flat (.tup b) = D.flatL b := by simp only [un_r, un_o, un_b, D.flat]
theorem fl_lst {b : List D} : D.flat (.lst b) = false := by simp only [un_r, un_o, un_b, D.flat]
theorem fl_rls {b : List D} : D.flat (.rls b) = false := by simp only [un_r, un_o, un_b, D.flat]
theorem fl_dic {b c : List D} : D.flat (.dic b c) = false := by simp only [un_r, un_o, un_b, D.flat]
theorem flL_n : D.flatL [] = true := by simp only [un_r, un_o, un_b, D.flatL]
theorem flL_c {d : D} {ds : List D} : D.flatL (d :: ds) = (d.flat && D.flatL ds) := by simp only [un_r, un_o, un_b, D.flatL]
theorem flL_map {α : Type} (f : α → D) (h : ∀ x, (f x).flat = true) : ∀ xs : List α, D.flatL (xs.map f) = true
  | [] => flL_n
  | x :: r => by rw [List.map_cons, flL_c, h x, flL_map f h r]; rfl
theorem flL_int {xs : List Int} : D.flatL (xs.map .int) = true := flL_map _ (fun _ => fl_int) xs
theorem flL_str {xs : List (List Nat)} : D.flatL (xs.map .str) = true := flL_map _ (fun _ => fl_str) xs

theorem pl_non {k : Nat} : D.plain k .non = true := by cases k <;> simp only [D.plain]
theorem pl_bl {k : Nat} {b : Bool} : D.plain k (.bl b) = true := by cases k <;> simp only [D.plain]
theorem pl_int {k : Nat} {b : Int} : D.plain k (.int b) = true := by cases k <;> simp only [D.plain]
theorem pl_str {k : Nat} {b : List Nat} : D.plain k (.str b) = b.all okc := by cases k <;> simp only [D.plain]
theorem pl_lst {k : Nat} {b : List D} : D.plain (k + 1) (.lst b) = D.plainL k b := by simp only [D.plain]
theorem pl_tup {k : Nat} {b : List D} : D.plain (k + 1) (.tup b) = D.plainL k b := by simp only [D.plain]
theorem plL_n {k : Nat} : D.plainL k [] = true := by simp only [D.plainL]
theorem plL_c {k : Nat} {d : D} {ds : List D} : D.plainL k (d :: ds) = (d.plain k && D.plainL k ds) := by simp only [D.plainL]
theorem plL_a {k : Nat} : ∀ {a b : List D}, D.plainL k (a ++ b) = (D.plainL k a && D.plainL k b)
  | [], b => by rw [List.nil_append, plL_n, Bool.true_and]
  | x :: r, b => by rw [List.cons_append, plL_c, plL_c, plL_a, Bool.and_assoc]
theorem plL_all {k : Nat} : ∀ {ds : List D}, (∀ d ∈ ds, d.plain k = true) → D.plainL k ds = true
  | [], _ => plL_n
  | x :: r, h => by rw [plL_c, h x List.mem_cons_self, plL_all fun d hd => h d (List.mem_cons_of_mem _ hd)]; rfl
theorem plL_mem {k : Nat} : ∀ {ds : List D}, D.plainL k ds = true → ∀ d ∈ ds, d.plain k = true
  | x :: r, h, d, hd => by
    rw [plL_c, Bool.and_eq_true] at h
    rcases List.mem_cons.mp hd with rfl | hd
    · exact h.1
    · exact plL_mem h.2 d hd
theorem pl_com {k : Nat} {d : D} (h : d.plain k = true) : d.common = true := by cases d <;> cases k <;> first | rfl | simp [D.plain] at h
theorem plL_int {k : Nat} {xs : List Int} : D.plainL k (xs.map .int) = true := plL_all fun d hd => by
  rw [List.mem_map] at hd
  obtain ⟨x, _, rfl⟩ := hd
  exact pl_int
theorem at_non : D.atom .non = true := by exact Eq.trans rfl rfl
theorem at_bl {b : Bool} : D.atom (.bl b) = true := by exact Eq.trans rfl rfl
theorem at_int {b : Int} : D.atom (.int b) = true := by exact Eq.trans rfl rfl
theorem at_str {b : List Nat} : D.atom (.str b) = true := by exact Eq.trans rfl rfl
theorem co_non : D.common .non = true := by exact Eq.trans rfl rfl
theorem co_bl {b : Bool} : D.common (.bl b) = true := by exact Eq.trans rfl rfl
theorem co_int {b : Int} : D.common (.int b) = true := by exact Eq.trans rfl rfl
theorem co_str {b : List Nat} : D.common (.str b) = true := by exact Eq.trans rfl rfl
theorem co_lst {b : List D} : D.common (.lst b) = true := by exact Eq.trans rfl rfl
theorem co_tup {b : List D} : D.common (.tup b) = true := by exact Eq.trans rfl rfl
theorem tB_int_non : tyB .int .non = false := by exact Eq.trans rfl rfl
theorem tB_int_bl {b : Bool} : tyB .int (.bl b) = true := by exact Eq.trans rfl rfl
theorem tB_int_int {b : Int} : tyB .int (.int b) = true := by exact Eq.trans rfl rfl
theorem tB_int_str {b : List Nat} : tyB .int (.str b) = false := by exact Eq.trans rfl rfl
theorem tB_int_lst {b : List D} : tyB .int (.lst b) = false := by exact Eq.trans rfl rfl
theorem tB_int_tup {b : List D} : tyB .int (.tup b) = false := by exact Eq.trans rfl rfl
theorem tB_int_dic {b c : List D} : tyB .int (.dic b c) = false := by exact Eq.trans rfl rfl
theorem tB_bool_non : tyB .bool .non = false := by exact Eq.trans rfl rfl
theorem tB_bool_bl {b : Bool} : tyB .bool (.bl b) = true := by exact Eq.trans rfl rfl
theorem tB_bool_int {b : Int} : tyB .bool (.int b) = false := by exact Eq.trans rfl rfl
theorem tB_bool_str {b : List Nat} : tyB .bool (.str b) = false := by exact Eq.trans rfl rfl
theorem tB_bool_lst {b : List D} : tyB .bool (.lst b) = false := by exact Eq.trans rfl rfl
theorem tB_bool_tup {b : List D} : tyB .bool (.tup b) = false := by exact Eq.trans rfl rfl
theorem tB_bool_dic {b c : List D} : tyB .bool (.dic b c) = false := by exact Eq.trans rfl rfl
theorem tB_str_non : tyB .str .non = false := by exact Eq.trans rfl rfl
theorem tB_str_bl {b : Bool} : tyB .str (.bl b) = false := by exact Eq.trans rfl rfl
theorem tB_str_int {b : Int} : tyB .str (.int b) = false := by exact Eq.trans rfl rfl
theorem tB_str_str {b : List Nat} : tyB .str (.str b) = true := by exact Eq.trans rfl rfl
theorem tB_str_lst {b : List D} : tyB .str (.lst b) = false := by exact Eq.trans rfl rfl
theorem tB_str_tup {b : List D} : tyB .str (.tup b) = false := by exact Eq.trans rfl rfl
theorem tB_str_dic {b c : List D} : tyB .str (.dic b c) = false := by exact Eq.trans rfl rfl
theorem tB_list_non : tyB .list .non = false := by exact Eq.trans rfl rfl
theorem tB_list_bl {b : Bool} : tyB .list (.bl b) = false := by exact Eq.trans rfl rfl
theorem tB_list_int {b : Int} : tyB .list (.int b) = false := by exact Eq.trans rfl rfl
theorem tB_list_str {b : List Nat} : tyB .list (.str b) = false := by exact Eq.trans rfl rfl
theorem tB_list_lst {b : List D} : tyB .list (.lst b) = true := by exact Eq.trans rfl rfl
theorem tB_list_tup {b : List D} : tyB .list (.tup b) = false := by exact Eq.trans rfl rfl
theorem tB_list_dic {b c : List D} : tyB .list (.dic b c) = false := by exact Eq.trans rfl rfl
theorem tB_tuple_non : tyB .tuple .non = false := by exact Eq.trans rfl rfl
theorem tB_tuple_bl {b : Bool} : tyB .tuple (.bl b) = false := by exact Eq.trans rfl rfl
theorem tB_tuple_int {b : Int} : tyB .tuple (.int b) = false := by exact Eq.trans rfl rfl
theorem tB_tuple_str {b : List Nat} : tyB .tuple (.str b) = false := by exact Eq.trans rfl rfl
theorem tB_tuple_lst {b : List D} : tyB .tuple (.lst b) = false := by exact Eq.trans rfl rfl
theorem tB_tuple_tup {b : List D} : tyB .tuple (.tup b) = true := by exact Eq.trans rfl rfl
theorem tB_tuple_dic {b c : List D} : tyB .tuple (.dic b c) = false := by exact Eq.trans rfl rfl
theorem tB_dict_non : tyB .dict .non = false := by exact Eq.trans rfl rfl
theorem tB_dict_bl {b : Bool} : tyB .dict (.bl b) = false := by exact Eq.trans rfl rfl
theorem tB_dict_int {b : Int} : tyB .dict (.int b) = false := by exact Eq.trans rfl rfl
theorem tB_dict_str {b : List Nat} : tyB .dict (.str b) = false := by exact Eq.trans rfl rfl
theorem tB_dict_lst {b : List D} : tyB .dict (.lst b) = false := by exact Eq.trans rfl rfl
theorem tB_dict_tup {b : List D} : tyB .dict (.tup b) = false := by exact Eq.trans rfl rfl
theorem tB_dict_dic {b c : List D} : tyB .dict (.dic b c) = true := by exact Eq.trans rfl rfl
def isW : D → Bool
  | .int _ => true
  | _ => false
theorem iw_non : isW .non = false := by exact Eq.trans rfl rfl
theorem iw_bl {b : Bool} : isW (.bl b) = false := by exact Eq.trans rfl rfl
theorem iw_int {b : Int} : isW (.int b) = true := by exact Eq.trans rfl rfl
theorem iw_str {b : List Nat} : isW (.str b) = false := by exact Eq.trans rfl rfl
theorem iw_lst {b : List D} : isW (.lst b) = false := by exact Eq.trans rfl rfl
theorem iw_tup {b : List D} : isW (.tup b) = false := by exact Eq.trans rfl rfl
theorem iw_dic {b c : List D} : isW (.dic b c) = false := by exact Eq.trans rfl rfl
theorem iw_obj {b : Nat} {c : List D} : isW (.obj b c) = false := by exact Eq.trans rfl rfl
theorem iw_exc {b : Nat} {c : D} : isW (.exc b c) = false := by exact Eq.trans rfl rfl
theorem iw_rls {c : List D} : isW (.rls c) = false := by exact Eq.trans rfl rfl
theorem mkb_shfu : (Mk.sh == Mk.fu) = false := by exact Eq.trans rfl rfl
theorem mkb_frfu : (Mk.fr == Mk.fu) = false := by exact Eq.trans rfl rfl
theorem SZ_w : SZ = 16777216 := by exact Eq.trans rfl rfl
theorem eqv_nil {xs : List D} : D.eqv (.lst xs) (.lst []) = xs.isEmpty := by cases xs <;> simp [D.eqv, D.eqvL]
mutual
theorem eqv_refl : ∀ (k : Nat) (d : D), d.plain k = true → D.eqv d d = true
  | _, .non, _ => rfl
  | _, .bl b, _ => by simp [D.eqv]
  | _, .int i, _ => by simp [D.eqv]
  | _, .str s, _ => by simp [D.eqv]
  | k + 1, .lst xs, h => by rw [D.eqv]; exact eqvL_refl k xs (by rwa [pl_lst] at h)
  | k + 1, .tup xs, h => by rw [D.eqv]; exact eqvL_refl k xs (by rwa [pl_tup] at h)
  | 0, .lst xs, h => by simp [D.plain] at h
  | 0, .tup xs, h => by simp [D.plain] at h
  | k, .dic _ _, h => by cases k <;> simp [D.plain] at h
  | k, .obj _ _, h => by cases k <;> simp [D.plain] at h
  | k, .exc _ _, h => by cases k <;> simp [D.plain] at h
  | k, .rls _, h => by cases k <;> simp [D.plain] at h
theorem eqvL_refl : ∀ (k : Nat) (d : List D), D.plainL k d = true → D.eqvL d d = true
  | _, [], _ => rfl
  | k, x :: r, h => by
    rw [plL_c, Bool.and_eq_true] at h
    rw [D.eqvL, eqv_refl k x h.1, eqvL_refl k r h.2]; rfl
end
theorem e_same {Q : Bool → Prop} {X : Nat → D → Prop} {d : D} (h : d.plain 60 = true) : (eqD d d).wp Q X tg = Q true := by rw [e_P h h, eqv_refl 60 d h]
/-! ### calls -/
section
variable {Ps : List Fn} {gl : Nat → D} {w n f : Nat} {ds : List D} {Q : Vl → Prop} {X : Nat → D → Prop}
theorem wp_outR {o : Out} : (outR o).wp Q X tg = o.wp (fun _ => Q (.fu, .non)) (fun _ => False) (fun _ => False) (fun v => Q (norm v)) (fun c x _ => X c x) og := by cases o <;> rfl
theorem w_def {fn : Fn} {E : Ev} (h1 : Ps[f]? = some fn) (h2 : ds.length = fn.pars) (h3 : startE fn.slots ds = E) (h : (exes (callD Ps gl w n) gl w fn.body E).wp (fun _ => Q (.fu, .non)) (fun _ => False) (fun _ => False) (fun v => Q (norm v)) (fun c x _ => X c x) og) : (callD Ps gl w (n + 1) f ds).wp Q X tg := by
  show (match Ps[f]? with | some fn => runFn (callD Ps gl w n) gl w fn ds | none => .no).wp Q X tg
  rw [h1]
  show (if ds.length = fn.pars then outR (exes (callD Ps gl w n) gl w fn.body (startE fn.slots ds)) else .no).wp Q X tg
  rw [if_pos h2, h3, wp_outR]; exact h
/-- a def's equation -/
theorem w_fn {fn : Fn} {E : Ev} {v : Vl} (h1 : Ps[f]? = some fn) (h2 : ds.length = fn.pars) (h3 : startE fn.slots ds = E) (h : (exes (callD Ps gl w n) gl w fn.body E).wp (fun _ => (.fu, .non) = v) (fun _ => False) (fun _ => False) (fun u => norm u = v) (fun c x _ => False) og) : callD Ps gl w (n + 1) f ds = .ok v :=
  Rs.wp_eq (w_def h1 h2 h3 h)
end
theorem stE {n k : Nat} {ds : List D} (h : n - ds.length = k) : startE n ds = ds.map (fun d => some (.fr, d)) ++ List.replicate k none := by unfold startE; rw [h]

/-! ### loops -/
section
variable {cal : Nat → List D → Rs Vl} {gl : Nat → D} {w : Nat} {N B C : Ev → Prop} {R : Vl → Prop} {Y : Nat → D → Ev → Prop}
theorem for_inv {p : Pat} {body : List St} (I : Nat → Ev → Prop) : ∀ {ds : List D} {E : Ev} (j : Nat), I j E → (∀ k d E, ds[k]? = some d → I (j + k) E → bindW p d E fun E1 => (exes cal gl w body E1).wp (I (j + k + 1)) N (I (j + k + 1)) R Y og) → (∀ E, I (j + ds.length) E → N E) →
    (forD (bindP p) (exes cal gl w body) ds E).wp N B C R Y og
  | [], E, j, h0, _, he => he E h0
  | d :: ds, E, j, h0, hs, he => by
    obtain ⟨E1, e1, h1⟩ := bindW_ok (hs 0 d E rfl h0)
    have ih : ∀ E2, I (j + 0 + 1) E2 → (forD (bindP p) (exes cal gl w body) ds E2).wp N B C R Y og := fun E2 h2 =>
      for_inv (ds := ds) (E := E2) I (j + 1) h2 (fun k d E hk hI => by
        have := hs (k + 1) d E (by simpa using hk) (by rw [show j + (k + 1) = j + 1 + k by omega]; exact hI)
        rw [show j + (k + 1) = j + 1 + k by omega] at this
        exact this) (fun E hE => he E (by rw [show j + (d :: ds).length = j + 1 + ds.length by simp only [un_r, un_o, un_b, List.length_cons]; omega]; exact hE))
    simp only [un_r, un_o, un_b, forD, e1]
    cases eo : exes cal gl w body E1 with
    | no => rw [eo] at h1; exact h1.elim
    | nx E2 => rw [eo] at h1; exact ih E2 h1
    | bk E2 => rw [eo] at h1; exact h1
    | ct E2 => rw [eo] at h1; exact ih E2 h1
    | rt v => rw [eo] at h1; exact h1
    | ex c x E2 => rw [eo] at h1; exact h1
theorem rngL_wg : ∀ (n k : Nat) (lo : Int) (d : D), (rngL lo n)[k]? = some d → k < n ∧ d = .int (lo + k)
  | 0, k, lo, d, h => by simp [rngL] at h
  | n + 1, 0, lo, d, h => by simp [rngL] at h; exact ⟨by omega, by simp [← h]⟩
  | n + 1, k + 1, lo, d, h => by
    have := rngL_wg n k (lo + 1) d (by simpa [rngL] using h)
    exact ⟨by omega, by rw [this.2]; congr 1; omega⟩
theorem rngL_wl : ∀ (n : Nat) (lo : Int), (rngL lo n).length = n
  | 0, _ => rfl
  | n + 1, lo => by simp [rngL, rngL_wl n]
theorem enumL_wg : ∀ (xs : List D) (k : Nat) (j : Int) (d : D), (enumL j xs)[k]? = some d → ∃ x, xs[k]? = some x ∧ d = .tup [.int (j + k), x]
  | [], k, j, d, h => by simp [enumL] at h
  | x :: r, 0, j, d, h => by simp [enumL] at h; exact ⟨x, rfl, by simp [← h]⟩
  | x :: r, k + 1, j, d, h => by
    obtain ⟨y, h1, h2⟩ := enumL_wg r k (j + 1) d (by simpa [enumL] using h)
    exact ⟨y, by simpa using h1, by rw [h2]; congr 3; omega⟩
theorem enumL_wl : ∀ (xs : List D) (j : Int), (enumL j xs).length = xs.length
  | [], _ => rfl
  | x :: r, j => by simp [enumL, enumL_wl r]
/-- over a range -/
theorem for_rng {p : Nat} {body : List St} (I : Int → Ev → Prop) {lo : Int} {n : Nat} {E : Ev} (h0 : I lo E) (hs : ∀ i E, lo ≤ i → i < lo + n → I i E → (exes cal gl w body (E.set p (some (.fr, .int i)))).wp (I (i + 1)) N (I (i + 1)) R Y og) (he : ∀ E, I (lo + n) E → N E) :
    (forD (bindP (.nm p)) (exes cal gl w body) (rngL lo n) E).wp N B C R Y og := by
  refine for_inv (fun k E => I (lo + k) E) 0 (by simpa using h0) (fun k d E hk hI => ?_) (fun E hE => he E (by simpa [rngL_wl] using hE))
  obtain ⟨h1, rfl⟩ := rngL_wg _ _ _ _ hk
  rw [bindW_nm]
  have := hs (lo + k) E (by omega) (by omega) (by simpa using hI)
  simp only [un_r, un_o, un_b, Nat.zero_add]
  rw [show lo + ((k + 1 : Nat) : Int) = lo + k + 1 by omega]
  exact this
/-- over a list told by a map -/
theorem for_map {α : Type} {f : α → D} {p : Pat} {body : List St} (I : List α → Ev → Prop) {xs : List α} {E : Ev} (h0 : I [] E) (hs : ∀ pre x post E, xs = pre ++ x :: post → I pre E → bindW p (f x) E fun E1 => (exes cal gl w body E1).wp (I (pre ++ [x])) N (I (pre ++ [x])) R Y og) (he : ∀ E, I xs E → N E) :
    (forD (bindP p) (exes cal gl w body) (xs.map f) E).wp N B C R Y og := by
  refine for_inv (fun k E => I (xs.take k) E) 0 (by simpa using h0) (fun k d E hk hI => ?_) (fun E hE => he E (by simpa using hE))
  rw [List.getElem?_map] at hk
  cases hx : xs[k]? with
  | none => rw [hx] at hk; cases hk
  | some x =>
    rw [hx] at hk
    have hd : f x = d := by simpa using hk
    subst hd
    have hk2 := (List.getElem?_eq_some_iff.mp hx).1
    have e : xs = xs.take k ++ x :: xs.drop (k + 1) := by
      have := (List.getElem?_eq_some_iff.mp hx).2
      rw [← this, List.getElem_cons_drop, List.take_append_drop]
    have := hs (xs.take k) x (xs.drop (k + 1)) E e (by simpa using hI)
    have e2 : xs.take (0 + k + 1) = xs.take k ++ [x] := by
      rw [Nat.zero_add, List.take_add_one, hx]; rfl
    rw [e2]
    exact this
/-- what holds of each turn, nothing carried -/
theorem for_each {p : Pat} {body : List St} (I : Ev → Prop) {ds : List D} {E : Ev} (h0 : I E) (hs : ∀ d ∈ ds, ∀ E, I E → bindW p d E fun E1 => (exes cal gl w body E1).wp I N I R Y og) (he : ∀ E, I E → N E) :
    (forD (bindP p) (exes cal gl w body) ds E).wp N B C R Y og :=
  for_inv (fun _ E => I E) 0 h0 (fun k d E hk hI => hs d (List.mem_of_getElem? hk) E hI) he
/-- while, by a measure -/
theorem whl_inv {c : Tx} {body : List St} (I : Nat → Ev → Prop) : ∀ {w' n : Nat} {E : Ev}, n < w' → I n E → (∀ n E, I n E → (tst cal gl c E).wp (fun k => bq k ((exes cal gl w body E).wp (fun E2 => ∃ m, m < n ∧ I m E2) N (fun E2 => ∃ m, m < n ∧ I m E2) R Y og) (N E) bt) (fun c x => Y c x E) tg) →
    (whlD (tst cal gl c) (exes cal gl w body) w' E).wp N B C R Y og
  | 0, n, E, h, _, _ => by omega
  | w' + 1, n, E, h, h0, hs => by
    have h1 := hs n E h0
    simp only [un_r, un_o, un_b, whlD, ow_lift0, ow_if0]
    refine Rs.wp_mono h1 (fun k hk => ?_) (fun _ _ z => z)
    refine ⟨fun e => ?_, fun e => hk.2 e⟩
    have h2 := hk.1 e
    have ih : ∀ E2, (∃ m, m < n ∧ I m E2) → (whlD (tst cal gl c) (exes cal gl w body) w' E2).wp N B C R Y og := fun E2 ⟨m, hm, hI⟩ => whl_inv I (by omega) hI hs
    cases eo : exes cal gl w body E with
    | no => rw [eo] at h2; exact h2.elim
    | nx E2 => rw [eo] at h2; exact ih E2 h2
    | bk E2 => rw [eo] at h2; exact h2
    | ct E2 => rw [eo] at h2; exact ih E2 h2
    | rt v => rw [eo] at h2; exact h2
    | ex c x E2 => rw [eo] at h2; exact h2
end
/-! ### cuts -/
section
variable {cal : Nat → List D → Rs Vl} {gl : Nat → D} {w : Nat} {N B C : Ev → Prop} {R : Vl → Prop} {Y : Nat → D → Ev → Prop}
theorem s_app {b : List St} : ∀ {a : List St} {E : Ev}, (exes cal gl w (a ++ b) E).wp N B C R Y og = (exes cal gl w a E).wp (fun E => (exes cal gl w b E).wp N B C R Y og) B C R Y og
  | [], E => by rw [List.nil_append, s_nil]
  | s :: r, E => by
    rw [List.cons_append, s_cons, s_cons]
    cases exe cal gl w s E <;> first | rfl | exact s_app (a := r)
/-- what holds after the first k statements -/
theorem cut_at {E : Ev} {body : List St} (k : Nat) (I : Ev → Prop) (h1 : (exes cal gl w (body.take k) E).wp I B C R Y og) (h2 : ∀ E, I E → (exes cal gl w (body.drop k) E).wp N B C R Y og) : (exes cal gl w body E).wp N B C R Y og := by
  have e := s_app (cal := cal) (gl := gl) (w := w) (N := N) (B := B) (C := C) (R := R) (Y := Y) (E := E) (a := body.take k) (b := body.drop k)
  rw [List.take_append_drop] at e
  rw [e]
  exact Out.wp_mono h1 h2 (fun _ z => z) (fun _ z => z) (fun _ z => z) (fun _ _ _ z => z)
end
/-! ### comprehensions -/
section
variable {cal : Nat → List D → Rs Vl} {gl : Nat → D} {Q : Vl → Prop} {X : Nat → D → Prop}
theorem compD_w {α : Type} {bind : D → Option Ev} {test : Ev → Rs Bool} {el : Ev → Rs Vl} (f : α → D) (p : α → Bool) (g : α → D) : ∀ {xs : List α}, (∀ x ∈ xs, ∃ E, bind (f x) = some E ∧ (test E).wp (fun b => b = p x) (fun _ _ => False) tg ∧ (p x = true → (el E).wp (fun v => v.2 = g x ∧ (v.1.bor && !v.2.flat) = false) (fun _ _ => False) tg)) →
    ∃ vs, compD bind test el (xs.map f) = .ok vs ∧ vs.map (·.2) = (xs.filter p).map g ∧ isBor vs = false
  | [], _ => ⟨[], rfl, rfl, rfl⟩
  | x :: r, h => by
    obtain ⟨E, e1, e2, e3⟩ := h x List.mem_cons_self
    obtain ⟨vs, i1, i2, i3⟩ := compD_w f p g (xs := r) fun y hy => h y (List.mem_cons_of_mem _ hy)
    obtain ⟨b, t1, rfl⟩ := Rs.wp_ex_some e2
    cases hp : p x with
    | false => exact ⟨vs, by simp only [un_r, un_o, un_b, List.map_cons, compD, e1, t1, hp, i1], by simp [List.filter_cons, hp, i2], i3⟩
    | true =>
      obtain ⟨v, l1, l2, l3⟩ := Rs.wp_ex_some (e3 hp)
      refine ⟨v :: vs, by simp only [un_r, un_o, un_b, List.map_cons, compD, e1, t1, hp, i1, l1], by simp [List.filter_cons, hp, i2, l2], ?_⟩
      rw [isBor_c, l3, i3]; rfl
theorem v_comp {α : Type} {pt : Pat} {ifs : List Tx} {el : Ex} {E : Ev} (f : α → D) (p : α → Bool) (g : α → D) {xs : List α} (hl : xs.length ≤ 16777216)
    (h : ∀ x ∈ xs, bindW pt (f x) E fun E1 => (tsts cal gl ifs E1).wp (fun b => b = p x) (fun _ _ => False) tg ∧ (p x = true → (den cal gl el E1).wp (fun v => v.2 = g x ∧ (v.1.bor && !v.2.flat) = false) (fun _ _ => False) tg))
    (hq : Q (.sh, .lst ((xs.filter p).map g))) : (compV false (compD (fun d => bindP pt d E) (tsts cal gl ifs) (den cal gl el) (xs.map f))).wp Q X tg := by
  obtain ⟨vs, e1, e2, e3⟩ := compD_w (bind := fun d => bindP pt d E) (test := tsts cal gl ifs) (el := den cal gl el) f p g (xs := xs) fun x hx => by
    obtain ⟨E1, h1, h2, h3⟩ := bindW_ok (h x hx)
    exact ⟨E1, h1, h2, h3⟩
  have hz : vs.length ≤ SZ := by
    rw [SZ_w]
    have := congrArg List.length e2
    simp only [un_r, un_o, un_b, List.length_map] at this
    have h2 := List.length_filter_le p xs
    omega
  rw [e1]
  simp only [un_r, un_o, un_b, compV, hz, if_true, Bool.false_eq_true, if_false, e3, wp_ok0, e2]
  exact hq
/-- without a test -/
theorem v_comp1 {α : Type} {pt : Pat} {el : Ex} {E : Ev} (f : α → D) (g : α → D) {xs : List α} (hl : xs.length ≤ 16777216)
    (h : ∀ x ∈ xs, bindW pt (f x) E fun E1 => (den cal gl el E1).wp (fun v => v.2 = g x ∧ (v.1.bor && !v.2.flat) = false) (fun _ _ => False) tg)
    (hq : Q (.sh, .lst (xs.map g))) : (compV false (compD (fun d => bindP pt d E) (tsts cal gl []) (den cal gl el) (xs.map f))).wp Q X tg := by
  refine v_comp f (fun _ => true) g hl (fun x hx => ?_) (by rw [show xs.filter (fun _ => true) = xs from List.filter_eq_self.mpr fun _ _ => rfl]; exact hq)
  obtain ⟨E1, h1, h2⟩ := bindW_ok (h x hx)
  unfold bindW
  rw [h1]
  exact ⟨by rw [ts_n], fun _ => h2⟩
theorem rngL_map : ∀ (n : Nat) (lo : Int), rngL lo n = (List.range n).map (fun k : Nat => D.int (lo + k))
  | 0, lo => rfl
  | n + 1, lo => by
    rw [rngL, rngL_map n (lo + 1), List.range_succ_eq_map, List.map_cons, List.map_map]
    congr 1
    · simp
    · refine List.map_congr_left fun k _ => ?_
      show D.int _ = D.int _
      congr 1
      simp only [un_r, un_o, un_b, Nat.succ_eq_add_one]
      omega
theorem enumL_map {α : Type} (f : α → D) : ∀ (xs : List α) (j : Nat), enumL j (xs.map f) = (xs.zipIdx j).map (fun q => D.tup [.int q.2, f q.1])
  | [], j => rfl
  | x :: r, j => by
    have := enumL_map f r (j + 1)
    rw [List.map_cons, enumL, List.zipIdx_cons, List.map_cons]
    congr 1
end
theorem optI_n {Q : Option Int → Prop} {X : Nat → D → Prop} {d : D} : (optI (.cst .non) d).wp Q X tg = Q none := by exact Eq.trans rfl rfl
theorem optI_var {Q : Option Int → Prop} {X : Nat → D → Prop} {k : Nat} {i : Int} : (optI (.var k) (.int i)).wp Q X tg = Q (some i) := by exact Eq.trans rfl rfl
theorem optI_lit {Q : Option Int → Prop} {X : Nat → D → Prop} {k : Int} {i : Int} : (optI (.cst (.int k)) (.int i)).wp Q X tg = Q (some i) := by exact Eq.trans rfl rfl
theorem optI_bin {Q : Option Int → Prop} {X : Nat → D → Prop} {op : Op} {a b : Ex} {i : Int} : (optI (.bin op a b) (.int i)).wp Q X tg = Q (some i) := by exact Eq.trans rfl rfl
theorem optI_neg {Q : Option Int → Prop} {X : Nat → D → Prop} {a : Ex} {i : Int} : (optI (.neg a) (.int i)).wp Q X tg = Q (some i) := by exact Eq.trans rfl rfl
theorem optI_idx {Q : Option Int → Prop} {X : Nat → D → Prop} {a b : Ex} {i : Int} : (optI (.idx a b) (.int i)).wp Q X tg = Q (some i) := by exact Eq.trans rfl rfl
theorem optI_bi {Q : Option Int → Prop} {X : Nat → D → Prop} {b : Bi} {es : List Ex} {i : Int} : (optI (.bi b es) (.int i)).wp Q X tg = Q (some i) := by exact Eq.trans rfl rfl
theorem optI_call {Q : Option Int → Prop} {X : Nat → D → Prop} {f : Nat} {es : List Ex} {i : Int} : (optI (.call f es) (.int i)).wp Q X tg = Q (some i) := by exact Eq.trans rfl rfl
theorem optI_gl {Q : Option Int → Prop} {X : Nat → D → Prop} {k : Nat} {i : Int} : (optI (.gl k) (.int i)).wp Q X tg = Q (some i) := by exact Eq.trans rfl rfl
theorem optI_mt {Q : Option Int → Prop} {X : Nat → D → Prop} {b : Mt} {o a : Ex} {i : Int} : (optI (.mt1 b o a) (.int i)).wp Q X tg = Q (some i) := by exact Eq.trans rfl rfl
theorem wipe_n {E : Ev} : wipeE [] E = E := by exact Eq.trans rfl rfl
theorem wipe_c {i : Nat} {r : List Nat} {E : Ev} : wipeE (i :: r) E = (wipeE r E).set i none := by exact Eq.trans rfl rfl
end DP

namespace DP
theorem mem_enumL {k : Int} {ds : List D} {d : D} (h : d ∈ enumL k ds) : ∃ i x, d = .tup [.int i, x] ∧ x ∈ ds := by
  induction ds generalizing k with
  | nil => cases h
  | cons a r ih =>
    rcases List.mem_cons.mp h with rfl | h
    · exact ⟨k, a, rfl, List.mem_cons_self⟩
    · obtain ⟨i, x, e1, e2⟩ := ih h
      exact ⟨i, x, e1, List.mem_cons_of_mem _ e2⟩
/-! the numbers -/
def bNums : List DP.St := [(.set 3 (.bin .mul (.cst (.int 1000003)) (.bin .add (.var 1) (.cst (.int 1))))),
  (.ite (.cmp .lt (.var 1) (.bi .len [(.var 0)])) [(.set 3 (.bi .int1 [(.idx (.var 0) (.var 1))]))] []),
  (.ite (.cmp .lt (.var 3) (.cst (.int 0))) [(.set 3 (.bin .sub (.cst (.int 1)) (.bin .mul (.cst (.int 2)) (.var 3))))] []),
  (.own 4 (.lst false [])),
  (.for_ (.nm 5) (.rng1 (.var 2)) [(.ite (.cmp .ge (.var 3) (.bin .pow (.cst (.int 10)) (.cst (.int 18)))) [(.app 4 (.bin .mod (.var 3) (.cst (.int 1009)))), (.set 3 (.bin .fdiv (.var 3) (.cst (.int 1009))))] [(.set 6 (.bin .mod (.bin .add (.bin .add (.bin .mul (.var 3) (.cst (.int 48271))) (.bin .mul (.bin .add (.var 5) (.cst (.int 1))) (.cst (.int 69621)))) (.bin .mul (.var 1) (.cst (.int 4001)))) (.cst (.int 2147483647)))), (.set 6 (.bin .mod (.bin .add (.bin .mul (.var 6) (.var 6)) (.bin .mul (.cst (.int 16807)) (.bin .add (.var 5) (.cst (.int 3))))) (.cst (.int 2147483629)))), (.app 4 (.bin .mod (.bin .fdiv (.var 6) (.cst (.int 7))) (.cst (.int 1009))))])]),
  (.retV 4)]
def AL : List Nat := [48, 49, 50, 51, 52, 53, 54, 55, 56, 57, 97, 98, 99, 100, 101, 102, 103, 104, 105, 106, 107, 108, 109, 110, 111, 112, 113, 114, 115, 116, 117, 118, 119, 120, 121, 122]
section
variable {Ps : List Fn} {gl : Nat → D} {w n f : Nat} {Q : Vl → Prop} {X : Nat → D → Prop}
theorem nums_w (hP : Ps[f]? = some ⟨bNums, 7, 3⟩) (ns : List Int) {a c : Int} (ha : 0 ≤ a ∧ a ≤ 1000) (hc : 0 ≤ c ∧ c ≤ 1000) (hq : ∀ l : List Int, (l.length : Int) = c → (∀ x ∈ l, 0 ≤ x ∧ x < 1009) → Q (.sh, .lst (l.map .int))) :
    (callD Ps gl w (n + 1) f [.rls (ns.map .int), .int a, .int c]).wp Q X tg := by
  refine w_def hP rfl rfl ?_
  simp only [bNums]
  refine cut_at 3 (fun E => ∃ cell : Int, 0 ≤ cell ∧ E = [some (.fr, .rls (ns.map .int)), some (.fr, .int a), some (.fr, .int c), some (.fr, .int cell), none, none, none]) ?_ ?_
  · (simp only [startE, List.map_cons, List.map_nil, List.length_cons, List.length_nil, Nat.reduceAdd, Nat.reduceSub, List.replicate, List.cons_append, List.nil_append])
    (simp (config := {decide := false}) (disch := first | assumption | omega | (simp only [mb_fu, mb_fr, mb_sh, mb_bs, mb_bf, fl_non, fl_bl, fl_int, fl_str, fl_tup, fl_lst, fl_rls, fl_dic, flL_n, flL_c, flL_int, flL_str, isBor_n, isBor_c, pl_non, pl_bl, pl_int, pl_lst, plL_a, pl_tup, plL_n, plL_c, plL_int, at_non, at_bl, at_int, at_str, co_non, co_bl, co_int, co_str, co_lst, co_tup, List.all_cons, List.all_nil, List.length_cons, List.length_nil, List.length_map, beq_self_eq_true, mkb_shfu, mkb_frfu, Bool.false_and, Bool.true_and, Bool.and_true, Bool.and_false, Bool.and_self, Bool.not_true, Bool.not_false, Bool.or_false, Bool.or_true, Bool.true_or, Bool.false_or, Bool.or_self, ne_eq, reduceCtorEq, not_false_eq_true, not_true_eq_false, List.map_cons, List.map_nil]; done) | (have hSZ : SZ = 16777216 := SZ_w; first | omega | (simp only [List.length_map, List.length_append, List.length_cons, List.length_nil, List.length_reverse, List.length_range, List.length_take, List.length_drop, List.length_replicate] <;> omega))) only [↓wp_ok, ↓wp_ex, ↓wp_bind, ↓w_var, ↓w_cst, ↓w_gl, ↓w_bin, ↓w_neg, ↓w_cmp, ↓w_chain, ↓w_isN, ↓w_notN, ↓w_and, ↓w_or, ↓w_and1, ↓w_and2, ↓w_or1, ↓w_or2, ↓w_not, ↓w_ite, ↓w_lst, ↓w_tup, ↓w_idx, ↓w_slc, ↓w_rev, ↓w_call, ↓w_bi, ↓w_mt1, ↓w_isi, ↓w_comp, ↓w_dcomp, ↓w_dic0, ↓w_dn, ↓w_dc, ↓t_val, ↓t_cmp, ↓t_chain, ↓t_isN, ↓t_notN, ↓t_not, ↓t_and, ↓t_or, ↓t_and1, ↓t_and2, ↓t_or1, ↓t_or2, ↓ts_n, ↓ts_1, ↓i_val, ↓i_rng1, ↓i_rng2, ↓i_enum, ↓i_zip, ↓i_revd, ↓s_nil, ↓s_cons, ↓s_set, ↓s_own, ↓s_par, ↓s_unp, ↓s_aug, ↓s_apd, ↓s_put, ↓s_exp, ↓s_ret, ↓s_retV, ↓s_retN, ↓s_ite, ↓s_for, ↓s_whl, ↓s_brk, ↓s_cnt, ↓s_pas, ↓s_frz, ↓s_nev, ↓s_mtc, ↓m_nil, ↓m_one, ↓m_two, ↓m_any, ↓ow_nx, ↓ow_bk, ↓ow_ct, ↓ow_rt, iw_non, iw_bl, iw_int, iw_str, iw_lst, iw_tup, iw_dic, iw_obj, iw_exc, iw_rls, getV_0, getV_s, getS_0, getS_s, boolW_bl, bindW_nm, bindW_tp, setAll_c, setAll_n, wp_ok, wp_ex, b_addI, b_subI, b_addS, b_addL, b_mulIl, b_mulIr, b_modI, b_divI, b_mulS, w_negI, a_I, a_S, x_lstI, x_rlsI, b_powT, x_lstI', x_str, x_str', x_strM, x_lstM, x_i2, x_i3, x_i4, x_i5, x_i6, x_i11, x_t0, x_t1, x_t2, x_t3, x_l0, cut_to, cut_from, cut_mid, cut_toN, cut_fromN, c_lt, c_le, c_gt, c_ge, c_eq, c_ne, e_same, e_I, e_S, e_B, c_iz, c_niz, c_inS, c_ninS, c_inP, c_ninP, c_inL, c_ninL, c_inT, c_ninT, k_non, k_bl, k_int, k_lst, k_tup, k_str, ty_w, isBor_n, isBor_c, v_lst, v_tup, v_slcL, v_slcS, v_revL, v_revS, bi_1, bi_2, l_lst, l_rls, l_tup, l_str, i_int, i_bl, li_lst, li_tup, li_str, so_int, so_str, al_bl, an_bl, su_int, al_map, an_map, su_map, ab_int, mi_2, ma_2, gc_2, r_joinS, r_indexS, r_indexL, mt_join, it_lst, it_own, it_tup, it_str, rn_ok, en_str, en_lst, zi_lst, re_lst, mb_fu, mb_fr, mb_sh, mb_bs, mb_bf, h_fu, h_fr, h_sh, h_fl, o_fu, o_sh, g_fu, g_fr, g_sh, g_fl, r_some, ol_sh, ol_fu, ap_sh, ap_fu, pu_sh, un_ok, pa_ok, bm_int, bm_str, pm_fr, pm_sh, pm_bs, pm_fu, pm_bf, cm_fr, cm_fu, cm_sh, cm_bs, callM_fl, callM_nb, rdV_fr, rdV_sh, rdV_fu, norm_fl, norm_lst, norm_nf, fl_non, fl_bl, fl_int, fl_str, fl_tup, fl_lst, fl_rls, fl_dic, flL_n, flL_c, flL_int, flL_str, wipe_n, wipe_c, List.set_cons_zero, List.set_cons_succ, List.set_nil, List.map_cons, List.map_nil, List.length_map, List.length_cons, List.length_nil, List.append_nil, List.nil_append, List.take_succ_cons, List.take_zero, List.drop_succ_cons, List.drop_zero, Nat.zero_add, Nat.reduceAdd, Nat.reduceSub, isNon, optI_n, optI_var, optI_lit, optI_bin, optI_neg, optI_idx, optI_bi, optI_call, optI_gl, optI_mt, bq_t, bq_f, bq_not, bq_yes, bq_no, bq_and, bq_or, Bool.not_true, Bool.not_false, Bool.false_and, Bool.true_and, Bool.and_false, Bool.and_true, Bool.or_false, Bool.false_or, Bool.or_true, Bool.true_or, if_true, if_false, Bool.false_eq_true, true_and, and_true, List.any_cons, List.any_nil, List.isEmpty_cons, List.isEmpty_nil, tB_int_non, tB_int_bl, tB_int_int, tB_int_str, tB_int_lst, tB_int_tup, tB_int_dic, tB_bool_non, tB_bool_bl, tB_bool_int, tB_bool_str, tB_bool_lst, tB_bool_tup, tB_bool_dic, tB_str_non, tB_str_bl, tB_str_int, tB_str_str, tB_str_lst, tB_str_tup, tB_str_dic, tB_list_non, tB_list_bl, tB_list_int, tB_list_str, tB_list_lst, tB_list_tup, tB_list_dic, tB_tuple_non, tB_tuple_bl, tB_tuple_int, tB_tuple_str, tB_tuple_lst, tB_tuple_tup, tB_tuple_dic, tB_dict_non, tB_dict_bl, tB_dict_int, tB_dict_str, tB_dict_lst, tB_dict_tup, tB_dict_dic])
    (rw [bq_dec]; refine ⟨fun hd => ?_, fun hd => ?_⟩)
    all_goals
      (simp (config := {decide := false}) (disch := first | assumption | omega | (simp only [mb_fu, mb_fr, mb_sh, mb_bs, mb_bf, fl_non, fl_bl, fl_int, fl_str, fl_tup, fl_lst, fl_rls, fl_dic, flL_n, flL_c, flL_int, flL_str, isBor_n, isBor_c, pl_non, pl_bl, pl_int, pl_lst, plL_a, pl_tup, plL_n, plL_c, plL_int, at_non, at_bl, at_int, at_str, co_non, co_bl, co_int, co_str, co_lst, co_tup, List.all_cons, List.all_nil, List.length_cons, List.length_nil, List.length_map, beq_self_eq_true, mkb_shfu, mkb_frfu, Bool.false_and, Bool.true_and, Bool.and_true, Bool.and_false, Bool.and_self, Bool.not_true, Bool.not_false, Bool.or_false, Bool.or_true, Bool.true_or, Bool.false_or, Bool.or_self, ne_eq, reduceCtorEq, not_false_eq_true, not_true_eq_false, List.map_cons, List.map_nil]; done) | (have hSZ : SZ = 16777216 := SZ_w; first | omega | (simp only [List.length_map, List.length_append, List.length_cons, List.length_nil, List.length_reverse, List.length_range, List.length_take, List.length_drop, List.length_replicate] <;> omega))) only [↓wp_ok, ↓wp_ex, ↓wp_bind, ↓w_var, ↓w_cst, ↓w_gl, ↓w_bin, ↓w_neg, ↓w_cmp, ↓w_chain, ↓w_isN, ↓w_notN, ↓w_and, ↓w_or, ↓w_and1, ↓w_and2, ↓w_or1, ↓w_or2, ↓w_not, ↓w_ite, ↓w_lst, ↓w_tup, ↓w_idx, ↓w_slc, ↓w_rev, ↓w_call, ↓w_bi, ↓w_mt1, ↓w_isi, ↓w_comp, ↓w_dcomp, ↓w_dic0, ↓w_dn, ↓w_dc, ↓t_val, ↓t_cmp, ↓t_chain, ↓t_isN, ↓t_notN, ↓t_not, ↓t_and, ↓t_or, ↓t_and1, ↓t_and2, ↓t_or1, ↓t_or2, ↓ts_n, ↓ts_1, ↓i_val, ↓i_rng1, ↓i_rng2, ↓i_enum, ↓i_zip, ↓i_revd, ↓s_nil, ↓s_cons, ↓s_set, ↓s_own, ↓s_par, ↓s_unp, ↓s_aug, ↓s_apd, ↓s_put, ↓s_exp, ↓s_ret, ↓s_retV, ↓s_retN, ↓s_ite, ↓s_for, ↓s_whl, ↓s_brk, ↓s_cnt, ↓s_pas, ↓s_frz, ↓s_nev, ↓s_mtc, ↓m_nil, ↓m_one, ↓m_two, ↓m_any, ↓ow_nx, ↓ow_bk, ↓ow_ct, ↓ow_rt, iw_non, iw_bl, iw_int, iw_str, iw_lst, iw_tup, iw_dic, iw_obj, iw_exc, iw_rls, getV_0, getV_s, getS_0, getS_s, boolW_bl, bindW_nm, bindW_tp, setAll_c, setAll_n, wp_ok, wp_ex, b_addI, b_subI, b_addS, b_addL, b_mulIl, b_mulIr, b_modI, b_divI, b_mulS, w_negI, a_I, a_S, x_lstI, x_rlsI, b_powT, x_lstI', x_str, x_str', x_strM, x_lstM, x_i2, x_i3, x_i4, x_i5, x_i6, x_i11, x_t0, x_t1, x_t2, x_t3, x_l0, cut_to, cut_from, cut_mid, cut_toN, cut_fromN, c_lt, c_le, c_gt, c_ge, c_eq, c_ne, e_same, e_I, e_S, e_B, c_iz, c_niz, c_inS, c_ninS, c_inP, c_ninP, c_inL, c_ninL, c_inT, c_ninT, k_non, k_bl, k_int, k_lst, k_tup, k_str, ty_w, isBor_n, isBor_c, v_lst, v_tup, v_slcL, v_slcS, v_revL, v_revS, bi_1, bi_2, l_lst, l_rls, l_tup, l_str, i_int, i_bl, li_lst, li_tup, li_str, so_int, so_str, al_bl, an_bl, su_int, al_map, an_map, su_map, ab_int, mi_2, ma_2, gc_2, r_joinS, r_indexS, r_indexL, mt_join, it_lst, it_own, it_tup, it_str, rn_ok, en_str, en_lst, zi_lst, re_lst, mb_fu, mb_fr, mb_sh, mb_bs, mb_bf, h_fu, h_fr, h_sh, h_fl, o_fu, o_sh, g_fu, g_fr, g_sh, g_fl, r_some, ol_sh, ol_fu, ap_sh, ap_fu, pu_sh, un_ok, pa_ok, bm_int, bm_str, pm_fr, pm_sh, pm_bs, pm_fu, pm_bf, cm_fr, cm_fu, cm_sh, cm_bs, callM_fl, callM_nb, rdV_fr, rdV_sh, rdV_fu, norm_fl, norm_lst, norm_nf, fl_non, fl_bl, fl_int, fl_str, fl_tup, fl_lst, fl_rls, fl_dic, flL_n, flL_c, flL_int, flL_str, wipe_n, wipe_c, List.set_cons_zero, List.set_cons_succ, List.set_nil, List.map_cons, List.map_nil, List.length_map, List.length_cons, List.length_nil, List.append_nil, List.nil_append, List.take_succ_cons, List.take_zero, List.drop_succ_cons, List.drop_zero, Nat.zero_add, Nat.reduceAdd, Nat.reduceSub, isNon, optI_n, optI_var, optI_lit, optI_bin, optI_neg, optI_idx, optI_bi, optI_call, optI_gl, optI_mt, bq_t, bq_f, bq_not, bq_yes, bq_no, bq_and, bq_or, Bool.not_true, Bool.not_false, Bool.false_and, Bool.true_and, Bool.and_false, Bool.and_true, Bool.or_false, Bool.false_or, Bool.or_true, Bool.true_or, if_true, if_false, Bool.false_eq_true, true_and, and_true, List.any_cons, List.any_nil, List.isEmpty_cons, List.isEmpty_nil, tB_int_non, tB_int_bl, tB_int_int, tB_int_str, tB_int_lst, tB_int_tup, tB_int_dic, tB_bool_non, tB_bool_bl, tB_bool_int, tB_bool_str, tB_bool_lst, tB_bool_tup, tB_bool_dic, tB_str_non, tB_str_bl, tB_str_int, tB_str_str, tB_str_lst, tB_str_tup, tB_str_dic, tB_list_non, tB_list_bl, tB_list_int, tB_list_str, tB_list_lst, tB_list_tup, tB_list_dic, tB_tuple_non, tB_tuple_bl, tB_tuple_int, tB_tuple_str, tB_tuple_lst, tB_tuple_tup, tB_tuple_dic, tB_dict_non, tB_dict_bl, tB_dict_int, tB_dict_str, tB_dict_lst, tB_dict_tup, tB_dict_dic])
      first
        | exact ⟨_, by omega, rfl⟩
        | ((rw [bq_dec]; refine ⟨fun hd => ?_, fun hd => ?_⟩)
           all_goals
             (simp (config := {decide := false}) (disch := first | assumption | omega | (simp only [mb_fu, mb_fr, mb_sh, mb_bs, mb_bf, fl_non, fl_bl, fl_int, fl_str, fl_tup, fl_lst, fl_rls, fl_dic, flL_n, flL_c, flL_int, flL_str, isBor_n, isBor_c, pl_non, pl_bl, pl_int, pl_lst, plL_a, pl_tup, plL_n, plL_c, plL_int, at_non, at_bl, at_int, at_str, co_non, co_bl, co_int, co_str, co_lst, co_tup, List.all_cons, List.all_nil, List.length_cons, List.length_nil, List.length_map, beq_self_eq_true, mkb_shfu, mkb_frfu, Bool.false_and, Bool.true_and, Bool.and_true, Bool.and_false, Bool.and_self, Bool.not_true, Bool.not_false, Bool.or_false, Bool.or_true, Bool.true_or, Bool.false_or, Bool.or_self, ne_eq, reduceCtorEq, not_false_eq_true, not_true_eq_false, List.map_cons, List.map_nil]; done) | (have hSZ : SZ = 16777216 := SZ_w; first | omega | (simp only [List.length_map, List.length_append, List.length_cons, List.length_nil, List.length_reverse, List.length_range, List.length_take, List.length_drop, List.length_replicate] <;> omega))) only [↓wp_ok, ↓wp_ex, ↓wp_bind, ↓w_var, ↓w_cst, ↓w_gl, ↓w_bin, ↓w_neg, ↓w_cmp, ↓w_chain, ↓w_isN, ↓w_notN, ↓w_and, ↓w_or, ↓w_and1, ↓w_and2, ↓w_or1, ↓w_or2, ↓w_not, ↓w_ite, ↓w_lst, ↓w_tup, ↓w_idx, ↓w_slc, ↓w_rev, ↓w_call, ↓w_bi, ↓w_mt1, ↓w_isi, ↓w_comp, ↓w_dcomp, ↓w_dic0, ↓w_dn, ↓w_dc, ↓t_val, ↓t_cmp, ↓t_chain, ↓t_isN, ↓t_notN, ↓t_not, ↓t_and, ↓t_or, ↓t_and1, ↓t_and2, ↓t_or1, ↓t_or2, ↓ts_n, ↓ts_1, ↓i_val, ↓i_rng1, ↓i_rng2, ↓i_enum, ↓i_zip, ↓i_revd, ↓s_nil, ↓s_cons, ↓s_set, ↓s_own, ↓s_par, ↓s_unp, ↓s_aug, ↓s_apd, ↓s_put, ↓s_exp, ↓s_ret, ↓s_retV, ↓s_retN, ↓s_ite, ↓s_for, ↓s_whl, ↓s_brk, ↓s_cnt, ↓s_pas, ↓s_frz, ↓s_nev, ↓s_mtc, ↓m_nil, ↓m_one, ↓m_two, ↓m_any, ↓ow_nx, ↓ow_bk, ↓ow_ct, ↓ow_rt, iw_non, iw_bl, iw_int, iw_str, iw_lst, iw_tup, iw_dic, iw_obj, iw_exc, iw_rls, getV_0, getV_s, getS_0, getS_s, boolW_bl, bindW_nm, bindW_tp, setAll_c, setAll_n, wp_ok, wp_ex, b_addI, b_subI, b_addS, b_addL, b_mulIl, b_mulIr, b_modI, b_divI, b_mulS, w_negI, a_I, a_S, x_lstI, x_rlsI, b_powT, x_lstI', x_str, x_str', x_strM, x_lstM, x_i2, x_i3, x_i4, x_i5, x_i6, x_i11, x_t0, x_t1, x_t2, x_t3, x_l0, cut_to, cut_from, cut_mid, cut_toN, cut_fromN, c_lt, c_le, c_gt, c_ge, c_eq, c_ne, e_same, e_I, e_S, e_B, c_iz, c_niz, c_inS, c_ninS, c_inP, c_ninP, c_inL, c_ninL, c_inT, c_ninT, k_non, k_bl, k_int, k_lst, k_tup, k_str, ty_w, isBor_n, isBor_c, v_lst, v_tup, v_slcL, v_slcS, v_revL, v_revS, bi_1, bi_2, l_lst, l_rls, l_tup, l_str, i_int, i_bl, li_lst, li_tup, li_str, so_int, so_str, al_bl, an_bl, su_int, al_map, an_map, su_map, ab_int, mi_2, ma_2, gc_2, r_joinS, r_indexS, r_indexL, mt_join, it_lst, it_own, it_tup, it_str, rn_ok, en_str, en_lst, zi_lst, re_lst, mb_fu, mb_fr, mb_sh, mb_bs, mb_bf, h_fu, h_fr, h_sh, h_fl, o_fu, o_sh, g_fu, g_fr, g_sh, g_fl, r_some, ol_sh, ol_fu, ap_sh, ap_fu, pu_sh, un_ok, pa_ok, bm_int, bm_str, pm_fr, pm_sh, pm_bs, pm_fu, pm_bf, cm_fr, cm_fu, cm_sh, cm_bs, callM_fl, callM_nb, rdV_fr, rdV_sh, rdV_fu, norm_fl, norm_lst, norm_nf, fl_non, fl_bl, fl_int, fl_str, fl_tup, fl_lst, fl_rls, fl_dic, flL_n, flL_c, flL_int, flL_str, wipe_n, wipe_c, List.set_cons_zero, List.set_cons_succ, List.set_nil, List.map_cons, List.map_nil, List.length_map, List.length_cons, List.length_nil, List.append_nil, List.nil_append, List.take_succ_cons, List.take_zero, List.drop_succ_cons, List.drop_zero, Nat.zero_add, Nat.reduceAdd, Nat.reduceSub, isNon, optI_n, optI_var, optI_lit, optI_bin, optI_neg, optI_idx, optI_bi, optI_call, optI_gl, optI_mt, bq_t, bq_f, bq_not, bq_yes, bq_no, bq_and, bq_or, Bool.not_true, Bool.not_false, Bool.false_and, Bool.true_and, Bool.and_false, Bool.and_true, Bool.or_false, Bool.false_or, Bool.or_true, Bool.true_or, if_true, if_false, Bool.false_eq_true, true_and, and_true, List.any_cons, List.any_nil, List.isEmpty_cons, List.isEmpty_nil, tB_int_non, tB_int_bl, tB_int_int, tB_int_str, tB_int_lst, tB_int_tup, tB_int_dic, tB_bool_non, tB_bool_bl, tB_bool_int, tB_bool_str, tB_bool_lst, tB_bool_tup, tB_bool_dic, tB_str_non, tB_str_bl, tB_str_int, tB_str_str, tB_str_lst, tB_str_tup, tB_str_dic, tB_list_non, tB_list_bl, tB_list_int, tB_list_str, tB_list_lst, tB_list_tup, tB_list_dic, tB_tuple_non, tB_tuple_bl, tB_tuple_int, tB_tuple_str, tB_tuple_lst, tB_tuple_tup, tB_tuple_dic, tB_dict_non, tB_dict_bl, tB_dict_int, tB_dict_str, tB_dict_lst, tB_dict_tup, tB_dict_dic])
             exact ⟨_, by omega, rfl⟩)
  rintro E ⟨cell, h0, rfl⟩
  (simp (config := {decide := false}) (disch := first | assumption | omega | (simp only [mb_fu, mb_fr, mb_sh, mb_bs, mb_bf, fl_non, fl_bl, fl_int, fl_str, fl_tup, fl_lst, fl_rls, fl_dic, flL_n, flL_c, flL_int, flL_str, isBor_n, isBor_c, pl_non, pl_bl, pl_int, pl_lst, plL_a, pl_tup, plL_n, plL_c, plL_int, at_non, at_bl, at_int, at_str, co_non, co_bl, co_int, co_str, co_lst, co_tup, List.all_cons, List.all_nil, List.length_cons, List.length_nil, List.length_map, beq_self_eq_true, mkb_shfu, mkb_frfu, Bool.false_and, Bool.true_and, Bool.and_true, Bool.and_false, Bool.and_self, Bool.not_true, Bool.not_false, Bool.or_false, Bool.or_true, Bool.true_or, Bool.false_or, Bool.or_self, ne_eq, reduceCtorEq, not_false_eq_true, not_true_eq_false, List.map_cons, List.map_nil]; done) | (have hSZ : SZ = 16777216 := SZ_w; first | omega | (simp only [List.length_map, List.length_append, List.length_cons, List.length_nil, List.length_reverse, List.length_range, List.length_take, List.length_drop, List.length_replicate] <;> omega))) only [↓wp_ok, ↓wp_ex, ↓wp_bind, ↓w_var, ↓w_cst, ↓w_gl, ↓w_bin, ↓w_neg, ↓w_cmp, ↓w_chain, ↓w_isN, ↓w_notN, ↓w_and, ↓w_or, ↓w_and1, ↓w_and2, ↓w_or1, ↓w_or2, ↓w_not, ↓w_ite, ↓w_lst, ↓w_tup, ↓w_idx, ↓w_slc, ↓w_rev, ↓w_call, ↓w_bi, ↓w_mt1, ↓w_isi, ↓w_comp, ↓w_dcomp, ↓w_dic0, ↓w_dn, ↓w_dc, ↓t_val, ↓t_cmp, ↓t_chain, ↓t_isN, ↓t_notN, ↓t_not, ↓t_and, ↓t_or, ↓t_and1, ↓t_and2, ↓t_or1, ↓t_or2, ↓ts_n, ↓ts_1, ↓i_val, ↓i_rng1, ↓i_rng2, ↓i_enum, ↓i_zip, ↓i_revd, ↓s_nil, ↓s_cons, ↓s_set, ↓s_own, ↓s_par, ↓s_unp, ↓s_aug, ↓s_apd, ↓s_put, ↓s_exp, ↓s_ret, ↓s_retV, ↓s_retN, ↓s_ite, ↓s_for, ↓s_whl, ↓s_brk, ↓s_cnt, ↓s_pas, ↓s_frz, ↓s_nev, ↓s_mtc, ↓m_nil, ↓m_one, ↓m_two, ↓m_any, ↓ow_nx, ↓ow_bk, ↓ow_ct, ↓ow_rt, iw_non, iw_bl, iw_int, iw_str, iw_lst, iw_tup, iw_dic, iw_obj, iw_exc, iw_rls, getV_0, getV_s, getS_0, getS_s, boolW_bl, bindW_nm, bindW_tp, setAll_c, setAll_n, wp_ok, wp_ex, b_addI, b_subI, b_addS, b_addL, b_mulIl, b_mulIr, b_modI, b_divI, b_mulS, w_negI, a_I, a_S, x_lstI, x_rlsI, b_powT, x_lstI', x_str, x_str', x_strM, x_lstM, x_i2, x_i3, x_i4, x_i5, x_i6, x_i11, x_t0, x_t1, x_t2, x_t3, x_l0, cut_to, cut_from, cut_mid, cut_toN, cut_fromN, c_lt, c_le, c_gt, c_ge, c_eq, c_ne, e_same, e_I, e_S, e_B, c_iz, c_niz, c_inS, c_ninS, c_inP, c_ninP, c_inL, c_ninL, c_inT, c_ninT, k_non, k_bl, k_int, k_lst, k_tup, k_str, ty_w, isBor_n, isBor_c, v_lst, v_tup, v_slcL, v_slcS, v_revL, v_revS, bi_1, bi_2, l_lst, l_rls, l_tup, l_str, i_int, i_bl, li_lst, li_tup, li_str, so_int, so_str, al_bl, an_bl, su_int, al_map, an_map, su_map, ab_int, mi_2, ma_2, gc_2, r_joinS, r_indexS, r_indexL, mt_join, it_lst, it_own, it_tup, it_str, rn_ok, en_str, en_lst, zi_lst, re_lst, mb_fu, mb_fr, mb_sh, mb_bs, mb_bf, h_fu, h_fr, h_sh, h_fl, o_fu, o_sh, g_fu, g_fr, g_sh, g_fl, r_some, ol_sh, ol_fu, ap_sh, ap_fu, pu_sh, un_ok, pa_ok, bm_int, bm_str, pm_fr, pm_sh, pm_bs, pm_fu, pm_bf, cm_fr, cm_fu, cm_sh, cm_bs, callM_fl, callM_nb, rdV_fr, rdV_sh, rdV_fu, norm_fl, norm_lst, norm_nf, fl_non, fl_bl, fl_int, fl_str, fl_tup, fl_lst, fl_rls, fl_dic, flL_n, flL_c, flL_int, flL_str, wipe_n, wipe_c, List.set_cons_zero, List.set_cons_succ, List.set_nil, List.map_cons, List.map_nil, List.length_map, List.length_cons, List.length_nil, List.append_nil, List.nil_append, List.take_succ_cons, List.take_zero, List.drop_succ_cons, List.drop_zero, Nat.zero_add, Nat.reduceAdd, Nat.reduceSub, isNon, optI_n, optI_var, optI_lit, optI_bin, optI_neg, optI_idx, optI_bi, optI_call, optI_gl, optI_mt, bq_t, bq_f, bq_not, bq_yes, bq_no, bq_and, bq_or, Bool.not_true, Bool.not_false, Bool.false_and, Bool.true_and, Bool.and_false, Bool.and_true, Bool.or_false, Bool.false_or, Bool.or_true, Bool.true_or, if_true, if_false, Bool.false_eq_true, true_and, and_true, List.any_cons, List.any_nil, List.isEmpty_cons, List.isEmpty_nil, tB_int_non, tB_int_bl, tB_int_int, tB_int_str, tB_int_lst, tB_int_tup, tB_int_dic, tB_bool_non, tB_bool_bl, tB_bool_int, tB_bool_str, tB_bool_lst, tB_bool_tup, tB_bool_dic, tB_str_non, tB_str_bl, tB_str_int, tB_str_str, tB_str_lst, tB_str_tup, tB_str_dic, tB_list_non, tB_list_bl, tB_list_int, tB_list_str, tB_list_lst, tB_list_tup, tB_list_dic, tB_tuple_non, tB_tuple_bl, tB_tuple_int, tB_tuple_str, tB_tuple_lst, tB_tuple_tup, tB_tuple_dic, tB_dict_non, tB_dict_bl, tB_dict_int, tB_dict_str, tB_dict_lst, tB_dict_tup, tB_dict_dic])
  refine for_rng (fun i E => ∃ l cell p q, (l.length : Int) = i ∧ (∀ x ∈ l, 0 ≤ x ∧ x < 1009) ∧ 0 ≤ cell ∧ E = [some (.fr, .rls (ns.map .int)), some (.fr, .int a), some (.fr, .int c), some (.fr, .int cell), some (.sh, .lst (l.map .int)), p, q]) ⟨[], cell, none, none, rfl, (fun _ z => by cases z), h0, rfl⟩ ?_ ?_
  · rintro i E h1 h2 ⟨l, cell, p, q, hl, hb, hc0, rfl⟩
    (simp (config := {decide := false}) (disch := first | assumption | omega | (simp only [mb_fu, mb_fr, mb_sh, mb_bs, mb_bf, fl_non, fl_bl, fl_int, fl_str, fl_tup, fl_lst, fl_rls, fl_dic, flL_n, flL_c, flL_int, flL_str, isBor_n, isBor_c, pl_non, pl_bl, pl_int, pl_lst, plL_a, pl_tup, plL_n, plL_c, plL_int, at_non, at_bl, at_int, at_str, co_non, co_bl, co_int, co_str, co_lst, co_tup, List.all_cons, List.all_nil, List.length_cons, List.length_nil, List.length_map, beq_self_eq_true, mkb_shfu, mkb_frfu, Bool.false_and, Bool.true_and, Bool.and_true, Bool.and_false, Bool.and_self, Bool.not_true, Bool.not_false, Bool.or_false, Bool.or_true, Bool.true_or, Bool.false_or, Bool.or_self, ne_eq, reduceCtorEq, not_false_eq_true, not_true_eq_false, List.map_cons, List.map_nil]; done) | (have hSZ : SZ = 16777216 := SZ_w; first | omega | (simp only [List.length_map, List.length_append, List.length_cons, List.length_nil, List.length_reverse, List.length_range, List.length_take, List.length_drop, List.length_replicate] <;> omega))) only [↓wp_ok, ↓wp_ex, ↓wp_bind, ↓w_var, ↓w_cst, ↓w_gl, ↓w_bin, ↓w_neg, ↓w_cmp, ↓w_chain, ↓w_isN, ↓w_notN, ↓w_and, ↓w_or, ↓w_and1, ↓w_and2, ↓w_or1, ↓w_or2, ↓w_not, ↓w_ite, ↓w_lst, ↓w_tup, ↓w_idx, ↓w_slc, ↓w_rev, ↓w_call, ↓w_bi, ↓w_mt1, ↓w_isi, ↓w_comp, ↓w_dcomp, ↓w_dic0, ↓w_dn, ↓w_dc, ↓t_val, ↓t_cmp, ↓t_chain, ↓t_isN, ↓t_notN, ↓t_not, ↓t_and, ↓t_or, ↓t_and1, ↓t_and2, ↓t_or1, ↓t_or2, ↓ts_n, ↓ts_1, ↓i_val, ↓i_rng1, ↓i_rng2, ↓i_enum, ↓i_zip, ↓i_revd, ↓s_nil, ↓s_cons, ↓s_set, ↓s_own, ↓s_par, ↓s_unp, ↓s_aug, ↓s_apd, ↓s_put, ↓s_exp, ↓s_ret, ↓s_retV, ↓s_retN, ↓s_ite, ↓s_for, ↓s_whl, ↓s_brk, ↓s_cnt, ↓s_pas, ↓s_frz, ↓s_nev, ↓s_mtc, ↓m_nil, ↓m_one, ↓m_two, ↓m_any, ↓ow_nx, ↓ow_bk, ↓ow_ct, ↓ow_rt, iw_non, iw_bl, iw_int, iw_str, iw_lst, iw_tup, iw_dic, iw_obj, iw_exc, iw_rls, getV_0, getV_s, getS_0, getS_s, boolW_bl, bindW_nm, bindW_tp, setAll_c, setAll_n, wp_ok, wp_ex, b_addI, b_subI, b_addS, b_addL, b_mulIl, b_mulIr, b_modI, b_divI, b_mulS, w_negI, a_I, a_S, x_lstI, x_rlsI, b_powT, x_lstI', x_str, x_str', x_strM, x_lstM, x_i2, x_i3, x_i4, x_i5, x_i6, x_i11, x_t0, x_t1, x_t2, x_t3, x_l0, cut_to, cut_from, cut_mid, cut_toN, cut_fromN, c_lt, c_le, c_gt, c_ge, c_eq, c_ne, e_same, e_I, e_S, e_B, c_iz, c_niz, c_inS, c_ninS, c_inP, c_ninP, c_inL, c_ninL, c_inT, c_ninT, k_non, k_bl, k_int, k_lst, k_tup, k_str, ty_w, isBor_n, isBor_c, v_lst, v_tup, v_slcL, v_slcS, v_revL, v_revS, bi_1, bi_2, l_lst, l_rls, l_tup, l_str, i_int, i_bl, li_lst, li_tup, li_str, so_int, so_str, al_bl, an_bl, su_int, al_map, an_map, su_map, ab_int, mi_2, ma_2, gc_2, r_joinS, r_indexS, r_indexL, mt_join, it_lst, it_own, it_tup, it_str, rn_ok, en_str, en_lst, zi_lst, re_lst, mb_fu, mb_fr, mb_sh, mb_bs, mb_bf, h_fu, h_fr, h_sh, h_fl, o_fu, o_sh, g_fu, g_fr, g_sh, g_fl, r_some, ol_sh, ol_fu, ap_sh, ap_fu, pu_sh, un_ok, pa_ok, bm_int, bm_str, pm_fr, pm_sh, pm_bs, pm_fu, pm_bf, cm_fr, cm_fu, cm_sh, cm_bs, callM_fl, callM_nb, rdV_fr, rdV_sh, rdV_fu, norm_fl, norm_lst, norm_nf, fl_non, fl_bl, fl_int, fl_str, fl_tup, fl_lst, fl_rls, fl_dic, flL_n, flL_c, flL_int, flL_str, wipe_n, wipe_c, List.set_cons_zero, List.set_cons_succ, List.set_nil, List.map_cons, List.map_nil, List.length_map, List.length_cons, List.length_nil, List.append_nil, List.nil_append, List.take_succ_cons, List.take_zero, List.drop_succ_cons, List.drop_zero, Nat.zero_add, Nat.reduceAdd, Nat.reduceSub, isNon, optI_n, optI_var, optI_lit, optI_bin, optI_neg, optI_idx, optI_bi, optI_call, optI_gl, optI_mt, bq_t, bq_f, bq_not, bq_yes, bq_no, bq_and, bq_or, Bool.not_true, Bool.not_false, Bool.false_and, Bool.true_and, Bool.and_false, Bool.and_true, Bool.or_false, Bool.false_or, Bool.or_true, Bool.true_or, if_true, if_false, Bool.false_eq_true, true_and, and_true, List.any_cons, List.any_nil, List.isEmpty_cons, List.isEmpty_nil, tB_int_non, tB_int_bl, tB_int_int, tB_int_str, tB_int_lst, tB_int_tup, tB_int_dic, tB_bool_non, tB_bool_bl, tB_bool_int, tB_bool_str, tB_bool_lst, tB_bool_tup, tB_bool_dic, tB_str_non, tB_str_bl, tB_str_int, tB_str_str, tB_str_lst, tB_str_tup, tB_str_dic, tB_list_non, tB_list_bl, tB_list_int, tB_list_str, tB_list_lst, tB_list_tup, tB_list_dic, tB_tuple_non, tB_tuple_bl, tB_tuple_int, tB_tuple_str, tB_tuple_lst, tB_tuple_tup, tB_tuple_dic, tB_dict_non, tB_dict_bl, tB_dict_int, tB_dict_str, tB_dict_lst, tB_dict_tup, tB_dict_dic])
    rw [bq_dec]
    refine ⟨fun hd => ?_, fun hd => ?_⟩
    · (simp (config := {decide := false}) (disch := first | assumption | omega | (simp only [mb_fu, mb_fr, mb_sh, mb_bs, mb_bf, fl_non, fl_bl, fl_int, fl_str, fl_tup, fl_lst, fl_rls, fl_dic, flL_n, flL_c, flL_int, flL_str, isBor_n, isBor_c, pl_non, pl_bl, pl_int, pl_lst, plL_a, pl_tup, plL_n, plL_c, plL_int, at_non, at_bl, at_int, at_str, co_non, co_bl, co_int, co_str, co_lst, co_tup, List.all_cons, List.all_nil, List.length_cons, List.length_nil, List.length_map, beq_self_eq_true, mkb_shfu, mkb_frfu, Bool.false_and, Bool.true_and, Bool.and_true, Bool.and_false, Bool.and_self, Bool.not_true, Bool.not_false, Bool.or_false, Bool.or_true, Bool.true_or, Bool.false_or, Bool.or_self, ne_eq, reduceCtorEq, not_false_eq_true, not_true_eq_false, List.map_cons, List.map_nil]; done) | (have hSZ : SZ = 16777216 := SZ_w; first | omega | (simp only [List.length_map, List.length_append, List.length_cons, List.length_nil, List.length_reverse, List.length_range, List.length_take, List.length_drop, List.length_replicate] <;> omega))) only [↓wp_ok, ↓wp_ex, ↓wp_bind, ↓w_var, ↓w_cst, ↓w_gl, ↓w_bin, ↓w_neg, ↓w_cmp, ↓w_chain, ↓w_isN, ↓w_notN, ↓w_and, ↓w_or, ↓w_and1, ↓w_and2, ↓w_or1, ↓w_or2, ↓w_not, ↓w_ite, ↓w_lst, ↓w_tup, ↓w_idx, ↓w_slc, ↓w_rev, ↓w_call, ↓w_bi, ↓w_mt1, ↓w_isi, ↓w_comp, ↓w_dcomp, ↓w_dic0, ↓w_dn, ↓w_dc, ↓t_val, ↓t_cmp, ↓t_chain, ↓t_isN, ↓t_notN, ↓t_not, ↓t_and, ↓t_or, ↓t_and1, ↓t_and2, ↓t_or1, ↓t_or2, ↓ts_n, ↓ts_1, ↓i_val, ↓i_rng1, ↓i_rng2, ↓i_enum, ↓i_zip, ↓i_revd, ↓s_nil, ↓s_cons, ↓s_set, ↓s_own, ↓s_par, ↓s_unp, ↓s_aug, ↓s_apd, ↓s_put, ↓s_exp, ↓s_ret, ↓s_retV, ↓s_retN, ↓s_ite, ↓s_for, ↓s_whl, ↓s_brk, ↓s_cnt, ↓s_pas, ↓s_frz, ↓s_nev, ↓s_mtc, ↓m_nil, ↓m_one, ↓m_two, ↓m_any, ↓ow_nx, ↓ow_bk, ↓ow_ct, ↓ow_rt, iw_non, iw_bl, iw_int, iw_str, iw_lst, iw_tup, iw_dic, iw_obj, iw_exc, iw_rls, getV_0, getV_s, getS_0, getS_s, boolW_bl, bindW_nm, bindW_tp, setAll_c, setAll_n, wp_ok, wp_ex, b_addI, b_subI, b_addS, b_addL, b_mulIl, b_mulIr, b_modI, b_divI, b_mulS, w_negI, a_I, a_S, x_lstI, x_rlsI, b_powT, x_lstI', x_str, x_str', x_strM, x_lstM, x_i2, x_i3, x_i4, x_i5, x_i6, x_i11, x_t0, x_t1, x_t2, x_t3, x_l0, cut_to, cut_from, cut_mid, cut_toN, cut_fromN, c_lt, c_le, c_gt, c_ge, c_eq, c_ne, e_same, e_I, e_S, e_B, c_iz, c_niz, c_inS, c_ninS, c_inP, c_ninP, c_inL, c_ninL, c_inT, c_ninT, k_non, k_bl, k_int, k_lst, k_tup, k_str, ty_w, isBor_n, isBor_c, v_lst, v_tup, v_slcL, v_slcS, v_revL, v_revS, bi_1, bi_2, l_lst, l_rls, l_tup, l_str, i_int, i_bl, li_lst, li_tup, li_str, so_int, so_str, al_bl, an_bl, su_int, al_map, an_map, su_map, ab_int, mi_2, ma_2, gc_2, r_joinS, r_indexS, r_indexL, mt_join, it_lst, it_own, it_tup, it_str, rn_ok, en_str, en_lst, zi_lst, re_lst, mb_fu, mb_fr, mb_sh, mb_bs, mb_bf, h_fu, h_fr, h_sh, h_fl, o_fu, o_sh, g_fu, g_fr, g_sh, g_fl, r_some, ol_sh, ol_fu, ap_sh, ap_fu, pu_sh, un_ok, pa_ok, bm_int, bm_str, pm_fr, pm_sh, pm_bs, pm_fu, pm_bf, cm_fr, cm_fu, cm_sh, cm_bs, callM_fl, callM_nb, rdV_fr, rdV_sh, rdV_fu, norm_fl, norm_lst, norm_nf, fl_non, fl_bl, fl_int, fl_str, fl_tup, fl_lst, fl_rls, fl_dic, flL_n, flL_c, flL_int, flL_str, wipe_n, wipe_c, List.set_cons_zero, List.set_cons_succ, List.set_nil, List.map_cons, List.map_nil, List.length_map, List.length_cons, List.length_nil, List.append_nil, List.nil_append, List.take_succ_cons, List.take_zero, List.drop_succ_cons, List.drop_zero, Nat.zero_add, Nat.reduceAdd, Nat.reduceSub, isNon, optI_n, optI_var, optI_lit, optI_bin, optI_neg, optI_idx, optI_bi, optI_call, optI_gl, optI_mt, bq_t, bq_f, bq_not, bq_yes, bq_no, bq_and, bq_or, Bool.not_true, Bool.not_false, Bool.false_and, Bool.true_and, Bool.and_false, Bool.and_true, Bool.or_false, Bool.false_or, Bool.or_true, Bool.true_or, if_true, if_false, Bool.false_eq_true, true_and, and_true, List.any_cons, List.any_nil, List.isEmpty_cons, List.isEmpty_nil, tB_int_non, tB_int_bl, tB_int_int, tB_int_str, tB_int_lst, tB_int_tup, tB_int_dic, tB_bool_non, tB_bool_bl, tB_bool_int, tB_bool_str, tB_bool_lst, tB_bool_tup, tB_bool_dic, tB_str_non, tB_str_bl, tB_str_int, tB_str_str, tB_str_lst, tB_str_tup, tB_str_dic, tB_list_non, tB_list_bl, tB_list_int, tB_list_str, tB_list_lst, tB_list_tup, tB_list_dic, tB_tuple_non, tB_tuple_bl, tB_tuple_int, tB_tuple_str, tB_tuple_lst, tB_tuple_tup, tB_tuple_dic, tB_dict_non, tB_dict_bl, tB_dict_int, tB_dict_str, tB_dict_lst, tB_dict_tup, tB_dict_dic])
      refine ⟨l ++ [cell % 1009], cell / 1009, _, _, by simp; omega, fun x hx => ?_, Int.ediv_nonneg hc0 (by decide), by rw [List.map_append]; rfl⟩
      rcases List.mem_append.mp hx with z | z
      · exact hb x z
      · have : x = cell % 1009 := by simpa using z
        omega
    · have hm := Int.emod_nonneg (cell * 48271 + (i + 1) * 69621 + a * 4001) (b := 2147483647) (by decide)
      have hm2 := Int.emod_lt_of_pos (cell * 48271 + (i + 1) * 69621 + a * 4001) (b := 2147483647) (by decide)
      generalize hM : (cell * 48271 + (i + 1) * 69621 + a * 4001) % 2147483647 = M at hm hm2
      (simp (config := {decide := false}) (disch := first | assumption | omega | (simp only [mb_fu, mb_fr, mb_sh, mb_bs, mb_bf, fl_non, fl_bl, fl_int, fl_str, fl_tup, fl_lst, fl_rls, fl_dic, flL_n, flL_c, flL_int, flL_str, isBor_n, isBor_c, pl_non, pl_bl, pl_int, pl_lst, plL_a, pl_tup, plL_n, plL_c, plL_int, at_non, at_bl, at_int, at_str, co_non, co_bl, co_int, co_str, co_lst, co_tup, List.all_cons, List.all_nil, List.length_cons, List.length_nil, List.length_map, beq_self_eq_true, mkb_shfu, mkb_frfu, Bool.false_and, Bool.true_and, Bool.and_true, Bool.and_false, Bool.and_self, Bool.not_true, Bool.not_false, Bool.or_false, Bool.or_true, Bool.true_or, Bool.false_or, Bool.or_self, ne_eq, reduceCtorEq, not_false_eq_true, not_true_eq_false, List.map_cons, List.map_nil]; done) | (have hSZ : SZ = 16777216 := SZ_w; first | omega | (simp only [List.length_map, List.length_append, List.length_cons, List.length_nil, List.length_reverse, List.length_range, List.length_take, List.length_drop, List.length_replicate] <;> omega))) only [hM, ↓wp_ok, ↓wp_ex, ↓wp_bind, ↓w_var, ↓w_cst, ↓w_gl, ↓w_bin, ↓w_neg, ↓w_cmp, ↓w_chain, ↓w_isN, ↓w_notN, ↓w_and, ↓w_or, ↓w_and1, ↓w_and2, ↓w_or1, ↓w_or2, ↓w_not, ↓w_ite, ↓w_lst, ↓w_tup, ↓w_idx, ↓w_slc, ↓w_rev, ↓w_call, ↓w_bi, ↓w_mt1, ↓w_isi, ↓w_comp, ↓w_dcomp, ↓w_dic0, ↓w_dn, ↓w_dc, ↓t_val, ↓t_cmp, ↓t_chain, ↓t_isN, ↓t_notN, ↓t_not, ↓t_and, ↓t_or, ↓t_and1, ↓t_and2, ↓t_or1, ↓t_or2, ↓ts_n, ↓ts_1, ↓i_val, ↓i_rng1, ↓i_rng2, ↓i_enum, ↓i_zip, ↓i_revd, ↓s_nil, ↓s_cons, ↓s_set, ↓s_own, ↓s_par, ↓s_unp, ↓s_aug, ↓s_apd, ↓s_put, ↓s_exp, ↓s_ret, ↓s_retV, ↓s_retN, ↓s_ite, ↓s_for, ↓s_whl, ↓s_brk, ↓s_cnt, ↓s_pas, ↓s_frz, ↓s_nev, ↓s_mtc, ↓m_nil, ↓m_one, ↓m_two, ↓m_any, ↓ow_nx, ↓ow_bk, ↓ow_ct, ↓ow_rt, iw_non, iw_bl, iw_int, iw_str, iw_lst, iw_tup, iw_dic, iw_obj, iw_exc, iw_rls, getV_0, getV_s, getS_0, getS_s, boolW_bl, bindW_nm, bindW_tp, setAll_c, setAll_n, wp_ok, wp_ex, b_addI, b_subI, b_addS, b_addL, b_mulIl, b_mulIr, b_modI, b_divI, b_mulS, w_negI, a_I, a_S, x_lstI, x_rlsI, b_powT, x_lstI', x_str, x_str', x_strM, x_lstM, x_i2, x_i3, x_i4, x_i5, x_i6, x_i11, x_t0, x_t1, x_t2, x_t3, x_l0, cut_to, cut_from, cut_mid, cut_toN, cut_fromN, c_lt, c_le, c_gt, c_ge, c_eq, c_ne, e_same, e_I, e_S, e_B, c_iz, c_niz, c_inS, c_ninS, c_inP, c_ninP, c_inL, c_ninL, c_inT, c_ninT, k_non, k_bl, k_int, k_lst, k_tup, k_str, ty_w, isBor_n, isBor_c, v_lst, v_tup, v_slcL, v_slcS, v_revL, v_revS, bi_1, bi_2, l_lst, l_rls, l_tup, l_str, i_int, i_bl, li_lst, li_tup, li_str, so_int, so_str, al_bl, an_bl, su_int, al_map, an_map, su_map, ab_int, mi_2, ma_2, gc_2, r_joinS, r_indexS, r_indexL, mt_join, it_lst, it_own, it_tup, it_str, rn_ok, en_str, en_lst, zi_lst, re_lst, mb_fu, mb_fr, mb_sh, mb_bs, mb_bf, h_fu, h_fr, h_sh, h_fl, o_fu, o_sh, g_fu, g_fr, g_sh, g_fl, r_some, ol_sh, ol_fu, ap_sh, ap_fu, pu_sh, un_ok, pa_ok, bm_int, bm_str, pm_fr, pm_sh, pm_bs, pm_fu, pm_bf, cm_fr, cm_fu, cm_sh, cm_bs, callM_fl, callM_nb, rdV_fr, rdV_sh, rdV_fu, norm_fl, norm_lst, norm_nf, fl_non, fl_bl, fl_int, fl_str, fl_tup, fl_lst, fl_rls, fl_dic, flL_n, flL_c, flL_int, flL_str, wipe_n, wipe_c, List.set_cons_zero, List.set_cons_succ, List.set_nil, List.map_cons, List.map_nil, List.length_map, List.length_cons, List.length_nil, List.append_nil, List.nil_append, List.take_succ_cons, List.take_zero, List.drop_succ_cons, List.drop_zero, Nat.zero_add, Nat.reduceAdd, Nat.reduceSub, isNon, optI_n, optI_var, optI_lit, optI_bin, optI_neg, optI_idx, optI_bi, optI_call, optI_gl, optI_mt, bq_t, bq_f, bq_not, bq_yes, bq_no, bq_and, bq_or, Bool.not_true, Bool.not_false, Bool.false_and, Bool.true_and, Bool.and_false, Bool.and_true, Bool.or_false, Bool.false_or, Bool.or_true, Bool.true_or, if_true, if_false, Bool.false_eq_true, true_and, and_true, List.any_cons, List.any_nil, List.isEmpty_cons, List.isEmpty_nil, tB_int_non, tB_int_bl, tB_int_int, tB_int_str, tB_int_lst, tB_int_tup, tB_int_dic, tB_bool_non, tB_bool_bl, tB_bool_int, tB_bool_str, tB_bool_lst, tB_bool_tup, tB_bool_dic, tB_str_non, tB_str_bl, tB_str_int, tB_str_str, tB_str_lst, tB_str_tup, tB_str_dic, tB_list_non, tB_list_bl, tB_list_int, tB_list_str, tB_list_lst, tB_list_tup, tB_list_dic, tB_tuple_non, tB_tuple_bl, tB_tuple_int, tB_tuple_str, tB_tuple_lst, tB_tuple_tup, tB_tuple_dic, tB_dict_non, tB_dict_bl, tB_dict_int, tB_dict_str, tB_dict_lst, tB_dict_tup, tB_dict_dic])
      refine ⟨l ++ [(M * M + 16807 * (i + 3)) % 2147483629 / 7 % 1009], cell, _, _, by simp; omega, fun x hx => ?_, hc0, by rw [List.map_append]; rfl⟩
      rcases List.mem_append.mp hx with z | z
      · exact hb x z
      · have : x = (M * M + 16807 * (i + 3)) % 2147483629 / 7 % 1009 := by simpa using z
        omega
  · rintro E ⟨l, cell, p, q, hl, hb, hc0, rfl⟩
    (simp (config := {decide := false}) (disch := first | assumption | omega | (simp only [mb_fu, mb_fr, mb_sh, mb_bs, mb_bf, fl_non, fl_bl, fl_int, fl_str, fl_tup, fl_lst, fl_rls, fl_dic, flL_n, flL_c, flL_int, flL_str, isBor_n, isBor_c, pl_non, pl_bl, pl_int, pl_lst, plL_a, pl_tup, plL_n, plL_c, plL_int, at_non, at_bl, at_int, at_str, co_non, co_bl, co_int, co_str, co_lst, co_tup, List.all_cons, List.all_nil, List.length_cons, List.length_nil, List.length_map, beq_self_eq_true, mkb_shfu, mkb_frfu, Bool.false_and, Bool.true_and, Bool.and_true, Bool.and_false, Bool.and_self, Bool.not_true, Bool.not_false, Bool.or_false, Bool.or_true, Bool.true_or, Bool.false_or, Bool.or_self, ne_eq, reduceCtorEq, not_false_eq_true, not_true_eq_false, List.map_cons, List.map_nil]; done) | (have hSZ : SZ = 16777216 := SZ_w; first | omega | (simp only [List.length_map, List.length_append, List.length_cons, List.length_nil, List.length_reverse, List.length_range, List.length_take, List.length_drop, List.length_replicate] <;> omega))) only [↓wp_ok, ↓wp_ex, ↓wp_bind, ↓w_var, ↓w_cst, ↓w_gl, ↓w_bin, ↓w_neg, ↓w_cmp, ↓w_chain, ↓w_isN, ↓w_notN, ↓w_and, ↓w_or, ↓w_and1, ↓w_and2, ↓w_or1, ↓w_or2, ↓w_not, ↓w_ite, ↓w_lst, ↓w_tup, ↓w_idx, ↓w_slc, ↓w_rev, ↓w_call, ↓w_bi, ↓w_mt1, ↓w_isi, ↓w_comp, ↓w_dcomp, ↓w_dic0, ↓w_dn, ↓w_dc, ↓t_val, ↓t_cmp, ↓t_chain, ↓t_isN, ↓t_notN, ↓t_not, ↓t_and, ↓t_or, ↓t_and1, ↓t_and2, ↓t_or1, ↓t_or2, ↓ts_n, ↓ts_1, ↓i_val, ↓i_rng1, ↓i_rng2, ↓i_enum, ↓i_zip, ↓i_revd, ↓s_nil, ↓s_cons, ↓s_set, ↓s_own, ↓s_par, ↓s_unp, ↓s_aug, ↓s_apd, ↓s_put, ↓s_exp, ↓s_ret, ↓s_retV, ↓s_retN, ↓s_ite, ↓s_for, ↓s_whl, ↓s_brk, ↓s_cnt, ↓s_pas, ↓s_frz, ↓s_nev, ↓s_mtc, ↓m_nil, ↓m_one, ↓m_two, ↓m_any, ↓ow_nx, ↓ow_bk, ↓ow_ct, ↓ow_rt, iw_non, iw_bl, iw_int, iw_str, iw_lst, iw_tup, iw_dic, iw_obj, iw_exc, iw_rls, getV_0, getV_s, getS_0, getS_s, boolW_bl, bindW_nm, bindW_tp, setAll_c, setAll_n, wp_ok, wp_ex, b_addI, b_subI, b_addS, b_addL, b_mulIl, b_mulIr, b_modI, b_divI, b_mulS, w_negI, a_I, a_S, x_lstI, x_rlsI, b_powT, x_lstI', x_str, x_str', x_strM, x_lstM, x_i2, x_i3, x_i4, x_i5, x_i6, x_i11, x_t0, x_t1, x_t2, x_t3, x_l0, cut_to, cut_from, cut_mid, cut_toN, cut_fromN, c_lt, c_le, c_gt, c_ge, c_eq, c_ne, e_same, e_I, e_S, e_B, c_iz, c_niz, c_inS, c_ninS, c_inP, c_ninP, c_inL, c_ninL, c_inT, c_ninT, k_non, k_bl, k_int, k_lst, k_tup, k_str, ty_w, isBor_n, isBor_c, v_lst, v_tup, v_slcL, v_slcS, v_revL, v_revS, bi_1, bi_2, l_lst, l_rls, l_tup, l_str, i_int, i_bl, li_lst, li_tup, li_str, so_int, so_str, al_bl, an_bl, su_int, al_map, an_map, su_map, ab_int, mi_2, ma_2, gc_2, r_joinS, r_indexS, r_indexL, mt_join, it_lst, it_own, it_tup, it_str, rn_ok, en_str, en_lst, zi_lst, re_lst, mb_fu, mb_fr, mb_sh, mb_bs, mb_bf, h_fu, h_fr, h_sh, h_fl, o_fu, o_sh, g_fu, g_fr, g_sh, g_fl, r_some, ol_sh, ol_fu, ap_sh, ap_fu, pu_sh, un_ok, pa_ok, bm_int, bm_str, pm_fr, pm_sh, pm_bs, pm_fu, pm_bf, cm_fr, cm_fu, cm_sh, cm_bs, callM_fl, callM_nb, rdV_fr, rdV_sh, rdV_fu, norm_fl, norm_lst, norm_nf, fl_non, fl_bl, fl_int, fl_str, fl_tup, fl_lst, fl_rls, fl_dic, flL_n, flL_c, flL_int, flL_str, wipe_n, wipe_c, List.set_cons_zero, List.set_cons_succ, List.set_nil, List.map_cons, List.map_nil, List.length_map, List.length_cons, List.length_nil, List.append_nil, List.nil_append, List.take_succ_cons, List.take_zero, List.drop_succ_cons, List.drop_zero, Nat.zero_add, Nat.reduceAdd, Nat.reduceSub, isNon, optI_n, optI_var, optI_lit, optI_bin, optI_neg, optI_idx, optI_bi, optI_call, optI_gl, optI_mt, bq_t, bq_f, bq_not, bq_yes, bq_no, bq_and, bq_or, Bool.not_true, Bool.not_false, Bool.false_and, Bool.true_and, Bool.and_false, Bool.and_true, Bool.or_false, Bool.false_or, Bool.or_true, Bool.true_or, if_true, if_false, Bool.false_eq_true, true_and, and_true, List.any_cons, List.any_nil, List.isEmpty_cons, List.isEmpty_nil, tB_int_non, tB_int_bl, tB_int_int, tB_int_str, tB_int_lst, tB_int_tup, tB_int_dic, tB_bool_non, tB_bool_bl, tB_bool_int, tB_bool_str, tB_bool_lst, tB_bool_tup, tB_bool_dic, tB_str_non, tB_str_bl, tB_str_int, tB_str_str, tB_str_lst, tB_str_tup, tB_str_dic, tB_list_non, tB_list_bl, tB_list_int, tB_list_str, tB_list_lst, tB_list_tup, tB_list_dic, tB_tuple_non, tB_tuple_bl, tB_tuple_int, tB_tuple_str, tB_tuple_lst, tB_tuple_tup, tB_tuple_dic, tB_dict_non, tB_dict_bl, tB_dict_int, tB_dict_str, tB_dict_lst, tB_dict_tup, tB_dict_dic])
    exact hq l (by omega) hb
end
end DP

namespace K28
section
open DP
/-- is_whole(value); slots 0:value -/
def b0 : List DP.St := [(.ret (.and_ [(.isi (.var 0) [.int]), (.not_ (.isi (.var 0) [.bool]))]))]
/-- is_from_to(value, least, greatest); slots 0:value 1:least 2:greatest -/
def b1 : List DP.St := [(.ret (.and_ [(.call 0 [(.var 0)]), (.chain .le .le (.var 1) (.var 0) (.var 2))]))]
/-- modulus_of(weights); slots 0:weights -/
def b2 : List DP.St := [(.ret (.idx (.var 0) (.cst (.int 0))))]
/-- list_of(weights); slots 0:weights -/
def b3 : List DP.St := [(.ret (.idx (.var 0) (.cst (.int 1))))]
/-- is_modulus(value); slots 0:value -/
def b4 : List DP.St := [(.ret (.call 1 [(.var 0), (.gl 0), (.gl 1)]))]
/-- first_wrong_weight(m, listed); slots 0:m 1:listed 2:index 3:value -/
def b5 : List DP.St := [(.for_ (.tp [2, 3]) (.enum (.var 1)) [(.ite (.not_ (.val (.call 1 [(.var 3), (.cst (.int 0)), (.bin .sub (.var 0) (.cst (.int 1)))]))) [(.retV 2)] [])]),
  (.ret (.cst .non))]
/-- check_right(weights); slots 0:weights 1:index 2:m 3:listed -/
def b6 : List DP.St := [(.unp [2, 3] (.var 0)),
  (.ite (.not_ (.val (.call 4 [(.var 2)]))) [.nev] []),
  (.ite (.or_ [(.not_ (.val (.isi (.var 3) [.list]))), (.not_ (.chain .le .le (.cst (.int 1)) (.bi .len [(.var 3)]) (.gl 2)))]) [.nev] []),
  (.set 1 (.call 5 [(.var 2), (.var 3)])),
  (.ite (.notN (.var 1)) [.nev] []),
  (.ite (.cmp .gt (.bin .mul (.var 2) (.bi .len [(.var 3)])) (.gl 3)) [.nev] [])]
/-- weight_at(weights, place); slots 0:weights 1:place 2:listed -/
def b7 : List DP.St := [(.set 2 (.call 3 [(.var 0)])),
  (.ret (.idx (.var 2) (.bin .mod (.var 1) (.bi .len [(.var 2)]))))]
/-- check_fault_kind(kind); slots 0:kind -/
def b8 : List DP.St := [(.ite (.or_ [(.not_ (.val (.isi (.var 0) [.str]))), (.cmp .nin (.var 0) (.gl 6))]) [.nev] [])]
/-- factor(weights, kind, place); slots 0:weights 1:kind 2:place 3:here -/
def b9 : List DP.St := [(.set 3 (.call 7 [(.var 0), (.var 2)])),
  (.mtc (.var 1) (.cons [[111, 110, 101]] [(.retV 3)] (.cons [[115, 119, 97, 112]] [(.ret (.bin .sub (.var 3) (.call 7 [(.var 0), (.bin .add (.var 2) (.cst (.int 1)))])))] (.cons [[116, 119, 105, 110]] [(.ret (.bin .add (.var 3) (.call 7 [(.var 0), (.bin .add (.var 2) (.cst (.int 1)))])))] (.cons [[106, 117, 109, 112]] [(.ret (.bin .sub (.var 3) (.call 7 [(.var 0), (.bin .add (.var 2) (.cst (.int 2)))])))] (.cons [] [(.ret (.bin .add (.var 3) (.call 7 [(.var 0), (.bin .add (.var 2) (.cst (.int 2)))])))] .nil))))))]
/-- is_fault(signs, weights, kind, place, difference); slots 0:signs 1:weights 2:kind 3:place 4:difference -/
def b10 : List DP.St := [(.ite (.or_ [(.not_ (.chain .le .lt (.cst (.int 0)) (.var 3) (.bi .len [(.call 3 [(.var 1)])]))), (.not_ (.chain .le .lt (.cst (.int 1)) (.var 4) (.bi .len [(.var 0)])))]) [(.ret (.cst (.bl false)))] []),
  (.ret (.cmp .eq (.bin .mod (.bin .mul (.call 9 [(.var 1), (.var 2), (.var 3)]) (.var 4)) (.call 2 [(.var 1)])) (.cst (.int 0))))]
/-- all_faults(signs, weights, kind); slots 0:signs 1:weights 2:kind 3:found 4:place 5:difference -/
def b11 : List DP.St := [(.own 3 (.lst false [])),
  (.for_ (.nm 4) (.rng1 (.bi .len [(.call 3 [(.var 1)])])) [(.for_ (.nm 5) (.rng2 (.cst (.int 1)) (.bi .len [(.var 0)])) [(.ite (.val (.call 10 [(.var 0), (.var 1), (.var 2), (.var 4), (.var 5)])) [(.app 3 (.tup [(.var 4), (.var 5)]))] [])])]),
  (.retV 3)]
/-- has_full_weight(weights); slots 0:weights 1:weight -/
def b12 : List DP.St := [(.ret (.bi .any1 [(.comp false (.cmp .eq (.bi .gcd2 [(.var 1), (.call 2 [(.var 0)])]) (.cst (.int 1))) (.nm 1) (.val (.call 3 [(.var 0)])) [1] [])]))]
/-- faults(signs, weights, kind); slots 0:signs 1:weights 2:kind -/
def b13 : List DP.St := [(.exp (.call 6 [(.var 1)])),
  (.exp (.call 8 [(.var 2)])),
  (.ret (.call 11 [(.var 0), (.var 1), (.var 2)]))]
/-- are_full(signs, weights); slots 0:signs 1:weights -/
def b14 : List DP.St := [(.ret (.and_ [(.cmp .ge (.bi .len [(.var 0)]) (.cst (.int 2))), (.call 12 [(.var 1)])]))]
/-- shows_fault(signs, weights, kind, value); slots 0:signs 1:weights 2:kind 3:value 4:place 5:difference -/
def b15 : List DP.St := [(.ite (.or_ [(.not_ (.val (.isi (.var 3) [.tuple]))), (.cmp .ne (.bi .len [(.var 3)]) (.cst (.int 2)))]) [(.ret (.cst (.bl false)))] []),
  (.unp [4, 5] (.var 3)),
  (.ite (.or_ [(.not_ (.val (.call 0 [(.var 4)]))), (.not_ (.val (.call 0 [(.var 5)])))]) [(.ret (.cst (.bl false)))] []),
  (.ret (.call 10 [(.var 0), (.var 1), (.var 2), (.var 4), (.var 5)]))]
/-- _law_numbers(script, at, count); slots 0:script 1:at 2:count 3:cell 4:numbers 5:k 6:mixed -/
def b16 : List DP.St := [(.set 3 (.bin .mul (.cst (.int 1000003)) (.bin .add (.var 1) (.cst (.int 1))))),
  (.ite (.cmp .lt (.var 1) (.bi .len [(.var 0)])) [(.set 3 (.bi .int1 [(.idx (.var 0) (.var 1))]))] []),
  (.ite (.cmp .lt (.var 3) (.cst (.int 0))) [(.set 3 (.bin .sub (.cst (.int 1)) (.bin .mul (.cst (.int 2)) (.var 3))))] []),
  (.own 4 (.lst false [])),
  (.for_ (.nm 5) (.rng1 (.var 2)) [(.ite (.cmp .ge (.var 3) (.bin .pow (.cst (.int 10)) (.cst (.int 18)))) [(.app 4 (.bin .mod (.var 3) (.cst (.int 1009)))), (.set 3 (.bin .fdiv (.var 3) (.cst (.int 1009))))] [(.set 6 (.bin .mod (.bin .add (.bin .add (.bin .mul (.var 3) (.cst (.int 48271))) (.bin .mul (.bin .add (.var 5) (.cst (.int 1))) (.cst (.int 69621)))) (.bin .mul (.var 1) (.cst (.int 4001)))) (.cst (.int 2147483647)))), (.set 6 (.bin .mod (.bin .add (.bin .mul (.var 6) (.var 6)) (.bin .mul (.cst (.int 16807)) (.bin .add (.var 5) (.cst (.int 3))))) (.cst (.int 2147483629)))), (.app 4 (.bin .mod (.bin .fdiv (.var 6) (.cst (.int 7))) (.cst (.int 1009))))])]),
  (.retV 4)]
/-- _law_is_integer(value); slots 0:value -/
def b17 : List DP.St := [(.ret (.and_ [(.isi (.var 0) [.int]), (.not_ (.isi (.var 0) [.bool]))]))]
/-- _law_signs(script, at, most); slots 0:script 1:at 2:most 3:numbers 4:left 5:found 6:k 7:spot -/
def b18 : List DP.St := [(.set 3 (.call 16 [(.var 0), (.var 1), (.cst (.int 14))])),
  (.set 4 (.cst (.str [48, 49, 50, 51, 52, 53, 54, 55, 56, 57, 97, 98, 99, 100, 101, 102, 103, 104, 105, 106, 107, 108, 109, 110, 111, 112, 113, 114, 115, 116, 117, 118, 119, 120, 121, 122]))),
  (.set 5 (.cst (.str []))),
  (.for_ (.nm 6) (.rng1 (.bin .add (.cst (.int 1)) (.bin .mod (.idx (.var 3) (.cst (.int 0))) (.var 2)))) [(.set 7 (.bin .mod (.idx (.var 3) (.bin .add (.cst (.int 1)) (.var 6))) (.bi .len [(.var 4)]))), (.ite (.cmp .eq (.bin .mod (.idx (.var 3) (.cst (.int 13))) (.cst (.int 3))) (.cst (.int 0))) [(.set 7 (.cst (.int 0)))] []), (.set 5 (.bin .add (.var 5) (.idx (.var 4) (.var 7)))), (.set 4 (.bin .add (.slc (.var 4) (.cst .non) (.var 7)) (.slc (.var 4) (.bin .add (.var 7) (.cst (.int 1))) (.cst .non))))]),
  (.retV 5)]
/-- _law_word(signs, numbers); slots 0:signs 1:numbers 2:number -/
def b19 : List DP.St := [(.ret (.mt1 .join (.cst (.str [])) (.comp false (.idx (.var 0) (.bin .mod (.var 2) (.bi .len [(.var 0)]))) (.nm 2) (.val (.var 1)) [2] [])))]
/-- _law_weights(script, at); slots 0:script 1:at 2:numbers 3:m 4:listed 5:k -/
def b20 : List DP.St := [(.set 2 (.call 16 [(.var 0), (.var 1), (.cst (.int 16))])),
  (.set 3 (.idx (.lst false [(.bin .add (.cst (.int 2)) (.bin .mod (.idx (.var 2) (.cst (.int 0))) (.cst (.int 39)))), (.idx (.lst false [(.cst (.int 7)), (.cst (.int 10)), (.cst (.int 11)), (.cst (.int 9)), (.cst (.int 13)), (.cst (.int 23))]) (.bin .mod (.idx (.var 2) (.cst (.int 0))) (.cst (.int 6)))), (.bin .add (.cst (.int 2)) (.bin .mod (.idx (.var 2) (.cst (.int 0))) (.cst (.int 12))))]) (.bin .mod (.idx (.var 2) (.cst (.int 1))) (.cst (.int 3))))),
  (.own 4 (.lst false [])),
  (.for_ (.nm 5) (.rng1 (.bin .add (.cst (.int 1)) (.bin .mod (.idx (.var 2) (.cst (.int 2))) (.bi .min2 [(.cst (.int 12)), (.bin .fdiv (.cst (.int 120)) (.var 3))])))) [(.app 4 (.idx (.lst false [(.bin .mod (.idx (.var 2) (.bin .add (.cst (.int 3)) (.var 5))) (.var 3)), (.bin .add (.cst (.int 1)) (.bin .mod (.idx (.var 2) (.bin .add (.cst (.int 3)) (.var 5))) (.bin .sub (.var 3) (.cst (.int 1))))), (.bin .mod (.idx (.var 2) (.cst (.int 3))) (.var 3))]) (.bin .mod (.idx (.var 2) (.cst (.int 15))) (.cst (.int 3)))))]),
  (.frz 4),
  (.ret (.tup [(.var 3), (.var 4)]))]
/-- _law_sum(signs, weights, word); slots 0:signs 1:weights 2:word 3:m 4:listed 5:k -/
def b21 : List DP.St := [(.unp [3, 4] (.var 1)),
  (.ret (.bin .mod (.bi .sum1 [(.comp false (.bin .mul (.idx (.var 4) (.bin .mod (.var 5) (.bi .len [(.var 4)]))) (.mt1 .index (.var 0) (.idx (.var 2) (.var 5)))) (.nm 5) (.rng1 (.bi .len [(.var 2)])) [5] [])]) (.var 3)))]
/-- _law_factor(listed, kind, k); slots 0:listed 1:kind 2:k 3:n -/
def b22 : List DP.St := [(.set 3 (.bi .len [(.var 0)])),
  (.ite (.cmp .eq (.var 1) (.cst (.str [111, 110, 101]))) [(.ret (.idx (.var 0) (.bin .mod (.var 2) (.var 3))))] []),
  (.ite (.cmp .eq (.var 1) (.cst (.str [115, 119, 97, 112]))) [(.ret (.bin .sub (.idx (.var 0) (.bin .mod (.var 2) (.var 3))) (.idx (.var 0) (.bin .mod (.bin .add (.var 2) (.cst (.int 1))) (.var 3)))))] []),
  (.ite (.cmp .eq (.var 1) (.cst (.str [116, 119, 105, 110]))) [(.ret (.bin .add (.idx (.var 0) (.bin .mod (.var 2) (.var 3))) (.idx (.var 0) (.bin .mod (.bin .add (.var 2) (.cst (.int 1))) (.var 3)))))] []),
  (.ite (.cmp .eq (.var 1) (.cst (.str [106, 117, 109, 112]))) [(.ret (.bin .sub (.idx (.var 0) (.bin .mod (.var 2) (.var 3))) (.idx (.var 0) (.bin .mod (.bin .add (.var 2) (.cst (.int 2))) (.var 3)))))] []),
  (.ret (.bin .add (.idx (.var 0) (.bin .mod (.var 2) (.var 3))) (.idx (.var 0) (.bin .mod (.bin .add (.var 2) (.cst (.int 2))) (.var 3)))))]
/-- _law_faults(signs, weights, kind); slots 0:signs 1:weights 2:kind 3:found 4:k 5:m 6:listed 7:d -/
def b23 : List DP.St := [(.unp [5, 6] (.var 1)),
  (.set 3 (.lst false [])),
  (.for_ (.nm 4) (.rng1 (.bi .len [(.var 6)])) [(.set 3 (.bin .add (.var 3) (.comp false (.tup [(.var 4), (.var 7)]) (.nm 7) (.rng2 (.cst (.int 1)) (.bi .len [(.var 0)])) [7] [(.cmp .eq (.bin .mod (.bi .int1 [(.bin .mul (.call 22 [(.var 6), (.var 2), (.var 4)]) (.var 7))]) (.var 5)) (.cst (.int 0)))])))]),
  (.retV 3)]
/-- _law_gcd(a, b); slots 0:a 1:b -/
def b24 : List DP.St := [(.whl (.cmp .gt (.var 1) (.cst (.int 0))) [(.par [0, 1] [(.var 1), (.bin .mod (.var 0) (.var 1))])]),
  (.retV 0)]
/-- _law_values(signs, listed, due, numbers); slots 0:signs 1:listed 2:due 3:numbers 4:found 5:k 6:d -/
def b25 : List DP.St := [(.set 4 (.lst false [(.cst .non), (.tup []), (.lst false []), (.cst (.str [])), (.cst (.int 5)), (.tup [(.cst (.int 0))]), (.tup [(.cst (.int 0)), (.cst (.int 1)), (.cst (.int 0))]), (.tup [(.cst (.int 0)), (.cst (.int 0))]), (.tup [(.neg (.cst (.int 1))), (.cst (.int 1))]), (.tup [(.bi .len [(.var 1)]), (.cst (.int 1))]), (.tup [(.cst (.int 0)), (.bi .len [(.var 0)])]), (.tup [(.cst (.int 0)), (.bin .sub (.bi .len [(.var 0)]) (.cst (.int 1)))]), (.tup [(.cst (.bl true)), (.cst (.int 1))]), (.tup [(.cst (.int 0)), (.cst (.bl true))]), (.tup [(.cst .non), (.cst (.int 1))]), (.tup [(.cst (.int 0)), (.cst (.str [49]))]), (.tup [(.cst (.str [48])), (.cst (.int 1))])])),
  (.for_ (.nm 5) (.rng1 (.bi .len [(.var 1)])) [(.set 4 (.bin .add (.var 4) (.comp false (.tup [(.var 5), (.var 6)]) (.nm 6) (.rng2 (.cst (.int 1)) (.bi .len [(.var 0)])) [6] [])))]),
  (.for_ (.tp [5, 6]) (.val (.slc (.var 2) (.cst .non) (.cst (.int 4)))) [(.set 4 (.bin .add (.var 4) (.lst false [(.tup [(.bin .add (.var 5) (.bi .len [(.var 1)])), (.var 6)]), (.tup [(.bin .sub (.var 5) (.bi .len [(.var 1)])), (.var 6)]), (.tup [(.var 5), (.neg (.var 6))]), (.tup [(.var 5), (.bin .add (.var 6) (.cst (.int 40)))]), (.lst false [(.var 5), (.var 6)]), (.tup [(.var 5), (.var 6), (.cst (.int 0))]), (.tup [(.cmp .eq (.var 5) (.cst (.int 1))), (.var 6)]), (.tup [(.var 6), (.var 5)])])))]),
  (.retV 4)]
/-- law(script); slots 0:script 1:turn 2:signs 3:weights 4:numbers 5:full 6:told 7:kind 8:m 9:listed 10:due 11:again 12:value 13:handed 14:right 15:weight 16:pair -/
def b26 : List DP.St := [(.for_ (.nm 1) (.rng1 (.cst (.int 2))) [(.set 2 (.call 18 [(.var 0), (.bin .mul (.cst (.int 4)) (.var 1)), (.cst (.int 12))])), (.set 3 (.call 20 [(.var 0), (.bin .add (.cst (.int 1)) (.bin .mul (.cst (.int 4)) (.var 1)))])), (.set 4 (.call 16 [(.var 0), (.bin .add (.cst (.int 2)) (.bin .mul (.cst (.int 4)) (.var 1))), (.cst (.int 3))])), (.unp [8, 9] (.var 3)), (.ite (.cmp .eq (.bin .mod (.idx (.var 4) (.cst (.int 0))) (.cst (.int 4))) (.cst (.int 0))) [(.set 9 (.comp false (.bin .mod (.bin .mul (.var 15) (.cst (.int 2))) (.var 8)) (.nm 15) (.val (.var 9)) [15] [])), (.set 3 (.tup [(.var 8), (.var 9)]))] []), (.set 5 (.and_ [(.cmp .gt (.bi .len [(.var 2)]) (.cst (.int 1))), (.cmp .ne (.comp false (.var 15) (.nm 15) (.val (.var 9)) [15] [(.cmp .eq (.call 24 [(.var 15), (.var 8)]) (.cst (.int 1)))]) (.lst false []))])), (.own 6 (.call 14 [(.var 2), (.tup [(.var 8), (.bi .list1 [(.var 9)])])])), (.frz 6), (.ite (.or_ [(.not_ (.val (.isi (.var 6) [.bool]))), (.cmp .ne (.var 6) (.var 5))]) [(.ret (.cst (.bl false)))] []), (.for_ (.nm 7) (.val (.lst false [(.cst (.str [111, 110, 101])), (.cst (.str [115, 119, 97, 112])), (.cst (.str [116, 119, 105, 110])), (.cst (.str [106, 117, 109, 112])), (.cst (.str [115, 112, 97, 110]))])) [(.set 10 (.call 23 [(.var 2), (.var 3), (.var 7)])), (.for_ (.nm 11) (.rng1 (.cst (.int 2))) [(.set 13 (.tup [(.var 8), (.bi .list1 [(.var 9)])])), (.own 6 (.call 13 [(.var 2), (.var 13), (.var 7)])), (.ite (.or_ [(.not_ (.val (.isi (.var 6) [.list]))), (.cmp .ne (.var 6) (.var 10)), (.cmp .ne (.var 13) (.var 3))]) [(.ret (.cst (.bl false)))] []), (.ite (.cmp .ne (.comp false (.var 16) (.nm 16) (.val (.var 6)) [16] [(.or_ [(.not_ (.val (.isi (.var 16) [.tuple]))), (.not_ (.val (.call 17 [(.idx (.var 16) (.cst (.int 0)))]))), (.not_ (.val (.call 17 [(.idx (.var 16) (.cst (.int 1)))])))])]) (.lst false [])) [(.ret (.cst (.bl false)))] []), (.app 6 (.cst .non))]), (.for_ (.nm 12) (.val (.call 25 [(.var 2), (.var 9), (.var 10), (.var 4)])) [(.set 14 (.and_ [(.isi (.var 12) [.tuple]), (.cmp .eq (.bi .len [(.var 12)]) (.cst (.int 2))), (.cmp .inn (.var 12) (.var 10)), (.call 17 [(.idx (.var 12) (.cst (.int 0)))]), (.call 17 [(.idx (.var 12) (.cst (.int 1)))])])), (.own 6 (.call 15 [(.var 2), (.var 13), (.var 7), (.var 12)])), (.frz 6), (.ite (.or_ [(.not_ (.val (.isi (.var 6) [.bool]))), (.cmp .ne (.var 6) (.var 14)), (.cmp .ne (.var 13) (.var 3))]) [(.ret (.cst (.bl false)))] [])])])]),
  (.ret (.cst (.bl true)))]
def Ps : List Fn := [⟨b0, 1, 1⟩, ⟨b1, 3, 3⟩, ⟨b2, 1, 1⟩, ⟨b3, 1, 1⟩, ⟨b4, 1, 1⟩, ⟨b5, 4, 2⟩, ⟨b6, 4, 1⟩, ⟨b7, 3, 2⟩, ⟨b8, 1, 1⟩, ⟨b9, 4, 3⟩, ⟨b10, 5, 5⟩, ⟨b11, 6, 3⟩, ⟨b12, 2, 1⟩, ⟨b13, 3, 3⟩, ⟨b14, 2, 2⟩, ⟨b15, 6, 4⟩, ⟨b16, 7, 3⟩, ⟨b17, 1, 1⟩, ⟨b18, 8, 3⟩, ⟨b0, 1, 1⟩, ⟨b20, 6, 2⟩, ⟨b0, 1, 1⟩, ⟨b22, 4, 3⟩, ⟨b23, 8, 3⟩, ⟨b24, 2, 2⟩, ⟨b25, 7, 4⟩, ⟨b26, 17, 1⟩]
def gl : Nat → D := fun k => match k with
  | 0 => (.int 2)
  | 1 => (.int 40)
  | 2 => (.int 12)
  | 3 => (.int 120)
  | 4 => (.int (-1))
  | 5 => (.int (-2))
  | 6 => (.tup [(.str [111, 110, 101]), (.str [115, 119, 97, 112]), (.str [116, 119, 105, 110]), (.str [106, 117, 109, 112]), (.str [115, 112, 97, 110])])
  | _ => .non
theorem c0 (n : Nat) {v : D} (h : v.common = true) : callD Ps gl 64 (n + 1) 0 [v] = .ok (.fu, .bl (isW v)) := by
  cases v <;> first | rfl | cases h
theorem c17 (n : Nat) {v : D} (h : v.common = true) : callD Ps gl 64 (n + 1) 17 [v] = .ok (.fu, .bl (isW v)) := by
  cases v <;> first | rfl | cases h
theorem c1 (n : Nat) (v a b : Int) : callD Ps gl 64 (n + 2) 1 [.int v, .int a, .int b] = .ok (.fu, .bl (decide (a ≤ v) && decide (v ≤ b))) := by
  (refine w_fn rfl rfl rfl ?_; simp only [b1]; (simp only [startE, List.map_cons, List.map_nil, List.length_cons, List.length_nil, Nat.reduceAdd, Nat.reduceSub, List.replicate, List.cons_append, List.nil_append]); (simp (config := {decide := false}) (disch := first | assumption | omega | (simp only [mb_fu, mb_fr, mb_sh, mb_bs, mb_bf, fl_non, fl_bl, fl_int, fl_str, fl_tup, fl_lst, fl_rls, fl_dic, flL_n, flL_c, flL_int, flL_str, isBor_n, isBor_c, pl_non, pl_bl, pl_int, pl_lst, plL_a, pl_tup, plL_n, plL_c, plL_int, at_non, at_bl, at_int, at_str, co_non, co_bl, co_int, co_str, co_lst, co_tup, List.all_cons, List.all_nil, List.length_cons, List.length_nil, List.length_map, beq_self_eq_true, mkb_shfu, mkb_frfu, Bool.false_and, Bool.true_and, Bool.and_true, Bool.and_false, Bool.and_self, Bool.not_true, Bool.not_false, Bool.or_false, Bool.or_true, Bool.true_or, Bool.false_or, Bool.or_self, ne_eq, reduceCtorEq, not_false_eq_true, not_true_eq_false, List.map_cons, List.map_nil]; done) | (have hSZ : SZ = 16777216 := SZ_w; first | omega | (simp only [List.length_map, List.length_append, List.length_cons, List.length_nil, List.length_reverse, List.length_range, List.length_take, List.length_drop, List.length_replicate] <;> omega))) only [gl, c0, c17, ↓wp_ok, ↓wp_ex, ↓wp_bind, ↓w_var, ↓w_cst, ↓w_gl, ↓w_bin, ↓w_neg, ↓w_cmp, ↓w_chain, ↓w_isN, ↓w_notN, ↓w_and, ↓w_or, ↓w_and1, ↓w_and2, ↓w_or1, ↓w_or2, ↓w_not, ↓w_ite, ↓w_lst, ↓w_tup, ↓w_idx, ↓w_slc, ↓w_rev, ↓w_call, ↓w_bi, ↓w_mt1, ↓w_isi, ↓w_comp, ↓w_dcomp, ↓w_dic0, ↓w_dn, ↓w_dc, ↓t_val, ↓t_cmp, ↓t_chain, ↓t_isN, ↓t_notN, ↓t_not, ↓t_and, ↓t_or, ↓t_and1, ↓t_and2, ↓t_or1, ↓t_or2, ↓ts_n, ↓ts_1, ↓i_val, ↓i_rng1, ↓i_rng2, ↓i_enum, ↓i_zip, ↓i_revd, ↓s_nil, ↓s_cons, ↓s_set, ↓s_own, ↓s_par, ↓s_unp, ↓s_aug, ↓s_apd, ↓s_put, ↓s_exp, ↓s_ret, ↓s_retV, ↓s_retN, ↓s_ite, ↓s_for, ↓s_whl, ↓s_brk, ↓s_cnt, ↓s_pas, ↓s_frz, ↓s_nev, ↓s_mtc, ↓m_nil, ↓m_one, ↓m_two, ↓m_any, ↓ow_nx, ↓ow_bk, ↓ow_ct, ↓ow_rt, iw_non, iw_bl, iw_int, iw_str, iw_lst, iw_tup, iw_dic, iw_obj, iw_exc, iw_rls, getV_0, getV_s, getS_0, getS_s, boolW_bl, bindW_nm, bindW_tp, setAll_c, setAll_n, wp_ok, wp_ex, b_addI, b_subI, b_addS, b_addL, b_mulIl, b_mulIr, b_modI, b_divI, b_mulS, w_negI, a_I, a_S, x_lstI, x_rlsI, b_powT, x_lstI', x_str, x_str', x_strM, x_lstM, x_i2, x_i3, x_i4, x_i5, x_i6, x_i11, x_t0, x_t1, x_t2, x_t3, x_l0, cut_to, cut_from, cut_mid, cut_toN, cut_fromN, c_lt, c_le, c_gt, c_ge, c_eq, c_ne, e_same, e_I, e_S, e_B, c_iz, c_niz, c_inS, c_ninS, c_inP, c_ninP, c_inL, c_ninL, c_inT, c_ninT, k_non, k_bl, k_int, k_lst, k_tup, k_str, ty_w, isBor_n, isBor_c, v_lst, v_tup, v_slcL, v_slcS, v_revL, v_revS, bi_1, bi_2, l_lst, l_rls, l_tup, l_str, i_int, i_bl, li_lst, li_tup, li_str, so_int, so_str, al_bl, an_bl, su_int, al_map, an_map, su_map, ab_int, mi_2, ma_2, gc_2, r_joinS, r_indexS, r_indexL, mt_join, it_lst, it_own, it_tup, it_str, rn_ok, en_str, en_lst, zi_lst, re_lst, mb_fu, mb_fr, mb_sh, mb_bs, mb_bf, h_fu, h_fr, h_sh, h_fl, o_fu, o_sh, g_fu, g_fr, g_sh, g_fl, r_some, ol_sh, ol_fu, ap_sh, ap_fu, pu_sh, un_ok, pa_ok, bm_int, bm_str, pm_fr, pm_sh, pm_bs, pm_fu, pm_bf, cm_fr, cm_fu, cm_sh, cm_bs, callM_fl, callM_nb, rdV_fr, rdV_sh, rdV_fu, norm_fl, norm_lst, norm_nf, fl_non, fl_bl, fl_int, fl_str, fl_tup, fl_lst, fl_rls, fl_dic, flL_n, flL_c, flL_int, flL_str, wipe_n, wipe_c, List.set_cons_zero, List.set_cons_succ, List.set_nil, List.map_cons, List.map_nil, List.length_map, List.length_cons, List.length_nil, List.append_nil, List.nil_append, List.take_succ_cons, List.take_zero, List.drop_succ_cons, List.drop_zero, Nat.zero_add, Nat.reduceAdd, Nat.reduceSub, isNon, optI_n, optI_var, optI_lit, optI_bin, optI_neg, optI_idx, optI_bi, optI_call, optI_gl, optI_mt, bq_t, bq_f, bq_not, bq_yes, bq_no, bq_and, bq_or, Bool.not_true, Bool.not_false, Bool.false_and, Bool.true_and, Bool.and_false, Bool.and_true, Bool.or_false, Bool.false_or, Bool.or_true, Bool.true_or, if_true, if_false, Bool.false_eq_true, true_and, and_true, List.any_cons, List.any_nil, List.isEmpty_cons, List.isEmpty_nil, tB_int_non, tB_int_bl, tB_int_int, tB_int_str, tB_int_lst, tB_int_tup, tB_int_dic, tB_bool_non, tB_bool_bl, tB_bool_int, tB_bool_str, tB_bool_lst, tB_bool_tup, tB_bool_dic, tB_str_non, tB_str_bl, tB_str_int, tB_str_str, tB_str_lst, tB_str_tup, tB_str_dic, tB_list_non, tB_list_bl, tB_list_int, tB_list_str, tB_list_lst, tB_list_tup, tB_list_dic, tB_tuple_non, tB_tuple_bl, tB_tuple_int, tB_tuple_str, tB_tuple_lst, tB_tuple_tup, tB_tuple_dic, tB_dict_non, tB_dict_bl, tB_dict_int, tB_dict_str, tB_dict_lst, tB_dict_tup, tB_dict_dic]))
  (rw [bq_dec]; refine ⟨fun h => ?_, fun h => ?_⟩)
  · (simp (config := {decide := false}) (disch := first | assumption | omega | (simp only [mb_fu, mb_fr, mb_sh, mb_bs, mb_bf, fl_non, fl_bl, fl_int, fl_str, fl_tup, fl_lst, fl_rls, fl_dic, flL_n, flL_c, flL_int, flL_str, isBor_n, isBor_c, pl_non, pl_bl, pl_int, pl_lst, plL_a, pl_tup, plL_n, plL_c, plL_int, at_non, at_bl, at_int, at_str, co_non, co_bl, co_int, co_str, co_lst, co_tup, List.all_cons, List.all_nil, List.length_cons, List.length_nil, List.length_map, beq_self_eq_true, mkb_shfu, mkb_frfu, Bool.false_and, Bool.true_and, Bool.and_true, Bool.and_false, Bool.and_self, Bool.not_true, Bool.not_false, Bool.or_false, Bool.or_true, Bool.true_or, Bool.false_or, Bool.or_self, ne_eq, reduceCtorEq, not_false_eq_true, not_true_eq_false, List.map_cons, List.map_nil]; done) | (have hSZ : SZ = 16777216 := SZ_w; first | omega | (simp only [List.length_map, List.length_append, List.length_cons, List.length_nil, List.length_reverse, List.length_range, List.length_take, List.length_drop, List.length_replicate] <;> omega))) only [gl, c0, c17, ↓wp_ok, ↓wp_ex, ↓wp_bind, ↓w_var, ↓w_cst, ↓w_gl, ↓w_bin, ↓w_neg, ↓w_cmp, ↓w_chain, ↓w_isN, ↓w_notN, ↓w_and, ↓w_or, ↓w_and1, ↓w_and2, ↓w_or1, ↓w_or2, ↓w_not, ↓w_ite, ↓w_lst, ↓w_tup, ↓w_idx, ↓w_slc, ↓w_rev, ↓w_call, ↓w_bi, ↓w_mt1, ↓w_isi, ↓w_comp, ↓w_dcomp, ↓w_dic0, ↓w_dn, ↓w_dc, ↓t_val, ↓t_cmp, ↓t_chain, ↓t_isN, ↓t_notN, ↓t_not, ↓t_and, ↓t_or, ↓t_and1, ↓t_and2, ↓t_or1, ↓t_or2, ↓ts_n, ↓ts_1, ↓i_val, ↓i_rng1, ↓i_rng2, ↓i_enum, ↓i_zip, ↓i_revd, ↓s_nil, ↓s_cons, ↓s_set, ↓s_own, ↓s_par, ↓s_unp, ↓s_aug, ↓s_apd, ↓s_put, ↓s_exp, ↓s_ret, ↓s_retV, ↓s_retN, ↓s_ite, ↓s_for, ↓s_whl, ↓s_brk, ↓s_cnt, ↓s_pas, ↓s_frz, ↓s_nev, ↓s_mtc, ↓m_nil, ↓m_one, ↓m_two, ↓m_any, ↓ow_nx, ↓ow_bk, ↓ow_ct, ↓ow_rt, iw_non, iw_bl, iw_int, iw_str, iw_lst, iw_tup, iw_dic, iw_obj, iw_exc, iw_rls, getV_0, getV_s, getS_0, getS_s, boolW_bl, bindW_nm, bindW_tp, setAll_c, setAll_n, wp_ok, wp_ex, b_addI, b_subI, b_addS, b_addL, b_mulIl, b_mulIr, b_modI, b_divI, b_mulS, w_negI, a_I, a_S, x_lstI, x_rlsI, b_powT, x_lstI', x_str, x_str', x_strM, x_lstM, x_i2, x_i3, x_i4, x_i5, x_i6, x_i11, x_t0, x_t1, x_t2, x_t3, x_l0, cut_to, cut_from, cut_mid, cut_toN, cut_fromN, c_lt, c_le, c_gt, c_ge, c_eq, c_ne, e_same, e_I, e_S, e_B, c_iz, c_niz, c_inS, c_ninS, c_inP, c_ninP, c_inL, c_ninL, c_inT, c_ninT, k_non, k_bl, k_int, k_lst, k_tup, k_str, ty_w, isBor_n, isBor_c, v_lst, v_tup, v_slcL, v_slcS, v_revL, v_revS, bi_1, bi_2, l_lst, l_rls, l_tup, l_str, i_int, i_bl, li_lst, li_tup, li_str, so_int, so_str, al_bl, an_bl, su_int, al_map, an_map, su_map, ab_int, mi_2, ma_2, gc_2, r_joinS, r_indexS, r_indexL, mt_join, it_lst, it_own, it_tup, it_str, rn_ok, en_str, en_lst, zi_lst, re_lst, mb_fu, mb_fr, mb_sh, mb_bs, mb_bf, h_fu, h_fr, h_sh, h_fl, o_fu, o_sh, g_fu, g_fr, g_sh, g_fl, r_some, ol_sh, ol_fu, ap_sh, ap_fu, pu_sh, un_ok, pa_ok, bm_int, bm_str, pm_fr, pm_sh, pm_bs, pm_fu, pm_bf, cm_fr, cm_fu, cm_sh, cm_bs, callM_fl, callM_nb, rdV_fr, rdV_sh, rdV_fu, norm_fl, norm_lst, norm_nf, fl_non, fl_bl, fl_int, fl_str, fl_tup, fl_lst, fl_rls, fl_dic, flL_n, flL_c, flL_int, flL_str, wipe_n, wipe_c, List.set_cons_zero, List.set_cons_succ, List.set_nil, List.map_cons, List.map_nil, List.length_map, List.length_cons, List.length_nil, List.append_nil, List.nil_append, List.take_succ_cons, List.take_zero, List.drop_succ_cons, List.drop_zero, Nat.zero_add, Nat.reduceAdd, Nat.reduceSub, isNon, optI_n, optI_var, optI_lit, optI_bin, optI_neg, optI_idx, optI_bi, optI_call, optI_gl, optI_mt, bq_t, bq_f, bq_not, bq_yes, bq_no, bq_and, bq_or, Bool.not_true, Bool.not_false, Bool.false_and, Bool.true_and, Bool.and_false, Bool.and_true, Bool.or_false, Bool.false_or, Bool.or_true, Bool.true_or, if_true, if_false, Bool.false_eq_true, true_and, and_true, List.any_cons, List.any_nil, List.isEmpty_cons, List.isEmpty_nil, tB_int_non, tB_int_bl, tB_int_int, tB_int_str, tB_int_lst, tB_int_tup, tB_int_dic, tB_bool_non, tB_bool_bl, tB_bool_int, tB_bool_str, tB_bool_lst, tB_bool_tup, tB_bool_dic, tB_str_non, tB_str_bl, tB_str_int, tB_str_str, tB_str_lst, tB_str_tup, tB_str_dic, tB_list_non, tB_list_bl, tB_list_int, tB_list_str, tB_list_lst, tB_list_tup, tB_list_dic, tB_tuple_non, tB_tuple_bl, tB_tuple_int, tB_tuple_str, tB_tuple_lst, tB_tuple_tup, tB_tuple_dic, tB_dict_non, tB_dict_bl, tB_dict_int, tB_dict_str, tB_dict_lst, tB_dict_tup, tB_dict_dic])
    simp [h]
  · (simp (config := {decide := false}) (disch := first | assumption | omega | (simp only [mb_fu, mb_fr, mb_sh, mb_bs, mb_bf, fl_non, fl_bl, fl_int, fl_str, fl_tup, fl_lst, fl_rls, fl_dic, flL_n, flL_c, flL_int, flL_str, isBor_n, isBor_c, pl_non, pl_bl, pl_int, pl_lst, plL_a, pl_tup, plL_n, plL_c, plL_int, at_non, at_bl, at_int, at_str, co_non, co_bl, co_int, co_str, co_lst, co_tup, List.all_cons, List.all_nil, List.length_cons, List.length_nil, List.length_map, beq_self_eq_true, mkb_shfu, mkb_frfu, Bool.false_and, Bool.true_and, Bool.and_true, Bool.and_false, Bool.and_self, Bool.not_true, Bool.not_false, Bool.or_false, Bool.or_true, Bool.true_or, Bool.false_or, Bool.or_self, ne_eq, reduceCtorEq, not_false_eq_true, not_true_eq_false, List.map_cons, List.map_nil]; done) | (have hSZ : SZ = 16777216 := SZ_w; first | omega | (simp only [List.length_map, List.length_append, List.length_cons, List.length_nil, List.length_reverse, List.length_range, List.length_take, List.length_drop, List.length_replicate] <;> omega))) only [gl, c0, c17, ↓wp_ok, ↓wp_ex, ↓wp_bind, ↓w_var, ↓w_cst, ↓w_gl, ↓w_bin, ↓w_neg, ↓w_cmp, ↓w_chain, ↓w_isN, ↓w_notN, ↓w_and, ↓w_or, ↓w_and1, ↓w_and2, ↓w_or1, ↓w_or2, ↓w_not, ↓w_ite, ↓w_lst, ↓w_tup, ↓w_idx, ↓w_slc, ↓w_rev, ↓w_call, ↓w_bi, ↓w_mt1, ↓w_isi, ↓w_comp, ↓w_dcomp, ↓w_dic0, ↓w_dn, ↓w_dc, ↓t_val, ↓t_cmp, ↓t_chain, ↓t_isN, ↓t_notN, ↓t_not, ↓t_and, ↓t_or, ↓t_and1, ↓t_and2, ↓t_or1, ↓t_or2, ↓ts_n, ↓ts_1, ↓i_val, ↓i_rng1, ↓i_rng2, ↓i_enum, ↓i_zip, ↓i_revd, ↓s_nil, ↓s_cons, ↓s_set, ↓s_own, ↓s_par, ↓s_unp, ↓s_aug, ↓s_apd, ↓s_put, ↓s_exp, ↓s_ret, ↓s_retV, ↓s_retN, ↓s_ite, ↓s_for, ↓s_whl, ↓s_brk, ↓s_cnt, ↓s_pas, ↓s_frz, ↓s_nev, ↓s_mtc, ↓m_nil, ↓m_one, ↓m_two, ↓m_any, ↓ow_nx, ↓ow_bk, ↓ow_ct, ↓ow_rt, iw_non, iw_bl, iw_int, iw_str, iw_lst, iw_tup, iw_dic, iw_obj, iw_exc, iw_rls, getV_0, getV_s, getS_0, getS_s, boolW_bl, bindW_nm, bindW_tp, setAll_c, setAll_n, wp_ok, wp_ex, b_addI, b_subI, b_addS, b_addL, b_mulIl, b_mulIr, b_modI, b_divI, b_mulS, w_negI, a_I, a_S, x_lstI, x_rlsI, b_powT, x_lstI', x_str, x_str', x_strM, x_lstM, x_i2, x_i3, x_i4, x_i5, x_i6, x_i11, x_t0, x_t1, x_t2, x_t3, x_l0, cut_to, cut_from, cut_mid, cut_toN, cut_fromN, c_lt, c_le, c_gt, c_ge, c_eq, c_ne, e_same, e_I, e_S, e_B, c_iz, c_niz, c_inS, c_ninS, c_inP, c_ninP, c_inL, c_ninL, c_inT, c_ninT, k_non, k_bl, k_int, k_lst, k_tup, k_str, ty_w, isBor_n, isBor_c, v_lst, v_tup, v_slcL, v_slcS, v_revL, v_revS, bi_1, bi_2, l_lst, l_rls, l_tup, l_str, i_int, i_bl, li_lst, li_tup, li_str, so_int, so_str, al_bl, an_bl, su_int, al_map, an_map, su_map, ab_int, mi_2, ma_2, gc_2, r_joinS, r_indexS, r_indexL, mt_join, it_lst, it_own, it_tup, it_str, rn_ok, en_str, en_lst, zi_lst, re_lst, mb_fu, mb_fr, mb_sh, mb_bs, mb_bf, h_fu, h_fr, h_sh, h_fl, o_fu, o_sh, g_fu, g_fr, g_sh, g_fl, r_some, ol_sh, ol_fu, ap_sh, ap_fu, pu_sh, un_ok, pa_ok, bm_int, bm_str, pm_fr, pm_sh, pm_bs, pm_fu, pm_bf, cm_fr, cm_fu, cm_sh, cm_bs, callM_fl, callM_nb, rdV_fr, rdV_sh, rdV_fu, norm_fl, norm_lst, norm_nf, fl_non, fl_bl, fl_int, fl_str, fl_tup, fl_lst, fl_rls, fl_dic, flL_n, flL_c, flL_int, flL_str, wipe_n, wipe_c, List.set_cons_zero, List.set_cons_succ, List.set_nil, List.map_cons, List.map_nil, List.length_map, List.length_cons, List.length_nil, List.append_nil, List.nil_append, List.take_succ_cons, List.take_zero, List.drop_succ_cons, List.drop_zero, Nat.zero_add, Nat.reduceAdd, Nat.reduceSub, isNon, optI_n, optI_var, optI_lit, optI_bin, optI_neg, optI_idx, optI_bi, optI_call, optI_gl, optI_mt, bq_t, bq_f, bq_not, bq_yes, bq_no, bq_and, bq_or, Bool.not_true, Bool.not_false, Bool.false_and, Bool.true_and, Bool.and_false, Bool.and_true, Bool.or_false, Bool.false_or, Bool.or_true, Bool.true_or, if_true, if_false, Bool.false_eq_true, true_and, and_true, List.any_cons, List.any_nil, List.isEmpty_cons, List.isEmpty_nil, tB_int_non, tB_int_bl, tB_int_int, tB_int_str, tB_int_lst, tB_int_tup, tB_int_dic, tB_bool_non, tB_bool_bl, tB_bool_int, tB_bool_str, tB_bool_lst, tB_bool_tup, tB_bool_dic, tB_str_non, tB_str_bl, tB_str_int, tB_str_str, tB_str_lst, tB_str_tup, tB_str_dic, tB_list_non, tB_list_bl, tB_list_int, tB_list_str, tB_list_lst, tB_list_tup, tB_list_dic, tB_tuple_non, tB_tuple_bl, tB_tuple_int, tB_tuple_str, tB_tuple_lst, tB_tuple_tup, tB_tuple_dic, tB_dict_non, tB_dict_bl, tB_dict_int, tB_dict_str, tB_dict_lst, tB_dict_tup, tB_dict_dic])
    simp [h]
abbrev wD (m : Int) (ws : List Int) : D := .tup [.int m, .lst (ws.map .int)]
structure Wt (m : Int) (ws : List Int) : Prop where
  m2 : 2 ≤ m
  m40 : m ≤ 40
  n1 : 1 ≤ ws.length
  n12 : ws.length ≤ 12
  all : ∀ w ∈ ws, 0 ≤ w ∧ w ≤ m - 1
  states : m * ws.length ≤ 120
theorem c2 (n : Nat) (m : Int) (ws : List Int) : callD Ps gl 64 (n + 1) 2 [wD m ws] = .ok (.fu, .int m) := rfl
theorem c3 (n : Nat) (m : Int) (ws : List Int) : callD Ps gl 64 (n + 1) 3 [wD m ws] = .ok (.fr, .lst (ws.map .int)) := rfl
theorem c4 (n : Nat) (m : Int) (h1 : 2 ≤ m) (h2 : m ≤ 40) : callD Ps gl 64 (n + 3) 4 [.int m] = .ok (.fu, .bl true) := by
  (refine w_fn rfl rfl rfl ?_; simp only [b4]; (simp only [startE, List.map_cons, List.map_nil, List.length_cons, List.length_nil, Nat.reduceAdd, Nat.reduceSub, List.replicate, List.cons_append, List.nil_append]); (simp (config := {decide := false}) (disch := first | assumption | omega | (simp only [mb_fu, mb_fr, mb_sh, mb_bs, mb_bf, fl_non, fl_bl, fl_int, fl_str, fl_tup, fl_lst, fl_rls, fl_dic, flL_n, flL_c, flL_int, flL_str, isBor_n, isBor_c, pl_non, pl_bl, pl_int, pl_lst, plL_a, pl_tup, plL_n, plL_c, plL_int, at_non, at_bl, at_int, at_str, co_non, co_bl, co_int, co_str, co_lst, co_tup, List.all_cons, List.all_nil, List.length_cons, List.length_nil, List.length_map, beq_self_eq_true, mkb_shfu, mkb_frfu, Bool.false_and, Bool.true_and, Bool.and_true, Bool.and_false, Bool.and_self, Bool.not_true, Bool.not_false, Bool.or_false, Bool.or_true, Bool.true_or, Bool.false_or, Bool.or_self, ne_eq, reduceCtorEq, not_false_eq_true, not_true_eq_false, List.map_cons, List.map_nil]; done) | (have hSZ : SZ = 16777216 := SZ_w; first | omega | (simp only [List.length_map, List.length_append, List.length_cons, List.length_nil, List.length_reverse, List.length_range, List.length_take, List.length_drop, List.length_replicate] <;> omega))) only [gl, c0, c17, c1, c2, c3, wD, ↓wp_ok, ↓wp_ex, ↓wp_bind, ↓w_var, ↓w_cst, ↓w_gl, ↓w_bin, ↓w_neg, ↓w_cmp, ↓w_chain, ↓w_isN, ↓w_notN, ↓w_and, ↓w_or, ↓w_and1, ↓w_and2, ↓w_or1, ↓w_or2, ↓w_not, ↓w_ite, ↓w_lst, ↓w_tup, ↓w_idx, ↓w_slc, ↓w_rev, ↓w_call, ↓w_bi, ↓w_mt1, ↓w_isi, ↓w_comp, ↓w_dcomp, ↓w_dic0, ↓w_dn, ↓w_dc, ↓t_val, ↓t_cmp, ↓t_chain, ↓t_isN, ↓t_notN, ↓t_not, ↓t_and, ↓t_or, ↓t_and1, ↓t_and2, ↓t_or1, ↓t_or2, ↓ts_n, ↓ts_1, ↓i_val, ↓i_rng1, ↓i_rng2, ↓i_enum, ↓i_zip, ↓i_revd, ↓s_nil, ↓s_cons, ↓s_set, ↓s_own, ↓s_par, ↓s_unp, ↓s_aug, ↓s_apd, ↓s_put, ↓s_exp, ↓s_ret, ↓s_retV, ↓s_retN, ↓s_ite, ↓s_for, ↓s_whl, ↓s_brk, ↓s_cnt, ↓s_pas, ↓s_frz, ↓s_nev, ↓s_mtc, ↓m_nil, ↓m_one, ↓m_two, ↓m_any, ↓ow_nx, ↓ow_bk, ↓ow_ct, ↓ow_rt, iw_non, iw_bl, iw_int, iw_str, iw_lst, iw_tup, iw_dic, iw_obj, iw_exc, iw_rls, getV_0, getV_s, getS_0, getS_s, boolW_bl, bindW_nm, bindW_tp, setAll_c, setAll_n, wp_ok, wp_ex, b_addI, b_subI, b_addS, b_addL, b_mulIl, b_mulIr, b_modI, b_divI, b_mulS, w_negI, a_I, a_S, x_lstI, x_rlsI, b_powT, x_lstI', x_str, x_str', x_strM, x_lstM, x_i2, x_i3, x_i4, x_i5, x_i6, x_i11, x_t0, x_t1, x_t2, x_t3, x_l0, cut_to, cut_from, cut_mid, cut_toN, cut_fromN, c_lt, c_le, c_gt, c_ge, c_eq, c_ne, e_same, e_I, e_S, e_B, c_iz, c_niz, c_inS, c_ninS, c_inP, c_ninP, c_inL, c_ninL, c_inT, c_ninT, k_non, k_bl, k_int, k_lst, k_tup, k_str, ty_w, isBor_n, isBor_c, v_lst, v_tup, v_slcL, v_slcS, v_revL, v_revS, bi_1, bi_2, l_lst, l_rls, l_tup, l_str, i_int, i_bl, li_lst, li_tup, li_str, so_int, so_str, al_bl, an_bl, su_int, al_map, an_map, su_map, ab_int, mi_2, ma_2, gc_2, r_joinS, r_indexS, r_indexL, mt_join, it_lst, it_own, it_tup, it_str, rn_ok, en_str, en_lst, zi_lst, re_lst, mb_fu, mb_fr, mb_sh, mb_bs, mb_bf, h_fu, h_fr, h_sh, h_fl, o_fu, o_sh, g_fu, g_fr, g_sh, g_fl, r_some, ol_sh, ol_fu, ap_sh, ap_fu, pu_sh, un_ok, pa_ok, bm_int, bm_str, pm_fr, pm_sh, pm_bs, pm_fu, pm_bf, cm_fr, cm_fu, cm_sh, cm_bs, callM_fl, callM_nb, rdV_fr, rdV_sh, rdV_fu, norm_fl, norm_lst, norm_nf, fl_non, fl_bl, fl_int, fl_str, fl_tup, fl_lst, fl_rls, fl_dic, flL_n, flL_c, flL_int, flL_str, wipe_n, wipe_c, List.set_cons_zero, List.set_cons_succ, List.set_nil, List.map_cons, List.map_nil, List.length_map, List.length_cons, List.length_nil, List.append_nil, List.nil_append, List.take_succ_cons, List.take_zero, List.drop_succ_cons, List.drop_zero, Nat.zero_add, Nat.reduceAdd, Nat.reduceSub, isNon, optI_n, optI_var, optI_lit, optI_bin, optI_neg, optI_idx, optI_bi, optI_call, optI_gl, optI_mt, bq_t, bq_f, bq_not, bq_yes, bq_no, bq_and, bq_or, Bool.not_true, Bool.not_false, Bool.false_and, Bool.true_and, Bool.and_false, Bool.and_true, Bool.or_false, Bool.false_or, Bool.or_true, Bool.true_or, if_true, if_false, Bool.false_eq_true, true_and, and_true, List.any_cons, List.any_nil, List.isEmpty_cons, List.isEmpty_nil, tB_int_non, tB_int_bl, tB_int_int, tB_int_str, tB_int_lst, tB_int_tup, tB_int_dic, tB_bool_non, tB_bool_bl, tB_bool_int, tB_bool_str, tB_bool_lst, tB_bool_tup, tB_bool_dic, tB_str_non, tB_str_bl, tB_str_int, tB_str_str, tB_str_lst, tB_str_tup, tB_str_dic, tB_list_non, tB_list_bl, tB_list_int, tB_list_str, tB_list_lst, tB_list_tup, tB_list_dic, tB_tuple_non, tB_tuple_bl, tB_tuple_int, tB_tuple_str, tB_tuple_lst, tB_tuple_tup, tB_tuple_dic, tB_dict_non, tB_dict_bl, tB_dict_int, tB_dict_str, tB_dict_lst, tB_dict_tup, tB_dict_dic]))
  simp [h1, h2]
theorem c5 (n : Nat) (m : Int) (ws : List Int) (h : Wt m ws) : callD Ps gl 64 (n + 3) 5 [.int m, .lst (ws.map .int)] = .ok (.fu, .non) := by
  (refine w_fn rfl rfl rfl ?_; simp only [b5]; (simp only [startE, List.map_cons, List.map_nil, List.length_cons, List.length_nil, Nat.reduceAdd, Nat.reduceSub, List.replicate, List.cons_append, List.nil_append]); (simp (config := {decide := false}) (disch := first | assumption | omega | (simp only [mb_fu, mb_fr, mb_sh, mb_bs, mb_bf, fl_non, fl_bl, fl_int, fl_str, fl_tup, fl_lst, fl_rls, fl_dic, flL_n, flL_c, flL_int, flL_str, isBor_n, isBor_c, pl_non, pl_bl, pl_int, pl_lst, plL_a, pl_tup, plL_n, plL_c, plL_int, at_non, at_bl, at_int, at_str, co_non, co_bl, co_int, co_str, co_lst, co_tup, List.all_cons, List.all_nil, List.length_cons, List.length_nil, List.length_map, beq_self_eq_true, mkb_shfu, mkb_frfu, Bool.false_and, Bool.true_and, Bool.and_true, Bool.and_false, Bool.and_self, Bool.not_true, Bool.not_false, Bool.or_false, Bool.or_true, Bool.true_or, Bool.false_or, Bool.or_self, ne_eq, reduceCtorEq, not_false_eq_true, not_true_eq_false, List.map_cons, List.map_nil]; done) | (have hSZ : SZ = 16777216 := SZ_w; first | omega | (simp only [List.length_map, List.length_append, List.length_cons, List.length_nil, List.length_reverse, List.length_range, List.length_take, List.length_drop, List.length_replicate] <;> omega))) only [gl, c0, c17, c1, c2, c3, wD, c4, ↓wp_ok, ↓wp_ex, ↓wp_bind, ↓w_var, ↓w_cst, ↓w_gl, ↓w_bin, ↓w_neg, ↓w_cmp, ↓w_chain, ↓w_isN, ↓w_notN, ↓w_and, ↓w_or, ↓w_and1, ↓w_and2, ↓w_or1, ↓w_or2, ↓w_not, ↓w_ite, ↓w_lst, ↓w_tup, ↓w_idx, ↓w_slc, ↓w_rev, ↓w_call, ↓w_bi, ↓w_mt1, ↓w_isi, ↓w_comp, ↓w_dcomp, ↓w_dic0, ↓w_dn, ↓w_dc, ↓t_val, ↓t_cmp, ↓t_chain, ↓t_isN, ↓t_notN, ↓t_not, ↓t_and, ↓t_or, ↓t_and1, ↓t_and2, ↓t_or1, ↓t_or2, ↓ts_n, ↓ts_1, ↓i_val, ↓i_rng1, ↓i_rng2, ↓i_enum, ↓i_zip, ↓i_revd, ↓s_nil, ↓s_cons, ↓s_set, ↓s_own, ↓s_par, ↓s_unp, ↓s_aug, ↓s_apd, ↓s_put, ↓s_exp, ↓s_ret, ↓s_retV, ↓s_retN, ↓s_ite, ↓s_for, ↓s_whl, ↓s_brk, ↓s_cnt, ↓s_pas, ↓s_frz, ↓s_nev, ↓s_mtc, ↓m_nil, ↓m_one, ↓m_two, ↓m_any, ↓ow_nx, ↓ow_bk, ↓ow_ct, ↓ow_rt, iw_non, iw_bl, iw_int, iw_str, iw_lst, iw_tup, iw_dic, iw_obj, iw_exc, iw_rls, getV_0, getV_s, getS_0, getS_s, boolW_bl, bindW_nm, bindW_tp, setAll_c, setAll_n, wp_ok, wp_ex, b_addI, b_subI, b_addS, b_addL, b_mulIl, b_mulIr, b_modI, b_divI, b_mulS, w_negI, a_I, a_S, x_lstI, x_rlsI, b_powT, x_lstI', x_str, x_str', x_strM, x_lstM, x_i2, x_i3, x_i4, x_i5, x_i6, x_i11, x_t0, x_t1, x_t2, x_t3, x_l0, cut_to, cut_from, cut_mid, cut_toN, cut_fromN, c_lt, c_le, c_gt, c_ge, c_eq, c_ne, e_same, e_I, e_S, e_B, c_iz, c_niz, c_inS, c_ninS, c_inP, c_ninP, c_inL, c_ninL, c_inT, c_ninT, k_non, k_bl, k_int, k_lst, k_tup, k_str, ty_w, isBor_n, isBor_c, v_lst, v_tup, v_slcL, v_slcS, v_revL, v_revS, bi_1, bi_2, l_lst, l_rls, l_tup, l_str, i_int, i_bl, li_lst, li_tup, li_str, so_int, so_str, al_bl, an_bl, su_int, al_map, an_map, su_map, ab_int, mi_2, ma_2, gc_2, r_joinS, r_indexS, r_indexL, mt_join, it_lst, it_own, it_tup, it_str, rn_ok, en_str, en_lst, zi_lst, re_lst, mb_fu, mb_fr, mb_sh, mb_bs, mb_bf, h_fu, h_fr, h_sh, h_fl, o_fu, o_sh, g_fu, g_fr, g_sh, g_fl, r_some, ol_sh, ol_fu, ap_sh, ap_fu, pu_sh, un_ok, pa_ok, bm_int, bm_str, pm_fr, pm_sh, pm_bs, pm_fu, pm_bf, cm_fr, cm_fu, cm_sh, cm_bs, callM_fl, callM_nb, rdV_fr, rdV_sh, rdV_fu, norm_fl, norm_lst, norm_nf, fl_non, fl_bl, fl_int, fl_str, fl_tup, fl_lst, fl_rls, fl_dic, flL_n, flL_c, flL_int, flL_str, wipe_n, wipe_c, List.set_cons_zero, List.set_cons_succ, List.set_nil, List.map_cons, List.map_nil, List.length_map, List.length_cons, List.length_nil, List.append_nil, List.nil_append, List.take_succ_cons, List.take_zero, List.drop_succ_cons, List.drop_zero, Nat.zero_add, Nat.reduceAdd, Nat.reduceSub, isNon, optI_n, optI_var, optI_lit, optI_bin, optI_neg, optI_idx, optI_bi, optI_call, optI_gl, optI_mt, bq_t, bq_f, bq_not, bq_yes, bq_no, bq_and, bq_or, Bool.not_true, Bool.not_false, Bool.false_and, Bool.true_and, Bool.and_false, Bool.and_true, Bool.or_false, Bool.false_or, Bool.or_true, Bool.true_or, if_true, if_false, Bool.false_eq_true, true_and, and_true, List.any_cons, List.any_nil, List.isEmpty_cons, List.isEmpty_nil, tB_int_non, tB_int_bl, tB_int_int, tB_int_str, tB_int_lst, tB_int_tup, tB_int_dic, tB_bool_non, tB_bool_bl, tB_bool_int, tB_bool_str, tB_bool_lst, tB_bool_tup, tB_bool_dic, tB_str_non, tB_str_bl, tB_str_int, tB_str_str, tB_str_lst, tB_str_tup, tB_str_dic, tB_list_non, tB_list_bl, tB_list_int, tB_list_str, tB_list_lst, tB_list_tup, tB_list_dic, tB_tuple_non, tB_tuple_bl, tB_tuple_int, tB_tuple_str, tB_tuple_lst, tB_tuple_tup, tB_tuple_dic, tB_dict_non, tB_dict_bl, tB_dict_int, tB_dict_str, tB_dict_lst, tB_dict_tup, tB_dict_dic]))
  refine for_each (fun E => ∃ p q, E = [some (.fr, .int m), some (.fr, .lst (ws.map .int)), p, q]) ⟨_, _, rfl⟩ ?_ ?_
  · rintro d hd E ⟨p, q, rfl⟩
    obtain ⟨i, x, rfl, hx⟩ := mem_enumL hd
    rw [List.mem_map] at hx
    obtain ⟨v, hv, rfl⟩ := hx
    have hw := h.all v hv
    (simp (config := {decide := false}) (disch := first | assumption | omega | (simp only [mb_fu, mb_fr, mb_sh, mb_bs, mb_bf, fl_non, fl_bl, fl_int, fl_str, fl_tup, fl_lst, fl_rls, fl_dic, flL_n, flL_c, flL_int, flL_str, isBor_n, isBor_c, pl_non, pl_bl, pl_int, pl_lst, plL_a, pl_tup, plL_n, plL_c, plL_int, at_non, at_bl, at_int, at_str, co_non, co_bl, co_int, co_str, co_lst, co_tup, List.all_cons, List.all_nil, List.length_cons, List.length_nil, List.length_map, beq_self_eq_true, mkb_shfu, mkb_frfu, Bool.false_and, Bool.true_and, Bool.and_true, Bool.and_false, Bool.and_self, Bool.not_true, Bool.not_false, Bool.or_false, Bool.or_true, Bool.true_or, Bool.false_or, Bool.or_self, ne_eq, reduceCtorEq, not_false_eq_true, not_true_eq_false, List.map_cons, List.map_nil]; done) | (have hSZ : SZ = 16777216 := SZ_w; first | omega | (simp only [List.length_map, List.length_append, List.length_cons, List.length_nil, List.length_reverse, List.length_range, List.length_take, List.length_drop, List.length_replicate] <;> omega))) only [gl, c0, c17, c1, c2, c3, wD, c4, ↓wp_ok, ↓wp_ex, ↓wp_bind, ↓w_var, ↓w_cst, ↓w_gl, ↓w_bin, ↓w_neg, ↓w_cmp, ↓w_chain, ↓w_isN, ↓w_notN, ↓w_and, ↓w_or, ↓w_and1, ↓w_and2, ↓w_or1, ↓w_or2, ↓w_not, ↓w_ite, ↓w_lst, ↓w_tup, ↓w_idx, ↓w_slc, ↓w_rev, ↓w_call, ↓w_bi, ↓w_mt1, ↓w_isi, ↓w_comp, ↓w_dcomp, ↓w_dic0, ↓w_dn, ↓w_dc, ↓t_val, ↓t_cmp, ↓t_chain, ↓t_isN, ↓t_notN, ↓t_not, ↓t_and, ↓t_or, ↓t_and1, ↓t_and2, ↓t_or1, ↓t_or2, ↓ts_n, ↓ts_1, ↓i_val, ↓i_rng1, ↓i_rng2, ↓i_enum, ↓i_zip, ↓i_revd, ↓s_nil, ↓s_cons, ↓s_set, ↓s_own, ↓s_par, ↓s_unp, ↓s_aug, ↓s_apd, ↓s_put, ↓s_exp, ↓s_ret, ↓s_retV, ↓s_retN, ↓s_ite, ↓s_for, ↓s_whl, ↓s_brk, ↓s_cnt, ↓s_pas, ↓s_frz, ↓s_nev, ↓s_mtc, ↓m_nil, ↓m_one, ↓m_two, ↓m_any, ↓ow_nx, ↓ow_bk, ↓ow_ct, ↓ow_rt, iw_non, iw_bl, iw_int, iw_str, iw_lst, iw_tup, iw_dic, iw_obj, iw_exc, iw_rls, getV_0, getV_s, getS_0, getS_s, boolW_bl, bindW_nm, bindW_tp, setAll_c, setAll_n, wp_ok, wp_ex, b_addI, b_subI, b_addS, b_addL, b_mulIl, b_mulIr, b_modI, b_divI, b_mulS, w_negI, a_I, a_S, x_lstI, x_rlsI, b_powT, x_lstI', x_str, x_str', x_strM, x_lstM, x_i2, x_i3, x_i4, x_i5, x_i6, x_i11, x_t0, x_t1, x_t2, x_t3, x_l0, cut_to, cut_from, cut_mid, cut_toN, cut_fromN, c_lt, c_le, c_gt, c_ge, c_eq, c_ne, e_same, e_I, e_S, e_B, c_iz, c_niz, c_inS, c_ninS, c_inP, c_ninP, c_inL, c_ninL, c_inT, c_ninT, k_non, k_bl, k_int, k_lst, k_tup, k_str, ty_w, isBor_n, isBor_c, v_lst, v_tup, v_slcL, v_slcS, v_revL, v_revS, bi_1, bi_2, l_lst, l_rls, l_tup, l_str, i_int, i_bl, li_lst, li_tup, li_str, so_int, so_str, al_bl, an_bl, su_int, al_map, an_map, su_map, ab_int, mi_2, ma_2, gc_2, r_joinS, r_indexS, r_indexL, mt_join, it_lst, it_own, it_tup, it_str, rn_ok, en_str, en_lst, zi_lst, re_lst, mb_fu, mb_fr, mb_sh, mb_bs, mb_bf, h_fu, h_fr, h_sh, h_fl, o_fu, o_sh, g_fu, g_fr, g_sh, g_fl, r_some, ol_sh, ol_fu, ap_sh, ap_fu, pu_sh, un_ok, pa_ok, bm_int, bm_str, pm_fr, pm_sh, pm_bs, pm_fu, pm_bf, cm_fr, cm_fu, cm_sh, cm_bs, callM_fl, callM_nb, rdV_fr, rdV_sh, rdV_fu, norm_fl, norm_lst, norm_nf, fl_non, fl_bl, fl_int, fl_str, fl_tup, fl_lst, fl_rls, fl_dic, flL_n, flL_c, flL_int, flL_str, wipe_n, wipe_c, List.set_cons_zero, List.set_cons_succ, List.set_nil, List.map_cons, List.map_nil, List.length_map, List.length_cons, List.length_nil, List.append_nil, List.nil_append, List.take_succ_cons, List.take_zero, List.drop_succ_cons, List.drop_zero, Nat.zero_add, Nat.reduceAdd, Nat.reduceSub, isNon, optI_n, optI_var, optI_lit, optI_bin, optI_neg, optI_idx, optI_bi, optI_call, optI_gl, optI_mt, bq_t, bq_f, bq_not, bq_yes, bq_no, bq_and, bq_or, Bool.not_true, Bool.not_false, Bool.false_and, Bool.true_and, Bool.and_false, Bool.and_true, Bool.or_false, Bool.false_or, Bool.or_true, Bool.true_or, if_true, if_false, Bool.false_eq_true, true_and, and_true, List.any_cons, List.any_nil, List.isEmpty_cons, List.isEmpty_nil, tB_int_non, tB_int_bl, tB_int_int, tB_int_str, tB_int_lst, tB_int_tup, tB_int_dic, tB_bool_non, tB_bool_bl, tB_bool_int, tB_bool_str, tB_bool_lst, tB_bool_tup, tB_bool_dic, tB_str_non, tB_str_bl, tB_str_int, tB_str_str, tB_str_lst, tB_str_tup, tB_str_dic, tB_list_non, tB_list_bl, tB_list_int, tB_list_str, tB_list_lst, tB_list_tup, tB_list_dic, tB_tuple_non, tB_tuple_bl, tB_tuple_int, tB_tuple_str, tB_tuple_lst, tB_tuple_tup, tB_tuple_dic, tB_dict_non, tB_dict_bl, tB_dict_int, tB_dict_str, tB_dict_lst, tB_dict_tup, tB_dict_dic])
    exact ⟨_, _, rfl⟩
  · rintro E ⟨p, q, rfl⟩
    (simp (config := {decide := false}) (disch := first | assumption | omega | (simp only [mb_fu, mb_fr, mb_sh, mb_bs, mb_bf, fl_non, fl_bl, fl_int, fl_str, fl_tup, fl_lst, fl_rls, fl_dic, flL_n, flL_c, flL_int, flL_str, isBor_n, isBor_c, pl_non, pl_bl, pl_int, pl_lst, plL_a, pl_tup, plL_n, plL_c, plL_int, at_non, at_bl, at_int, at_str, co_non, co_bl, co_int, co_str, co_lst, co_tup, List.all_cons, List.all_nil, List.length_cons, List.length_nil, List.length_map, beq_self_eq_true, mkb_shfu, mkb_frfu, Bool.false_and, Bool.true_and, Bool.and_true, Bool.and_false, Bool.and_self, Bool.not_true, Bool.not_false, Bool.or_false, Bool.or_true, Bool.true_or, Bool.false_or, Bool.or_self, ne_eq, reduceCtorEq, not_false_eq_true, not_true_eq_false, List.map_cons, List.map_nil]; done) | (have hSZ : SZ = 16777216 := SZ_w; first | omega | (simp only [List.length_map, List.length_append, List.length_cons, List.length_nil, List.length_reverse, List.length_range, List.length_take, List.length_drop, List.length_replicate] <;> omega))) only [gl, c0, c17, c1, c2, c3, wD, c4, ↓wp_ok, ↓wp_ex, ↓wp_bind, ↓w_var, ↓w_cst, ↓w_gl, ↓w_bin, ↓w_neg, ↓w_cmp, ↓w_chain, ↓w_isN, ↓w_notN, ↓w_and, ↓w_or, ↓w_and1, ↓w_and2, ↓w_or1, ↓w_or2, ↓w_not, ↓w_ite, ↓w_lst, ↓w_tup, ↓w_idx, ↓w_slc, ↓w_rev, ↓w_call, ↓w_bi, ↓w_mt1, ↓w_isi, ↓w_comp, ↓w_dcomp, ↓w_dic0, ↓w_dn, ↓w_dc, ↓t_val, ↓t_cmp, ↓t_chain, ↓t_isN, ↓t_notN, ↓t_not, ↓t_and, ↓t_or, ↓t_and1, ↓t_and2, ↓t_or1, ↓t_or2, ↓ts_n, ↓ts_1, ↓i_val, ↓i_rng1, ↓i_rng2, ↓i_enum, ↓i_zip, ↓i_revd, ↓s_nil, ↓s_cons, ↓s_set, ↓s_own, ↓s_par, ↓s_unp, ↓s_aug, ↓s_apd, ↓s_put, ↓s_exp, ↓s_ret, ↓s_retV, ↓s_retN, ↓s_ite, ↓s_for, ↓s_whl, ↓s_brk, ↓s_cnt, ↓s_pas, ↓s_frz, ↓s_nev, ↓s_mtc, ↓m_nil, ↓m_one, ↓m_two, ↓m_any, ↓ow_nx, ↓ow_bk, ↓ow_ct, ↓ow_rt, iw_non, iw_bl, iw_int, iw_str, iw_lst, iw_tup, iw_dic, iw_obj, iw_exc, iw_rls, getV_0, getV_s, getS_0, getS_s, boolW_bl, bindW_nm, bindW_tp, setAll_c, setAll_n, wp_ok, wp_ex, b_addI, b_subI, b_addS, b_addL, b_mulIl, b_mulIr, b_modI, b_divI, b_mulS, w_negI, a_I, a_S, x_lstI, x_rlsI, b_powT, x_lstI', x_str, x_str', x_strM, x_lstM, x_i2, x_i3, x_i4, x_i5, x_i6, x_i11, x_t0, x_t1, x_t2, x_t3, x_l0, cut_to, cut_from, cut_mid, cut_toN, cut_fromN, c_lt, c_le, c_gt, c_ge, c_eq, c_ne, e_same, e_I, e_S, e_B, c_iz, c_niz, c_inS, c_ninS, c_inP, c_ninP, c_inL, c_ninL, c_inT, c_ninT, k_non, k_bl, k_int, k_lst, k_tup, k_str, ty_w, isBor_n, isBor_c, v_lst, v_tup, v_slcL, v_slcS, v_revL, v_revS, bi_1, bi_2, l_lst, l_rls, l_tup, l_str, i_int, i_bl, li_lst, li_tup, li_str, so_int, so_str, al_bl, an_bl, su_int, al_map, an_map, su_map, ab_int, mi_2, ma_2, gc_2, r_joinS, r_indexS, r_indexL, mt_join, it_lst, it_own, it_tup, it_str, rn_ok, en_str, en_lst, zi_lst, re_lst, mb_fu, mb_fr, mb_sh, mb_bs, mb_bf, h_fu, h_fr, h_sh, h_fl, o_fu, o_sh, g_fu, g_fr, g_sh, g_fl, r_some, ol_sh, ol_fu, ap_sh, ap_fu, pu_sh, un_ok, pa_ok, bm_int, bm_str, pm_fr, pm_sh, pm_bs, pm_fu, pm_bf, cm_fr, cm_fu, cm_sh, cm_bs, callM_fl, callM_nb, rdV_fr, rdV_sh, rdV_fu, norm_fl, norm_lst, norm_nf, fl_non, fl_bl, fl_int, fl_str, fl_tup, fl_lst, fl_rls, fl_dic, flL_n, flL_c, flL_int, flL_str, wipe_n, wipe_c, List.set_cons_zero, List.set_cons_succ, List.set_nil, List.map_cons, List.map_nil, List.length_map, List.length_cons, List.length_nil, List.append_nil, List.nil_append, List.take_succ_cons, List.take_zero, List.drop_succ_cons, List.drop_zero, Nat.zero_add, Nat.reduceAdd, Nat.reduceSub, isNon, optI_n, optI_var, optI_lit, optI_bin, optI_neg, optI_idx, optI_bi, optI_call, optI_gl, optI_mt, bq_t, bq_f, bq_not, bq_yes, bq_no, bq_and, bq_or, Bool.not_true, Bool.not_false, Bool.false_and, Bool.true_and, Bool.and_false, Bool.and_true, Bool.or_false, Bool.false_or, Bool.or_true, Bool.true_or, if_true, if_false, Bool.false_eq_true, true_and, and_true, List.any_cons, List.any_nil, List.isEmpty_cons, List.isEmpty_nil, tB_int_non, tB_int_bl, tB_int_int, tB_int_str, tB_int_lst, tB_int_tup, tB_int_dic, tB_bool_non, tB_bool_bl, tB_bool_int, tB_bool_str, tB_bool_lst, tB_bool_tup, tB_bool_dic, tB_str_non, tB_str_bl, tB_str_int, tB_str_str, tB_str_lst, tB_str_tup, tB_str_dic, tB_list_non, tB_list_bl, tB_list_int, tB_list_str, tB_list_lst, tB_list_tup, tB_list_dic, tB_tuple_non, tB_tuple_bl, tB_tuple_int, tB_tuple_str, tB_tuple_lst, tB_tuple_tup, tB_tuple_dic, tB_dict_non, tB_dict_bl, tB_dict_int, tB_dict_str, tB_dict_lst, tB_dict_tup, tB_dict_dic])
theorem c6 (n : Nat) (m : Int) (ws : List Int) (h : Wt m ws) : callD Ps gl 64 (n + 4) 6 [wD m ws] = .ok (.fu, .non) := by
  have := h.m2; have := h.m40; have := h.n1; have := h.n12; have := h.states
  (refine w_fn rfl rfl rfl ?_; simp only [b6]; (simp only [startE, List.map_cons, List.map_nil, List.length_cons, List.length_nil, Nat.reduceAdd, Nat.reduceSub, List.replicate, List.cons_append, List.nil_append]); (simp (config := {decide := false}) (disch := first | assumption | omega | (simp only [mb_fu, mb_fr, mb_sh, mb_bs, mb_bf, fl_non, fl_bl, fl_int, fl_str, fl_tup, fl_lst, fl_rls, fl_dic, flL_n, flL_c, flL_int, flL_str, isBor_n, isBor_c, pl_non, pl_bl, pl_int, pl_lst, plL_a, pl_tup, plL_n, plL_c, plL_int, at_non, at_bl, at_int, at_str, co_non, co_bl, co_int, co_str, co_lst, co_tup, List.all_cons, List.all_nil, List.length_cons, List.length_nil, List.length_map, beq_self_eq_true, mkb_shfu, mkb_frfu, Bool.false_and, Bool.true_and, Bool.and_true, Bool.and_false, Bool.and_self, Bool.not_true, Bool.not_false, Bool.or_false, Bool.or_true, Bool.true_or, Bool.false_or, Bool.or_self, ne_eq, reduceCtorEq, not_false_eq_true, not_true_eq_false, List.map_cons, List.map_nil]; done) | (have hSZ : SZ = 16777216 := SZ_w; first | omega | (simp only [List.length_map, List.length_append, List.length_cons, List.length_nil, List.length_reverse, List.length_range, List.length_take, List.length_drop, List.length_replicate] <;> omega))) only [gl, c0, c17, c1, c2, c3, wD, c4, c5, ↓wp_ok, ↓wp_ex, ↓wp_bind, ↓w_var, ↓w_cst, ↓w_gl, ↓w_bin, ↓w_neg, ↓w_cmp, ↓w_chain, ↓w_isN, ↓w_notN, ↓w_and, ↓w_or, ↓w_and1, ↓w_and2, ↓w_or1, ↓w_or2, ↓w_not, ↓w_ite, ↓w_lst, ↓w_tup, ↓w_idx, ↓w_slc, ↓w_rev, ↓w_call, ↓w_bi, ↓w_mt1, ↓w_isi, ↓w_comp, ↓w_dcomp, ↓w_dic0, ↓w_dn, ↓w_dc, ↓t_val, ↓t_cmp, ↓t_chain, ↓t_isN, ↓t_notN, ↓t_not, ↓t_and, ↓t_or, ↓t_and1, ↓t_and2, ↓t_or1, ↓t_or2, ↓ts_n, ↓ts_1, ↓i_val, ↓i_rng1, ↓i_rng2, ↓i_enum, ↓i_zip, ↓i_revd, ↓s_nil, ↓s_cons, ↓s_set, ↓s_own, ↓s_par, ↓s_unp, ↓s_aug, ↓s_apd, ↓s_put, ↓s_exp, ↓s_ret, ↓s_retV, ↓s_retN, ↓s_ite, ↓s_for, ↓s_whl, ↓s_brk, ↓s_cnt, ↓s_pas, ↓s_frz, ↓s_nev, ↓s_mtc, ↓m_nil, ↓m_one, ↓m_two, ↓m_any, ↓ow_nx, ↓ow_bk, ↓ow_ct, ↓ow_rt, iw_non, iw_bl, iw_int, iw_str, iw_lst, iw_tup, iw_dic, iw_obj, iw_exc, iw_rls, getV_0, getV_s, getS_0, getS_s, boolW_bl, bindW_nm, bindW_tp, setAll_c, setAll_n, wp_ok, wp_ex, b_addI, b_subI, b_addS, b_addL, b_mulIl, b_mulIr, b_modI, b_divI, b_mulS, w_negI, a_I, a_S, x_lstI, x_rlsI, b_powT, x_lstI', x_str, x_str', x_strM, x_lstM, x_i2, x_i3, x_i4, x_i5, x_i6, x_i11, x_t0, x_t1, x_t2, x_t3, x_l0, cut_to, cut_from, cut_mid, cut_toN, cut_fromN, c_lt, c_le, c_gt, c_ge, c_eq, c_ne, e_same, e_I, e_S, e_B, c_iz, c_niz, c_inS, c_ninS, c_inP, c_ninP, c_inL, c_ninL, c_inT, c_ninT, k_non, k_bl, k_int, k_lst, k_tup, k_str, ty_w, isBor_n, isBor_c, v_lst, v_tup, v_slcL, v_slcS, v_revL, v_revS, bi_1, bi_2, l_lst, l_rls, l_tup, l_str, i_int, i_bl, li_lst, li_tup, li_str, so_int, so_str, al_bl, an_bl, su_int, al_map, an_map, su_map, ab_int, mi_2, ma_2, gc_2, r_joinS, r_indexS, r_indexL, mt_join, it_lst, it_own, it_tup, it_str, rn_ok, en_str, en_lst, zi_lst, re_lst, mb_fu, mb_fr, mb_sh, mb_bs, mb_bf, h_fu, h_fr, h_sh, h_fl, o_fu, o_sh, g_fu, g_fr, g_sh, g_fl, r_some, ol_sh, ol_fu, ap_sh, ap_fu, pu_sh, un_ok, pa_ok, bm_int, bm_str, pm_fr, pm_sh, pm_bs, pm_fu, pm_bf, cm_fr, cm_fu, cm_sh, cm_bs, callM_fl, callM_nb, rdV_fr, rdV_sh, rdV_fu, norm_fl, norm_lst, norm_nf, fl_non, fl_bl, fl_int, fl_str, fl_tup, fl_lst, fl_rls, fl_dic, flL_n, flL_c, flL_int, flL_str, wipe_n, wipe_c, List.set_cons_zero, List.set_cons_succ, List.set_nil, List.map_cons, List.map_nil, List.length_map, List.length_cons, List.length_nil, List.append_nil, List.nil_append, List.take_succ_cons, List.take_zero, List.drop_succ_cons, List.drop_zero, Nat.zero_add, Nat.reduceAdd, Nat.reduceSub, isNon, optI_n, optI_var, optI_lit, optI_bin, optI_neg, optI_idx, optI_bi, optI_call, optI_gl, optI_mt, bq_t, bq_f, bq_not, bq_yes, bq_no, bq_and, bq_or, Bool.not_true, Bool.not_false, Bool.false_and, Bool.true_and, Bool.and_false, Bool.and_true, Bool.or_false, Bool.false_or, Bool.or_true, Bool.true_or, if_true, if_false, Bool.false_eq_true, true_and, and_true, List.any_cons, List.any_nil, List.isEmpty_cons, List.isEmpty_nil, tB_int_non, tB_int_bl, tB_int_int, tB_int_str, tB_int_lst, tB_int_tup, tB_int_dic, tB_bool_non, tB_bool_bl, tB_bool_int, tB_bool_str, tB_bool_lst, tB_bool_tup, tB_bool_dic, tB_str_non, tB_str_bl, tB_str_int, tB_str_str, tB_str_lst, tB_str_tup, tB_str_dic, tB_list_non, tB_list_bl, tB_list_int, tB_list_str, tB_list_lst, tB_list_tup, tB_list_dic, tB_tuple_non, tB_tuple_bl, tB_tuple_int, tB_tuple_str, tB_tuple_lst, tB_tuple_tup, tB_tuple_dic, tB_dict_non, tB_dict_bl, tB_dict_int, tB_dict_str, tB_dict_lst, tB_dict_tup, tB_dict_dic]))
/-- the weight at a place -/
def wat (ws : List Int) (p : Int) : Int := ith ws (p % ws.length)
theorem wat_mem {ws : List Int} {p : Int} (h : 1 ≤ ws.length) : wat ws p ∈ ws := ith_mem ⟨Int.emod_nonneg _ (by omega), Int.emod_lt_of_pos _ (by omega)⟩
theorem c7 (n : Nat) (m : Int) (ws : List Int) (p : Int) (h : 1 ≤ ws.length) : callD Ps gl 64 (n + 2) 7 [wD m ws, .int p] = .ok (.fu, .int (wat ws p)) := by
  have := Int.emod_nonneg p (b := ws.length) (by omega)
  have := Int.emod_lt_of_pos p (b := ws.length) (by omega)
  (refine w_fn rfl rfl rfl ?_; simp only [b7]; (simp only [startE, List.map_cons, List.map_nil, List.length_cons, List.length_nil, Nat.reduceAdd, Nat.reduceSub, List.replicate, List.cons_append, List.nil_append]); (simp (config := {decide := false}) (disch := first | assumption | omega | (simp only [mb_fu, mb_fr, mb_sh, mb_bs, mb_bf, fl_non, fl_bl, fl_int, fl_str, fl_tup, fl_lst, fl_rls, fl_dic, flL_n, flL_c, flL_int, flL_str, isBor_n, isBor_c, pl_non, pl_bl, pl_int, pl_lst, plL_a, pl_tup, plL_n, plL_c, plL_int, at_non, at_bl, at_int, at_str, co_non, co_bl, co_int, co_str, co_lst, co_tup, List.all_cons, List.all_nil, List.length_cons, List.length_nil, List.length_map, beq_self_eq_true, mkb_shfu, mkb_frfu, Bool.false_and, Bool.true_and, Bool.and_true, Bool.and_false, Bool.and_self, Bool.not_true, Bool.not_false, Bool.or_false, Bool.or_true, Bool.true_or, Bool.false_or, Bool.or_self, ne_eq, reduceCtorEq, not_false_eq_true, not_true_eq_false, List.map_cons, List.map_nil]; done) | (have hSZ : SZ = 16777216 := SZ_w; first | omega | (simp only [List.length_map, List.length_append, List.length_cons, List.length_nil, List.length_reverse, List.length_range, List.length_take, List.length_drop, List.length_replicate] <;> omega))) only [gl, c0, c17, c1, c2, c3, wD, c4, c5, c6, ↓wp_ok, ↓wp_ex, ↓wp_bind, ↓w_var, ↓w_cst, ↓w_gl, ↓w_bin, ↓w_neg, ↓w_cmp, ↓w_chain, ↓w_isN, ↓w_notN, ↓w_and, ↓w_or, ↓w_and1, ↓w_and2, ↓w_or1, ↓w_or2, ↓w_not, ↓w_ite, ↓w_lst, ↓w_tup, ↓w_idx, ↓w_slc, ↓w_rev, ↓w_call, ↓w_bi, ↓w_mt1, ↓w_isi, ↓w_comp, ↓w_dcomp, ↓w_dic0, ↓w_dn, ↓w_dc, ↓t_val, ↓t_cmp, ↓t_chain, ↓t_isN, ↓t_notN, ↓t_not, ↓t_and, ↓t_or, ↓t_and1, ↓t_and2, ↓t_or1, ↓t_or2, ↓ts_n, ↓ts_1, ↓i_val, ↓i_rng1, ↓i_rng2, ↓i_enum, ↓i_zip, ↓i_revd, ↓s_nil, ↓s_cons, ↓s_set, ↓s_own, ↓s_par, ↓s_unp, ↓s_aug, ↓s_apd, ↓s_put, ↓s_exp, ↓s_ret, ↓s_retV, ↓s_retN, ↓s_ite, ↓s_for, ↓s_whl, ↓s_brk, ↓s_cnt, ↓s_pas, ↓s_frz, ↓s_nev, ↓s_mtc, ↓m_nil, ↓m_one, ↓m_two, ↓m_any, ↓ow_nx, ↓ow_bk, ↓ow_ct, ↓ow_rt, iw_non, iw_bl, iw_int, iw_str, iw_lst, iw_tup, iw_dic, iw_obj, iw_exc, iw_rls, getV_0, getV_s, getS_0, getS_s, boolW_bl, bindW_nm, bindW_tp, setAll_c, setAll_n, wp_ok, wp_ex, b_addI, b_subI, b_addS, b_addL, b_mulIl, b_mulIr, b_modI, b_divI, b_mulS, w_negI, a_I, a_S, x_lstI, x_rlsI, b_powT, x_lstI', x_str, x_str', x_strM, x_lstM, x_i2, x_i3, x_i4, x_i5, x_i6, x_i11, x_t0, x_t1, x_t2, x_t3, x_l0, cut_to, cut_from, cut_mid, cut_toN, cut_fromN, c_lt, c_le, c_gt, c_ge, c_eq, c_ne, e_same, e_I, e_S, e_B, c_iz, c_niz, c_inS, c_ninS, c_inP, c_ninP, c_inL, c_ninL, c_inT, c_ninT, k_non, k_bl, k_int, k_lst, k_tup, k_str, ty_w, isBor_n, isBor_c, v_lst, v_tup, v_slcL, v_slcS, v_revL, v_revS, bi_1, bi_2, l_lst, l_rls, l_tup, l_str, i_int, i_bl, li_lst, li_tup, li_str, so_int, so_str, al_bl, an_bl, su_int, al_map, an_map, su_map, ab_int, mi_2, ma_2, gc_2, r_joinS, r_indexS, r_indexL, mt_join, it_lst, it_own, it_tup, it_str, rn_ok, en_str, en_lst, zi_lst, re_lst, mb_fu, mb_fr, mb_sh, mb_bs, mb_bf, h_fu, h_fr, h_sh, h_fl, o_fu, o_sh, g_fu, g_fr, g_sh, g_fl, r_some, ol_sh, ol_fu, ap_sh, ap_fu, pu_sh, un_ok, pa_ok, bm_int, bm_str, pm_fr, pm_sh, pm_bs, pm_fu, pm_bf, cm_fr, cm_fu, cm_sh, cm_bs, callM_fl, callM_nb, rdV_fr, rdV_sh, rdV_fu, norm_fl, norm_lst, norm_nf, fl_non, fl_bl, fl_int, fl_str, fl_tup, fl_lst, fl_rls, fl_dic, flL_n, flL_c, flL_int, flL_str, wipe_n, wipe_c, List.set_cons_zero, List.set_cons_succ, List.set_nil, List.map_cons, List.map_nil, List.length_map, List.length_cons, List.length_nil, List.append_nil, List.nil_append, List.take_succ_cons, List.take_zero, List.drop_succ_cons, List.drop_zero, Nat.zero_add, Nat.reduceAdd, Nat.reduceSub, isNon, optI_n, optI_var, optI_lit, optI_bin, optI_neg, optI_idx, optI_bi, optI_call, optI_gl, optI_mt, bq_t, bq_f, bq_not, bq_yes, bq_no, bq_and, bq_or, Bool.not_true, Bool.not_false, Bool.false_and, Bool.true_and, Bool.and_false, Bool.and_true, Bool.or_false, Bool.false_or, Bool.or_true, Bool.true_or, if_true, if_false, Bool.false_eq_true, true_and, and_true, List.any_cons, List.any_nil, List.isEmpty_cons, List.isEmpty_nil, tB_int_non, tB_int_bl, tB_int_int, tB_int_str, tB_int_lst, tB_int_tup, tB_int_dic, tB_bool_non, tB_bool_bl, tB_bool_int, tB_bool_str, tB_bool_lst, tB_bool_tup, tB_bool_dic, tB_str_non, tB_str_bl, tB_str_int, tB_str_str, tB_str_lst, tB_str_tup, tB_str_dic, tB_list_non, tB_list_bl, tB_list_int, tB_list_str, tB_list_lst, tB_list_tup, tB_list_dic, tB_tuple_non, tB_tuple_bl, tB_tuple_int, tB_tuple_str, tB_tuple_lst, tB_tuple_tup, tB_tuple_dic, tB_dict_non, tB_dict_bl, tB_dict_int, tB_dict_str, tB_dict_lst, tB_dict_tup, tB_dict_dic]))
  rfl
def kds : List (List Nat) := [[111, 110, 101], [115, 119, 97, 112], [116, 119, 105, 110], [106, 117, 109, 112], [115, 112, 97, 110]]
theorem c8 (n : Nat) (kd : List Nat) (h : kd ∈ kds) : callD Ps gl 64 (n + 1) 8 [.str kd] = .ok (.fu, .non) := by
  simp only [kds, List.mem_cons, List.not_mem_nil, or_false] at h
  rcases h with rfl | rfl | rfl | rfl | rfl <;> rfl
/-- the factor of a kind -/
def fac (ws : List Int) (kd : List Nat) (p : Int) : Int :=
  if kd = [111, 110, 101] then wat ws p else if kd = [115, 119, 97, 112] then wat ws p - wat ws (p + 1) else if kd = [116, 119, 105, 110] then wat ws p + wat ws (p + 1)
  else if kd = [106, 117, 109, 112] then wat ws p - wat ws (p + 2) else wat ws p + wat ws (p + 2)
theorem c9 (n : Nat) (m : Int) (ws : List Int) (kd : List Nat) (p : Int) (h : 1 ≤ ws.length) : callD Ps gl 64 (n + 3) 9 [wD m ws, .str kd, .int p] = .ok (.fu, .int (fac ws kd p)) := by
  (refine w_fn rfl rfl rfl ?_; simp only [b9]; (simp only [startE, List.map_cons, List.map_nil, List.length_cons, List.length_nil, Nat.reduceAdd, Nat.reduceSub, List.replicate, List.cons_append, List.nil_append]); (simp (config := {decide := false}) (disch := first | assumption | omega | (simp only [mb_fu, mb_fr, mb_sh, mb_bs, mb_bf, fl_non, fl_bl, fl_int, fl_str, fl_tup, fl_lst, fl_rls, fl_dic, flL_n, flL_c, flL_int, flL_str, isBor_n, isBor_c, pl_non, pl_bl, pl_int, pl_lst, plL_a, pl_tup, plL_n, plL_c, plL_int, at_non, at_bl, at_int, at_str, co_non, co_bl, co_int, co_str, co_lst, co_tup, List.all_cons, List.all_nil, List.length_cons, List.length_nil, List.length_map, beq_self_eq_true, mkb_shfu, mkb_frfu, Bool.false_and, Bool.true_and, Bool.and_true, Bool.and_false, Bool.and_self, Bool.not_true, Bool.not_false, Bool.or_false, Bool.or_true, Bool.true_or, Bool.false_or, Bool.or_self, ne_eq, reduceCtorEq, not_false_eq_true, not_true_eq_false, List.map_cons, List.map_nil]; done) | (have hSZ : SZ = 16777216 := SZ_w; first | omega | (simp only [List.length_map, List.length_append, List.length_cons, List.length_nil, List.length_reverse, List.length_range, List.length_take, List.length_drop, List.length_replicate] <;> omega))) only [gl, c0, c17, c1, c2, c3, wD, c4, c5, c6, c7, ↓wp_ok, ↓wp_ex, ↓wp_bind, ↓w_var, ↓w_cst, ↓w_gl, ↓w_bin, ↓w_neg, ↓w_cmp, ↓w_chain, ↓w_isN, ↓w_notN, ↓w_and, ↓w_or, ↓w_and1, ↓w_and2, ↓w_or1, ↓w_or2, ↓w_not, ↓w_ite, ↓w_lst, ↓w_tup, ↓w_idx, ↓w_slc, ↓w_rev, ↓w_call, ↓w_bi, ↓w_mt1, ↓w_isi, ↓w_comp, ↓w_dcomp, ↓w_dic0, ↓w_dn, ↓w_dc, ↓t_val, ↓t_cmp, ↓t_chain, ↓t_isN, ↓t_notN, ↓t_not, ↓t_and, ↓t_or, ↓t_and1, ↓t_and2, ↓t_or1, ↓t_or2, ↓ts_n, ↓ts_1, ↓i_val, ↓i_rng1, ↓i_rng2, ↓i_enum, ↓i_zip, ↓i_revd, ↓s_nil, ↓s_cons, ↓s_set, ↓s_own, ↓s_par, ↓s_unp, ↓s_aug, ↓s_apd, ↓s_put, ↓s_exp, ↓s_ret, ↓s_retV, ↓s_retN, ↓s_ite, ↓s_for, ↓s_whl, ↓s_brk, ↓s_cnt, ↓s_pas, ↓s_frz, ↓s_nev, ↓s_mtc, ↓m_nil, ↓m_one, ↓m_two, ↓m_any, ↓ow_nx, ↓ow_bk, ↓ow_ct, ↓ow_rt, iw_non, iw_bl, iw_int, iw_str, iw_lst, iw_tup, iw_dic, iw_obj, iw_exc, iw_rls, getV_0, getV_s, getS_0, getS_s, boolW_bl, bindW_nm, bindW_tp, setAll_c, setAll_n, wp_ok, wp_ex, b_addI, b_subI, b_addS, b_addL, b_mulIl, b_mulIr, b_modI, b_divI, b_mulS, w_negI, a_I, a_S, x_lstI, x_rlsI, b_powT, x_lstI', x_str, x_str', x_strM, x_lstM, x_i2, x_i3, x_i4, x_i5, x_i6, x_i11, x_t0, x_t1, x_t2, x_t3, x_l0, cut_to, cut_from, cut_mid, cut_toN, cut_fromN, c_lt, c_le, c_gt, c_ge, c_eq, c_ne, e_same, e_I, e_S, e_B, c_iz, c_niz, c_inS, c_ninS, c_inP, c_ninP, c_inL, c_ninL, c_inT, c_ninT, k_non, k_bl, k_int, k_lst, k_tup, k_str, ty_w, isBor_n, isBor_c, v_lst, v_tup, v_slcL, v_slcS, v_revL, v_revS, bi_1, bi_2, l_lst, l_rls, l_tup, l_str, i_int, i_bl, li_lst, li_tup, li_str, so_int, so_str, al_bl, an_bl, su_int, al_map, an_map, su_map, ab_int, mi_2, ma_2, gc_2, r_joinS, r_indexS, r_indexL, mt_join, it_lst, it_own, it_tup, it_str, rn_ok, en_str, en_lst, zi_lst, re_lst, mb_fu, mb_fr, mb_sh, mb_bs, mb_bf, h_fu, h_fr, h_sh, h_fl, o_fu, o_sh, g_fu, g_fr, g_sh, g_fl, r_some, ol_sh, ol_fu, ap_sh, ap_fu, pu_sh, un_ok, pa_ok, bm_int, bm_str, pm_fr, pm_sh, pm_bs, pm_fu, pm_bf, cm_fr, cm_fu, cm_sh, cm_bs, callM_fl, callM_nb, rdV_fr, rdV_sh, rdV_fu, norm_fl, norm_lst, norm_nf, fl_non, fl_bl, fl_int, fl_str, fl_tup, fl_lst, fl_rls, fl_dic, flL_n, flL_c, flL_int, flL_str, wipe_n, wipe_c, List.set_cons_zero, List.set_cons_succ, List.set_nil, List.map_cons, List.map_nil, List.length_map, List.length_cons, List.length_nil, List.append_nil, List.nil_append, List.take_succ_cons, List.take_zero, List.drop_succ_cons, List.drop_zero, Nat.zero_add, Nat.reduceAdd, Nat.reduceSub, isNon, optI_n, optI_var, optI_lit, optI_bin, optI_neg, optI_idx, optI_bi, optI_call, optI_gl, optI_mt, bq_t, bq_f, bq_not, bq_yes, bq_no, bq_and, bq_or, Bool.not_true, Bool.not_false, Bool.false_and, Bool.true_and, Bool.and_false, Bool.and_true, Bool.or_false, Bool.false_or, Bool.or_true, Bool.true_or, if_true, if_false, Bool.false_eq_true, true_and, and_true, List.any_cons, List.any_nil, List.isEmpty_cons, List.isEmpty_nil, tB_int_non, tB_int_bl, tB_int_int, tB_int_str, tB_int_lst, tB_int_tup, tB_int_dic, tB_bool_non, tB_bool_bl, tB_bool_int, tB_bool_str, tB_bool_lst, tB_bool_tup, tB_bool_dic, tB_str_non, tB_str_bl, tB_str_int, tB_str_str, tB_str_lst, tB_str_tup, tB_str_dic, tB_list_non, tB_list_bl, tB_list_int, tB_list_str, tB_list_lst, tB_list_tup, tB_list_dic, tB_tuple_non, tB_tuple_bl, tB_tuple_int, tB_tuple_str, tB_tuple_lst, tB_tuple_tup, tB_tuple_dic, tB_dict_non, tB_dict_bl, tB_dict_int, tB_dict_str, tB_dict_lst, tB_dict_tup, tB_dict_dic]))
  (repeat' (first | (simp (config := {decide := false}) (disch := first | assumption | omega | (simp only [mb_fu, mb_fr, mb_sh, mb_bs, mb_bf, fl_non, fl_bl, fl_int, fl_str, fl_tup, fl_lst, fl_rls, fl_dic, flL_n, flL_c, flL_int, flL_str, isBor_n, isBor_c, pl_non, pl_bl, pl_int, pl_lst, plL_a, pl_tup, plL_n, plL_c, plL_int, at_non, at_bl, at_int, at_str, co_non, co_bl, co_int, co_str, co_lst, co_tup, List.all_cons, List.all_nil, List.length_cons, List.length_nil, List.length_map, beq_self_eq_true, mkb_shfu, mkb_frfu, Bool.false_and, Bool.true_and, Bool.and_true, Bool.and_false, Bool.and_self, Bool.not_true, Bool.not_false, Bool.or_false, Bool.or_true, Bool.true_or, Bool.false_or, Bool.or_self, ne_eq, reduceCtorEq, not_false_eq_true, not_true_eq_false, List.map_cons, List.map_nil]; done) | (have hSZ : SZ = 16777216 := SZ_w; first | omega | (simp only [List.length_map, List.length_append, List.length_cons, List.length_nil, List.length_reverse, List.length_range, List.length_take, List.length_drop, List.length_replicate] <;> omega))) only [gl, c0, c17, c1, c2, c3, wD, c4, c5, c6, c7, ↓wp_ok, ↓wp_ex, ↓wp_bind, ↓w_var, ↓w_cst, ↓w_gl, ↓w_bin, ↓w_neg, ↓w_cmp, ↓w_chain, ↓w_isN, ↓w_notN, ↓w_and, ↓w_or, ↓w_and1, ↓w_and2, ↓w_or1, ↓w_or2, ↓w_not, ↓w_ite, ↓w_lst, ↓w_tup, ↓w_idx, ↓w_slc, ↓w_rev, ↓w_call, ↓w_bi, ↓w_mt1, ↓w_isi, ↓w_comp, ↓w_dcomp, ↓w_dic0, ↓w_dn, ↓w_dc, ↓t_val, ↓t_cmp, ↓t_chain, ↓t_isN, ↓t_notN, ↓t_not, ↓t_and, ↓t_or, ↓t_and1, ↓t_and2, ↓t_or1, ↓t_or2, ↓ts_n, ↓ts_1, ↓i_val, ↓i_rng1, ↓i_rng2, ↓i_enum, ↓i_zip, ↓i_revd, ↓s_nil, ↓s_cons, ↓s_set, ↓s_own, ↓s_par, ↓s_unp, ↓s_aug, ↓s_apd, ↓s_put, ↓s_exp, ↓s_ret, ↓s_retV, ↓s_retN, ↓s_ite, ↓s_for, ↓s_whl, ↓s_brk, ↓s_cnt, ↓s_pas, ↓s_frz, ↓s_nev, ↓s_mtc, ↓m_nil, ↓m_one, ↓m_two, ↓m_any, ↓ow_nx, ↓ow_bk, ↓ow_ct, ↓ow_rt, iw_non, iw_bl, iw_int, iw_str, iw_lst, iw_tup, iw_dic, iw_obj, iw_exc, iw_rls, getV_0, getV_s, getS_0, getS_s, boolW_bl, bindW_nm, bindW_tp, setAll_c, setAll_n, wp_ok, wp_ex, b_addI, b_subI, b_addS, b_addL, b_mulIl, b_mulIr, b_modI, b_divI, b_mulS, w_negI, a_I, a_S, x_lstI, x_rlsI, b_powT, x_lstI', x_str, x_str', x_strM, x_lstM, x_i2, x_i3, x_i4, x_i5, x_i6, x_i11, x_t0, x_t1, x_t2, x_t3, x_l0, cut_to, cut_from, cut_mid, cut_toN, cut_fromN, c_lt, c_le, c_gt, c_ge, c_eq, c_ne, e_same, e_I, e_S, e_B, c_iz, c_niz, c_inS, c_ninS, c_inP, c_ninP, c_inL, c_ninL, c_inT, c_ninT, k_non, k_bl, k_int, k_lst, k_tup, k_str, ty_w, isBor_n, isBor_c, v_lst, v_tup, v_slcL, v_slcS, v_revL, v_revS, bi_1, bi_2, l_lst, l_rls, l_tup, l_str, i_int, i_bl, li_lst, li_tup, li_str, so_int, so_str, al_bl, an_bl, su_int, al_map, an_map, su_map, ab_int, mi_2, ma_2, gc_2, r_joinS, r_indexS, r_indexL, mt_join, it_lst, it_own, it_tup, it_str, rn_ok, en_str, en_lst, zi_lst, re_lst, mb_fu, mb_fr, mb_sh, mb_bs, mb_bf, h_fu, h_fr, h_sh, h_fl, o_fu, o_sh, g_fu, g_fr, g_sh, g_fl, r_some, ol_sh, ol_fu, ap_sh, ap_fu, pu_sh, un_ok, pa_ok, bm_int, bm_str, pm_fr, pm_sh, pm_bs, pm_fu, pm_bf, cm_fr, cm_fu, cm_sh, cm_bs, callM_fl, callM_nb, rdV_fr, rdV_sh, rdV_fu, norm_fl, norm_lst, norm_nf, fl_non, fl_bl, fl_int, fl_str, fl_tup, fl_lst, fl_rls, fl_dic, flL_n, flL_c, flL_int, flL_str, wipe_n, wipe_c, List.set_cons_zero, List.set_cons_succ, List.set_nil, List.map_cons, List.map_nil, List.length_map, List.length_cons, List.length_nil, List.append_nil, List.nil_append, List.take_succ_cons, List.take_zero, List.drop_succ_cons, List.drop_zero, Nat.zero_add, Nat.reduceAdd, Nat.reduceSub, isNon, optI_n, optI_var, optI_lit, optI_bin, optI_neg, optI_idx, optI_bi, optI_call, optI_gl, optI_mt, bq_t, bq_f, bq_not, bq_yes, bq_no, bq_and, bq_or, Bool.not_true, Bool.not_false, Bool.false_and, Bool.true_and, Bool.and_false, Bool.and_true, Bool.or_false, Bool.false_or, Bool.or_true, Bool.true_or, if_true, if_false, Bool.false_eq_true, true_and, and_true, List.any_cons, List.any_nil, List.isEmpty_cons, List.isEmpty_nil, tB_int_non, tB_int_bl, tB_int_int, tB_int_str, tB_int_lst, tB_int_tup, tB_int_dic, tB_bool_non, tB_bool_bl, tB_bool_int, tB_bool_str, tB_bool_lst, tB_bool_tup, tB_bool_dic, tB_str_non, tB_str_bl, tB_str_int, tB_str_str, tB_str_lst, tB_str_tup, tB_str_dic, tB_list_non, tB_list_bl, tB_list_int, tB_list_str, tB_list_lst, tB_list_tup, tB_list_dic, tB_tuple_non, tB_tuple_bl, tB_tuple_int, tB_tuple_str, tB_tuple_lst, tB_tuple_tup, tB_tuple_dic, tB_dict_non, tB_dict_bl, tB_dict_int, tB_dict_str, tB_dict_lst, tB_dict_tup, tB_dict_dic]) | (rw [bq_dec]; refine ⟨fun _ => ?_, fun _ => ?_⟩)))
  all_goals simp [fac, *]
theorem c22 (n : Nat) (ws : List Int) (kd : List Nat) (p : Int) (h : 1 ≤ ws.length) : callD Ps gl 64 (n + 1) 22 [.lst (ws.map .int), .str kd, .int p] = .ok (.fu, .int (fac ws kd p)) := by
  have := Int.emod_nonneg p (b := ws.length) (by omega)
  have := Int.emod_lt_of_pos p (b := ws.length) (by omega)
  have := Int.emod_nonneg (p + 1) (b := ws.length) (by omega)
  have := Int.emod_lt_of_pos (p + 1) (b := ws.length) (by omega)
  have := Int.emod_nonneg (p + 2) (b := ws.length) (by omega)
  have := Int.emod_lt_of_pos (p + 2) (b := ws.length) (by omega)
  (refine w_fn rfl rfl rfl ?_; simp only [b22]; (simp only [startE, List.map_cons, List.map_nil, List.length_cons, List.length_nil, Nat.reduceAdd, Nat.reduceSub, List.replicate, List.cons_append, List.nil_append]); (simp (config := {decide := false}) (disch := first | assumption | omega | (simp only [mb_fu, mb_fr, mb_sh, mb_bs, mb_bf, fl_non, fl_bl, fl_int, fl_str, fl_tup, fl_lst, fl_rls, fl_dic, flL_n, flL_c, flL_int, flL_str, isBor_n, isBor_c, pl_non, pl_bl, pl_int, pl_lst, plL_a, pl_tup, plL_n, plL_c, plL_int, at_non, at_bl, at_int, at_str, co_non, co_bl, co_int, co_str, co_lst, co_tup, List.all_cons, List.all_nil, List.length_cons, List.length_nil, List.length_map, beq_self_eq_true, mkb_shfu, mkb_frfu, Bool.false_and, Bool.true_and, Bool.and_true, Bool.and_false, Bool.and_self, Bool.not_true, Bool.not_false, Bool.or_false, Bool.or_true, Bool.true_or, Bool.false_or, Bool.or_self, ne_eq, reduceCtorEq, not_false_eq_true, not_true_eq_false, List.map_cons, List.map_nil]; done) | (have hSZ : SZ = 16777216 := SZ_w; first | omega | (simp only [List.length_map, List.length_append, List.length_cons, List.length_nil, List.length_reverse, List.length_range, List.length_take, List.length_drop, List.length_replicate] <;> omega))) only [gl, c0, c17, c1, c2, c3, wD, c4, c5, c6, c7, c9, ↓wp_ok, ↓wp_ex, ↓wp_bind, ↓w_var, ↓w_cst, ↓w_gl, ↓w_bin, ↓w_neg, ↓w_cmp, ↓w_chain, ↓w_isN, ↓w_notN, ↓w_and, ↓w_or, ↓w_and1, ↓w_and2, ↓w_or1, ↓w_or2, ↓w_not, ↓w_ite, ↓w_lst, ↓w_tup, ↓w_idx, ↓w_slc, ↓w_rev, ↓w_call, ↓w_bi, ↓w_mt1, ↓w_isi, ↓w_comp, ↓w_dcomp, ↓w_dic0, ↓w_dn, ↓w_dc, ↓t_val, ↓t_cmp, ↓t_chain, ↓t_isN, ↓t_notN, ↓t_not, ↓t_and, ↓t_or, ↓t_and1, ↓t_and2, ↓t_or1, ↓t_or2, ↓ts_n, ↓ts_1, ↓i_val, ↓i_rng1, ↓i_rng2, ↓i_enum, ↓i_zip, ↓i_revd, ↓s_nil, ↓s_cons, ↓s_set, ↓s_own, ↓s_par, ↓s_unp, ↓s_aug, ↓s_apd, ↓s_put, ↓s_exp, ↓s_ret, ↓s_retV, ↓s_retN, ↓s_ite, ↓s_for, ↓s_whl, ↓s_brk, ↓s_cnt, ↓s_pas, ↓s_frz, ↓s_nev, ↓s_mtc, ↓m_nil, ↓m_one, ↓m_two, ↓m_any, ↓ow_nx, ↓ow_bk, ↓ow_ct, ↓ow_rt, iw_non, iw_bl, iw_int, iw_str, iw_lst, iw_tup, iw_dic, iw_obj, iw_exc, iw_rls, getV_0, getV_s, getS_0, getS_s, boolW_bl, bindW_nm, bindW_tp, setAll_c, setAll_n, wp_ok, wp_ex, b_addI, b_subI, b_addS, b_addL, b_mulIl, b_mulIr, b_modI, b_divI, b_mulS, w_negI, a_I, a_S, x_lstI, x_rlsI, b_powT, x_lstI', x_str, x_str', x_strM, x_lstM, x_i2, x_i3, x_i4, x_i5, x_i6, x_i11, x_t0, x_t1, x_t2, x_t3, x_l0, cut_to, cut_from, cut_mid, cut_toN, cut_fromN, c_lt, c_le, c_gt, c_ge, c_eq, c_ne, e_same, e_I, e_S, e_B, c_iz, c_niz, c_inS, c_ninS, c_inP, c_ninP, c_inL, c_ninL, c_inT, c_ninT, k_non, k_bl, k_int, k_lst, k_tup, k_str, ty_w, isBor_n, isBor_c, v_lst, v_tup, v_slcL, v_slcS, v_revL, v_revS, bi_1, bi_2, l_lst, l_rls, l_tup, l_str, i_int, i_bl, li_lst, li_tup, li_str, so_int, so_str, al_bl, an_bl, su_int, al_map, an_map, su_map, ab_int, mi_2, ma_2, gc_2, r_joinS, r_indexS, r_indexL, mt_join, it_lst, it_own, it_tup, it_str, rn_ok, en_str, en_lst, zi_lst, re_lst, mb_fu, mb_fr, mb_sh, mb_bs, mb_bf, h_fu, h_fr, h_sh, h_fl, o_fu, o_sh, g_fu, g_fr, g_sh, g_fl, r_some, ol_sh, ol_fu, ap_sh, ap_fu, pu_sh, un_ok, pa_ok, bm_int, bm_str, pm_fr, pm_sh, pm_bs, pm_fu, pm_bf, cm_fr, cm_fu, cm_sh, cm_bs, callM_fl, callM_nb, rdV_fr, rdV_sh, rdV_fu, norm_fl, norm_lst, norm_nf, fl_non, fl_bl, fl_int, fl_str, fl_tup, fl_lst, fl_rls, fl_dic, flL_n, flL_c, flL_int, flL_str, wipe_n, wipe_c, List.set_cons_zero, List.set_cons_succ, List.set_nil, List.map_cons, List.map_nil, List.length_map, List.length_cons, List.length_nil, List.append_nil, List.nil_append, List.take_succ_cons, List.take_zero, List.drop_succ_cons, List.drop_zero, Nat.zero_add, Nat.reduceAdd, Nat.reduceSub, isNon, optI_n, optI_var, optI_lit, optI_bin, optI_neg, optI_idx, optI_bi, optI_call, optI_gl, optI_mt, bq_t, bq_f, bq_not, bq_yes, bq_no, bq_and, bq_or, Bool.not_true, Bool.not_false, Bool.false_and, Bool.true_and, Bool.and_false, Bool.and_true, Bool.or_false, Bool.false_or, Bool.or_true, Bool.true_or, if_true, if_false, Bool.false_eq_true, true_and, and_true, List.any_cons, List.any_nil, List.isEmpty_cons, List.isEmpty_nil, tB_int_non, tB_int_bl, tB_int_int, tB_int_str, tB_int_lst, tB_int_tup, tB_int_dic, tB_bool_non, tB_bool_bl, tB_bool_int, tB_bool_str, tB_bool_lst, tB_bool_tup, tB_bool_dic, tB_str_non, tB_str_bl, tB_str_int, tB_str_str, tB_str_lst, tB_str_tup, tB_str_dic, tB_list_non, tB_list_bl, tB_list_int, tB_list_str, tB_list_lst, tB_list_tup, tB_list_dic, tB_tuple_non, tB_tuple_bl, tB_tuple_int, tB_tuple_str, tB_tuple_lst, tB_tuple_tup, tB_tuple_dic, tB_dict_non, tB_dict_bl, tB_dict_int, tB_dict_str, tB_dict_lst, tB_dict_tup, tB_dict_dic]))
  (repeat' (first | (simp (config := {decide := false}) (disch := first | assumption | omega | (simp only [mb_fu, mb_fr, mb_sh, mb_bs, mb_bf, fl_non, fl_bl, fl_int, fl_str, fl_tup, fl_lst, fl_rls, fl_dic, flL_n, flL_c, flL_int, flL_str, isBor_n, isBor_c, pl_non, pl_bl, pl_int, pl_lst, plL_a, pl_tup, plL_n, plL_c, plL_int, at_non, at_bl, at_int, at_str, co_non, co_bl, co_int, co_str, co_lst, co_tup, List.all_cons, List.all_nil, List.length_cons, List.length_nil, List.length_map, beq_self_eq_true, mkb_shfu, mkb_frfu, Bool.false_and, Bool.true_and, Bool.and_true, Bool.and_false, Bool.and_self, Bool.not_true, Bool.not_false, Bool.or_false, Bool.or_true, Bool.true_or, Bool.false_or, Bool.or_self, ne_eq, reduceCtorEq, not_false_eq_true, not_true_eq_false, List.map_cons, List.map_nil]; done) | (have hSZ : SZ = 16777216 := SZ_w; first | omega | (simp only [List.length_map, List.length_append, List.length_cons, List.length_nil, List.length_reverse, List.length_range, List.length_take, List.length_drop, List.length_replicate] <;> omega))) only [gl, c0, c17, c1, c2, c3, wD, c4, c5, c6, c7, c9, ↓wp_ok, ↓wp_ex, ↓wp_bind, ↓w_var, ↓w_cst, ↓w_gl, ↓w_bin, ↓w_neg, ↓w_cmp, ↓w_chain, ↓w_isN, ↓w_notN, ↓w_and, ↓w_or, ↓w_and1, ↓w_and2, ↓w_or1, ↓w_or2, ↓w_not, ↓w_ite, ↓w_lst, ↓w_tup, ↓w_idx, ↓w_slc, ↓w_rev, ↓w_call, ↓w_bi, ↓w_mt1, ↓w_isi, ↓w_comp, ↓w_dcomp, ↓w_dic0, ↓w_dn, ↓w_dc, ↓t_val, ↓t_cmp, ↓t_chain, ↓t_isN, ↓t_notN, ↓t_not, ↓t_and, ↓t_or, ↓t_and1, ↓t_and2, ↓t_or1, ↓t_or2, ↓ts_n, ↓ts_1, ↓i_val, ↓i_rng1, ↓i_rng2, ↓i_enum, ↓i_zip, ↓i_revd, ↓s_nil, ↓s_cons, ↓s_set, ↓s_own, ↓s_par, ↓s_unp, ↓s_aug, ↓s_apd, ↓s_put, ↓s_exp, ↓s_ret, ↓s_retV, ↓s_retN, ↓s_ite, ↓s_for, ↓s_whl, ↓s_brk, ↓s_cnt, ↓s_pas, ↓s_frz, ↓s_nev, ↓s_mtc, ↓m_nil, ↓m_one, ↓m_two, ↓m_any, ↓ow_nx, ↓ow_bk, ↓ow_ct, ↓ow_rt, iw_non, iw_bl, iw_int, iw_str, iw_lst, iw_tup, iw_dic, iw_obj, iw_exc, iw_rls, getV_0, getV_s, getS_0, getS_s, boolW_bl, bindW_nm, bindW_tp, setAll_c, setAll_n, wp_ok, wp_ex, b_addI, b_subI, b_addS, b_addL, b_mulIl, b_mulIr, b_modI, b_divI, b_mulS, w_negI, a_I, a_S, x_lstI, x_rlsI, b_powT, x_lstI', x_str, x_str', x_strM, x_lstM, x_i2, x_i3, x_i4, x_i5, x_i6, x_i11, x_t0, x_t1, x_t2, x_t3, x_l0, cut_to, cut_from, cut_mid, cut_toN, cut_fromN, c_lt, c_le, c_gt, c_ge, c_eq, c_ne, e_same, e_I, e_S, e_B, c_iz, c_niz, c_inS, c_ninS, c_inP, c_ninP, c_inL, c_ninL, c_inT, c_ninT, k_non, k_bl, k_int, k_lst, k_tup, k_str, ty_w, isBor_n, isBor_c, v_lst, v_tup, v_slcL, v_slcS, v_revL, v_revS, bi_1, bi_2, l_lst, l_rls, l_tup, l_str, i_int, i_bl, li_lst, li_tup, li_str, so_int, so_str, al_bl, an_bl, su_int, al_map, an_map, su_map, ab_int, mi_2, ma_2, gc_2, r_joinS, r_indexS, r_indexL, mt_join, it_lst, it_own, it_tup, it_str, rn_ok, en_str, en_lst, zi_lst, re_lst, mb_fu, mb_fr, mb_sh, mb_bs, mb_bf, h_fu, h_fr, h_sh, h_fl, o_fu, o_sh, g_fu, g_fr, g_sh, g_fl, r_some, ol_sh, ol_fu, ap_sh, ap_fu, pu_sh, un_ok, pa_ok, bm_int, bm_str, pm_fr, pm_sh, pm_bs, pm_fu, pm_bf, cm_fr, cm_fu, cm_sh, cm_bs, callM_fl, callM_nb, rdV_fr, rdV_sh, rdV_fu, norm_fl, norm_lst, norm_nf, fl_non, fl_bl, fl_int, fl_str, fl_tup, fl_lst, fl_rls, fl_dic, flL_n, flL_c, flL_int, flL_str, wipe_n, wipe_c, List.set_cons_zero, List.set_cons_succ, List.set_nil, List.map_cons, List.map_nil, List.length_map, List.length_cons, List.length_nil, List.append_nil, List.nil_append, List.take_succ_cons, List.take_zero, List.drop_succ_cons, List.drop_zero, Nat.zero_add, Nat.reduceAdd, Nat.reduceSub, isNon, optI_n, optI_var, optI_lit, optI_bin, optI_neg, optI_idx, optI_bi, optI_call, optI_gl, optI_mt, bq_t, bq_f, bq_not, bq_yes, bq_no, bq_and, bq_or, Bool.not_true, Bool.not_false, Bool.false_and, Bool.true_and, Bool.and_false, Bool.and_true, Bool.or_false, Bool.false_or, Bool.or_true, Bool.true_or, if_true, if_false, Bool.false_eq_true, true_and, and_true, List.any_cons, List.any_nil, List.isEmpty_cons, List.isEmpty_nil, tB_int_non, tB_int_bl, tB_int_int, tB_int_str, tB_int_lst, tB_int_tup, tB_int_dic, tB_bool_non, tB_bool_bl, tB_bool_int, tB_bool_str, tB_bool_lst, tB_bool_tup, tB_bool_dic, tB_str_non, tB_str_bl, tB_str_int, tB_str_str, tB_str_lst, tB_str_tup, tB_str_dic, tB_list_non, tB_list_bl, tB_list_int, tB_list_str, tB_list_lst, tB_list_tup, tB_list_dic, tB_tuple_non, tB_tuple_bl, tB_tuple_int, tB_tuple_str, tB_tuple_lst, tB_tuple_tup, tB_tuple_dic, tB_dict_non, tB_dict_bl, tB_dict_int, tB_dict_str, tB_dict_lst, tB_dict_tup, tB_dict_dic]) | (rw [bq_dec]; refine ⟨fun _ => ?_, fun _ => ?_⟩)))
  all_goals simp [fac, wat, *]

def flt (ns : Int) (m : Int) (ws : List Int) (kd : List Nat) (p d : Int) : Bool := (decide (0 ≤ p) && decide (p < ws.length)) && (decide (1 ≤ d) && decide (d < ns)) && decide (fac ws kd p * d % m = 0)
theorem c10 (n : Nat) (S : List Nat) (m : Int) (ws : List Int) (kd : List Nat) (p d : Int) (h : Wt m ws) (hS : S.length ≤ 36) : callD Ps gl 64 (n + 4) 10 [.str S, wD m ws, .str kd, .int p, .int d] = .ok (.fu, .bl (flt S.length m ws kd p d)) := by
  have := h.m2; have := h.n1
  (refine w_fn rfl rfl rfl ?_; simp only [b10]; (simp only [startE, List.map_cons, List.map_nil, List.length_cons, List.length_nil, Nat.reduceAdd, Nat.reduceSub, List.replicate, List.cons_append, List.nil_append]); (simp (config := {decide := false}) (disch := first | assumption | omega | (simp only [mb_fu, mb_fr, mb_sh, mb_bs, mb_bf, fl_non, fl_bl, fl_int, fl_str, fl_tup, fl_lst, fl_rls, fl_dic, flL_n, flL_c, flL_int, flL_str, isBor_n, isBor_c, pl_non, pl_bl, pl_int, pl_lst, plL_a, pl_tup, plL_n, plL_c, plL_int, at_non, at_bl, at_int, at_str, co_non, co_bl, co_int, co_str, co_lst, co_tup, List.all_cons, List.all_nil, List.length_cons, List.length_nil, List.length_map, beq_self_eq_true, mkb_shfu, mkb_frfu, Bool.false_and, Bool.true_and, Bool.and_true, Bool.and_false, Bool.and_self, Bool.not_true, Bool.not_false, Bool.or_false, Bool.or_true, Bool.true_or, Bool.false_or, Bool.or_self, ne_eq, reduceCtorEq, not_false_eq_true, not_true_eq_false, List.map_cons, List.map_nil]; done) | (have hSZ : SZ = 16777216 := SZ_w; first | omega | (simp only [List.length_map, List.length_append, List.length_cons, List.length_nil, List.length_reverse, List.length_range, List.length_take, List.length_drop, List.length_replicate] <;> omega))) only [gl, c0, c17, c1, c2, c3, wD, c4, c5, c6, c7, c9, c22, ↓wp_ok, ↓wp_ex, ↓wp_bind, ↓w_var, ↓w_cst, ↓w_gl, ↓w_bin, ↓w_neg, ↓w_cmp, ↓w_chain, ↓w_isN, ↓w_notN, ↓w_and, ↓w_or, ↓w_and1, ↓w_and2, ↓w_or1, ↓w_or2, ↓w_not, ↓w_ite, ↓w_lst, ↓w_tup, ↓w_idx, ↓w_slc, ↓w_rev, ↓w_call, ↓w_bi, ↓w_mt1, ↓w_isi, ↓w_comp, ↓w_dcomp, ↓w_dic0, ↓w_dn, ↓w_dc, ↓t_val, ↓t_cmp, ↓t_chain, ↓t_isN, ↓t_notN, ↓t_not, ↓t_and, ↓t_or, ↓t_and1, ↓t_and2, ↓t_or1, ↓t_or2, ↓ts_n, ↓ts_1, ↓i_val, ↓i_rng1, ↓i_rng2, ↓i_enum, ↓i_zip, ↓i_revd, ↓s_nil, ↓s_cons, ↓s_set, ↓s_own, ↓s_par, ↓s_unp, ↓s_aug, ↓s_apd, ↓s_put, ↓s_exp, ↓s_ret, ↓s_retV, ↓s_retN, ↓s_ite, ↓s_for, ↓s_whl, ↓s_brk, ↓s_cnt, ↓s_pas, ↓s_frz, ↓s_nev, ↓s_mtc, ↓m_nil, ↓m_one, ↓m_two, ↓m_any, ↓ow_nx, ↓ow_bk, ↓ow_ct, ↓ow_rt, iw_non, iw_bl, iw_int, iw_str, iw_lst, iw_tup, iw_dic, iw_obj, iw_exc, iw_rls, getV_0, getV_s, getS_0, getS_s, boolW_bl, bindW_nm, bindW_tp, setAll_c, setAll_n, wp_ok, wp_ex, b_addI, b_subI, b_addS, b_addL, b_mulIl, b_mulIr, b_modI, b_divI, b_mulS, w_negI, a_I, a_S, x_lstI, x_rlsI, b_powT, x_lstI', x_str, x_str', x_strM, x_lstM, x_i2, x_i3, x_i4, x_i5, x_i6, x_i11, x_t0, x_t1, x_t2, x_t3, x_l0, cut_to, cut_from, cut_mid, cut_toN, cut_fromN, c_lt, c_le, c_gt, c_ge, c_eq, c_ne, e_same, e_I, e_S, e_B, c_iz, c_niz, c_inS, c_ninS, c_inP, c_ninP, c_inL, c_ninL, c_inT, c_ninT, k_non, k_bl, k_int, k_lst, k_tup, k_str, ty_w, isBor_n, isBor_c, v_lst, v_tup, v_slcL, v_slcS, v_revL, v_revS, bi_1, bi_2, l_lst, l_rls, l_tup, l_str, i_int, i_bl, li_lst, li_tup, li_str, so_int, so_str, al_bl, an_bl, su_int, al_map, an_map, su_map, ab_int, mi_2, ma_2, gc_2, r_joinS, r_indexS, r_indexL, mt_join, it_lst, it_own, it_tup, it_str, rn_ok, en_str, en_lst, zi_lst, re_lst, mb_fu, mb_fr, mb_sh, mb_bs, mb_bf, h_fu, h_fr, h_sh, h_fl, o_fu, o_sh, g_fu, g_fr, g_sh, g_fl, r_some, ol_sh, ol_fu, ap_sh, ap_fu, pu_sh, un_ok, pa_ok, bm_int, bm_str, pm_fr, pm_sh, pm_bs, pm_fu, pm_bf, cm_fr, cm_fu, cm_sh, cm_bs, callM_fl, callM_nb, rdV_fr, rdV_sh, rdV_fu, norm_fl, norm_lst, norm_nf, fl_non, fl_bl, fl_int, fl_str, fl_tup, fl_lst, fl_rls, fl_dic, flL_n, flL_c, flL_int, flL_str, wipe_n, wipe_c, List.set_cons_zero, List.set_cons_succ, List.set_nil, List.map_cons, List.map_nil, List.length_map, List.length_cons, List.length_nil, List.append_nil, List.nil_append, List.take_succ_cons, List.take_zero, List.drop_succ_cons, List.drop_zero, Nat.zero_add, Nat.reduceAdd, Nat.reduceSub, isNon, optI_n, optI_var, optI_lit, optI_bin, optI_neg, optI_idx, optI_bi, optI_call, optI_gl, optI_mt, bq_t, bq_f, bq_not, bq_yes, bq_no, bq_and, bq_or, Bool.not_true, Bool.not_false, Bool.false_and, Bool.true_and, Bool.and_false, Bool.and_true, Bool.or_false, Bool.false_or, Bool.or_true, Bool.true_or, if_true, if_false, Bool.false_eq_true, true_and, and_true, List.any_cons, List.any_nil, List.isEmpty_cons, List.isEmpty_nil, tB_int_non, tB_int_bl, tB_int_int, tB_int_str, tB_int_lst, tB_int_tup, tB_int_dic, tB_bool_non, tB_bool_bl, tB_bool_int, tB_bool_str, tB_bool_lst, tB_bool_tup, tB_bool_dic, tB_str_non, tB_str_bl, tB_str_int, tB_str_str, tB_str_lst, tB_str_tup, tB_str_dic, tB_list_non, tB_list_bl, tB_list_int, tB_list_str, tB_list_lst, tB_list_tup, tB_list_dic, tB_tuple_non, tB_tuple_bl, tB_tuple_int, tB_tuple_str, tB_tuple_lst, tB_tuple_tup, tB_tuple_dic, tB_dict_non, tB_dict_bl, tB_dict_int, tB_dict_str, tB_dict_lst, tB_dict_tup, tB_dict_dic]))
  (repeat' (first | (simp (config := {decide := false}) (disch := first | assumption | omega | (simp only [mb_fu, mb_fr, mb_sh, mb_bs, mb_bf, fl_non, fl_bl, fl_int, fl_str, fl_tup, fl_lst, fl_rls, fl_dic, flL_n, flL_c, flL_int, flL_str, isBor_n, isBor_c, pl_non, pl_bl, pl_int, pl_lst, plL_a, pl_tup, plL_n, plL_c, plL_int, at_non, at_bl, at_int, at_str, co_non, co_bl, co_int, co_str, co_lst, co_tup, List.all_cons, List.all_nil, List.length_cons, List.length_nil, List.length_map, beq_self_eq_true, mkb_shfu, mkb_frfu, Bool.false_and, Bool.true_and, Bool.and_true, Bool.and_false, Bool.and_self, Bool.not_true, Bool.not_false, Bool.or_false, Bool.or_true, Bool.true_or, Bool.false_or, Bool.or_self, ne_eq, reduceCtorEq, not_false_eq_true, not_true_eq_false, List.map_cons, List.map_nil]; done) | (have hSZ : SZ = 16777216 := SZ_w; first | omega | (simp only [List.length_map, List.length_append, List.length_cons, List.length_nil, List.length_reverse, List.length_range, List.length_take, List.length_drop, List.length_replicate] <;> omega))) only [gl, c0, c17, c1, c2, c3, wD, c4, c5, c6, c7, c9, c22, ↓wp_ok, ↓wp_ex, ↓wp_bind, ↓w_var, ↓w_cst, ↓w_gl, ↓w_bin, ↓w_neg, ↓w_cmp, ↓w_chain, ↓w_isN, ↓w_notN, ↓w_and, ↓w_or, ↓w_and1, ↓w_and2, ↓w_or1, ↓w_or2, ↓w_not, ↓w_ite, ↓w_lst, ↓w_tup, ↓w_idx, ↓w_slc, ↓w_rev, ↓w_call, ↓w_bi, ↓w_mt1, ↓w_isi, ↓w_comp, ↓w_dcomp, ↓w_dic0, ↓w_dn, ↓w_dc, ↓t_val, ↓t_cmp, ↓t_chain, ↓t_isN, ↓t_notN, ↓t_not, ↓t_and, ↓t_or, ↓t_and1, ↓t_and2, ↓t_or1, ↓t_or2, ↓ts_n, ↓ts_1, ↓i_val, ↓i_rng1, ↓i_rng2, ↓i_enum, ↓i_zip, ↓i_revd, ↓s_nil, ↓s_cons, ↓s_set, ↓s_own, ↓s_par, ↓s_unp, ↓s_aug, ↓s_apd, ↓s_put, ↓s_exp, ↓s_ret, ↓s_retV, ↓s_retN, ↓s_ite, ↓s_for, ↓s_whl, ↓s_brk, ↓s_cnt, ↓s_pas, ↓s_frz, ↓s_nev, ↓s_mtc, ↓m_nil, ↓m_one, ↓m_two, ↓m_any, ↓ow_nx, ↓ow_bk, ↓ow_ct, ↓ow_rt, iw_non, iw_bl, iw_int, iw_str, iw_lst, iw_tup, iw_dic, iw_obj, iw_exc, iw_rls, getV_0, getV_s, getS_0, getS_s, boolW_bl, bindW_nm, bindW_tp, setAll_c, setAll_n, wp_ok, wp_ex, b_addI, b_subI, b_addS, b_addL, b_mulIl, b_mulIr, b_modI, b_divI, b_mulS, w_negI, a_I, a_S, x_lstI, x_rlsI, b_powT, x_lstI', x_str, x_str', x_strM, x_lstM, x_i2, x_i3, x_i4, x_i5, x_i6, x_i11, x_t0, x_t1, x_t2, x_t3, x_l0, cut_to, cut_from, cut_mid, cut_toN, cut_fromN, c_lt, c_le, c_gt, c_ge, c_eq, c_ne, e_same, e_I, e_S, e_B, c_iz, c_niz, c_inS, c_ninS, c_inP, c_ninP, c_inL, c_ninL, c_inT, c_ninT, k_non, k_bl, k_int, k_lst, k_tup, k_str, ty_w, isBor_n, isBor_c, v_lst, v_tup, v_slcL, v_slcS, v_revL, v_revS, bi_1, bi_2, l_lst, l_rls, l_tup, l_str, i_int, i_bl, li_lst, li_tup, li_str, so_int, so_str, al_bl, an_bl, su_int, al_map, an_map, su_map, ab_int, mi_2, ma_2, gc_2, r_joinS, r_indexS, r_indexL, mt_join, it_lst, it_own, it_tup, it_str, rn_ok, en_str, en_lst, zi_lst, re_lst, mb_fu, mb_fr, mb_sh, mb_bs, mb_bf, h_fu, h_fr, h_sh, h_fl, o_fu, o_sh, g_fu, g_fr, g_sh, g_fl, r_some, ol_sh, ol_fu, ap_sh, ap_fu, pu_sh, un_ok, pa_ok, bm_int, bm_str, pm_fr, pm_sh, pm_bs, pm_fu, pm_bf, cm_fr, cm_fu, cm_sh, cm_bs, callM_fl, callM_nb, rdV_fr, rdV_sh, rdV_fu, norm_fl, norm_lst, norm_nf, fl_non, fl_bl, fl_int, fl_str, fl_tup, fl_lst, fl_rls, fl_dic, flL_n, flL_c, flL_int, flL_str, wipe_n, wipe_c, List.set_cons_zero, List.set_cons_succ, List.set_nil, List.map_cons, List.map_nil, List.length_map, List.length_cons, List.length_nil, List.append_nil, List.nil_append, List.take_succ_cons, List.take_zero, List.drop_succ_cons, List.drop_zero, Nat.zero_add, Nat.reduceAdd, Nat.reduceSub, isNon, optI_n, optI_var, optI_lit, optI_bin, optI_neg, optI_idx, optI_bi, optI_call, optI_gl, optI_mt, bq_t, bq_f, bq_not, bq_yes, bq_no, bq_and, bq_or, Bool.not_true, Bool.not_false, Bool.false_and, Bool.true_and, Bool.and_false, Bool.and_true, Bool.or_false, Bool.false_or, Bool.or_true, Bool.true_or, if_true, if_false, Bool.false_eq_true, true_and, and_true, List.any_cons, List.any_nil, List.isEmpty_cons, List.isEmpty_nil, tB_int_non, tB_int_bl, tB_int_int, tB_int_str, tB_int_lst, tB_int_tup, tB_int_dic, tB_bool_non, tB_bool_bl, tB_bool_int, tB_bool_str, tB_bool_lst, tB_bool_tup, tB_bool_dic, tB_str_non, tB_str_bl, tB_str_int, tB_str_str, tB_str_lst, tB_str_tup, tB_str_dic, tB_list_non, tB_list_bl, tB_list_int, tB_list_str, tB_list_lst, tB_list_tup, tB_list_dic, tB_tuple_non, tB_tuple_bl, tB_tuple_int, tB_tuple_str, tB_tuple_lst, tB_tuple_tup, tB_tuple_dic, tB_dict_non, tB_dict_bl, tB_dict_int, tB_dict_str, tB_dict_lst, tB_dict_tup, tB_dict_dic]) | (rw [bq_dec]; refine ⟨fun _ => ?_, fun _ => ?_⟩)))
  all_goals simp [flt, *]

def pr (q : Int × Int) : D := .tup [.int q.1, .int q.2]
def rowF (m : Int) (ws : List Int) (kd : List Nat) (i : Int) (n : Nat) : List (Int × Int) := ((List.range n).filter (fun k : Nat => decide (fac ws kd i * (1 + (k : Int)) % m = 0))).map (fun k : Nat => (i, 1 + (k : Int)))
def flF (ns : Nat) (m : Int) (ws : List Int) (kd : List Nat) (n : Nat) : List (Int × Int) := (List.range n).flatMap (fun k : Nat => rowF m ws kd k (ns - 1))
theorem rowF_succ (m : Int) (ws : List Int) (kd : List Nat) (i : Int) (n : Nat) : rowF m ws kd i (n + 1) = rowF m ws kd i n ++ (if fac ws kd i * (1 + (n : Int)) % m = 0 then [(i, 1 + (n : Int))] else []) := by
  simp only [rowF, List.range_succ, List.filter_append, List.map_append, List.filter_cons, List.filter_nil]
  split <;> simp_all
theorem flF_succ (ns : Nat) (m : Int) (ws : List Int) (kd : List Nat) (n : Nat) : flF ns m ws kd (n + 1) = flF ns m ws kd n ++ rowF m ws kd n (ns - 1) := by
  simp [flF, List.range_succ]
theorem rowF_len (m : Int) (ws : List Int) (kd : List Nat) (i : Int) (n : Nat) : (rowF m ws kd i n).length ≤ n := by
  have := List.length_filter_le (fun k : Nat => decide (fac ws kd i * (1 + (k : Int)) % m = 0)) (List.range n)
  simp only [rowF, List.length_map]
  rwa [List.length_range] at this
theorem flF_len (ns : Nat) (m : Int) (ws : List Int) (kd : List Nat) (h : ns ≤ 37) : ∀ n : Nat, (flF ns m ws kd n).length ≤ n * 36
  | 0 => by simp [flF]
  | n + 1 => by
    have := flF_len ns m ws kd h n
    have := rowF_len m ws kd n (ns - 1)
    rw [flF_succ, List.length_append]; omega
theorem c11 (n : Nat) (S : List Nat) (m : Int) (ws : List Int) (kd : List Nat) (h : Wt m ws) (hS : 1 ≤ S.length ∧ S.length ≤ 36) : callD Ps gl 64 (n + 5) 11 [.str S, wD m ws, .str kd] = .ok (.sh, .lst ((flF S.length m ws kd ws.length).map pr)) := by
  have := h.m2; have := h.n1; have := h.n12
  (refine w_fn rfl rfl rfl ?_; simp only [b11]; (simp only [startE, List.map_cons, List.map_nil, List.length_cons, List.length_nil, Nat.reduceAdd, Nat.reduceSub, List.replicate, List.cons_append, List.nil_append]); (simp (config := {decide := false}) (disch := first | assumption | omega | (simp only [mb_fu, mb_fr, mb_sh, mb_bs, mb_bf, fl_non, fl_bl, fl_int, fl_str, fl_tup, fl_lst, fl_rls, fl_dic, flL_n, flL_c, flL_int, flL_str, isBor_n, isBor_c, pl_non, pl_bl, pl_int, pl_lst, plL_a, pl_tup, plL_n, plL_c, plL_int, at_non, at_bl, at_int, at_str, co_non, co_bl, co_int, co_str, co_lst, co_tup, List.all_cons, List.all_nil, List.length_cons, List.length_nil, List.length_map, beq_self_eq_true, mkb_shfu, mkb_frfu, Bool.false_and, Bool.true_and, Bool.and_true, Bool.and_false, Bool.and_self, Bool.not_true, Bool.not_false, Bool.or_false, Bool.or_true, Bool.true_or, Bool.false_or, Bool.or_self, ne_eq, reduceCtorEq, not_false_eq_true, not_true_eq_false, List.map_cons, List.map_nil]; done) | (have hSZ : SZ = 16777216 := SZ_w; first | omega | (simp only [List.length_map, List.length_append, List.length_cons, List.length_nil, List.length_reverse, List.length_range, List.length_take, List.length_drop, List.length_replicate] <;> omega))) only [gl, c0, c17, c1, c2, c3, wD, c4, c5, c6, c7, c9, c22, c10, ↓wp_ok, ↓wp_ex, ↓wp_bind, ↓w_var, ↓w_cst, ↓w_gl, ↓w_bin, ↓w_neg, ↓w_cmp, ↓w_chain, ↓w_isN, ↓w_notN, ↓w_and, ↓w_or, ↓w_and1, ↓w_and2, ↓w_or1, ↓w_or2, ↓w_not, ↓w_ite, ↓w_lst, ↓w_tup, ↓w_idx, ↓w_slc, ↓w_rev, ↓w_call, ↓w_bi, ↓w_mt1, ↓w_isi, ↓w_comp, ↓w_dcomp, ↓w_dic0, ↓w_dn, ↓w_dc, ↓t_val, ↓t_cmp, ↓t_chain, ↓t_isN, ↓t_notN, ↓t_not, ↓t_and, ↓t_or, ↓t_and1, ↓t_and2, ↓t_or1, ↓t_or2, ↓ts_n, ↓ts_1, ↓i_val, ↓i_rng1, ↓i_rng2, ↓i_enum, ↓i_zip, ↓i_revd, ↓s_nil, ↓s_cons, ↓s_set, ↓s_own, ↓s_par, ↓s_unp, ↓s_aug, ↓s_apd, ↓s_put, ↓s_exp, ↓s_ret, ↓s_retV, ↓s_retN, ↓s_ite, ↓s_for, ↓s_whl, ↓s_brk, ↓s_cnt, ↓s_pas, ↓s_frz, ↓s_nev, ↓s_mtc, ↓m_nil, ↓m_one, ↓m_two, ↓m_any, ↓ow_nx, ↓ow_bk, ↓ow_ct, ↓ow_rt, iw_non, iw_bl, iw_int, iw_str, iw_lst, iw_tup, iw_dic, iw_obj, iw_exc, iw_rls, getV_0, getV_s, getS_0, getS_s, boolW_bl, bindW_nm, bindW_tp, setAll_c, setAll_n, wp_ok, wp_ex, b_addI, b_subI, b_addS, b_addL, b_mulIl, b_mulIr, b_modI, b_divI, b_mulS, w_negI, a_I, a_S, x_lstI, x_rlsI, b_powT, x_lstI', x_str, x_str', x_strM, x_lstM, x_i2, x_i3, x_i4, x_i5, x_i6, x_i11, x_t0, x_t1, x_t2, x_t3, x_l0, cut_to, cut_from, cut_mid, cut_toN, cut_fromN, c_lt, c_le, c_gt, c_ge, c_eq, c_ne, e_same, e_I, e_S, e_B, c_iz, c_niz, c_inS, c_ninS, c_inP, c_ninP, c_inL, c_ninL, c_inT, c_ninT, k_non, k_bl, k_int, k_lst, k_tup, k_str, ty_w, isBor_n, isBor_c, v_lst, v_tup, v_slcL, v_slcS, v_revL, v_revS, bi_1, bi_2, l_lst, l_rls, l_tup, l_str, i_int, i_bl, li_lst, li_tup, li_str, so_int, so_str, al_bl, an_bl, su_int, al_map, an_map, su_map, ab_int, mi_2, ma_2, gc_2, r_joinS, r_indexS, r_indexL, mt_join, it_lst, it_own, it_tup, it_str, rn_ok, en_str, en_lst, zi_lst, re_lst, mb_fu, mb_fr, mb_sh, mb_bs, mb_bf, h_fu, h_fr, h_sh, h_fl, o_fu, o_sh, g_fu, g_fr, g_sh, g_fl, r_some, ol_sh, ol_fu, ap_sh, ap_fu, pu_sh, un_ok, pa_ok, bm_int, bm_str, pm_fr, pm_sh, pm_bs, pm_fu, pm_bf, cm_fr, cm_fu, cm_sh, cm_bs, callM_fl, callM_nb, rdV_fr, rdV_sh, rdV_fu, norm_fl, norm_lst, norm_nf, fl_non, fl_bl, fl_int, fl_str, fl_tup, fl_lst, fl_rls, fl_dic, flL_n, flL_c, flL_int, flL_str, wipe_n, wipe_c, List.set_cons_zero, List.set_cons_succ, List.set_nil, List.map_cons, List.map_nil, List.length_map, List.length_cons, List.length_nil, List.append_nil, List.nil_append, List.take_succ_cons, List.take_zero, List.drop_succ_cons, List.drop_zero, Nat.zero_add, Nat.reduceAdd, Nat.reduceSub, isNon, optI_n, optI_var, optI_lit, optI_bin, optI_neg, optI_idx, optI_bi, optI_call, optI_gl, optI_mt, bq_t, bq_f, bq_not, bq_yes, bq_no, bq_and, bq_or, Bool.not_true, Bool.not_false, Bool.false_and, Bool.true_and, Bool.and_false, Bool.and_true, Bool.or_false, Bool.false_or, Bool.or_true, Bool.true_or, if_true, if_false, Bool.false_eq_true, true_and, and_true, List.any_cons, List.any_nil, List.isEmpty_cons, List.isEmpty_nil, tB_int_non, tB_int_bl, tB_int_int, tB_int_str, tB_int_lst, tB_int_tup, tB_int_dic, tB_bool_non, tB_bool_bl, tB_bool_int, tB_bool_str, tB_bool_lst, tB_bool_tup, tB_bool_dic, tB_str_non, tB_str_bl, tB_str_int, tB_str_str, tB_str_lst, tB_str_tup, tB_str_dic, tB_list_non, tB_list_bl, tB_list_int, tB_list_str, tB_list_lst, tB_list_tup, tB_list_dic, tB_tuple_non, tB_tuple_bl, tB_tuple_int, tB_tuple_str, tB_tuple_lst, tB_tuple_tup, tB_tuple_dic, tB_dict_non, tB_dict_bl, tB_dict_int, tB_dict_str, tB_dict_lst, tB_dict_tup, tB_dict_dic]))
  refine for_rng (fun i E => ∃ q r, E = [some (.fr, .str S), some (.fr, wD m ws), some (.fr, .str kd), some (.sh, .lst ((flF S.length m ws kd i.toNat).map pr)), q, r]) ⟨_, _, rfl⟩ ?_ ?_
  · rintro i E h1 h2 ⟨q, r, rfl⟩
    have hl := flF_len S.length m ws kd (by omega) i.toNat
    (simp (config := {decide := false}) (disch := first | assumption | omega | (simp only [mb_fu, mb_fr, mb_sh, mb_bs, mb_bf, fl_non, fl_bl, fl_int, fl_str, fl_tup, fl_lst, fl_rls, fl_dic, flL_n, flL_c, flL_int, flL_str, isBor_n, isBor_c, pl_non, pl_bl, pl_int, pl_lst, plL_a, pl_tup, plL_n, plL_c, plL_int, at_non, at_bl, at_int, at_str, co_non, co_bl, co_int, co_str, co_lst, co_tup, List.all_cons, List.all_nil, List.length_cons, List.length_nil, List.length_map, beq_self_eq_true, mkb_shfu, mkb_frfu, Bool.false_and, Bool.true_and, Bool.and_true, Bool.and_false, Bool.and_self, Bool.not_true, Bool.not_false, Bool.or_false, Bool.or_true, Bool.true_or, Bool.false_or, Bool.or_self, ne_eq, reduceCtorEq, not_false_eq_true, not_true_eq_false, List.map_cons, List.map_nil]; done) | (have hSZ : SZ = 16777216 := SZ_w; first | omega | (simp only [List.length_map, List.length_append, List.length_cons, List.length_nil, List.length_reverse, List.length_range, List.length_take, List.length_drop, List.length_replicate] <;> omega))) only [gl, c0, c17, c1, c2, c3, wD, c4, c5, c6, c7, c9, c22, c10, ↓wp_ok, ↓wp_ex, ↓wp_bind, ↓w_var, ↓w_cst, ↓w_gl, ↓w_bin, ↓w_neg, ↓w_cmp, ↓w_chain, ↓w_isN, ↓w_notN, ↓w_and, ↓w_or, ↓w_and1, ↓w_and2, ↓w_or1, ↓w_or2, ↓w_not, ↓w_ite, ↓w_lst, ↓w_tup, ↓w_idx, ↓w_slc, ↓w_rev, ↓w_call, ↓w_bi, ↓w_mt1, ↓w_isi, ↓w_comp, ↓w_dcomp, ↓w_dic0, ↓w_dn, ↓w_dc, ↓t_val, ↓t_cmp, ↓t_chain, ↓t_isN, ↓t_notN, ↓t_not, ↓t_and, ↓t_or, ↓t_and1, ↓t_and2, ↓t_or1, ↓t_or2, ↓ts_n, ↓ts_1, ↓i_val, ↓i_rng1, ↓i_rng2, ↓i_enum, ↓i_zip, ↓i_revd, ↓s_nil, ↓s_cons, ↓s_set, ↓s_own, ↓s_par, ↓s_unp, ↓s_aug, ↓s_apd, ↓s_put, ↓s_exp, ↓s_ret, ↓s_retV, ↓s_retN, ↓s_ite, ↓s_for, ↓s_whl, ↓s_brk, ↓s_cnt, ↓s_pas, ↓s_frz, ↓s_nev, ↓s_mtc, ↓m_nil, ↓m_one, ↓m_two, ↓m_any, ↓ow_nx, ↓ow_bk, ↓ow_ct, ↓ow_rt, iw_non, iw_bl, iw_int, iw_str, iw_lst, iw_tup, iw_dic, iw_obj, iw_exc, iw_rls, getV_0, getV_s, getS_0, getS_s, boolW_bl, bindW_nm, bindW_tp, setAll_c, setAll_n, wp_ok, wp_ex, b_addI, b_subI, b_addS, b_addL, b_mulIl, b_mulIr, b_modI, b_divI, b_mulS, w_negI, a_I, a_S, x_lstI, x_rlsI, b_powT, x_lstI', x_str, x_str', x_strM, x_lstM, x_i2, x_i3, x_i4, x_i5, x_i6, x_i11, x_t0, x_t1, x_t2, x_t3, x_l0, cut_to, cut_from, cut_mid, cut_toN, cut_fromN, c_lt, c_le, c_gt, c_ge, c_eq, c_ne, e_same, e_I, e_S, e_B, c_iz, c_niz, c_inS, c_ninS, c_inP, c_ninP, c_inL, c_ninL, c_inT, c_ninT, k_non, k_bl, k_int, k_lst, k_tup, k_str, ty_w, isBor_n, isBor_c, v_lst, v_tup, v_slcL, v_slcS, v_revL, v_revS, bi_1, bi_2, l_lst, l_rls, l_tup, l_str, i_int, i_bl, li_lst, li_tup, li_str, so_int, so_str, al_bl, an_bl, su_int, al_map, an_map, su_map, ab_int, mi_2, ma_2, gc_2, r_joinS, r_indexS, r_indexL, mt_join, it_lst, it_own, it_tup, it_str, rn_ok, en_str, en_lst, zi_lst, re_lst, mb_fu, mb_fr, mb_sh, mb_bs, mb_bf, h_fu, h_fr, h_sh, h_fl, o_fu, o_sh, g_fu, g_fr, g_sh, g_fl, r_some, ol_sh, ol_fu, ap_sh, ap_fu, pu_sh, un_ok, pa_ok, bm_int, bm_str, pm_fr, pm_sh, pm_bs, pm_fu, pm_bf, cm_fr, cm_fu, cm_sh, cm_bs, callM_fl, callM_nb, rdV_fr, rdV_sh, rdV_fu, norm_fl, norm_lst, norm_nf, fl_non, fl_bl, fl_int, fl_str, fl_tup, fl_lst, fl_rls, fl_dic, flL_n, flL_c, flL_int, flL_str, wipe_n, wipe_c, List.set_cons_zero, List.set_cons_succ, List.set_nil, List.map_cons, List.map_nil, List.length_map, List.length_cons, List.length_nil, List.append_nil, List.nil_append, List.take_succ_cons, List.take_zero, List.drop_succ_cons, List.drop_zero, Nat.zero_add, Nat.reduceAdd, Nat.reduceSub, isNon, optI_n, optI_var, optI_lit, optI_bin, optI_neg, optI_idx, optI_bi, optI_call, optI_gl, optI_mt, bq_t, bq_f, bq_not, bq_yes, bq_no, bq_and, bq_or, Bool.not_true, Bool.not_false, Bool.false_and, Bool.true_and, Bool.and_false, Bool.and_true, Bool.or_false, Bool.false_or, Bool.or_true, Bool.true_or, if_true, if_false, Bool.false_eq_true, true_and, and_true, List.any_cons, List.any_nil, List.isEmpty_cons, List.isEmpty_nil, tB_int_non, tB_int_bl, tB_int_int, tB_int_str, tB_int_lst, tB_int_tup, tB_int_dic, tB_bool_non, tB_bool_bl, tB_bool_int, tB_bool_str, tB_bool_lst, tB_bool_tup, tB_bool_dic, tB_str_non, tB_str_bl, tB_str_int, tB_str_str, tB_str_lst, tB_str_tup, tB_str_dic, tB_list_non, tB_list_bl, tB_list_int, tB_list_str, tB_list_lst, tB_list_tup, tB_list_dic, tB_tuple_non, tB_tuple_bl, tB_tuple_int, tB_tuple_str, tB_tuple_lst, tB_tuple_tup, tB_tuple_dic, tB_dict_non, tB_dict_bl, tB_dict_int, tB_dict_str, tB_dict_lst, tB_dict_tup, tB_dict_dic])
    refine for_rng (fun d E => ∃ r, E = [some (.fr, .str S), some (.fr, wD m ws), some (.fr, .str kd), some (.sh, .lst ((flF S.length m ws kd i.toNat ++ rowF m ws kd i (d - 1).toNat).map pr)), some (.fr, .int i), r]) ⟨_, by simp [rowF]; rfl⟩ ?_ ?_
    · rintro d E h3 h4 ⟨r, rfl⟩
      have hl2 := rowF_len m ws kd i (d - 1).toNat
      have e1 : (d + 1 - 1).toNat = (d - 1).toNat + 1 := by omega
      have e2 : 1 + ((d - 1).toNat : Int) = d := by omega
      (simp (config := {decide := false}) (disch := first | assumption | omega | (simp only [mb_fu, mb_fr, mb_sh, mb_bs, mb_bf, fl_non, fl_bl, fl_int, fl_str, fl_tup, fl_lst, fl_rls, fl_dic, flL_n, flL_c, flL_int, flL_str, isBor_n, isBor_c, pl_non, pl_bl, pl_int, pl_lst, plL_a, pl_tup, plL_n, plL_c, plL_int, at_non, at_bl, at_int, at_str, co_non, co_bl, co_int, co_str, co_lst, co_tup, List.all_cons, List.all_nil, List.length_cons, List.length_nil, List.length_map, beq_self_eq_true, mkb_shfu, mkb_frfu, Bool.false_and, Bool.true_and, Bool.and_true, Bool.and_false, Bool.and_self, Bool.not_true, Bool.not_false, Bool.or_false, Bool.or_true, Bool.true_or, Bool.false_or, Bool.or_self, ne_eq, reduceCtorEq, not_false_eq_true, not_true_eq_false, List.map_cons, List.map_nil]; done) | (have hSZ : SZ = 16777216 := SZ_w; first | omega | (simp only [List.length_map, List.length_append, List.length_cons, List.length_nil, List.length_reverse, List.length_range, List.length_take, List.length_drop, List.length_replicate] <;> omega))) only [gl, c0, c17, c1, c2, c3, wD, c4, c5, c6, c7, c9, c22, c10, ↓wp_ok, ↓wp_ex, ↓wp_bind, ↓w_var, ↓w_cst, ↓w_gl, ↓w_bin, ↓w_neg, ↓w_cmp, ↓w_chain, ↓w_isN, ↓w_notN, ↓w_and, ↓w_or, ↓w_and1, ↓w_and2, ↓w_or1, ↓w_or2, ↓w_not, ↓w_ite, ↓w_lst, ↓w_tup, ↓w_idx, ↓w_slc, ↓w_rev, ↓w_call, ↓w_bi, ↓w_mt1, ↓w_isi, ↓w_comp, ↓w_dcomp, ↓w_dic0, ↓w_dn, ↓w_dc, ↓t_val, ↓t_cmp, ↓t_chain, ↓t_isN, ↓t_notN, ↓t_not, ↓t_and, ↓t_or, ↓t_and1, ↓t_and2, ↓t_or1, ↓t_or2, ↓ts_n, ↓ts_1, ↓i_val, ↓i_rng1, ↓i_rng2, ↓i_enum, ↓i_zip, ↓i_revd, ↓s_nil, ↓s_cons, ↓s_set, ↓s_own, ↓s_par, ↓s_unp, ↓s_aug, ↓s_apd, ↓s_put, ↓s_exp, ↓s_ret, ↓s_retV, ↓s_retN, ↓s_ite, ↓s_for, ↓s_whl, ↓s_brk, ↓s_cnt, ↓s_pas, ↓s_frz, ↓s_nev, ↓s_mtc, ↓m_nil, ↓m_one, ↓m_two, ↓m_any, ↓ow_nx, ↓ow_bk, ↓ow_ct, ↓ow_rt, iw_non, iw_bl, iw_int, iw_str, iw_lst, iw_tup, iw_dic, iw_obj, iw_exc, iw_rls, getV_0, getV_s, getS_0, getS_s, boolW_bl, bindW_nm, bindW_tp, setAll_c, setAll_n, wp_ok, wp_ex, b_addI, b_subI, b_addS, b_addL, b_mulIl, b_mulIr, b_modI, b_divI, b_mulS, w_negI, a_I, a_S, x_lstI, x_rlsI, b_powT, x_lstI', x_str, x_str', x_strM, x_lstM, x_i2, x_i3, x_i4, x_i5, x_i6, x_i11, x_t0, x_t1, x_t2, x_t3, x_l0, cut_to, cut_from, cut_mid, cut_toN, cut_fromN, c_lt, c_le, c_gt, c_ge, c_eq, c_ne, e_same, e_I, e_S, e_B, c_iz, c_niz, c_inS, c_ninS, c_inP, c_ninP, c_inL, c_ninL, c_inT, c_ninT, k_non, k_bl, k_int, k_lst, k_tup, k_str, ty_w, isBor_n, isBor_c, v_lst, v_tup, v_slcL, v_slcS, v_revL, v_revS, bi_1, bi_2, l_lst, l_rls, l_tup, l_str, i_int, i_bl, li_lst, li_tup, li_str, so_int, so_str, al_bl, an_bl, su_int, al_map, an_map, su_map, ab_int, mi_2, ma_2, gc_2, r_joinS, r_indexS, r_indexL, mt_join, it_lst, it_own, it_tup, it_str, rn_ok, en_str, en_lst, zi_lst, re_lst, mb_fu, mb_fr, mb_sh, mb_bs, mb_bf, h_fu, h_fr, h_sh, h_fl, o_fu, o_sh, g_fu, g_fr, g_sh, g_fl, r_some, ol_sh, ol_fu, ap_sh, ap_fu, pu_sh, un_ok, pa_ok, bm_int, bm_str, pm_fr, pm_sh, pm_bs, pm_fu, pm_bf, cm_fr, cm_fu, cm_sh, cm_bs, callM_fl, callM_nb, rdV_fr, rdV_sh, rdV_fu, norm_fl, norm_lst, norm_nf, fl_non, fl_bl, fl_int, fl_str, fl_tup, fl_lst, fl_rls, fl_dic, flL_n, flL_c, flL_int, flL_str, wipe_n, wipe_c, List.set_cons_zero, List.set_cons_succ, List.set_nil, List.map_cons, List.map_nil, List.length_map, List.length_cons, List.length_nil, List.append_nil, List.nil_append, List.take_succ_cons, List.take_zero, List.drop_succ_cons, List.drop_zero, Nat.zero_add, Nat.reduceAdd, Nat.reduceSub, isNon, optI_n, optI_var, optI_lit, optI_bin, optI_neg, optI_idx, optI_bi, optI_call, optI_gl, optI_mt, bq_t, bq_f, bq_not, bq_yes, bq_no, bq_and, bq_or, Bool.not_true, Bool.not_false, Bool.false_and, Bool.true_and, Bool.and_false, Bool.and_true, Bool.or_false, Bool.false_or, Bool.or_true, Bool.true_or, if_true, if_false, Bool.false_eq_true, true_and, and_true, List.any_cons, List.any_nil, List.isEmpty_cons, List.isEmpty_nil, tB_int_non, tB_int_bl, tB_int_int, tB_int_str, tB_int_lst, tB_int_tup, tB_int_dic, tB_bool_non, tB_bool_bl, tB_bool_int, tB_bool_str, tB_bool_lst, tB_bool_tup, tB_bool_dic, tB_str_non, tB_str_bl, tB_str_int, tB_str_str, tB_str_lst, tB_str_tup, tB_str_dic, tB_list_non, tB_list_bl, tB_list_int, tB_list_str, tB_list_lst, tB_list_tup, tB_list_dic, tB_tuple_non, tB_tuple_bl, tB_tuple_int, tB_tuple_str, tB_tuple_lst, tB_tuple_tup, tB_tuple_dic, tB_dict_non, tB_dict_bl, tB_dict_int, tB_dict_str, tB_dict_lst, tB_dict_tup, tB_dict_dic])
      rw [e1, rowF_succ, e2]
      simp only [flt]
      (repeat' (first | (simp (config := {decide := false}) (disch := first | assumption | omega | (simp only [mb_fu, mb_fr, mb_sh, mb_bs, mb_bf, fl_non, fl_bl, fl_int, fl_str, fl_tup, fl_lst, fl_rls, fl_dic, flL_n, flL_c, flL_int, flL_str, isBor_n, isBor_c, pl_non, pl_bl, pl_int, pl_lst, plL_a, pl_tup, plL_n, plL_c, plL_int, at_non, at_bl, at_int, at_str, co_non, co_bl, co_int, co_str, co_lst, co_tup, List.all_cons, List.all_nil, List.length_cons, List.length_nil, List.length_map, beq_self_eq_true, mkb_shfu, mkb_frfu, Bool.false_and, Bool.true_and, Bool.and_true, Bool.and_false, Bool.and_self, Bool.not_true, Bool.not_false, Bool.or_false, Bool.or_true, Bool.true_or, Bool.false_or, Bool.or_self, ne_eq, reduceCtorEq, not_false_eq_true, not_true_eq_false, List.map_cons, List.map_nil]; done) | (have hSZ : SZ = 16777216 := SZ_w; first | omega | (simp only [List.length_map, List.length_append, List.length_cons, List.length_nil, List.length_reverse, List.length_range, List.length_take, List.length_drop, List.length_replicate] <;> omega))) only [gl, c0, c17, c1, c2, c3, wD, c4, c5, c6, c7, c9, c22, c10, ↓wp_ok, ↓wp_ex, ↓wp_bind, ↓w_var, ↓w_cst, ↓w_gl, ↓w_bin, ↓w_neg, ↓w_cmp, ↓w_chain, ↓w_isN, ↓w_notN, ↓w_and, ↓w_or, ↓w_and1, ↓w_and2, ↓w_or1, ↓w_or2, ↓w_not, ↓w_ite, ↓w_lst, ↓w_tup, ↓w_idx, ↓w_slc, ↓w_rev, ↓w_call, ↓w_bi, ↓w_mt1, ↓w_isi, ↓w_comp, ↓w_dcomp, ↓w_dic0, ↓w_dn, ↓w_dc, ↓t_val, ↓t_cmp, ↓t_chain, ↓t_isN, ↓t_notN, ↓t_not, ↓t_and, ↓t_or, ↓t_and1, ↓t_and2, ↓t_or1, ↓t_or2, ↓ts_n, ↓ts_1, ↓i_val, ↓i_rng1, ↓i_rng2, ↓i_enum, ↓i_zip, ↓i_revd, ↓s_nil, ↓s_cons, ↓s_set, ↓s_own, ↓s_par, ↓s_unp, ↓s_aug, ↓s_apd, ↓s_put, ↓s_exp, ↓s_ret, ↓s_retV, ↓s_retN, ↓s_ite, ↓s_for, ↓s_whl, ↓s_brk, ↓s_cnt, ↓s_pas, ↓s_frz, ↓s_nev, ↓s_mtc, ↓m_nil, ↓m_one, ↓m_two, ↓m_any, ↓ow_nx, ↓ow_bk, ↓ow_ct, ↓ow_rt, iw_non, iw_bl, iw_int, iw_str, iw_lst, iw_tup, iw_dic, iw_obj, iw_exc, iw_rls, getV_0, getV_s, getS_0, getS_s, boolW_bl, bindW_nm, bindW_tp, setAll_c, setAll_n, wp_ok, wp_ex, b_addI, b_subI, b_addS, b_addL, b_mulIl, b_mulIr, b_modI, b_divI, b_mulS, w_negI, a_I, a_S, x_lstI, x_rlsI, b_powT, x_lstI', x_str, x_str', x_strM, x_lstM, x_i2, x_i3, x_i4, x_i5, x_i6, x_i11, x_t0, x_t1, x_t2, x_t3, x_l0, cut_to, cut_from, cut_mid, cut_toN, cut_fromN, c_lt, c_le, c_gt, c_ge, c_eq, c_ne, e_same, e_I, e_S, e_B, c_iz, c_niz, c_inS, c_ninS, c_inP, c_ninP, c_inL, c_ninL, c_inT, c_ninT, k_non, k_bl, k_int, k_lst, k_tup, k_str, ty_w, isBor_n, isBor_c, v_lst, v_tup, v_slcL, v_slcS, v_revL, v_revS, bi_1, bi_2, l_lst, l_rls, l_tup, l_str, i_int, i_bl, li_lst, li_tup, li_str, so_int, so_str, al_bl, an_bl, su_int, al_map, an_map, su_map, ab_int, mi_2, ma_2, gc_2, r_joinS, r_indexS, r_indexL, mt_join, it_lst, it_own, it_tup, it_str, rn_ok, en_str, en_lst, zi_lst, re_lst, mb_fu, mb_fr, mb_sh, mb_bs, mb_bf, h_fu, h_fr, h_sh, h_fl, o_fu, o_sh, g_fu, g_fr, g_sh, g_fl, r_some, ol_sh, ol_fu, ap_sh, ap_fu, pu_sh, un_ok, pa_ok, bm_int, bm_str, pm_fr, pm_sh, pm_bs, pm_fu, pm_bf, cm_fr, cm_fu, cm_sh, cm_bs, callM_fl, callM_nb, rdV_fr, rdV_sh, rdV_fu, norm_fl, norm_lst, norm_nf, fl_non, fl_bl, fl_int, fl_str, fl_tup, fl_lst, fl_rls, fl_dic, flL_n, flL_c, flL_int, flL_str, wipe_n, wipe_c, List.set_cons_zero, List.set_cons_succ, List.set_nil, List.map_cons, List.map_nil, List.length_map, List.length_cons, List.length_nil, List.append_nil, List.nil_append, List.take_succ_cons, List.take_zero, List.drop_succ_cons, List.drop_zero, Nat.zero_add, Nat.reduceAdd, Nat.reduceSub, isNon, optI_n, optI_var, optI_lit, optI_bin, optI_neg, optI_idx, optI_bi, optI_call, optI_gl, optI_mt, bq_t, bq_f, bq_not, bq_yes, bq_no, bq_and, bq_or, Bool.not_true, Bool.not_false, Bool.false_and, Bool.true_and, Bool.and_false, Bool.and_true, Bool.or_false, Bool.false_or, Bool.or_true, Bool.true_or, if_true, if_false, Bool.false_eq_true, true_and, and_true, List.any_cons, List.any_nil, List.isEmpty_cons, List.isEmpty_nil, tB_int_non, tB_int_bl, tB_int_int, tB_int_str, tB_int_lst, tB_int_tup, tB_int_dic, tB_bool_non, tB_bool_bl, tB_bool_int, tB_bool_str, tB_bool_lst, tB_bool_tup, tB_bool_dic, tB_str_non, tB_str_bl, tB_str_int, tB_str_str, tB_str_lst, tB_str_tup, tB_str_dic, tB_list_non, tB_list_bl, tB_list_int, tB_list_str, tB_list_lst, tB_list_tup, tB_list_dic, tB_tuple_non, tB_tuple_bl, tB_tuple_int, tB_tuple_str, tB_tuple_lst, tB_tuple_tup, tB_tuple_dic, tB_dict_non, tB_dict_bl, tB_dict_int, tB_dict_str, tB_dict_lst, tB_dict_tup, tB_dict_dic]) | (rw [bq_dec]; refine ⟨fun _ => ?_, fun _ => ?_⟩)))
      all_goals simp [pr, *]
    · rintro E ⟨r, rfl⟩
      (simp (config := {decide := false}) (disch := first | assumption | omega | (simp only [mb_fu, mb_fr, mb_sh, mb_bs, mb_bf, fl_non, fl_bl, fl_int, fl_str, fl_tup, fl_lst, fl_rls, fl_dic, flL_n, flL_c, flL_int, flL_str, isBor_n, isBor_c, pl_non, pl_bl, pl_int, pl_lst, plL_a, pl_tup, plL_n, plL_c, plL_int, at_non, at_bl, at_int, at_str, co_non, co_bl, co_int, co_str, co_lst, co_tup, List.all_cons, List.all_nil, List.length_cons, List.length_nil, List.length_map, beq_self_eq_true, mkb_shfu, mkb_frfu, Bool.false_and, Bool.true_and, Bool.and_true, Bool.and_false, Bool.and_self, Bool.not_true, Bool.not_false, Bool.or_false, Bool.or_true, Bool.true_or, Bool.false_or, Bool.or_self, ne_eq, reduceCtorEq, not_false_eq_true, not_true_eq_false, List.map_cons, List.map_nil]; done) | (have hSZ : SZ = 16777216 := SZ_w; first | omega | (simp only [List.length_map, List.length_append, List.length_cons, List.length_nil, List.length_reverse, List.length_range, List.length_take, List.length_drop, List.length_replicate] <;> omega))) only [gl, c0, c17, c1, c2, c3, wD, c4, c5, c6, c7, c9, c22, c10, ↓wp_ok, ↓wp_ex, ↓wp_bind, ↓w_var, ↓w_cst, ↓w_gl, ↓w_bin, ↓w_neg, ↓w_cmp, ↓w_chain, ↓w_isN, ↓w_notN, ↓w_and, ↓w_or, ↓w_and1, ↓w_and2, ↓w_or1, ↓w_or2, ↓w_not, ↓w_ite, ↓w_lst, ↓w_tup, ↓w_idx, ↓w_slc, ↓w_rev, ↓w_call, ↓w_bi, ↓w_mt1, ↓w_isi, ↓w_comp, ↓w_dcomp, ↓w_dic0, ↓w_dn, ↓w_dc, ↓t_val, ↓t_cmp, ↓t_chain, ↓t_isN, ↓t_notN, ↓t_not, ↓t_and, ↓t_or, ↓t_and1, ↓t_and2, ↓t_or1, ↓t_or2, ↓ts_n, ↓ts_1, ↓i_val, ↓i_rng1, ↓i_rng2, ↓i_enum, ↓i_zip, ↓i_revd, ↓s_nil, ↓s_cons, ↓s_set, ↓s_own, ↓s_par, ↓s_unp, ↓s_aug, ↓s_apd, ↓s_put, ↓s_exp, ↓s_ret, ↓s_retV, ↓s_retN, ↓s_ite, ↓s_for, ↓s_whl, ↓s_brk, ↓s_cnt, ↓s_pas, ↓s_frz, ↓s_nev, ↓s_mtc, ↓m_nil, ↓m_one, ↓m_two, ↓m_any, ↓ow_nx, ↓ow_bk, ↓ow_ct, ↓ow_rt, iw_non, iw_bl, iw_int, iw_str, iw_lst, iw_tup, iw_dic, iw_obj, iw_exc, iw_rls, getV_0, getV_s, getS_0, getS_s, boolW_bl, bindW_nm, bindW_tp, setAll_c, setAll_n, wp_ok, wp_ex, b_addI, b_subI, b_addS, b_addL, b_mulIl, b_mulIr, b_modI, b_divI, b_mulS, w_negI, a_I, a_S, x_lstI, x_rlsI, b_powT, x_lstI', x_str, x_str', x_strM, x_lstM, x_i2, x_i3, x_i4, x_i5, x_i6, x_i11, x_t0, x_t1, x_t2, x_t3, x_l0, cut_to, cut_from, cut_mid, cut_toN, cut_fromN, c_lt, c_le, c_gt, c_ge, c_eq, c_ne, e_same, e_I, e_S, e_B, c_iz, c_niz, c_inS, c_ninS, c_inP, c_ninP, c_inL, c_ninL, c_inT, c_ninT, k_non, k_bl, k_int, k_lst, k_tup, k_str, ty_w, isBor_n, isBor_c, v_lst, v_tup, v_slcL, v_slcS, v_revL, v_revS, bi_1, bi_2, l_lst, l_rls, l_tup, l_str, i_int, i_bl, li_lst, li_tup, li_str, so_int, so_str, al_bl, an_bl, su_int, al_map, an_map, su_map, ab_int, mi_2, ma_2, gc_2, r_joinS, r_indexS, r_indexL, mt_join, it_lst, it_own, it_tup, it_str, rn_ok, en_str, en_lst, zi_lst, re_lst, mb_fu, mb_fr, mb_sh, mb_bs, mb_bf, h_fu, h_fr, h_sh, h_fl, o_fu, o_sh, g_fu, g_fr, g_sh, g_fl, r_some, ol_sh, ol_fu, ap_sh, ap_fu, pu_sh, un_ok, pa_ok, bm_int, bm_str, pm_fr, pm_sh, pm_bs, pm_fu, pm_bf, cm_fr, cm_fu, cm_sh, cm_bs, callM_fl, callM_nb, rdV_fr, rdV_sh, rdV_fu, norm_fl, norm_lst, norm_nf, fl_non, fl_bl, fl_int, fl_str, fl_tup, fl_lst, fl_rls, fl_dic, flL_n, flL_c, flL_int, flL_str, wipe_n, wipe_c, List.set_cons_zero, List.set_cons_succ, List.set_nil, List.map_cons, List.map_nil, List.length_map, List.length_cons, List.length_nil, List.append_nil, List.nil_append, List.take_succ_cons, List.take_zero, List.drop_succ_cons, List.drop_zero, Nat.zero_add, Nat.reduceAdd, Nat.reduceSub, isNon, optI_n, optI_var, optI_lit, optI_bin, optI_neg, optI_idx, optI_bi, optI_call, optI_gl, optI_mt, bq_t, bq_f, bq_not, bq_yes, bq_no, bq_and, bq_or, Bool.not_true, Bool.not_false, Bool.false_and, Bool.true_and, Bool.and_false, Bool.and_true, Bool.or_false, Bool.false_or, Bool.or_true, Bool.true_or, if_true, if_false, Bool.false_eq_true, true_and, and_true, List.any_cons, List.any_nil, List.isEmpty_cons, List.isEmpty_nil, tB_int_non, tB_int_bl, tB_int_int, tB_int_str, tB_int_lst, tB_int_tup, tB_int_dic, tB_bool_non, tB_bool_bl, tB_bool_int, tB_bool_str, tB_bool_lst, tB_bool_tup, tB_bool_dic, tB_str_non, tB_str_bl, tB_str_int, tB_str_str, tB_str_lst, tB_str_tup, tB_str_dic, tB_list_non, tB_list_bl, tB_list_int, tB_list_str, tB_list_lst, tB_list_tup, tB_list_dic, tB_tuple_non, tB_tuple_bl, tB_tuple_int, tB_tuple_str, tB_tuple_lst, tB_tuple_tup, tB_tuple_dic, tB_dict_non, tB_dict_bl, tB_dict_int, tB_dict_str, tB_dict_lst, tB_dict_tup, tB_dict_dic])
      have e : (i + 1).toNat = i.toNat + 1 := by omega
      have e2 : ((i.toNat : Nat) : Int) = i := by omega
      have e3 : (1 + ((S.length : Int) - 1).toNat - 1 : Int).toNat = S.length - 1 := by omega
      refine ⟨some (.fr, .int i), r, ?_⟩
      rw [e, flF_succ, e2, e3]
  · rintro E ⟨q, r, rfl⟩
    (simp (config := {decide := false}) (disch := first | assumption | omega | (simp only [mb_fu, mb_fr, mb_sh, mb_bs, mb_bf, fl_non, fl_bl, fl_int, fl_str, fl_tup, fl_lst, fl_rls, fl_dic, flL_n, flL_c, flL_int, flL_str, isBor_n, isBor_c, pl_non, pl_bl, pl_int, pl_lst, plL_a, pl_tup, plL_n, plL_c, plL_int, at_non, at_bl, at_int, at_str, co_non, co_bl, co_int, co_str, co_lst, co_tup, List.all_cons, List.all_nil, List.length_cons, List.length_nil, List.length_map, beq_self_eq_true, mkb_shfu, mkb_frfu, Bool.false_and, Bool.true_and, Bool.and_true, Bool.and_false, Bool.and_self, Bool.not_true, Bool.not_false, Bool.or_false, Bool.or_true, Bool.true_or, Bool.false_or, Bool.or_self, ne_eq, reduceCtorEq, not_false_eq_true, not_true_eq_false, List.map_cons, List.map_nil]; done) | (have hSZ : SZ = 16777216 := SZ_w; first | omega | (simp only [List.length_map, List.length_append, List.length_cons, List.length_nil, List.length_reverse, List.length_range, List.length_take, List.length_drop, List.length_replicate] <;> omega))) only [gl, c0, c17, c1, c2, c3, wD, c4, c5, c6, c7, c9, c22, c10, ↓wp_ok, ↓wp_ex, ↓wp_bind, ↓w_var, ↓w_cst, ↓w_gl, ↓w_bin, ↓w_neg, ↓w_cmp, ↓w_chain, ↓w_isN, ↓w_notN, ↓w_and, ↓w_or, ↓w_and1, ↓w_and2, ↓w_or1, ↓w_or2, ↓w_not, ↓w_ite, ↓w_lst, ↓w_tup, ↓w_idx, ↓w_slc, ↓w_rev, ↓w_call, ↓w_bi, ↓w_mt1, ↓w_isi, ↓w_comp, ↓w_dcomp, ↓w_dic0, ↓w_dn, ↓w_dc, ↓t_val, ↓t_cmp, ↓t_chain, ↓t_isN, ↓t_notN, ↓t_not, ↓t_and, ↓t_or, ↓t_and1, ↓t_and2, ↓t_or1, ↓t_or2, ↓ts_n, ↓ts_1, ↓i_val, ↓i_rng1, ↓i_rng2, ↓i_enum, ↓i_zip, ↓i_revd, ↓s_nil, ↓s_cons, ↓s_set, ↓s_own, ↓s_par, ↓s_unp, ↓s_aug, ↓s_apd, ↓s_put, ↓s_exp, ↓s_ret, ↓s_retV, ↓s_retN, ↓s_ite, ↓s_for, ↓s_whl, ↓s_brk, ↓s_cnt, ↓s_pas, ↓s_frz, ↓s_nev, ↓s_mtc, ↓m_nil, ↓m_one, ↓m_two, ↓m_any, ↓ow_nx, ↓ow_bk, ↓ow_ct, ↓ow_rt, iw_non, iw_bl, iw_int, iw_str, iw_lst, iw_tup, iw_dic, iw_obj, iw_exc, iw_rls, getV_0, getV_s, getS_0, getS_s, boolW_bl, bindW_nm, bindW_tp, setAll_c, setAll_n, wp_ok, wp_ex, b_addI, b_subI, b_addS, b_addL, b_mulIl, b_mulIr, b_modI, b_divI, b_mulS, w_negI, a_I, a_S, x_lstI, x_rlsI, b_powT, x_lstI', x_str, x_str', x_strM, x_lstM, x_i2, x_i3, x_i4, x_i5, x_i6, x_i11, x_t0, x_t1, x_t2, x_t3, x_l0, cut_to, cut_from, cut_mid, cut_toN, cut_fromN, c_lt, c_le, c_gt, c_ge, c_eq, c_ne, e_same, e_I, e_S, e_B, c_iz, c_niz, c_inS, c_ninS, c_inP, c_ninP, c_inL, c_ninL, c_inT, c_ninT, k_non, k_bl, k_int, k_lst, k_tup, k_str, ty_w, isBor_n, isBor_c, v_lst, v_tup, v_slcL, v_slcS, v_revL, v_revS, bi_1, bi_2, l_lst, l_rls, l_tup, l_str, i_int, i_bl, li_lst, li_tup, li_str, so_int, so_str, al_bl, an_bl, su_int, al_map, an_map, su_map, ab_int, mi_2, ma_2, gc_2, r_joinS, r_indexS, r_indexL, mt_join, it_lst, it_own, it_tup, it_str, rn_ok, en_str, en_lst, zi_lst, re_lst, mb_fu, mb_fr, mb_sh, mb_bs, mb_bf, h_fu, h_fr, h_sh, h_fl, o_fu, o_sh, g_fu, g_fr, g_sh, g_fl, r_some, ol_sh, ol_fu, ap_sh, ap_fu, pu_sh, un_ok, pa_ok, bm_int, bm_str, pm_fr, pm_sh, pm_bs, pm_fu, pm_bf, cm_fr, cm_fu, cm_sh, cm_bs, callM_fl, callM_nb, rdV_fr, rdV_sh, rdV_fu, norm_fl, norm_lst, norm_nf, fl_non, fl_bl, fl_int, fl_str, fl_tup, fl_lst, fl_rls, fl_dic, flL_n, flL_c, flL_int, flL_str, wipe_n, wipe_c, List.set_cons_zero, List.set_cons_succ, List.set_nil, List.map_cons, List.map_nil, List.length_map, List.length_cons, List.length_nil, List.append_nil, List.nil_append, List.take_succ_cons, List.take_zero, List.drop_succ_cons, List.drop_zero, Nat.zero_add, Nat.reduceAdd, Nat.reduceSub, isNon, optI_n, optI_var, optI_lit, optI_bin, optI_neg, optI_idx, optI_bi, optI_call, optI_gl, optI_mt, bq_t, bq_f, bq_not, bq_yes, bq_no, bq_and, bq_or, Bool.not_true, Bool.not_false, Bool.false_and, Bool.true_and, Bool.and_false, Bool.and_true, Bool.or_false, Bool.false_or, Bool.or_true, Bool.true_or, if_true, if_false, Bool.false_eq_true, true_and, and_true, List.any_cons, List.any_nil, List.isEmpty_cons, List.isEmpty_nil, tB_int_non, tB_int_bl, tB_int_int, tB_int_str, tB_int_lst, tB_int_tup, tB_int_dic, tB_bool_non, tB_bool_bl, tB_bool_int, tB_bool_str, tB_bool_lst, tB_bool_tup, tB_bool_dic, tB_str_non, tB_str_bl, tB_str_int, tB_str_str, tB_str_lst, tB_str_tup, tB_str_dic, tB_list_non, tB_list_bl, tB_list_int, tB_list_str, tB_list_lst, tB_list_tup, tB_list_dic, tB_tuple_non, tB_tuple_bl, tB_tuple_int, tB_tuple_str, tB_tuple_lst, tB_tuple_tup, tB_tuple_dic, tB_dict_non, tB_dict_bl, tB_dict_int, tB_dict_str, tB_dict_lst, tB_dict_tup, tB_dict_dic])
    simp

def gcd1 (m : Int) (w : Int) : Bool := decide ((Int.gcd w m : Int) = 1)
theorem c12 (n : Nat) (m : Int) (ws : List Int) (h : ws.length ≤ 12) : callD Ps gl 64 (n + 2) 12 [wD m ws] = .ok (.fu, .bl (ws.any (gcd1 m))) := by
  (refine w_fn rfl rfl rfl ?_; simp only [b12]; (simp only [startE, List.map_cons, List.map_nil, List.length_cons, List.length_nil, Nat.reduceAdd, Nat.reduceSub, List.replicate, List.cons_append, List.nil_append]); (simp (config := {decide := false}) (disch := first | assumption | omega | (simp only [mb_fu, mb_fr, mb_sh, mb_bs, mb_bf, fl_non, fl_bl, fl_int, fl_str, fl_tup, fl_lst, fl_rls, fl_dic, flL_n, flL_c, flL_int, flL_str, isBor_n, isBor_c, pl_non, pl_bl, pl_int, pl_lst, plL_a, pl_tup, plL_n, plL_c, plL_int, at_non, at_bl, at_int, at_str, co_non, co_bl, co_int, co_str, co_lst, co_tup, List.all_cons, List.all_nil, List.length_cons, List.length_nil, List.length_map, beq_self_eq_true, mkb_shfu, mkb_frfu, Bool.false_and, Bool.true_and, Bool.and_true, Bool.and_false, Bool.and_self, Bool.not_true, Bool.not_false, Bool.or_false, Bool.or_true, Bool.true_or, Bool.false_or, Bool.or_self, ne_eq, reduceCtorEq, not_false_eq_true, not_true_eq_false, List.map_cons, List.map_nil]; done) | (have hSZ : SZ = 16777216 := SZ_w; first | omega | (simp only [List.length_map, List.length_append, List.length_cons, List.length_nil, List.length_reverse, List.length_range, List.length_take, List.length_drop, List.length_replicate] <;> omega))) only [gl, c0, c17, c1, c2, c3, wD, c4, c5, c6, c7, c9, c22, c10, c11, ↓wp_ok, ↓wp_ex, ↓wp_bind, ↓w_var, ↓w_cst, ↓w_gl, ↓w_bin, ↓w_neg, ↓w_cmp, ↓w_chain, ↓w_isN, ↓w_notN, ↓w_and, ↓w_or, ↓w_and1, ↓w_and2, ↓w_or1, ↓w_or2, ↓w_not, ↓w_ite, ↓w_lst, ↓w_tup, ↓w_idx, ↓w_slc, ↓w_rev, ↓w_call, ↓w_bi, ↓w_mt1, ↓w_isi, ↓w_comp, ↓w_dcomp, ↓w_dic0, ↓w_dn, ↓w_dc, ↓t_val, ↓t_cmp, ↓t_chain, ↓t_isN, ↓t_notN, ↓t_not, ↓t_and, ↓t_or, ↓t_and1, ↓t_and2, ↓t_or1, ↓t_or2, ↓ts_n, ↓ts_1, ↓i_val, ↓i_rng1, ↓i_rng2, ↓i_enum, ↓i_zip, ↓i_revd, ↓s_nil, ↓s_cons, ↓s_set, ↓s_own, ↓s_par, ↓s_unp, ↓s_aug, ↓s_apd, ↓s_put, ↓s_exp, ↓s_ret, ↓s_retV, ↓s_retN, ↓s_ite, ↓s_for, ↓s_whl, ↓s_brk, ↓s_cnt, ↓s_pas, ↓s_frz, ↓s_nev, ↓s_mtc, ↓m_nil, ↓m_one, ↓m_two, ↓m_any, ↓ow_nx, ↓ow_bk, ↓ow_ct, ↓ow_rt, iw_non, iw_bl, iw_int, iw_str, iw_lst, iw_tup, iw_dic, iw_obj, iw_exc, iw_rls, getV_0, getV_s, getS_0, getS_s, boolW_bl, bindW_nm, bindW_tp, setAll_c, setAll_n, wp_ok, wp_ex, b_addI, b_subI, b_addS, b_addL, b_mulIl, b_mulIr, b_modI, b_divI, b_mulS, w_negI, a_I, a_S, x_lstI, x_rlsI, b_powT, x_lstI', x_str, x_str', x_strM, x_lstM, x_i2, x_i3, x_i4, x_i5, x_i6, x_i11, x_t0, x_t1, x_t2, x_t3, x_l0, cut_to, cut_from, cut_mid, cut_toN, cut_fromN, c_lt, c_le, c_gt, c_ge, c_eq, c_ne, e_same, e_I, e_S, e_B, c_iz, c_niz, c_inS, c_ninS, c_inP, c_ninP, c_inL, c_ninL, c_inT, c_ninT, k_non, k_bl, k_int, k_lst, k_tup, k_str, ty_w, isBor_n, isBor_c, v_lst, v_tup, v_slcL, v_slcS, v_revL, v_revS, bi_1, bi_2, l_lst, l_rls, l_tup, l_str, i_int, i_bl, li_lst, li_tup, li_str, so_int, so_str, al_bl, an_bl, su_int, al_map, an_map, su_map, ab_int, mi_2, ma_2, gc_2, r_joinS, r_indexS, r_indexL, mt_join, it_lst, it_own, it_tup, it_str, rn_ok, en_str, en_lst, zi_lst, re_lst, mb_fu, mb_fr, mb_sh, mb_bs, mb_bf, h_fu, h_fr, h_sh, h_fl, o_fu, o_sh, g_fu, g_fr, g_sh, g_fl, r_some, ol_sh, ol_fu, ap_sh, ap_fu, pu_sh, un_ok, pa_ok, bm_int, bm_str, pm_fr, pm_sh, pm_bs, pm_fu, pm_bf, cm_fr, cm_fu, cm_sh, cm_bs, callM_fl, callM_nb, rdV_fr, rdV_sh, rdV_fu, norm_fl, norm_lst, norm_nf, fl_non, fl_bl, fl_int, fl_str, fl_tup, fl_lst, fl_rls, fl_dic, flL_n, flL_c, flL_int, flL_str, wipe_n, wipe_c, List.set_cons_zero, List.set_cons_succ, List.set_nil, List.map_cons, List.map_nil, List.length_map, List.length_cons, List.length_nil, List.append_nil, List.nil_append, List.take_succ_cons, List.take_zero, List.drop_succ_cons, List.drop_zero, Nat.zero_add, Nat.reduceAdd, Nat.reduceSub, isNon, optI_n, optI_var, optI_lit, optI_bin, optI_neg, optI_idx, optI_bi, optI_call, optI_gl, optI_mt, bq_t, bq_f, bq_not, bq_yes, bq_no, bq_and, bq_or, Bool.not_true, Bool.not_false, Bool.false_and, Bool.true_and, Bool.and_false, Bool.and_true, Bool.or_false, Bool.false_or, Bool.or_true, Bool.true_or, if_true, if_false, Bool.false_eq_true, true_and, and_true, List.any_cons, List.any_nil, List.isEmpty_cons, List.isEmpty_nil, tB_int_non, tB_int_bl, tB_int_int, tB_int_str, tB_int_lst, tB_int_tup, tB_int_dic, tB_bool_non, tB_bool_bl, tB_bool_int, tB_bool_str, tB_bool_lst, tB_bool_tup, tB_bool_dic, tB_str_non, tB_str_bl, tB_str_int, tB_str_str, tB_str_lst, tB_str_tup, tB_str_dic, tB_list_non, tB_list_bl, tB_list_int, tB_list_str, tB_list_lst, tB_list_tup, tB_list_dic, tB_tuple_non, tB_tuple_bl, tB_tuple_int, tB_tuple_str, tB_tuple_lst, tB_tuple_tup, tB_tuple_dic, tB_dict_non, tB_dict_bl, tB_dict_int, tB_dict_str, tB_dict_lst, tB_dict_tup, tB_dict_dic]))
  refine v_comp1 D.int (fun w => .bl (gcd1 m w)) ?_ (fun w hw => ?_) ?_
  · omega
  · (simp (config := {decide := false}) (disch := first | assumption | omega | (simp only [mb_fu, mb_fr, mb_sh, mb_bs, mb_bf, fl_non, fl_bl, fl_int, fl_str, fl_tup, fl_lst, fl_rls, fl_dic, flL_n, flL_c, flL_int, flL_str, isBor_n, isBor_c, pl_non, pl_bl, pl_int, pl_lst, plL_a, pl_tup, plL_n, plL_c, plL_int, at_non, at_bl, at_int, at_str, co_non, co_bl, co_int, co_str, co_lst, co_tup, List.all_cons, List.all_nil, List.length_cons, List.length_nil, List.length_map, beq_self_eq_true, mkb_shfu, mkb_frfu, Bool.false_and, Bool.true_and, Bool.and_true, Bool.and_false, Bool.and_self, Bool.not_true, Bool.not_false, Bool.or_false, Bool.or_true, Bool.true_or, Bool.false_or, Bool.or_self, ne_eq, reduceCtorEq, not_false_eq_true, not_true_eq_false, List.map_cons, List.map_nil]; done) | (have hSZ : SZ = 16777216 := SZ_w; first | omega | (simp only [List.length_map, List.length_append, List.length_cons, List.length_nil, List.length_reverse, List.length_range, List.length_take, List.length_drop, List.length_replicate] <;> omega))) only [gl, c0, c17, c1, c2, c3, wD, c4, c5, c6, c7, c9, c22, c10, c11, ↓wp_ok, ↓wp_ex, ↓wp_bind, ↓w_var, ↓w_cst, ↓w_gl, ↓w_bin, ↓w_neg, ↓w_cmp, ↓w_chain, ↓w_isN, ↓w_notN, ↓w_and, ↓w_or, ↓w_and1, ↓w_and2, ↓w_or1, ↓w_or2, ↓w_not, ↓w_ite, ↓w_lst, ↓w_tup, ↓w_idx, ↓w_slc, ↓w_rev, ↓w_call, ↓w_bi, ↓w_mt1, ↓w_isi, ↓w_comp, ↓w_dcomp, ↓w_dic0, ↓w_dn, ↓w_dc, ↓t_val, ↓t_cmp, ↓t_chain, ↓t_isN, ↓t_notN, ↓t_not, ↓t_and, ↓t_or, ↓t_and1, ↓t_and2, ↓t_or1, ↓t_or2, ↓ts_n, ↓ts_1, ↓i_val, ↓i_rng1, ↓i_rng2, ↓i_enum, ↓i_zip, ↓i_revd, ↓s_nil, ↓s_cons, ↓s_set, ↓s_own, ↓s_par, ↓s_unp, ↓s_aug, ↓s_apd, ↓s_put, ↓s_exp, ↓s_ret, ↓s_retV, ↓s_retN, ↓s_ite, ↓s_for, ↓s_whl, ↓s_brk, ↓s_cnt, ↓s_pas, ↓s_frz, ↓s_nev, ↓s_mtc, ↓m_nil, ↓m_one, ↓m_two, ↓m_any, ↓ow_nx, ↓ow_bk, ↓ow_ct, ↓ow_rt, iw_non, iw_bl, iw_int, iw_str, iw_lst, iw_tup, iw_dic, iw_obj, iw_exc, iw_rls, getV_0, getV_s, getS_0, getS_s, boolW_bl, bindW_nm, bindW_tp, setAll_c, setAll_n, wp_ok, wp_ex, b_addI, b_subI, b_addS, b_addL, b_mulIl, b_mulIr, b_modI, b_divI, b_mulS, w_negI, a_I, a_S, x_lstI, x_rlsI, b_powT, x_lstI', x_str, x_str', x_strM, x_lstM, x_i2, x_i3, x_i4, x_i5, x_i6, x_i11, x_t0, x_t1, x_t2, x_t3, x_l0, cut_to, cut_from, cut_mid, cut_toN, cut_fromN, c_lt, c_le, c_gt, c_ge, c_eq, c_ne, e_same, e_I, e_S, e_B, c_iz, c_niz, c_inS, c_ninS, c_inP, c_ninP, c_inL, c_ninL, c_inT, c_ninT, k_non, k_bl, k_int, k_lst, k_tup, k_str, ty_w, isBor_n, isBor_c, v_lst, v_tup, v_slcL, v_slcS, v_revL, v_revS, bi_1, bi_2, l_lst, l_rls, l_tup, l_str, i_int, i_bl, li_lst, li_tup, li_str, so_int, so_str, al_bl, an_bl, su_int, al_map, an_map, su_map, ab_int, mi_2, ma_2, gc_2, r_joinS, r_indexS, r_indexL, mt_join, it_lst, it_own, it_tup, it_str, rn_ok, en_str, en_lst, zi_lst, re_lst, mb_fu, mb_fr, mb_sh, mb_bs, mb_bf, h_fu, h_fr, h_sh, h_fl, o_fu, o_sh, g_fu, g_fr, g_sh, g_fl, r_some, ol_sh, ol_fu, ap_sh, ap_fu, pu_sh, un_ok, pa_ok, bm_int, bm_str, pm_fr, pm_sh, pm_bs, pm_fu, pm_bf, cm_fr, cm_fu, cm_sh, cm_bs, callM_fl, callM_nb, rdV_fr, rdV_sh, rdV_fu, norm_fl, norm_lst, norm_nf, fl_non, fl_bl, fl_int, fl_str, fl_tup, fl_lst, fl_rls, fl_dic, flL_n, flL_c, flL_int, flL_str, wipe_n, wipe_c, List.set_cons_zero, List.set_cons_succ, List.set_nil, List.map_cons, List.map_nil, List.length_map, List.length_cons, List.length_nil, List.append_nil, List.nil_append, List.take_succ_cons, List.take_zero, List.drop_succ_cons, List.drop_zero, Nat.zero_add, Nat.reduceAdd, Nat.reduceSub, isNon, optI_n, optI_var, optI_lit, optI_bin, optI_neg, optI_idx, optI_bi, optI_call, optI_gl, optI_mt, bq_t, bq_f, bq_not, bq_yes, bq_no, bq_and, bq_or, Bool.not_true, Bool.not_false, Bool.false_and, Bool.true_and, Bool.and_false, Bool.and_true, Bool.or_false, Bool.false_or, Bool.or_true, Bool.true_or, if_true, if_false, Bool.false_eq_true, true_and, and_true, List.any_cons, List.any_nil, List.isEmpty_cons, List.isEmpty_nil, tB_int_non, tB_int_bl, tB_int_int, tB_int_str, tB_int_lst, tB_int_tup, tB_int_dic, tB_bool_non, tB_bool_bl, tB_bool_int, tB_bool_str, tB_bool_lst, tB_bool_tup, tB_bool_dic, tB_str_non, tB_str_bl, tB_str_int, tB_str_str, tB_str_lst, tB_str_tup, tB_str_dic, tB_list_non, tB_list_bl, tB_list_int, tB_list_str, tB_list_lst, tB_list_tup, tB_list_dic, tB_tuple_non, tB_tuple_bl, tB_tuple_int, tB_tuple_str, tB_tuple_lst, tB_tuple_tup, tB_tuple_dic, tB_dict_non, tB_dict_bl, tB_dict_int, tB_dict_str, tB_dict_lst, tB_dict_tup, tB_dict_dic])
    rfl
  · (simp (config := {decide := false}) (disch := first | assumption | omega | (simp only [mb_fu, mb_fr, mb_sh, mb_bs, mb_bf, fl_non, fl_bl, fl_int, fl_str, fl_tup, fl_lst, fl_rls, fl_dic, flL_n, flL_c, flL_int, flL_str, isBor_n, isBor_c, pl_non, pl_bl, pl_int, pl_lst, plL_a, pl_tup, plL_n, plL_c, plL_int, at_non, at_bl, at_int, at_str, co_non, co_bl, co_int, co_str, co_lst, co_tup, List.all_cons, List.all_nil, List.length_cons, List.length_nil, List.length_map, beq_self_eq_true, mkb_shfu, mkb_frfu, Bool.false_and, Bool.true_and, Bool.and_true, Bool.and_false, Bool.and_self, Bool.not_true, Bool.not_false, Bool.or_false, Bool.or_true, Bool.true_or, Bool.false_or, Bool.or_self, ne_eq, reduceCtorEq, not_false_eq_true, not_true_eq_false, List.map_cons, List.map_nil]; done) | (have hSZ : SZ = 16777216 := SZ_w; first | omega | (simp only [List.length_map, List.length_append, List.length_cons, List.length_nil, List.length_reverse, List.length_range, List.length_take, List.length_drop, List.length_replicate] <;> omega))) only [gl, c0, c17, c1, c2, c3, wD, c4, c5, c6, c7, c9, c22, c10, c11, ↓wp_ok, ↓wp_ex, ↓wp_bind, ↓w_var, ↓w_cst, ↓w_gl, ↓w_bin, ↓w_neg, ↓w_cmp, ↓w_chain, ↓w_isN, ↓w_notN, ↓w_and, ↓w_or, ↓w_and1, ↓w_and2, ↓w_or1, ↓w_or2, ↓w_not, ↓w_ite, ↓w_lst, ↓w_tup, ↓w_idx, ↓w_slc, ↓w_rev, ↓w_call, ↓w_bi, ↓w_mt1, ↓w_isi, ↓w_comp, ↓w_dcomp, ↓w_dic0, ↓w_dn, ↓w_dc, ↓t_val, ↓t_cmp, ↓t_chain, ↓t_isN, ↓t_notN, ↓t_not, ↓t_and, ↓t_or, ↓t_and1, ↓t_and2, ↓t_or1, ↓t_or2, ↓ts_n, ↓ts_1, ↓i_val, ↓i_rng1, ↓i_rng2, ↓i_enum, ↓i_zip, ↓i_revd, ↓s_nil, ↓s_cons, ↓s_set, ↓s_own, ↓s_par, ↓s_unp, ↓s_aug, ↓s_apd, ↓s_put, ↓s_exp, ↓s_ret, ↓s_retV, ↓s_retN, ↓s_ite, ↓s_for, ↓s_whl, ↓s_brk, ↓s_cnt, ↓s_pas, ↓s_frz, ↓s_nev, ↓s_mtc, ↓m_nil, ↓m_one, ↓m_two, ↓m_any, ↓ow_nx, ↓ow_bk, ↓ow_ct, ↓ow_rt, iw_non, iw_bl, iw_int, iw_str, iw_lst, iw_tup, iw_dic, iw_obj, iw_exc, iw_rls, getV_0, getV_s, getS_0, getS_s, boolW_bl, bindW_nm, bindW_tp, setAll_c, setAll_n, wp_ok, wp_ex, b_addI, b_subI, b_addS, b_addL, b_mulIl, b_mulIr, b_modI, b_divI, b_mulS, w_negI, a_I, a_S, x_lstI, x_rlsI, b_powT, x_lstI', x_str, x_str', x_strM, x_lstM, x_i2, x_i3, x_i4, x_i5, x_i6, x_i11, x_t0, x_t1, x_t2, x_t3, x_l0, cut_to, cut_from, cut_mid, cut_toN, cut_fromN, c_lt, c_le, c_gt, c_ge, c_eq, c_ne, e_same, e_I, e_S, e_B, c_iz, c_niz, c_inS, c_ninS, c_inP, c_ninP, c_inL, c_ninL, c_inT, c_ninT, k_non, k_bl, k_int, k_lst, k_tup, k_str, ty_w, isBor_n, isBor_c, v_lst, v_tup, v_slcL, v_slcS, v_revL, v_revS, bi_1, bi_2, l_lst, l_rls, l_tup, l_str, i_int, i_bl, li_lst, li_tup, li_str, so_int, so_str, al_bl, an_bl, su_int, al_map, an_map, su_map, ab_int, mi_2, ma_2, gc_2, r_joinS, r_indexS, r_indexL, mt_join, it_lst, it_own, it_tup, it_str, rn_ok, en_str, en_lst, zi_lst, re_lst, mb_fu, mb_fr, mb_sh, mb_bs, mb_bf, h_fu, h_fr, h_sh, h_fl, o_fu, o_sh, g_fu, g_fr, g_sh, g_fl, r_some, ol_sh, ol_fu, ap_sh, ap_fu, pu_sh, un_ok, pa_ok, bm_int, bm_str, pm_fr, pm_sh, pm_bs, pm_fu, pm_bf, cm_fr, cm_fu, cm_sh, cm_bs, callM_fl, callM_nb, rdV_fr, rdV_sh, rdV_fu, norm_fl, norm_lst, norm_nf, fl_non, fl_bl, fl_int, fl_str, fl_tup, fl_lst, fl_rls, fl_dic, flL_n, flL_c, flL_int, flL_str, wipe_n, wipe_c, List.set_cons_zero, List.set_cons_succ, List.set_nil, List.map_cons, List.map_nil, List.length_map, List.length_cons, List.length_nil, List.append_nil, List.nil_append, List.take_succ_cons, List.take_zero, List.drop_succ_cons, List.drop_zero, Nat.zero_add, Nat.reduceAdd, Nat.reduceSub, isNon, optI_n, optI_var, optI_lit, optI_bin, optI_neg, optI_idx, optI_bi, optI_call, optI_gl, optI_mt, bq_t, bq_f, bq_not, bq_yes, bq_no, bq_and, bq_or, Bool.not_true, Bool.not_false, Bool.false_and, Bool.true_and, Bool.and_false, Bool.and_true, Bool.or_false, Bool.false_or, Bool.or_true, Bool.true_or, if_true, if_false, Bool.false_eq_true, true_and, and_true, List.any_cons, List.any_nil, List.isEmpty_cons, List.isEmpty_nil, tB_int_non, tB_int_bl, tB_int_int, tB_int_str, tB_int_lst, tB_int_tup, tB_int_dic, tB_bool_non, tB_bool_bl, tB_bool_int, tB_bool_str, tB_bool_lst, tB_bool_tup, tB_bool_dic, tB_str_non, tB_str_bl, tB_str_int, tB_str_str, tB_str_lst, tB_str_tup, tB_str_dic, tB_list_non, tB_list_bl, tB_list_int, tB_list_str, tB_list_lst, tB_list_tup, tB_list_dic, tB_tuple_non, tB_tuple_bl, tB_tuple_int, tB_tuple_str, tB_tuple_lst, tB_tuple_tup, tB_tuple_dic, tB_dict_non, tB_dict_bl, tB_dict_int, tB_dict_str, tB_dict_lst, tB_dict_tup, tB_dict_dic])
theorem c13 (n : Nat) (S : List Nat) (m : Int) (ws : List Int) (kd : List Nat) (h : Wt m ws) (hS : 1 ≤ S.length ∧ S.length ≤ 36) (hk : kd ∈ kds) : callD Ps gl 64 (n + 6) 13 [.str S, wD m ws, .str kd] = .ok (.sh, .lst ((flF S.length m ws kd ws.length).map pr)) := by
  (refine w_fn rfl rfl rfl ?_; simp only [b13]; (simp only [startE, List.map_cons, List.map_nil, List.length_cons, List.length_nil, Nat.reduceAdd, Nat.reduceSub, List.replicate, List.cons_append, List.nil_append]); (simp (config := {decide := false}) (disch := first | assumption | omega | (simp only [mb_fu, mb_fr, mb_sh, mb_bs, mb_bf, fl_non, fl_bl, fl_int, fl_str, fl_tup, fl_lst, fl_rls, fl_dic, flL_n, flL_c, flL_int, flL_str, isBor_n, isBor_c, pl_non, pl_bl, pl_int, pl_lst, plL_a, pl_tup, plL_n, plL_c, plL_int, at_non, at_bl, at_int, at_str, co_non, co_bl, co_int, co_str, co_lst, co_tup, List.all_cons, List.all_nil, List.length_cons, List.length_nil, List.length_map, beq_self_eq_true, mkb_shfu, mkb_frfu, Bool.false_and, Bool.true_and, Bool.and_true, Bool.and_false, Bool.and_self, Bool.not_true, Bool.not_false, Bool.or_false, Bool.or_true, Bool.true_or, Bool.false_or, Bool.or_self, ne_eq, reduceCtorEq, not_false_eq_true, not_true_eq_false, List.map_cons, List.map_nil]; done) | (have hSZ : SZ = 16777216 := SZ_w; first | omega | (simp only [List.length_map, List.length_append, List.length_cons, List.length_nil, List.length_reverse, List.length_range, List.length_take, List.length_drop, List.length_replicate] <;> omega))) only [gl, c0, c17, c1, c2, c3, wD, c4, c5, c6, c7, c9, c22, c10, c11, c12, ↓wp_ok, ↓wp_ex, ↓wp_bind, ↓w_var, ↓w_cst, ↓w_gl, ↓w_bin, ↓w_neg, ↓w_cmp, ↓w_chain, ↓w_isN, ↓w_notN, ↓w_and, ↓w_or, ↓w_and1, ↓w_and2, ↓w_or1, ↓w_or2, ↓w_not, ↓w_ite, ↓w_lst, ↓w_tup, ↓w_idx, ↓w_slc, ↓w_rev, ↓w_call, ↓w_bi, ↓w_mt1, ↓w_isi, ↓w_comp, ↓w_dcomp, ↓w_dic0, ↓w_dn, ↓w_dc, ↓t_val, ↓t_cmp, ↓t_chain, ↓t_isN, ↓t_notN, ↓t_not, ↓t_and, ↓t_or, ↓t_and1, ↓t_and2, ↓t_or1, ↓t_or2, ↓ts_n, ↓ts_1, ↓i_val, ↓i_rng1, ↓i_rng2, ↓i_enum, ↓i_zip, ↓i_revd, ↓s_nil, ↓s_cons, ↓s_set, ↓s_own, ↓s_par, ↓s_unp, ↓s_aug, ↓s_apd, ↓s_put, ↓s_exp, ↓s_ret, ↓s_retV, ↓s_retN, ↓s_ite, ↓s_for, ↓s_whl, ↓s_brk, ↓s_cnt, ↓s_pas, ↓s_frz, ↓s_nev, ↓s_mtc, ↓m_nil, ↓m_one, ↓m_two, ↓m_any, ↓ow_nx, ↓ow_bk, ↓ow_ct, ↓ow_rt, iw_non, iw_bl, iw_int, iw_str, iw_lst, iw_tup, iw_dic, iw_obj, iw_exc, iw_rls, getV_0, getV_s, getS_0, getS_s, boolW_bl, bindW_nm, bindW_tp, setAll_c, setAll_n, wp_ok, wp_ex, b_addI, b_subI, b_addS, b_addL, b_mulIl, b_mulIr, b_modI, b_divI, b_mulS, w_negI, a_I, a_S, x_lstI, x_rlsI, b_powT, x_lstI', x_str, x_str', x_strM, x_lstM, x_i2, x_i3, x_i4, x_i5, x_i6, x_i11, x_t0, x_t1, x_t2, x_t3, x_l0, cut_to, cut_from, cut_mid, cut_toN, cut_fromN, c_lt, c_le, c_gt, c_ge, c_eq, c_ne, e_same, e_I, e_S, e_B, c_iz, c_niz, c_inS, c_ninS, c_inP, c_ninP, c_inL, c_ninL, c_inT, c_ninT, k_non, k_bl, k_int, k_lst, k_tup, k_str, ty_w, isBor_n, isBor_c, v_lst, v_tup, v_slcL, v_slcS, v_revL, v_revS, bi_1, bi_2, l_lst, l_rls, l_tup, l_str, i_int, i_bl, li_lst, li_tup, li_str, so_int, so_str, al_bl, an_bl, su_int, al_map, an_map, su_map, ab_int, mi_2, ma_2, gc_2, r_joinS, r_indexS, r_indexL, mt_join, it_lst, it_own, it_tup, it_str, rn_ok, en_str, en_lst, zi_lst, re_lst, mb_fu, mb_fr, mb_sh, mb_bs, mb_bf, h_fu, h_fr, h_sh, h_fl, o_fu, o_sh, g_fu, g_fr, g_sh, g_fl, r_some, ol_sh, ol_fu, ap_sh, ap_fu, pu_sh, un_ok, pa_ok, bm_int, bm_str, pm_fr, pm_sh, pm_bs, pm_fu, pm_bf, cm_fr, cm_fu, cm_sh, cm_bs, callM_fl, callM_nb, rdV_fr, rdV_sh, rdV_fu, norm_fl, norm_lst, norm_nf, fl_non, fl_bl, fl_int, fl_str, fl_tup, fl_lst, fl_rls, fl_dic, flL_n, flL_c, flL_int, flL_str, wipe_n, wipe_c, List.set_cons_zero, List.set_cons_succ, List.set_nil, List.map_cons, List.map_nil, List.length_map, List.length_cons, List.length_nil, List.append_nil, List.nil_append, List.take_succ_cons, List.take_zero, List.drop_succ_cons, List.drop_zero, Nat.zero_add, Nat.reduceAdd, Nat.reduceSub, isNon, optI_n, optI_var, optI_lit, optI_bin, optI_neg, optI_idx, optI_bi, optI_call, optI_gl, optI_mt, bq_t, bq_f, bq_not, bq_yes, bq_no, bq_and, bq_or, Bool.not_true, Bool.not_false, Bool.false_and, Bool.true_and, Bool.and_false, Bool.and_true, Bool.or_false, Bool.false_or, Bool.or_true, Bool.true_or, if_true, if_false, Bool.false_eq_true, true_and, and_true, List.any_cons, List.any_nil, List.isEmpty_cons, List.isEmpty_nil, tB_int_non, tB_int_bl, tB_int_int, tB_int_str, tB_int_lst, tB_int_tup, tB_int_dic, tB_bool_non, tB_bool_bl, tB_bool_int, tB_bool_str, tB_bool_lst, tB_bool_tup, tB_bool_dic, tB_str_non, tB_str_bl, tB_str_int, tB_str_str, tB_str_lst, tB_str_tup, tB_str_dic, tB_list_non, tB_list_bl, tB_list_int, tB_list_str, tB_list_lst, tB_list_tup, tB_list_dic, tB_tuple_non, tB_tuple_bl, tB_tuple_int, tB_tuple_str, tB_tuple_lst, tB_tuple_tup, tB_tuple_dic, tB_dict_non, tB_dict_bl, tB_dict_int, tB_dict_str, tB_dict_lst, tB_dict_tup, tB_dict_dic]))
  rw [c8 _ kd hk]
  (simp (config := {decide := false}) (disch := first | assumption | omega | (simp only [mb_fu, mb_fr, mb_sh, mb_bs, mb_bf, fl_non, fl_bl, fl_int, fl_str, fl_tup, fl_lst, fl_rls, fl_dic, flL_n, flL_c, flL_int, flL_str, isBor_n, isBor_c, pl_non, pl_bl, pl_int, pl_lst, plL_a, pl_tup, plL_n, plL_c, plL_int, at_non, at_bl, at_int, at_str, co_non, co_bl, co_int, co_str, co_lst, co_tup, List.all_cons, List.all_nil, List.length_cons, List.length_nil, List.length_map, beq_self_eq_true, mkb_shfu, mkb_frfu, Bool.false_and, Bool.true_and, Bool.and_true, Bool.and_false, Bool.and_self, Bool.not_true, Bool.not_false, Bool.or_false, Bool.or_true, Bool.true_or, Bool.false_or, Bool.or_self, ne_eq, reduceCtorEq, not_false_eq_true, not_true_eq_false, List.map_cons, List.map_nil]; done) | (have hSZ : SZ = 16777216 := SZ_w; first | omega | (simp only [List.length_map, List.length_append, List.length_cons, List.length_nil, List.length_reverse, List.length_range, List.length_take, List.length_drop, List.length_replicate] <;> omega))) only [gl, c0, c17, c1, c2, c3, wD, c4, c5, c6, c7, c9, c22, c10, c11, c12, ↓wp_ok, ↓wp_ex, ↓wp_bind, ↓w_var, ↓w_cst, ↓w_gl, ↓w_bin, ↓w_neg, ↓w_cmp, ↓w_chain, ↓w_isN, ↓w_notN, ↓w_and, ↓w_or, ↓w_and1, ↓w_and2, ↓w_or1, ↓w_or2, ↓w_not, ↓w_ite, ↓w_lst, ↓w_tup, ↓w_idx, ↓w_slc, ↓w_rev, ↓w_call, ↓w_bi, ↓w_mt1, ↓w_isi, ↓w_comp, ↓w_dcomp, ↓w_dic0, ↓w_dn, ↓w_dc, ↓t_val, ↓t_cmp, ↓t_chain, ↓t_isN, ↓t_notN, ↓t_not, ↓t_and, ↓t_or, ↓t_and1, ↓t_and2, ↓t_or1, ↓t_or2, ↓ts_n, ↓ts_1, ↓i_val, ↓i_rng1, ↓i_rng2, ↓i_enum, ↓i_zip, ↓i_revd, ↓s_nil, ↓s_cons, ↓s_set, ↓s_own, ↓s_par, ↓s_unp, ↓s_aug, ↓s_apd, ↓s_put, ↓s_exp, ↓s_ret, ↓s_retV, ↓s_retN, ↓s_ite, ↓s_for, ↓s_whl, ↓s_brk, ↓s_cnt, ↓s_pas, ↓s_frz, ↓s_nev, ↓s_mtc, ↓m_nil, ↓m_one, ↓m_two, ↓m_any, ↓ow_nx, ↓ow_bk, ↓ow_ct, ↓ow_rt, iw_non, iw_bl, iw_int, iw_str, iw_lst, iw_tup, iw_dic, iw_obj, iw_exc, iw_rls, getV_0, getV_s, getS_0, getS_s, boolW_bl, bindW_nm, bindW_tp, setAll_c, setAll_n, wp_ok, wp_ex, b_addI, b_subI, b_addS, b_addL, b_mulIl, b_mulIr, b_modI, b_divI, b_mulS, w_negI, a_I, a_S, x_lstI, x_rlsI, b_powT, x_lstI', x_str, x_str', x_strM, x_lstM, x_i2, x_i3, x_i4, x_i5, x_i6, x_i11, x_t0, x_t1, x_t2, x_t3, x_l0, cut_to, cut_from, cut_mid, cut_toN, cut_fromN, c_lt, c_le, c_gt, c_ge, c_eq, c_ne, e_same, e_I, e_S, e_B, c_iz, c_niz, c_inS, c_ninS, c_inP, c_ninP, c_inL, c_ninL, c_inT, c_ninT, k_non, k_bl, k_int, k_lst, k_tup, k_str, ty_w, isBor_n, isBor_c, v_lst, v_tup, v_slcL, v_slcS, v_revL, v_revS, bi_1, bi_2, l_lst, l_rls, l_tup, l_str, i_int, i_bl, li_lst, li_tup, li_str, so_int, so_str, al_bl, an_bl, su_int, al_map, an_map, su_map, ab_int, mi_2, ma_2, gc_2, r_joinS, r_indexS, r_indexL, mt_join, it_lst, it_own, it_tup, it_str, rn_ok, en_str, en_lst, zi_lst, re_lst, mb_fu, mb_fr, mb_sh, mb_bs, mb_bf, h_fu, h_fr, h_sh, h_fl, o_fu, o_sh, g_fu, g_fr, g_sh, g_fl, r_some, ol_sh, ol_fu, ap_sh, ap_fu, pu_sh, un_ok, pa_ok, bm_int, bm_str, pm_fr, pm_sh, pm_bs, pm_fu, pm_bf, cm_fr, cm_fu, cm_sh, cm_bs, callM_fl, callM_nb, rdV_fr, rdV_sh, rdV_fu, norm_fl, norm_lst, norm_nf, fl_non, fl_bl, fl_int, fl_str, fl_tup, fl_lst, fl_rls, fl_dic, flL_n, flL_c, flL_int, flL_str, wipe_n, wipe_c, List.set_cons_zero, List.set_cons_succ, List.set_nil, List.map_cons, List.map_nil, List.length_map, List.length_cons, List.length_nil, List.append_nil, List.nil_append, List.take_succ_cons, List.take_zero, List.drop_succ_cons, List.drop_zero, Nat.zero_add, Nat.reduceAdd, Nat.reduceSub, isNon, optI_n, optI_var, optI_lit, optI_bin, optI_neg, optI_idx, optI_bi, optI_call, optI_gl, optI_mt, bq_t, bq_f, bq_not, bq_yes, bq_no, bq_and, bq_or, Bool.not_true, Bool.not_false, Bool.false_and, Bool.true_and, Bool.and_false, Bool.and_true, Bool.or_false, Bool.false_or, Bool.or_true, Bool.true_or, if_true, if_false, Bool.false_eq_true, true_and, and_true, List.any_cons, List.any_nil, List.isEmpty_cons, List.isEmpty_nil, tB_int_non, tB_int_bl, tB_int_int, tB_int_str, tB_int_lst, tB_int_tup, tB_int_dic, tB_bool_non, tB_bool_bl, tB_bool_int, tB_bool_str, tB_bool_lst, tB_bool_tup, tB_bool_dic, tB_str_non, tB_str_bl, tB_str_int, tB_str_str, tB_str_lst, tB_str_tup, tB_str_dic, tB_list_non, tB_list_bl, tB_list_int, tB_list_str, tB_list_lst, tB_list_tup, tB_list_dic, tB_tuple_non, tB_tuple_bl, tB_tuple_int, tB_tuple_str, tB_tuple_lst, tB_tuple_tup, tB_tuple_dic, tB_dict_non, tB_dict_bl, tB_dict_int, tB_dict_str, tB_dict_lst, tB_dict_tup, tB_dict_dic])
theorem c14 (n : Nat) (S : List Nat) (m : Int) (ws : List Int) (hS : S.length ≤ 36) (h : ws.length ≤ 12) : callD Ps gl 64 (n + 3) 14 [.str S, wD m ws] = .ok (.fu, .bl (decide (2 ≤ S.length) && ws.any (gcd1 m))) := by
  (refine w_fn rfl rfl rfl ?_; simp only [b14]; (simp only [startE, List.map_cons, List.map_nil, List.length_cons, List.length_nil, Nat.reduceAdd, Nat.reduceSub, List.replicate, List.cons_append, List.nil_append]); (simp (config := {decide := false}) (disch := first | assumption | omega | (simp only [mb_fu, mb_fr, mb_sh, mb_bs, mb_bf, fl_non, fl_bl, fl_int, fl_str, fl_tup, fl_lst, fl_rls, fl_dic, flL_n, flL_c, flL_int, flL_str, isBor_n, isBor_c, pl_non, pl_bl, pl_int, pl_lst, plL_a, pl_tup, plL_n, plL_c, plL_int, at_non, at_bl, at_int, at_str, co_non, co_bl, co_int, co_str, co_lst, co_tup, List.all_cons, List.all_nil, List.length_cons, List.length_nil, List.length_map, beq_self_eq_true, mkb_shfu, mkb_frfu, Bool.false_and, Bool.true_and, Bool.and_true, Bool.and_false, Bool.and_self, Bool.not_true, Bool.not_false, Bool.or_false, Bool.or_true, Bool.true_or, Bool.false_or, Bool.or_self, ne_eq, reduceCtorEq, not_false_eq_true, not_true_eq_false, List.map_cons, List.map_nil]; done) | (have hSZ : SZ = 16777216 := SZ_w; first | omega | (simp only [List.length_map, List.length_append, List.length_cons, List.length_nil, List.length_reverse, List.length_range, List.length_take, List.length_drop, List.length_replicate] <;> omega))) only [gl, c0, c17, c1, c2, c3, wD, c4, c5, c6, c7, c9, c22, c10, c11, c12, c13, ↓wp_ok, ↓wp_ex, ↓wp_bind, ↓w_var, ↓w_cst, ↓w_gl, ↓w_bin, ↓w_neg, ↓w_cmp, ↓w_chain, ↓w_isN, ↓w_notN, ↓w_and, ↓w_or, ↓w_and1, ↓w_and2, ↓w_or1, ↓w_or2, ↓w_not, ↓w_ite, ↓w_lst, ↓w_tup, ↓w_idx, ↓w_slc, ↓w_rev, ↓w_call, ↓w_bi, ↓w_mt1, ↓w_isi, ↓w_comp, ↓w_dcomp, ↓w_dic0, ↓w_dn, ↓w_dc, ↓t_val, ↓t_cmp, ↓t_chain, ↓t_isN, ↓t_notN, ↓t_not, ↓t_and, ↓t_or, ↓t_and1, ↓t_and2, ↓t_or1, ↓t_or2, ↓ts_n, ↓ts_1, ↓i_val, ↓i_rng1, ↓i_rng2, ↓i_enum, ↓i_zip, ↓i_revd, ↓s_nil, ↓s_cons, ↓s_set, ↓s_own, ↓s_par, ↓s_unp, ↓s_aug, ↓s_apd, ↓s_put, ↓s_exp, ↓s_ret, ↓s_retV, ↓s_retN, ↓s_ite, ↓s_for, ↓s_whl, ↓s_brk, ↓s_cnt, ↓s_pas, ↓s_frz, ↓s_nev, ↓s_mtc, ↓m_nil, ↓m_one, ↓m_two, ↓m_any, ↓ow_nx, ↓ow_bk, ↓ow_ct, ↓ow_rt, iw_non, iw_bl, iw_int, iw_str, iw_lst, iw_tup, iw_dic, iw_obj, iw_exc, iw_rls, getV_0, getV_s, getS_0, getS_s, boolW_bl, bindW_nm, bindW_tp, setAll_c, setAll_n, wp_ok, wp_ex, b_addI, b_subI, b_addS, b_addL, b_mulIl, b_mulIr, b_modI, b_divI, b_mulS, w_negI, a_I, a_S, x_lstI, x_rlsI, b_powT, x_lstI', x_str, x_str', x_strM, x_lstM, x_i2, x_i3, x_i4, x_i5, x_i6, x_i11, x_t0, x_t1, x_t2, x_t3, x_l0, cut_to, cut_from, cut_mid, cut_toN, cut_fromN, c_lt, c_le, c_gt, c_ge, c_eq, c_ne, e_same, e_I, e_S, e_B, c_iz, c_niz, c_inS, c_ninS, c_inP, c_ninP, c_inL, c_ninL, c_inT, c_ninT, k_non, k_bl, k_int, k_lst, k_tup, k_str, ty_w, isBor_n, isBor_c, v_lst, v_tup, v_slcL, v_slcS, v_revL, v_revS, bi_1, bi_2, l_lst, l_rls, l_tup, l_str, i_int, i_bl, li_lst, li_tup, li_str, so_int, so_str, al_bl, an_bl, su_int, al_map, an_map, su_map, ab_int, mi_2, ma_2, gc_2, r_joinS, r_indexS, r_indexL, mt_join, it_lst, it_own, it_tup, it_str, rn_ok, en_str, en_lst, zi_lst, re_lst, mb_fu, mb_fr, mb_sh, mb_bs, mb_bf, h_fu, h_fr, h_sh, h_fl, o_fu, o_sh, g_fu, g_fr, g_sh, g_fl, r_some, ol_sh, ol_fu, ap_sh, ap_fu, pu_sh, un_ok, pa_ok, bm_int, bm_str, pm_fr, pm_sh, pm_bs, pm_fu, pm_bf, cm_fr, cm_fu, cm_sh, cm_bs, callM_fl, callM_nb, rdV_fr, rdV_sh, rdV_fu, norm_fl, norm_lst, norm_nf, fl_non, fl_bl, fl_int, fl_str, fl_tup, fl_lst, fl_rls, fl_dic, flL_n, flL_c, flL_int, flL_str, wipe_n, wipe_c, List.set_cons_zero, List.set_cons_succ, List.set_nil, List.map_cons, List.map_nil, List.length_map, List.length_cons, List.length_nil, List.append_nil, List.nil_append, List.take_succ_cons, List.take_zero, List.drop_succ_cons, List.drop_zero, Nat.zero_add, Nat.reduceAdd, Nat.reduceSub, isNon, optI_n, optI_var, optI_lit, optI_bin, optI_neg, optI_idx, optI_bi, optI_call, optI_gl, optI_mt, bq_t, bq_f, bq_not, bq_yes, bq_no, bq_and, bq_or, Bool.not_true, Bool.not_false, Bool.false_and, Bool.true_and, Bool.and_false, Bool.and_true, Bool.or_false, Bool.false_or, Bool.or_true, Bool.true_or, if_true, if_false, Bool.false_eq_true, true_and, and_true, List.any_cons, List.any_nil, List.isEmpty_cons, List.isEmpty_nil, tB_int_non, tB_int_bl, tB_int_int, tB_int_str, tB_int_lst, tB_int_tup, tB_int_dic, tB_bool_non, tB_bool_bl, tB_bool_int, tB_bool_str, tB_bool_lst, tB_bool_tup, tB_bool_dic, tB_str_non, tB_str_bl, tB_str_int, tB_str_str, tB_str_lst, tB_str_tup, tB_str_dic, tB_list_non, tB_list_bl, tB_list_int, tB_list_str, tB_list_lst, tB_list_tup, tB_list_dic, tB_tuple_non, tB_tuple_bl, tB_tuple_int, tB_tuple_str, tB_tuple_lst, tB_tuple_tup, tB_tuple_dic, tB_dict_non, tB_dict_bl, tB_dict_int, tB_dict_str, tB_dict_lst, tB_dict_tup, tB_dict_dic]))
  (repeat' (first | (simp (config := {decide := false}) (disch := first | assumption | omega | (simp only [mb_fu, mb_fr, mb_sh, mb_bs, mb_bf, fl_non, fl_bl, fl_int, fl_str, fl_tup, fl_lst, fl_rls, fl_dic, flL_n, flL_c, flL_int, flL_str, isBor_n, isBor_c, pl_non, pl_bl, pl_int, pl_lst, plL_a, pl_tup, plL_n, plL_c, plL_int, at_non, at_bl, at_int, at_str, co_non, co_bl, co_int, co_str, co_lst, co_tup, List.all_cons, List.all_nil, List.length_cons, List.length_nil, List.length_map, beq_self_eq_true, mkb_shfu, mkb_frfu, Bool.false_and, Bool.true_and, Bool.and_true, Bool.and_false, Bool.and_self, Bool.not_true, Bool.not_false, Bool.or_false, Bool.or_true, Bool.true_or, Bool.false_or, Bool.or_self, ne_eq, reduceCtorEq, not_false_eq_true, not_true_eq_false, List.map_cons, List.map_nil]; done) | (have hSZ : SZ = 16777216 := SZ_w; first | omega | (simp only [List.length_map, List.length_append, List.length_cons, List.length_nil, List.length_reverse, List.length_range, List.length_take, List.length_drop, List.length_replicate] <;> omega))) only [gl, c0, c17, c1, c2, c3, wD, c4, c5, c6, c7, c9, c22, c10, c11, c12, c13, ↓wp_ok, ↓wp_ex, ↓wp_bind, ↓w_var, ↓w_cst, ↓w_gl, ↓w_bin, ↓w_neg, ↓w_cmp, ↓w_chain, ↓w_isN, ↓w_notN, ↓w_and, ↓w_or, ↓w_and1, ↓w_and2, ↓w_or1, ↓w_or2, ↓w_not, ↓w_ite, ↓w_lst, ↓w_tup, ↓w_idx, ↓w_slc, ↓w_rev, ↓w_call, ↓w_bi, ↓w_mt1, ↓w_isi, ↓w_comp, ↓w_dcomp, ↓w_dic0, ↓w_dn, ↓w_dc, ↓t_val, ↓t_cmp, ↓t_chain, ↓t_isN, ↓t_notN, ↓t_not, ↓t_and, ↓t_or, ↓t_and1, ↓t_and2, ↓t_or1, ↓t_or2, ↓ts_n, ↓ts_1, ↓i_val, ↓i_rng1, ↓i_rng2, ↓i_enum, ↓i_zip, ↓i_revd, ↓s_nil, ↓s_cons, ↓s_set, ↓s_own, ↓s_par, ↓s_unp, ↓s_aug, ↓s_apd, ↓s_put, ↓s_exp, ↓s_ret, ↓s_retV, ↓s_retN, ↓s_ite, ↓s_for, ↓s_whl, ↓s_brk, ↓s_cnt, ↓s_pas, ↓s_frz, ↓s_nev, ↓s_mtc, ↓m_nil, ↓m_one, ↓m_two, ↓m_any, ↓ow_nx, ↓ow_bk, ↓ow_ct, ↓ow_rt, iw_non, iw_bl, iw_int, iw_str, iw_lst, iw_tup, iw_dic, iw_obj, iw_exc, iw_rls, getV_0, getV_s, getS_0, getS_s, boolW_bl, bindW_nm, bindW_tp, setAll_c, setAll_n, wp_ok, wp_ex, b_addI, b_subI, b_addS, b_addL, b_mulIl, b_mulIr, b_modI, b_divI, b_mulS, w_negI, a_I, a_S, x_lstI, x_rlsI, b_powT, x_lstI', x_str, x_str', x_strM, x_lstM, x_i2, x_i3, x_i4, x_i5, x_i6, x_i11, x_t0, x_t1, x_t2, x_t3, x_l0, cut_to, cut_from, cut_mid, cut_toN, cut_fromN, c_lt, c_le, c_gt, c_ge, c_eq, c_ne, e_same, e_I, e_S, e_B, c_iz, c_niz, c_inS, c_ninS, c_inP, c_ninP, c_inL, c_ninL, c_inT, c_ninT, k_non, k_bl, k_int, k_lst, k_tup, k_str, ty_w, isBor_n, isBor_c, v_lst, v_tup, v_slcL, v_slcS, v_revL, v_revS, bi_1, bi_2, l_lst, l_rls, l_tup, l_str, i_int, i_bl, li_lst, li_tup, li_str, so_int, so_str, al_bl, an_bl, su_int, al_map, an_map, su_map, ab_int, mi_2, ma_2, gc_2, r_joinS, r_indexS, r_indexL, mt_join, it_lst, it_own, it_tup, it_str, rn_ok, en_str, en_lst, zi_lst, re_lst, mb_fu, mb_fr, mb_sh, mb_bs, mb_bf, h_fu, h_fr, h_sh, h_fl, o_fu, o_sh, g_fu, g_fr, g_sh, g_fl, r_some, ol_sh, ol_fu, ap_sh, ap_fu, pu_sh, un_ok, pa_ok, bm_int, bm_str, pm_fr, pm_sh, pm_bs, pm_fu, pm_bf, cm_fr, cm_fu, cm_sh, cm_bs, callM_fl, callM_nb, rdV_fr, rdV_sh, rdV_fu, norm_fl, norm_lst, norm_nf, fl_non, fl_bl, fl_int, fl_str, fl_tup, fl_lst, fl_rls, fl_dic, flL_n, flL_c, flL_int, flL_str, wipe_n, wipe_c, List.set_cons_zero, List.set_cons_succ, List.set_nil, List.map_cons, List.map_nil, List.length_map, List.length_cons, List.length_nil, List.append_nil, List.nil_append, List.take_succ_cons, List.take_zero, List.drop_succ_cons, List.drop_zero, Nat.zero_add, Nat.reduceAdd, Nat.reduceSub, isNon, optI_n, optI_var, optI_lit, optI_bin, optI_neg, optI_idx, optI_bi, optI_call, optI_gl, optI_mt, bq_t, bq_f, bq_not, bq_yes, bq_no, bq_and, bq_or, Bool.not_true, Bool.not_false, Bool.false_and, Bool.true_and, Bool.and_false, Bool.and_true, Bool.or_false, Bool.false_or, Bool.or_true, Bool.true_or, if_true, if_false, Bool.false_eq_true, true_and, and_true, List.any_cons, List.any_nil, List.isEmpty_cons, List.isEmpty_nil, tB_int_non, tB_int_bl, tB_int_int, tB_int_str, tB_int_lst, tB_int_tup, tB_int_dic, tB_bool_non, tB_bool_bl, tB_bool_int, tB_bool_str, tB_bool_lst, tB_bool_tup, tB_bool_dic, tB_str_non, tB_str_bl, tB_str_int, tB_str_str, tB_str_lst, tB_str_tup, tB_str_dic, tB_list_non, tB_list_bl, tB_list_int, tB_list_str, tB_list_lst, tB_list_tup, tB_list_dic, tB_tuple_non, tB_tuple_bl, tB_tuple_int, tB_tuple_str, tB_tuple_lst, tB_tuple_tup, tB_tuple_dic, tB_dict_non, tB_dict_bl, tB_dict_int, tB_dict_str, tB_dict_lst, tB_dict_tup, tB_dict_dic]) | (rw [bq_dec]; refine ⟨fun _ => ?_, fun _ => ?_⟩)))
  all_goals
    have e : decide (2 ≤ S.length) = decide ((2 : Int) ≤ S.length) := by rw [decide_eq_decide]; omega
    simp [e, *]
/-- what a value shows -/
def shw (ns : Int) (m : Int) (ws : List Int) (kd : List Nat) : D → Bool
  | .tup [.int p, .int d] => flt ns m ws kd p d
  | _ => false
theorem c15 (n : Nat) (S : List Nat) (m : Int) (ws : List Int) (kd : List Nat) (v : D) (h : Wt m ws) (hS : S.length ≤ 36) (hv : v.plain 60 = true) : callD Ps gl 64 (n + 5) 15 [.str S, wD m ws, .str kd, v] = .ok (.fu, .bl (shw S.length m ws kd v)) := by
  cases v with
  | tup xs =>
    match xs with
    | [a, b] =>
      have ha : a.common = true := by cases a <;> first | rfl | simp [D.plain, D.plainL] at hv
      have hb : b.common = true := by cases b <;> first | rfl | simp [D.plain, D.plainL] at hv
      (refine w_fn rfl rfl rfl ?_; simp only [b15]; (simp only [startE, List.map_cons, List.map_nil, List.length_cons, List.length_nil, Nat.reduceAdd, Nat.reduceSub, List.replicate, List.cons_append, List.nil_append]); (simp (config := {decide := false}) (disch := first | assumption | omega | (simp only [mb_fu, mb_fr, mb_sh, mb_bs, mb_bf, fl_non, fl_bl, fl_int, fl_str, fl_tup, fl_lst, fl_rls, fl_dic, flL_n, flL_c, flL_int, flL_str, isBor_n, isBor_c, pl_non, pl_bl, pl_int, pl_lst, plL_a, pl_tup, plL_n, plL_c, plL_int, at_non, at_bl, at_int, at_str, co_non, co_bl, co_int, co_str, co_lst, co_tup, List.all_cons, List.all_nil, List.length_cons, List.length_nil, List.length_map, beq_self_eq_true, mkb_shfu, mkb_frfu, Bool.false_and, Bool.true_and, Bool.and_true, Bool.and_false, Bool.and_self, Bool.not_true, Bool.not_false, Bool.or_false, Bool.or_true, Bool.true_or, Bool.false_or, Bool.or_self, ne_eq, reduceCtorEq, not_false_eq_true, not_true_eq_false, List.map_cons, List.map_nil]; done) | (have hSZ : SZ = 16777216 := SZ_w; first | omega | (simp only [List.length_map, List.length_append, List.length_cons, List.length_nil, List.length_reverse, List.length_range, List.length_take, List.length_drop, List.length_replicate] <;> omega))) only [gl, c0, c17, c1, c2, c3, wD, c4, c5, c6, c7, c9, c22, c10, c11, c12, c13, c14, ↓wp_ok, ↓wp_ex, ↓wp_bind, ↓w_var, ↓w_cst, ↓w_gl, ↓w_bin, ↓w_neg, ↓w_cmp, ↓w_chain, ↓w_isN, ↓w_notN, ↓w_and, ↓w_or, ↓w_and1, ↓w_and2, ↓w_or1, ↓w_or2, ↓w_not, ↓w_ite, ↓w_lst, ↓w_tup, ↓w_idx, ↓w_slc, ↓w_rev, ↓w_call, ↓w_bi, ↓w_mt1, ↓w_isi, ↓w_comp, ↓w_dcomp, ↓w_dic0, ↓w_dn, ↓w_dc, ↓t_val, ↓t_cmp, ↓t_chain, ↓t_isN, ↓t_notN, ↓t_not, ↓t_and, ↓t_or, ↓t_and1, ↓t_and2, ↓t_or1, ↓t_or2, ↓ts_n, ↓ts_1, ↓i_val, ↓i_rng1, ↓i_rng2, ↓i_enum, ↓i_zip, ↓i_revd, ↓s_nil, ↓s_cons, ↓s_set, ↓s_own, ↓s_par, ↓s_unp, ↓s_aug, ↓s_apd, ↓s_put, ↓s_exp, ↓s_ret, ↓s_retV, ↓s_retN, ↓s_ite, ↓s_for, ↓s_whl, ↓s_brk, ↓s_cnt, ↓s_pas, ↓s_frz, ↓s_nev, ↓s_mtc, ↓m_nil, ↓m_one, ↓m_two, ↓m_any, ↓ow_nx, ↓ow_bk, ↓ow_ct, ↓ow_rt, iw_non, iw_bl, iw_int, iw_str, iw_lst, iw_tup, iw_dic, iw_obj, iw_exc, iw_rls, getV_0, getV_s, getS_0, getS_s, boolW_bl, bindW_nm, bindW_tp, setAll_c, setAll_n, wp_ok, wp_ex, b_addI, b_subI, b_addS, b_addL, b_mulIl, b_mulIr, b_modI, b_divI, b_mulS, w_negI, a_I, a_S, x_lstI, x_rlsI, b_powT, x_lstI', x_str, x_str', x_strM, x_lstM, x_i2, x_i3, x_i4, x_i5, x_i6, x_i11, x_t0, x_t1, x_t2, x_t3, x_l0, cut_to, cut_from, cut_mid, cut_toN, cut_fromN, c_lt, c_le, c_gt, c_ge, c_eq, c_ne, e_same, e_I, e_S, e_B, c_iz, c_niz, c_inS, c_ninS, c_inP, c_ninP, c_inL, c_ninL, c_inT, c_ninT, k_non, k_bl, k_int, k_lst, k_tup, k_str, ty_w, isBor_n, isBor_c, v_lst, v_tup, v_slcL, v_slcS, v_revL, v_revS, bi_1, bi_2, l_lst, l_rls, l_tup, l_str, i_int, i_bl, li_lst, li_tup, li_str, so_int, so_str, al_bl, an_bl, su_int, al_map, an_map, su_map, ab_int, mi_2, ma_2, gc_2, r_joinS, r_indexS, r_indexL, mt_join, it_lst, it_own, it_tup, it_str, rn_ok, en_str, en_lst, zi_lst, re_lst, mb_fu, mb_fr, mb_sh, mb_bs, mb_bf, h_fu, h_fr, h_sh, h_fl, o_fu, o_sh, g_fu, g_fr, g_sh, g_fl, r_some, ol_sh, ol_fu, ap_sh, ap_fu, pu_sh, un_ok, pa_ok, bm_int, bm_str, pm_fr, pm_sh, pm_bs, pm_fu, pm_bf, cm_fr, cm_fu, cm_sh, cm_bs, callM_fl, callM_nb, rdV_fr, rdV_sh, rdV_fu, norm_fl, norm_lst, norm_nf, fl_non, fl_bl, fl_int, fl_str, fl_tup, fl_lst, fl_rls, fl_dic, flL_n, flL_c, flL_int, flL_str, wipe_n, wipe_c, List.set_cons_zero, List.set_cons_succ, List.set_nil, List.map_cons, List.map_nil, List.length_map, List.length_cons, List.length_nil, List.append_nil, List.nil_append, List.take_succ_cons, List.take_zero, List.drop_succ_cons, List.drop_zero, Nat.zero_add, Nat.reduceAdd, Nat.reduceSub, isNon, optI_n, optI_var, optI_lit, optI_bin, optI_neg, optI_idx, optI_bi, optI_call, optI_gl, optI_mt, bq_t, bq_f, bq_not, bq_yes, bq_no, bq_and, bq_or, Bool.not_true, Bool.not_false, Bool.false_and, Bool.true_and, Bool.and_false, Bool.and_true, Bool.or_false, Bool.false_or, Bool.or_true, Bool.true_or, if_true, if_false, Bool.false_eq_true, true_and, and_true, List.any_cons, List.any_nil, List.isEmpty_cons, List.isEmpty_nil, tB_int_non, tB_int_bl, tB_int_int, tB_int_str, tB_int_lst, tB_int_tup, tB_int_dic, tB_bool_non, tB_bool_bl, tB_bool_int, tB_bool_str, tB_bool_lst, tB_bool_tup, tB_bool_dic, tB_str_non, tB_str_bl, tB_str_int, tB_str_str, tB_str_lst, tB_str_tup, tB_str_dic, tB_list_non, tB_list_bl, tB_list_int, tB_list_str, tB_list_lst, tB_list_tup, tB_list_dic, tB_tuple_non, tB_tuple_bl, tB_tuple_int, tB_tuple_str, tB_tuple_lst, tB_tuple_tup, tB_tuple_dic, tB_dict_non, tB_dict_bl, tB_dict_int, tB_dict_str, tB_dict_lst, tB_dict_tup, tB_dict_dic]))
      cases a <;> (try (simp (config := {decide := false}) (disch := first | assumption | omega | (simp only [mb_fu, mb_fr, mb_sh, mb_bs, mb_bf, fl_non, fl_bl, fl_int, fl_str, fl_tup, fl_lst, fl_rls, fl_dic, flL_n, flL_c, flL_int, flL_str, isBor_n, isBor_c, pl_non, pl_bl, pl_int, pl_lst, plL_a, pl_tup, plL_n, plL_c, plL_int, at_non, at_bl, at_int, at_str, co_non, co_bl, co_int, co_str, co_lst, co_tup, List.all_cons, List.all_nil, List.length_cons, List.length_nil, List.length_map, beq_self_eq_true, mkb_shfu, mkb_frfu, Bool.false_and, Bool.true_and, Bool.and_true, Bool.and_false, Bool.and_self, Bool.not_true, Bool.not_false, Bool.or_false, Bool.or_true, Bool.true_or, Bool.false_or, Bool.or_self, ne_eq, reduceCtorEq, not_false_eq_true, not_true_eq_false, List.map_cons, List.map_nil]; done) | (have hSZ : SZ = 16777216 := SZ_w; first | omega | (simp only [List.length_map, List.length_append, List.length_cons, List.length_nil, List.length_reverse, List.length_range, List.length_take, List.length_drop, List.length_replicate] <;> omega))) only [gl, c0, c17, c1, c2, c3, wD, c4, c5, c6, c7, c9, c22, c10, c11, c12, c13, c14, ↓wp_ok, ↓wp_ex, ↓wp_bind, ↓w_var, ↓w_cst, ↓w_gl, ↓w_bin, ↓w_neg, ↓w_cmp, ↓w_chain, ↓w_isN, ↓w_notN, ↓w_and, ↓w_or, ↓w_and1, ↓w_and2, ↓w_or1, ↓w_or2, ↓w_not, ↓w_ite, ↓w_lst, ↓w_tup, ↓w_idx, ↓w_slc, ↓w_rev, ↓w_call, ↓w_bi, ↓w_mt1, ↓w_isi, ↓w_comp, ↓w_dcomp, ↓w_dic0, ↓w_dn, ↓w_dc, ↓t_val, ↓t_cmp, ↓t_chain, ↓t_isN, ↓t_notN, ↓t_not, ↓t_and, ↓t_or, ↓t_and1, ↓t_and2, ↓t_or1, ↓t_or2, ↓ts_n, ↓ts_1, ↓i_val, ↓i_rng1, ↓i_rng2, ↓i_enum, ↓i_zip, ↓i_revd, ↓s_nil, ↓s_cons, ↓s_set, ↓s_own, ↓s_par, ↓s_unp, ↓s_aug, ↓s_apd, ↓s_put, ↓s_exp, ↓s_ret, ↓s_retV, ↓s_retN, ↓s_ite, ↓s_for, ↓s_whl, ↓s_brk, ↓s_cnt, ↓s_pas, ↓s_frz, ↓s_nev, ↓s_mtc, ↓m_nil, ↓m_one, ↓m_two, ↓m_any, ↓ow_nx, ↓ow_bk, ↓ow_ct, ↓ow_rt, iw_non, iw_bl, iw_int, iw_str, iw_lst, iw_tup, iw_dic, iw_obj, iw_exc, iw_rls, getV_0, getV_s, getS_0, getS_s, boolW_bl, bindW_nm, bindW_tp, setAll_c, setAll_n, wp_ok, wp_ex, b_addI, b_subI, b_addS, b_addL, b_mulIl, b_mulIr, b_modI, b_divI, b_mulS, w_negI, a_I, a_S, x_lstI, x_rlsI, b_powT, x_lstI', x_str, x_str', x_strM, x_lstM, x_i2, x_i3, x_i4, x_i5, x_i6, x_i11, x_t0, x_t1, x_t2, x_t3, x_l0, cut_to, cut_from, cut_mid, cut_toN, cut_fromN, c_lt, c_le, c_gt, c_ge, c_eq, c_ne, e_same, e_I, e_S, e_B, c_iz, c_niz, c_inS, c_ninS, c_inP, c_ninP, c_inL, c_ninL, c_inT, c_ninT, k_non, k_bl, k_int, k_lst, k_tup, k_str, ty_w, isBor_n, isBor_c, v_lst, v_tup, v_slcL, v_slcS, v_revL, v_revS, bi_1, bi_2, l_lst, l_rls, l_tup, l_str, i_int, i_bl, li_lst, li_tup, li_str, so_int, so_str, al_bl, an_bl, su_int, al_map, an_map, su_map, ab_int, mi_2, ma_2, gc_2, r_joinS, r_indexS, r_indexL, mt_join, it_lst, it_own, it_tup, it_str, rn_ok, en_str, en_lst, zi_lst, re_lst, mb_fu, mb_fr, mb_sh, mb_bs, mb_bf, h_fu, h_fr, h_sh, h_fl, o_fu, o_sh, g_fu, g_fr, g_sh, g_fl, r_some, ol_sh, ol_fu, ap_sh, ap_fu, pu_sh, un_ok, pa_ok, bm_int, bm_str, pm_fr, pm_sh, pm_bs, pm_fu, pm_bf, cm_fr, cm_fu, cm_sh, cm_bs, callM_fl, callM_nb, rdV_fr, rdV_sh, rdV_fu, norm_fl, norm_lst, norm_nf, fl_non, fl_bl, fl_int, fl_str, fl_tup, fl_lst, fl_rls, fl_dic, flL_n, flL_c, flL_int, flL_str, wipe_n, wipe_c, List.set_cons_zero, List.set_cons_succ, List.set_nil, List.map_cons, List.map_nil, List.length_map, List.length_cons, List.length_nil, List.append_nil, List.nil_append, List.take_succ_cons, List.take_zero, List.drop_succ_cons, List.drop_zero, Nat.zero_add, Nat.reduceAdd, Nat.reduceSub, isNon, optI_n, optI_var, optI_lit, optI_bin, optI_neg, optI_idx, optI_bi, optI_call, optI_gl, optI_mt, bq_t, bq_f, bq_not, bq_yes, bq_no, bq_and, bq_or, Bool.not_true, Bool.not_false, Bool.false_and, Bool.true_and, Bool.and_false, Bool.and_true, Bool.or_false, Bool.false_or, Bool.or_true, Bool.true_or, if_true, if_false, Bool.false_eq_true, true_and, and_true, List.any_cons, List.any_nil, List.isEmpty_cons, List.isEmpty_nil, tB_int_non, tB_int_bl, tB_int_int, tB_int_str, tB_int_lst, tB_int_tup, tB_int_dic, tB_bool_non, tB_bool_bl, tB_bool_int, tB_bool_str, tB_bool_lst, tB_bool_tup, tB_bool_dic, tB_str_non, tB_str_bl, tB_str_int, tB_str_str, tB_str_lst, tB_str_tup, tB_str_dic, tB_list_non, tB_list_bl, tB_list_int, tB_list_str, tB_list_lst, tB_list_tup, tB_list_dic, tB_tuple_non, tB_tuple_bl, tB_tuple_int, tB_tuple_str, tB_tuple_lst, tB_tuple_tup, tB_tuple_dic, tB_dict_non, tB_dict_bl, tB_dict_int, tB_dict_str, tB_dict_lst, tB_dict_tup, tB_dict_dic])) <;> (try rfl)
      cases b <;> (try (simp (config := {decide := false}) (disch := first | assumption | omega | (simp only [mb_fu, mb_fr, mb_sh, mb_bs, mb_bf, fl_non, fl_bl, fl_int, fl_str, fl_tup, fl_lst, fl_rls, fl_dic, flL_n, flL_c, flL_int, flL_str, isBor_n, isBor_c, pl_non, pl_bl, pl_int, pl_lst, plL_a, pl_tup, plL_n, plL_c, plL_int, at_non, at_bl, at_int, at_str, co_non, co_bl, co_int, co_str, co_lst, co_tup, List.all_cons, List.all_nil, List.length_cons, List.length_nil, List.length_map, beq_self_eq_true, mkb_shfu, mkb_frfu, Bool.false_and, Bool.true_and, Bool.and_true, Bool.and_false, Bool.and_self, Bool.not_true, Bool.not_false, Bool.or_false, Bool.or_true, Bool.true_or, Bool.false_or, Bool.or_self, ne_eq, reduceCtorEq, not_false_eq_true, not_true_eq_false, List.map_cons, List.map_nil]; done) | (have hSZ : SZ = 16777216 := SZ_w; first | omega | (simp only [List.length_map, List.length_append, List.length_cons, List.length_nil, List.length_reverse, List.length_range, List.length_take, List.length_drop, List.length_replicate] <;> omega))) only [gl, c0, c17, c1, c2, c3, wD, c4, c5, c6, c7, c9, c22, c10, c11, c12, c13, c14, ↓wp_ok, ↓wp_ex, ↓wp_bind, ↓w_var, ↓w_cst, ↓w_gl, ↓w_bin, ↓w_neg, ↓w_cmp, ↓w_chain, ↓w_isN, ↓w_notN, ↓w_and, ↓w_or, ↓w_and1, ↓w_and2, ↓w_or1, ↓w_or2, ↓w_not, ↓w_ite, ↓w_lst, ↓w_tup, ↓w_idx, ↓w_slc, ↓w_rev, ↓w_call, ↓w_bi, ↓w_mt1, ↓w_isi, ↓w_comp, ↓w_dcomp, ↓w_dic0, ↓w_dn, ↓w_dc, ↓t_val, ↓t_cmp, ↓t_chain, ↓t_isN, ↓t_notN, ↓t_not, ↓t_and, ↓t_or, ↓t_and1, ↓t_and2, ↓t_or1, ↓t_or2, ↓ts_n, ↓ts_1, ↓i_val, ↓i_rng1, ↓i_rng2, ↓i_enum, ↓i_zip, ↓i_revd, ↓s_nil, ↓s_cons, ↓s_set, ↓s_own, ↓s_par, ↓s_unp, ↓s_aug, ↓s_apd, ↓s_put, ↓s_exp, ↓s_ret, ↓s_retV, ↓s_retN, ↓s_ite, ↓s_for, ↓s_whl, ↓s_brk, ↓s_cnt, ↓s_pas, ↓s_frz, ↓s_nev, ↓s_mtc, ↓m_nil, ↓m_one, ↓m_two, ↓m_any, ↓ow_nx, ↓ow_bk, ↓ow_ct, ↓ow_rt, iw_non, iw_bl, iw_int, iw_str, iw_lst, iw_tup, iw_dic, iw_obj, iw_exc, iw_rls, getV_0, getV_s, getS_0, getS_s, boolW_bl, bindW_nm, bindW_tp, setAll_c, setAll_n, wp_ok, wp_ex, b_addI, b_subI, b_addS, b_addL, b_mulIl, b_mulIr, b_modI, b_divI, b_mulS, w_negI, a_I, a_S, x_lstI, x_rlsI, b_powT, x_lstI', x_str, x_str', x_strM, x_lstM, x_i2, x_i3, x_i4, x_i5, x_i6, x_i11, x_t0, x_t1, x_t2, x_t3, x_l0, cut_to, cut_from, cut_mid, cut_toN, cut_fromN, c_lt, c_le, c_gt, c_ge, c_eq, c_ne, e_same, e_I, e_S, e_B, c_iz, c_niz, c_inS, c_ninS, c_inP, c_ninP, c_inL, c_ninL, c_inT, c_ninT, k_non, k_bl, k_int, k_lst, k_tup, k_str, ty_w, isBor_n, isBor_c, v_lst, v_tup, v_slcL, v_slcS, v_revL, v_revS, bi_1, bi_2, l_lst, l_rls, l_tup, l_str, i_int, i_bl, li_lst, li_tup, li_str, so_int, so_str, al_bl, an_bl, su_int, al_map, an_map, su_map, ab_int, mi_2, ma_2, gc_2, r_joinS, r_indexS, r_indexL, mt_join, it_lst, it_own, it_tup, it_str, rn_ok, en_str, en_lst, zi_lst, re_lst, mb_fu, mb_fr, mb_sh, mb_bs, mb_bf, h_fu, h_fr, h_sh, h_fl, o_fu, o_sh, g_fu, g_fr, g_sh, g_fl, r_some, ol_sh, ol_fu, ap_sh, ap_fu, pu_sh, un_ok, pa_ok, bm_int, bm_str, pm_fr, pm_sh, pm_bs, pm_fu, pm_bf, cm_fr, cm_fu, cm_sh, cm_bs, callM_fl, callM_nb, rdV_fr, rdV_sh, rdV_fu, norm_fl, norm_lst, norm_nf, fl_non, fl_bl, fl_int, fl_str, fl_tup, fl_lst, fl_rls, fl_dic, flL_n, flL_c, flL_int, flL_str, wipe_n, wipe_c, List.set_cons_zero, List.set_cons_succ, List.set_nil, List.map_cons, List.map_nil, List.length_map, List.length_cons, List.length_nil, List.append_nil, List.nil_append, List.take_succ_cons, List.take_zero, List.drop_succ_cons, List.drop_zero, Nat.zero_add, Nat.reduceAdd, Nat.reduceSub, isNon, optI_n, optI_var, optI_lit, optI_bin, optI_neg, optI_idx, optI_bi, optI_call, optI_gl, optI_mt, bq_t, bq_f, bq_not, bq_yes, bq_no, bq_and, bq_or, Bool.not_true, Bool.not_false, Bool.false_and, Bool.true_and, Bool.and_false, Bool.and_true, Bool.or_false, Bool.false_or, Bool.or_true, Bool.true_or, if_true, if_false, Bool.false_eq_true, true_and, and_true, List.any_cons, List.any_nil, List.isEmpty_cons, List.isEmpty_nil, tB_int_non, tB_int_bl, tB_int_int, tB_int_str, tB_int_lst, tB_int_tup, tB_int_dic, tB_bool_non, tB_bool_bl, tB_bool_int, tB_bool_str, tB_bool_lst, tB_bool_tup, tB_bool_dic, tB_str_non, tB_str_bl, tB_str_int, tB_str_str, tB_str_lst, tB_str_tup, tB_str_dic, tB_list_non, tB_list_bl, tB_list_int, tB_list_str, tB_list_lst, tB_list_tup, tB_list_dic, tB_tuple_non, tB_tuple_bl, tB_tuple_int, tB_tuple_str, tB_tuple_lst, tB_tuple_tup, tB_tuple_dic, tB_dict_non, tB_dict_bl, tB_dict_int, tB_dict_str, tB_dict_lst, tB_dict_tup, tB_dict_dic])) <;> (try rfl)
    | [] => (refine w_fn rfl rfl rfl ?_; simp only [b15]; (simp only [startE, List.map_cons, List.map_nil, List.length_cons, List.length_nil, Nat.reduceAdd, Nat.reduceSub, List.replicate, List.cons_append, List.nil_append]); (simp (config := {decide := false}) (disch := first | assumption | omega | (simp only [mb_fu, mb_fr, mb_sh, mb_bs, mb_bf, fl_non, fl_bl, fl_int, fl_str, fl_tup, fl_lst, fl_rls, fl_dic, flL_n, flL_c, flL_int, flL_str, isBor_n, isBor_c, pl_non, pl_bl, pl_int, pl_lst, plL_a, pl_tup, plL_n, plL_c, plL_int, at_non, at_bl, at_int, at_str, co_non, co_bl, co_int, co_str, co_lst, co_tup, List.all_cons, List.all_nil, List.length_cons, List.length_nil, List.length_map, beq_self_eq_true, mkb_shfu, mkb_frfu, Bool.false_and, Bool.true_and, Bool.and_true, Bool.and_false, Bool.and_self, Bool.not_true, Bool.not_false, Bool.or_false, Bool.or_true, Bool.true_or, Bool.false_or, Bool.or_self, ne_eq, reduceCtorEq, not_false_eq_true, not_true_eq_false, List.map_cons, List.map_nil]; done) | (have hSZ : SZ = 16777216 := SZ_w; first | omega | (simp only [List.length_map, List.length_append, List.length_cons, List.length_nil, List.length_reverse, List.length_range, List.length_take, List.length_drop, List.length_replicate] <;> omega))) only [gl, c0, c17, c1, c2, c3, wD, c4, c5, c6, c7, c9, c22, c10, c11, c12, c13, c14, ↓wp_ok, ↓wp_ex, ↓wp_bind, ↓w_var, ↓w_cst, ↓w_gl, ↓w_bin, ↓w_neg, ↓w_cmp, ↓w_chain, ↓w_isN, ↓w_notN, ↓w_and, ↓w_or, ↓w_and1, ↓w_and2, ↓w_or1, ↓w_or2, ↓w_not, ↓w_ite, ↓w_lst, ↓w_tup, ↓w_idx, ↓w_slc, ↓w_rev, ↓w_call, ↓w_bi, ↓w_mt1, ↓w_isi, ↓w_comp, ↓w_dcomp, ↓w_dic0, ↓w_dn, ↓w_dc, ↓t_val, ↓t_cmp, ↓t_chain, ↓t_isN, ↓t_notN, ↓t_not, ↓t_and, ↓t_or, ↓t_and1, ↓t_and2, ↓t_or1, ↓t_or2, ↓ts_n, ↓ts_1, ↓i_val, ↓i_rng1, ↓i_rng2, ↓i_enum, ↓i_zip, ↓i_revd, ↓s_nil, ↓s_cons, ↓s_set, ↓s_own, ↓s_par, ↓s_unp, ↓s_aug, ↓s_apd, ↓s_put, ↓s_exp, ↓s_ret, ↓s_retV, ↓s_retN, ↓s_ite, ↓s_for, ↓s_whl, ↓s_brk, ↓s_cnt, ↓s_pas, ↓s_frz, ↓s_nev, ↓s_mtc, ↓m_nil, ↓m_one, ↓m_two, ↓m_any, ↓ow_nx, ↓ow_bk, ↓ow_ct, ↓ow_rt, iw_non, iw_bl, iw_int, iw_str, iw_lst, iw_tup, iw_dic, iw_obj, iw_exc, iw_rls, getV_0, getV_s, getS_0, getS_s, boolW_bl, bindW_nm, bindW_tp, setAll_c, setAll_n, wp_ok, wp_ex, b_addI, b_subI, b_addS, b_addL, b_mulIl, b_mulIr, b_modI, b_divI, b_mulS, w_negI, a_I, a_S, x_lstI, x_rlsI, b_powT, x_lstI', x_str, x_str', x_strM, x_lstM, x_i2, x_i3, x_i4, x_i5, x_i6, x_i11, x_t0, x_t1, x_t2, x_t3, x_l0, cut_to, cut_from, cut_mid, cut_toN, cut_fromN, c_lt, c_le, c_gt, c_ge, c_eq, c_ne, e_same, e_I, e_S, e_B, c_iz, c_niz, c_inS, c_ninS, c_inP, c_ninP, c_inL, c_ninL, c_inT, c_ninT, k_non, k_bl, k_int, k_lst, k_tup, k_str, ty_w, isBor_n, isBor_c, v_lst, v_tup, v_slcL, v_slcS, v_revL, v_revS, bi_1, bi_2, l_lst, l_rls, l_tup, l_str, i_int, i_bl, li_lst, li_tup, li_str, so_int, so_str, al_bl, an_bl, su_int, al_map, an_map, su_map, ab_int, mi_2, ma_2, gc_2, r_joinS, r_indexS, r_indexL, mt_join, it_lst, it_own, it_tup, it_str, rn_ok, en_str, en_lst, zi_lst, re_lst, mb_fu, mb_fr, mb_sh, mb_bs, mb_bf, h_fu, h_fr, h_sh, h_fl, o_fu, o_sh, g_fu, g_fr, g_sh, g_fl, r_some, ol_sh, ol_fu, ap_sh, ap_fu, pu_sh, un_ok, pa_ok, bm_int, bm_str, pm_fr, pm_sh, pm_bs, pm_fu, pm_bf, cm_fr, cm_fu, cm_sh, cm_bs, callM_fl, callM_nb, rdV_fr, rdV_sh, rdV_fu, norm_fl, norm_lst, norm_nf, fl_non, fl_bl, fl_int, fl_str, fl_tup, fl_lst, fl_rls, fl_dic, flL_n, flL_c, flL_int, flL_str, wipe_n, wipe_c, List.set_cons_zero, List.set_cons_succ, List.set_nil, List.map_cons, List.map_nil, List.length_map, List.length_cons, List.length_nil, List.append_nil, List.nil_append, List.take_succ_cons, List.take_zero, List.drop_succ_cons, List.drop_zero, Nat.zero_add, Nat.reduceAdd, Nat.reduceSub, isNon, optI_n, optI_var, optI_lit, optI_bin, optI_neg, optI_idx, optI_bi, optI_call, optI_gl, optI_mt, bq_t, bq_f, bq_not, bq_yes, bq_no, bq_and, bq_or, Bool.not_true, Bool.not_false, Bool.false_and, Bool.true_and, Bool.and_false, Bool.and_true, Bool.or_false, Bool.false_or, Bool.or_true, Bool.true_or, if_true, if_false, Bool.false_eq_true, true_and, and_true, List.any_cons, List.any_nil, List.isEmpty_cons, List.isEmpty_nil, tB_int_non, tB_int_bl, tB_int_int, tB_int_str, tB_int_lst, tB_int_tup, tB_int_dic, tB_bool_non, tB_bool_bl, tB_bool_int, tB_bool_str, tB_bool_lst, tB_bool_tup, tB_bool_dic, tB_str_non, tB_str_bl, tB_str_int, tB_str_str, tB_str_lst, tB_str_tup, tB_str_dic, tB_list_non, tB_list_bl, tB_list_int, tB_list_str, tB_list_lst, tB_list_tup, tB_list_dic, tB_tuple_non, tB_tuple_bl, tB_tuple_int, tB_tuple_str, tB_tuple_lst, tB_tuple_tup, tB_tuple_dic, tB_dict_non, tB_dict_bl, tB_dict_int, tB_dict_str, tB_dict_lst, tB_dict_tup, tB_dict_dic])); rfl
    | [a] => (refine w_fn rfl rfl rfl ?_; simp only [b15]; (simp only [startE, List.map_cons, List.map_nil, List.length_cons, List.length_nil, Nat.reduceAdd, Nat.reduceSub, List.replicate, List.cons_append, List.nil_append]); (simp (config := {decide := false}) (disch := first | assumption | omega | (simp only [mb_fu, mb_fr, mb_sh, mb_bs, mb_bf, fl_non, fl_bl, fl_int, fl_str, fl_tup, fl_lst, fl_rls, fl_dic, flL_n, flL_c, flL_int, flL_str, isBor_n, isBor_c, pl_non, pl_bl, pl_int, pl_lst, plL_a, pl_tup, plL_n, plL_c, plL_int, at_non, at_bl, at_int, at_str, co_non, co_bl, co_int, co_str, co_lst, co_tup, List.all_cons, List.all_nil, List.length_cons, List.length_nil, List.length_map, beq_self_eq_true, mkb_shfu, mkb_frfu, Bool.false_and, Bool.true_and, Bool.and_true, Bool.and_false, Bool.and_self, Bool.not_true, Bool.not_false, Bool.or_false, Bool.or_true, Bool.true_or, Bool.false_or, Bool.or_self, ne_eq, reduceCtorEq, not_false_eq_true, not_true_eq_false, List.map_cons, List.map_nil]; done) | (have hSZ : SZ = 16777216 := SZ_w; first | omega | (simp only [List.length_map, List.length_append, List.length_cons, List.length_nil, List.length_reverse, List.length_range, List.length_take, List.length_drop, List.length_replicate] <;> omega))) only [gl, c0, c17, c1, c2, c3, wD, c4, c5, c6, c7, c9, c22, c10, c11, c12, c13, c14, ↓wp_ok, ↓wp_ex, ↓wp_bind, ↓w_var, ↓w_cst, ↓w_gl, ↓w_bin, ↓w_neg, ↓w_cmp, ↓w_chain, ↓w_isN, ↓w_notN, ↓w_and, ↓w_or, ↓w_and1, ↓w_and2, ↓w_or1, ↓w_or2, ↓w_not, ↓w_ite, ↓w_lst, ↓w_tup, ↓w_idx, ↓w_slc, ↓w_rev, ↓w_call, ↓w_bi, ↓w_mt1, ↓w_isi, ↓w_comp, ↓w_dcomp, ↓w_dic0, ↓w_dn, ↓w_dc, ↓t_val, ↓t_cmp, ↓t_chain, ↓t_isN, ↓t_notN, ↓t_not, ↓t_and, ↓t_or, ↓t_and1, ↓t_and2, ↓t_or1, ↓t_or2, ↓ts_n, ↓ts_1, ↓i_val, ↓i_rng1, ↓i_rng2, ↓i_enum, ↓i_zip, ↓i_revd, ↓s_nil, ↓s_cons, ↓s_set, ↓s_own, ↓s_par, ↓s_unp, ↓s_aug, ↓s_apd, ↓s_put, ↓s_exp, ↓s_ret, ↓s_retV, ↓s_retN, ↓s_ite, ↓s_for, ↓s_whl, ↓s_brk, ↓s_cnt, ↓s_pas, ↓s_frz, ↓s_nev, ↓s_mtc, ↓m_nil, ↓m_one, ↓m_two, ↓m_any, ↓ow_nx, ↓ow_bk, ↓ow_ct, ↓ow_rt, iw_non, iw_bl, iw_int, iw_str, iw_lst, iw_tup, iw_dic, iw_obj, iw_exc, iw_rls, getV_0, getV_s, getS_0, getS_s, boolW_bl, bindW_nm, bindW_tp, setAll_c, setAll_n, wp_ok, wp_ex, b_addI, b_subI, b_addS, b_addL, b_mulIl, b_mulIr, b_modI, b_divI, b_mulS, w_negI, a_I, a_S, x_lstI, x_rlsI, b_powT, x_lstI', x_str, x_str', x_strM, x_lstM, x_i2, x_i3, x_i4, x_i5, x_i6, x_i11, x_t0, x_t1, x_t2, x_t3, x_l0, cut_to, cut_from, cut_mid, cut_toN, cut_fromN, c_lt, c_le, c_gt, c_ge, c_eq, c_ne, e_same, e_I, e_S, e_B, c_iz, c_niz, c_inS, c_ninS, c_inP, c_ninP, c_inL, c_ninL, c_inT, c_ninT, k_non, k_bl, k_int, k_lst, k_tup, k_str, ty_w, isBor_n, isBor_c, v_lst, v_tup, v_slcL, v_slcS, v_revL, v_revS, bi_1, bi_2, l_lst, l_rls, l_tup, l_str, i_int, i_bl, li_lst, li_tup, li_str, so_int, so_str, al_bl, an_bl, su_int, al_map, an_map, su_map, ab_int, mi_2, ma_2, gc_2, r_joinS, r_indexS, r_indexL, mt_join, it_lst, it_own, it_tup, it_str, rn_ok, en_str, en_lst, zi_lst, re_lst, mb_fu, mb_fr, mb_sh, mb_bs, mb_bf, h_fu, h_fr, h_sh, h_fl, o_fu, o_sh, g_fu, g_fr, g_sh, g_fl, r_some, ol_sh, ol_fu, ap_sh, ap_fu, pu_sh, un_ok, pa_ok, bm_int, bm_str, pm_fr, pm_sh, pm_bs, pm_fu, pm_bf, cm_fr, cm_fu, cm_sh, cm_bs, callM_fl, callM_nb, rdV_fr, rdV_sh, rdV_fu, norm_fl, norm_lst, norm_nf, fl_non, fl_bl, fl_int, fl_str, fl_tup, fl_lst, fl_rls, fl_dic, flL_n, flL_c, flL_int, flL_str, wipe_n, wipe_c, List.set_cons_zero, List.set_cons_succ, List.set_nil, List.map_cons, List.map_nil, List.length_map, List.length_cons, List.length_nil, List.append_nil, List.nil_append, List.take_succ_cons, List.take_zero, List.drop_succ_cons, List.drop_zero, Nat.zero_add, Nat.reduceAdd, Nat.reduceSub, isNon, optI_n, optI_var, optI_lit, optI_bin, optI_neg, optI_idx, optI_bi, optI_call, optI_gl, optI_mt, bq_t, bq_f, bq_not, bq_yes, bq_no, bq_and, bq_or, Bool.not_true, Bool.not_false, Bool.false_and, Bool.true_and, Bool.and_false, Bool.and_true, Bool.or_false, Bool.false_or, Bool.or_true, Bool.true_or, if_true, if_false, Bool.false_eq_true, true_and, and_true, List.any_cons, List.any_nil, List.isEmpty_cons, List.isEmpty_nil, tB_int_non, tB_int_bl, tB_int_int, tB_int_str, tB_int_lst, tB_int_tup, tB_int_dic, tB_bool_non, tB_bool_bl, tB_bool_int, tB_bool_str, tB_bool_lst, tB_bool_tup, tB_bool_dic, tB_str_non, tB_str_bl, tB_str_int, tB_str_str, tB_str_lst, tB_str_tup, tB_str_dic, tB_list_non, tB_list_bl, tB_list_int, tB_list_str, tB_list_lst, tB_list_tup, tB_list_dic, tB_tuple_non, tB_tuple_bl, tB_tuple_int, tB_tuple_str, tB_tuple_lst, tB_tuple_tup, tB_tuple_dic, tB_dict_non, tB_dict_bl, tB_dict_int, tB_dict_str, tB_dict_lst, tB_dict_tup, tB_dict_dic])); cases a <;> rfl
    | a :: b :: c :: r =>
      (refine w_fn rfl rfl rfl ?_; simp only [b15]; (simp only [startE, List.map_cons, List.map_nil, List.length_cons, List.length_nil, Nat.reduceAdd, Nat.reduceSub, List.replicate, List.cons_append, List.nil_append]); (simp (config := {decide := false}) (disch := first | assumption | omega | (simp only [mb_fu, mb_fr, mb_sh, mb_bs, mb_bf, fl_non, fl_bl, fl_int, fl_str, fl_tup, fl_lst, fl_rls, fl_dic, flL_n, flL_c, flL_int, flL_str, isBor_n, isBor_c, pl_non, pl_bl, pl_int, pl_lst, plL_a, pl_tup, plL_n, plL_c, plL_int, at_non, at_bl, at_int, at_str, co_non, co_bl, co_int, co_str, co_lst, co_tup, List.all_cons, List.all_nil, List.length_cons, List.length_nil, List.length_map, beq_self_eq_true, mkb_shfu, mkb_frfu, Bool.false_and, Bool.true_and, Bool.and_true, Bool.and_false, Bool.and_self, Bool.not_true, Bool.not_false, Bool.or_false, Bool.or_true, Bool.true_or, Bool.false_or, Bool.or_self, ne_eq, reduceCtorEq, not_false_eq_true, not_true_eq_false, List.map_cons, List.map_nil]; done) | (have hSZ : SZ = 16777216 := SZ_w; first | omega | (simp only [List.length_map, List.length_append, List.length_cons, List.length_nil, List.length_reverse, List.length_range, List.length_take, List.length_drop, List.length_replicate] <;> omega))) only [gl, c0, c17, c1, c2, c3, wD, c4, c5, c6, c7, c9, c22, c10, c11, c12, c13, c14, ↓wp_ok, ↓wp_ex, ↓wp_bind, ↓w_var, ↓w_cst, ↓w_gl, ↓w_bin, ↓w_neg, ↓w_cmp, ↓w_chain, ↓w_isN, ↓w_notN, ↓w_and, ↓w_or, ↓w_and1, ↓w_and2, ↓w_or1, ↓w_or2, ↓w_not, ↓w_ite, ↓w_lst, ↓w_tup, ↓w_idx, ↓w_slc, ↓w_rev, ↓w_call, ↓w_bi, ↓w_mt1, ↓w_isi, ↓w_comp, ↓w_dcomp, ↓w_dic0, ↓w_dn, ↓w_dc, ↓t_val, ↓t_cmp, ↓t_chain, ↓t_isN, ↓t_notN, ↓t_not, ↓t_and, ↓t_or, ↓t_and1, ↓t_and2, ↓t_or1, ↓t_or2, ↓ts_n, ↓ts_1, ↓i_val, ↓i_rng1, ↓i_rng2, ↓i_enum, ↓i_zip, ↓i_revd, ↓s_nil, ↓s_cons, ↓s_set, ↓s_own, ↓s_par, ↓s_unp, ↓s_aug, ↓s_apd, ↓s_put, ↓s_exp, ↓s_ret, ↓s_retV, ↓s_retN, ↓s_ite, ↓s_for, ↓s_whl, ↓s_brk, ↓s_cnt, ↓s_pas, ↓s_frz, ↓s_nev, ↓s_mtc, ↓m_nil, ↓m_one, ↓m_two, ↓m_any, ↓ow_nx, ↓ow_bk, ↓ow_ct, ↓ow_rt, iw_non, iw_bl, iw_int, iw_str, iw_lst, iw_tup, iw_dic, iw_obj, iw_exc, iw_rls, getV_0, getV_s, getS_0, getS_s, boolW_bl, bindW_nm, bindW_tp, setAll_c, setAll_n, wp_ok, wp_ex, b_addI, b_subI, b_addS, b_addL, b_mulIl, b_mulIr, b_modI, b_divI, b_mulS, w_negI, a_I, a_S, x_lstI, x_rlsI, b_powT, x_lstI', x_str, x_str', x_strM, x_lstM, x_i2, x_i3, x_i4, x_i5, x_i6, x_i11, x_t0, x_t1, x_t2, x_t3, x_l0, cut_to, cut_from, cut_mid, cut_toN, cut_fromN, c_lt, c_le, c_gt, c_ge, c_eq, c_ne, e_same, e_I, e_S, e_B, c_iz, c_niz, c_inS, c_ninS, c_inP, c_ninP, c_inL, c_ninL, c_inT, c_ninT, k_non, k_bl, k_int, k_lst, k_tup, k_str, ty_w, isBor_n, isBor_c, v_lst, v_tup, v_slcL, v_slcS, v_revL, v_revS, bi_1, bi_2, l_lst, l_rls, l_tup, l_str, i_int, i_bl, li_lst, li_tup, li_str, so_int, so_str, al_bl, an_bl, su_int, al_map, an_map, su_map, ab_int, mi_2, ma_2, gc_2, r_joinS, r_indexS, r_indexL, mt_join, it_lst, it_own, it_tup, it_str, rn_ok, en_str, en_lst, zi_lst, re_lst, mb_fu, mb_fr, mb_sh, mb_bs, mb_bf, h_fu, h_fr, h_sh, h_fl, o_fu, o_sh, g_fu, g_fr, g_sh, g_fl, r_some, ol_sh, ol_fu, ap_sh, ap_fu, pu_sh, un_ok, pa_ok, bm_int, bm_str, pm_fr, pm_sh, pm_bs, pm_fu, pm_bf, cm_fr, cm_fu, cm_sh, cm_bs, callM_fl, callM_nb, rdV_fr, rdV_sh, rdV_fu, norm_fl, norm_lst, norm_nf, fl_non, fl_bl, fl_int, fl_str, fl_tup, fl_lst, fl_rls, fl_dic, flL_n, flL_c, flL_int, flL_str, wipe_n, wipe_c, List.set_cons_zero, List.set_cons_succ, List.set_nil, List.map_cons, List.map_nil, List.length_map, List.length_cons, List.length_nil, List.append_nil, List.nil_append, List.take_succ_cons, List.take_zero, List.drop_succ_cons, List.drop_zero, Nat.zero_add, Nat.reduceAdd, Nat.reduceSub, isNon, optI_n, optI_var, optI_lit, optI_bin, optI_neg, optI_idx, optI_bi, optI_call, optI_gl, optI_mt, bq_t, bq_f, bq_not, bq_yes, bq_no, bq_and, bq_or, Bool.not_true, Bool.not_false, Bool.false_and, Bool.true_and, Bool.and_false, Bool.and_true, Bool.or_false, Bool.false_or, Bool.or_true, Bool.true_or, if_true, if_false, Bool.false_eq_true, true_and, and_true, List.any_cons, List.any_nil, List.isEmpty_cons, List.isEmpty_nil, tB_int_non, tB_int_bl, tB_int_int, tB_int_str, tB_int_lst, tB_int_tup, tB_int_dic, tB_bool_non, tB_bool_bl, tB_bool_int, tB_bool_str, tB_bool_lst, tB_bool_tup, tB_bool_dic, tB_str_non, tB_str_bl, tB_str_int, tB_str_str, tB_str_lst, tB_str_tup, tB_str_dic, tB_list_non, tB_list_bl, tB_list_int, tB_list_str, tB_list_lst, tB_list_tup, tB_list_dic, tB_tuple_non, tB_tuple_bl, tB_tuple_int, tB_tuple_str, tB_tuple_lst, tB_tuple_tup, tB_tuple_dic, tB_dict_non, tB_dict_bl, tB_dict_int, tB_dict_str, tB_dict_lst, tB_dict_tup, tB_dict_dic]))
      cases a <;> cases b <;> rfl
  | _ => first | ((refine w_fn rfl rfl rfl ?_; simp only [b15]; (simp only [startE, List.map_cons, List.map_nil, List.length_cons, List.length_nil, Nat.reduceAdd, Nat.reduceSub, List.replicate, List.cons_append, List.nil_append]); (simp (config := {decide := false}) (disch := first | assumption | omega | (simp only [mb_fu, mb_fr, mb_sh, mb_bs, mb_bf, fl_non, fl_bl, fl_int, fl_str, fl_tup, fl_lst, fl_rls, fl_dic, flL_n, flL_c, flL_int, flL_str, isBor_n, isBor_c, pl_non, pl_bl, pl_int, pl_lst, plL_a, pl_tup, plL_n, plL_c, plL_int, at_non, at_bl, at_int, at_str, co_non, co_bl, co_int, co_str, co_lst, co_tup, List.all_cons, List.all_nil, List.length_cons, List.length_nil, List.length_map, beq_self_eq_true, mkb_shfu, mkb_frfu, Bool.false_and, Bool.true_and, Bool.and_true, Bool.and_false, Bool.and_self, Bool.not_true, Bool.not_false, Bool.or_false, Bool.or_true, Bool.true_or, Bool.false_or, Bool.or_self, ne_eq, reduceCtorEq, not_false_eq_true, not_true_eq_false, List.map_cons, List.map_nil]; done) | (have hSZ : SZ = 16777216 := SZ_w; first | omega | (simp only [List.length_map, List.length_append, List.length_cons, List.length_nil, List.length_reverse, List.length_range, List.length_take, List.length_drop, List.length_replicate] <;> omega))) only [gl, c0, c17, c1, c2, c3, wD, c4, c5, c6, c7, c9, c22, c10, c11, c12, c13, c14, ↓wp_ok, ↓wp_ex, ↓wp_bind, ↓w_var, ↓w_cst, ↓w_gl, ↓w_bin, ↓w_neg, ↓w_cmp, ↓w_chain, ↓w_isN, ↓w_notN, ↓w_and, ↓w_or, ↓w_and1, ↓w_and2, ↓w_or1, ↓w_or2, ↓w_not, ↓w_ite, ↓w_lst, ↓w_tup, ↓w_idx, ↓w_slc, ↓w_rev, ↓w_call, ↓w_bi, ↓w_mt1, ↓w_isi, ↓w_comp, ↓w_dcomp, ↓w_dic0, ↓w_dn, ↓w_dc, ↓t_val, ↓t_cmp, ↓t_chain, ↓t_isN, ↓t_notN, ↓t_not, ↓t_and, ↓t_or, ↓t_and1, ↓t_and2, ↓t_or1, ↓t_or2, ↓ts_n, ↓ts_1, ↓i_val, ↓i_rng1, ↓i_rng2, ↓i_enum, ↓i_zip, ↓i_revd, ↓s_nil, ↓s_cons, ↓s_set, ↓s_own, ↓s_par, ↓s_unp, ↓s_aug, ↓s_apd, ↓s_put, ↓s_exp, ↓s_ret, ↓s_retV, ↓s_retN, ↓s_ite, ↓s_for, ↓s_whl, ↓s_brk, ↓s_cnt, ↓s_pas, ↓s_frz, ↓s_nev, ↓s_mtc, ↓m_nil, ↓m_one, ↓m_two, ↓m_any, ↓ow_nx, ↓ow_bk, ↓ow_ct, ↓ow_rt, iw_non, iw_bl, iw_int, iw_str, iw_lst, iw_tup, iw_dic, iw_obj, iw_exc, iw_rls, getV_0, getV_s, getS_0, getS_s, boolW_bl, bindW_nm, bindW_tp, setAll_c, setAll_n, wp_ok, wp_ex, b_addI, b_subI, b_addS, b_addL, b_mulIl, b_mulIr, b_modI, b_divI, b_mulS, w_negI, a_I, a_S, x_lstI, x_rlsI, b_powT, x_lstI', x_str, x_str', x_strM, x_lstM, x_i2, x_i3, x_i4, x_i5, x_i6, x_i11, x_t0, x_t1, x_t2, x_t3, x_l0, cut_to, cut_from, cut_mid, cut_toN, cut_fromN, c_lt, c_le, c_gt, c_ge, c_eq, c_ne, e_same, e_I, e_S, e_B, c_iz, c_niz, c_inS, c_ninS, c_inP, c_ninP, c_inL, c_ninL, c_inT, c_ninT, k_non, k_bl, k_int, k_lst, k_tup, k_str, ty_w, isBor_n, isBor_c, v_lst, v_tup, v_slcL, v_slcS, v_revL, v_revS, bi_1, bi_2, l_lst, l_rls, l_tup, l_str, i_int, i_bl, li_lst, li_tup, li_str, so_int, so_str, al_bl, an_bl, su_int, al_map, an_map, su_map, ab_int, mi_2, ma_2, gc_2, r_joinS, r_indexS, r_indexL, mt_join, it_lst, it_own, it_tup, it_str, rn_ok, en_str, en_lst, zi_lst, re_lst, mb_fu, mb_fr, mb_sh, mb_bs, mb_bf, h_fu, h_fr, h_sh, h_fl, o_fu, o_sh, g_fu, g_fr, g_sh, g_fl, r_some, ol_sh, ol_fu, ap_sh, ap_fu, pu_sh, un_ok, pa_ok, bm_int, bm_str, pm_fr, pm_sh, pm_bs, pm_fu, pm_bf, cm_fr, cm_fu, cm_sh, cm_bs, callM_fl, callM_nb, rdV_fr, rdV_sh, rdV_fu, norm_fl, norm_lst, norm_nf, fl_non, fl_bl, fl_int, fl_str, fl_tup, fl_lst, fl_rls, fl_dic, flL_n, flL_c, flL_int, flL_str, wipe_n, wipe_c, List.set_cons_zero, List.set_cons_succ, List.set_nil, List.map_cons, List.map_nil, List.length_map, List.length_cons, List.length_nil, List.append_nil, List.nil_append, List.take_succ_cons, List.take_zero, List.drop_succ_cons, List.drop_zero, Nat.zero_add, Nat.reduceAdd, Nat.reduceSub, isNon, optI_n, optI_var, optI_lit, optI_bin, optI_neg, optI_idx, optI_bi, optI_call, optI_gl, optI_mt, bq_t, bq_f, bq_not, bq_yes, bq_no, bq_and, bq_or, Bool.not_true, Bool.not_false, Bool.false_and, Bool.true_and, Bool.and_false, Bool.and_true, Bool.or_false, Bool.false_or, Bool.or_true, Bool.true_or, if_true, if_false, Bool.false_eq_true, true_and, and_true, List.any_cons, List.any_nil, List.isEmpty_cons, List.isEmpty_nil, tB_int_non, tB_int_bl, tB_int_int, tB_int_str, tB_int_lst, tB_int_tup, tB_int_dic, tB_bool_non, tB_bool_bl, tB_bool_int, tB_bool_str, tB_bool_lst, tB_bool_tup, tB_bool_dic, tB_str_non, tB_str_bl, tB_str_int, tB_str_str, tB_str_lst, tB_str_tup, tB_str_dic, tB_list_non, tB_list_bl, tB_list_int, tB_list_str, tB_list_lst, tB_list_tup, tB_list_dic, tB_tuple_non, tB_tuple_bl, tB_tuple_int, tB_tuple_str, tB_tuple_lst, tB_tuple_tup, tB_tuple_dic, tB_dict_non, tB_dict_bl, tB_dict_int, tB_dict_str, tB_dict_lst, tB_dict_tup, tB_dict_dic])); rfl) | (simp [D.plain] at hv)
theorem c24 (n : Nat) (a b : Int) (ha : 0 ≤ a) (hb : 0 ≤ b ∧ b ≤ 60) : callD Ps gl 64 (n + 1) 24 [.int a, .int b] = .ok (.fu, .int (Int.gcd a b)) := by
  (refine w_fn rfl rfl rfl ?_; simp only [b24]; (simp only [startE, List.map_cons, List.map_nil, List.length_cons, List.length_nil, Nat.reduceAdd, Nat.reduceSub, List.replicate, List.cons_append, List.nil_append]); (simp (config := {decide := false}) (disch := first | assumption | omega | (simp only [mb_fu, mb_fr, mb_sh, mb_bs, mb_bf, fl_non, fl_bl, fl_int, fl_str, fl_tup, fl_lst, fl_rls, fl_dic, flL_n, flL_c, flL_int, flL_str, isBor_n, isBor_c, pl_non, pl_bl, pl_int, pl_lst, plL_a, pl_tup, plL_n, plL_c, plL_int, at_non, at_bl, at_int, at_str, co_non, co_bl, co_int, co_str, co_lst, co_tup, List.all_cons, List.all_nil, List.length_cons, List.length_nil, List.length_map, beq_self_eq_true, mkb_shfu, mkb_frfu, Bool.false_and, Bool.true_and, Bool.and_true, Bool.and_false, Bool.and_self, Bool.not_true, Bool.not_false, Bool.or_false, Bool.or_true, Bool.true_or, Bool.false_or, Bool.or_self, ne_eq, reduceCtorEq, not_false_eq_true, not_true_eq_false, List.map_cons, List.map_nil]; done) | (have hSZ : SZ = 16777216 := SZ_w; first | omega | (simp only [List.length_map, List.length_append, List.length_cons, List.length_nil, List.length_reverse, List.length_range, List.length_take, List.length_drop, List.length_replicate] <;> omega))) only [gl, c0, c17, c1, c2, c3, wD, c4, c5, c6, c7, c9, c22, c10, c11, c12, c13, c14, c15, ↓wp_ok, ↓wp_ex, ↓wp_bind, ↓w_var, ↓w_cst, ↓w_gl, ↓w_bin, ↓w_neg, ↓w_cmp, ↓w_chain, ↓w_isN, ↓w_notN, ↓w_and, ↓w_or, ↓w_and1, ↓w_and2, ↓w_or1, ↓w_or2, ↓w_not, ↓w_ite, ↓w_lst, ↓w_tup, ↓w_idx, ↓w_slc, ↓w_rev, ↓w_call, ↓w_bi, ↓w_mt1, ↓w_isi, ↓w_comp, ↓w_dcomp, ↓w_dic0, ↓w_dn, ↓w_dc, ↓t_val, ↓t_cmp, ↓t_chain, ↓t_isN, ↓t_notN, ↓t_not, ↓t_and, ↓t_or, ↓t_and1, ↓t_and2, ↓t_or1, ↓t_or2, ↓ts_n, ↓ts_1, ↓i_val, ↓i_rng1, ↓i_rng2, ↓i_enum, ↓i_zip, ↓i_revd, ↓s_nil, ↓s_cons, ↓s_set, ↓s_own, ↓s_par, ↓s_unp, ↓s_aug, ↓s_apd, ↓s_put, ↓s_exp, ↓s_ret, ↓s_retV, ↓s_retN, ↓s_ite, ↓s_for, ↓s_whl, ↓s_brk, ↓s_cnt, ↓s_pas, ↓s_frz, ↓s_nev, ↓s_mtc, ↓m_nil, ↓m_one, ↓m_two, ↓m_any, ↓ow_nx, ↓ow_bk, ↓ow_ct, ↓ow_rt, iw_non, iw_bl, iw_int, iw_str, iw_lst, iw_tup, iw_dic, iw_obj, iw_exc, iw_rls, getV_0, getV_s, getS_0, getS_s, boolW_bl, bindW_nm, bindW_tp, setAll_c, setAll_n, wp_ok, wp_ex, b_addI, b_subI, b_addS, b_addL, b_mulIl, b_mulIr, b_modI, b_divI, b_mulS, w_negI, a_I, a_S, x_lstI, x_rlsI, b_powT, x_lstI', x_str, x_str', x_strM, x_lstM, x_i2, x_i3, x_i4, x_i5, x_i6, x_i11, x_t0, x_t1, x_t2, x_t3, x_l0, cut_to, cut_from, cut_mid, cut_toN, cut_fromN, c_lt, c_le, c_gt, c_ge, c_eq, c_ne, e_same, e_I, e_S, e_B, c_iz, c_niz, c_inS, c_ninS, c_inP, c_ninP, c_inL, c_ninL, c_inT, c_ninT, k_non, k_bl, k_int, k_lst, k_tup, k_str, ty_w, isBor_n, isBor_c, v_lst, v_tup, v_slcL, v_slcS, v_revL, v_revS, bi_1, bi_2, l_lst, l_rls, l_tup, l_str, i_int, i_bl, li_lst, li_tup, li_str, so_int, so_str, al_bl, an_bl, su_int, al_map, an_map, su_map, ab_int, mi_2, ma_2, gc_2, r_joinS, r_indexS, r_indexL, mt_join, it_lst, it_own, it_tup, it_str, rn_ok, en_str, en_lst, zi_lst, re_lst, mb_fu, mb_fr, mb_sh, mb_bs, mb_bf, h_fu, h_fr, h_sh, h_fl, o_fu, o_sh, g_fu, g_fr, g_sh, g_fl, r_some, ol_sh, ol_fu, ap_sh, ap_fu, pu_sh, un_ok, pa_ok, bm_int, bm_str, pm_fr, pm_sh, pm_bs, pm_fu, pm_bf, cm_fr, cm_fu, cm_sh, cm_bs, callM_fl, callM_nb, rdV_fr, rdV_sh, rdV_fu, norm_fl, norm_lst, norm_nf, fl_non, fl_bl, fl_int, fl_str, fl_tup, fl_lst, fl_rls, fl_dic, flL_n, flL_c, flL_int, flL_str, wipe_n, wipe_c, List.set_cons_zero, List.set_cons_succ, List.set_nil, List.map_cons, List.map_nil, List.length_map, List.length_cons, List.length_nil, List.append_nil, List.nil_append, List.take_succ_cons, List.take_zero, List.drop_succ_cons, List.drop_zero, Nat.zero_add, Nat.reduceAdd, Nat.reduceSub, isNon, optI_n, optI_var, optI_lit, optI_bin, optI_neg, optI_idx, optI_bi, optI_call, optI_gl, optI_mt, bq_t, bq_f, bq_not, bq_yes, bq_no, bq_and, bq_or, Bool.not_true, Bool.not_false, Bool.false_and, Bool.true_and, Bool.and_false, Bool.and_true, Bool.or_false, Bool.false_or, Bool.or_true, Bool.true_or, if_true, if_false, Bool.false_eq_true, true_and, and_true, List.any_cons, List.any_nil, List.isEmpty_cons, List.isEmpty_nil, tB_int_non, tB_int_bl, tB_int_int, tB_int_str, tB_int_lst, tB_int_tup, tB_int_dic, tB_bool_non, tB_bool_bl, tB_bool_int, tB_bool_str, tB_bool_lst, tB_bool_tup, tB_bool_dic, tB_str_non, tB_str_bl, tB_str_int, tB_str_str, tB_str_lst, tB_str_tup, tB_str_dic, tB_list_non, tB_list_bl, tB_list_int, tB_list_str, tB_list_lst, tB_list_tup, tB_list_dic, tB_tuple_non, tB_tuple_bl, tB_tuple_int, tB_tuple_str, tB_tuple_lst, tB_tuple_tup, tB_tuple_dic, tB_dict_non, tB_dict_bl, tB_dict_int, tB_dict_str, tB_dict_lst, tB_dict_tup, tB_dict_dic]))
  refine whl_inv (fun n E => ∃ x y, E = [some (.fr, .int x), some (.fr, .int y)] ∧ 0 ≤ x ∧ 0 ≤ y ∧ n = y.toNat ∧ Int.gcd x y = Int.gcd a b) (n := b.toNat) (by omega) ⟨a, b, rfl, ha, hb.1, rfl, rfl⟩ ?_
  rintro n E ⟨x, y, rfl, hx, hy, rfl, hg⟩
  (simp (config := {decide := false}) (disch := first | assumption | omega | (simp only [mb_fu, mb_fr, mb_sh, mb_bs, mb_bf, fl_non, fl_bl, fl_int, fl_str, fl_tup, fl_lst, fl_rls, fl_dic, flL_n, flL_c, flL_int, flL_str, isBor_n, isBor_c, pl_non, pl_bl, pl_int, pl_lst, plL_a, pl_tup, plL_n, plL_c, plL_int, at_non, at_bl, at_int, at_str, co_non, co_bl, co_int, co_str, co_lst, co_tup, List.all_cons, List.all_nil, List.length_cons, List.length_nil, List.length_map, beq_self_eq_true, mkb_shfu, mkb_frfu, Bool.false_and, Bool.true_and, Bool.and_true, Bool.and_false, Bool.and_self, Bool.not_true, Bool.not_false, Bool.or_false, Bool.or_true, Bool.true_or, Bool.false_or, Bool.or_self, ne_eq, reduceCtorEq, not_false_eq_true, not_true_eq_false, List.map_cons, List.map_nil]; done) | (have hSZ : SZ = 16777216 := SZ_w; first | omega | (simp only [List.length_map, List.length_append, List.length_cons, List.length_nil, List.length_reverse, List.length_range, List.length_take, List.length_drop, List.length_replicate] <;> omega))) only [gl, c0, c17, c1, c2, c3, wD, c4, c5, c6, c7, c9, c22, c10, c11, c12, c13, c14, c15, ↓wp_ok, ↓wp_ex, ↓wp_bind, ↓w_var, ↓w_cst, ↓w_gl, ↓w_bin, ↓w_neg, ↓w_cmp, ↓w_chain, ↓w_isN, ↓w_notN, ↓w_and, ↓w_or, ↓w_and1, ↓w_and2, ↓w_or1, ↓w_or2, ↓w_not, ↓w_ite, ↓w_lst, ↓w_tup, ↓w_idx, ↓w_slc, ↓w_rev, ↓w_call, ↓w_bi, ↓w_mt1, ↓w_isi, ↓w_comp, ↓w_dcomp, ↓w_dic0, ↓w_dn, ↓w_dc, ↓t_val, ↓t_cmp, ↓t_chain, ↓t_isN, ↓t_notN, ↓t_not, ↓t_and, ↓t_or, ↓t_and1, ↓t_and2, ↓t_or1, ↓t_or2, ↓ts_n, ↓ts_1, ↓i_val, ↓i_rng1, ↓i_rng2, ↓i_enum, ↓i_zip, ↓i_revd, ↓s_nil, ↓s_cons, ↓s_set, ↓s_own, ↓s_par, ↓s_unp, ↓s_aug, ↓s_apd, ↓s_put, ↓s_exp, ↓s_ret, ↓s_retV, ↓s_retN, ↓s_ite, ↓s_for, ↓s_whl, ↓s_brk, ↓s_cnt, ↓s_pas, ↓s_frz, ↓s_nev, ↓s_mtc, ↓m_nil, ↓m_one, ↓m_two, ↓m_any, ↓ow_nx, ↓ow_bk, ↓ow_ct, ↓ow_rt, iw_non, iw_bl, iw_int, iw_str, iw_lst, iw_tup, iw_dic, iw_obj, iw_exc, iw_rls, getV_0, getV_s, getS_0, getS_s, boolW_bl, bindW_nm, bindW_tp, setAll_c, setAll_n, wp_ok, wp_ex, b_addI, b_subI, b_addS, b_addL, b_mulIl, b_mulIr, b_modI, b_divI, b_mulS, w_negI, a_I, a_S, x_lstI, x_rlsI, b_powT, x_lstI', x_str, x_str', x_strM, x_lstM, x_i2, x_i3, x_i4, x_i5, x_i6, x_i11, x_t0, x_t1, x_t2, x_t3, x_l0, cut_to, cut_from, cut_mid, cut_toN, cut_fromN, c_lt, c_le, c_gt, c_ge, c_eq, c_ne, e_same, e_I, e_S, e_B, c_iz, c_niz, c_inS, c_ninS, c_inP, c_ninP, c_inL, c_ninL, c_inT, c_ninT, k_non, k_bl, k_int, k_lst, k_tup, k_str, ty_w, isBor_n, isBor_c, v_lst, v_tup, v_slcL, v_slcS, v_revL, v_revS, bi_1, bi_2, l_lst, l_rls, l_tup, l_str, i_int, i_bl, li_lst, li_tup, li_str, so_int, so_str, al_bl, an_bl, su_int, al_map, an_map, su_map, ab_int, mi_2, ma_2, gc_2, r_joinS, r_indexS, r_indexL, mt_join, it_lst, it_own, it_tup, it_str, rn_ok, en_str, en_lst, zi_lst, re_lst, mb_fu, mb_fr, mb_sh, mb_bs, mb_bf, h_fu, h_fr, h_sh, h_fl, o_fu, o_sh, g_fu, g_fr, g_sh, g_fl, r_some, ol_sh, ol_fu, ap_sh, ap_fu, pu_sh, un_ok, pa_ok, bm_int, bm_str, pm_fr, pm_sh, pm_bs, pm_fu, pm_bf, cm_fr, cm_fu, cm_sh, cm_bs, callM_fl, callM_nb, rdV_fr, rdV_sh, rdV_fu, norm_fl, norm_lst, norm_nf, fl_non, fl_bl, fl_int, fl_str, fl_tup, fl_lst, fl_rls, fl_dic, flL_n, flL_c, flL_int, flL_str, wipe_n, wipe_c, List.set_cons_zero, List.set_cons_succ, List.set_nil, List.map_cons, List.map_nil, List.length_map, List.length_cons, List.length_nil, List.append_nil, List.nil_append, List.take_succ_cons, List.take_zero, List.drop_succ_cons, List.drop_zero, Nat.zero_add, Nat.reduceAdd, Nat.reduceSub, isNon, optI_n, optI_var, optI_lit, optI_bin, optI_neg, optI_idx, optI_bi, optI_call, optI_gl, optI_mt, bq_t, bq_f, bq_not, bq_yes, bq_no, bq_and, bq_or, Bool.not_true, Bool.not_false, Bool.false_and, Bool.true_and, Bool.and_false, Bool.and_true, Bool.or_false, Bool.false_or, Bool.or_true, Bool.true_or, if_true, if_false, Bool.false_eq_true, true_and, and_true, List.any_cons, List.any_nil, List.isEmpty_cons, List.isEmpty_nil, tB_int_non, tB_int_bl, tB_int_int, tB_int_str, tB_int_lst, tB_int_tup, tB_int_dic, tB_bool_non, tB_bool_bl, tB_bool_int, tB_bool_str, tB_bool_lst, tB_bool_tup, tB_bool_dic, tB_str_non, tB_str_bl, tB_str_int, tB_str_str, tB_str_lst, tB_str_tup, tB_str_dic, tB_list_non, tB_list_bl, tB_list_int, tB_list_str, tB_list_lst, tB_list_tup, tB_list_dic, tB_tuple_non, tB_tuple_bl, tB_tuple_int, tB_tuple_str, tB_tuple_lst, tB_tuple_tup, tB_tuple_dic, tB_dict_non, tB_dict_bl, tB_dict_int, tB_dict_str, tB_dict_lst, tB_dict_tup, tB_dict_dic])
  (rw [bq_dec]; refine ⟨fun h0 => ?_, fun h0 => ?_⟩)
  · (simp (config := {decide := false}) (disch := first | assumption | omega | (simp only [mb_fu, mb_fr, mb_sh, mb_bs, mb_bf, fl_non, fl_bl, fl_int, fl_str, fl_tup, fl_lst, fl_rls, fl_dic, flL_n, flL_c, flL_int, flL_str, isBor_n, isBor_c, pl_non, pl_bl, pl_int, pl_lst, plL_a, pl_tup, plL_n, plL_c, plL_int, at_non, at_bl, at_int, at_str, co_non, co_bl, co_int, co_str, co_lst, co_tup, List.all_cons, List.all_nil, List.length_cons, List.length_nil, List.length_map, beq_self_eq_true, mkb_shfu, mkb_frfu, Bool.false_and, Bool.true_and, Bool.and_true, Bool.and_false, Bool.and_self, Bool.not_true, Bool.not_false, Bool.or_false, Bool.or_true, Bool.true_or, Bool.false_or, Bool.or_self, ne_eq, reduceCtorEq, not_false_eq_true, not_true_eq_false, List.map_cons, List.map_nil]; done) | (have hSZ : SZ = 16777216 := SZ_w; first | omega | (simp only [List.length_map, List.length_append, List.length_cons, List.length_nil, List.length_reverse, List.length_range, List.length_take, List.length_drop, List.length_replicate] <;> omega))) only [gl, c0, c17, c1, c2, c3, wD, c4, c5, c6, c7, c9, c22, c10, c11, c12, c13, c14, c15, ↓wp_ok, ↓wp_ex, ↓wp_bind, ↓w_var, ↓w_cst, ↓w_gl, ↓w_bin, ↓w_neg, ↓w_cmp, ↓w_chain, ↓w_isN, ↓w_notN, ↓w_and, ↓w_or, ↓w_and1, ↓w_and2, ↓w_or1, ↓w_or2, ↓w_not, ↓w_ite, ↓w_lst, ↓w_tup, ↓w_idx, ↓w_slc, ↓w_rev, ↓w_call, ↓w_bi, ↓w_mt1, ↓w_isi, ↓w_comp, ↓w_dcomp, ↓w_dic0, ↓w_dn, ↓w_dc, ↓t_val, ↓t_cmp, ↓t_chain, ↓t_isN, ↓t_notN, ↓t_not, ↓t_and, ↓t_or, ↓t_and1, ↓t_and2, ↓t_or1, ↓t_or2, ↓ts_n, ↓ts_1, ↓i_val, ↓i_rng1, ↓i_rng2, ↓i_enum, ↓i_zip, ↓i_revd, ↓s_nil, ↓s_cons, ↓s_set, ↓s_own, ↓s_par, ↓s_unp, ↓s_aug, ↓s_apd, ↓s_put, ↓s_exp, ↓s_ret, ↓s_retV, ↓s_retN, ↓s_ite, ↓s_for, ↓s_whl, ↓s_brk, ↓s_cnt, ↓s_pas, ↓s_frz, ↓s_nev, ↓s_mtc, ↓m_nil, ↓m_one, ↓m_two, ↓m_any, ↓ow_nx, ↓ow_bk, ↓ow_ct, ↓ow_rt, iw_non, iw_bl, iw_int, iw_str, iw_lst, iw_tup, iw_dic, iw_obj, iw_exc, iw_rls, getV_0, getV_s, getS_0, getS_s, boolW_bl, bindW_nm, bindW_tp, setAll_c, setAll_n, wp_ok, wp_ex, b_addI, b_subI, b_addS, b_addL, b_mulIl, b_mulIr, b_modI, b_divI, b_mulS, w_negI, a_I, a_S, x_lstI, x_rlsI, b_powT, x_lstI', x_str, x_str', x_strM, x_lstM, x_i2, x_i3, x_i4, x_i5, x_i6, x_i11, x_t0, x_t1, x_t2, x_t3, x_l0, cut_to, cut_from, cut_mid, cut_toN, cut_fromN, c_lt, c_le, c_gt, c_ge, c_eq, c_ne, e_same, e_I, e_S, e_B, c_iz, c_niz, c_inS, c_ninS, c_inP, c_ninP, c_inL, c_ninL, c_inT, c_ninT, k_non, k_bl, k_int, k_lst, k_tup, k_str, ty_w, isBor_n, isBor_c, v_lst, v_tup, v_slcL, v_slcS, v_revL, v_revS, bi_1, bi_2, l_lst, l_rls, l_tup, l_str, i_int, i_bl, li_lst, li_tup, li_str, so_int, so_str, al_bl, an_bl, su_int, al_map, an_map, su_map, ab_int, mi_2, ma_2, gc_2, r_joinS, r_indexS, r_indexL, mt_join, it_lst, it_own, it_tup, it_str, rn_ok, en_str, en_lst, zi_lst, re_lst, mb_fu, mb_fr, mb_sh, mb_bs, mb_bf, h_fu, h_fr, h_sh, h_fl, o_fu, o_sh, g_fu, g_fr, g_sh, g_fl, r_some, ol_sh, ol_fu, ap_sh, ap_fu, pu_sh, un_ok, pa_ok, bm_int, bm_str, pm_fr, pm_sh, pm_bs, pm_fu, pm_bf, cm_fr, cm_fu, cm_sh, cm_bs, callM_fl, callM_nb, rdV_fr, rdV_sh, rdV_fu, norm_fl, norm_lst, norm_nf, fl_non, fl_bl, fl_int, fl_str, fl_tup, fl_lst, fl_rls, fl_dic, flL_n, flL_c, flL_int, flL_str, wipe_n, wipe_c, List.set_cons_zero, List.set_cons_succ, List.set_nil, List.map_cons, List.map_nil, List.length_map, List.length_cons, List.length_nil, List.append_nil, List.nil_append, List.take_succ_cons, List.take_zero, List.drop_succ_cons, List.drop_zero, Nat.zero_add, Nat.reduceAdd, Nat.reduceSub, isNon, optI_n, optI_var, optI_lit, optI_bin, optI_neg, optI_idx, optI_bi, optI_call, optI_gl, optI_mt, bq_t, bq_f, bq_not, bq_yes, bq_no, bq_and, bq_or, Bool.not_true, Bool.not_false, Bool.false_and, Bool.true_and, Bool.and_false, Bool.and_true, Bool.or_false, Bool.false_or, Bool.or_true, Bool.true_or, if_true, if_false, Bool.false_eq_true, true_and, and_true, List.any_cons, List.any_nil, List.isEmpty_cons, List.isEmpty_nil, tB_int_non, tB_int_bl, tB_int_int, tB_int_str, tB_int_lst, tB_int_tup, tB_int_dic, tB_bool_non, tB_bool_bl, tB_bool_int, tB_bool_str, tB_bool_lst, tB_bool_tup, tB_bool_dic, tB_str_non, tB_str_bl, tB_str_int, tB_str_str, tB_str_lst, tB_str_tup, tB_str_dic, tB_list_non, tB_list_bl, tB_list_int, tB_list_str, tB_list_lst, tB_list_tup, tB_list_dic, tB_tuple_non, tB_tuple_bl, tB_tuple_int, tB_tuple_str, tB_tuple_lst, tB_tuple_tup, tB_tuple_dic, tB_dict_non, tB_dict_bl, tB_dict_int, tB_dict_str, tB_dict_lst, tB_dict_tup, tB_dict_dic])
    have h1 := Int.emod_nonneg x (b := y) (by omega)
    have h2 := Int.emod_lt_of_pos x h0
    refine ⟨(x % y).toNat, by omega, _, _, rfl, hy, h1, rfl, ?_⟩
    rw [← hg]
    obtain ⟨a', rfl⟩ := Int.eq_ofNat_of_zero_le hx
    obtain ⟨b', rfl⟩ := Int.eq_ofNat_of_zero_le hy
    rw [← Int.natCast_emod, Int.gcd_natCast_natCast, Int.gcd_natCast_natCast, Nat.gcd_comm b', ← Nat.gcd_rec, Nat.gcd_comm]
  · have : y = 0 := by omega
    subst this
    (simp (config := {decide := false}) (disch := first | assumption | omega | (simp only [mb_fu, mb_fr, mb_sh, mb_bs, mb_bf, fl_non, fl_bl, fl_int, fl_str, fl_tup, fl_lst, fl_rls, fl_dic, flL_n, flL_c, flL_int, flL_str, isBor_n, isBor_c, pl_non, pl_bl, pl_int, pl_lst, plL_a, pl_tup, plL_n, plL_c, plL_int, at_non, at_bl, at_int, at_str, co_non, co_bl, co_int, co_str, co_lst, co_tup, List.all_cons, List.all_nil, List.length_cons, List.length_nil, List.length_map, beq_self_eq_true, mkb_shfu, mkb_frfu, Bool.false_and, Bool.true_and, Bool.and_true, Bool.and_false, Bool.and_self, Bool.not_true, Bool.not_false, Bool.or_false, Bool.or_true, Bool.true_or, Bool.false_or, Bool.or_self, ne_eq, reduceCtorEq, not_false_eq_true, not_true_eq_false, List.map_cons, List.map_nil]; done) | (have hSZ : SZ = 16777216 := SZ_w; first | omega | (simp only [List.length_map, List.length_append, List.length_cons, List.length_nil, List.length_reverse, List.length_range, List.length_take, List.length_drop, List.length_replicate] <;> omega))) only [gl, c0, c17, c1, c2, c3, wD, c4, c5, c6, c7, c9, c22, c10, c11, c12, c13, c14, c15, ↓wp_ok, ↓wp_ex, ↓wp_bind, ↓w_var, ↓w_cst, ↓w_gl, ↓w_bin, ↓w_neg, ↓w_cmp, ↓w_chain, ↓w_isN, ↓w_notN, ↓w_and, ↓w_or, ↓w_and1, ↓w_and2, ↓w_or1, ↓w_or2, ↓w_not, ↓w_ite, ↓w_lst, ↓w_tup, ↓w_idx, ↓w_slc, ↓w_rev, ↓w_call, ↓w_bi, ↓w_mt1, ↓w_isi, ↓w_comp, ↓w_dcomp, ↓w_dic0, ↓w_dn, ↓w_dc, ↓t_val, ↓t_cmp, ↓t_chain, ↓t_isN, ↓t_notN, ↓t_not, ↓t_and, ↓t_or, ↓t_and1, ↓t_and2, ↓t_or1, ↓t_or2, ↓ts_n, ↓ts_1, ↓i_val, ↓i_rng1, ↓i_rng2, ↓i_enum, ↓i_zip, ↓i_revd, ↓s_nil, ↓s_cons, ↓s_set, ↓s_own, ↓s_par, ↓s_unp, ↓s_aug, ↓s_apd, ↓s_put, ↓s_exp, ↓s_ret, ↓s_retV, ↓s_retN, ↓s_ite, ↓s_for, ↓s_whl, ↓s_brk, ↓s_cnt, ↓s_pas, ↓s_frz, ↓s_nev, ↓s_mtc, ↓m_nil, ↓m_one, ↓m_two, ↓m_any, ↓ow_nx, ↓ow_bk, ↓ow_ct, ↓ow_rt, iw_non, iw_bl, iw_int, iw_str, iw_lst, iw_tup, iw_dic, iw_obj, iw_exc, iw_rls, getV_0, getV_s, getS_0, getS_s, boolW_bl, bindW_nm, bindW_tp, setAll_c, setAll_n, wp_ok, wp_ex, b_addI, b_subI, b_addS, b_addL, b_mulIl, b_mulIr, b_modI, b_divI, b_mulS, w_negI, a_I, a_S, x_lstI, x_rlsI, b_powT, x_lstI', x_str, x_str', x_strM, x_lstM, x_i2, x_i3, x_i4, x_i5, x_i6, x_i11, x_t0, x_t1, x_t2, x_t3, x_l0, cut_to, cut_from, cut_mid, cut_toN, cut_fromN, c_lt, c_le, c_gt, c_ge, c_eq, c_ne, e_same, e_I, e_S, e_B, c_iz, c_niz, c_inS, c_ninS, c_inP, c_ninP, c_inL, c_ninL, c_inT, c_ninT, k_non, k_bl, k_int, k_lst, k_tup, k_str, ty_w, isBor_n, isBor_c, v_lst, v_tup, v_slcL, v_slcS, v_revL, v_revS, bi_1, bi_2, l_lst, l_rls, l_tup, l_str, i_int, i_bl, li_lst, li_tup, li_str, so_int, so_str, al_bl, an_bl, su_int, al_map, an_map, su_map, ab_int, mi_2, ma_2, gc_2, r_joinS, r_indexS, r_indexL, mt_join, it_lst, it_own, it_tup, it_str, rn_ok, en_str, en_lst, zi_lst, re_lst, mb_fu, mb_fr, mb_sh, mb_bs, mb_bf, h_fu, h_fr, h_sh, h_fl, o_fu, o_sh, g_fu, g_fr, g_sh, g_fl, r_some, ol_sh, ol_fu, ap_sh, ap_fu, pu_sh, un_ok, pa_ok, bm_int, bm_str, pm_fr, pm_sh, pm_bs, pm_fu, pm_bf, cm_fr, cm_fu, cm_sh, cm_bs, callM_fl, callM_nb, rdV_fr, rdV_sh, rdV_fu, norm_fl, norm_lst, norm_nf, fl_non, fl_bl, fl_int, fl_str, fl_tup, fl_lst, fl_rls, fl_dic, flL_n, flL_c, flL_int, flL_str, wipe_n, wipe_c, List.set_cons_zero, List.set_cons_succ, List.set_nil, List.map_cons, List.map_nil, List.length_map, List.length_cons, List.length_nil, List.append_nil, List.nil_append, List.take_succ_cons, List.take_zero, List.drop_succ_cons, List.drop_zero, Nat.zero_add, Nat.reduceAdd, Nat.reduceSub, isNon, optI_n, optI_var, optI_lit, optI_bin, optI_neg, optI_idx, optI_bi, optI_call, optI_gl, optI_mt, bq_t, bq_f, bq_not, bq_yes, bq_no, bq_and, bq_or, Bool.not_true, Bool.not_false, Bool.false_and, Bool.true_and, Bool.and_false, Bool.and_true, Bool.or_false, Bool.false_or, Bool.or_true, Bool.true_or, if_true, if_false, Bool.false_eq_true, true_and, and_true, List.any_cons, List.any_nil, List.isEmpty_cons, List.isEmpty_nil, tB_int_non, tB_int_bl, tB_int_int, tB_int_str, tB_int_lst, tB_int_tup, tB_int_dic, tB_bool_non, tB_bool_bl, tB_bool_int, tB_bool_str, tB_bool_lst, tB_bool_tup, tB_bool_dic, tB_str_non, tB_str_bl, tB_str_int, tB_str_str, tB_str_lst, tB_str_tup, tB_str_dic, tB_list_non, tB_list_bl, tB_list_int, tB_list_str, tB_list_lst, tB_list_tup, tB_list_dic, tB_tuple_non, tB_tuple_bl, tB_tuple_int, tB_tuple_str, tB_tuple_lst, tB_tuple_tup, tB_tuple_dic, tB_dict_non, tB_dict_bl, tB_dict_int, tB_dict_str, tB_dict_lst, tB_dict_tup, tB_dict_dic])
    rw [← hg, Int.gcd_zero_right]
    congr 2
    omega
theorem c23 (n : Nat) (S : List Nat) (m : Int) (ws : List Int) (kd : List Nat) (h : Wt m ws) (hS : 1 ≤ S.length ∧ S.length ≤ 36) : callD Ps gl 64 (n + 3) 23 [.str S, wD m ws, .str kd] = .ok (.fr, .lst ((flF S.length m ws kd ws.length).map pr)) := by
  have := h.m2; have := h.n1; have := h.n12
  (refine w_fn rfl rfl rfl ?_; simp only [b23]; (simp only [startE, List.map_cons, List.map_nil, List.length_cons, List.length_nil, Nat.reduceAdd, Nat.reduceSub, List.replicate, List.cons_append, List.nil_append]); (simp (config := {decide := false}) (disch := first | assumption | omega | (simp only [mb_fu, mb_fr, mb_sh, mb_bs, mb_bf, fl_non, fl_bl, fl_int, fl_str, fl_tup, fl_lst, fl_rls, fl_dic, flL_n, flL_c, flL_int, flL_str, isBor_n, isBor_c, pl_non, pl_bl, pl_int, pl_lst, plL_a, pl_tup, plL_n, plL_c, plL_int, at_non, at_bl, at_int, at_str, co_non, co_bl, co_int, co_str, co_lst, co_tup, List.all_cons, List.all_nil, List.length_cons, List.length_nil, List.length_map, beq_self_eq_true, mkb_shfu, mkb_frfu, Bool.false_and, Bool.true_and, Bool.and_true, Bool.and_false, Bool.and_self, Bool.not_true, Bool.not_false, Bool.or_false, Bool.or_true, Bool.true_or, Bool.false_or, Bool.or_self, ne_eq, reduceCtorEq, not_false_eq_true, not_true_eq_false, List.map_cons, List.map_nil]; done) | (have hSZ : SZ = 16777216 := SZ_w; first | omega | (simp only [List.length_map, List.length_append, List.length_cons, List.length_nil, List.length_reverse, List.length_range, List.length_take, List.length_drop, List.length_replicate] <;> omega))) only [gl, c0, c17, c1, c2, c3, wD, c4, c5, c6, c7, c9, c22, c10, c11, c12, c13, c14, c15, c24, ↓wp_ok, ↓wp_ex, ↓wp_bind, ↓w_var, ↓w_cst, ↓w_gl, ↓w_bin, ↓w_neg, ↓w_cmp, ↓w_chain, ↓w_isN, ↓w_notN, ↓w_and, ↓w_or, ↓w_and1, ↓w_and2, ↓w_or1, ↓w_or2, ↓w_not, ↓w_ite, ↓w_lst, ↓w_tup, ↓w_idx, ↓w_slc, ↓w_rev, ↓w_call, ↓w_bi, ↓w_mt1, ↓w_isi, ↓w_comp, ↓w_dcomp, ↓w_dic0, ↓w_dn, ↓w_dc, ↓t_val, ↓t_cmp, ↓t_chain, ↓t_isN, ↓t_notN, ↓t_not, ↓t_and, ↓t_or, ↓t_and1, ↓t_and2, ↓t_or1, ↓t_or2, ↓ts_n, ↓ts_1, ↓i_val, ↓i_rng1, ↓i_rng2, ↓i_enum, ↓i_zip, ↓i_revd, ↓s_nil, ↓s_cons, ↓s_set, ↓s_own, ↓s_par, ↓s_unp, ↓s_aug, ↓s_apd, ↓s_put, ↓s_exp, ↓s_ret, ↓s_retV, ↓s_retN, ↓s_ite, ↓s_for, ↓s_whl, ↓s_brk, ↓s_cnt, ↓s_pas, ↓s_frz, ↓s_nev, ↓s_mtc, ↓m_nil, ↓m_one, ↓m_two, ↓m_any, ↓ow_nx, ↓ow_bk, ↓ow_ct, ↓ow_rt, iw_non, iw_bl, iw_int, iw_str, iw_lst, iw_tup, iw_dic, iw_obj, iw_exc, iw_rls, getV_0, getV_s, getS_0, getS_s, boolW_bl, bindW_nm, bindW_tp, setAll_c, setAll_n, wp_ok, wp_ex, b_addI, b_subI, b_addS, b_addL, b_mulIl, b_mulIr, b_modI, b_divI, b_mulS, w_negI, a_I, a_S, x_lstI, x_rlsI, b_powT, x_lstI', x_str, x_str', x_strM, x_lstM, x_i2, x_i3, x_i4, x_i5, x_i6, x_i11, x_t0, x_t1, x_t2, x_t3, x_l0, cut_to, cut_from, cut_mid, cut_toN, cut_fromN, c_lt, c_le, c_gt, c_ge, c_eq, c_ne, e_same, e_I, e_S, e_B, c_iz, c_niz, c_inS, c_ninS, c_inP, c_ninP, c_inL, c_ninL, c_inT, c_ninT, k_non, k_bl, k_int, k_lst, k_tup, k_str, ty_w, isBor_n, isBor_c, v_lst, v_tup, v_slcL, v_slcS, v_revL, v_revS, bi_1, bi_2, l_lst, l_rls, l_tup, l_str, i_int, i_bl, li_lst, li_tup, li_str, so_int, so_str, al_bl, an_bl, su_int, al_map, an_map, su_map, ab_int, mi_2, ma_2, gc_2, r_joinS, r_indexS, r_indexL, mt_join, it_lst, it_own, it_tup, it_str, rn_ok, en_str, en_lst, zi_lst, re_lst, mb_fu, mb_fr, mb_sh, mb_bs, mb_bf, h_fu, h_fr, h_sh, h_fl, o_fu, o_sh, g_fu, g_fr, g_sh, g_fl, r_some, ol_sh, ol_fu, ap_sh, ap_fu, pu_sh, un_ok, pa_ok, bm_int, bm_str, pm_fr, pm_sh, pm_bs, pm_fu, pm_bf, cm_fr, cm_fu, cm_sh, cm_bs, callM_fl, callM_nb, rdV_fr, rdV_sh, rdV_fu, norm_fl, norm_lst, norm_nf, fl_non, fl_bl, fl_int, fl_str, fl_tup, fl_lst, fl_rls, fl_dic, flL_n, flL_c, flL_int, flL_str, wipe_n, wipe_c, List.set_cons_zero, List.set_cons_succ, List.set_nil, List.map_cons, List.map_nil, List.length_map, List.length_cons, List.length_nil, List.append_nil, List.nil_append, List.take_succ_cons, List.take_zero, List.drop_succ_cons, List.drop_zero, Nat.zero_add, Nat.reduceAdd, Nat.reduceSub, isNon, optI_n, optI_var, optI_lit, optI_bin, optI_neg, optI_idx, optI_bi, optI_call, optI_gl, optI_mt, bq_t, bq_f, bq_not, bq_yes, bq_no, bq_and, bq_or, Bool.not_true, Bool.not_false, Bool.false_and, Bool.true_and, Bool.and_false, Bool.and_true, Bool.or_false, Bool.false_or, Bool.or_true, Bool.true_or, if_true, if_false, Bool.false_eq_true, true_and, and_true, List.any_cons, List.any_nil, List.isEmpty_cons, List.isEmpty_nil, tB_int_non, tB_int_bl, tB_int_int, tB_int_str, tB_int_lst, tB_int_tup, tB_int_dic, tB_bool_non, tB_bool_bl, tB_bool_int, tB_bool_str, tB_bool_lst, tB_bool_tup, tB_bool_dic, tB_str_non, tB_str_bl, tB_str_int, tB_str_str, tB_str_lst, tB_str_tup, tB_str_dic, tB_list_non, tB_list_bl, tB_list_int, tB_list_str, tB_list_lst, tB_list_tup, tB_list_dic, tB_tuple_non, tB_tuple_bl, tB_tuple_int, tB_tuple_str, tB_tuple_lst, tB_tuple_tup, tB_tuple_dic, tB_dict_non, tB_dict_bl, tB_dict_int, tB_dict_str, tB_dict_lst, tB_dict_tup, tB_dict_dic]))
  refine for_rng (fun i E => ∃ q, E = [some (.fr, .str S), some (.fr, wD m ws), some (.fr, .str kd), some (.fr, .lst ((flF S.length m ws kd i.toNat).map pr)), q, some (.fr, .int m), some (.fr, .lst (ws.map .int)), none]) ⟨_, rfl⟩ ?_ ?_
  · rintro i E h1 h2 ⟨q, rfl⟩
    have hl := flF_len S.length m ws kd (by omega) i.toNat
    have e : (i + 1).toNat = i.toNat + 1 := by omega
    have e2 : ((i.toNat : Nat) : Int) = i := by omega
    have e3 : ((S.length : Int) - 1).toNat = S.length - 1 := by omega
    (simp (config := {decide := false}) (disch := first | assumption | omega | (simp only [mb_fu, mb_fr, mb_sh, mb_bs, mb_bf, fl_non, fl_bl, fl_int, fl_str, fl_tup, fl_lst, fl_rls, fl_dic, flL_n, flL_c, flL_int, flL_str, isBor_n, isBor_c, pl_non, pl_bl, pl_int, pl_lst, plL_a, pl_tup, plL_n, plL_c, plL_int, at_non, at_bl, at_int, at_str, co_non, co_bl, co_int, co_str, co_lst, co_tup, List.all_cons, List.all_nil, List.length_cons, List.length_nil, List.length_map, beq_self_eq_true, mkb_shfu, mkb_frfu, Bool.false_and, Bool.true_and, Bool.and_true, Bool.and_false, Bool.and_self, Bool.not_true, Bool.not_false, Bool.or_false, Bool.or_true, Bool.true_or, Bool.false_or, Bool.or_self, ne_eq, reduceCtorEq, not_false_eq_true, not_true_eq_false, List.map_cons, List.map_nil]; done) | (have hSZ : SZ = 16777216 := SZ_w; first | omega | (simp only [List.length_map, List.length_append, List.length_cons, List.length_nil, List.length_reverse, List.length_range, List.length_take, List.length_drop, List.length_replicate] <;> omega))) only [gl, c0, c17, c1, c2, c3, wD, c4, c5, c6, c7, c9, c22, c10, c11, c12, c13, c14, c15, c24, rngL_map, ↓wp_ok, ↓wp_ex, ↓wp_bind, ↓w_var, ↓w_cst, ↓w_gl, ↓w_bin, ↓w_neg, ↓w_cmp, ↓w_chain, ↓w_isN, ↓w_notN, ↓w_and, ↓w_or, ↓w_and1, ↓w_and2, ↓w_or1, ↓w_or2, ↓w_not, ↓w_ite, ↓w_lst, ↓w_tup, ↓w_idx, ↓w_slc, ↓w_rev, ↓w_call, ↓w_bi, ↓w_mt1, ↓w_isi, ↓w_comp, ↓w_dcomp, ↓w_dic0, ↓w_dn, ↓w_dc, ↓t_val, ↓t_cmp, ↓t_chain, ↓t_isN, ↓t_notN, ↓t_not, ↓t_and, ↓t_or, ↓t_and1, ↓t_and2, ↓t_or1, ↓t_or2, ↓ts_n, ↓ts_1, ↓i_val, ↓i_rng1, ↓i_rng2, ↓i_enum, ↓i_zip, ↓i_revd, ↓s_nil, ↓s_cons, ↓s_set, ↓s_own, ↓s_par, ↓s_unp, ↓s_aug, ↓s_apd, ↓s_put, ↓s_exp, ↓s_ret, ↓s_retV, ↓s_retN, ↓s_ite, ↓s_for, ↓s_whl, ↓s_brk, ↓s_cnt, ↓s_pas, ↓s_frz, ↓s_nev, ↓s_mtc, ↓m_nil, ↓m_one, ↓m_two, ↓m_any, ↓ow_nx, ↓ow_bk, ↓ow_ct, ↓ow_rt, iw_non, iw_bl, iw_int, iw_str, iw_lst, iw_tup, iw_dic, iw_obj, iw_exc, iw_rls, getV_0, getV_s, getS_0, getS_s, boolW_bl, bindW_nm, bindW_tp, setAll_c, setAll_n, wp_ok, wp_ex, b_addI, b_subI, b_addS, b_addL, b_mulIl, b_mulIr, b_modI, b_divI, b_mulS, w_negI, a_I, a_S, x_lstI, x_rlsI, b_powT, x_lstI', x_str, x_str', x_strM, x_lstM, x_i2, x_i3, x_i4, x_i5, x_i6, x_i11, x_t0, x_t1, x_t2, x_t3, x_l0, cut_to, cut_from, cut_mid, cut_toN, cut_fromN, c_lt, c_le, c_gt, c_ge, c_eq, c_ne, e_same, e_I, e_S, e_B, c_iz, c_niz, c_inS, c_ninS, c_inP, c_ninP, c_inL, c_ninL, c_inT, c_ninT, k_non, k_bl, k_int, k_lst, k_tup, k_str, ty_w, isBor_n, isBor_c, v_lst, v_tup, v_slcL, v_slcS, v_revL, v_revS, bi_1, bi_2, l_lst, l_rls, l_tup, l_str, i_int, i_bl, li_lst, li_tup, li_str, so_int, so_str, al_bl, an_bl, su_int, al_map, an_map, su_map, ab_int, mi_2, ma_2, gc_2, r_joinS, r_indexS, r_indexL, mt_join, it_lst, it_own, it_tup, it_str, rn_ok, en_str, en_lst, zi_lst, re_lst, mb_fu, mb_fr, mb_sh, mb_bs, mb_bf, h_fu, h_fr, h_sh, h_fl, o_fu, o_sh, g_fu, g_fr, g_sh, g_fl, r_some, ol_sh, ol_fu, ap_sh, ap_fu, pu_sh, un_ok, pa_ok, bm_int, bm_str, pm_fr, pm_sh, pm_bs, pm_fu, pm_bf, cm_fr, cm_fu, cm_sh, cm_bs, callM_fl, callM_nb, rdV_fr, rdV_sh, rdV_fu, norm_fl, norm_lst, norm_nf, fl_non, fl_bl, fl_int, fl_str, fl_tup, fl_lst, fl_rls, fl_dic, flL_n, flL_c, flL_int, flL_str, wipe_n, wipe_c, List.set_cons_zero, List.set_cons_succ, List.set_nil, List.map_cons, List.map_nil, List.length_map, List.length_cons, List.length_nil, List.append_nil, List.nil_append, List.take_succ_cons, List.take_zero, List.drop_succ_cons, List.drop_zero, Nat.zero_add, Nat.reduceAdd, Nat.reduceSub, isNon, optI_n, optI_var, optI_lit, optI_bin, optI_neg, optI_idx, optI_bi, optI_call, optI_gl, optI_mt, bq_t, bq_f, bq_not, bq_yes, bq_no, bq_and, bq_or, Bool.not_true, Bool.not_false, Bool.false_and, Bool.true_and, Bool.and_false, Bool.and_true, Bool.or_false, Bool.false_or, Bool.or_true, Bool.true_or, if_true, if_false, Bool.false_eq_true, true_and, and_true, List.any_cons, List.any_nil, List.isEmpty_cons, List.isEmpty_nil, tB_int_non, tB_int_bl, tB_int_int, tB_int_str, tB_int_lst, tB_int_tup, tB_int_dic, tB_bool_non, tB_bool_bl, tB_bool_int, tB_bool_str, tB_bool_lst, tB_bool_tup, tB_bool_dic, tB_str_non, tB_str_bl, tB_str_int, tB_str_str, tB_str_lst, tB_str_tup, tB_str_dic, tB_list_non, tB_list_bl, tB_list_int, tB_list_str, tB_list_lst, tB_list_tup, tB_list_dic, tB_tuple_non, tB_tuple_bl, tB_tuple_int, tB_tuple_str, tB_tuple_lst, tB_tuple_tup, tB_tuple_dic, tB_dict_non, tB_dict_bl, tB_dict_int, tB_dict_str, tB_dict_lst, tB_dict_tup, tB_dict_dic])
    refine v_comp (fun k : Nat => D.int (1 + (k : Int))) (fun k : Nat => decide (fac ws kd i * (1 + (k : Int)) % m = 0)) (fun k : Nat => pr (i, 1 + (k : Int))) ?_ (fun k hk => ?_) ?_
    · rw [List.length_range]; omega
    · have hk2 : k < ((S.length : Int) - 1).toNat := List.mem_range.mp hk
      (simp (config := {decide := false}) (disch := first | assumption | omega | (simp only [mb_fu, mb_fr, mb_sh, mb_bs, mb_bf, fl_non, fl_bl, fl_int, fl_str, fl_tup, fl_lst, fl_rls, fl_dic, flL_n, flL_c, flL_int, flL_str, isBor_n, isBor_c, pl_non, pl_bl, pl_int, pl_lst, plL_a, pl_tup, plL_n, plL_c, plL_int, at_non, at_bl, at_int, at_str, co_non, co_bl, co_int, co_str, co_lst, co_tup, List.all_cons, List.all_nil, List.length_cons, List.length_nil, List.length_map, beq_self_eq_true, mkb_shfu, mkb_frfu, Bool.false_and, Bool.true_and, Bool.and_true, Bool.and_false, Bool.and_self, Bool.not_true, Bool.not_false, Bool.or_false, Bool.or_true, Bool.true_or, Bool.false_or, Bool.or_self, ne_eq, reduceCtorEq, not_false_eq_true, not_true_eq_false, List.map_cons, List.map_nil]; done) | (have hSZ : SZ = 16777216 := SZ_w; first | omega | (simp only [List.length_map, List.length_append, List.length_cons, List.length_nil, List.length_reverse, List.length_range, List.length_take, List.length_drop, List.length_replicate] <;> omega))) only [gl, c0, c17, c1, c2, c3, wD, c4, c5, c6, c7, c9, c22, c10, c11, c12, c13, c14, c15, c24, ↓wp_ok, ↓wp_ex, ↓wp_bind, ↓w_var, ↓w_cst, ↓w_gl, ↓w_bin, ↓w_neg, ↓w_cmp, ↓w_chain, ↓w_isN, ↓w_notN, ↓w_and, ↓w_or, ↓w_and1, ↓w_and2, ↓w_or1, ↓w_or2, ↓w_not, ↓w_ite, ↓w_lst, ↓w_tup, ↓w_idx, ↓w_slc, ↓w_rev, ↓w_call, ↓w_bi, ↓w_mt1, ↓w_isi, ↓w_comp, ↓w_dcomp, ↓w_dic0, ↓w_dn, ↓w_dc, ↓t_val, ↓t_cmp, ↓t_chain, ↓t_isN, ↓t_notN, ↓t_not, ↓t_and, ↓t_or, ↓t_and1, ↓t_and2, ↓t_or1, ↓t_or2, ↓ts_n, ↓ts_1, ↓i_val, ↓i_rng1, ↓i_rng2, ↓i_enum, ↓i_zip, ↓i_revd, ↓s_nil, ↓s_cons, ↓s_set, ↓s_own, ↓s_par, ↓s_unp, ↓s_aug, ↓s_apd, ↓s_put, ↓s_exp, ↓s_ret, ↓s_retV, ↓s_retN, ↓s_ite, ↓s_for, ↓s_whl, ↓s_brk, ↓s_cnt, ↓s_pas, ↓s_frz, ↓s_nev, ↓s_mtc, ↓m_nil, ↓m_one, ↓m_two, ↓m_any, ↓ow_nx, ↓ow_bk, ↓ow_ct, ↓ow_rt, iw_non, iw_bl, iw_int, iw_str, iw_lst, iw_tup, iw_dic, iw_obj, iw_exc, iw_rls, getV_0, getV_s, getS_0, getS_s, boolW_bl, bindW_nm, bindW_tp, setAll_c, setAll_n, wp_ok, wp_ex, b_addI, b_subI, b_addS, b_addL, b_mulIl, b_mulIr, b_modI, b_divI, b_mulS, w_negI, a_I, a_S, x_lstI, x_rlsI, b_powT, x_lstI', x_str, x_str', x_strM, x_lstM, x_i2, x_i3, x_i4, x_i5, x_i6, x_i11, x_t0, x_t1, x_t2, x_t3, x_l0, cut_to, cut_from, cut_mid, cut_toN, cut_fromN, c_lt, c_le, c_gt, c_ge, c_eq, c_ne, e_same, e_I, e_S, e_B, c_iz, c_niz, c_inS, c_ninS, c_inP, c_ninP, c_inL, c_ninL, c_inT, c_ninT, k_non, k_bl, k_int, k_lst, k_tup, k_str, ty_w, isBor_n, isBor_c, v_lst, v_tup, v_slcL, v_slcS, v_revL, v_revS, bi_1, bi_2, l_lst, l_rls, l_tup, l_str, i_int, i_bl, li_lst, li_tup, li_str, so_int, so_str, al_bl, an_bl, su_int, al_map, an_map, su_map, ab_int, mi_2, ma_2, gc_2, r_joinS, r_indexS, r_indexL, mt_join, it_lst, it_own, it_tup, it_str, rn_ok, en_str, en_lst, zi_lst, re_lst, mb_fu, mb_fr, mb_sh, mb_bs, mb_bf, h_fu, h_fr, h_sh, h_fl, o_fu, o_sh, g_fu, g_fr, g_sh, g_fl, r_some, ol_sh, ol_fu, ap_sh, ap_fu, pu_sh, un_ok, pa_ok, bm_int, bm_str, pm_fr, pm_sh, pm_bs, pm_fu, pm_bf, cm_fr, cm_fu, cm_sh, cm_bs, callM_fl, callM_nb, rdV_fr, rdV_sh, rdV_fu, norm_fl, norm_lst, norm_nf, fl_non, fl_bl, fl_int, fl_str, fl_tup, fl_lst, fl_rls, fl_dic, flL_n, flL_c, flL_int, flL_str, wipe_n, wipe_c, List.set_cons_zero, List.set_cons_succ, List.set_nil, List.map_cons, List.map_nil, List.length_map, List.length_cons, List.length_nil, List.append_nil, List.nil_append, List.take_succ_cons, List.take_zero, List.drop_succ_cons, List.drop_zero, Nat.zero_add, Nat.reduceAdd, Nat.reduceSub, isNon, optI_n, optI_var, optI_lit, optI_bin, optI_neg, optI_idx, optI_bi, optI_call, optI_gl, optI_mt, bq_t, bq_f, bq_not, bq_yes, bq_no, bq_and, bq_or, Bool.not_true, Bool.not_false, Bool.false_and, Bool.true_and, Bool.and_false, Bool.and_true, Bool.or_false, Bool.false_or, Bool.or_true, Bool.true_or, if_true, if_false, Bool.false_eq_true, true_and, and_true, List.any_cons, List.any_nil, List.isEmpty_cons, List.isEmpty_nil, tB_int_non, tB_int_bl, tB_int_int, tB_int_str, tB_int_lst, tB_int_tup, tB_int_dic, tB_bool_non, tB_bool_bl, tB_bool_int, tB_bool_str, tB_bool_lst, tB_bool_tup, tB_bool_dic, tB_str_non, tB_str_bl, tB_str_int, tB_str_str, tB_str_lst, tB_str_tup, tB_str_dic, tB_list_non, tB_list_bl, tB_list_int, tB_list_str, tB_list_lst, tB_list_tup, tB_list_dic, tB_tuple_non, tB_tuple_bl, tB_tuple_int, tB_tuple_str, tB_tuple_lst, tB_tuple_tup, tB_tuple_dic, tB_dict_non, tB_dict_bl, tB_dict_int, tB_dict_str, tB_dict_lst, tB_dict_tup, tB_dict_dic])
      exact fun _ => rfl
    · have hl2 := rowF_len m ws kd i (S.length - 1)
      have e4 : ((List.range ((S.length : Int) - 1).toNat).filter (fun k : Nat => decide (fac ws kd i * (1 + (k : Int)) % m = 0))).map (fun k : Nat => pr (i, 1 + (k : Int))) = (rowF m ws kd i (S.length - 1)).map pr := by
        rw [e3, rowF, List.map_map]; rfl
      rw [e4]
      (simp (config := {decide := false}) (disch := first | assumption | omega | (simp only [mb_fu, mb_fr, mb_sh, mb_bs, mb_bf, fl_non, fl_bl, fl_int, fl_str, fl_tup, fl_lst, fl_rls, fl_dic, flL_n, flL_c, flL_int, flL_str, isBor_n, isBor_c, pl_non, pl_bl, pl_int, pl_lst, plL_a, pl_tup, plL_n, plL_c, plL_int, at_non, at_bl, at_int, at_str, co_non, co_bl, co_int, co_str, co_lst, co_tup, List.all_cons, List.all_nil, List.length_cons, List.length_nil, List.length_map, beq_self_eq_true, mkb_shfu, mkb_frfu, Bool.false_and, Bool.true_and, Bool.and_true, Bool.and_false, Bool.and_self, Bool.not_true, Bool.not_false, Bool.or_false, Bool.or_true, Bool.true_or, Bool.false_or, Bool.or_self, ne_eq, reduceCtorEq, not_false_eq_true, not_true_eq_false, List.map_cons, List.map_nil]; done) | (have hSZ : SZ = 16777216 := SZ_w; first | omega | (simp only [List.length_map, List.length_append, List.length_cons, List.length_nil, List.length_reverse, List.length_range, List.length_take, List.length_drop, List.length_replicate] <;> omega))) only [gl, c0, c17, c1, c2, c3, wD, c4, c5, c6, c7, c9, c22, c10, c11, c12, c13, c14, c15, c24, ↓wp_ok, ↓wp_ex, ↓wp_bind, ↓w_var, ↓w_cst, ↓w_gl, ↓w_bin, ↓w_neg, ↓w_cmp, ↓w_chain, ↓w_isN, ↓w_notN, ↓w_and, ↓w_or, ↓w_and1, ↓w_and2, ↓w_or1, ↓w_or2, ↓w_not, ↓w_ite, ↓w_lst, ↓w_tup, ↓w_idx, ↓w_slc, ↓w_rev, ↓w_call, ↓w_bi, ↓w_mt1, ↓w_isi, ↓w_comp, ↓w_dcomp, ↓w_dic0, ↓w_dn, ↓w_dc, ↓t_val, ↓t_cmp, ↓t_chain, ↓t_isN, ↓t_notN, ↓t_not, ↓t_and, ↓t_or, ↓t_and1, ↓t_and2, ↓t_or1, ↓t_or2, ↓ts_n, ↓ts_1, ↓i_val, ↓i_rng1, ↓i_rng2, ↓i_enum, ↓i_zip, ↓i_revd, ↓s_nil, ↓s_cons, ↓s_set, ↓s_own, ↓s_par, ↓s_unp, ↓s_aug, ↓s_apd, ↓s_put, ↓s_exp, ↓s_ret, ↓s_retV, ↓s_retN, ↓s_ite, ↓s_for, ↓s_whl, ↓s_brk, ↓s_cnt, ↓s_pas, ↓s_frz, ↓s_nev, ↓s_mtc, ↓m_nil, ↓m_one, ↓m_two, ↓m_any, ↓ow_nx, ↓ow_bk, ↓ow_ct, ↓ow_rt, iw_non, iw_bl, iw_int, iw_str, iw_lst, iw_tup, iw_dic, iw_obj, iw_exc, iw_rls, getV_0, getV_s, getS_0, getS_s, boolW_bl, bindW_nm, bindW_tp, setAll_c, setAll_n, wp_ok, wp_ex, b_addI, b_subI, b_addS, b_addL, b_mulIl, b_mulIr, b_modI, b_divI, b_mulS, w_negI, a_I, a_S, x_lstI, x_rlsI, b_powT, x_lstI', x_str, x_str', x_strM, x_lstM, x_i2, x_i3, x_i4, x_i5, x_i6, x_i11, x_t0, x_t1, x_t2, x_t3, x_l0, cut_to, cut_from, cut_mid, cut_toN, cut_fromN, c_lt, c_le, c_gt, c_ge, c_eq, c_ne, e_same, e_I, e_S, e_B, c_iz, c_niz, c_inS, c_ninS, c_inP, c_ninP, c_inL, c_ninL, c_inT, c_ninT, k_non, k_bl, k_int, k_lst, k_tup, k_str, ty_w, isBor_n, isBor_c, v_lst, v_tup, v_slcL, v_slcS, v_revL, v_revS, bi_1, bi_2, l_lst, l_rls, l_tup, l_str, i_int, i_bl, li_lst, li_tup, li_str, so_int, so_str, al_bl, an_bl, su_int, al_map, an_map, su_map, ab_int, mi_2, ma_2, gc_2, r_joinS, r_indexS, r_indexL, mt_join, it_lst, it_own, it_tup, it_str, rn_ok, en_str, en_lst, zi_lst, re_lst, mb_fu, mb_fr, mb_sh, mb_bs, mb_bf, h_fu, h_fr, h_sh, h_fl, o_fu, o_sh, g_fu, g_fr, g_sh, g_fl, r_some, ol_sh, ol_fu, ap_sh, ap_fu, pu_sh, un_ok, pa_ok, bm_int, bm_str, pm_fr, pm_sh, pm_bs, pm_fu, pm_bf, cm_fr, cm_fu, cm_sh, cm_bs, callM_fl, callM_nb, rdV_fr, rdV_sh, rdV_fu, norm_fl, norm_lst, norm_nf, fl_non, fl_bl, fl_int, fl_str, fl_tup, fl_lst, fl_rls, fl_dic, flL_n, flL_c, flL_int, flL_str, wipe_n, wipe_c, List.set_cons_zero, List.set_cons_succ, List.set_nil, List.map_cons, List.map_nil, List.length_map, List.length_cons, List.length_nil, List.append_nil, List.nil_append, List.take_succ_cons, List.take_zero, List.drop_succ_cons, List.drop_zero, Nat.zero_add, Nat.reduceAdd, Nat.reduceSub, isNon, optI_n, optI_var, optI_lit, optI_bin, optI_neg, optI_idx, optI_bi, optI_call, optI_gl, optI_mt, bq_t, bq_f, bq_not, bq_yes, bq_no, bq_and, bq_or, Bool.not_true, Bool.not_false, Bool.false_and, Bool.true_and, Bool.and_false, Bool.and_true, Bool.or_false, Bool.false_or, Bool.or_true, Bool.true_or, if_true, if_false, Bool.false_eq_true, true_and, and_true, List.any_cons, List.any_nil, List.isEmpty_cons, List.isEmpty_nil, tB_int_non, tB_int_bl, tB_int_int, tB_int_str, tB_int_lst, tB_int_tup, tB_int_dic, tB_bool_non, tB_bool_bl, tB_bool_int, tB_bool_str, tB_bool_lst, tB_bool_tup, tB_bool_dic, tB_str_non, tB_str_bl, tB_str_int, tB_str_str, tB_str_lst, tB_str_tup, tB_str_dic, tB_list_non, tB_list_bl, tB_list_int, tB_list_str, tB_list_lst, tB_list_tup, tB_list_dic, tB_tuple_non, tB_tuple_bl, tB_tuple_int, tB_tuple_str, tB_tuple_lst, tB_tuple_tup, tB_tuple_dic, tB_dict_non, tB_dict_bl, tB_dict_int, tB_dict_str, tB_dict_lst, tB_dict_tup, tB_dict_dic])
      refine ⟨some (.fr, .int i), ?_⟩
      rw [e, flF_succ, e2, List.map_append]
  · rintro E ⟨q, rfl⟩
    (simp (config := {decide := false}) (disch := first | assumption | omega | (simp only [mb_fu, mb_fr, mb_sh, mb_bs, mb_bf, fl_non, fl_bl, fl_int, fl_str, fl_tup, fl_lst, fl_rls, fl_dic, flL_n, flL_c, flL_int, flL_str, isBor_n, isBor_c, pl_non, pl_bl, pl_int, pl_lst, plL_a, pl_tup, plL_n, plL_c, plL_int, at_non, at_bl, at_int, at_str, co_non, co_bl, co_int, co_str, co_lst, co_tup, List.all_cons, List.all_nil, List.length_cons, List.length_nil, List.length_map, beq_self_eq_true, mkb_shfu, mkb_frfu, Bool.false_and, Bool.true_and, Bool.and_true, Bool.and_false, Bool.and_self, Bool.not_true, Bool.not_false, Bool.or_false, Bool.or_true, Bool.true_or, Bool.false_or, Bool.or_self, ne_eq, reduceCtorEq, not_false_eq_true, not_true_eq_false, List.map_cons, List.map_nil]; done) | (have hSZ : SZ = 16777216 := SZ_w; first | omega | (simp only [List.length_map, List.length_append, List.length_cons, List.length_nil, List.length_reverse, List.length_range, List.length_take, List.length_drop, List.length_replicate] <;> omega))) only [gl, c0, c17, c1, c2, c3, wD, c4, c5, c6, c7, c9, c22, c10, c11, c12, c13, c14, c15, c24, ↓wp_ok, ↓wp_ex, ↓wp_bind, ↓w_var, ↓w_cst, ↓w_gl, ↓w_bin, ↓w_neg, ↓w_cmp, ↓w_chain, ↓w_isN, ↓w_notN, ↓w_and, ↓w_or, ↓w_and1, ↓w_and2, ↓w_or1, ↓w_or2, ↓w_not, ↓w_ite, ↓w_lst, ↓w_tup, ↓w_idx, ↓w_slc, ↓w_rev, ↓w_call, ↓w_bi, ↓w_mt1, ↓w_isi, ↓w_comp, ↓w_dcomp, ↓w_dic0, ↓w_dn, ↓w_dc, ↓t_val, ↓t_cmp, ↓t_chain, ↓t_isN, ↓t_notN, ↓t_not, ↓t_and, ↓t_or, ↓t_and1, ↓t_and2, ↓t_or1, ↓t_or2, ↓ts_n, ↓ts_1, ↓i_val, ↓i_rng1, ↓i_rng2, ↓i_enum, ↓i_zip, ↓i_revd, ↓s_nil, ↓s_cons, ↓s_set, ↓s_own, ↓s_par, ↓s_unp, ↓s_aug, ↓s_apd, ↓s_put, ↓s_exp, ↓s_ret, ↓s_retV, ↓s_retN, ↓s_ite, ↓s_for, ↓s_whl, ↓s_brk, ↓s_cnt, ↓s_pas, ↓s_frz, ↓s_nev, ↓s_mtc, ↓m_nil, ↓m_one, ↓m_two, ↓m_any, ↓ow_nx, ↓ow_bk, ↓ow_ct, ↓ow_rt, iw_non, iw_bl, iw_int, iw_str, iw_lst, iw_tup, iw_dic, iw_obj, iw_exc, iw_rls, getV_0, getV_s, getS_0, getS_s, boolW_bl, bindW_nm, bindW_tp, setAll_c, setAll_n, wp_ok, wp_ex, b_addI, b_subI, b_addS, b_addL, b_mulIl, b_mulIr, b_modI, b_divI, b_mulS, w_negI, a_I, a_S, x_lstI, x_rlsI, b_powT, x_lstI', x_str, x_str', x_strM, x_lstM, x_i2, x_i3, x_i4, x_i5, x_i6, x_i11, x_t0, x_t1, x_t2, x_t3, x_l0, cut_to, cut_from, cut_mid, cut_toN, cut_fromN, c_lt, c_le, c_gt, c_ge, c_eq, c_ne, e_same, e_I, e_S, e_B, c_iz, c_niz, c_inS, c_ninS, c_inP, c_ninP, c_inL, c_ninL, c_inT, c_ninT, k_non, k_bl, k_int, k_lst, k_tup, k_str, ty_w, isBor_n, isBor_c, v_lst, v_tup, v_slcL, v_slcS, v_revL, v_revS, bi_1, bi_2, l_lst, l_rls, l_tup, l_str, i_int, i_bl, li_lst, li_tup, li_str, so_int, so_str, al_bl, an_bl, su_int, al_map, an_map, su_map, ab_int, mi_2, ma_2, gc_2, r_joinS, r_indexS, r_indexL, mt_join, it_lst, it_own, it_tup, it_str, rn_ok, en_str, en_lst, zi_lst, re_lst, mb_fu, mb_fr, mb_sh, mb_bs, mb_bf, h_fu, h_fr, h_sh, h_fl, o_fu, o_sh, g_fu, g_fr, g_sh, g_fl, r_some, ol_sh, ol_fu, ap_sh, ap_fu, pu_sh, un_ok, pa_ok, bm_int, bm_str, pm_fr, pm_sh, pm_bs, pm_fu, pm_bf, cm_fr, cm_fu, cm_sh, cm_bs, callM_fl, callM_nb, rdV_fr, rdV_sh, rdV_fu, norm_fl, norm_lst, norm_nf, fl_non, fl_bl, fl_int, fl_str, fl_tup, fl_lst, fl_rls, fl_dic, flL_n, flL_c, flL_int, flL_str, wipe_n, wipe_c, List.set_cons_zero, List.set_cons_succ, List.set_nil, List.map_cons, List.map_nil, List.length_map, List.length_cons, List.length_nil, List.append_nil, List.nil_append, List.take_succ_cons, List.take_zero, List.drop_succ_cons, List.drop_zero, Nat.zero_add, Nat.reduceAdd, Nat.reduceSub, isNon, optI_n, optI_var, optI_lit, optI_bin, optI_neg, optI_idx, optI_bi, optI_call, optI_gl, optI_mt, bq_t, bq_f, bq_not, bq_yes, bq_no, bq_and, bq_or, Bool.not_true, Bool.not_false, Bool.false_and, Bool.true_and, Bool.and_false, Bool.and_true, Bool.or_false, Bool.false_or, Bool.or_true, Bool.true_or, if_true, if_false, Bool.false_eq_true, true_and, and_true, List.any_cons, List.any_nil, List.isEmpty_cons, List.isEmpty_nil, tB_int_non, tB_int_bl, tB_int_int, tB_int_str, tB_int_lst, tB_int_tup, tB_int_dic, tB_bool_non, tB_bool_bl, tB_bool_int, tB_bool_str, tB_bool_lst, tB_bool_tup, tB_bool_dic, tB_str_non, tB_str_bl, tB_str_int, tB_str_str, tB_str_lst, tB_str_tup, tB_str_dic, tB_list_non, tB_list_bl, tB_list_int, tB_list_str, tB_list_lst, tB_list_tup, tB_list_dic, tB_tuple_non, tB_tuple_bl, tB_tuple_int, tB_tuple_str, tB_tuple_lst, tB_tuple_tup, tB_tuple_dic, tB_dict_non, tB_dict_bl, tB_dict_int, tB_dict_str, tB_dict_lst, tB_dict_tup, tB_dict_dic])
    simp

theorem c16 (n : Nat) (ns : List Int) {a c : Int} {Q : Vl → Prop} {X : Nat → D → Prop} (ha : 0 ≤ a ∧ a ≤ 1000) (hc : 0 ≤ c ∧ c ≤ 1000) (hq : ∀ l : List Int, (l.length : Int) = c → (∀ x ∈ l, 0 ≤ x ∧ x < 1009) → Q (.sh, .lst (l.map .int))) : (callD Ps gl 64 (n + 1) 16 [.rls (ns.map .int), .int a, .int c]).wp Q X tg := nums_w rfl ns ha hc hq
theorem c18 (n : Nat) (ns : List Int) {a M : Int} {Q : Vl → Prop} {X : Nat → D → Prop} (ha : 0 ≤ a ∧ a ≤ 1000) (hM : 1 ≤ M ∧ M ≤ 12) (hq : ∀ S : List Nat, 1 ≤ S.length → S.length ≤ 12 → S.Nodup → (∀ c ∈ S, c ∈ AL) → Q (.fu, .str S)) : (callD Ps gl 64 (n + 2) 18 [.rls (ns.map .int), .int a, .int M]).wp Q X tg := by
  (refine w_def rfl rfl rfl ?_; simp only [b18]; (simp only [startE, List.map_cons, List.map_nil, List.length_cons, List.length_nil, Nat.reduceAdd, Nat.reduceSub, List.replicate, List.cons_append, List.nil_append]); (simp (config := {decide := false}) (disch := first | assumption | omega | (simp only [mb_fu, mb_fr, mb_sh, mb_bs, mb_bf, fl_non, fl_bl, fl_int, fl_str, fl_tup, fl_lst, fl_rls, fl_dic, flL_n, flL_c, flL_int, flL_str, isBor_n, isBor_c, pl_non, pl_bl, pl_int, pl_lst, plL_a, pl_tup, plL_n, plL_c, plL_int, at_non, at_bl, at_int, at_str, co_non, co_bl, co_int, co_str, co_lst, co_tup, List.all_cons, List.all_nil, List.length_cons, List.length_nil, List.length_map, beq_self_eq_true, mkb_shfu, mkb_frfu, Bool.false_and, Bool.true_and, Bool.and_true, Bool.and_false, Bool.and_self, Bool.not_true, Bool.not_false, Bool.or_false, Bool.or_true, Bool.true_or, Bool.false_or, Bool.or_self, ne_eq, reduceCtorEq, not_false_eq_true, not_true_eq_false, List.map_cons, List.map_nil]; done) | (have hSZ : SZ = 16777216 := SZ_w; first | omega | (simp only [List.length_map, List.length_append, List.length_cons, List.length_nil, List.length_reverse, List.length_range, List.length_take, List.length_drop, List.length_replicate] <;> omega))) only [gl, c0, c17, c1, c2, c3, wD, c4, c5, c6, c7, c9, c22, c10, c11, c12, c13, c14, c15, c24, c23, ↓wp_ok, ↓wp_ex, ↓wp_bind, ↓w_var, ↓w_cst, ↓w_gl, ↓w_bin, ↓w_neg, ↓w_cmp, ↓w_chain, ↓w_isN, ↓w_notN, ↓w_and, ↓w_or, ↓w_and1, ↓w_and2, ↓w_or1, ↓w_or2, ↓w_not, ↓w_ite, ↓w_lst, ↓w_tup, ↓w_idx, ↓w_slc, ↓w_rev, ↓w_call, ↓w_bi, ↓w_mt1, ↓w_isi, ↓w_comp, ↓w_dcomp, ↓w_dic0, ↓w_dn, ↓w_dc, ↓t_val, ↓t_cmp, ↓t_chain, ↓t_isN, ↓t_notN, ↓t_not, ↓t_and, ↓t_or, ↓t_and1, ↓t_and2, ↓t_or1, ↓t_or2, ↓ts_n, ↓ts_1, ↓i_val, ↓i_rng1, ↓i_rng2, ↓i_enum, ↓i_zip, ↓i_revd, ↓s_nil, ↓s_cons, ↓s_set, ↓s_own, ↓s_par, ↓s_unp, ↓s_aug, ↓s_apd, ↓s_put, ↓s_exp, ↓s_ret, ↓s_retV, ↓s_retN, ↓s_ite, ↓s_for, ↓s_whl, ↓s_brk, ↓s_cnt, ↓s_pas, ↓s_frz, ↓s_nev, ↓s_mtc, ↓m_nil, ↓m_one, ↓m_two, ↓m_any, ↓ow_nx, ↓ow_bk, ↓ow_ct, ↓ow_rt, iw_non, iw_bl, iw_int, iw_str, iw_lst, iw_tup, iw_dic, iw_obj, iw_exc, iw_rls, getV_0, getV_s, getS_0, getS_s, boolW_bl, bindW_nm, bindW_tp, setAll_c, setAll_n, wp_ok, wp_ex, b_addI, b_subI, b_addS, b_addL, b_mulIl, b_mulIr, b_modI, b_divI, b_mulS, w_negI, a_I, a_S, x_lstI, x_rlsI, b_powT, x_lstI', x_str, x_str', x_strM, x_lstM, x_i2, x_i3, x_i4, x_i5, x_i6, x_i11, x_t0, x_t1, x_t2, x_t3, x_l0, cut_to, cut_from, cut_mid, cut_toN, cut_fromN, c_lt, c_le, c_gt, c_ge, c_eq, c_ne, e_same, e_I, e_S, e_B, c_iz, c_niz, c_inS, c_ninS, c_inP, c_ninP, c_inL, c_ninL, c_inT, c_ninT, k_non, k_bl, k_int, k_lst, k_tup, k_str, ty_w, isBor_n, isBor_c, v_lst, v_tup, v_slcL, v_slcS, v_revL, v_revS, bi_1, bi_2, l_lst, l_rls, l_tup, l_str, i_int, i_bl, li_lst, li_tup, li_str, so_int, so_str, al_bl, an_bl, su_int, al_map, an_map, su_map, ab_int, mi_2, ma_2, gc_2, r_joinS, r_indexS, r_indexL, mt_join, it_lst, it_own, it_tup, it_str, rn_ok, en_str, en_lst, zi_lst, re_lst, mb_fu, mb_fr, mb_sh, mb_bs, mb_bf, h_fu, h_fr, h_sh, h_fl, o_fu, o_sh, g_fu, g_fr, g_sh, g_fl, r_some, ol_sh, ol_fu, ap_sh, ap_fu, pu_sh, un_ok, pa_ok, bm_int, bm_str, pm_fr, pm_sh, pm_bs, pm_fu, pm_bf, cm_fr, cm_fu, cm_sh, cm_bs, callM_fl, callM_nb, rdV_fr, rdV_sh, rdV_fu, norm_fl, norm_lst, norm_nf, fl_non, fl_bl, fl_int, fl_str, fl_tup, fl_lst, fl_rls, fl_dic, flL_n, flL_c, flL_int, flL_str, wipe_n, wipe_c, List.set_cons_zero, List.set_cons_succ, List.set_nil, List.map_cons, List.map_nil, List.length_map, List.length_cons, List.length_nil, List.append_nil, List.nil_append, List.take_succ_cons, List.take_zero, List.drop_succ_cons, List.drop_zero, Nat.zero_add, Nat.reduceAdd, Nat.reduceSub, isNon, optI_n, optI_var, optI_lit, optI_bin, optI_neg, optI_idx, optI_bi, optI_call, optI_gl, optI_mt, bq_t, bq_f, bq_not, bq_yes, bq_no, bq_and, bq_or, Bool.not_true, Bool.not_false, Bool.false_and, Bool.true_and, Bool.and_false, Bool.and_true, Bool.or_false, Bool.false_or, Bool.or_true, Bool.true_or, if_true, if_false, Bool.false_eq_true, true_and, and_true, List.any_cons, List.any_nil, List.isEmpty_cons, List.isEmpty_nil, tB_int_non, tB_int_bl, tB_int_int, tB_int_str, tB_int_lst, tB_int_tup, tB_int_dic, tB_bool_non, tB_bool_bl, tB_bool_int, tB_bool_str, tB_bool_lst, tB_bool_tup, tB_bool_dic, tB_str_non, tB_str_bl, tB_str_int, tB_str_str, tB_str_lst, tB_str_tup, tB_str_dic, tB_list_non, tB_list_bl, tB_list_int, tB_list_str, tB_list_lst, tB_list_tup, tB_list_dic, tB_tuple_non, tB_tuple_bl, tB_tuple_int, tB_tuple_str, tB_tuple_lst, tB_tuple_tup, tB_tuple_dic, tB_dict_non, tB_dict_bl, tB_dict_int, tB_dict_str, tB_dict_lst, tB_dict_tup, tB_dict_dic]))
  refine c16 n ns ha (by omega) fun l hl hb => ?_
  have h0 := ith_b (i := 0) hb (by omega)
  have h0' := modI (a := ith l 0) (n := M.toNat) (by omega)
  rw [show ((M.toNat : Nat) : Int) = M by omega] at h0'
  (simp (config := {decide := false}) (disch := first | assumption | omega | (simp only [mb_fu, mb_fr, mb_sh, mb_bs, mb_bf, fl_non, fl_bl, fl_int, fl_str, fl_tup, fl_lst, fl_rls, fl_dic, flL_n, flL_c, flL_int, flL_str, isBor_n, isBor_c, pl_non, pl_bl, pl_int, pl_lst, plL_a, pl_tup, plL_n, plL_c, plL_int, at_non, at_bl, at_int, at_str, co_non, co_bl, co_int, co_str, co_lst, co_tup, List.all_cons, List.all_nil, List.length_cons, List.length_nil, List.length_map, beq_self_eq_true, mkb_shfu, mkb_frfu, Bool.false_and, Bool.true_and, Bool.and_true, Bool.and_false, Bool.and_self, Bool.not_true, Bool.not_false, Bool.or_false, Bool.or_true, Bool.true_or, Bool.false_or, Bool.or_self, ne_eq, reduceCtorEq, not_false_eq_true, not_true_eq_false, List.map_cons, List.map_nil]; done) | (have hSZ : SZ = 16777216 := SZ_w; first | omega | (simp only [List.length_map, List.length_append, List.length_cons, List.length_nil, List.length_reverse, List.length_range, List.length_take, List.length_drop, List.length_replicate] <;> omega))) only [gl, c0, c17, c1, c2, c3, wD, c4, c5, c6, c7, c9, c22, c10, c11, c12, c13, c14, c15, c24, c23, ↓wp_ok, ↓wp_ex, ↓wp_bind, ↓w_var, ↓w_cst, ↓w_gl, ↓w_bin, ↓w_neg, ↓w_cmp, ↓w_chain, ↓w_isN, ↓w_notN, ↓w_and, ↓w_or, ↓w_and1, ↓w_and2, ↓w_or1, ↓w_or2, ↓w_not, ↓w_ite, ↓w_lst, ↓w_tup, ↓w_idx, ↓w_slc, ↓w_rev, ↓w_call, ↓w_bi, ↓w_mt1, ↓w_isi, ↓w_comp, ↓w_dcomp, ↓w_dic0, ↓w_dn, ↓w_dc, ↓t_val, ↓t_cmp, ↓t_chain, ↓t_isN, ↓t_notN, ↓t_not, ↓t_and, ↓t_or, ↓t_and1, ↓t_and2, ↓t_or1, ↓t_or2, ↓ts_n, ↓ts_1, ↓i_val, ↓i_rng1, ↓i_rng2, ↓i_enum, ↓i_zip, ↓i_revd, ↓s_nil, ↓s_cons, ↓s_set, ↓s_own, ↓s_par, ↓s_unp, ↓s_aug, ↓s_apd, ↓s_put, ↓s_exp, ↓s_ret, ↓s_retV, ↓s_retN, ↓s_ite, ↓s_for, ↓s_whl, ↓s_brk, ↓s_cnt, ↓s_pas, ↓s_frz, ↓s_nev, ↓s_mtc, ↓m_nil, ↓m_one, ↓m_two, ↓m_any, ↓ow_nx, ↓ow_bk, ↓ow_ct, ↓ow_rt, iw_non, iw_bl, iw_int, iw_str, iw_lst, iw_tup, iw_dic, iw_obj, iw_exc, iw_rls, getV_0, getV_s, getS_0, getS_s, boolW_bl, bindW_nm, bindW_tp, setAll_c, setAll_n, wp_ok, wp_ex, b_addI, b_subI, b_addS, b_addL, b_mulIl, b_mulIr, b_modI, b_divI, b_mulS, w_negI, a_I, a_S, x_lstI, x_rlsI, b_powT, x_lstI', x_str, x_str', x_strM, x_lstM, x_i2, x_i3, x_i4, x_i5, x_i6, x_i11, x_t0, x_t1, x_t2, x_t3, x_l0, cut_to, cut_from, cut_mid, cut_toN, cut_fromN, c_lt, c_le, c_gt, c_ge, c_eq, c_ne, e_same, e_I, e_S, e_B, c_iz, c_niz, c_inS, c_ninS, c_inP, c_ninP, c_inL, c_ninL, c_inT, c_ninT, k_non, k_bl, k_int, k_lst, k_tup, k_str, ty_w, isBor_n, isBor_c, v_lst, v_tup, v_slcL, v_slcS, v_revL, v_revS, bi_1, bi_2, l_lst, l_rls, l_tup, l_str, i_int, i_bl, li_lst, li_tup, li_str, so_int, so_str, al_bl, an_bl, su_int, al_map, an_map, su_map, ab_int, mi_2, ma_2, gc_2, r_joinS, r_indexS, r_indexL, mt_join, it_lst, it_own, it_tup, it_str, rn_ok, en_str, en_lst, zi_lst, re_lst, mb_fu, mb_fr, mb_sh, mb_bs, mb_bf, h_fu, h_fr, h_sh, h_fl, o_fu, o_sh, g_fu, g_fr, g_sh, g_fl, r_some, ol_sh, ol_fu, ap_sh, ap_fu, pu_sh, un_ok, pa_ok, bm_int, bm_str, pm_fr, pm_sh, pm_bs, pm_fu, pm_bf, cm_fr, cm_fu, cm_sh, cm_bs, callM_fl, callM_nb, rdV_fr, rdV_sh, rdV_fu, norm_fl, norm_lst, norm_nf, fl_non, fl_bl, fl_int, fl_str, fl_tup, fl_lst, fl_rls, fl_dic, flL_n, flL_c, flL_int, flL_str, wipe_n, wipe_c, List.set_cons_zero, List.set_cons_succ, List.set_nil, List.map_cons, List.map_nil, List.length_map, List.length_cons, List.length_nil, List.append_nil, List.nil_append, List.take_succ_cons, List.take_zero, List.drop_succ_cons, List.drop_zero, Nat.zero_add, Nat.reduceAdd, Nat.reduceSub, isNon, optI_n, optI_var, optI_lit, optI_bin, optI_neg, optI_idx, optI_bi, optI_call, optI_gl, optI_mt, bq_t, bq_f, bq_not, bq_yes, bq_no, bq_and, bq_or, Bool.not_true, Bool.not_false, Bool.false_and, Bool.true_and, Bool.and_false, Bool.and_true, Bool.or_false, Bool.false_or, Bool.or_true, Bool.true_or, if_true, if_false, Bool.false_eq_true, true_and, and_true, List.any_cons, List.any_nil, List.isEmpty_cons, List.isEmpty_nil, tB_int_non, tB_int_bl, tB_int_int, tB_int_str, tB_int_lst, tB_int_tup, tB_int_dic, tB_bool_non, tB_bool_bl, tB_bool_int, tB_bool_str, tB_bool_lst, tB_bool_tup, tB_bool_dic, tB_str_non, tB_str_bl, tB_str_int, tB_str_str, tB_str_lst, tB_str_tup, tB_str_dic, tB_list_non, tB_list_bl, tB_list_int, tB_list_str, tB_list_lst, tB_list_tup, tB_list_dic, tB_tuple_non, tB_tuple_bl, tB_tuple_int, tB_tuple_str, tB_tuple_lst, tB_tuple_tup, tB_tuple_dic, tB_dict_non, tB_dict_bl, tB_dict_int, tB_dict_str, tB_dict_lst, tB_dict_tup, tB_dict_dic])
  refine for_rng (fun i E => ∃ F L q r, E = [some (.fr, .rls (ns.map .int)), some (.fr, .int a), some (.fr, .int M), some (.fr, .lst (l.map .int)), some (.fr, .str L), some (.fr, .str F), q, r] ∧ (F.length : Int) = i ∧ (F ++ L).Perm AL) ⟨[], AL, none, none, rfl, rfl, List.Perm.refl _⟩ ?_ ?_
  · rintro i E h1 h2 ⟨F, L, q, r, rfl, hF, hp⟩
    have hlen := hp.length_eq
    rw [List.length_append] at hlen
    have hAL : AL.length = 36 := rfl
    have fin : ∀ j : Int, 0 ≤ j ∧ j < L.length → ∃ F' L' q r, ([some (.fr, .rls (ns.map .int)), some (.fr, .int a), some (.fr, .int M), some (.fr, .lst (l.map .int)), some (.fr, .str (L.take j.toNat ++ L.drop (j + 1).toNat)), some (.fr, .str (F ++ [sgn L j])), some (.fr, .int i), some (.fr, .int j)] : Ev) = [some (.fr, .rls (ns.map .int)), some (.fr, .int a), some (.fr, .int M), some (.fr, .lst (l.map .int)), some (.fr, .str L'), some (.fr, .str F'), q, r] ∧ (F'.length : Int) = i + 1 ∧ (F' ++ L').Perm AL := by
      intro j hj
      refine ⟨F ++ [sgn L j], _, _, _, rfl, by simp [hF], ?_⟩
      refine List.Perm.trans ?_ hp
      rw [show (j + 1).toNat = j.toNat + 1 by omega]
      conv => rhs; rw [← take_drop_ith hj]
      rw [List.append_assoc]
      exact List.Perm.append_left F (by rw [List.singleton_append]; exact List.perm_middle.symm)
    have hm := modI (a := ith l (1 + i)) (n := L.length) (by omega)
    (simp (config := {decide := false}) (disch := first | assumption | omega | (simp only [mb_fu, mb_fr, mb_sh, mb_bs, mb_bf, fl_non, fl_bl, fl_int, fl_str, fl_tup, fl_lst, fl_rls, fl_dic, flL_n, flL_c, flL_int, flL_str, isBor_n, isBor_c, pl_non, pl_bl, pl_int, pl_lst, plL_a, pl_tup, plL_n, plL_c, plL_int, at_non, at_bl, at_int, at_str, co_non, co_bl, co_int, co_str, co_lst, co_tup, List.all_cons, List.all_nil, List.length_cons, List.length_nil, List.length_map, beq_self_eq_true, mkb_shfu, mkb_frfu, Bool.false_and, Bool.true_and, Bool.and_true, Bool.and_false, Bool.and_self, Bool.not_true, Bool.not_false, Bool.or_false, Bool.or_true, Bool.true_or, Bool.false_or, Bool.or_self, ne_eq, reduceCtorEq, not_false_eq_true, not_true_eq_false, List.map_cons, List.map_nil]; done) | (have hSZ : SZ = 16777216 := SZ_w; first | omega | (simp only [List.length_map, List.length_append, List.length_cons, List.length_nil, List.length_reverse, List.length_range, List.length_take, List.length_drop, List.length_replicate] <;> omega))) only [gl, c0, c17, c1, c2, c3, wD, c4, c5, c6, c7, c9, c22, c10, c11, c12, c13, c14, c15, c24, c23, ↓wp_ok, ↓wp_ex, ↓wp_bind, ↓w_var, ↓w_cst, ↓w_gl, ↓w_bin, ↓w_neg, ↓w_cmp, ↓w_chain, ↓w_isN, ↓w_notN, ↓w_and, ↓w_or, ↓w_and1, ↓w_and2, ↓w_or1, ↓w_or2, ↓w_not, ↓w_ite, ↓w_lst, ↓w_tup, ↓w_idx, ↓w_slc, ↓w_rev, ↓w_call, ↓w_bi, ↓w_mt1, ↓w_isi, ↓w_comp, ↓w_dcomp, ↓w_dic0, ↓w_dn, ↓w_dc, ↓t_val, ↓t_cmp, ↓t_chain, ↓t_isN, ↓t_notN, ↓t_not, ↓t_and, ↓t_or, ↓t_and1, ↓t_and2, ↓t_or1, ↓t_or2, ↓ts_n, ↓ts_1, ↓i_val, ↓i_rng1, ↓i_rng2, ↓i_enum, ↓i_zip, ↓i_revd, ↓s_nil, ↓s_cons, ↓s_set, ↓s_own, ↓s_par, ↓s_unp, ↓s_aug, ↓s_apd, ↓s_put, ↓s_exp, ↓s_ret, ↓s_retV, ↓s_retN, ↓s_ite, ↓s_for, ↓s_whl, ↓s_brk, ↓s_cnt, ↓s_pas, ↓s_frz, ↓s_nev, ↓s_mtc, ↓m_nil, ↓m_one, ↓m_two, ↓m_any, ↓ow_nx, ↓ow_bk, ↓ow_ct, ↓ow_rt, iw_non, iw_bl, iw_int, iw_str, iw_lst, iw_tup, iw_dic, iw_obj, iw_exc, iw_rls, getV_0, getV_s, getS_0, getS_s, boolW_bl, bindW_nm, bindW_tp, setAll_c, setAll_n, wp_ok, wp_ex, b_addI, b_subI, b_addS, b_addL, b_mulIl, b_mulIr, b_modI, b_divI, b_mulS, w_negI, a_I, a_S, x_lstI, x_rlsI, b_powT, x_lstI', x_str, x_str', x_strM, x_lstM, x_i2, x_i3, x_i4, x_i5, x_i6, x_i11, x_t0, x_t1, x_t2, x_t3, x_l0, cut_to, cut_from, cut_mid, cut_toN, cut_fromN, c_lt, c_le, c_gt, c_ge, c_eq, c_ne, e_same, e_I, e_S, e_B, c_iz, c_niz, c_inS, c_ninS, c_inP, c_ninP, c_inL, c_ninL, c_inT, c_ninT, k_non, k_bl, k_int, k_lst, k_tup, k_str, ty_w, isBor_n, isBor_c, v_lst, v_tup, v_slcL, v_slcS, v_revL, v_revS, bi_1, bi_2, l_lst, l_rls, l_tup, l_str, i_int, i_bl, li_lst, li_tup, li_str, so_int, so_str, al_bl, an_bl, su_int, al_map, an_map, su_map, ab_int, mi_2, ma_2, gc_2, r_joinS, r_indexS, r_indexL, mt_join, it_lst, it_own, it_tup, it_str, rn_ok, en_str, en_lst, zi_lst, re_lst, mb_fu, mb_fr, mb_sh, mb_bs, mb_bf, h_fu, h_fr, h_sh, h_fl, o_fu, o_sh, g_fu, g_fr, g_sh, g_fl, r_some, ol_sh, ol_fu, ap_sh, ap_fu, pu_sh, un_ok, pa_ok, bm_int, bm_str, pm_fr, pm_sh, pm_bs, pm_fu, pm_bf, cm_fr, cm_fu, cm_sh, cm_bs, callM_fl, callM_nb, rdV_fr, rdV_sh, rdV_fu, norm_fl, norm_lst, norm_nf, fl_non, fl_bl, fl_int, fl_str, fl_tup, fl_lst, fl_rls, fl_dic, flL_n, flL_c, flL_int, flL_str, wipe_n, wipe_c, List.set_cons_zero, List.set_cons_succ, List.set_nil, List.map_cons, List.map_nil, List.length_map, List.length_cons, List.length_nil, List.append_nil, List.nil_append, List.take_succ_cons, List.take_zero, List.drop_succ_cons, List.drop_zero, Nat.zero_add, Nat.reduceAdd, Nat.reduceSub, isNon, optI_n, optI_var, optI_lit, optI_bin, optI_neg, optI_idx, optI_bi, optI_call, optI_gl, optI_mt, bq_t, bq_f, bq_not, bq_yes, bq_no, bq_and, bq_or, Bool.not_true, Bool.not_false, Bool.false_and, Bool.true_and, Bool.and_false, Bool.and_true, Bool.or_false, Bool.false_or, Bool.or_true, Bool.true_or, if_true, if_false, Bool.false_eq_true, true_and, and_true, List.any_cons, List.any_nil, List.isEmpty_cons, List.isEmpty_nil, tB_int_non, tB_int_bl, tB_int_int, tB_int_str, tB_int_lst, tB_int_tup, tB_int_dic, tB_bool_non, tB_bool_bl, tB_bool_int, tB_bool_str, tB_bool_lst, tB_bool_tup, tB_bool_dic, tB_str_non, tB_str_bl, tB_str_int, tB_str_str, tB_str_lst, tB_str_tup, tB_str_dic, tB_list_non, tB_list_bl, tB_list_int, tB_list_str, tB_list_lst, tB_list_tup, tB_list_dic, tB_tuple_non, tB_tuple_bl, tB_tuple_int, tB_tuple_str, tB_tuple_lst, tB_tuple_tup, tB_tuple_dic, tB_dict_non, tB_dict_bl, tB_dict_int, tB_dict_str, tB_dict_lst, tB_dict_tup, tB_dict_dic])
    (repeat' (first | (simp (config := {decide := false}) (disch := first | assumption | omega | (simp only [mb_fu, mb_fr, mb_sh, mb_bs, mb_bf, fl_non, fl_bl, fl_int, fl_str, fl_tup, fl_lst, fl_rls, fl_dic, flL_n, flL_c, flL_int, flL_str, isBor_n, isBor_c, pl_non, pl_bl, pl_int, pl_lst, plL_a, pl_tup, plL_n, plL_c, plL_int, at_non, at_bl, at_int, at_str, co_non, co_bl, co_int, co_str, co_lst, co_tup, List.all_cons, List.all_nil, List.length_cons, List.length_nil, List.length_map, beq_self_eq_true, mkb_shfu, mkb_frfu, Bool.false_and, Bool.true_and, Bool.and_true, Bool.and_false, Bool.and_self, Bool.not_true, Bool.not_false, Bool.or_false, Bool.or_true, Bool.true_or, Bool.false_or, Bool.or_self, ne_eq, reduceCtorEq, not_false_eq_true, not_true_eq_false, List.map_cons, List.map_nil]; done) | (have hSZ : SZ = 16777216 := SZ_w; first | omega | (simp only [List.length_map, List.length_append, List.length_cons, List.length_nil, List.length_reverse, List.length_range, List.length_take, List.length_drop, List.length_replicate] <;> omega))) only [gl, c0, c17, c1, c2, c3, wD, c4, c5, c6, c7, c9, c22, c10, c11, c12, c13, c14, c15, c24, c23, ↓wp_ok, ↓wp_ex, ↓wp_bind, ↓w_var, ↓w_cst, ↓w_gl, ↓w_bin, ↓w_neg, ↓w_cmp, ↓w_chain, ↓w_isN, ↓w_notN, ↓w_and, ↓w_or, ↓w_and1, ↓w_and2, ↓w_or1, ↓w_or2, ↓w_not, ↓w_ite, ↓w_lst, ↓w_tup, ↓w_idx, ↓w_slc, ↓w_rev, ↓w_call, ↓w_bi, ↓w_mt1, ↓w_isi, ↓w_comp, ↓w_dcomp, ↓w_dic0, ↓w_dn, ↓w_dc, ↓t_val, ↓t_cmp, ↓t_chain, ↓t_isN, ↓t_notN, ↓t_not, ↓t_and, ↓t_or, ↓t_and1, ↓t_and2, ↓t_or1, ↓t_or2, ↓ts_n, ↓ts_1, ↓i_val, ↓i_rng1, ↓i_rng2, ↓i_enum, ↓i_zip, ↓i_revd, ↓s_nil, ↓s_cons, ↓s_set, ↓s_own, ↓s_par, ↓s_unp, ↓s_aug, ↓s_apd, ↓s_put, ↓s_exp, ↓s_ret, ↓s_retV, ↓s_retN, ↓s_ite, ↓s_for, ↓s_whl, ↓s_brk, ↓s_cnt, ↓s_pas, ↓s_frz, ↓s_nev, ↓s_mtc, ↓m_nil, ↓m_one, ↓m_two, ↓m_any, ↓ow_nx, ↓ow_bk, ↓ow_ct, ↓ow_rt, iw_non, iw_bl, iw_int, iw_str, iw_lst, iw_tup, iw_dic, iw_obj, iw_exc, iw_rls, getV_0, getV_s, getS_0, getS_s, boolW_bl, bindW_nm, bindW_tp, setAll_c, setAll_n, wp_ok, wp_ex, b_addI, b_subI, b_addS, b_addL, b_mulIl, b_mulIr, b_modI, b_divI, b_mulS, w_negI, a_I, a_S, x_lstI, x_rlsI, b_powT, x_lstI', x_str, x_str', x_strM, x_lstM, x_i2, x_i3, x_i4, x_i5, x_i6, x_i11, x_t0, x_t1, x_t2, x_t3, x_l0, cut_to, cut_from, cut_mid, cut_toN, cut_fromN, c_lt, c_le, c_gt, c_ge, c_eq, c_ne, e_same, e_I, e_S, e_B, c_iz, c_niz, c_inS, c_ninS, c_inP, c_ninP, c_inL, c_ninL, c_inT, c_ninT, k_non, k_bl, k_int, k_lst, k_tup, k_str, ty_w, isBor_n, isBor_c, v_lst, v_tup, v_slcL, v_slcS, v_revL, v_revS, bi_1, bi_2, l_lst, l_rls, l_tup, l_str, i_int, i_bl, li_lst, li_tup, li_str, so_int, so_str, al_bl, an_bl, su_int, al_map, an_map, su_map, ab_int, mi_2, ma_2, gc_2, r_joinS, r_indexS, r_indexL, mt_join, it_lst, it_own, it_tup, it_str, rn_ok, en_str, en_lst, zi_lst, re_lst, mb_fu, mb_fr, mb_sh, mb_bs, mb_bf, h_fu, h_fr, h_sh, h_fl, o_fu, o_sh, g_fu, g_fr, g_sh, g_fl, r_some, ol_sh, ol_fu, ap_sh, ap_fu, pu_sh, un_ok, pa_ok, bm_int, bm_str, pm_fr, pm_sh, pm_bs, pm_fu, pm_bf, cm_fr, cm_fu, cm_sh, cm_bs, callM_fl, callM_nb, rdV_fr, rdV_sh, rdV_fu, norm_fl, norm_lst, norm_nf, fl_non, fl_bl, fl_int, fl_str, fl_tup, fl_lst, fl_rls, fl_dic, flL_n, flL_c, flL_int, flL_str, wipe_n, wipe_c, List.set_cons_zero, List.set_cons_succ, List.set_nil, List.map_cons, List.map_nil, List.length_map, List.length_cons, List.length_nil, List.append_nil, List.nil_append, List.take_succ_cons, List.take_zero, List.drop_succ_cons, List.drop_zero, Nat.zero_add, Nat.reduceAdd, Nat.reduceSub, isNon, optI_n, optI_var, optI_lit, optI_bin, optI_neg, optI_idx, optI_bi, optI_call, optI_gl, optI_mt, bq_t, bq_f, bq_not, bq_yes, bq_no, bq_and, bq_or, Bool.not_true, Bool.not_false, Bool.false_and, Bool.true_and, Bool.and_false, Bool.and_true, Bool.or_false, Bool.false_or, Bool.or_true, Bool.true_or, if_true, if_false, Bool.false_eq_true, true_and, and_true, List.any_cons, List.any_nil, List.isEmpty_cons, List.isEmpty_nil, tB_int_non, tB_int_bl, tB_int_int, tB_int_str, tB_int_lst, tB_int_tup, tB_int_dic, tB_bool_non, tB_bool_bl, tB_bool_int, tB_bool_str, tB_bool_lst, tB_bool_tup, tB_bool_dic, tB_str_non, tB_str_bl, tB_str_int, tB_str_str, tB_str_lst, tB_str_tup, tB_str_dic, tB_list_non, tB_list_bl, tB_list_int, tB_list_str, tB_list_lst, tB_list_tup, tB_list_dic, tB_tuple_non, tB_tuple_bl, tB_tuple_int, tB_tuple_str, tB_tuple_lst, tB_tuple_tup, tB_tuple_dic, tB_dict_non, tB_dict_bl, tB_dict_int, tB_dict_str, tB_dict_lst, tB_dict_tup, tB_dict_dic]) | (rw [bq_dec]; refine ⟨fun _ => ?_, fun _ => ?_⟩)))
    · exact fin 0 (by omega)
    · exact fin _ hm
  · rintro E ⟨F, L, q, r, rfl, hF, hp⟩
    (simp (config := {decide := false}) (disch := first | assumption | omega | (simp only [mb_fu, mb_fr, mb_sh, mb_bs, mb_bf, fl_non, fl_bl, fl_int, fl_str, fl_tup, fl_lst, fl_rls, fl_dic, flL_n, flL_c, flL_int, flL_str, isBor_n, isBor_c, pl_non, pl_bl, pl_int, pl_lst, plL_a, pl_tup, plL_n, plL_c, plL_int, at_non, at_bl, at_int, at_str, co_non, co_bl, co_int, co_str, co_lst, co_tup, List.all_cons, List.all_nil, List.length_cons, List.length_nil, List.length_map, beq_self_eq_true, mkb_shfu, mkb_frfu, Bool.false_and, Bool.true_and, Bool.and_true, Bool.and_false, Bool.and_self, Bool.not_true, Bool.not_false, Bool.or_false, Bool.or_true, Bool.true_or, Bool.false_or, Bool.or_self, ne_eq, reduceCtorEq, not_false_eq_true, not_true_eq_false, List.map_cons, List.map_nil]; done) | (have hSZ : SZ = 16777216 := SZ_w; first | omega | (simp only [List.length_map, List.length_append, List.length_cons, List.length_nil, List.length_reverse, List.length_range, List.length_take, List.length_drop, List.length_replicate] <;> omega))) only [gl, c0, c17, c1, c2, c3, wD, c4, c5, c6, c7, c9, c22, c10, c11, c12, c13, c14, c15, c24, c23, ↓wp_ok, ↓wp_ex, ↓wp_bind, ↓w_var, ↓w_cst, ↓w_gl, ↓w_bin, ↓w_neg, ↓w_cmp, ↓w_chain, ↓w_isN, ↓w_notN, ↓w_and, ↓w_or, ↓w_and1, ↓w_and2, ↓w_or1, ↓w_or2, ↓w_not, ↓w_ite, ↓w_lst, ↓w_tup, ↓w_idx, ↓w_slc, ↓w_rev, ↓w_call, ↓w_bi, ↓w_mt1, ↓w_isi, ↓w_comp, ↓w_dcomp, ↓w_dic0, ↓w_dn, ↓w_dc, ↓t_val, ↓t_cmp, ↓t_chain, ↓t_isN, ↓t_notN, ↓t_not, ↓t_and, ↓t_or, ↓t_and1, ↓t_and2, ↓t_or1, ↓t_or2, ↓ts_n, ↓ts_1, ↓i_val, ↓i_rng1, ↓i_rng2, ↓i_enum, ↓i_zip, ↓i_revd, ↓s_nil, ↓s_cons, ↓s_set, ↓s_own, ↓s_par, ↓s_unp, ↓s_aug, ↓s_apd, ↓s_put, ↓s_exp, ↓s_ret, ↓s_retV, ↓s_retN, ↓s_ite, ↓s_for, ↓s_whl, ↓s_brk, ↓s_cnt, ↓s_pas, ↓s_frz, ↓s_nev, ↓s_mtc, ↓m_nil, ↓m_one, ↓m_two, ↓m_any, ↓ow_nx, ↓ow_bk, ↓ow_ct, ↓ow_rt, iw_non, iw_bl, iw_int, iw_str, iw_lst, iw_tup, iw_dic, iw_obj, iw_exc, iw_rls, getV_0, getV_s, getS_0, getS_s, boolW_bl, bindW_nm, bindW_tp, setAll_c, setAll_n, wp_ok, wp_ex, b_addI, b_subI, b_addS, b_addL, b_mulIl, b_mulIr, b_modI, b_divI, b_mulS, w_negI, a_I, a_S, x_lstI, x_rlsI, b_powT, x_lstI', x_str, x_str', x_strM, x_lstM, x_i2, x_i3, x_i4, x_i5, x_i6, x_i11, x_t0, x_t1, x_t2, x_t3, x_l0, cut_to, cut_from, cut_mid, cut_toN, cut_fromN, c_lt, c_le, c_gt, c_ge, c_eq, c_ne, e_same, e_I, e_S, e_B, c_iz, c_niz, c_inS, c_ninS, c_inP, c_ninP, c_inL, c_ninL, c_inT, c_ninT, k_non, k_bl, k_int, k_lst, k_tup, k_str, ty_w, isBor_n, isBor_c, v_lst, v_tup, v_slcL, v_slcS, v_revL, v_revS, bi_1, bi_2, l_lst, l_rls, l_tup, l_str, i_int, i_bl, li_lst, li_tup, li_str, so_int, so_str, al_bl, an_bl, su_int, al_map, an_map, su_map, ab_int, mi_2, ma_2, gc_2, r_joinS, r_indexS, r_indexL, mt_join, it_lst, it_own, it_tup, it_str, rn_ok, en_str, en_lst, zi_lst, re_lst, mb_fu, mb_fr, mb_sh, mb_bs, mb_bf, h_fu, h_fr, h_sh, h_fl, o_fu, o_sh, g_fu, g_fr, g_sh, g_fl, r_some, ol_sh, ol_fu, ap_sh, ap_fu, pu_sh, un_ok, pa_ok, bm_int, bm_str, pm_fr, pm_sh, pm_bs, pm_fu, pm_bf, cm_fr, cm_fu, cm_sh, cm_bs, callM_fl, callM_nb, rdV_fr, rdV_sh, rdV_fu, norm_fl, norm_lst, norm_nf, fl_non, fl_bl, fl_int, fl_str, fl_tup, fl_lst, fl_rls, fl_dic, flL_n, flL_c, flL_int, flL_str, wipe_n, wipe_c, List.set_cons_zero, List.set_cons_succ, List.set_nil, List.map_cons, List.map_nil, List.length_map, List.length_cons, List.length_nil, List.append_nil, List.nil_append, List.take_succ_cons, List.take_zero, List.drop_succ_cons, List.drop_zero, Nat.zero_add, Nat.reduceAdd, Nat.reduceSub, isNon, optI_n, optI_var, optI_lit, optI_bin, optI_neg, optI_idx, optI_bi, optI_call, optI_gl, optI_mt, bq_t, bq_f, bq_not, bq_yes, bq_no, bq_and, bq_or, Bool.not_true, Bool.not_false, Bool.false_and, Bool.true_and, Bool.and_false, Bool.and_true, Bool.or_false, Bool.false_or, Bool.or_true, Bool.true_or, if_true, if_false, Bool.false_eq_true, true_and, and_true, List.any_cons, List.any_nil, List.isEmpty_cons, List.isEmpty_nil, tB_int_non, tB_int_bl, tB_int_int, tB_int_str, tB_int_lst, tB_int_tup, tB_int_dic, tB_bool_non, tB_bool_bl, tB_bool_int, tB_bool_str, tB_bool_lst, tB_bool_tup, tB_bool_dic, tB_str_non, tB_str_bl, tB_str_int, tB_str_str, tB_str_lst, tB_str_tup, tB_str_dic, tB_list_non, tB_list_bl, tB_list_int, tB_list_str, tB_list_lst, tB_list_tup, tB_list_dic, tB_tuple_non, tB_tuple_bl, tB_tuple_int, tB_tuple_str, tB_tuple_lst, tB_tuple_tup, tB_tuple_dic, tB_dict_non, tB_dict_bl, tB_dict_int, tB_dict_str, tB_dict_lst, tB_dict_tup, tB_dict_dic])
    have nd : AL.Nodup := by decide
    have nd2 := (hp.nodup_iff).mpr nd
    exact hq F (by omega) (by omega) (List.nodup_append.mp nd2).1 fun c hc => hp.subset (List.mem_append_left _ hc)

theorem c20 (n : Nat) (ns : List Int) {a : Int} {Q : Vl → Prop} {X : Nat → D → Prop} (ha : 0 ≤ a ∧ a ≤ 1000) (hq : ∀ m ws, Wt m ws → Q (.fr, wD m ws)) : (callD Ps gl 64 (n + 2) 20 [.rls (ns.map .int), .int a]).wp Q X tg := by
  (refine w_def rfl rfl rfl ?_; simp only [b20]; (simp only [startE, List.map_cons, List.map_nil, List.length_cons, List.length_nil, Nat.reduceAdd, Nat.reduceSub, List.replicate, List.cons_append, List.nil_append]); (simp (config := {decide := false}) (disch := first | assumption | omega | (simp only [mb_fu, mb_fr, mb_sh, mb_bs, mb_bf, fl_non, fl_bl, fl_int, fl_str, fl_tup, fl_lst, fl_rls, fl_dic, flL_n, flL_c, flL_int, flL_str, isBor_n, isBor_c, pl_non, pl_bl, pl_int, pl_lst, plL_a, pl_tup, plL_n, plL_c, plL_int, at_non, at_bl, at_int, at_str, co_non, co_bl, co_int, co_str, co_lst, co_tup, List.all_cons, List.all_nil, List.length_cons, List.length_nil, List.length_map, beq_self_eq_true, mkb_shfu, mkb_frfu, Bool.false_and, Bool.true_and, Bool.and_true, Bool.and_false, Bool.and_self, Bool.not_true, Bool.not_false, Bool.or_false, Bool.or_true, Bool.true_or, Bool.false_or, Bool.or_self, ne_eq, reduceCtorEq, not_false_eq_true, not_true_eq_false, List.map_cons, List.map_nil]; done) | (have hSZ : SZ = 16777216 := SZ_w; first | omega | (simp only [List.length_map, List.length_append, List.length_cons, List.length_nil, List.length_reverse, List.length_range, List.length_take, List.length_drop, List.length_replicate] <;> omega))) only [gl, c0, c17, c1, c2, c3, wD, c4, c5, c6, c7, c9, c22, c10, c11, c12, c13, c14, c15, c24, c23, ↓wp_ok, ↓wp_ex, ↓wp_bind, ↓w_var, ↓w_cst, ↓w_gl, ↓w_bin, ↓w_neg, ↓w_cmp, ↓w_chain, ↓w_isN, ↓w_notN, ↓w_and, ↓w_or, ↓w_and1, ↓w_and2, ↓w_or1, ↓w_or2, ↓w_not, ↓w_ite, ↓w_lst, ↓w_tup, ↓w_idx, ↓w_slc, ↓w_rev, ↓w_call, ↓w_bi, ↓w_mt1, ↓w_isi, ↓w_comp, ↓w_dcomp, ↓w_dic0, ↓w_dn, ↓w_dc, ↓t_val, ↓t_cmp, ↓t_chain, ↓t_isN, ↓t_notN, ↓t_not, ↓t_and, ↓t_or, ↓t_and1, ↓t_and2, ↓t_or1, ↓t_or2, ↓ts_n, ↓ts_1, ↓i_val, ↓i_rng1, ↓i_rng2, ↓i_enum, ↓i_zip, ↓i_revd, ↓s_nil, ↓s_cons, ↓s_set, ↓s_own, ↓s_par, ↓s_unp, ↓s_aug, ↓s_apd, ↓s_put, ↓s_exp, ↓s_ret, ↓s_retV, ↓s_retN, ↓s_ite, ↓s_for, ↓s_whl, ↓s_brk, ↓s_cnt, ↓s_pas, ↓s_frz, ↓s_nev, ↓s_mtc, ↓m_nil, ↓m_one, ↓m_two, ↓m_any, ↓ow_nx, ↓ow_bk, ↓ow_ct, ↓ow_rt, iw_non, iw_bl, iw_int, iw_str, iw_lst, iw_tup, iw_dic, iw_obj, iw_exc, iw_rls, getV_0, getV_s, getS_0, getS_s, boolW_bl, bindW_nm, bindW_tp, setAll_c, setAll_n, wp_ok, wp_ex, b_addI, b_subI, b_addS, b_addL, b_mulIl, b_mulIr, b_modI, b_divI, b_mulS, w_negI, a_I, a_S, x_lstI, x_rlsI, b_powT, x_lstI', x_str, x_str', x_strM, x_lstM, x_i2, x_i3, x_i4, x_i5, x_i6, x_i11, x_t0, x_t1, x_t2, x_t3, x_l0, cut_to, cut_from, cut_mid, cut_toN, cut_fromN, c_lt, c_le, c_gt, c_ge, c_eq, c_ne, e_same, e_I, e_S, e_B, c_iz, c_niz, c_inS, c_ninS, c_inP, c_ninP, c_inL, c_ninL, c_inT, c_ninT, k_non, k_bl, k_int, k_lst, k_tup, k_str, ty_w, isBor_n, isBor_c, v_lst, v_tup, v_slcL, v_slcS, v_revL, v_revS, bi_1, bi_2, l_lst, l_rls, l_tup, l_str, i_int, i_bl, li_lst, li_tup, li_str, so_int, so_str, al_bl, an_bl, su_int, al_map, an_map, su_map, ab_int, mi_2, ma_2, gc_2, r_joinS, r_indexS, r_indexL, mt_join, it_lst, it_own, it_tup, it_str, rn_ok, en_str, en_lst, zi_lst, re_lst, mb_fu, mb_fr, mb_sh, mb_bs, mb_bf, h_fu, h_fr, h_sh, h_fl, o_fu, o_sh, g_fu, g_fr, g_sh, g_fl, r_some, ol_sh, ol_fu, ap_sh, ap_fu, pu_sh, un_ok, pa_ok, bm_int, bm_str, pm_fr, pm_sh, pm_bs, pm_fu, pm_bf, cm_fr, cm_fu, cm_sh, cm_bs, callM_fl, callM_nb, rdV_fr, rdV_sh, rdV_fu, norm_fl, norm_lst, norm_nf, fl_non, fl_bl, fl_int, fl_str, fl_tup, fl_lst, fl_rls, fl_dic, flL_n, flL_c, flL_int, flL_str, wipe_n, wipe_c, List.set_cons_zero, List.set_cons_succ, List.set_nil, List.map_cons, List.map_nil, List.length_map, List.length_cons, List.length_nil, List.append_nil, List.nil_append, List.take_succ_cons, List.take_zero, List.drop_succ_cons, List.drop_zero, Nat.zero_add, Nat.reduceAdd, Nat.reduceSub, isNon, optI_n, optI_var, optI_lit, optI_bin, optI_neg, optI_idx, optI_bi, optI_call, optI_gl, optI_mt, bq_t, bq_f, bq_not, bq_yes, bq_no, bq_and, bq_or, Bool.not_true, Bool.not_false, Bool.false_and, Bool.true_and, Bool.and_false, Bool.and_true, Bool.or_false, Bool.false_or, Bool.or_true, Bool.true_or, if_true, if_false, Bool.false_eq_true, true_and, and_true, List.any_cons, List.any_nil, List.isEmpty_cons, List.isEmpty_nil, tB_int_non, tB_int_bl, tB_int_int, tB_int_str, tB_int_lst, tB_int_tup, tB_int_dic, tB_bool_non, tB_bool_bl, tB_bool_int, tB_bool_str, tB_bool_lst, tB_bool_tup, tB_bool_dic, tB_str_non, tB_str_bl, tB_str_int, tB_str_str, tB_str_lst, tB_str_tup, tB_str_dic, tB_list_non, tB_list_bl, tB_list_int, tB_list_str, tB_list_lst, tB_list_tup, tB_list_dic, tB_tuple_non, tB_tuple_bl, tB_tuple_int, tB_tuple_str, tB_tuple_lst, tB_tuple_tup, tB_tuple_dic, tB_dict_non, tB_dict_bl, tB_dict_int, tB_dict_str, tB_dict_lst, tB_dict_tup, tB_dict_dic]))
  refine c16 n ns ha (by omega) fun l hl hb => ?_
  have h0 := ith_b (i := 0) hb (by omega)
  have h1 := ith_b (i := 1) hb (by omega)
  have h2 := ith_b (i := 2) hb (by omega)
  have h3 := ith_b (i := 3) hb (by omega)
  have h15 := ith_b (i := 15) hb (by omega)
  have hm6 : 2 ≤ ith [7, 10, 11, 9, 13, 23] (ith l 0 % 6) ∧ ith [7, 10, 11, 9, 13, 23] (ith l 0 % 6) ≤ 40 := ith_b (P := fun x => 2 ≤ x ∧ x ≤ 40) (by decide) (by simp; omega)
  (simp (config := {decide := false}) (disch := first | assumption | omega | (simp only [mb_fu, mb_fr, mb_sh, mb_bs, mb_bf, fl_non, fl_bl, fl_int, fl_str, fl_tup, fl_lst, fl_rls, fl_dic, flL_n, flL_c, flL_int, flL_str, isBor_n, isBor_c, pl_non, pl_bl, pl_int, pl_lst, plL_a, pl_tup, plL_n, plL_c, plL_int, at_non, at_bl, at_int, at_str, co_non, co_bl, co_int, co_str, co_lst, co_tup, List.all_cons, List.all_nil, List.length_cons, List.length_nil, List.length_map, beq_self_eq_true, mkb_shfu, mkb_frfu, Bool.false_and, Bool.true_and, Bool.and_true, Bool.and_false, Bool.and_self, Bool.not_true, Bool.not_false, Bool.or_false, Bool.or_true, Bool.true_or, Bool.false_or, Bool.or_self, ne_eq, reduceCtorEq, not_false_eq_true, not_true_eq_false, List.map_cons, List.map_nil]; done) | (have hSZ : SZ = 16777216 := SZ_w; first | omega | (simp only [List.length_map, List.length_append, List.length_cons, List.length_nil, List.length_reverse, List.length_range, List.length_take, List.length_drop, List.length_replicate] <;> omega))) only [gl, c0, c17, c1, c2, c3, wD, c4, c5, c6, c7, c9, c22, c10, c11, c12, c13, c14, c15, c24, c23, ↓wp_ok, ↓wp_ex, ↓wp_bind, ↓w_var, ↓w_cst, ↓w_gl, ↓w_bin, ↓w_neg, ↓w_cmp, ↓w_chain, ↓w_isN, ↓w_notN, ↓w_and, ↓w_or, ↓w_and1, ↓w_and2, ↓w_or1, ↓w_or2, ↓w_not, ↓w_ite, ↓w_lst, ↓w_tup, ↓w_idx, ↓w_slc, ↓w_rev, ↓w_call, ↓w_bi, ↓w_mt1, ↓w_isi, ↓w_comp, ↓w_dcomp, ↓w_dic0, ↓w_dn, ↓w_dc, ↓t_val, ↓t_cmp, ↓t_chain, ↓t_isN, ↓t_notN, ↓t_not, ↓t_and, ↓t_or, ↓t_and1, ↓t_and2, ↓t_or1, ↓t_or2, ↓ts_n, ↓ts_1, ↓i_val, ↓i_rng1, ↓i_rng2, ↓i_enum, ↓i_zip, ↓i_revd, ↓s_nil, ↓s_cons, ↓s_set, ↓s_own, ↓s_par, ↓s_unp, ↓s_aug, ↓s_apd, ↓s_put, ↓s_exp, ↓s_ret, ↓s_retV, ↓s_retN, ↓s_ite, ↓s_for, ↓s_whl, ↓s_brk, ↓s_cnt, ↓s_pas, ↓s_frz, ↓s_nev, ↓s_mtc, ↓m_nil, ↓m_one, ↓m_two, ↓m_any, ↓ow_nx, ↓ow_bk, ↓ow_ct, ↓ow_rt, iw_non, iw_bl, iw_int, iw_str, iw_lst, iw_tup, iw_dic, iw_obj, iw_exc, iw_rls, getV_0, getV_s, getS_0, getS_s, boolW_bl, bindW_nm, bindW_tp, setAll_c, setAll_n, wp_ok, wp_ex, b_addI, b_subI, b_addS, b_addL, b_mulIl, b_mulIr, b_modI, b_divI, b_mulS, w_negI, a_I, a_S, x_lstI, x_rlsI, b_powT, x_lstI', x_str, x_str', x_strM, x_lstM, x_i2, x_i3, x_i4, x_i5, x_i6, x_i11, x_t0, x_t1, x_t2, x_t3, x_l0, cut_to, cut_from, cut_mid, cut_toN, cut_fromN, c_lt, c_le, c_gt, c_ge, c_eq, c_ne, e_same, e_I, e_S, e_B, c_iz, c_niz, c_inS, c_ninS, c_inP, c_ninP, c_inL, c_ninL, c_inT, c_ninT, k_non, k_bl, k_int, k_lst, k_tup, k_str, ty_w, isBor_n, isBor_c, v_lst, v_tup, v_slcL, v_slcS, v_revL, v_revS, bi_1, bi_2, l_lst, l_rls, l_tup, l_str, i_int, i_bl, li_lst, li_tup, li_str, so_int, so_str, al_bl, an_bl, su_int, al_map, an_map, su_map, ab_int, mi_2, ma_2, gc_2, r_joinS, r_indexS, r_indexL, mt_join, it_lst, it_own, it_tup, it_str, rn_ok, en_str, en_lst, zi_lst, re_lst, mb_fu, mb_fr, mb_sh, mb_bs, mb_bf, h_fu, h_fr, h_sh, h_fl, o_fu, o_sh, g_fu, g_fr, g_sh, g_fl, r_some, ol_sh, ol_fu, ap_sh, ap_fu, pu_sh, un_ok, pa_ok, bm_int, bm_str, pm_fr, pm_sh, pm_bs, pm_fu, pm_bf, cm_fr, cm_fu, cm_sh, cm_bs, callM_fl, callM_nb, rdV_fr, rdV_sh, rdV_fu, norm_fl, norm_lst, norm_nf, fl_non, fl_bl, fl_int, fl_str, fl_tup, fl_lst, fl_rls, fl_dic, flL_n, flL_c, flL_int, flL_str, wipe_n, wipe_c, List.set_cons_zero, List.set_cons_succ, List.set_nil, List.map_cons, List.map_nil, List.length_map, List.length_cons, List.length_nil, List.append_nil, List.nil_append, List.take_succ_cons, List.take_zero, List.drop_succ_cons, List.drop_zero, Nat.zero_add, Nat.reduceAdd, Nat.reduceSub, isNon, optI_n, optI_var, optI_lit, optI_bin, optI_neg, optI_idx, optI_bi, optI_call, optI_gl, optI_mt, bq_t, bq_f, bq_not, bq_yes, bq_no, bq_and, bq_or, Bool.not_true, Bool.not_false, Bool.false_and, Bool.true_and, Bool.and_false, Bool.and_true, Bool.or_false, Bool.false_or, Bool.or_true, Bool.true_or, if_true, if_false, Bool.false_eq_true, true_and, and_true, List.any_cons, List.any_nil, List.isEmpty_cons, List.isEmpty_nil, tB_int_non, tB_int_bl, tB_int_int, tB_int_str, tB_int_lst, tB_int_tup, tB_int_dic, tB_bool_non, tB_bool_bl, tB_bool_int, tB_bool_str, tB_bool_lst, tB_bool_tup, tB_bool_dic, tB_str_non, tB_str_bl, tB_str_int, tB_str_str, tB_str_lst, tB_str_tup, tB_str_dic, tB_list_non, tB_list_bl, tB_list_int, tB_list_str, tB_list_lst, tB_list_tup, tB_list_dic, tB_tuple_non, tB_tuple_bl, tB_tuple_int, tB_tuple_str, tB_tuple_lst, tB_tuple_tup, tB_tuple_dic, tB_dict_non, tB_dict_bl, tB_dict_int, tB_dict_str, tB_dict_lst, tB_dict_tup, tB_dict_dic])
  have hm : 2 ≤ ith [2 + ith l 0 % 39, ith [7, 10, 11, 9, 13, 23] (ith l 0 % 6), 2 + ith l 0 % 12] (ith l 1 % 3) ∧ ith [2 + ith l 0 % 39, ith [7, 10, 11, 9, 13, 23] (ith l 0 % 6), 2 + ith l 0 % 12] (ith l 1 % 3) ≤ 40 :=
    ith_b (P := fun x => 2 ≤ x ∧ x ≤ 40) (by simp; omega) (by simp; omega)
  generalize ith [2 + ith l 0 % 39, ith [7, 10, 11, 9, 13, 23] (ith l 0 % 6), 2 + ith l 0 % 12] (ith l 1 % 3) = m at hm
  have hd1 : 3 ≤ 120 / m := Int.le_ediv_of_mul_le (by omega) (by omega)
  have hd2 : 120 / m * m ≤ 120 := Int.ediv_mul_le _ (by omega)
  (simp (config := {decide := false}) (disch := first | assumption | omega | (simp only [mb_fu, mb_fr, mb_sh, mb_bs, mb_bf, fl_non, fl_bl, fl_int, fl_str, fl_tup, fl_lst, fl_rls, fl_dic, flL_n, flL_c, flL_int, flL_str, isBor_n, isBor_c, pl_non, pl_bl, pl_int, pl_lst, plL_a, pl_tup, plL_n, plL_c, plL_int, at_non, at_bl, at_int, at_str, co_non, co_bl, co_int, co_str, co_lst, co_tup, List.all_cons, List.all_nil, List.length_cons, List.length_nil, List.length_map, beq_self_eq_true, mkb_shfu, mkb_frfu, Bool.false_and, Bool.true_and, Bool.and_true, Bool.and_false, Bool.and_self, Bool.not_true, Bool.not_false, Bool.or_false, Bool.or_true, Bool.true_or, Bool.false_or, Bool.or_self, ne_eq, reduceCtorEq, not_false_eq_true, not_true_eq_false, List.map_cons, List.map_nil]; done) | (have hSZ : SZ = 16777216 := SZ_w; first | omega | (simp only [List.length_map, List.length_append, List.length_cons, List.length_nil, List.length_reverse, List.length_range, List.length_take, List.length_drop, List.length_replicate] <;> omega))) only [gl, c0, c17, c1, c2, c3, wD, c4, c5, c6, c7, c9, c22, c10, c11, c12, c13, c14, c15, c24, c23, ↓wp_ok, ↓wp_ex, ↓wp_bind, ↓w_var, ↓w_cst, ↓w_gl, ↓w_bin, ↓w_neg, ↓w_cmp, ↓w_chain, ↓w_isN, ↓w_notN, ↓w_and, ↓w_or, ↓w_and1, ↓w_and2, ↓w_or1, ↓w_or2, ↓w_not, ↓w_ite, ↓w_lst, ↓w_tup, ↓w_idx, ↓w_slc, ↓w_rev, ↓w_call, ↓w_bi, ↓w_mt1, ↓w_isi, ↓w_comp, ↓w_dcomp, ↓w_dic0, ↓w_dn, ↓w_dc, ↓t_val, ↓t_cmp, ↓t_chain, ↓t_isN, ↓t_notN, ↓t_not, ↓t_and, ↓t_or, ↓t_and1, ↓t_and2, ↓t_or1, ↓t_or2, ↓ts_n, ↓ts_1, ↓i_val, ↓i_rng1, ↓i_rng2, ↓i_enum, ↓i_zip, ↓i_revd, ↓s_nil, ↓s_cons, ↓s_set, ↓s_own, ↓s_par, ↓s_unp, ↓s_aug, ↓s_apd, ↓s_put, ↓s_exp, ↓s_ret, ↓s_retV, ↓s_retN, ↓s_ite, ↓s_for, ↓s_whl, ↓s_brk, ↓s_cnt, ↓s_pas, ↓s_frz, ↓s_nev, ↓s_mtc, ↓m_nil, ↓m_one, ↓m_two, ↓m_any, ↓ow_nx, ↓ow_bk, ↓ow_ct, ↓ow_rt, iw_non, iw_bl, iw_int, iw_str, iw_lst, iw_tup, iw_dic, iw_obj, iw_exc, iw_rls, getV_0, getV_s, getS_0, getS_s, boolW_bl, bindW_nm, bindW_tp, setAll_c, setAll_n, wp_ok, wp_ex, b_addI, b_subI, b_addS, b_addL, b_mulIl, b_mulIr, b_modI, b_divI, b_mulS, w_negI, a_I, a_S, x_lstI, x_rlsI, b_powT, x_lstI', x_str, x_str', x_strM, x_lstM, x_i2, x_i3, x_i4, x_i5, x_i6, x_i11, x_t0, x_t1, x_t2, x_t3, x_l0, cut_to, cut_from, cut_mid, cut_toN, cut_fromN, c_lt, c_le, c_gt, c_ge, c_eq, c_ne, e_same, e_I, e_S, e_B, c_iz, c_niz, c_inS, c_ninS, c_inP, c_ninP, c_inL, c_ninL, c_inT, c_ninT, k_non, k_bl, k_int, k_lst, k_tup, k_str, ty_w, isBor_n, isBor_c, v_lst, v_tup, v_slcL, v_slcS, v_revL, v_revS, bi_1, bi_2, l_lst, l_rls, l_tup, l_str, i_int, i_bl, li_lst, li_tup, li_str, so_int, so_str, al_bl, an_bl, su_int, al_map, an_map, su_map, ab_int, mi_2, ma_2, gc_2, r_joinS, r_indexS, r_indexL, mt_join, it_lst, it_own, it_tup, it_str, rn_ok, en_str, en_lst, zi_lst, re_lst, mb_fu, mb_fr, mb_sh, mb_bs, mb_bf, h_fu, h_fr, h_sh, h_fl, o_fu, o_sh, g_fu, g_fr, g_sh, g_fl, r_some, ol_sh, ol_fu, ap_sh, ap_fu, pu_sh, un_ok, pa_ok, bm_int, bm_str, pm_fr, pm_sh, pm_bs, pm_fu, pm_bf, cm_fr, cm_fu, cm_sh, cm_bs, callM_fl, callM_nb, rdV_fr, rdV_sh, rdV_fu, norm_fl, norm_lst, norm_nf, fl_non, fl_bl, fl_int, fl_str, fl_tup, fl_lst, fl_rls, fl_dic, flL_n, flL_c, flL_int, flL_str, wipe_n, wipe_c, List.set_cons_zero, List.set_cons_succ, List.set_nil, List.map_cons, List.map_nil, List.length_map, List.length_cons, List.length_nil, List.append_nil, List.nil_append, List.take_succ_cons, List.take_zero, List.drop_succ_cons, List.drop_zero, Nat.zero_add, Nat.reduceAdd, Nat.reduceSub, isNon, optI_n, optI_var, optI_lit, optI_bin, optI_neg, optI_idx, optI_bi, optI_call, optI_gl, optI_mt, bq_t, bq_f, bq_not, bq_yes, bq_no, bq_and, bq_or, Bool.not_true, Bool.not_false, Bool.false_and, Bool.true_and, Bool.and_false, Bool.and_true, Bool.or_false, Bool.false_or, Bool.or_true, Bool.true_or, if_true, if_false, Bool.false_eq_true, true_and, and_true, List.any_cons, List.any_nil, List.isEmpty_cons, List.isEmpty_nil, tB_int_non, tB_int_bl, tB_int_int, tB_int_str, tB_int_lst, tB_int_tup, tB_int_dic, tB_bool_non, tB_bool_bl, tB_bool_int, tB_bool_str, tB_bool_lst, tB_bool_tup, tB_bool_dic, tB_str_non, tB_str_bl, tB_str_int, tB_str_str, tB_str_lst, tB_str_tup, tB_str_dic, tB_list_non, tB_list_bl, tB_list_int, tB_list_str, tB_list_lst, tB_list_tup, tB_list_dic, tB_tuple_non, tB_tuple_bl, tB_tuple_int, tB_tuple_str, tB_tuple_lst, tB_tuple_tup, tB_tuple_dic, tB_dict_non, tB_dict_bl, tB_dict_int, tB_dict_str, tB_dict_lst, tB_dict_tup, tB_dict_dic])
  have hmin : (if 120 / m < 12 then 120 / m else (12 : Int)) ≤ 12 ∧ (if 120 / m < 12 then 120 / m else (12 : Int)) ≤ 120 / m ∧ 3 ≤ (if 120 / m < 12 then 120 / m else (12 : Int)) := by split <;> omega
  generalize (if 120 / m < 12 then 120 / m else (12 : Int)) = t at hmin
  have ht1 := Int.emod_nonneg (ith l 2) (b := t) (by omega)
  have ht2 := Int.emod_lt_of_pos (ith l 2) (b := t) (by omega)
  (simp (config := {decide := false}) (disch := first | assumption | omega | (simp only [mb_fu, mb_fr, mb_sh, mb_bs, mb_bf, fl_non, fl_bl, fl_int, fl_str, fl_tup, fl_lst, fl_rls, fl_dic, flL_n, flL_c, flL_int, flL_str, isBor_n, isBor_c, pl_non, pl_bl, pl_int, pl_lst, plL_a, pl_tup, plL_n, plL_c, plL_int, at_non, at_bl, at_int, at_str, co_non, co_bl, co_int, co_str, co_lst, co_tup, List.all_cons, List.all_nil, List.length_cons, List.length_nil, List.length_map, beq_self_eq_true, mkb_shfu, mkb_frfu, Bool.false_and, Bool.true_and, Bool.and_true, Bool.and_false, Bool.and_self, Bool.not_true, Bool.not_false, Bool.or_false, Bool.or_true, Bool.true_or, Bool.false_or, Bool.or_self, ne_eq, reduceCtorEq, not_false_eq_true, not_true_eq_false, List.map_cons, List.map_nil]; done) | (have hSZ : SZ = 16777216 := SZ_w; first | omega | (simp only [List.length_map, List.length_append, List.length_cons, List.length_nil, List.length_reverse, List.length_range, List.length_take, List.length_drop, List.length_replicate] <;> omega))) only [gl, c0, c17, c1, c2, c3, wD, c4, c5, c6, c7, c9, c22, c10, c11, c12, c13, c14, c15, c24, c23, ↓wp_ok, ↓wp_ex, ↓wp_bind, ↓w_var, ↓w_cst, ↓w_gl, ↓w_bin, ↓w_neg, ↓w_cmp, ↓w_chain, ↓w_isN, ↓w_notN, ↓w_and, ↓w_or, ↓w_and1, ↓w_and2, ↓w_or1, ↓w_or2, ↓w_not, ↓w_ite, ↓w_lst, ↓w_tup, ↓w_idx, ↓w_slc, ↓w_rev, ↓w_call, ↓w_bi, ↓w_mt1, ↓w_isi, ↓w_comp, ↓w_dcomp, ↓w_dic0, ↓w_dn, ↓w_dc, ↓t_val, ↓t_cmp, ↓t_chain, ↓t_isN, ↓t_notN, ↓t_not, ↓t_and, ↓t_or, ↓t_and1, ↓t_and2, ↓t_or1, ↓t_or2, ↓ts_n, ↓ts_1, ↓i_val, ↓i_rng1, ↓i_rng2, ↓i_enum, ↓i_zip, ↓i_revd, ↓s_nil, ↓s_cons, ↓s_set, ↓s_own, ↓s_par, ↓s_unp, ↓s_aug, ↓s_apd, ↓s_put, ↓s_exp, ↓s_ret, ↓s_retV, ↓s_retN, ↓s_ite, ↓s_for, ↓s_whl, ↓s_brk, ↓s_cnt, ↓s_pas, ↓s_frz, ↓s_nev, ↓s_mtc, ↓m_nil, ↓m_one, ↓m_two, ↓m_any, ↓ow_nx, ↓ow_bk, ↓ow_ct, ↓ow_rt, iw_non, iw_bl, iw_int, iw_str, iw_lst, iw_tup, iw_dic, iw_obj, iw_exc, iw_rls, getV_0, getV_s, getS_0, getS_s, boolW_bl, bindW_nm, bindW_tp, setAll_c, setAll_n, wp_ok, wp_ex, b_addI, b_subI, b_addS, b_addL, b_mulIl, b_mulIr, b_modI, b_divI, b_mulS, w_negI, a_I, a_S, x_lstI, x_rlsI, b_powT, x_lstI', x_str, x_str', x_strM, x_lstM, x_i2, x_i3, x_i4, x_i5, x_i6, x_i11, x_t0, x_t1, x_t2, x_t3, x_l0, cut_to, cut_from, cut_mid, cut_toN, cut_fromN, c_lt, c_le, c_gt, c_ge, c_eq, c_ne, e_same, e_I, e_S, e_B, c_iz, c_niz, c_inS, c_ninS, c_inP, c_ninP, c_inL, c_ninL, c_inT, c_ninT, k_non, k_bl, k_int, k_lst, k_tup, k_str, ty_w, isBor_n, isBor_c, v_lst, v_tup, v_slcL, v_slcS, v_revL, v_revS, bi_1, bi_2, l_lst, l_rls, l_tup, l_str, i_int, i_bl, li_lst, li_tup, li_str, so_int, so_str, al_bl, an_bl, su_int, al_map, an_map, su_map, ab_int, mi_2, ma_2, gc_2, r_joinS, r_indexS, r_indexL, mt_join, it_lst, it_own, it_tup, it_str, rn_ok, en_str, en_lst, zi_lst, re_lst, mb_fu, mb_fr, mb_sh, mb_bs, mb_bf, h_fu, h_fr, h_sh, h_fl, o_fu, o_sh, g_fu, g_fr, g_sh, g_fl, r_some, ol_sh, ol_fu, ap_sh, ap_fu, pu_sh, un_ok, pa_ok, bm_int, bm_str, pm_fr, pm_sh, pm_bs, pm_fu, pm_bf, cm_fr, cm_fu, cm_sh, cm_bs, callM_fl, callM_nb, rdV_fr, rdV_sh, rdV_fu, norm_fl, norm_lst, norm_nf, fl_non, fl_bl, fl_int, fl_str, fl_tup, fl_lst, fl_rls, fl_dic, flL_n, flL_c, flL_int, flL_str, wipe_n, wipe_c, List.set_cons_zero, List.set_cons_succ, List.set_nil, List.map_cons, List.map_nil, List.length_map, List.length_cons, List.length_nil, List.append_nil, List.nil_append, List.take_succ_cons, List.take_zero, List.drop_succ_cons, List.drop_zero, Nat.zero_add, Nat.reduceAdd, Nat.reduceSub, isNon, optI_n, optI_var, optI_lit, optI_bin, optI_neg, optI_idx, optI_bi, optI_call, optI_gl, optI_mt, bq_t, bq_f, bq_not, bq_yes, bq_no, bq_and, bq_or, Bool.not_true, Bool.not_false, Bool.false_and, Bool.true_and, Bool.and_false, Bool.and_true, Bool.or_false, Bool.false_or, Bool.or_true, Bool.true_or, if_true, if_false, Bool.false_eq_true, true_and, and_true, List.any_cons, List.any_nil, List.isEmpty_cons, List.isEmpty_nil, tB_int_non, tB_int_bl, tB_int_int, tB_int_str, tB_int_lst, tB_int_tup, tB_int_dic, tB_bool_non, tB_bool_bl, tB_bool_int, tB_bool_str, tB_bool_lst, tB_bool_tup, tB_bool_dic, tB_str_non, tB_str_bl, tB_str_int, tB_str_str, tB_str_lst, tB_str_tup, tB_str_dic, tB_list_non, tB_list_bl, tB_list_int, tB_list_str, tB_list_lst, tB_list_tup, tB_list_dic, tB_tuple_non, tB_tuple_bl, tB_tuple_int, tB_tuple_str, tB_tuple_lst, tB_tuple_tup, tB_tuple_dic, tB_dict_non, tB_dict_bl, tB_dict_int, tB_dict_str, tB_dict_lst, tB_dict_tup, tB_dict_dic])
  refine for_rng (fun i E => ∃ ws q, E = [some (.fr, .rls (ns.map .int)), some (.fr, .int a), some (.fr, .lst (l.map .int)), some (.fr, .int m), some (.sh, .lst (ws.map .int)), q] ∧ (ws.length : Int) = i ∧ ∀ w ∈ ws, 0 ≤ w ∧ w ≤ m - 1) ⟨[], none, rfl, rfl, fun _ z => by cases z⟩ ?_ ?_
  · rintro i E g1 g2 ⟨ws, q, rfl, hw, hall⟩
    have e1 := Int.emod_nonneg (ith l (3 + i)) (b := m) (by omega)
    have e2 := Int.emod_lt_of_pos (ith l (3 + i)) (b := m) (by omega)
    have e3 := Int.emod_nonneg (ith l (3 + i)) (b := m - 1) (by omega)
    have e4 := Int.emod_lt_of_pos (ith l (3 + i)) (b := m - 1) (by omega)
    have e5 := Int.emod_nonneg (ith l 3) (b := m) (by omega)
    have e6 := Int.emod_lt_of_pos (ith l 3) (b := m) (by omega)
    (simp (config := {decide := false}) (disch := first | assumption | omega | (simp only [mb_fu, mb_fr, mb_sh, mb_bs, mb_bf, fl_non, fl_bl, fl_int, fl_str, fl_tup, fl_lst, fl_rls, fl_dic, flL_n, flL_c, flL_int, flL_str, isBor_n, isBor_c, pl_non, pl_bl, pl_int, pl_lst, plL_a, pl_tup, plL_n, plL_c, plL_int, at_non, at_bl, at_int, at_str, co_non, co_bl, co_int, co_str, co_lst, co_tup, List.all_cons, List.all_nil, List.length_cons, List.length_nil, List.length_map, beq_self_eq_true, mkb_shfu, mkb_frfu, Bool.false_and, Bool.true_and, Bool.and_true, Bool.and_false, Bool.and_self, Bool.not_true, Bool.not_false, Bool.or_false, Bool.or_true, Bool.true_or, Bool.false_or, Bool.or_self, ne_eq, reduceCtorEq, not_false_eq_true, not_true_eq_false, List.map_cons, List.map_nil]; done) | (have hSZ : SZ = 16777216 := SZ_w; first | omega | (simp only [List.length_map, List.length_append, List.length_cons, List.length_nil, List.length_reverse, List.length_range, List.length_take, List.length_drop, List.length_replicate] <;> omega))) only [gl, c0, c17, c1, c2, c3, wD, c4, c5, c6, c7, c9, c22, c10, c11, c12, c13, c14, c15, c24, c23, ↓wp_ok, ↓wp_ex, ↓wp_bind, ↓w_var, ↓w_cst, ↓w_gl, ↓w_bin, ↓w_neg, ↓w_cmp, ↓w_chain, ↓w_isN, ↓w_notN, ↓w_and, ↓w_or, ↓w_and1, ↓w_and2, ↓w_or1, ↓w_or2, ↓w_not, ↓w_ite, ↓w_lst, ↓w_tup, ↓w_idx, ↓w_slc, ↓w_rev, ↓w_call, ↓w_bi, ↓w_mt1, ↓w_isi, ↓w_comp, ↓w_dcomp, ↓w_dic0, ↓w_dn, ↓w_dc, ↓t_val, ↓t_cmp, ↓t_chain, ↓t_isN, ↓t_notN, ↓t_not, ↓t_and, ↓t_or, ↓t_and1, ↓t_and2, ↓t_or1, ↓t_or2, ↓ts_n, ↓ts_1, ↓i_val, ↓i_rng1, ↓i_rng2, ↓i_enum, ↓i_zip, ↓i_revd, ↓s_nil, ↓s_cons, ↓s_set, ↓s_own, ↓s_par, ↓s_unp, ↓s_aug, ↓s_apd, ↓s_put, ↓s_exp, ↓s_ret, ↓s_retV, ↓s_retN, ↓s_ite, ↓s_for, ↓s_whl, ↓s_brk, ↓s_cnt, ↓s_pas, ↓s_frz, ↓s_nev, ↓s_mtc, ↓m_nil, ↓m_one, ↓m_two, ↓m_any, ↓ow_nx, ↓ow_bk, ↓ow_ct, ↓ow_rt, iw_non, iw_bl, iw_int, iw_str, iw_lst, iw_tup, iw_dic, iw_obj, iw_exc, iw_rls, getV_0, getV_s, getS_0, getS_s, boolW_bl, bindW_nm, bindW_tp, setAll_c, setAll_n, wp_ok, wp_ex, b_addI, b_subI, b_addS, b_addL, b_mulIl, b_mulIr, b_modI, b_divI, b_mulS, w_negI, a_I, a_S, x_lstI, x_rlsI, b_powT, x_lstI', x_str, x_str', x_strM, x_lstM, x_i2, x_i3, x_i4, x_i5, x_i6, x_i11, x_t0, x_t1, x_t2, x_t3, x_l0, cut_to, cut_from, cut_mid, cut_toN, cut_fromN, c_lt, c_le, c_gt, c_ge, c_eq, c_ne, e_same, e_I, e_S, e_B, c_iz, c_niz, c_inS, c_ninS, c_inP, c_ninP, c_inL, c_ninL, c_inT, c_ninT, k_non, k_bl, k_int, k_lst, k_tup, k_str, ty_w, isBor_n, isBor_c, v_lst, v_tup, v_slcL, v_slcS, v_revL, v_revS, bi_1, bi_2, l_lst, l_rls, l_tup, l_str, i_int, i_bl, li_lst, li_tup, li_str, so_int, so_str, al_bl, an_bl, su_int, al_map, an_map, su_map, ab_int, mi_2, ma_2, gc_2, r_joinS, r_indexS, r_indexL, mt_join, it_lst, it_own, it_tup, it_str, rn_ok, en_str, en_lst, zi_lst, re_lst, mb_fu, mb_fr, mb_sh, mb_bs, mb_bf, h_fu, h_fr, h_sh, h_fl, o_fu, o_sh, g_fu, g_fr, g_sh, g_fl, r_some, ol_sh, ol_fu, ap_sh, ap_fu, pu_sh, un_ok, pa_ok, bm_int, bm_str, pm_fr, pm_sh, pm_bs, pm_fu, pm_bf, cm_fr, cm_fu, cm_sh, cm_bs, callM_fl, callM_nb, rdV_fr, rdV_sh, rdV_fu, norm_fl, norm_lst, norm_nf, fl_non, fl_bl, fl_int, fl_str, fl_tup, fl_lst, fl_rls, fl_dic, flL_n, flL_c, flL_int, flL_str, wipe_n, wipe_c, List.set_cons_zero, List.set_cons_succ, List.set_nil, List.map_cons, List.map_nil, List.length_map, List.length_cons, List.length_nil, List.append_nil, List.nil_append, List.take_succ_cons, List.take_zero, List.drop_succ_cons, List.drop_zero, Nat.zero_add, Nat.reduceAdd, Nat.reduceSub, isNon, optI_n, optI_var, optI_lit, optI_bin, optI_neg, optI_idx, optI_bi, optI_call, optI_gl, optI_mt, bq_t, bq_f, bq_not, bq_yes, bq_no, bq_and, bq_or, Bool.not_true, Bool.not_false, Bool.false_and, Bool.true_and, Bool.and_false, Bool.and_true, Bool.or_false, Bool.false_or, Bool.or_true, Bool.true_or, if_true, if_false, Bool.false_eq_true, true_and, and_true, List.any_cons, List.any_nil, List.isEmpty_cons, List.isEmpty_nil, tB_int_non, tB_int_bl, tB_int_int, tB_int_str, tB_int_lst, tB_int_tup, tB_int_dic, tB_bool_non, tB_bool_bl, tB_bool_int, tB_bool_str, tB_bool_lst, tB_bool_tup, tB_bool_dic, tB_str_non, tB_str_bl, tB_str_int, tB_str_str, tB_str_lst, tB_str_tup, tB_str_dic, tB_list_non, tB_list_bl, tB_list_int, tB_list_str, tB_list_lst, tB_list_tup, tB_list_dic, tB_tuple_non, tB_tuple_bl, tB_tuple_int, tB_tuple_str, tB_tuple_lst, tB_tuple_tup, tB_tuple_dic, tB_dict_non, tB_dict_bl, tB_dict_int, tB_dict_str, tB_dict_lst, tB_dict_tup, tB_dict_dic])
    have hx : 0 ≤ ith [ith l (3 + i) % m, 1 + ith l (3 + i) % (m - 1), ith l 3 % m] (ith l 15 % 3) ∧ ith [ith l (3 + i) % m, 1 + ith l (3 + i) % (m - 1), ith l 3 % m] (ith l 15 % 3) ≤ m - 1 :=
      ith_b (P := fun x => 0 ≤ x ∧ x ≤ m - 1) (by simp; omega) (by simp; omega)
    refine ⟨ws ++ [ith [ith l (3 + i) % m, 1 + ith l (3 + i) % (m - 1), ith l 3 % m] (ith l 15 % 3)], _, by rw [List.map_append]; rfl, by simp [hw], fun w hw => ?_⟩
    rcases List.mem_append.mp hw with z | z
    · exact hall w z
    · rw [List.mem_singleton] at z
      rw [z]; exact hx
  · rintro E ⟨ws, q, rfl, hw, hall⟩
    (simp (config := {decide := false}) (disch := first | assumption | omega | (simp only [mb_fu, mb_fr, mb_sh, mb_bs, mb_bf, fl_non, fl_bl, fl_int, fl_str, fl_tup, fl_lst, fl_rls, fl_dic, flL_n, flL_c, flL_int, flL_str, isBor_n, isBor_c, pl_non, pl_bl, pl_int, pl_lst, plL_a, pl_tup, plL_n, plL_c, plL_int, at_non, at_bl, at_int, at_str, co_non, co_bl, co_int, co_str, co_lst, co_tup, List.all_cons, List.all_nil, List.length_cons, List.length_nil, List.length_map, beq_self_eq_true, mkb_shfu, mkb_frfu, Bool.false_and, Bool.true_and, Bool.and_true, Bool.and_false, Bool.and_self, Bool.not_true, Bool.not_false, Bool.or_false, Bool.or_true, Bool.true_or, Bool.false_or, Bool.or_self, ne_eq, reduceCtorEq, not_false_eq_true, not_true_eq_false, List.map_cons, List.map_nil]; done) | (have hSZ : SZ = 16777216 := SZ_w; first | omega | (simp only [List.length_map, List.length_append, List.length_cons, List.length_nil, List.length_reverse, List.length_range, List.length_take, List.length_drop, List.length_replicate] <;> omega))) only [gl, c0, c17, c1, c2, c3, wD, c4, c5, c6, c7, c9, c22, c10, c11, c12, c13, c14, c15, c24, c23, ↓wp_ok, ↓wp_ex, ↓wp_bind, ↓w_var, ↓w_cst, ↓w_gl, ↓w_bin, ↓w_neg, ↓w_cmp, ↓w_chain, ↓w_isN, ↓w_notN, ↓w_and, ↓w_or, ↓w_and1, ↓w_and2, ↓w_or1, ↓w_or2, ↓w_not, ↓w_ite, ↓w_lst, ↓w_tup, ↓w_idx, ↓w_slc, ↓w_rev, ↓w_call, ↓w_bi, ↓w_mt1, ↓w_isi, ↓w_comp, ↓w_dcomp, ↓w_dic0, ↓w_dn, ↓w_dc, ↓t_val, ↓t_cmp, ↓t_chain, ↓t_isN, ↓t_notN, ↓t_not, ↓t_and, ↓t_or, ↓t_and1, ↓t_and2, ↓t_or1, ↓t_or2, ↓ts_n, ↓ts_1, ↓i_val, ↓i_rng1, ↓i_rng2, ↓i_enum, ↓i_zip, ↓i_revd, ↓s_nil, ↓s_cons, ↓s_set, ↓s_own, ↓s_par, ↓s_unp, ↓s_aug, ↓s_apd, ↓s_put, ↓s_exp, ↓s_ret, ↓s_retV, ↓s_retN, ↓s_ite, ↓s_for, ↓s_whl, ↓s_brk, ↓s_cnt, ↓s_pas, ↓s_frz, ↓s_nev, ↓s_mtc, ↓m_nil, ↓m_one, ↓m_two, ↓m_any, ↓ow_nx, ↓ow_bk, ↓ow_ct, ↓ow_rt, iw_non, iw_bl, iw_int, iw_str, iw_lst, iw_tup, iw_dic, iw_obj, iw_exc, iw_rls, getV_0, getV_s, getS_0, getS_s, boolW_bl, bindW_nm, bindW_tp, setAll_c, setAll_n, wp_ok, wp_ex, b_addI, b_subI, b_addS, b_addL, b_mulIl, b_mulIr, b_modI, b_divI, b_mulS, w_negI, a_I, a_S, x_lstI, x_rlsI, b_powT, x_lstI', x_str, x_str', x_strM, x_lstM, x_i2, x_i3, x_i4, x_i5, x_i6, x_i11, x_t0, x_t1, x_t2, x_t3, x_l0, cut_to, cut_from, cut_mid, cut_toN, cut_fromN, c_lt, c_le, c_gt, c_ge, c_eq, c_ne, e_same, e_I, e_S, e_B, c_iz, c_niz, c_inS, c_ninS, c_inP, c_ninP, c_inL, c_ninL, c_inT, c_ninT, k_non, k_bl, k_int, k_lst, k_tup, k_str, ty_w, isBor_n, isBor_c, v_lst, v_tup, v_slcL, v_slcS, v_revL, v_revS, bi_1, bi_2, l_lst, l_rls, l_tup, l_str, i_int, i_bl, li_lst, li_tup, li_str, so_int, so_str, al_bl, an_bl, su_int, al_map, an_map, su_map, ab_int, mi_2, ma_2, gc_2, r_joinS, r_indexS, r_indexL, mt_join, it_lst, it_own, it_tup, it_str, rn_ok, en_str, en_lst, zi_lst, re_lst, mb_fu, mb_fr, mb_sh, mb_bs, mb_bf, h_fu, h_fr, h_sh, h_fl, o_fu, o_sh, g_fu, g_fr, g_sh, g_fl, r_some, ol_sh, ol_fu, ap_sh, ap_fu, pu_sh, un_ok, pa_ok, bm_int, bm_str, pm_fr, pm_sh, pm_bs, pm_fu, pm_bf, cm_fr, cm_fu, cm_sh, cm_bs, callM_fl, callM_nb, rdV_fr, rdV_sh, rdV_fu, norm_fl, norm_lst, norm_nf, fl_non, fl_bl, fl_int, fl_str, fl_tup, fl_lst, fl_rls, fl_dic, flL_n, flL_c, flL_int, flL_str, wipe_n, wipe_c, List.set_cons_zero, List.set_cons_succ, List.set_nil, List.map_cons, List.map_nil, List.length_map, List.length_cons, List.length_nil, List.append_nil, List.nil_append, List.take_succ_cons, List.take_zero, List.drop_succ_cons, List.drop_zero, Nat.zero_add, Nat.reduceAdd, Nat.reduceSub, isNon, optI_n, optI_var, optI_lit, optI_bin, optI_neg, optI_idx, optI_bi, optI_call, optI_gl, optI_mt, bq_t, bq_f, bq_not, bq_yes, bq_no, bq_and, bq_or, Bool.not_true, Bool.not_false, Bool.false_and, Bool.true_and, Bool.and_false, Bool.and_true, Bool.or_false, Bool.false_or, Bool.or_true, Bool.true_or, if_true, if_false, Bool.false_eq_true, true_and, and_true, List.any_cons, List.any_nil, List.isEmpty_cons, List.isEmpty_nil, tB_int_non, tB_int_bl, tB_int_int, tB_int_str, tB_int_lst, tB_int_tup, tB_int_dic, tB_bool_non, tB_bool_bl, tB_bool_int, tB_bool_str, tB_bool_lst, tB_bool_tup, tB_bool_dic, tB_str_non, tB_str_bl, tB_str_int, tB_str_str, tB_str_lst, tB_str_tup, tB_str_dic, tB_list_non, tB_list_bl, tB_list_int, tB_list_str, tB_list_lst, tB_list_tup, tB_list_dic, tB_tuple_non, tB_tuple_bl, tB_tuple_int, tB_tuple_str, tB_tuple_lst, tB_tuple_tup, tB_tuple_dic, tB_dict_non, tB_dict_bl, tB_dict_int, tB_dict_str, tB_dict_lst, tB_dict_tup, tB_dict_dic])
    refine hq m ws ⟨hm.1, hm.2, by omega, by omega, hall, ?_⟩
    have : (ws.length : Int) ≤ 120 / m := by omega
    have := Int.mul_le_mul_of_nonneg_left this (show 0 ≤ m by omega)
    have e : m * (120 / m) = 120 / m * m := Int.mul_comm _ _
    omega
theorem c25 (n : Nat) (S : List Nat) (ws : List Int) (due : List (Int × Int)) (l : List Int) {Q : Vl → Prop} {X : Nat → D → Prop} (hS : 1 ≤ S.length ∧ S.length ≤ 12) (hw : ws.length ≤ 12) (hq : ∀ L : List D, D.plainL 60 L = true → Q (.fr, .lst L)) : (callD Ps gl 64 (n + 1) 25 [.str S, .lst (ws.map .int), .lst (due.map pr), .lst (l.map .int)]).wp Q X tg := by
  (refine w_def rfl rfl rfl ?_; simp only [b25]; (simp only [startE, List.map_cons, List.map_nil, List.length_cons, List.length_nil, Nat.reduceAdd, Nat.reduceSub, List.replicate, List.cons_append, List.nil_append]); (simp (config := {decide := false}) (disch := first | assumption | omega | (simp only [mb_fu, mb_fr, mb_sh, mb_bs, mb_bf, fl_non, fl_bl, fl_int, fl_str, fl_tup, fl_lst, fl_rls, fl_dic, flL_n, flL_c, flL_int, flL_str, isBor_n, isBor_c, pl_non, pl_bl, pl_int, pl_lst, plL_a, pl_tup, plL_n, plL_c, plL_int, at_non, at_bl, at_int, at_str, co_non, co_bl, co_int, co_str, co_lst, co_tup, List.all_cons, List.all_nil, List.length_cons, List.length_nil, List.length_map, beq_self_eq_true, mkb_shfu, mkb_frfu, Bool.false_and, Bool.true_and, Bool.and_true, Bool.and_false, Bool.and_self, Bool.not_true, Bool.not_false, Bool.or_false, Bool.or_true, Bool.true_or, Bool.false_or, Bool.or_self, ne_eq, reduceCtorEq, not_false_eq_true, not_true_eq_false, List.map_cons, List.map_nil]; done) | (have hSZ : SZ = 16777216 := SZ_w; first | omega | (simp only [List.length_map, List.length_append, List.length_cons, List.length_nil, List.length_reverse, List.length_range, List.length_take, List.length_drop, List.length_replicate] <;> omega))) only [gl, c0, c17, c1, c2, c3, wD, c4, c5, c6, c7, c9, c22, c10, c11, c12, c13, c14, c15, c24, c23, ↓wp_ok, ↓wp_ex, ↓wp_bind, ↓w_var, ↓w_cst, ↓w_gl, ↓w_bin, ↓w_neg, ↓w_cmp, ↓w_chain, ↓w_isN, ↓w_notN, ↓w_and, ↓w_or, ↓w_and1, ↓w_and2, ↓w_or1, ↓w_or2, ↓w_not, ↓w_ite, ↓w_lst, ↓w_tup, ↓w_idx, ↓w_slc, ↓w_rev, ↓w_call, ↓w_bi, ↓w_mt1, ↓w_isi, ↓w_comp, ↓w_dcomp, ↓w_dic0, ↓w_dn, ↓w_dc, ↓t_val, ↓t_cmp, ↓t_chain, ↓t_isN, ↓t_notN, ↓t_not, ↓t_and, ↓t_or, ↓t_and1, ↓t_and2, ↓t_or1, ↓t_or2, ↓ts_n, ↓ts_1, ↓i_val, ↓i_rng1, ↓i_rng2, ↓i_enum, ↓i_zip, ↓i_revd, ↓s_nil, ↓s_cons, ↓s_set, ↓s_own, ↓s_par, ↓s_unp, ↓s_aug, ↓s_apd, ↓s_put, ↓s_exp, ↓s_ret, ↓s_retV, ↓s_retN, ↓s_ite, ↓s_for, ↓s_whl, ↓s_brk, ↓s_cnt, ↓s_pas, ↓s_frz, ↓s_nev, ↓s_mtc, ↓m_nil, ↓m_one, ↓m_two, ↓m_any, ↓ow_nx, ↓ow_bk, ↓ow_ct, ↓ow_rt, iw_non, iw_bl, iw_int, iw_str, iw_lst, iw_tup, iw_dic, iw_obj, iw_exc, iw_rls, getV_0, getV_s, getS_0, getS_s, boolW_bl, bindW_nm, bindW_tp, setAll_c, setAll_n, wp_ok, wp_ex, b_addI, b_subI, b_addS, b_addL, b_mulIl, b_mulIr, b_modI, b_divI, b_mulS, w_negI, a_I, a_S, x_lstI, x_rlsI, b_powT, x_lstI', x_str, x_str', x_strM, x_lstM, x_i2, x_i3, x_i4, x_i5, x_i6, x_i11, x_t0, x_t1, x_t2, x_t3, x_l0, cut_to, cut_from, cut_mid, cut_toN, cut_fromN, c_lt, c_le, c_gt, c_ge, c_eq, c_ne, e_same, e_I, e_S, e_B, c_iz, c_niz, c_inS, c_ninS, c_inP, c_ninP, c_inL, c_ninL, c_inT, c_ninT, k_non, k_bl, k_int, k_lst, k_tup, k_str, ty_w, isBor_n, isBor_c, v_lst, v_tup, v_slcL, v_slcS, v_revL, v_revS, bi_1, bi_2, l_lst, l_rls, l_tup, l_str, i_int, i_bl, li_lst, li_tup, li_str, so_int, so_str, al_bl, an_bl, su_int, al_map, an_map, su_map, ab_int, mi_2, ma_2, gc_2, r_joinS, r_indexS, r_indexL, mt_join, it_lst, it_own, it_tup, it_str, rn_ok, en_str, en_lst, zi_lst, re_lst, mb_fu, mb_fr, mb_sh, mb_bs, mb_bf, h_fu, h_fr, h_sh, h_fl, o_fu, o_sh, g_fu, g_fr, g_sh, g_fl, r_some, ol_sh, ol_fu, ap_sh, ap_fu, pu_sh, un_ok, pa_ok, bm_int, bm_str, pm_fr, pm_sh, pm_bs, pm_fu, pm_bf, cm_fr, cm_fu, cm_sh, cm_bs, callM_fl, callM_nb, rdV_fr, rdV_sh, rdV_fu, norm_fl, norm_lst, norm_nf, fl_non, fl_bl, fl_int, fl_str, fl_tup, fl_lst, fl_rls, fl_dic, flL_n, flL_c, flL_int, flL_str, wipe_n, wipe_c, List.set_cons_zero, List.set_cons_succ, List.set_nil, List.map_cons, List.map_nil, List.length_map, List.length_cons, List.length_nil, List.append_nil, List.nil_append, List.take_succ_cons, List.take_zero, List.drop_succ_cons, List.drop_zero, Nat.zero_add, Nat.reduceAdd, Nat.reduceSub, isNon, optI_n, optI_var, optI_lit, optI_bin, optI_neg, optI_idx, optI_bi, optI_call, optI_gl, optI_mt, bq_t, bq_f, bq_not, bq_yes, bq_no, bq_and, bq_or, Bool.not_true, Bool.not_false, Bool.false_and, Bool.true_and, Bool.and_false, Bool.and_true, Bool.or_false, Bool.false_or, Bool.or_true, Bool.true_or, if_true, if_false, Bool.false_eq_true, true_and, and_true, List.any_cons, List.any_nil, List.isEmpty_cons, List.isEmpty_nil, tB_int_non, tB_int_bl, tB_int_int, tB_int_str, tB_int_lst, tB_int_tup, tB_int_dic, tB_bool_non, tB_bool_bl, tB_bool_int, tB_bool_str, tB_bool_lst, tB_bool_tup, tB_bool_dic, tB_str_non, tB_str_bl, tB_str_int, tB_str_str, tB_str_lst, tB_str_tup, tB_str_dic, tB_list_non, tB_list_bl, tB_list_int, tB_list_str, tB_list_lst, tB_list_tup, tB_list_dic, tB_tuple_non, tB_tuple_bl, tB_tuple_int, tB_tuple_str, tB_tuple_lst, tB_tuple_tup, tB_tuple_dic, tB_dict_non, tB_dict_bl, tB_dict_int, tB_dict_str, tB_dict_lst, tB_dict_tup, tB_dict_dic]))
  refine for_rng (fun i E => ∃ L q, E = [some (.fr, .str S), some (.fr, .lst (ws.map .int)), some (.fr, .lst (due.map pr)), some (.fr, .lst (l.map .int)), some (.fr, .lst L), q, none] ∧ (L.length : Int) ≤ 17 + 12 * i ∧ D.plainL 60 L = true) ⟨_, _, rfl, by simp, ?_⟩ ?_ ?_
  · simp [plL_c, plL_n, pl_tup, pl_lst, pl_non, pl_int, pl_bl, pl_str, okc]
  · rintro i E g1 g2 ⟨L, q, rfl, hL, hp⟩
    (simp (config := {decide := false}) (disch := first | assumption | omega | (simp only [mb_fu, mb_fr, mb_sh, mb_bs, mb_bf, fl_non, fl_bl, fl_int, fl_str, fl_tup, fl_lst, fl_rls, fl_dic, flL_n, flL_c, flL_int, flL_str, isBor_n, isBor_c, pl_non, pl_bl, pl_int, pl_lst, plL_a, pl_tup, plL_n, plL_c, plL_int, at_non, at_bl, at_int, at_str, co_non, co_bl, co_int, co_str, co_lst, co_tup, List.all_cons, List.all_nil, List.length_cons, List.length_nil, List.length_map, beq_self_eq_true, mkb_shfu, mkb_frfu, Bool.false_and, Bool.true_and, Bool.and_true, Bool.and_false, Bool.and_self, Bool.not_true, Bool.not_false, Bool.or_false, Bool.or_true, Bool.true_or, Bool.false_or, Bool.or_self, ne_eq, reduceCtorEq, not_false_eq_true, not_true_eq_false, List.map_cons, List.map_nil]; done) | (have hSZ : SZ = 16777216 := SZ_w; first | omega | (simp only [List.length_map, List.length_append, List.length_cons, List.length_nil, List.length_reverse, List.length_range, List.length_take, List.length_drop, List.length_replicate] <;> omega))) only [gl, c0, c17, c1, c2, c3, wD, c4, c5, c6, c7, c9, c22, c10, c11, c12, c13, c14, c15, c24, c23, rngL_map, ↓wp_ok, ↓wp_ex, ↓wp_bind, ↓w_var, ↓w_cst, ↓w_gl, ↓w_bin, ↓w_neg, ↓w_cmp, ↓w_chain, ↓w_isN, ↓w_notN, ↓w_and, ↓w_or, ↓w_and1, ↓w_and2, ↓w_or1, ↓w_or2, ↓w_not, ↓w_ite, ↓w_lst, ↓w_tup, ↓w_idx, ↓w_slc, ↓w_rev, ↓w_call, ↓w_bi, ↓w_mt1, ↓w_isi, ↓w_comp, ↓w_dcomp, ↓w_dic0, ↓w_dn, ↓w_dc, ↓t_val, ↓t_cmp, ↓t_chain, ↓t_isN, ↓t_notN, ↓t_not, ↓t_and, ↓t_or, ↓t_and1, ↓t_and2, ↓t_or1, ↓t_or2, ↓ts_n, ↓ts_1, ↓i_val, ↓i_rng1, ↓i_rng2, ↓i_enum, ↓i_zip, ↓i_revd, ↓s_nil, ↓s_cons, ↓s_set, ↓s_own, ↓s_par, ↓s_unp, ↓s_aug, ↓s_apd, ↓s_put, ↓s_exp, ↓s_ret, ↓s_retV, ↓s_retN, ↓s_ite, ↓s_for, ↓s_whl, ↓s_brk, ↓s_cnt, ↓s_pas, ↓s_frz, ↓s_nev, ↓s_mtc, ↓m_nil, ↓m_one, ↓m_two, ↓m_any, ↓ow_nx, ↓ow_bk, ↓ow_ct, ↓ow_rt, iw_non, iw_bl, iw_int, iw_str, iw_lst, iw_tup, iw_dic, iw_obj, iw_exc, iw_rls, getV_0, getV_s, getS_0, getS_s, boolW_bl, bindW_nm, bindW_tp, setAll_c, setAll_n, wp_ok, wp_ex, b_addI, b_subI, b_addS, b_addL, b_mulIl, b_mulIr, b_modI, b_divI, b_mulS, w_negI, a_I, a_S, x_lstI, x_rlsI, b_powT, x_lstI', x_str, x_str', x_strM, x_lstM, x_i2, x_i3, x_i4, x_i5, x_i6, x_i11, x_t0, x_t1, x_t2, x_t3, x_l0, cut_to, cut_from, cut_mid, cut_toN, cut_fromN, c_lt, c_le, c_gt, c_ge, c_eq, c_ne, e_same, e_I, e_S, e_B, c_iz, c_niz, c_inS, c_ninS, c_inP, c_ninP, c_inL, c_ninL, c_inT, c_ninT, k_non, k_bl, k_int, k_lst, k_tup, k_str, ty_w, isBor_n, isBor_c, v_lst, v_tup, v_slcL, v_slcS, v_revL, v_revS, bi_1, bi_2, l_lst, l_rls, l_tup, l_str, i_int, i_bl, li_lst, li_tup, li_str, so_int, so_str, al_bl, an_bl, su_int, al_map, an_map, su_map, ab_int, mi_2, ma_2, gc_2, r_joinS, r_indexS, r_indexL, mt_join, it_lst, it_own, it_tup, it_str, rn_ok, en_str, en_lst, zi_lst, re_lst, mb_fu, mb_fr, mb_sh, mb_bs, mb_bf, h_fu, h_fr, h_sh, h_fl, o_fu, o_sh, g_fu, g_fr, g_sh, g_fl, r_some, ol_sh, ol_fu, ap_sh, ap_fu, pu_sh, un_ok, pa_ok, bm_int, bm_str, pm_fr, pm_sh, pm_bs, pm_fu, pm_bf, cm_fr, cm_fu, cm_sh, cm_bs, callM_fl, callM_nb, rdV_fr, rdV_sh, rdV_fu, norm_fl, norm_lst, norm_nf, fl_non, fl_bl, fl_int, fl_str, fl_tup, fl_lst, fl_rls, fl_dic, flL_n, flL_c, flL_int, flL_str, wipe_n, wipe_c, List.set_cons_zero, List.set_cons_succ, List.set_nil, List.map_cons, List.map_nil, List.length_map, List.length_cons, List.length_nil, List.append_nil, List.nil_append, List.take_succ_cons, List.take_zero, List.drop_succ_cons, List.drop_zero, Nat.zero_add, Nat.reduceAdd, Nat.reduceSub, isNon, optI_n, optI_var, optI_lit, optI_bin, optI_neg, optI_idx, optI_bi, optI_call, optI_gl, optI_mt, bq_t, bq_f, bq_not, bq_yes, bq_no, bq_and, bq_or, Bool.not_true, Bool.not_false, Bool.false_and, Bool.true_and, Bool.and_false, Bool.and_true, Bool.or_false, Bool.false_or, Bool.or_true, Bool.true_or, if_true, if_false, Bool.false_eq_true, true_and, and_true, List.any_cons, List.any_nil, List.isEmpty_cons, List.isEmpty_nil, tB_int_non, tB_int_bl, tB_int_int, tB_int_str, tB_int_lst, tB_int_tup, tB_int_dic, tB_bool_non, tB_bool_bl, tB_bool_int, tB_bool_str, tB_bool_lst, tB_bool_tup, tB_bool_dic, tB_str_non, tB_str_bl, tB_str_int, tB_str_str, tB_str_lst, tB_str_tup, tB_str_dic, tB_list_non, tB_list_bl, tB_list_int, tB_list_str, tB_list_lst, tB_list_tup, tB_list_dic, tB_tuple_non, tB_tuple_bl, tB_tuple_int, tB_tuple_str, tB_tuple_lst, tB_tuple_tup, tB_tuple_dic, tB_dict_non, tB_dict_bl, tB_dict_int, tB_dict_str, tB_dict_lst, tB_dict_tup, tB_dict_dic])
    refine v_comp1 (fun k : Nat => D.int (1 + (k : Int))) (fun k : Nat => pr (i, 1 + (k : Int))) ?_ (fun k hk => ?_) ?_
    · rw [List.length_range]; omega
    · (simp (config := {decide := false}) (disch := first | assumption | omega | (simp only [mb_fu, mb_fr, mb_sh, mb_bs, mb_bf, fl_non, fl_bl, fl_int, fl_str, fl_tup, fl_lst, fl_rls, fl_dic, flL_n, flL_c, flL_int, flL_str, isBor_n, isBor_c, pl_non, pl_bl, pl_int, pl_lst, plL_a, pl_tup, plL_n, plL_c, plL_int, at_non, at_bl, at_int, at_str, co_non, co_bl, co_int, co_str, co_lst, co_tup, List.all_cons, List.all_nil, List.length_cons, List.length_nil, List.length_map, beq_self_eq_true, mkb_shfu, mkb_frfu, Bool.false_and, Bool.true_and, Bool.and_true, Bool.and_false, Bool.and_self, Bool.not_true, Bool.not_false, Bool.or_false, Bool.or_true, Bool.true_or, Bool.false_or, Bool.or_self, ne_eq, reduceCtorEq, not_false_eq_true, not_true_eq_false, List.map_cons, List.map_nil]; done) | (have hSZ : SZ = 16777216 := SZ_w; first | omega | (simp only [List.length_map, List.length_append, List.length_cons, List.length_nil, List.length_reverse, List.length_range, List.length_take, List.length_drop, List.length_replicate] <;> omega))) only [gl, c0, c17, c1, c2, c3, wD, c4, c5, c6, c7, c9, c22, c10, c11, c12, c13, c14, c15, c24, c23, ↓wp_ok, ↓wp_ex, ↓wp_bind, ↓w_var, ↓w_cst, ↓w_gl, ↓w_bin, ↓w_neg, ↓w_cmp, ↓w_chain, ↓w_isN, ↓w_notN, ↓w_and, ↓w_or, ↓w_and1, ↓w_and2, ↓w_or1, ↓w_or2, ↓w_not, ↓w_ite, ↓w_lst, ↓w_tup, ↓w_idx, ↓w_slc, ↓w_rev, ↓w_call, ↓w_bi, ↓w_mt1, ↓w_isi, ↓w_comp, ↓w_dcomp, ↓w_dic0, ↓w_dn, ↓w_dc, ↓t_val, ↓t_cmp, ↓t_chain, ↓t_isN, ↓t_notN, ↓t_not, ↓t_and, ↓t_or, ↓t_and1, ↓t_and2, ↓t_or1, ↓t_or2, ↓ts_n, ↓ts_1, ↓i_val, ↓i_rng1, ↓i_rng2, ↓i_enum, ↓i_zip, ↓i_revd, ↓s_nil, ↓s_cons, ↓s_set, ↓s_own, ↓s_par, ↓s_unp, ↓s_aug, ↓s_apd, ↓s_put, ↓s_exp, ↓s_ret, ↓s_retV, ↓s_retN, ↓s_ite, ↓s_for, ↓s_whl, ↓s_brk, ↓s_cnt, ↓s_pas, ↓s_frz, ↓s_nev, ↓s_mtc, ↓m_nil, ↓m_one, ↓m_two, ↓m_any, ↓ow_nx, ↓ow_bk, ↓ow_ct, ↓ow_rt, iw_non, iw_bl, iw_int, iw_str, iw_lst, iw_tup, iw_dic, iw_obj, iw_exc, iw_rls, getV_0, getV_s, getS_0, getS_s, boolW_bl, bindW_nm, bindW_tp, setAll_c, setAll_n, wp_ok, wp_ex, b_addI, b_subI, b_addS, b_addL, b_mulIl, b_mulIr, b_modI, b_divI, b_mulS, w_negI, a_I, a_S, x_lstI, x_rlsI, b_powT, x_lstI', x_str, x_str', x_strM, x_lstM, x_i2, x_i3, x_i4, x_i5, x_i6, x_i11, x_t0, x_t1, x_t2, x_t3, x_l0, cut_to, cut_from, cut_mid, cut_toN, cut_fromN, c_lt, c_le, c_gt, c_ge, c_eq, c_ne, e_same, e_I, e_S, e_B, c_iz, c_niz, c_inS, c_ninS, c_inP, c_ninP, c_inL, c_ninL, c_inT, c_ninT, k_non, k_bl, k_int, k_lst, k_tup, k_str, ty_w, isBor_n, isBor_c, v_lst, v_tup, v_slcL, v_slcS, v_revL, v_revS, bi_1, bi_2, l_lst, l_rls, l_tup, l_str, i_int, i_bl, li_lst, li_tup, li_str, so_int, so_str, al_bl, an_bl, su_int, al_map, an_map, su_map, ab_int, mi_2, ma_2, gc_2, r_joinS, r_indexS, r_indexL, mt_join, it_lst, it_own, it_tup, it_str, rn_ok, en_str, en_lst, zi_lst, re_lst, mb_fu, mb_fr, mb_sh, mb_bs, mb_bf, h_fu, h_fr, h_sh, h_fl, o_fu, o_sh, g_fu, g_fr, g_sh, g_fl, r_some, ol_sh, ol_fu, ap_sh, ap_fu, pu_sh, un_ok, pa_ok, bm_int, bm_str, pm_fr, pm_sh, pm_bs, pm_fu, pm_bf, cm_fr, cm_fu, cm_sh, cm_bs, callM_fl, callM_nb, rdV_fr, rdV_sh, rdV_fu, norm_fl, norm_lst, norm_nf, fl_non, fl_bl, fl_int, fl_str, fl_tup, fl_lst, fl_rls, fl_dic, flL_n, flL_c, flL_int, flL_str, wipe_n, wipe_c, List.set_cons_zero, List.set_cons_succ, List.set_nil, List.map_cons, List.map_nil, List.length_map, List.length_cons, List.length_nil, List.append_nil, List.nil_append, List.take_succ_cons, List.take_zero, List.drop_succ_cons, List.drop_zero, Nat.zero_add, Nat.reduceAdd, Nat.reduceSub, isNon, optI_n, optI_var, optI_lit, optI_bin, optI_neg, optI_idx, optI_bi, optI_call, optI_gl, optI_mt, bq_t, bq_f, bq_not, bq_yes, bq_no, bq_and, bq_or, Bool.not_true, Bool.not_false, Bool.false_and, Bool.true_and, Bool.and_false, Bool.and_true, Bool.or_false, Bool.false_or, Bool.or_true, Bool.true_or, if_true, if_false, Bool.false_eq_true, true_and, and_true, List.any_cons, List.any_nil, List.isEmpty_cons, List.isEmpty_nil, tB_int_non, tB_int_bl, tB_int_int, tB_int_str, tB_int_lst, tB_int_tup, tB_int_dic, tB_bool_non, tB_bool_bl, tB_bool_int, tB_bool_str, tB_bool_lst, tB_bool_tup, tB_bool_dic, tB_str_non, tB_str_bl, tB_str_int, tB_str_str, tB_str_lst, tB_str_tup, tB_str_dic, tB_list_non, tB_list_bl, tB_list_int, tB_list_str, tB_list_lst, tB_list_tup, tB_list_dic, tB_tuple_non, tB_tuple_bl, tB_tuple_int, tB_tuple_str, tB_tuple_lst, tB_tuple_tup, tB_tuple_dic, tB_dict_non, tB_dict_bl, tB_dict_int, tB_dict_str, tB_dict_lst, tB_dict_tup, tB_dict_dic])
      rfl
    · (simp (config := {decide := false}) (disch := first | assumption | omega | (simp only [mb_fu, mb_fr, mb_sh, mb_bs, mb_bf, fl_non, fl_bl, fl_int, fl_str, fl_tup, fl_lst, fl_rls, fl_dic, flL_n, flL_c, flL_int, flL_str, isBor_n, isBor_c, pl_non, pl_bl, pl_int, pl_lst, plL_a, pl_tup, plL_n, plL_c, plL_int, at_non, at_bl, at_int, at_str, co_non, co_bl, co_int, co_str, co_lst, co_tup, List.all_cons, List.all_nil, List.length_cons, List.length_nil, List.length_map, beq_self_eq_true, mkb_shfu, mkb_frfu, Bool.false_and, Bool.true_and, Bool.and_true, Bool.and_false, Bool.and_self, Bool.not_true, Bool.not_false, Bool.or_false, Bool.or_true, Bool.true_or, Bool.false_or, Bool.or_self, ne_eq, reduceCtorEq, not_false_eq_true, not_true_eq_false, List.map_cons, List.map_nil]; done) | (have hSZ : SZ = 16777216 := SZ_w; first | omega | (simp only [List.length_map, List.length_append, List.length_cons, List.length_nil, List.length_reverse, List.length_range, List.length_take, List.length_drop, List.length_replicate] <;> omega))) only [gl, c0, c17, c1, c2, c3, wD, c4, c5, c6, c7, c9, c22, c10, c11, c12, c13, c14, c15, c24, c23, ↓wp_ok, ↓wp_ex, ↓wp_bind, ↓w_var, ↓w_cst, ↓w_gl, ↓w_bin, ↓w_neg, ↓w_cmp, ↓w_chain, ↓w_isN, ↓w_notN, ↓w_and, ↓w_or, ↓w_and1, ↓w_and2, ↓w_or1, ↓w_or2, ↓w_not, ↓w_ite, ↓w_lst, ↓w_tup, ↓w_idx, ↓w_slc, ↓w_rev, ↓w_call, ↓w_bi, ↓w_mt1, ↓w_isi, ↓w_comp, ↓w_dcomp, ↓w_dic0, ↓w_dn, ↓w_dc, ↓t_val, ↓t_cmp, ↓t_chain, ↓t_isN, ↓t_notN, ↓t_not, ↓t_and, ↓t_or, ↓t_and1, ↓t_and2, ↓t_or1, ↓t_or2, ↓ts_n, ↓ts_1, ↓i_val, ↓i_rng1, ↓i_rng2, ↓i_enum, ↓i_zip, ↓i_revd, ↓s_nil, ↓s_cons, ↓s_set, ↓s_own, ↓s_par, ↓s_unp, ↓s_aug, ↓s_apd, ↓s_put, ↓s_exp, ↓s_ret, ↓s_retV, ↓s_retN, ↓s_ite, ↓s_for, ↓s_whl, ↓s_brk, ↓s_cnt, ↓s_pas, ↓s_frz, ↓s_nev, ↓s_mtc, ↓m_nil, ↓m_one, ↓m_two, ↓m_any, ↓ow_nx, ↓ow_bk, ↓ow_ct, ↓ow_rt, iw_non, iw_bl, iw_int, iw_str, iw_lst, iw_tup, iw_dic, iw_obj, iw_exc, iw_rls, getV_0, getV_s, getS_0, getS_s, boolW_bl, bindW_nm, bindW_tp, setAll_c, setAll_n, wp_ok, wp_ex, b_addI, b_subI, b_addS, b_addL, b_mulIl, b_mulIr, b_modI, b_divI, b_mulS, w_negI, a_I, a_S, x_lstI, x_rlsI, b_powT, x_lstI', x_str, x_str', x_strM, x_lstM, x_i2, x_i3, x_i4, x_i5, x_i6, x_i11, x_t0, x_t1, x_t2, x_t3, x_l0, cut_to, cut_from, cut_mid, cut_toN, cut_fromN, c_lt, c_le, c_gt, c_ge, c_eq, c_ne, e_same, e_I, e_S, e_B, c_iz, c_niz, c_inS, c_ninS, c_inP, c_ninP, c_inL, c_ninL, c_inT, c_ninT, k_non, k_bl, k_int, k_lst, k_tup, k_str, ty_w, isBor_n, isBor_c, v_lst, v_tup, v_slcL, v_slcS, v_revL, v_revS, bi_1, bi_2, l_lst, l_rls, l_tup, l_str, i_int, i_bl, li_lst, li_tup, li_str, so_int, so_str, al_bl, an_bl, su_int, al_map, an_map, su_map, ab_int, mi_2, ma_2, gc_2, r_joinS, r_indexS, r_indexL, mt_join, it_lst, it_own, it_tup, it_str, rn_ok, en_str, en_lst, zi_lst, re_lst, mb_fu, mb_fr, mb_sh, mb_bs, mb_bf, h_fu, h_fr, h_sh, h_fl, o_fu, o_sh, g_fu, g_fr, g_sh, g_fl, r_some, ol_sh, ol_fu, ap_sh, ap_fu, pu_sh, un_ok, pa_ok, bm_int, bm_str, pm_fr, pm_sh, pm_bs, pm_fu, pm_bf, cm_fr, cm_fu, cm_sh, cm_bs, callM_fl, callM_nb, rdV_fr, rdV_sh, rdV_fu, norm_fl, norm_lst, norm_nf, fl_non, fl_bl, fl_int, fl_str, fl_tup, fl_lst, fl_rls, fl_dic, flL_n, flL_c, flL_int, flL_str, wipe_n, wipe_c, List.set_cons_zero, List.set_cons_succ, List.set_nil, List.map_cons, List.map_nil, List.length_map, List.length_cons, List.length_nil, List.append_nil, List.nil_append, List.take_succ_cons, List.take_zero, List.drop_succ_cons, List.drop_zero, Nat.zero_add, Nat.reduceAdd, Nat.reduceSub, isNon, optI_n, optI_var, optI_lit, optI_bin, optI_neg, optI_idx, optI_bi, optI_call, optI_gl, optI_mt, bq_t, bq_f, bq_not, bq_yes, bq_no, bq_and, bq_or, Bool.not_true, Bool.not_false, Bool.false_and, Bool.true_and, Bool.and_false, Bool.and_true, Bool.or_false, Bool.false_or, Bool.or_true, Bool.true_or, if_true, if_false, Bool.false_eq_true, true_and, and_true, List.any_cons, List.any_nil, List.isEmpty_cons, List.isEmpty_nil, tB_int_non, tB_int_bl, tB_int_int, tB_int_str, tB_int_lst, tB_int_tup, tB_int_dic, tB_bool_non, tB_bool_bl, tB_bool_int, tB_bool_str, tB_bool_lst, tB_bool_tup, tB_bool_dic, tB_str_non, tB_str_bl, tB_str_int, tB_str_str, tB_str_lst, tB_str_tup, tB_str_dic, tB_list_non, tB_list_bl, tB_list_int, tB_list_str, tB_list_lst, tB_list_tup, tB_list_dic, tB_tuple_non, tB_tuple_bl, tB_tuple_int, tB_tuple_str, tB_tuple_lst, tB_tuple_tup, tB_tuple_dic, tB_dict_non, tB_dict_bl, tB_dict_int, tB_dict_str, tB_dict_lst, tB_dict_tup, tB_dict_dic])
      refine ⟨_, _, rfl, ?_, ?_⟩
      · simp; omega
      · rw [plL_a, hp, Bool.true_and]
        exact plL_all fun d hd => by
          rw [List.mem_map] at hd
          obtain ⟨x, _, rfl⟩ := hd
          simp [pr, pl_tup, plL_c, plL_n, pl_int]
  · rintro E ⟨L, q, rfl, hL, hp⟩
    (simp (config := {decide := false}) (disch := first | assumption | omega | (simp only [mb_fu, mb_fr, mb_sh, mb_bs, mb_bf, fl_non, fl_bl, fl_int, fl_str, fl_tup, fl_lst, fl_rls, fl_dic, flL_n, flL_c, flL_int, flL_str, isBor_n, isBor_c, pl_non, pl_bl, pl_int, pl_lst, plL_a, pl_tup, plL_n, plL_c, plL_int, at_non, at_bl, at_int, at_str, co_non, co_bl, co_int, co_str, co_lst, co_tup, List.all_cons, List.all_nil, List.length_cons, List.length_nil, List.length_map, beq_self_eq_true, mkb_shfu, mkb_frfu, Bool.false_and, Bool.true_and, Bool.and_true, Bool.and_false, Bool.and_self, Bool.not_true, Bool.not_false, Bool.or_false, Bool.or_true, Bool.true_or, Bool.false_or, Bool.or_self, ne_eq, reduceCtorEq, not_false_eq_true, not_true_eq_false, List.map_cons, List.map_nil]; done) | (have hSZ : SZ = 16777216 := SZ_w; first | omega | (simp only [List.length_map, List.length_append, List.length_cons, List.length_nil, List.length_reverse, List.length_range, List.length_take, List.length_drop, List.length_replicate] <;> omega))) only [gl, c0, c17, c1, c2, c3, wD, c4, c5, c6, c7, c9, c22, c10, c11, c12, c13, c14, c15, c24, c23, ↓wp_ok, ↓wp_ex, ↓wp_bind, ↓w_var, ↓w_cst, ↓w_gl, ↓w_bin, ↓w_neg, ↓w_cmp, ↓w_chain, ↓w_isN, ↓w_notN, ↓w_and, ↓w_or, ↓w_and1, ↓w_and2, ↓w_or1, ↓w_or2, ↓w_not, ↓w_ite, ↓w_lst, ↓w_tup, ↓w_idx, ↓w_slc, ↓w_rev, ↓w_call, ↓w_bi, ↓w_mt1, ↓w_isi, ↓w_comp, ↓w_dcomp, ↓w_dic0, ↓w_dn, ↓w_dc, ↓t_val, ↓t_cmp, ↓t_chain, ↓t_isN, ↓t_notN, ↓t_not, ↓t_and, ↓t_or, ↓t_and1, ↓t_and2, ↓t_or1, ↓t_or2, ↓ts_n, ↓ts_1, ↓i_val, ↓i_rng1, ↓i_rng2, ↓i_enum, ↓i_zip, ↓i_revd, ↓s_nil, ↓s_cons, ↓s_set, ↓s_own, ↓s_par, ↓s_unp, ↓s_aug, ↓s_apd, ↓s_put, ↓s_exp, ↓s_ret, ↓s_retV, ↓s_retN, ↓s_ite, ↓s_for, ↓s_whl, ↓s_brk, ↓s_cnt, ↓s_pas, ↓s_frz, ↓s_nev, ↓s_mtc, ↓m_nil, ↓m_one, ↓m_two, ↓m_any, ↓ow_nx, ↓ow_bk, ↓ow_ct, ↓ow_rt, iw_non, iw_bl, iw_int, iw_str, iw_lst, iw_tup, iw_dic, iw_obj, iw_exc, iw_rls, getV_0, getV_s, getS_0, getS_s, boolW_bl, bindW_nm, bindW_tp, setAll_c, setAll_n, wp_ok, wp_ex, b_addI, b_subI, b_addS, b_addL, b_mulIl, b_mulIr, b_modI, b_divI, b_mulS, w_negI, a_I, a_S, x_lstI, x_rlsI, b_powT, x_lstI', x_str, x_str', x_strM, x_lstM, x_i2, x_i3, x_i4, x_i5, x_i6, x_i11, x_t0, x_t1, x_t2, x_t3, x_l0, cut_to, cut_from, cut_mid, cut_toN, cut_fromN, c_lt, c_le, c_gt, c_ge, c_eq, c_ne, e_same, e_I, e_S, e_B, c_iz, c_niz, c_inS, c_ninS, c_inP, c_ninP, c_inL, c_ninL, c_inT, c_ninT, k_non, k_bl, k_int, k_lst, k_tup, k_str, ty_w, isBor_n, isBor_c, v_lst, v_tup, v_slcL, v_slcS, v_revL, v_revS, bi_1, bi_2, l_lst, l_rls, l_tup, l_str, i_int, i_bl, li_lst, li_tup, li_str, so_int, so_str, al_bl, an_bl, su_int, al_map, an_map, su_map, ab_int, mi_2, ma_2, gc_2, r_joinS, r_indexS, r_indexL, mt_join, it_lst, it_own, it_tup, it_str, rn_ok, en_str, en_lst, zi_lst, re_lst, mb_fu, mb_fr, mb_sh, mb_bs, mb_bf, h_fu, h_fr, h_sh, h_fl, o_fu, o_sh, g_fu, g_fr, g_sh, g_fl, r_some, ol_sh, ol_fu, ap_sh, ap_fu, pu_sh, un_ok, pa_ok, bm_int, bm_str, pm_fr, pm_sh, pm_bs, pm_fu, pm_bf, cm_fr, cm_fu, cm_sh, cm_bs, callM_fl, callM_nb, rdV_fr, rdV_sh, rdV_fu, norm_fl, norm_lst, norm_nf, fl_non, fl_bl, fl_int, fl_str, fl_tup, fl_lst, fl_rls, fl_dic, flL_n, flL_c, flL_int, flL_str, wipe_n, wipe_c, List.set_cons_zero, List.set_cons_succ, List.set_nil, List.map_cons, List.map_nil, List.length_map, List.length_cons, List.length_nil, List.append_nil, List.nil_append, List.take_succ_cons, List.take_zero, List.drop_succ_cons, List.drop_zero, Nat.zero_add, Nat.reduceAdd, Nat.reduceSub, isNon, optI_n, optI_var, optI_lit, optI_bin, optI_neg, optI_idx, optI_bi, optI_call, optI_gl, optI_mt, bq_t, bq_f, bq_not, bq_yes, bq_no, bq_and, bq_or, Bool.not_true, Bool.not_false, Bool.false_and, Bool.true_and, Bool.and_false, Bool.and_true, Bool.or_false, Bool.false_or, Bool.or_true, Bool.true_or, if_true, if_false, Bool.false_eq_true, true_and, and_true, List.any_cons, List.any_nil, List.isEmpty_cons, List.isEmpty_nil, tB_int_non, tB_int_bl, tB_int_int, tB_int_str, tB_int_lst, tB_int_tup, tB_int_dic, tB_bool_non, tB_bool_bl, tB_bool_int, tB_bool_str, tB_bool_lst, tB_bool_tup, tB_bool_dic, tB_str_non, tB_str_bl, tB_str_int, tB_str_str, tB_str_lst, tB_str_tup, tB_str_dic, tB_list_non, tB_list_bl, tB_list_int, tB_list_str, tB_list_lst, tB_list_tup, tB_list_dic, tB_tuple_non, tB_tuple_bl, tB_tuple_int, tB_tuple_str, tB_tuple_lst, tB_tuple_tup, tB_tuple_dic, tB_dict_non, tB_dict_bl, tB_dict_int, tB_dict_str, tB_dict_lst, tB_dict_tup, tB_dict_dic])
    rw [← List.map_take]
    have hlen : (due.take (4 : Int).toNat).length ≤ 4 := by simp; omega
    generalize due.take (4 : Int).toNat = du at hlen
    refine for_map (fun pre E => ∃ L q r, E = [some (.fr, .str S), some (.fr, .lst (ws.map .int)), some (.fr, .lst (due.map pr)), some (.fr, .lst (l.map .int)), some (.fr, .lst L), q, r] ∧ (L.length : Int) ≤ 200 + 8 * pre.length ∧ D.plainL 60 L = true) ⟨_, _, _, rfl, by simp; omega, hp⟩ ?_ ?_
    · rintro pre ⟨k, d⟩ post E he ⟨L, q, r, rfl, hL, hp⟩
      have := congrArg List.length he
      simp at this
      unfold pr
      (simp (config := {decide := false}) (disch := first | assumption | omega | (simp only [mb_fu, mb_fr, mb_sh, mb_bs, mb_bf, fl_non, fl_bl, fl_int, fl_str, fl_tup, fl_lst, fl_rls, fl_dic, flL_n, flL_c, flL_int, flL_str, isBor_n, isBor_c, pl_non, pl_bl, pl_int, pl_lst, plL_a, pl_tup, plL_n, plL_c, plL_int, at_non, at_bl, at_int, at_str, co_non, co_bl, co_int, co_str, co_lst, co_tup, List.all_cons, List.all_nil, List.length_cons, List.length_nil, List.length_map, beq_self_eq_true, mkb_shfu, mkb_frfu, Bool.false_and, Bool.true_and, Bool.and_true, Bool.and_false, Bool.and_self, Bool.not_true, Bool.not_false, Bool.or_false, Bool.or_true, Bool.true_or, Bool.false_or, Bool.or_self, ne_eq, reduceCtorEq, not_false_eq_true, not_true_eq_false, List.map_cons, List.map_nil]; done) | (have hSZ : SZ = 16777216 := SZ_w; first | omega | (simp only [List.length_map, List.length_append, List.length_cons, List.length_nil, List.length_reverse, List.length_range, List.length_take, List.length_drop, List.length_replicate] <;> omega))) only [gl, c0, c17, c1, c2, c3, wD, c4, c5, c6, c7, c9, c22, c10, c11, c12, c13, c14, c15, c24, c23, ↓wp_ok, ↓wp_ex, ↓wp_bind, ↓w_var, ↓w_cst, ↓w_gl, ↓w_bin, ↓w_neg, ↓w_cmp, ↓w_chain, ↓w_isN, ↓w_notN, ↓w_and, ↓w_or, ↓w_and1, ↓w_and2, ↓w_or1, ↓w_or2, ↓w_not, ↓w_ite, ↓w_lst, ↓w_tup, ↓w_idx, ↓w_slc, ↓w_rev, ↓w_call, ↓w_bi, ↓w_mt1, ↓w_isi, ↓w_comp, ↓w_dcomp, ↓w_dic0, ↓w_dn, ↓w_dc, ↓t_val, ↓t_cmp, ↓t_chain, ↓t_isN, ↓t_notN, ↓t_not, ↓t_and, ↓t_or, ↓t_and1, ↓t_and2, ↓t_or1, ↓t_or2, ↓ts_n, ↓ts_1, ↓i_val, ↓i_rng1, ↓i_rng2, ↓i_enum, ↓i_zip, ↓i_revd, ↓s_nil, ↓s_cons, ↓s_set, ↓s_own, ↓s_par, ↓s_unp, ↓s_aug, ↓s_apd, ↓s_put, ↓s_exp, ↓s_ret, ↓s_retV, ↓s_retN, ↓s_ite, ↓s_for, ↓s_whl, ↓s_brk, ↓s_cnt, ↓s_pas, ↓s_frz, ↓s_nev, ↓s_mtc, ↓m_nil, ↓m_one, ↓m_two, ↓m_any, ↓ow_nx, ↓ow_bk, ↓ow_ct, ↓ow_rt, iw_non, iw_bl, iw_int, iw_str, iw_lst, iw_tup, iw_dic, iw_obj, iw_exc, iw_rls, getV_0, getV_s, getS_0, getS_s, boolW_bl, bindW_nm, bindW_tp, setAll_c, setAll_n, wp_ok, wp_ex, b_addI, b_subI, b_addS, b_addL, b_mulIl, b_mulIr, b_modI, b_divI, b_mulS, w_negI, a_I, a_S, x_lstI, x_rlsI, b_powT, x_lstI', x_str, x_str', x_strM, x_lstM, x_i2, x_i3, x_i4, x_i5, x_i6, x_i11, x_t0, x_t1, x_t2, x_t3, x_l0, cut_to, cut_from, cut_mid, cut_toN, cut_fromN, c_lt, c_le, c_gt, c_ge, c_eq, c_ne, e_same, e_I, e_S, e_B, c_iz, c_niz, c_inS, c_ninS, c_inP, c_ninP, c_inL, c_ninL, c_inT, c_ninT, k_non, k_bl, k_int, k_lst, k_tup, k_str, ty_w, isBor_n, isBor_c, v_lst, v_tup, v_slcL, v_slcS, v_revL, v_revS, bi_1, bi_2, l_lst, l_rls, l_tup, l_str, i_int, i_bl, li_lst, li_tup, li_str, so_int, so_str, al_bl, an_bl, su_int, al_map, an_map, su_map, ab_int, mi_2, ma_2, gc_2, r_joinS, r_indexS, r_indexL, mt_join, it_lst, it_own, it_tup, it_str, rn_ok, en_str, en_lst, zi_lst, re_lst, mb_fu, mb_fr, mb_sh, mb_bs, mb_bf, h_fu, h_fr, h_sh, h_fl, o_fu, o_sh, g_fu, g_fr, g_sh, g_fl, r_some, ol_sh, ol_fu, ap_sh, ap_fu, pu_sh, un_ok, pa_ok, bm_int, bm_str, pm_fr, pm_sh, pm_bs, pm_fu, pm_bf, cm_fr, cm_fu, cm_sh, cm_bs, callM_fl, callM_nb, rdV_fr, rdV_sh, rdV_fu, norm_fl, norm_lst, norm_nf, fl_non, fl_bl, fl_int, fl_str, fl_tup, fl_lst, fl_rls, fl_dic, flL_n, flL_c, flL_int, flL_str, wipe_n, wipe_c, List.set_cons_zero, List.set_cons_succ, List.set_nil, List.map_cons, List.map_nil, List.length_map, List.length_cons, List.length_nil, List.append_nil, List.nil_append, List.take_succ_cons, List.take_zero, List.drop_succ_cons, List.drop_zero, Nat.zero_add, Nat.reduceAdd, Nat.reduceSub, isNon, optI_n, optI_var, optI_lit, optI_bin, optI_neg, optI_idx, optI_bi, optI_call, optI_gl, optI_mt, bq_t, bq_f, bq_not, bq_yes, bq_no, bq_and, bq_or, Bool.not_true, Bool.not_false, Bool.false_and, Bool.true_and, Bool.and_false, Bool.and_true, Bool.or_false, Bool.false_or, Bool.or_true, Bool.true_or, if_true, if_false, Bool.false_eq_true, true_and, and_true, List.any_cons, List.any_nil, List.isEmpty_cons, List.isEmpty_nil, tB_int_non, tB_int_bl, tB_int_int, tB_int_str, tB_int_lst, tB_int_tup, tB_int_dic, tB_bool_non, tB_bool_bl, tB_bool_int, tB_bool_str, tB_bool_lst, tB_bool_tup, tB_bool_dic, tB_str_non, tB_str_bl, tB_str_int, tB_str_str, tB_str_lst, tB_str_tup, tB_str_dic, tB_list_non, tB_list_bl, tB_list_int, tB_list_str, tB_list_lst, tB_list_tup, tB_list_dic, tB_tuple_non, tB_tuple_bl, tB_tuple_int, tB_tuple_str, tB_tuple_lst, tB_tuple_tup, tB_tuple_dic, tB_dict_non, tB_dict_bl, tB_dict_int, tB_dict_str, tB_dict_lst, tB_dict_tup, tB_dict_dic])
      refine ⟨_, _, _, rfl, by simp; omega, ?_⟩
      simp [plL_a, plL_c, plL_n, pl_tup, pl_lst, pl_non, pl_int, pl_bl, pl_str, okc, hp]
    · rintro E ⟨L, q, r, rfl, hL, hp⟩
      (simp (config := {decide := false}) (disch := first | assumption | omega | (simp only [mb_fu, mb_fr, mb_sh, mb_bs, mb_bf, fl_non, fl_bl, fl_int, fl_str, fl_tup, fl_lst, fl_rls, fl_dic, flL_n, flL_c, flL_int, flL_str, isBor_n, isBor_c, pl_non, pl_bl, pl_int, pl_lst, plL_a, pl_tup, plL_n, plL_c, plL_int, at_non, at_bl, at_int, at_str, co_non, co_bl, co_int, co_str, co_lst, co_tup, List.all_cons, List.all_nil, List.length_cons, List.length_nil, List.length_map, beq_self_eq_true, mkb_shfu, mkb_frfu, Bool.false_and, Bool.true_and, Bool.and_true, Bool.and_false, Bool.and_self, Bool.not_true, Bool.not_false, Bool.or_false, Bool.or_true, Bool.true_or, Bool.false_or, Bool.or_self, ne_eq, reduceCtorEq, not_false_eq_true, not_true_eq_false, List.map_cons, List.map_nil]; done) | (have hSZ : SZ = 16777216 := SZ_w; first | omega | (simp only [List.length_map, List.length_append, List.length_cons, List.length_nil, List.length_reverse, List.length_range, List.length_take, List.length_drop, List.length_replicate] <;> omega))) only [gl, c0, c17, c1, c2, c3, wD, c4, c5, c6, c7, c9, c22, c10, c11, c12, c13, c14, c15, c24, c23, ↓wp_ok, ↓wp_ex, ↓wp_bind, ↓w_var, ↓w_cst, ↓w_gl, ↓w_bin, ↓w_neg, ↓w_cmp, ↓w_chain, ↓w_isN, ↓w_notN, ↓w_and, ↓w_or, ↓w_and1, ↓w_and2, ↓w_or1, ↓w_or2, ↓w_not, ↓w_ite, ↓w_lst, ↓w_tup, ↓w_idx, ↓w_slc, ↓w_rev, ↓w_call, ↓w_bi, ↓w_mt1, ↓w_isi, ↓w_comp, ↓w_dcomp, ↓w_dic0, ↓w_dn, ↓w_dc, ↓t_val, ↓t_cmp, ↓t_chain, ↓t_isN, ↓t_notN, ↓t_not, ↓t_and, ↓t_or, ↓t_and1, ↓t_and2, ↓t_or1, ↓t_or2, ↓ts_n, ↓ts_1, ↓i_val, ↓i_rng1, ↓i_rng2, ↓i_enum, ↓i_zip, ↓i_revd, ↓s_nil, ↓s_cons, ↓s_set, ↓s_own, ↓s_par, ↓s_unp, ↓s_aug, ↓s_apd, ↓s_put, ↓s_exp, ↓s_ret, ↓s_retV, ↓s_retN, ↓s_ite, ↓s_for, ↓s_whl, ↓s_brk, ↓s_cnt, ↓s_pas, ↓s_frz, ↓s_nev, ↓s_mtc, ↓m_nil, ↓m_one, ↓m_two, ↓m_any, ↓ow_nx, ↓ow_bk, ↓ow_ct, ↓ow_rt, iw_non, iw_bl, iw_int, iw_str, iw_lst, iw_tup, iw_dic, iw_obj, iw_exc, iw_rls, getV_0, getV_s, getS_0, getS_s, boolW_bl, bindW_nm, bindW_tp, setAll_c, setAll_n, wp_ok, wp_ex, b_addI, b_subI, b_addS, b_addL, b_mulIl, b_mulIr, b_modI, b_divI, b_mulS, w_negI, a_I, a_S, x_lstI, x_rlsI, b_powT, x_lstI', x_str, x_str', x_strM, x_lstM, x_i2, x_i3, x_i4, x_i5, x_i6, x_i11, x_t0, x_t1, x_t2, x_t3, x_l0, cut_to, cut_from, cut_mid, cut_toN, cut_fromN, c_lt, c_le, c_gt, c_ge, c_eq, c_ne, e_same, e_I, e_S, e_B, c_iz, c_niz, c_inS, c_ninS, c_inP, c_ninP, c_inL, c_ninL, c_inT, c_ninT, k_non, k_bl, k_int, k_lst, k_tup, k_str, ty_w, isBor_n, isBor_c, v_lst, v_tup, v_slcL, v_slcS, v_revL, v_revS, bi_1, bi_2, l_lst, l_rls, l_tup, l_str, i_int, i_bl, li_lst, li_tup, li_str, so_int, so_str, al_bl, an_bl, su_int, al_map, an_map, su_map, ab_int, mi_2, ma_2, gc_2, r_joinS, r_indexS, r_indexL, mt_join, it_lst, it_own, it_tup, it_str, rn_ok, en_str, en_lst, zi_lst, re_lst, mb_fu, mb_fr, mb_sh, mb_bs, mb_bf, h_fu, h_fr, h_sh, h_fl, o_fu, o_sh, g_fu, g_fr, g_sh, g_fl, r_some, ol_sh, ol_fu, ap_sh, ap_fu, pu_sh, un_ok, pa_ok, bm_int, bm_str, pm_fr, pm_sh, pm_bs, pm_fu, pm_bf, cm_fr, cm_fu, cm_sh, cm_bs, callM_fl, callM_nb, rdV_fr, rdV_sh, rdV_fu, norm_fl, norm_lst, norm_nf, fl_non, fl_bl, fl_int, fl_str, fl_tup, fl_lst, fl_rls, fl_dic, flL_n, flL_c, flL_int, flL_str, wipe_n, wipe_c, List.set_cons_zero, List.set_cons_succ, List.set_nil, List.map_cons, List.map_nil, List.length_map, List.length_cons, List.length_nil, List.append_nil, List.nil_append, List.take_succ_cons, List.take_zero, List.drop_succ_cons, List.drop_zero, Nat.zero_add, Nat.reduceAdd, Nat.reduceSub, isNon, optI_n, optI_var, optI_lit, optI_bin, optI_neg, optI_idx, optI_bi, optI_call, optI_gl, optI_mt, bq_t, bq_f, bq_not, bq_yes, bq_no, bq_and, bq_or, Bool.not_true, Bool.not_false, Bool.false_and, Bool.true_and, Bool.and_false, Bool.and_true, Bool.or_false, Bool.false_or, Bool.or_true, Bool.true_or, if_true, if_false, Bool.false_eq_true, true_and, and_true, List.any_cons, List.any_nil, List.isEmpty_cons, List.isEmpty_nil, tB_int_non, tB_int_bl, tB_int_int, tB_int_str, tB_int_lst, tB_int_tup, tB_int_dic, tB_bool_non, tB_bool_bl, tB_bool_int, tB_bool_str, tB_bool_lst, tB_bool_tup, tB_bool_dic, tB_str_non, tB_str_bl, tB_str_int, tB_str_str, tB_str_lst, tB_str_tup, tB_str_dic, tB_list_non, tB_list_bl, tB_list_int, tB_list_str, tB_list_lst, tB_list_tup, tB_list_dic, tB_tuple_non, tB_tuple_bl, tB_tuple_int, tB_tuple_str, tB_tuple_lst, tB_tuple_tup, tB_tuple_dic, tB_dict_non, tB_dict_bl, tB_dict_int, tB_dict_str, tB_dict_lst, tB_dict_tup, tB_dict_dic])
      exact hq L hp

theorem fl_in (ns : Nat) (m : Int) (ws : List Int) (kd : List Nat) (p d : Int) : inD (.tup [.int p, .int d]) ((flF ns m ws kd ws.length).map pr) = flt ns m ws kd p d := by
  have e : ∀ q : Int × Int, D.eqv (pr q) (.tup [.int p, .int d]) = (decide (q.1 = p) && decide (q.2 = d)) := fun q => by
    simp [pr, D.eqv, D.eqvL]; rfl
  rw [inD, List.any_map, Bool.eq_iff_iff]
  simp only [Function.comp_def, e, List.any_eq_true, Bool.and_eq_true, decide_eq_true_eq, flt, flF, rowF, List.mem_flatMap, List.mem_map, List.mem_filter, List.mem_range]
  constructor
  · rintro ⟨q, ⟨k, hk, j, ⟨hj, hf⟩, rfl⟩, rfl, rfl⟩
    refine ⟨⟨⟨?_, ?_⟩, ?_, ?_⟩, hf⟩ <;> simp only <;> omega
  · rintro ⟨⟨⟨h1, h2⟩, h3, h4⟩, hf⟩
    refine ⟨(p, d), ⟨p.toNat, by omega, (d - 1).toNat, ⟨by omega, ?_⟩, ?_⟩, rfl, rfl⟩
    · rw [show ((p.toNat : Nat) : Int) = p by omega, show (1 + (((d - 1).toNat : Nat) : Int)) = d by omega]; exact hf
    · rw [show ((p.toNat : Nat) : Int) = p by omega, show (1 + (((d - 1).toNat : Nat) : Int)) = d by omega]
theorem fl_pl (k : Nat) (l : List (Int × Int)) : D.plainL (k + 1) (l.map pr) = true := plL_all fun d hd => by
  rw [List.mem_map] at hd
  obtain ⟨x, _, rfl⟩ := hd
  simp [pr, pl_tup, plL_c, plL_n, pl_int]
theorem fl_p60 (l : List (Int × Int)) : D.plain 60 (.lst (l.map pr)) = true := by rw [pl_lst]; exact fl_pl 58 l
def scr (ns : List Int) : Slot := some (.fr, .rls (ns.map .int))
theorem c26 (n : Nat) (ns : List Int) : (callD Ps gl 64 (n + 8) 26 [.rls (ns.map .int)]).wp (fun v => v.2 = .bl true) (fun _ _ => False) tg := by
  (refine w_def rfl rfl rfl ?_; simp only [b26]; (simp only [startE, List.map_cons, List.map_nil, List.length_cons, List.length_nil, Nat.reduceAdd, Nat.reduceSub, List.replicate, List.cons_append, List.nil_append]); (simp (config := {decide := false}) (disch := first | assumption | omega | (simp only [fl_p60, fl_pl, mb_fu, mb_fr, mb_sh, mb_bs, mb_bf, fl_non, fl_bl, fl_int, fl_str, fl_tup, fl_lst, fl_rls, fl_dic, flL_n, flL_c, flL_int, flL_str, isBor_n, isBor_c, pl_non, pl_bl, pl_int, pl_lst, plL_a, pl_tup, plL_n, plL_c, plL_int, at_non, at_bl, at_int, at_str, co_non, co_bl, co_int, co_str, co_lst, co_tup, List.all_cons, List.all_nil, List.length_cons, List.length_nil, List.length_map, beq_self_eq_true, mkb_shfu, mkb_frfu, Bool.false_and, Bool.true_and, Bool.and_true, Bool.and_false, Bool.and_self, Bool.not_true, Bool.not_false, Bool.or_false, Bool.or_true, Bool.true_or, Bool.false_or, Bool.or_self, ne_eq, reduceCtorEq, not_false_eq_true, not_true_eq_false, List.map_cons, List.map_nil]; done) | (have hSZ : SZ = 16777216 := SZ_w; first | omega | (simp only [List.length_map, List.length_append, List.length_cons, List.length_nil, List.length_reverse, List.length_range, List.length_take, List.length_drop, List.length_replicate] <;> omega))) only [gl, c0, c17, c1, c2, c3, wD, c4, c5, c6, c7, c9, c22, c10, c11, c12, c13, c14, c15, c24, c23, c23, ↓wp_ok, ↓wp_ex, ↓wp_bind, ↓w_var, ↓w_cst, ↓w_gl, ↓w_bin, ↓w_neg, ↓w_cmp, ↓w_chain, ↓w_isN, ↓w_notN, ↓w_and, ↓w_or, ↓w_and1, ↓w_and2, ↓w_or1, ↓w_or2, ↓w_not, ↓w_ite, ↓w_lst, ↓w_tup, ↓w_idx, ↓w_slc, ↓w_rev, ↓w_call, ↓w_bi, ↓w_mt1, ↓w_isi, ↓w_comp, ↓w_dcomp, ↓w_dic0, ↓w_dn, ↓w_dc, ↓t_val, ↓t_cmp, ↓t_chain, ↓t_isN, ↓t_notN, ↓t_not, ↓t_and, ↓t_or, ↓t_and1, ↓t_and2, ↓t_or1, ↓t_or2, ↓ts_n, ↓ts_1, ↓i_val, ↓i_rng1, ↓i_rng2, ↓i_enum, ↓i_zip, ↓i_revd, ↓s_nil, ↓s_cons, ↓s_set, ↓s_own, ↓s_par, ↓s_unp, ↓s_aug, ↓s_apd, ↓s_put, ↓s_exp, ↓s_ret, ↓s_retV, ↓s_retN, ↓s_ite, ↓s_for, ↓s_whl, ↓s_brk, ↓s_cnt, ↓s_pas, ↓s_frz, ↓s_nev, ↓s_mtc, ↓m_nil, ↓m_one, ↓m_two, ↓m_any, ↓ow_nx, ↓ow_bk, ↓ow_ct, ↓ow_rt, iw_non, iw_bl, iw_int, iw_str, iw_lst, iw_tup, iw_dic, iw_obj, iw_exc, iw_rls, getV_0, getV_s, getS_0, getS_s, boolW_bl, bindW_nm, bindW_tp, setAll_c, setAll_n, wp_ok, wp_ex, b_addI, b_subI, b_addS, b_addL, b_mulIl, b_mulIr, b_modI, b_divI, b_mulS, w_negI, a_I, a_S, x_lstI, x_rlsI, b_powT, x_lstI', x_str, x_str', x_strM, x_lstM, x_i2, x_i3, x_i4, x_i5, x_i6, x_i11, x_t0, x_t1, x_t2, x_t3, x_l0, cut_to, cut_from, cut_mid, cut_toN, cut_fromN, c_lt, c_le, c_gt, c_ge, c_eq, c_ne, e_same, e_I, e_S, e_B, c_iz, c_niz, c_inS, c_ninS, c_inP, c_ninP, c_inL, c_ninL, c_inT, c_ninT, k_non, k_bl, k_int, k_lst, k_tup, k_str, ty_w, isBor_n, isBor_c, v_lst, v_tup, v_slcL, v_slcS, v_revL, v_revS, bi_1, bi_2, l_lst, l_rls, l_tup, l_str, i_int, i_bl, li_lst, li_tup, li_str, so_int, so_str, al_bl, an_bl, su_int, al_map, an_map, su_map, ab_int, mi_2, ma_2, gc_2, r_joinS, r_indexS, r_indexL, mt_join, it_lst, it_own, it_tup, it_str, rn_ok, en_str, en_lst, zi_lst, re_lst, mb_fu, mb_fr, mb_sh, mb_bs, mb_bf, h_fu, h_fr, h_sh, h_fl, o_fu, o_sh, g_fu, g_fr, g_sh, g_fl, r_some, ol_sh, ol_fu, ap_sh, ap_fu, pu_sh, un_ok, pa_ok, bm_int, bm_str, pm_fr, pm_sh, pm_bs, pm_fu, pm_bf, cm_fr, cm_fu, cm_sh, cm_bs, callM_fl, callM_nb, rdV_fr, rdV_sh, rdV_fu, norm_fl, norm_lst, norm_nf, fl_non, fl_bl, fl_int, fl_str, fl_tup, fl_lst, fl_rls, fl_dic, flL_n, flL_c, flL_int, flL_str, wipe_n, wipe_c, List.set_cons_zero, List.set_cons_succ, List.set_nil, List.map_cons, List.map_nil, List.length_map, List.length_cons, List.length_nil, List.append_nil, List.nil_append, List.take_succ_cons, List.take_zero, List.drop_succ_cons, List.drop_zero, Nat.zero_add, Nat.reduceAdd, Nat.reduceSub, isNon, optI_n, optI_var, optI_lit, optI_bin, optI_neg, optI_idx, optI_bi, optI_call, optI_gl, optI_mt, bq_t, bq_f, bq_not, bq_yes, bq_no, bq_and, bq_or, Bool.not_true, Bool.not_false, Bool.false_and, Bool.true_and, Bool.and_false, Bool.and_true, Bool.or_false, Bool.false_or, Bool.or_true, Bool.true_or, if_true, if_false, Bool.false_eq_true, true_and, and_true, List.any_cons, List.any_nil, List.isEmpty_cons, List.isEmpty_nil, tB_int_non, tB_int_bl, tB_int_int, tB_int_str, tB_int_lst, tB_int_tup, tB_int_dic, tB_bool_non, tB_bool_bl, tB_bool_int, tB_bool_str, tB_bool_lst, tB_bool_tup, tB_bool_dic, tB_str_non, tB_str_bl, tB_str_int, tB_str_str, tB_str_lst, tB_str_tup, tB_str_dic, tB_list_non, tB_list_bl, tB_list_int, tB_list_str, tB_list_lst, tB_list_tup, tB_list_dic, tB_tuple_non, tB_tuple_bl, tB_tuple_int, tB_tuple_str, tB_tuple_lst, tB_tuple_tup, tB_tuple_dic, tB_dict_non, tB_dict_bl, tB_dict_int, tB_dict_str, tB_dict_lst, tB_dict_tup, tB_dict_dic]))
  refine for_rng (fun _ E => ∃ q1 q2 q3 q4 q5 q6 q7 q8 q9 q10 q11 q12 q13 q14 q15 q16, E = [scr ns, q1, q2, q3, q4, q5, q6, q7, q8, q9, q10, q11, q12, q13, q14, q15, q16]) ⟨_, _, _, _, _, _, _, _, _, _, _, _, _, _, _, _, rfl⟩ ?_ ?_
  · rintro i E g1 g2 ⟨q1, q2, q3, q4, q5, q6, q7, q8, q9, q10, q11, q12, q13, q14, q15, q16, rfl⟩
    have g3 : i ≤ 1 := by have := g2; simp at this; omega
    unfold scr
    refine cut_at 5 (fun E => ∃ (S : List Nat) (m : Int) (ws l : List Int) (q1 q5 q6 q7 q10 q11 q12 q13 q14 q15 q16 : Slot), (1 ≤ S.length ∧ S.length ≤ 12) ∧ Wt m ws ∧ E = [some (.fr, .rls (ns.map .int)), q1, some (.fr, .str S), some (.fr, wD m ws), some (.fr, .lst (l.map .int)), q5, q6, q7, some (.fr, .int m), some (.fr, .lst (ws.map .int)), q10, q11, q12, q13, q14, q15, q16]) ?_ ?_
    · (simp (config := {decide := false}) (disch := first | assumption | omega | (simp only [fl_p60, fl_pl, mb_fu, mb_fr, mb_sh, mb_bs, mb_bf, fl_non, fl_bl, fl_int, fl_str, fl_tup, fl_lst, fl_rls, fl_dic, flL_n, flL_c, flL_int, flL_str, isBor_n, isBor_c, pl_non, pl_bl, pl_int, pl_lst, plL_a, pl_tup, plL_n, plL_c, plL_int, at_non, at_bl, at_int, at_str, co_non, co_bl, co_int, co_str, co_lst, co_tup, List.all_cons, List.all_nil, List.length_cons, List.length_nil, List.length_map, beq_self_eq_true, mkb_shfu, mkb_frfu, Bool.false_and, Bool.true_and, Bool.and_true, Bool.and_false, Bool.and_self, Bool.not_true, Bool.not_false, Bool.or_false, Bool.or_true, Bool.true_or, Bool.false_or, Bool.or_self, ne_eq, reduceCtorEq, not_false_eq_true, not_true_eq_false, List.map_cons, List.map_nil]; done) | (have hSZ : SZ = 16777216 := SZ_w; first | omega | (simp only [List.length_map, List.length_append, List.length_cons, List.length_nil, List.length_reverse, List.length_range, List.length_take, List.length_drop, List.length_replicate] <;> omega))) only [gl, c0, c17, c1, c2, c3, wD, c4, c5, c6, c7, c9, c22, c10, c11, c12, c13, c14, c15, c24, c23, c23, ↓wp_ok, ↓wp_ex, ↓wp_bind, ↓w_var, ↓w_cst, ↓w_gl, ↓w_bin, ↓w_neg, ↓w_cmp, ↓w_chain, ↓w_isN, ↓w_notN, ↓w_and, ↓w_or, ↓w_and1, ↓w_and2, ↓w_or1, ↓w_or2, ↓w_not, ↓w_ite, ↓w_lst, ↓w_tup, ↓w_idx, ↓w_slc, ↓w_rev, ↓w_call, ↓w_bi, ↓w_mt1, ↓w_isi, ↓w_comp, ↓w_dcomp, ↓w_dic0, ↓w_dn, ↓w_dc, ↓t_val, ↓t_cmp, ↓t_chain, ↓t_isN, ↓t_notN, ↓t_not, ↓t_and, ↓t_or, ↓t_and1, ↓t_and2, ↓t_or1, ↓t_or2, ↓ts_n, ↓ts_1, ↓i_val, ↓i_rng1, ↓i_rng2, ↓i_enum, ↓i_zip, ↓i_revd, ↓s_nil, ↓s_cons, ↓s_set, ↓s_own, ↓s_par, ↓s_unp, ↓s_aug, ↓s_apd, ↓s_put, ↓s_exp, ↓s_ret, ↓s_retV, ↓s_retN, ↓s_ite, ↓s_for, ↓s_whl, ↓s_brk, ↓s_cnt, ↓s_pas, ↓s_frz, ↓s_nev, ↓s_mtc, ↓m_nil, ↓m_one, ↓m_two, ↓m_any, ↓ow_nx, ↓ow_bk, ↓ow_ct, ↓ow_rt, iw_non, iw_bl, iw_int, iw_str, iw_lst, iw_tup, iw_dic, iw_obj, iw_exc, iw_rls, getV_0, getV_s, getS_0, getS_s, boolW_bl, bindW_nm, bindW_tp, setAll_c, setAll_n, wp_ok, wp_ex, b_addI, b_subI, b_addS, b_addL, b_mulIl, b_mulIr, b_modI, b_divI, b_mulS, w_negI, a_I, a_S, x_lstI, x_rlsI, b_powT, x_lstI', x_str, x_str', x_strM, x_lstM, x_i2, x_i3, x_i4, x_i5, x_i6, x_i11, x_t0, x_t1, x_t2, x_t3, x_l0, cut_to, cut_from, cut_mid, cut_toN, cut_fromN, c_lt, c_le, c_gt, c_ge, c_eq, c_ne, e_same, e_I, e_S, e_B, c_iz, c_niz, c_inS, c_ninS, c_inP, c_ninP, c_inL, c_ninL, c_inT, c_ninT, k_non, k_bl, k_int, k_lst, k_tup, k_str, ty_w, isBor_n, isBor_c, v_lst, v_tup, v_slcL, v_slcS, v_revL, v_revS, bi_1, bi_2, l_lst, l_rls, l_tup, l_str, i_int, i_bl, li_lst, li_tup, li_str, so_int, so_str, al_bl, an_bl, su_int, al_map, an_map, su_map, ab_int, mi_2, ma_2, gc_2, r_joinS, r_indexS, r_indexL, mt_join, it_lst, it_own, it_tup, it_str, rn_ok, en_str, en_lst, zi_lst, re_lst, mb_fu, mb_fr, mb_sh, mb_bs, mb_bf, h_fu, h_fr, h_sh, h_fl, o_fu, o_sh, g_fu, g_fr, g_sh, g_fl, r_some, ol_sh, ol_fu, ap_sh, ap_fu, pu_sh, un_ok, pa_ok, bm_int, bm_str, pm_fr, pm_sh, pm_bs, pm_fu, pm_bf, cm_fr, cm_fu, cm_sh, cm_bs, callM_fl, callM_nb, rdV_fr, rdV_sh, rdV_fu, norm_fl, norm_lst, norm_nf, fl_non, fl_bl, fl_int, fl_str, fl_tup, fl_lst, fl_rls, fl_dic, flL_n, flL_c, flL_int, flL_str, wipe_n, wipe_c, List.set_cons_zero, List.set_cons_succ, List.set_nil, List.map_cons, List.map_nil, List.length_map, List.length_cons, List.length_nil, List.append_nil, List.nil_append, List.take_succ_cons, List.take_zero, List.drop_succ_cons, List.drop_zero, Nat.zero_add, Nat.reduceAdd, Nat.reduceSub, isNon, optI_n, optI_var, optI_lit, optI_bin, optI_neg, optI_idx, optI_bi, optI_call, optI_gl, optI_mt, bq_t, bq_f, bq_not, bq_yes, bq_no, bq_and, bq_or, Bool.not_true, Bool.not_false, Bool.false_and, Bool.true_and, Bool.and_false, Bool.and_true, Bool.or_false, Bool.false_or, Bool.or_true, Bool.true_or, if_true, if_false, Bool.false_eq_true, true_and, and_true, List.any_cons, List.any_nil, List.isEmpty_cons, List.isEmpty_nil, tB_int_non, tB_int_bl, tB_int_int, tB_int_str, tB_int_lst, tB_int_tup, tB_int_dic, tB_bool_non, tB_bool_bl, tB_bool_int, tB_bool_str, tB_bool_lst, tB_bool_tup, tB_bool_dic, tB_str_non, tB_str_bl, tB_str_int, tB_str_str, tB_str_lst, tB_str_tup, tB_str_dic, tB_list_non, tB_list_bl, tB_list_int, tB_list_str, tB_list_lst, tB_list_tup, tB_list_dic, tB_tuple_non, tB_tuple_bl, tB_tuple_int, tB_tuple_str, tB_tuple_lst, tB_tuple_tup, tB_tuple_dic, tB_dict_non, tB_dict_bl, tB_dict_int, tB_dict_str, tB_dict_lst, tB_dict_tup, tB_dict_dic])
      refine c18 _ ns (by omega) (by omega) fun S s1 s2 _ _ => ?_
      (simp (config := {decide := false}) (disch := first | assumption | omega | (simp only [fl_p60, fl_pl, mb_fu, mb_fr, mb_sh, mb_bs, mb_bf, fl_non, fl_bl, fl_int, fl_str, fl_tup, fl_lst, fl_rls, fl_dic, flL_n, flL_c, flL_int, flL_str, isBor_n, isBor_c, pl_non, pl_bl, pl_int, pl_lst, plL_a, pl_tup, plL_n, plL_c, plL_int, at_non, at_bl, at_int, at_str, co_non, co_bl, co_int, co_str, co_lst, co_tup, List.all_cons, List.all_nil, List.length_cons, List.length_nil, List.length_map, beq_self_eq_true, mkb_shfu, mkb_frfu, Bool.false_and, Bool.true_and, Bool.and_true, Bool.and_false, Bool.and_self, Bool.not_true, Bool.not_false, Bool.or_false, Bool.or_true, Bool.true_or, Bool.false_or, Bool.or_self, ne_eq, reduceCtorEq, not_false_eq_true, not_true_eq_false, List.map_cons, List.map_nil]; done) | (have hSZ : SZ = 16777216 := SZ_w; first | omega | (simp only [List.length_map, List.length_append, List.length_cons, List.length_nil, List.length_reverse, List.length_range, List.length_take, List.length_drop, List.length_replicate] <;> omega))) only [gl, c0, c17, c1, c2, c3, wD, c4, c5, c6, c7, c9, c22, c10, c11, c12, c13, c14, c15, c24, c23, c23, ↓wp_ok, ↓wp_ex, ↓wp_bind, ↓w_var, ↓w_cst, ↓w_gl, ↓w_bin, ↓w_neg, ↓w_cmp, ↓w_chain, ↓w_isN, ↓w_notN, ↓w_and, ↓w_or, ↓w_and1, ↓w_and2, ↓w_or1, ↓w_or2, ↓w_not, ↓w_ite, ↓w_lst, ↓w_tup, ↓w_idx, ↓w_slc, ↓w_rev, ↓w_call, ↓w_bi, ↓w_mt1, ↓w_isi, ↓w_comp, ↓w_dcomp, ↓w_dic0, ↓w_dn, ↓w_dc, ↓t_val, ↓t_cmp, ↓t_chain, ↓t_isN, ↓t_notN, ↓t_not, ↓t_and, ↓t_or, ↓t_and1, ↓t_and2, ↓t_or1, ↓t_or2, ↓ts_n, ↓ts_1, ↓i_val, ↓i_rng1, ↓i_rng2, ↓i_enum, ↓i_zip, ↓i_revd, ↓s_nil, ↓s_cons, ↓s_set, ↓s_own, ↓s_par, ↓s_unp, ↓s_aug, ↓s_apd, ↓s_put, ↓s_exp, ↓s_ret, ↓s_retV, ↓s_retN, ↓s_ite, ↓s_for, ↓s_whl, ↓s_brk, ↓s_cnt, ↓s_pas, ↓s_frz, ↓s_nev, ↓s_mtc, ↓m_nil, ↓m_one, ↓m_two, ↓m_any, ↓ow_nx, ↓ow_bk, ↓ow_ct, ↓ow_rt, iw_non, iw_bl, iw_int, iw_str, iw_lst, iw_tup, iw_dic, iw_obj, iw_exc, iw_rls, getV_0, getV_s, getS_0, getS_s, boolW_bl, bindW_nm, bindW_tp, setAll_c, setAll_n, wp_ok, wp_ex, b_addI, b_subI, b_addS, b_addL, b_mulIl, b_mulIr, b_modI, b_divI, b_mulS, w_negI, a_I, a_S, x_lstI, x_rlsI, b_powT, x_lstI', x_str, x_str', x_strM, x_lstM, x_i2, x_i3, x_i4, x_i5, x_i6, x_i11, x_t0, x_t1, x_t2, x_t3, x_l0, cut_to, cut_from, cut_mid, cut_toN, cut_fromN, c_lt, c_le, c_gt, c_ge, c_eq, c_ne, e_same, e_I, e_S, e_B, c_iz, c_niz, c_inS, c_ninS, c_inP, c_ninP, c_inL, c_ninL, c_inT, c_ninT, k_non, k_bl, k_int, k_lst, k_tup, k_str, ty_w, isBor_n, isBor_c, v_lst, v_tup, v_slcL, v_slcS, v_revL, v_revS, bi_1, bi_2, l_lst, l_rls, l_tup, l_str, i_int, i_bl, li_lst, li_tup, li_str, so_int, so_str, al_bl, an_bl, su_int, al_map, an_map, su_map, ab_int, mi_2, ma_2, gc_2, r_joinS, r_indexS, r_indexL, mt_join, it_lst, it_own, it_tup, it_str, rn_ok, en_str, en_lst, zi_lst, re_lst, mb_fu, mb_fr, mb_sh, mb_bs, mb_bf, h_fu, h_fr, h_sh, h_fl, o_fu, o_sh, g_fu, g_fr, g_sh, g_fl, r_some, ol_sh, ol_fu, ap_sh, ap_fu, pu_sh, un_ok, pa_ok, bm_int, bm_str, pm_fr, pm_sh, pm_bs, pm_fu, pm_bf, cm_fr, cm_fu, cm_sh, cm_bs, callM_fl, callM_nb, rdV_fr, rdV_sh, rdV_fu, norm_fl, norm_lst, norm_nf, fl_non, fl_bl, fl_int, fl_str, fl_tup, fl_lst, fl_rls, fl_dic, flL_n, flL_c, flL_int, flL_str, wipe_n, wipe_c, List.set_cons_zero, List.set_cons_succ, List.set_nil, List.map_cons, List.map_nil, List.length_map, List.length_cons, List.length_nil, List.append_nil, List.nil_append, List.take_succ_cons, List.take_zero, List.drop_succ_cons, List.drop_zero, Nat.zero_add, Nat.reduceAdd, Nat.reduceSub, isNon, optI_n, optI_var, optI_lit, optI_bin, optI_neg, optI_idx, optI_bi, optI_call, optI_gl, optI_mt, bq_t, bq_f, bq_not, bq_yes, bq_no, bq_and, bq_or, Bool.not_true, Bool.not_false, Bool.false_and, Bool.true_and, Bool.and_false, Bool.and_true, Bool.or_false, Bool.false_or, Bool.or_true, Bool.true_or, if_true, if_false, Bool.false_eq_true, true_and, and_true, List.any_cons, List.any_nil, List.isEmpty_cons, List.isEmpty_nil, tB_int_non, tB_int_bl, tB_int_int, tB_int_str, tB_int_lst, tB_int_tup, tB_int_dic, tB_bool_non, tB_bool_bl, tB_bool_int, tB_bool_str, tB_bool_lst, tB_bool_tup, tB_bool_dic, tB_str_non, tB_str_bl, tB_str_int, tB_str_str, tB_str_lst, tB_str_tup, tB_str_dic, tB_list_non, tB_list_bl, tB_list_int, tB_list_str, tB_list_lst, tB_list_tup, tB_list_dic, tB_tuple_non, tB_tuple_bl, tB_tuple_int, tB_tuple_str, tB_tuple_lst, tB_tuple_tup, tB_tuple_dic, tB_dict_non, tB_dict_bl, tB_dict_int, tB_dict_str, tB_dict_lst, tB_dict_tup, tB_dict_dic])
      refine c20 _ ns (by omega) fun m ws hw => ?_
      (simp (config := {decide := false}) (disch := first | assumption | omega | (simp only [fl_p60, fl_pl, mb_fu, mb_fr, mb_sh, mb_bs, mb_bf, fl_non, fl_bl, fl_int, fl_str, fl_tup, fl_lst, fl_rls, fl_dic, flL_n, flL_c, flL_int, flL_str, isBor_n, isBor_c, pl_non, pl_bl, pl_int, pl_lst, plL_a, pl_tup, plL_n, plL_c, plL_int, at_non, at_bl, at_int, at_str, co_non, co_bl, co_int, co_str, co_lst, co_tup, List.all_cons, List.all_nil, List.length_cons, List.length_nil, List.length_map, beq_self_eq_true, mkb_shfu, mkb_frfu, Bool.false_and, Bool.true_and, Bool.and_true, Bool.and_false, Bool.and_self, Bool.not_true, Bool.not_false, Bool.or_false, Bool.or_true, Bool.true_or, Bool.false_or, Bool.or_self, ne_eq, reduceCtorEq, not_false_eq_true, not_true_eq_false, List.map_cons, List.map_nil]; done) | (have hSZ : SZ = 16777216 := SZ_w; first | omega | (simp only [List.length_map, List.length_append, List.length_cons, List.length_nil, List.length_reverse, List.length_range, List.length_take, List.length_drop, List.length_replicate] <;> omega))) only [gl, c0, c17, c1, c2, c3, wD, c4, c5, c6, c7, c9, c22, c10, c11, c12, c13, c14, c15, c24, c23, c23, ↓wp_ok, ↓wp_ex, ↓wp_bind, ↓w_var, ↓w_cst, ↓w_gl, ↓w_bin, ↓w_neg, ↓w_cmp, ↓w_chain, ↓w_isN, ↓w_notN, ↓w_and, ↓w_or, ↓w_and1, ↓w_and2, ↓w_or1, ↓w_or2, ↓w_not, ↓w_ite, ↓w_lst, ↓w_tup, ↓w_idx, ↓w_slc, ↓w_rev, ↓w_call, ↓w_bi, ↓w_mt1, ↓w_isi, ↓w_comp, ↓w_dcomp, ↓w_dic0, ↓w_dn, ↓w_dc, ↓t_val, ↓t_cmp, ↓t_chain, ↓t_isN, ↓t_notN, ↓t_not, ↓t_and, ↓t_or, ↓t_and1, ↓t_and2, ↓t_or1, ↓t_or2, ↓ts_n, ↓ts_1, ↓i_val, ↓i_rng1, ↓i_rng2, ↓i_enum, ↓i_zip, ↓i_revd, ↓s_nil, ↓s_cons, ↓s_set, ↓s_own, ↓s_par, ↓s_unp, ↓s_aug, ↓s_apd, ↓s_put, ↓s_exp, ↓s_ret, ↓s_retV, ↓s_retN, ↓s_ite, ↓s_for, ↓s_whl, ↓s_brk, ↓s_cnt, ↓s_pas, ↓s_frz, ↓s_nev, ↓s_mtc, ↓m_nil, ↓m_one, ↓m_two, ↓m_any, ↓ow_nx, ↓ow_bk, ↓ow_ct, ↓ow_rt, iw_non, iw_bl, iw_int, iw_str, iw_lst, iw_tup, iw_dic, iw_obj, iw_exc, iw_rls, getV_0, getV_s, getS_0, getS_s, boolW_bl, bindW_nm, bindW_tp, setAll_c, setAll_n, wp_ok, wp_ex, b_addI, b_subI, b_addS, b_addL, b_mulIl, b_mulIr, b_modI, b_divI, b_mulS, w_negI, a_I, a_S, x_lstI, x_rlsI, b_powT, x_lstI', x_str, x_str', x_strM, x_lstM, x_i2, x_i3, x_i4, x_i5, x_i6, x_i11, x_t0, x_t1, x_t2, x_t3, x_l0, cut_to, cut_from, cut_mid, cut_toN, cut_fromN, c_lt, c_le, c_gt, c_ge, c_eq, c_ne, e_same, e_I, e_S, e_B, c_iz, c_niz, c_inS, c_ninS, c_inP, c_ninP, c_inL, c_ninL, c_inT, c_ninT, k_non, k_bl, k_int, k_lst, k_tup, k_str, ty_w, isBor_n, isBor_c, v_lst, v_tup, v_slcL, v_slcS, v_revL, v_revS, bi_1, bi_2, l_lst, l_rls, l_tup, l_str, i_int, i_bl, li_lst, li_tup, li_str, so_int, so_str, al_bl, an_bl, su_int, al_map, an_map, su_map, ab_int, mi_2, ma_2, gc_2, r_joinS, r_indexS, r_indexL, mt_join, it_lst, it_own, it_tup, it_str, rn_ok, en_str, en_lst, zi_lst, re_lst, mb_fu, mb_fr, mb_sh, mb_bs, mb_bf, h_fu, h_fr, h_sh, h_fl, o_fu, o_sh, g_fu, g_fr, g_sh, g_fl, r_some, ol_sh, ol_fu, ap_sh, ap_fu, pu_sh, un_ok, pa_ok, bm_int, bm_str, pm_fr, pm_sh, pm_bs, pm_fu, pm_bf, cm_fr, cm_fu, cm_sh, cm_bs, callM_fl, callM_nb, rdV_fr, rdV_sh, rdV_fu, norm_fl, norm_lst, norm_nf, fl_non, fl_bl, fl_int, fl_str, fl_tup, fl_lst, fl_rls, fl_dic, flL_n, flL_c, flL_int, flL_str, wipe_n, wipe_c, List.set_cons_zero, List.set_cons_succ, List.set_nil, List.map_cons, List.map_nil, List.length_map, List.length_cons, List.length_nil, List.append_nil, List.nil_append, List.take_succ_cons, List.take_zero, List.drop_succ_cons, List.drop_zero, Nat.zero_add, Nat.reduceAdd, Nat.reduceSub, isNon, optI_n, optI_var, optI_lit, optI_bin, optI_neg, optI_idx, optI_bi, optI_call, optI_gl, optI_mt, bq_t, bq_f, bq_not, bq_yes, bq_no, bq_and, bq_or, Bool.not_true, Bool.not_false, Bool.false_and, Bool.true_and, Bool.and_false, Bool.and_true, Bool.or_false, Bool.false_or, Bool.or_true, Bool.true_or, if_true, if_false, Bool.false_eq_true, true_and, and_true, List.any_cons, List.any_nil, List.isEmpty_cons, List.isEmpty_nil, tB_int_non, tB_int_bl, tB_int_int, tB_int_str, tB_int_lst, tB_int_tup, tB_int_dic, tB_bool_non, tB_bool_bl, tB_bool_int, tB_bool_str, tB_bool_lst, tB_bool_tup, tB_bool_dic, tB_str_non, tB_str_bl, tB_str_int, tB_str_str, tB_str_lst, tB_str_tup, tB_str_dic, tB_list_non, tB_list_bl, tB_list_int, tB_list_str, tB_list_lst, tB_list_tup, tB_list_dic, tB_tuple_non, tB_tuple_bl, tB_tuple_int, tB_tuple_str, tB_tuple_lst, tB_tuple_tup, tB_tuple_dic, tB_dict_non, tB_dict_bl, tB_dict_int, tB_dict_str, tB_dict_lst, tB_dict_tup, tB_dict_dic])
      refine c16 _ ns (by omega) (by omega) fun l hl hb => ?_
      have hm := hw.m2
      have hn := hw.n12
      have := ith_b (i := 0) hb (by omega)
      (simp (config := {decide := false}) (disch := first | assumption | omega | (simp only [fl_p60, fl_pl, mb_fu, mb_fr, mb_sh, mb_bs, mb_bf, fl_non, fl_bl, fl_int, fl_str, fl_tup, fl_lst, fl_rls, fl_dic, flL_n, flL_c, flL_int, flL_str, isBor_n, isBor_c, pl_non, pl_bl, pl_int, pl_lst, plL_a, pl_tup, plL_n, plL_c, plL_int, at_non, at_bl, at_int, at_str, co_non, co_bl, co_int, co_str, co_lst, co_tup, List.all_cons, List.all_nil, List.length_cons, List.length_nil, List.length_map, beq_self_eq_true, mkb_shfu, mkb_frfu, Bool.false_and, Bool.true_and, Bool.and_true, Bool.and_false, Bool.and_self, Bool.not_true, Bool.not_false, Bool.or_false, Bool.or_true, Bool.true_or, Bool.false_or, Bool.or_self, ne_eq, reduceCtorEq, not_false_eq_true, not_true_eq_false, List.map_cons, List.map_nil]; done) | (have hSZ : SZ = 16777216 := SZ_w; first | omega | (simp only [List.length_map, List.length_append, List.length_cons, List.length_nil, List.length_reverse, List.length_range, List.length_take, List.length_drop, List.length_replicate] <;> omega))) only [gl, c0, c17, c1, c2, c3, wD, c4, c5, c6, c7, c9, c22, c10, c11, c12, c13, c14, c15, c24, c23, c23, ↓wp_ok, ↓wp_ex, ↓wp_bind, ↓w_var, ↓w_cst, ↓w_gl, ↓w_bin, ↓w_neg, ↓w_cmp, ↓w_chain, ↓w_isN, ↓w_notN, ↓w_and, ↓w_or, ↓w_and1, ↓w_and2, ↓w_or1, ↓w_or2, ↓w_not, ↓w_ite, ↓w_lst, ↓w_tup, ↓w_idx, ↓w_slc, ↓w_rev, ↓w_call, ↓w_bi, ↓w_mt1, ↓w_isi, ↓w_comp, ↓w_dcomp, ↓w_dic0, ↓w_dn, ↓w_dc, ↓t_val, ↓t_cmp, ↓t_chain, ↓t_isN, ↓t_notN, ↓t_not, ↓t_and, ↓t_or, ↓t_and1, ↓t_and2, ↓t_or1, ↓t_or2, ↓ts_n, ↓ts_1, ↓i_val, ↓i_rng1, ↓i_rng2, ↓i_enum, ↓i_zip, ↓i_revd, ↓s_nil, ↓s_cons, ↓s_set, ↓s_own, ↓s_par, ↓s_unp, ↓s_aug, ↓s_apd, ↓s_put, ↓s_exp, ↓s_ret, ↓s_retV, ↓s_retN, ↓s_ite, ↓s_for, ↓s_whl, ↓s_brk, ↓s_cnt, ↓s_pas, ↓s_frz, ↓s_nev, ↓s_mtc, ↓m_nil, ↓m_one, ↓m_two, ↓m_any, ↓ow_nx, ↓ow_bk, ↓ow_ct, ↓ow_rt, iw_non, iw_bl, iw_int, iw_str, iw_lst, iw_tup, iw_dic, iw_obj, iw_exc, iw_rls, getV_0, getV_s, getS_0, getS_s, boolW_bl, bindW_nm, bindW_tp, setAll_c, setAll_n, wp_ok, wp_ex, b_addI, b_subI, b_addS, b_addL, b_mulIl, b_mulIr, b_modI, b_divI, b_mulS, w_negI, a_I, a_S, x_lstI, x_rlsI, b_powT, x_lstI', x_str, x_str', x_strM, x_lstM, x_i2, x_i3, x_i4, x_i5, x_i6, x_i11, x_t0, x_t1, x_t2, x_t3, x_l0, cut_to, cut_from, cut_mid, cut_toN, cut_fromN, c_lt, c_le, c_gt, c_ge, c_eq, c_ne, e_same, e_I, e_S, e_B, c_iz, c_niz, c_inS, c_ninS, c_inP, c_ninP, c_inL, c_ninL, c_inT, c_ninT, k_non, k_bl, k_int, k_lst, k_tup, k_str, ty_w, isBor_n, isBor_c, v_lst, v_tup, v_slcL, v_slcS, v_revL, v_revS, bi_1, bi_2, l_lst, l_rls, l_tup, l_str, i_int, i_bl, li_lst, li_tup, li_str, so_int, so_str, al_bl, an_bl, su_int, al_map, an_map, su_map, ab_int, mi_2, ma_2, gc_2, r_joinS, r_indexS, r_indexL, mt_join, it_lst, it_own, it_tup, it_str, rn_ok, en_str, en_lst, zi_lst, re_lst, mb_fu, mb_fr, mb_sh, mb_bs, mb_bf, h_fu, h_fr, h_sh, h_fl, o_fu, o_sh, g_fu, g_fr, g_sh, g_fl, r_some, ol_sh, ol_fu, ap_sh, ap_fu, pu_sh, un_ok, pa_ok, bm_int, bm_str, pm_fr, pm_sh, pm_bs, pm_fu, pm_bf, cm_fr, cm_fu, cm_sh, cm_bs, callM_fl, callM_nb, rdV_fr, rdV_sh, rdV_fu, norm_fl, norm_lst, norm_nf, fl_non, fl_bl, fl_int, fl_str, fl_tup, fl_lst, fl_rls, fl_dic, flL_n, flL_c, flL_int, flL_str, wipe_n, wipe_c, List.set_cons_zero, List.set_cons_succ, List.set_nil, List.map_cons, List.map_nil, List.length_map, List.length_cons, List.length_nil, List.append_nil, List.nil_append, List.take_succ_cons, List.take_zero, List.drop_succ_cons, List.drop_zero, Nat.zero_add, Nat.reduceAdd, Nat.reduceSub, isNon, optI_n, optI_var, optI_lit, optI_bin, optI_neg, optI_idx, optI_bi, optI_call, optI_gl, optI_mt, bq_t, bq_f, bq_not, bq_yes, bq_no, bq_and, bq_or, Bool.not_true, Bool.not_false, Bool.false_and, Bool.true_and, Bool.and_false, Bool.and_true, Bool.or_false, Bool.false_or, Bool.or_true, Bool.true_or, if_true, if_false, Bool.false_eq_true, true_and, and_true, List.any_cons, List.any_nil, List.isEmpty_cons, List.isEmpty_nil, tB_int_non, tB_int_bl, tB_int_int, tB_int_str, tB_int_lst, tB_int_tup, tB_int_dic, tB_bool_non, tB_bool_bl, tB_bool_int, tB_bool_str, tB_bool_lst, tB_bool_tup, tB_bool_dic, tB_str_non, tB_str_bl, tB_str_int, tB_str_str, tB_str_lst, tB_str_tup, tB_str_dic, tB_list_non, tB_list_bl, tB_list_int, tB_list_str, tB_list_lst, tB_list_tup, tB_list_dic, tB_tuple_non, tB_tuple_bl, tB_tuple_int, tB_tuple_str, tB_tuple_lst, tB_tuple_tup, tB_tuple_dic, tB_dict_non, tB_dict_bl, tB_dict_int, tB_dict_str, tB_dict_lst, tB_dict_tup, tB_dict_dic])
      (rw [bq_dec]; refine ⟨fun h0 => ?_, fun h0 => ?_⟩)
      · (simp (config := {decide := false}) (disch := first | assumption | omega | (simp only [fl_p60, fl_pl, mb_fu, mb_fr, mb_sh, mb_bs, mb_bf, fl_non, fl_bl, fl_int, fl_str, fl_tup, fl_lst, fl_rls, fl_dic, flL_n, flL_c, flL_int, flL_str, isBor_n, isBor_c, pl_non, pl_bl, pl_int, pl_lst, plL_a, pl_tup, plL_n, plL_c, plL_int, at_non, at_bl, at_int, at_str, co_non, co_bl, co_int, co_str, co_lst, co_tup, List.all_cons, List.all_nil, List.length_cons, List.length_nil, List.length_map, beq_self_eq_true, mkb_shfu, mkb_frfu, Bool.false_and, Bool.true_and, Bool.and_true, Bool.and_false, Bool.and_self, Bool.not_true, Bool.not_false, Bool.or_false, Bool.or_true, Bool.true_or, Bool.false_or, Bool.or_self, ne_eq, reduceCtorEq, not_false_eq_true, not_true_eq_false, List.map_cons, List.map_nil]; done) | (have hSZ : SZ = 16777216 := SZ_w; first | omega | (simp only [List.length_map, List.length_append, List.length_cons, List.length_nil, List.length_reverse, List.length_range, List.length_take, List.length_drop, List.length_replicate] <;> omega))) only [gl, c0, c17, c1, c2, c3, wD, c4, c5, c6, c7, c9, c22, c10, c11, c12, c13, c14, c15, c24, c23, c23, ↓wp_ok, ↓wp_ex, ↓wp_bind, ↓w_var, ↓w_cst, ↓w_gl, ↓w_bin, ↓w_neg, ↓w_cmp, ↓w_chain, ↓w_isN, ↓w_notN, ↓w_and, ↓w_or, ↓w_and1, ↓w_and2, ↓w_or1, ↓w_or2, ↓w_not, ↓w_ite, ↓w_lst, ↓w_tup, ↓w_idx, ↓w_slc, ↓w_rev, ↓w_call, ↓w_bi, ↓w_mt1, ↓w_isi, ↓w_comp, ↓w_dcomp, ↓w_dic0, ↓w_dn, ↓w_dc, ↓t_val, ↓t_cmp, ↓t_chain, ↓t_isN, ↓t_notN, ↓t_not, ↓t_and, ↓t_or, ↓t_and1, ↓t_and2, ↓t_or1, ↓t_or2, ↓ts_n, ↓ts_1, ↓i_val, ↓i_rng1, ↓i_rng2, ↓i_enum, ↓i_zip, ↓i_revd, ↓s_nil, ↓s_cons, ↓s_set, ↓s_own, ↓s_par, ↓s_unp, ↓s_aug, ↓s_apd, ↓s_put, ↓s_exp, ↓s_ret, ↓s_retV, ↓s_retN, ↓s_ite, ↓s_for, ↓s_whl, ↓s_brk, ↓s_cnt, ↓s_pas, ↓s_frz, ↓s_nev, ↓s_mtc, ↓m_nil, ↓m_one, ↓m_two, ↓m_any, ↓ow_nx, ↓ow_bk, ↓ow_ct, ↓ow_rt, iw_non, iw_bl, iw_int, iw_str, iw_lst, iw_tup, iw_dic, iw_obj, iw_exc, iw_rls, getV_0, getV_s, getS_0, getS_s, boolW_bl, bindW_nm, bindW_tp, setAll_c, setAll_n, wp_ok, wp_ex, b_addI, b_subI, b_addS, b_addL, b_mulIl, b_mulIr, b_modI, b_divI, b_mulS, w_negI, a_I, a_S, x_lstI, x_rlsI, b_powT, x_lstI', x_str, x_str', x_strM, x_lstM, x_i2, x_i3, x_i4, x_i5, x_i6, x_i11, x_t0, x_t1, x_t2, x_t3, x_l0, cut_to, cut_from, cut_mid, cut_toN, cut_fromN, c_lt, c_le, c_gt, c_ge, c_eq, c_ne, e_same, e_I, e_S, e_B, c_iz, c_niz, c_inS, c_ninS, c_inP, c_ninP, c_inL, c_ninL, c_inT, c_ninT, k_non, k_bl, k_int, k_lst, k_tup, k_str, ty_w, isBor_n, isBor_c, v_lst, v_tup, v_slcL, v_slcS, v_revL, v_revS, bi_1, bi_2, l_lst, l_rls, l_tup, l_str, i_int, i_bl, li_lst, li_tup, li_str, so_int, so_str, al_bl, an_bl, su_int, al_map, an_map, su_map, ab_int, mi_2, ma_2, gc_2, r_joinS, r_indexS, r_indexL, mt_join, it_lst, it_own, it_tup, it_str, rn_ok, en_str, en_lst, zi_lst, re_lst, mb_fu, mb_fr, mb_sh, mb_bs, mb_bf, h_fu, h_fr, h_sh, h_fl, o_fu, o_sh, g_fu, g_fr, g_sh, g_fl, r_some, ol_sh, ol_fu, ap_sh, ap_fu, pu_sh, un_ok, pa_ok, bm_int, bm_str, pm_fr, pm_sh, pm_bs, pm_fu, pm_bf, cm_fr, cm_fu, cm_sh, cm_bs, callM_fl, callM_nb, rdV_fr, rdV_sh, rdV_fu, norm_fl, norm_lst, norm_nf, fl_non, fl_bl, fl_int, fl_str, fl_tup, fl_lst, fl_rls, fl_dic, flL_n, flL_c, flL_int, flL_str, wipe_n, wipe_c, List.set_cons_zero, List.set_cons_succ, List.set_nil, List.map_cons, List.map_nil, List.length_map, List.length_cons, List.length_nil, List.append_nil, List.nil_append, List.take_succ_cons, List.take_zero, List.drop_succ_cons, List.drop_zero, Nat.zero_add, Nat.reduceAdd, Nat.reduceSub, isNon, optI_n, optI_var, optI_lit, optI_bin, optI_neg, optI_idx, optI_bi, optI_call, optI_gl, optI_mt, bq_t, bq_f, bq_not, bq_yes, bq_no, bq_and, bq_or, Bool.not_true, Bool.not_false, Bool.false_and, Bool.true_and, Bool.and_false, Bool.and_true, Bool.or_false, Bool.false_or, Bool.or_true, Bool.true_or, if_true, if_false, Bool.false_eq_true, true_and, and_true, List.any_cons, List.any_nil, List.isEmpty_cons, List.isEmpty_nil, tB_int_non, tB_int_bl, tB_int_int, tB_int_str, tB_int_lst, tB_int_tup, tB_int_dic, tB_bool_non, tB_bool_bl, tB_bool_int, tB_bool_str, tB_bool_lst, tB_bool_tup, tB_bool_dic, tB_str_non, tB_str_bl, tB_str_int, tB_str_str, tB_str_lst, tB_str_tup, tB_str_dic, tB_list_non, tB_list_bl, tB_list_int, tB_list_str, tB_list_lst, tB_list_tup, tB_list_dic, tB_tuple_non, tB_tuple_bl, tB_tuple_int, tB_tuple_str, tB_tuple_lst, tB_tuple_tup, tB_tuple_dic, tB_dict_non, tB_dict_bl, tB_dict_int, tB_dict_str, tB_dict_lst, tB_dict_tup, tB_dict_dic])
        refine v_comp1 D.int (fun w => .int (w * 2 % m)) ?_ (fun w hw' => ?_) ?_
        · omega
        · (simp (config := {decide := false}) (disch := first | assumption | omega | (simp only [fl_p60, fl_pl, mb_fu, mb_fr, mb_sh, mb_bs, mb_bf, fl_non, fl_bl, fl_int, fl_str, fl_tup, fl_lst, fl_rls, fl_dic, flL_n, flL_c, flL_int, flL_str, isBor_n, isBor_c, pl_non, pl_bl, pl_int, pl_lst, plL_a, pl_tup, plL_n, plL_c, plL_int, at_non, at_bl, at_int, at_str, co_non, co_bl, co_int, co_str, co_lst, co_tup, List.all_cons, List.all_nil, List.length_cons, List.length_nil, List.length_map, beq_self_eq_true, mkb_shfu, mkb_frfu, Bool.false_and, Bool.true_and, Bool.and_true, Bool.and_false, Bool.and_self, Bool.not_true, Bool.not_false, Bool.or_false, Bool.or_true, Bool.true_or, Bool.false_or, Bool.or_self, ne_eq, reduceCtorEq, not_false_eq_true, not_true_eq_false, List.map_cons, List.map_nil]; done) | (have hSZ : SZ = 16777216 := SZ_w; first | omega | (simp only [List.length_map, List.length_append, List.length_cons, List.length_nil, List.length_reverse, List.length_range, List.length_take, List.length_drop, List.length_replicate] <;> omega))) only [gl, c0, c17, c1, c2, c3, wD, c4, c5, c6, c7, c9, c22, c10, c11, c12, c13, c14, c15, c24, c23, c23, ↓wp_ok, ↓wp_ex, ↓wp_bind, ↓w_var, ↓w_cst, ↓w_gl, ↓w_bin, ↓w_neg, ↓w_cmp, ↓w_chain, ↓w_isN, ↓w_notN, ↓w_and, ↓w_or, ↓w_and1, ↓w_and2, ↓w_or1, ↓w_or2, ↓w_not, ↓w_ite, ↓w_lst, ↓w_tup, ↓w_idx, ↓w_slc, ↓w_rev, ↓w_call, ↓w_bi, ↓w_mt1, ↓w_isi, ↓w_comp, ↓w_dcomp, ↓w_dic0, ↓w_dn, ↓w_dc, ↓t_val, ↓t_cmp, ↓t_chain, ↓t_isN, ↓t_notN, ↓t_not, ↓t_and, ↓t_or, ↓t_and1, ↓t_and2, ↓t_or1, ↓t_or2, ↓ts_n, ↓ts_1, ↓i_val, ↓i_rng1, ↓i_rng2, ↓i_enum, ↓i_zip, ↓i_revd, ↓s_nil, ↓s_cons, ↓s_set, ↓s_own, ↓s_par, ↓s_unp, ↓s_aug, ↓s_apd, ↓s_put, ↓s_exp, ↓s_ret, ↓s_retV, ↓s_retN, ↓s_ite, ↓s_for, ↓s_whl, ↓s_brk, ↓s_cnt, ↓s_pas, ↓s_frz, ↓s_nev, ↓s_mtc, ↓m_nil, ↓m_one, ↓m_two, ↓m_any, ↓ow_nx, ↓ow_bk, ↓ow_ct, ↓ow_rt, iw_non, iw_bl, iw_int, iw_str, iw_lst, iw_tup, iw_dic, iw_obj, iw_exc, iw_rls, getV_0, getV_s, getS_0, getS_s, boolW_bl, bindW_nm, bindW_tp, setAll_c, setAll_n, wp_ok, wp_ex, b_addI, b_subI, b_addS, b_addL, b_mulIl, b_mulIr, b_modI, b_divI, b_mulS, w_negI, a_I, a_S, x_lstI, x_rlsI, b_powT, x_lstI', x_str, x_str', x_strM, x_lstM, x_i2, x_i3, x_i4, x_i5, x_i6, x_i11, x_t0, x_t1, x_t2, x_t3, x_l0, cut_to, cut_from, cut_mid, cut_toN, cut_fromN, c_lt, c_le, c_gt, c_ge, c_eq, c_ne, e_same, e_I, e_S, e_B, c_iz, c_niz, c_inS, c_ninS, c_inP, c_ninP, c_inL, c_ninL, c_inT, c_ninT, k_non, k_bl, k_int, k_lst, k_tup, k_str, ty_w, isBor_n, isBor_c, v_lst, v_tup, v_slcL, v_slcS, v_revL, v_revS, bi_1, bi_2, l_lst, l_rls, l_tup, l_str, i_int, i_bl, li_lst, li_tup, li_str, so_int, so_str, al_bl, an_bl, su_int, al_map, an_map, su_map, ab_int, mi_2, ma_2, gc_2, r_joinS, r_indexS, r_indexL, mt_join, it_lst, it_own, it_tup, it_str, rn_ok, en_str, en_lst, zi_lst, re_lst, mb_fu, mb_fr, mb_sh, mb_bs, mb_bf, h_fu, h_fr, h_sh, h_fl, o_fu, o_sh, g_fu, g_fr, g_sh, g_fl, r_some, ol_sh, ol_fu, ap_sh, ap_fu, pu_sh, un_ok, pa_ok, bm_int, bm_str, pm_fr, pm_sh, pm_bs, pm_fu, pm_bf, cm_fr, cm_fu, cm_sh, cm_bs, callM_fl, callM_nb, rdV_fr, rdV_sh, rdV_fu, norm_fl, norm_lst, norm_nf, fl_non, fl_bl, fl_int, fl_str, fl_tup, fl_lst, fl_rls, fl_dic, flL_n, flL_c, flL_int, flL_str, wipe_n, wipe_c, List.set_cons_zero, List.set_cons_succ, List.set_nil, List.map_cons, List.map_nil, List.length_map, List.length_cons, List.length_nil, List.append_nil, List.nil_append, List.take_succ_cons, List.take_zero, List.drop_succ_cons, List.drop_zero, Nat.zero_add, Nat.reduceAdd, Nat.reduceSub, isNon, optI_n, optI_var, optI_lit, optI_bin, optI_neg, optI_idx, optI_bi, optI_call, optI_gl, optI_mt, bq_t, bq_f, bq_not, bq_yes, bq_no, bq_and, bq_or, Bool.not_true, Bool.not_false, Bool.false_and, Bool.true_and, Bool.and_false, Bool.and_true, Bool.or_false, Bool.false_or, Bool.or_true, Bool.true_or, if_true, if_false, Bool.false_eq_true, true_and, and_true, List.any_cons, List.any_nil, List.isEmpty_cons, List.isEmpty_nil, tB_int_non, tB_int_bl, tB_int_int, tB_int_str, tB_int_lst, tB_int_tup, tB_int_dic, tB_bool_non, tB_bool_bl, tB_bool_int, tB_bool_str, tB_bool_lst, tB_bool_tup, tB_bool_dic, tB_str_non, tB_str_bl, tB_str_int, tB_str_str, tB_str_lst, tB_str_tup, tB_str_dic, tB_list_non, tB_list_bl, tB_list_int, tB_list_str, tB_list_lst, tB_list_tup, tB_list_dic, tB_tuple_non, tB_tuple_bl, tB_tuple_int, tB_tuple_str, tB_tuple_lst, tB_tuple_tup, tB_tuple_dic, tB_dict_non, tB_dict_bl, tB_dict_int, tB_dict_str, tB_dict_lst, tB_dict_tup, tB_dict_dic])
        · (simp (config := {decide := false}) (disch := first | assumption | omega | (simp only [fl_p60, fl_pl, mb_fu, mb_fr, mb_sh, mb_bs, mb_bf, fl_non, fl_bl, fl_int, fl_str, fl_tup, fl_lst, fl_rls, fl_dic, flL_n, flL_c, flL_int, flL_str, isBor_n, isBor_c, pl_non, pl_bl, pl_int, pl_lst, plL_a, pl_tup, plL_n, plL_c, plL_int, at_non, at_bl, at_int, at_str, co_non, co_bl, co_int, co_str, co_lst, co_tup, List.all_cons, List.all_nil, List.length_cons, List.length_nil, List.length_map, beq_self_eq_true, mkb_shfu, mkb_frfu, Bool.false_and, Bool.true_and, Bool.and_true, Bool.and_false, Bool.and_self, Bool.not_true, Bool.not_false, Bool.or_false, Bool.or_true, Bool.true_or, Bool.false_or, Bool.or_self, ne_eq, reduceCtorEq, not_false_eq_true, not_true_eq_false, List.map_cons, List.map_nil]; done) | (have hSZ : SZ = 16777216 := SZ_w; first | omega | (simp only [List.length_map, List.length_append, List.length_cons, List.length_nil, List.length_reverse, List.length_range, List.length_take, List.length_drop, List.length_replicate] <;> omega))) only [gl, c0, c17, c1, c2, c3, wD, c4, c5, c6, c7, c9, c22, c10, c11, c12, c13, c14, c15, c24, c23, c23, ↓wp_ok, ↓wp_ex, ↓wp_bind, ↓w_var, ↓w_cst, ↓w_gl, ↓w_bin, ↓w_neg, ↓w_cmp, ↓w_chain, ↓w_isN, ↓w_notN, ↓w_and, ↓w_or, ↓w_and1, ↓w_and2, ↓w_or1, ↓w_or2, ↓w_not, ↓w_ite, ↓w_lst, ↓w_tup, ↓w_idx, ↓w_slc, ↓w_rev, ↓w_call, ↓w_bi, ↓w_mt1, ↓w_isi, ↓w_comp, ↓w_dcomp, ↓w_dic0, ↓w_dn, ↓w_dc, ↓t_val, ↓t_cmp, ↓t_chain, ↓t_isN, ↓t_notN, ↓t_not, ↓t_and, ↓t_or, ↓t_and1, ↓t_and2, ↓t_or1, ↓t_or2, ↓ts_n, ↓ts_1, ↓i_val, ↓i_rng1, ↓i_rng2, ↓i_enum, ↓i_zip, ↓i_revd, ↓s_nil, ↓s_cons, ↓s_set, ↓s_own, ↓s_par, ↓s_unp, ↓s_aug, ↓s_apd, ↓s_put, ↓s_exp, ↓s_ret, ↓s_retV, ↓s_retN, ↓s_ite, ↓s_for, ↓s_whl, ↓s_brk, ↓s_cnt, ↓s_pas, ↓s_frz, ↓s_nev, ↓s_mtc, ↓m_nil, ↓m_one, ↓m_two, ↓m_any, ↓ow_nx, ↓ow_bk, ↓ow_ct, ↓ow_rt, iw_non, iw_bl, iw_int, iw_str, iw_lst, iw_tup, iw_dic, iw_obj, iw_exc, iw_rls, getV_0, getV_s, getS_0, getS_s, boolW_bl, bindW_nm, bindW_tp, setAll_c, setAll_n, wp_ok, wp_ex, b_addI, b_subI, b_addS, b_addL, b_mulIl, b_mulIr, b_modI, b_divI, b_mulS, w_negI, a_I, a_S, x_lstI, x_rlsI, b_powT, x_lstI', x_str, x_str', x_strM, x_lstM, x_i2, x_i3, x_i4, x_i5, x_i6, x_i11, x_t0, x_t1, x_t2, x_t3, x_l0, cut_to, cut_from, cut_mid, cut_toN, cut_fromN, c_lt, c_le, c_gt, c_ge, c_eq, c_ne, e_same, e_I, e_S, e_B, c_iz, c_niz, c_inS, c_ninS, c_inP, c_ninP, c_inL, c_ninL, c_inT, c_ninT, k_non, k_bl, k_int, k_lst, k_tup, k_str, ty_w, isBor_n, isBor_c, v_lst, v_tup, v_slcL, v_slcS, v_revL, v_revS, bi_1, bi_2, l_lst, l_rls, l_tup, l_str, i_int, i_bl, li_lst, li_tup, li_str, so_int, so_str, al_bl, an_bl, su_int, al_map, an_map, su_map, ab_int, mi_2, ma_2, gc_2, r_joinS, r_indexS, r_indexL, mt_join, it_lst, it_own, it_tup, it_str, rn_ok, en_str, en_lst, zi_lst, re_lst, mb_fu, mb_fr, mb_sh, mb_bs, mb_bf, h_fu, h_fr, h_sh, h_fl, o_fu, o_sh, g_fu, g_fr, g_sh, g_fl, r_some, ol_sh, ol_fu, ap_sh, ap_fu, pu_sh, un_ok, pa_ok, bm_int, bm_str, pm_fr, pm_sh, pm_bs, pm_fu, pm_bf, cm_fr, cm_fu, cm_sh, cm_bs, callM_fl, callM_nb, rdV_fr, rdV_sh, rdV_fu, norm_fl, norm_lst, norm_nf, fl_non, fl_bl, fl_int, fl_str, fl_tup, fl_lst, fl_rls, fl_dic, flL_n, flL_c, flL_int, flL_str, wipe_n, wipe_c, List.set_cons_zero, List.set_cons_succ, List.set_nil, List.map_cons, List.map_nil, List.length_map, List.length_cons, List.length_nil, List.append_nil, List.nil_append, List.take_succ_cons, List.take_zero, List.drop_succ_cons, List.drop_zero, Nat.zero_add, Nat.reduceAdd, Nat.reduceSub, isNon, optI_n, optI_var, optI_lit, optI_bin, optI_neg, optI_idx, optI_bi, optI_call, optI_gl, optI_mt, bq_t, bq_f, bq_not, bq_yes, bq_no, bq_and, bq_or, Bool.not_true, Bool.not_false, Bool.false_and, Bool.true_and, Bool.and_false, Bool.and_true, Bool.or_false, Bool.false_or, Bool.or_true, Bool.true_or, if_true, if_false, Bool.false_eq_true, true_and, and_true, List.any_cons, List.any_nil, List.isEmpty_cons, List.isEmpty_nil, tB_int_non, tB_int_bl, tB_int_int, tB_int_str, tB_int_lst, tB_int_tup, tB_int_dic, tB_bool_non, tB_bool_bl, tB_bool_int, tB_bool_str, tB_bool_lst, tB_bool_tup, tB_bool_dic, tB_str_non, tB_str_bl, tB_str_int, tB_str_str, tB_str_lst, tB_str_tup, tB_str_dic, tB_list_non, tB_list_bl, tB_list_int, tB_list_str, tB_list_lst, tB_list_tup, tB_list_dic, tB_tuple_non, tB_tuple_bl, tB_tuple_int, tB_tuple_str, tB_tuple_lst, tB_tuple_tup, tB_tuple_dic, tB_dict_non, tB_dict_bl, tB_dict_int, tB_dict_str, tB_dict_lst, tB_dict_tup, tB_dict_dic])
          refine ⟨S, m, ws.map (fun w => w * 2 % m), l, _, _, _, _, _, _, _, _, _, _, _, ⟨s1, s2⟩, ⟨hw.m2, hw.m40, by simp [hw.n1], by simp [hw.n12], ?_, by simp [hw.states]⟩, by simp only [List.map_map]; rfl⟩
          intro x hx
          rw [List.mem_map] at hx
          obtain ⟨w, _, rfl⟩ := hx
          have := Int.emod_nonneg (w * 2) (b := m) (by omega)
          have := Int.emod_lt_of_pos (w * 2) (b := m) (by omega)
          omega
      · (simp (config := {decide := false}) (disch := first | assumption | omega | (simp only [fl_p60, fl_pl, mb_fu, mb_fr, mb_sh, mb_bs, mb_bf, fl_non, fl_bl, fl_int, fl_str, fl_tup, fl_lst, fl_rls, fl_dic, flL_n, flL_c, flL_int, flL_str, isBor_n, isBor_c, pl_non, pl_bl, pl_int, pl_lst, plL_a, pl_tup, plL_n, plL_c, plL_int, at_non, at_bl, at_int, at_str, co_non, co_bl, co_int, co_str, co_lst, co_tup, List.all_cons, List.all_nil, List.length_cons, List.length_nil, List.length_map, beq_self_eq_true, mkb_shfu, mkb_frfu, Bool.false_and, Bool.true_and, Bool.and_true, Bool.and_false, Bool.and_self, Bool.not_true, Bool.not_false, Bool.or_false, Bool.or_true, Bool.true_or, Bool.false_or, Bool.or_self, ne_eq, reduceCtorEq, not_false_eq_true, not_true_eq_false, List.map_cons, List.map_nil]; done) | (have hSZ : SZ = 16777216 := SZ_w; first | omega | (simp only [List.length_map, List.length_append, List.length_cons, List.length_nil, List.length_reverse, List.length_range, List.length_take, List.length_drop, List.length_replicate] <;> omega))) only [gl, c0, c17, c1, c2, c3, wD, c4, c5, c6, c7, c9, c22, c10, c11, c12, c13, c14, c15, c24, c23, c23, ↓wp_ok, ↓wp_ex, ↓wp_bind, ↓w_var, ↓w_cst, ↓w_gl, ↓w_bin, ↓w_neg, ↓w_cmp, ↓w_chain, ↓w_isN, ↓w_notN, ↓w_and, ↓w_or, ↓w_and1, ↓w_and2, ↓w_or1, ↓w_or2, ↓w_not, ↓w_ite, ↓w_lst, ↓w_tup, ↓w_idx, ↓w_slc, ↓w_rev, ↓w_call, ↓w_bi, ↓w_mt1, ↓w_isi, ↓w_comp, ↓w_dcomp, ↓w_dic0, ↓w_dn, ↓w_dc, ↓t_val, ↓t_cmp, ↓t_chain, ↓t_isN, ↓t_notN, ↓t_not, ↓t_and, ↓t_or, ↓t_and1, ↓t_and2, ↓t_or1, ↓t_or2, ↓ts_n, ↓ts_1, ↓i_val, ↓i_rng1, ↓i_rng2, ↓i_enum, ↓i_zip, ↓i_revd, ↓s_nil, ↓s_cons, ↓s_set, ↓s_own, ↓s_par, ↓s_unp, ↓s_aug, ↓s_apd, ↓s_put, ↓s_exp, ↓s_ret, ↓s_retV, ↓s_retN, ↓s_ite, ↓s_for, ↓s_whl, ↓s_brk, ↓s_cnt, ↓s_pas, ↓s_frz, ↓s_nev, ↓s_mtc, ↓m_nil, ↓m_one, ↓m_two, ↓m_any, ↓ow_nx, ↓ow_bk, ↓ow_ct, ↓ow_rt, iw_non, iw_bl, iw_int, iw_str, iw_lst, iw_tup, iw_dic, iw_obj, iw_exc, iw_rls, getV_0, getV_s, getS_0, getS_s, boolW_bl, bindW_nm, bindW_tp, setAll_c, setAll_n, wp_ok, wp_ex, b_addI, b_subI, b_addS, b_addL, b_mulIl, b_mulIr, b_modI, b_divI, b_mulS, w_negI, a_I, a_S, x_lstI, x_rlsI, b_powT, x_lstI', x_str, x_str', x_strM, x_lstM, x_i2, x_i3, x_i4, x_i5, x_i6, x_i11, x_t0, x_t1, x_t2, x_t3, x_l0, cut_to, cut_from, cut_mid, cut_toN, cut_fromN, c_lt, c_le, c_gt, c_ge, c_eq, c_ne, e_same, e_I, e_S, e_B, c_iz, c_niz, c_inS, c_ninS, c_inP, c_ninP, c_inL, c_ninL, c_inT, c_ninT, k_non, k_bl, k_int, k_lst, k_tup, k_str, ty_w, isBor_n, isBor_c, v_lst, v_tup, v_slcL, v_slcS, v_revL, v_revS, bi_1, bi_2, l_lst, l_rls, l_tup, l_str, i_int, i_bl, li_lst, li_tup, li_str, so_int, so_str, al_bl, an_bl, su_int, al_map, an_map, su_map, ab_int, mi_2, ma_2, gc_2, r_joinS, r_indexS, r_indexL, mt_join, it_lst, it_own, it_tup, it_str, rn_ok, en_str, en_lst, zi_lst, re_lst, mb_fu, mb_fr, mb_sh, mb_bs, mb_bf, h_fu, h_fr, h_sh, h_fl, o_fu, o_sh, g_fu, g_fr, g_sh, g_fl, r_some, ol_sh, ol_fu, ap_sh, ap_fu, pu_sh, un_ok, pa_ok, bm_int, bm_str, pm_fr, pm_sh, pm_bs, pm_fu, pm_bf, cm_fr, cm_fu, cm_sh, cm_bs, callM_fl, callM_nb, rdV_fr, rdV_sh, rdV_fu, norm_fl, norm_lst, norm_nf, fl_non, fl_bl, fl_int, fl_str, fl_tup, fl_lst, fl_rls, fl_dic, flL_n, flL_c, flL_int, flL_str, wipe_n, wipe_c, List.set_cons_zero, List.set_cons_succ, List.set_nil, List.map_cons, List.map_nil, List.length_map, List.length_cons, List.length_nil, List.append_nil, List.nil_append, List.take_succ_cons, List.take_zero, List.drop_succ_cons, List.drop_zero, Nat.zero_add, Nat.reduceAdd, Nat.reduceSub, isNon, optI_n, optI_var, optI_lit, optI_bin, optI_neg, optI_idx, optI_bi, optI_call, optI_gl, optI_mt, bq_t, bq_f, bq_not, bq_yes, bq_no, bq_and, bq_or, Bool.not_true, Bool.not_false, Bool.false_and, Bool.true_and, Bool.and_false, Bool.and_true, Bool.or_false, Bool.false_or, Bool.or_true, Bool.true_or, if_true, if_false, Bool.false_eq_true, true_and, and_true, List.any_cons, List.any_nil, List.isEmpty_cons, List.isEmpty_nil, tB_int_non, tB_int_bl, tB_int_int, tB_int_str, tB_int_lst, tB_int_tup, tB_int_dic, tB_bool_non, tB_bool_bl, tB_bool_int, tB_bool_str, tB_bool_lst, tB_bool_tup, tB_bool_dic, tB_str_non, tB_str_bl, tB_str_int, tB_str_str, tB_str_lst, tB_str_tup, tB_str_dic, tB_list_non, tB_list_bl, tB_list_int, tB_list_str, tB_list_lst, tB_list_tup, tB_list_dic, tB_tuple_non, tB_tuple_bl, tB_tuple_int, tB_tuple_str, tB_tuple_lst, tB_tuple_tup, tB_tuple_dic, tB_dict_non, tB_dict_bl, tB_dict_int, tB_dict_str, tB_dict_lst, tB_dict_tup, tB_dict_dic])
        exact ⟨S, m, ws, l, _, _, _, _, _, _, _, _, _, _, _, ⟨s1, s2⟩, hw, rfl⟩
    · rintro E ⟨S, m, ws, l, q1, q5, q6, q7, q10, q11, q12, q13, q14, q15, q16, hS, hw, rfl⟩
      have hS1 := hS.1
      have hS2 := hS.2
      have hm := hw.m2
      have hm4 := hw.m40
      have hn := hw.n12
      have hn1 := hw.n1
      refine cut_at 1 (fun E => ∃ q15, E = [some (.fr, .rls (ns.map .int)), q1, some (.fr, .str S), some (.fr, wD m ws), some (.fr, .lst (l.map .int)), some (.fr, .bl (decide (2 ≤ S.length) && ws.any (gcd1 m))), q6, q7, some (.fr, .int m), some (.fr, .lst (ws.map .int)), q10, q11, q12, q13, q14, q15, q16]) ?_ ?_
      · (simp (config := {decide := false}) (disch := first | assumption | omega | (simp only [fl_p60, fl_pl, mb_fu, mb_fr, mb_sh, mb_bs, mb_bf, fl_non, fl_bl, fl_int, fl_str, fl_tup, fl_lst, fl_rls, fl_dic, flL_n, flL_c, flL_int, flL_str, isBor_n, isBor_c, pl_non, pl_bl, pl_int, pl_lst, plL_a, pl_tup, plL_n, plL_c, plL_int, at_non, at_bl, at_int, at_str, co_non, co_bl, co_int, co_str, co_lst, co_tup, List.all_cons, List.all_nil, List.length_cons, List.length_nil, List.length_map, beq_self_eq_true, mkb_shfu, mkb_frfu, Bool.false_and, Bool.true_and, Bool.and_true, Bool.and_false, Bool.and_self, Bool.not_true, Bool.not_false, Bool.or_false, Bool.or_true, Bool.true_or, Bool.false_or, Bool.or_self, ne_eq, reduceCtorEq, not_false_eq_true, not_true_eq_false, List.map_cons, List.map_nil]; done) | (have hSZ : SZ = 16777216 := SZ_w; first | omega | (simp only [List.length_map, List.length_append, List.length_cons, List.length_nil, List.length_reverse, List.length_range, List.length_take, List.length_drop, List.length_replicate] <;> omega))) only [gl, c0, c17, c1, c2, c3, wD, c4, c5, c6, c7, c9, c22, c10, c11, c12, c13, c14, c15, c24, c23, c23, ↓wp_ok, ↓wp_ex, ↓wp_bind, ↓w_var, ↓w_cst, ↓w_gl, ↓w_bin, ↓w_neg, ↓w_cmp, ↓w_chain, ↓w_isN, ↓w_notN, ↓w_and, ↓w_or, ↓w_and1, ↓w_and2, ↓w_or1, ↓w_or2, ↓w_not, ↓w_ite, ↓w_lst, ↓w_tup, ↓w_idx, ↓w_slc, ↓w_rev, ↓w_call, ↓w_bi, ↓w_mt1, ↓w_isi, ↓w_comp, ↓w_dcomp, ↓w_dic0, ↓w_dn, ↓w_dc, ↓t_val, ↓t_cmp, ↓t_chain, ↓t_isN, ↓t_notN, ↓t_not, ↓t_and, ↓t_or, ↓t_and1, ↓t_and2, ↓t_or1, ↓t_or2, ↓ts_n, ↓ts_1, ↓i_val, ↓i_rng1, ↓i_rng2, ↓i_enum, ↓i_zip, ↓i_revd, ↓s_nil, ↓s_cons, ↓s_set, ↓s_own, ↓s_par, ↓s_unp, ↓s_aug, ↓s_apd, ↓s_put, ↓s_exp, ↓s_ret, ↓s_retV, ↓s_retN, ↓s_ite, ↓s_for, ↓s_whl, ↓s_brk, ↓s_cnt, ↓s_pas, ↓s_frz, ↓s_nev, ↓s_mtc, ↓m_nil, ↓m_one, ↓m_two, ↓m_any, ↓ow_nx, ↓ow_bk, ↓ow_ct, ↓ow_rt, iw_non, iw_bl, iw_int, iw_str, iw_lst, iw_tup, iw_dic, iw_obj, iw_exc, iw_rls, getV_0, getV_s, getS_0, getS_s, boolW_bl, bindW_nm, bindW_tp, setAll_c, setAll_n, wp_ok, wp_ex, b_addI, b_subI, b_addS, b_addL, b_mulIl, b_mulIr, b_modI, b_divI, b_mulS, w_negI, a_I, a_S, x_lstI, x_rlsI, b_powT, x_lstI', x_str, x_str', x_strM, x_lstM, x_i2, x_i3, x_i4, x_i5, x_i6, x_i11, x_t0, x_t1, x_t2, x_t3, x_l0, cut_to, cut_from, cut_mid, cut_toN, cut_fromN, c_lt, c_le, c_gt, c_ge, c_eq, c_ne, e_same, e_I, e_S, e_B, c_iz, c_niz, c_inS, c_ninS, c_inP, c_ninP, c_inL, c_ninL, c_inT, c_ninT, k_non, k_bl, k_int, k_lst, k_tup, k_str, ty_w, isBor_n, isBor_c, v_lst, v_tup, v_slcL, v_slcS, v_revL, v_revS, bi_1, bi_2, l_lst, l_rls, l_tup, l_str, i_int, i_bl, li_lst, li_tup, li_str, so_int, so_str, al_bl, an_bl, su_int, al_map, an_map, su_map, ab_int, mi_2, ma_2, gc_2, r_joinS, r_indexS, r_indexL, mt_join, it_lst, it_own, it_tup, it_str, rn_ok, en_str, en_lst, zi_lst, re_lst, mb_fu, mb_fr, mb_sh, mb_bs, mb_bf, h_fu, h_fr, h_sh, h_fl, o_fu, o_sh, g_fu, g_fr, g_sh, g_fl, r_some, ol_sh, ol_fu, ap_sh, ap_fu, pu_sh, un_ok, pa_ok, bm_int, bm_str, pm_fr, pm_sh, pm_bs, pm_fu, pm_bf, cm_fr, cm_fu, cm_sh, cm_bs, callM_fl, callM_nb, rdV_fr, rdV_sh, rdV_fu, norm_fl, norm_lst, norm_nf, fl_non, fl_bl, fl_int, fl_str, fl_tup, fl_lst, fl_rls, fl_dic, flL_n, flL_c, flL_int, flL_str, wipe_n, wipe_c, List.set_cons_zero, List.set_cons_succ, List.set_nil, List.map_cons, List.map_nil, List.length_map, List.length_cons, List.length_nil, List.append_nil, List.nil_append, List.take_succ_cons, List.take_zero, List.drop_succ_cons, List.drop_zero, Nat.zero_add, Nat.reduceAdd, Nat.reduceSub, isNon, optI_n, optI_var, optI_lit, optI_bin, optI_neg, optI_idx, optI_bi, optI_call, optI_gl, optI_mt, bq_t, bq_f, bq_not, bq_yes, bq_no, bq_and, bq_or, Bool.not_true, Bool.not_false, Bool.false_and, Bool.true_and, Bool.and_false, Bool.and_true, Bool.or_false, Bool.false_or, Bool.or_true, Bool.true_or, if_true, if_false, Bool.false_eq_true, true_and, and_true, List.any_cons, List.any_nil, List.isEmpty_cons, List.isEmpty_nil, tB_int_non, tB_int_bl, tB_int_int, tB_int_str, tB_int_lst, tB_int_tup, tB_int_dic, tB_bool_non, tB_bool_bl, tB_bool_int, tB_bool_str, tB_bool_lst, tB_bool_tup, tB_bool_dic, tB_str_non, tB_str_bl, tB_str_int, tB_str_str, tB_str_lst, tB_str_tup, tB_str_dic, tB_list_non, tB_list_bl, tB_list_int, tB_list_str, tB_list_lst, tB_list_tup, tB_list_dic, tB_tuple_non, tB_tuple_bl, tB_tuple_int, tB_tuple_str, tB_tuple_lst, tB_tuple_tup, tB_tuple_dic, tB_dict_non, tB_dict_bl, tB_dict_int, tB_dict_str, tB_dict_lst, tB_dict_tup, tB_dict_dic])
        (rw [bq_dec]; refine ⟨fun hs => ?_, fun hs => ?_⟩)
        · (simp (config := {decide := false}) (disch := first | assumption | omega | (simp only [fl_p60, fl_pl, mb_fu, mb_fr, mb_sh, mb_bs, mb_bf, fl_non, fl_bl, fl_int, fl_str, fl_tup, fl_lst, fl_rls, fl_dic, flL_n, flL_c, flL_int, flL_str, isBor_n, isBor_c, pl_non, pl_bl, pl_int, pl_lst, plL_a, pl_tup, plL_n, plL_c, plL_int, at_non, at_bl, at_int, at_str, co_non, co_bl, co_int, co_str, co_lst, co_tup, List.all_cons, List.all_nil, List.length_cons, List.length_nil, List.length_map, beq_self_eq_true, mkb_shfu, mkb_frfu, Bool.false_and, Bool.true_and, Bool.and_true, Bool.and_false, Bool.and_self, Bool.not_true, Bool.not_false, Bool.or_false, Bool.or_true, Bool.true_or, Bool.false_or, Bool.or_self, ne_eq, reduceCtorEq, not_false_eq_true, not_true_eq_false, List.map_cons, List.map_nil]; done) | (have hSZ : SZ = 16777216 := SZ_w; first | omega | (simp only [List.length_map, List.length_append, List.length_cons, List.length_nil, List.length_reverse, List.length_range, List.length_take, List.length_drop, List.length_replicate] <;> omega))) only [gl, c0, c17, c1, c2, c3, wD, c4, c5, c6, c7, c9, c22, c10, c11, c12, c13, c14, c15, c24, c23, c23, ↓wp_ok, ↓wp_ex, ↓wp_bind, ↓w_var, ↓w_cst, ↓w_gl, ↓w_bin, ↓w_neg, ↓w_cmp, ↓w_chain, ↓w_isN, ↓w_notN, ↓w_and, ↓w_or, ↓w_and1, ↓w_and2, ↓w_or1, ↓w_or2, ↓w_not, ↓w_ite, ↓w_lst, ↓w_tup, ↓w_idx, ↓w_slc, ↓w_rev, ↓w_call, ↓w_bi, ↓w_mt1, ↓w_isi, ↓w_comp, ↓w_dcomp, ↓w_dic0, ↓w_dn, ↓w_dc, ↓t_val, ↓t_cmp, ↓t_chain, ↓t_isN, ↓t_notN, ↓t_not, ↓t_and, ↓t_or, ↓t_and1, ↓t_and2, ↓t_or1, ↓t_or2, ↓ts_n, ↓ts_1, ↓i_val, ↓i_rng1, ↓i_rng2, ↓i_enum, ↓i_zip, ↓i_revd, ↓s_nil, ↓s_cons, ↓s_set, ↓s_own, ↓s_par, ↓s_unp, ↓s_aug, ↓s_apd, ↓s_put, ↓s_exp, ↓s_ret, ↓s_retV, ↓s_retN, ↓s_ite, ↓s_for, ↓s_whl, ↓s_brk, ↓s_cnt, ↓s_pas, ↓s_frz, ↓s_nev, ↓s_mtc, ↓m_nil, ↓m_one, ↓m_two, ↓m_any, ↓ow_nx, ↓ow_bk, ↓ow_ct, ↓ow_rt, iw_non, iw_bl, iw_int, iw_str, iw_lst, iw_tup, iw_dic, iw_obj, iw_exc, iw_rls, getV_0, getV_s, getS_0, getS_s, boolW_bl, bindW_nm, bindW_tp, setAll_c, setAll_n, wp_ok, wp_ex, b_addI, b_subI, b_addS, b_addL, b_mulIl, b_mulIr, b_modI, b_divI, b_mulS, w_negI, a_I, a_S, x_lstI, x_rlsI, b_powT, x_lstI', x_str, x_str', x_strM, x_lstM, x_i2, x_i3, x_i4, x_i5, x_i6, x_i11, x_t0, x_t1, x_t2, x_t3, x_l0, cut_to, cut_from, cut_mid, cut_toN, cut_fromN, c_lt, c_le, c_gt, c_ge, c_eq, c_ne, e_same, e_I, e_S, e_B, c_iz, c_niz, c_inS, c_ninS, c_inP, c_ninP, c_inL, c_ninL, c_inT, c_ninT, k_non, k_bl, k_int, k_lst, k_tup, k_str, ty_w, isBor_n, isBor_c, v_lst, v_tup, v_slcL, v_slcS, v_revL, v_revS, bi_1, bi_2, l_lst, l_rls, l_tup, l_str, i_int, i_bl, li_lst, li_tup, li_str, so_int, so_str, al_bl, an_bl, su_int, al_map, an_map, su_map, ab_int, mi_2, ma_2, gc_2, r_joinS, r_indexS, r_indexL, mt_join, it_lst, it_own, it_tup, it_str, rn_ok, en_str, en_lst, zi_lst, re_lst, mb_fu, mb_fr, mb_sh, mb_bs, mb_bf, h_fu, h_fr, h_sh, h_fl, o_fu, o_sh, g_fu, g_fr, g_sh, g_fl, r_some, ol_sh, ol_fu, ap_sh, ap_fu, pu_sh, un_ok, pa_ok, bm_int, bm_str, pm_fr, pm_sh, pm_bs, pm_fu, pm_bf, cm_fr, cm_fu, cm_sh, cm_bs, callM_fl, callM_nb, rdV_fr, rdV_sh, rdV_fu, norm_fl, norm_lst, norm_nf, fl_non, fl_bl, fl_int, fl_str, fl_tup, fl_lst, fl_rls, fl_dic, flL_n, flL_c, flL_int, flL_str, wipe_n, wipe_c, List.set_cons_zero, List.set_cons_succ, List.set_nil, List.map_cons, List.map_nil, List.length_map, List.length_cons, List.length_nil, List.append_nil, List.nil_append, List.take_succ_cons, List.take_zero, List.drop_succ_cons, List.drop_zero, Nat.zero_add, Nat.reduceAdd, Nat.reduceSub, isNon, optI_n, optI_var, optI_lit, optI_bin, optI_neg, optI_idx, optI_bi, optI_call, optI_gl, optI_mt, bq_t, bq_f, bq_not, bq_yes, bq_no, bq_and, bq_or, Bool.not_true, Bool.not_false, Bool.false_and, Bool.true_and, Bool.and_false, Bool.and_true, Bool.or_false, Bool.false_or, Bool.or_true, Bool.true_or, if_true, if_false, Bool.false_eq_true, true_and, and_true, List.any_cons, List.any_nil, List.isEmpty_cons, List.isEmpty_nil, tB_int_non, tB_int_bl, tB_int_int, tB_int_str, tB_int_lst, tB_int_tup, tB_int_dic, tB_bool_non, tB_bool_bl, tB_bool_int, tB_bool_str, tB_bool_lst, tB_bool_tup, tB_bool_dic, tB_str_non, tB_str_bl, tB_str_int, tB_str_str, tB_str_lst, tB_str_tup, tB_str_dic, tB_list_non, tB_list_bl, tB_list_int, tB_list_str, tB_list_lst, tB_list_tup, tB_list_dic, tB_tuple_non, tB_tuple_bl, tB_tuple_int, tB_tuple_str, tB_tuple_lst, tB_tuple_tup, tB_tuple_dic, tB_dict_non, tB_dict_bl, tB_dict_int, tB_dict_str, tB_dict_lst, tB_dict_tup, tB_dict_dic])
          refine v_comp D.int (gcd1 m) D.int ?_ (fun w hw' => ?_) ?_
          · omega
          · have := hw.all w hw'
            (simp (config := {decide := false}) (disch := first | assumption | omega | (simp only [fl_p60, fl_pl, mb_fu, mb_fr, mb_sh, mb_bs, mb_bf, fl_non, fl_bl, fl_int, fl_str, fl_tup, fl_lst, fl_rls, fl_dic, flL_n, flL_c, flL_int, flL_str, isBor_n, isBor_c, pl_non, pl_bl, pl_int, pl_lst, plL_a, pl_tup, plL_n, plL_c, plL_int, at_non, at_bl, at_int, at_str, co_non, co_bl, co_int, co_str, co_lst, co_tup, List.all_cons, List.all_nil, List.length_cons, List.length_nil, List.length_map, beq_self_eq_true, mkb_shfu, mkb_frfu, Bool.false_and, Bool.true_and, Bool.and_true, Bool.and_false, Bool.and_self, Bool.not_true, Bool.not_false, Bool.or_false, Bool.or_true, Bool.true_or, Bool.false_or, Bool.or_self, ne_eq, reduceCtorEq, not_false_eq_true, not_true_eq_false, List.map_cons, List.map_nil]; done) | (have hSZ : SZ = 16777216 := SZ_w; first | omega | (simp only [List.length_map, List.length_append, List.length_cons, List.length_nil, List.length_reverse, List.length_range, List.length_take, List.length_drop, List.length_replicate] <;> omega))) only [gl, c0, c17, c1, c2, c3, wD, c4, c5, c6, c7, c9, c22, c10, c11, c12, c13, c14, c15, c24, c23, c23, ↓wp_ok, ↓wp_ex, ↓wp_bind, ↓w_var, ↓w_cst, ↓w_gl, ↓w_bin, ↓w_neg, ↓w_cmp, ↓w_chain, ↓w_isN, ↓w_notN, ↓w_and, ↓w_or, ↓w_and1, ↓w_and2, ↓w_or1, ↓w_or2, ↓w_not, ↓w_ite, ↓w_lst, ↓w_tup, ↓w_idx, ↓w_slc, ↓w_rev, ↓w_call, ↓w_bi, ↓w_mt1, ↓w_isi, ↓w_comp, ↓w_dcomp, ↓w_dic0, ↓w_dn, ↓w_dc, ↓t_val, ↓t_cmp, ↓t_chain, ↓t_isN, ↓t_notN, ↓t_not, ↓t_and, ↓t_or, ↓t_and1, ↓t_and2, ↓t_or1, ↓t_or2, ↓ts_n, ↓ts_1, ↓i_val, ↓i_rng1, ↓i_rng2, ↓i_enum, ↓i_zip, ↓i_revd, ↓s_nil, ↓s_cons, ↓s_set, ↓s_own, ↓s_par, ↓s_unp, ↓s_aug, ↓s_apd, ↓s_put, ↓s_exp, ↓s_ret, ↓s_retV, ↓s_retN, ↓s_ite, ↓s_for, ↓s_whl, ↓s_brk, ↓s_cnt, ↓s_pas, ↓s_frz, ↓s_nev, ↓s_mtc, ↓m_nil, ↓m_one, ↓m_two, ↓m_any, ↓ow_nx, ↓ow_bk, ↓ow_ct, ↓ow_rt, iw_non, iw_bl, iw_int, iw_str, iw_lst, iw_tup, iw_dic, iw_obj, iw_exc, iw_rls, getV_0, getV_s, getS_0, getS_s, boolW_bl, bindW_nm, bindW_tp, setAll_c, setAll_n, wp_ok, wp_ex, b_addI, b_subI, b_addS, b_addL, b_mulIl, b_mulIr, b_modI, b_divI, b_mulS, w_negI, a_I, a_S, x_lstI, x_rlsI, b_powT, x_lstI', x_str, x_str', x_strM, x_lstM, x_i2, x_i3, x_i4, x_i5, x_i6, x_i11, x_t0, x_t1, x_t2, x_t3, x_l0, cut_to, cut_from, cut_mid, cut_toN, cut_fromN, c_lt, c_le, c_gt, c_ge, c_eq, c_ne, e_same, e_I, e_S, e_B, c_iz, c_niz, c_inS, c_ninS, c_inP, c_ninP, c_inL, c_ninL, c_inT, c_ninT, k_non, k_bl, k_int, k_lst, k_tup, k_str, ty_w, isBor_n, isBor_c, v_lst, v_tup, v_slcL, v_slcS, v_revL, v_revS, bi_1, bi_2, l_lst, l_rls, l_tup, l_str, i_int, i_bl, li_lst, li_tup, li_str, so_int, so_str, al_bl, an_bl, su_int, al_map, an_map, su_map, ab_int, mi_2, ma_2, gc_2, r_joinS, r_indexS, r_indexL, mt_join, it_lst, it_own, it_tup, it_str, rn_ok, en_str, en_lst, zi_lst, re_lst, mb_fu, mb_fr, mb_sh, mb_bs, mb_bf, h_fu, h_fr, h_sh, h_fl, o_fu, o_sh, g_fu, g_fr, g_sh, g_fl, r_some, ol_sh, ol_fu, ap_sh, ap_fu, pu_sh, un_ok, pa_ok, bm_int, bm_str, pm_fr, pm_sh, pm_bs, pm_fu, pm_bf, cm_fr, cm_fu, cm_sh, cm_bs, callM_fl, callM_nb, rdV_fr, rdV_sh, rdV_fu, norm_fl, norm_lst, norm_nf, fl_non, fl_bl, fl_int, fl_str, fl_tup, fl_lst, fl_rls, fl_dic, flL_n, flL_c, flL_int, flL_str, wipe_n, wipe_c, List.set_cons_zero, List.set_cons_succ, List.set_nil, List.map_cons, List.map_nil, List.length_map, List.length_cons, List.length_nil, List.append_nil, List.nil_append, List.take_succ_cons, List.take_zero, List.drop_succ_cons, List.drop_zero, Nat.zero_add, Nat.reduceAdd, Nat.reduceSub, isNon, optI_n, optI_var, optI_lit, optI_bin, optI_neg, optI_idx, optI_bi, optI_call, optI_gl, optI_mt, bq_t, bq_f, bq_not, bq_yes, bq_no, bq_and, bq_or, Bool.not_true, Bool.not_false, Bool.false_and, Bool.true_and, Bool.and_false, Bool.and_true, Bool.or_false, Bool.false_or, Bool.or_true, Bool.true_or, if_true, if_false, Bool.false_eq_true, true_and, and_true, List.any_cons, List.any_nil, List.isEmpty_cons, List.isEmpty_nil, tB_int_non, tB_int_bl, tB_int_int, tB_int_str, tB_int_lst, tB_int_tup, tB_int_dic, tB_bool_non, tB_bool_bl, tB_bool_int, tB_bool_str, tB_bool_lst, tB_bool_tup, tB_bool_dic, tB_str_non, tB_str_bl, tB_str_int, tB_str_str, tB_str_lst, tB_str_tup, tB_str_dic, tB_list_non, tB_list_bl, tB_list_int, tB_list_str, tB_list_lst, tB_list_tup, tB_list_dic, tB_tuple_non, tB_tuple_bl, tB_tuple_int, tB_tuple_str, tB_tuple_lst, tB_tuple_tup, tB_tuple_dic, tB_dict_non, tB_dict_bl, tB_dict_int, tB_dict_str, tB_dict_lst, tB_dict_tup, tB_dict_dic])
            exact ⟨rfl, fun _ => by (simp (config := {decide := false}) (disch := first | assumption | omega | (simp only [fl_p60, fl_pl, mb_fu, mb_fr, mb_sh, mb_bs, mb_bf, fl_non, fl_bl, fl_int, fl_str, fl_tup, fl_lst, fl_rls, fl_dic, flL_n, flL_c, flL_int, flL_str, isBor_n, isBor_c, pl_non, pl_bl, pl_int, pl_lst, plL_a, pl_tup, plL_n, plL_c, plL_int, at_non, at_bl, at_int, at_str, co_non, co_bl, co_int, co_str, co_lst, co_tup, List.all_cons, List.all_nil, List.length_cons, List.length_nil, List.length_map, beq_self_eq_true, mkb_shfu, mkb_frfu, Bool.false_and, Bool.true_and, Bool.and_true, Bool.and_false, Bool.and_self, Bool.not_true, Bool.not_false, Bool.or_false, Bool.or_true, Bool.true_or, Bool.false_or, Bool.or_self, ne_eq, reduceCtorEq, not_false_eq_true, not_true_eq_false, List.map_cons, List.map_nil]; done) | (have hSZ : SZ = 16777216 := SZ_w; first | omega | (simp only [List.length_map, List.length_append, List.length_cons, List.length_nil, List.length_reverse, List.length_range, List.length_take, List.length_drop, List.length_replicate] <;> omega))) only [gl, c0, c17, c1, c2, c3, wD, c4, c5, c6, c7, c9, c22, c10, c11, c12, c13, c14, c15, c24, c23, c23, ↓wp_ok, ↓wp_ex, ↓wp_bind, ↓w_var, ↓w_cst, ↓w_gl, ↓w_bin, ↓w_neg, ↓w_cmp, ↓w_chain, ↓w_isN, ↓w_notN, ↓w_and, ↓w_or, ↓w_and1, ↓w_and2, ↓w_or1, ↓w_or2, ↓w_not, ↓w_ite, ↓w_lst, ↓w_tup, ↓w_idx, ↓w_slc, ↓w_rev, ↓w_call, ↓w_bi, ↓w_mt1, ↓w_isi, ↓w_comp, ↓w_dcomp, ↓w_dic0, ↓w_dn, ↓w_dc, ↓t_val, ↓t_cmp, ↓t_chain, ↓t_isN, ↓t_notN, ↓t_not, ↓t_and, ↓t_or, ↓t_and1, ↓t_and2, ↓t_or1, ↓t_or2, ↓ts_n, ↓ts_1, ↓i_val, ↓i_rng1, ↓i_rng2, ↓i_enum, ↓i_zip, ↓i_revd, ↓s_nil, ↓s_cons, ↓s_set, ↓s_own, ↓s_par, ↓s_unp, ↓s_aug, ↓s_apd, ↓s_put, ↓s_exp, ↓s_ret, ↓s_retV, ↓s_retN, ↓s_ite, ↓s_for, ↓s_whl, ↓s_brk, ↓s_cnt, ↓s_pas, ↓s_frz, ↓s_nev, ↓s_mtc, ↓m_nil, ↓m_one, ↓m_two, ↓m_any, ↓ow_nx, ↓ow_bk, ↓ow_ct, ↓ow_rt, iw_non, iw_bl, iw_int, iw_str, iw_lst, iw_tup, iw_dic, iw_obj, iw_exc, iw_rls, getV_0, getV_s, getS_0, getS_s, boolW_bl, bindW_nm, bindW_tp, setAll_c, setAll_n, wp_ok, wp_ex, b_addI, b_subI, b_addS, b_addL, b_mulIl, b_mulIr, b_modI, b_divI, b_mulS, w_negI, a_I, a_S, x_lstI, x_rlsI, b_powT, x_lstI', x_str, x_str', x_strM, x_lstM, x_i2, x_i3, x_i4, x_i5, x_i6, x_i11, x_t0, x_t1, x_t2, x_t3, x_l0, cut_to, cut_from, cut_mid, cut_toN, cut_fromN, c_lt, c_le, c_gt, c_ge, c_eq, c_ne, e_same, e_I, e_S, e_B, c_iz, c_niz, c_inS, c_ninS, c_inP, c_ninP, c_inL, c_ninL, c_inT, c_ninT, k_non, k_bl, k_int, k_lst, k_tup, k_str, ty_w, isBor_n, isBor_c, v_lst, v_tup, v_slcL, v_slcS, v_revL, v_revS, bi_1, bi_2, l_lst, l_rls, l_tup, l_str, i_int, i_bl, li_lst, li_tup, li_str, so_int, so_str, al_bl, an_bl, su_int, al_map, an_map, su_map, ab_int, mi_2, ma_2, gc_2, r_joinS, r_indexS, r_indexL, mt_join, it_lst, it_own, it_tup, it_str, rn_ok, en_str, en_lst, zi_lst, re_lst, mb_fu, mb_fr, mb_sh, mb_bs, mb_bf, h_fu, h_fr, h_sh, h_fl, o_fu, o_sh, g_fu, g_fr, g_sh, g_fl, r_some, ol_sh, ol_fu, ap_sh, ap_fu, pu_sh, un_ok, pa_ok, bm_int, bm_str, pm_fr, pm_sh, pm_bs, pm_fu, pm_bf, cm_fr, cm_fu, cm_sh, cm_bs, callM_fl, callM_nb, rdV_fr, rdV_sh, rdV_fu, norm_fl, norm_lst, norm_nf, fl_non, fl_bl, fl_int, fl_str, fl_tup, fl_lst, fl_rls, fl_dic, flL_n, flL_c, flL_int, flL_str, wipe_n, wipe_c, List.set_cons_zero, List.set_cons_succ, List.set_nil, List.map_cons, List.map_nil, List.length_map, List.length_cons, List.length_nil, List.append_nil, List.nil_append, List.take_succ_cons, List.take_zero, List.drop_succ_cons, List.drop_zero, Nat.zero_add, Nat.reduceAdd, Nat.reduceSub, isNon, optI_n, optI_var, optI_lit, optI_bin, optI_neg, optI_idx, optI_bi, optI_call, optI_gl, optI_mt, bq_t, bq_f, bq_not, bq_yes, bq_no, bq_and, bq_or, Bool.not_true, Bool.not_false, Bool.false_and, Bool.true_and, Bool.and_false, Bool.and_true, Bool.or_false, Bool.false_or, Bool.or_true, Bool.true_or, if_true, if_false, Bool.false_eq_true, true_and, and_true, List.any_cons, List.any_nil, List.isEmpty_cons, List.isEmpty_nil, tB_int_non, tB_int_bl, tB_int_int, tB_int_str, tB_int_lst, tB_int_tup, tB_int_dic, tB_bool_non, tB_bool_bl, tB_bool_int, tB_bool_str, tB_bool_lst, tB_bool_tup, tB_bool_dic, tB_str_non, tB_str_bl, tB_str_int, tB_str_str, tB_str_lst, tB_str_tup, tB_str_dic, tB_list_non, tB_list_bl, tB_list_int, tB_list_str, tB_list_lst, tB_list_tup, tB_list_dic, tB_tuple_non, tB_tuple_bl, tB_tuple_int, tB_tuple_str, tB_tuple_lst, tB_tuple_tup, tB_tuple_dic, tB_dict_non, tB_dict_bl, tB_dict_int, tB_dict_str, tB_dict_lst, tB_dict_tup, tB_dict_dic])⟩
          · (simp (config := {decide := false}) (disch := first | assumption | omega | (simp only [fl_p60, fl_pl, mb_fu, mb_fr, mb_sh, mb_bs, mb_bf, fl_non, fl_bl, fl_int, fl_str, fl_tup, fl_lst, fl_rls, fl_dic, flL_n, flL_c, flL_int, flL_str, isBor_n, isBor_c, pl_non, pl_bl, pl_int, pl_lst, plL_a, pl_tup, plL_n, plL_c, plL_int, at_non, at_bl, at_int, at_str, co_non, co_bl, co_int, co_str, co_lst, co_tup, List.all_cons, List.all_nil, List.length_cons, List.length_nil, List.length_map, beq_self_eq_true, mkb_shfu, mkb_frfu, Bool.false_and, Bool.true_and, Bool.and_true, Bool.and_false, Bool.and_self, Bool.not_true, Bool.not_false, Bool.or_false, Bool.or_true, Bool.true_or, Bool.false_or, Bool.or_self, ne_eq, reduceCtorEq, not_false_eq_true, not_true_eq_false, List.map_cons, List.map_nil]; done) | (have hSZ : SZ = 16777216 := SZ_w; first | omega | (simp only [List.length_map, List.length_append, List.length_cons, List.length_nil, List.length_reverse, List.length_range, List.length_take, List.length_drop, List.length_replicate] <;> omega))) only [gl, c0, c17, c1, c2, c3, wD, c4, c5, c6, c7, c9, c22, c10, c11, c12, c13, c14, c15, c24, c23, c23, eqv_nil, e_P, ↓wp_ok, ↓wp_ex, ↓wp_bind, ↓w_var, ↓w_cst, ↓w_gl, ↓w_bin, ↓w_neg, ↓w_cmp, ↓w_chain, ↓w_isN, ↓w_notN, ↓w_and, ↓w_or, ↓w_and1, ↓w_and2, ↓w_or1, ↓w_or2, ↓w_not, ↓w_ite, ↓w_lst, ↓w_tup, ↓w_idx, ↓w_slc, ↓w_rev, ↓w_call, ↓w_bi, ↓w_mt1, ↓w_isi, ↓w_comp, ↓w_dcomp, ↓w_dic0, ↓w_dn, ↓w_dc, ↓t_val, ↓t_cmp, ↓t_chain, ↓t_isN, ↓t_notN, ↓t_not, ↓t_and, ↓t_or, ↓t_and1, ↓t_and2, ↓t_or1, ↓t_or2, ↓ts_n, ↓ts_1, ↓i_val, ↓i_rng1, ↓i_rng2, ↓i_enum, ↓i_zip, ↓i_revd, ↓s_nil, ↓s_cons, ↓s_set, ↓s_own, ↓s_par, ↓s_unp, ↓s_aug, ↓s_apd, ↓s_put, ↓s_exp, ↓s_ret, ↓s_retV, ↓s_retN, ↓s_ite, ↓s_for, ↓s_whl, ↓s_brk, ↓s_cnt, ↓s_pas, ↓s_frz, ↓s_nev, ↓s_mtc, ↓m_nil, ↓m_one, ↓m_two, ↓m_any, ↓ow_nx, ↓ow_bk, ↓ow_ct, ↓ow_rt, iw_non, iw_bl, iw_int, iw_str, iw_lst, iw_tup, iw_dic, iw_obj, iw_exc, iw_rls, getV_0, getV_s, getS_0, getS_s, boolW_bl, bindW_nm, bindW_tp, setAll_c, setAll_n, wp_ok, wp_ex, b_addI, b_subI, b_addS, b_addL, b_mulIl, b_mulIr, b_modI, b_divI, b_mulS, w_negI, a_I, a_S, x_lstI, x_rlsI, b_powT, x_lstI', x_str, x_str', x_strM, x_lstM, x_i2, x_i3, x_i4, x_i5, x_i6, x_i11, x_t0, x_t1, x_t2, x_t3, x_l0, cut_to, cut_from, cut_mid, cut_toN, cut_fromN, c_lt, c_le, c_gt, c_ge, c_eq, c_ne, e_same, e_I, e_S, e_B, c_iz, c_niz, c_inS, c_ninS, c_inP, c_ninP, c_inL, c_ninL, c_inT, c_ninT, k_non, k_bl, k_int, k_lst, k_tup, k_str, ty_w, isBor_n, isBor_c, v_lst, v_tup, v_slcL, v_slcS, v_revL, v_revS, bi_1, bi_2, l_lst, l_rls, l_tup, l_str, i_int, i_bl, li_lst, li_tup, li_str, so_int, so_str, al_bl, an_bl, su_int, al_map, an_map, su_map, ab_int, mi_2, ma_2, gc_2, r_joinS, r_indexS, r_indexL, mt_join, it_lst, it_own, it_tup, it_str, rn_ok, en_str, en_lst, zi_lst, re_lst, mb_fu, mb_fr, mb_sh, mb_bs, mb_bf, h_fu, h_fr, h_sh, h_fl, o_fu, o_sh, g_fu, g_fr, g_sh, g_fl, r_some, ol_sh, ol_fu, ap_sh, ap_fu, pu_sh, un_ok, pa_ok, bm_int, bm_str, pm_fr, pm_sh, pm_bs, pm_fu, pm_bf, cm_fr, cm_fu, cm_sh, cm_bs, callM_fl, callM_nb, rdV_fr, rdV_sh, rdV_fu, norm_fl, norm_lst, norm_nf, fl_non, fl_bl, fl_int, fl_str, fl_tup, fl_lst, fl_rls, fl_dic, flL_n, flL_c, flL_int, flL_str, wipe_n, wipe_c, List.set_cons_zero, List.set_cons_succ, List.set_nil, List.map_cons, List.map_nil, List.length_map, List.length_cons, List.length_nil, List.append_nil, List.nil_append, List.take_succ_cons, List.take_zero, List.drop_succ_cons, List.drop_zero, Nat.zero_add, Nat.reduceAdd, Nat.reduceSub, isNon, optI_n, optI_var, optI_lit, optI_bin, optI_neg, optI_idx, optI_bi, optI_call, optI_gl, optI_mt, bq_t, bq_f, bq_not, bq_yes, bq_no, bq_and, bq_or, Bool.not_true, Bool.not_false, Bool.false_and, Bool.true_and, Bool.and_false, Bool.and_true, Bool.or_false, Bool.false_or, Bool.or_true, Bool.true_or, if_true, if_false, Bool.false_eq_true, true_and, and_true, List.any_cons, List.any_nil, List.isEmpty_cons, List.isEmpty_nil, tB_int_non, tB_int_bl, tB_int_int, tB_int_str, tB_int_lst, tB_int_tup, tB_int_dic, tB_bool_non, tB_bool_bl, tB_bool_int, tB_bool_str, tB_bool_lst, tB_bool_tup, tB_bool_dic, tB_str_non, tB_str_bl, tB_str_int, tB_str_str, tB_str_lst, tB_str_tup, tB_str_dic, tB_list_non, tB_list_bl, tB_list_int, tB_list_str, tB_list_lst, tB_list_tup, tB_list_dic, tB_tuple_non, tB_tuple_bl, tB_tuple_int, tB_tuple_str, tB_tuple_lst, tB_tuple_tup, tB_tuple_dic, tB_dict_non, tB_dict_bl, tB_dict_int, tB_dict_str, tB_dict_lst, tB_dict_tup, tB_dict_dic])
            refine ⟨q15, ?_⟩
            rw [List.isEmpty_map]
            have e : (!(ws.filter (gcd1 m)).isEmpty) = ws.any (gcd1 m) := by
              rw [Bool.eq_iff_iff]; simp [List.isEmpty_iff, List.filter_eq_nil_iff]
            rw [e, show decide (2 ≤ S.length) = true by simp; omega]
            rfl
        · (simp (config := {decide := false}) (disch := first | assumption | omega | (simp only [fl_p60, fl_pl, mb_fu, mb_fr, mb_sh, mb_bs, mb_bf, fl_non, fl_bl, fl_int, fl_str, fl_tup, fl_lst, fl_rls, fl_dic, flL_n, flL_c, flL_int, flL_str, isBor_n, isBor_c, pl_non, pl_bl, pl_int, pl_lst, plL_a, pl_tup, plL_n, plL_c, plL_int, at_non, at_bl, at_int, at_str, co_non, co_bl, co_int, co_str, co_lst, co_tup, List.all_cons, List.all_nil, List.length_cons, List.length_nil, List.length_map, beq_self_eq_true, mkb_shfu, mkb_frfu, Bool.false_and, Bool.true_and, Bool.and_true, Bool.and_false, Bool.and_self, Bool.not_true, Bool.not_false, Bool.or_false, Bool.or_true, Bool.true_or, Bool.false_or, Bool.or_self, ne_eq, reduceCtorEq, not_false_eq_true, not_true_eq_false, List.map_cons, List.map_nil]; done) | (have hSZ : SZ = 16777216 := SZ_w; first | omega | (simp only [List.length_map, List.length_append, List.length_cons, List.length_nil, List.length_reverse, List.length_range, List.length_take, List.length_drop, List.length_replicate] <;> omega))) only [gl, c0, c17, c1, c2, c3, wD, c4, c5, c6, c7, c9, c22, c10, c11, c12, c13, c14, c15, c24, c23, c23, ↓wp_ok, ↓wp_ex, ↓wp_bind, ↓w_var, ↓w_cst, ↓w_gl, ↓w_bin, ↓w_neg, ↓w_cmp, ↓w_chain, ↓w_isN, ↓w_notN, ↓w_and, ↓w_or, ↓w_and1, ↓w_and2, ↓w_or1, ↓w_or2, ↓w_not, ↓w_ite, ↓w_lst, ↓w_tup, ↓w_idx, ↓w_slc, ↓w_rev, ↓w_call, ↓w_bi, ↓w_mt1, ↓w_isi, ↓w_comp, ↓w_dcomp, ↓w_dic0, ↓w_dn, ↓w_dc, ↓t_val, ↓t_cmp, ↓t_chain, ↓t_isN, ↓t_notN, ↓t_not, ↓t_and, ↓t_or, ↓t_and1, ↓t_and2, ↓t_or1, ↓t_or2, ↓ts_n, ↓ts_1, ↓i_val, ↓i_rng1, ↓i_rng2, ↓i_enum, ↓i_zip, ↓i_revd, ↓s_nil, ↓s_cons, ↓s_set, ↓s_own, ↓s_par, ↓s_unp, ↓s_aug, ↓s_apd, ↓s_put, ↓s_exp, ↓s_ret, ↓s_retV, ↓s_retN, ↓s_ite, ↓s_for, ↓s_whl, ↓s_brk, ↓s_cnt, ↓s_pas, ↓s_frz, ↓s_nev, ↓s_mtc, ↓m_nil, ↓m_one, ↓m_two, ↓m_any, ↓ow_nx, ↓ow_bk, ↓ow_ct, ↓ow_rt, iw_non, iw_bl, iw_int, iw_str, iw_lst, iw_tup, iw_dic, iw_obj, iw_exc, iw_rls, getV_0, getV_s, getS_0, getS_s, boolW_bl, bindW_nm, bindW_tp, setAll_c, setAll_n, wp_ok, wp_ex, b_addI, b_subI, b_addS, b_addL, b_mulIl, b_mulIr, b_modI, b_divI, b_mulS, w_negI, a_I, a_S, x_lstI, x_rlsI, b_powT, x_lstI', x_str, x_str', x_strM, x_lstM, x_i2, x_i3, x_i4, x_i5, x_i6, x_i11, x_t0, x_t1, x_t2, x_t3, x_l0, cut_to, cut_from, cut_mid, cut_toN, cut_fromN, c_lt, c_le, c_gt, c_ge, c_eq, c_ne, e_same, e_I, e_S, e_B, c_iz, c_niz, c_inS, c_ninS, c_inP, c_ninP, c_inL, c_ninL, c_inT, c_ninT, k_non, k_bl, k_int, k_lst, k_tup, k_str, ty_w, isBor_n, isBor_c, v_lst, v_tup, v_slcL, v_slcS, v_revL, v_revS, bi_1, bi_2, l_lst, l_rls, l_tup, l_str, i_int, i_bl, li_lst, li_tup, li_str, so_int, so_str, al_bl, an_bl, su_int, al_map, an_map, su_map, ab_int, mi_2, ma_2, gc_2, r_joinS, r_indexS, r_indexL, mt_join, it_lst, it_own, it_tup, it_str, rn_ok, en_str, en_lst, zi_lst, re_lst, mb_fu, mb_fr, mb_sh, mb_bs, mb_bf, h_fu, h_fr, h_sh, h_fl, o_fu, o_sh, g_fu, g_fr, g_sh, g_fl, r_some, ol_sh, ol_fu, ap_sh, ap_fu, pu_sh, un_ok, pa_ok, bm_int, bm_str, pm_fr, pm_sh, pm_bs, pm_fu, pm_bf, cm_fr, cm_fu, cm_sh, cm_bs, callM_fl, callM_nb, rdV_fr, rdV_sh, rdV_fu, norm_fl, norm_lst, norm_nf, fl_non, fl_bl, fl_int, fl_str, fl_tup, fl_lst, fl_rls, fl_dic, flL_n, flL_c, flL_int, flL_str, wipe_n, wipe_c, List.set_cons_zero, List.set_cons_succ, List.set_nil, List.map_cons, List.map_nil, List.length_map, List.length_cons, List.length_nil, List.append_nil, List.nil_append, List.take_succ_cons, List.take_zero, List.drop_succ_cons, List.drop_zero, Nat.zero_add, Nat.reduceAdd, Nat.reduceSub, isNon, optI_n, optI_var, optI_lit, optI_bin, optI_neg, optI_idx, optI_bi, optI_call, optI_gl, optI_mt, bq_t, bq_f, bq_not, bq_yes, bq_no, bq_and, bq_or, Bool.not_true, Bool.not_false, Bool.false_and, Bool.true_and, Bool.and_false, Bool.and_true, Bool.or_false, Bool.false_or, Bool.or_true, Bool.true_or, if_true, if_false, Bool.false_eq_true, true_and, and_true, List.any_cons, List.any_nil, List.isEmpty_cons, List.isEmpty_nil, tB_int_non, tB_int_bl, tB_int_int, tB_int_str, tB_int_lst, tB_int_tup, tB_int_dic, tB_bool_non, tB_bool_bl, tB_bool_int, tB_bool_str, tB_bool_lst, tB_bool_tup, tB_bool_dic, tB_str_non, tB_str_bl, tB_str_int, tB_str_str, tB_str_lst, tB_str_tup, tB_str_dic, tB_list_non, tB_list_bl, tB_list_int, tB_list_str, tB_list_lst, tB_list_tup, tB_list_dic, tB_tuple_non, tB_tuple_bl, tB_tuple_int, tB_tuple_str, tB_tuple_lst, tB_tuple_tup, tB_tuple_dic, tB_dict_non, tB_dict_bl, tB_dict_int, tB_dict_str, tB_dict_lst, tB_dict_tup, tB_dict_dic])
          refine ⟨q15, ?_⟩
          rw [show decide (2 ≤ S.length) = false by simp; omega]
          rfl
      · rintro E ⟨q15, rfl⟩
        (simp (config := {decide := false}) (disch := first | assumption | omega | (simp only [fl_p60, fl_pl, mb_fu, mb_fr, mb_sh, mb_bs, mb_bf, fl_non, fl_bl, fl_int, fl_str, fl_tup, fl_lst, fl_rls, fl_dic, flL_n, flL_c, flL_int, flL_str, isBor_n, isBor_c, pl_non, pl_bl, pl_int, pl_lst, plL_a, pl_tup, plL_n, plL_c, plL_int, at_non, at_bl, at_int, at_str, co_non, co_bl, co_int, co_str, co_lst, co_tup, List.all_cons, List.all_nil, List.length_cons, List.length_nil, List.length_map, beq_self_eq_true, mkb_shfu, mkb_frfu, Bool.false_and, Bool.true_and, Bool.and_true, Bool.and_false, Bool.and_self, Bool.not_true, Bool.not_false, Bool.or_false, Bool.or_true, Bool.true_or, Bool.false_or, Bool.or_self, ne_eq, reduceCtorEq, not_false_eq_true, not_true_eq_false, List.map_cons, List.map_nil]; done) | (have hSZ : SZ = 16777216 := SZ_w; first | omega | (simp only [List.length_map, List.length_append, List.length_cons, List.length_nil, List.length_reverse, List.length_range, List.length_take, List.length_drop, List.length_replicate] <;> omega))) only [gl, c0, c17, c1, c2, c3, wD, c4, c5, c6, c7, c9, c22, c10, c11, c12, c13, c14, c15, c24, c23, c23, ↓wp_ok, ↓wp_ex, ↓wp_bind, ↓w_var, ↓w_cst, ↓w_gl, ↓w_bin, ↓w_neg, ↓w_cmp, ↓w_chain, ↓w_isN, ↓w_notN, ↓w_and, ↓w_or, ↓w_and1, ↓w_and2, ↓w_or1, ↓w_or2, ↓w_not, ↓w_ite, ↓w_lst, ↓w_tup, ↓w_idx, ↓w_slc, ↓w_rev, ↓w_call, ↓w_bi, ↓w_mt1, ↓w_isi, ↓w_comp, ↓w_dcomp, ↓w_dic0, ↓w_dn, ↓w_dc, ↓t_val, ↓t_cmp, ↓t_chain, ↓t_isN, ↓t_notN, ↓t_not, ↓t_and, ↓t_or, ↓t_and1, ↓t_and2, ↓t_or1, ↓t_or2, ↓ts_n, ↓ts_1, ↓i_val, ↓i_rng1, ↓i_rng2, ↓i_enum, ↓i_zip, ↓i_revd, ↓s_nil, ↓s_cons, ↓s_set, ↓s_own, ↓s_par, ↓s_unp, ↓s_aug, ↓s_apd, ↓s_put, ↓s_exp, ↓s_ret, ↓s_retV, ↓s_retN, ↓s_ite, ↓s_for, ↓s_whl, ↓s_brk, ↓s_cnt, ↓s_pas, ↓s_frz, ↓s_nev, ↓s_mtc, ↓m_nil, ↓m_one, ↓m_two, ↓m_any, ↓ow_nx, ↓ow_bk, ↓ow_ct, ↓ow_rt, iw_non, iw_bl, iw_int, iw_str, iw_lst, iw_tup, iw_dic, iw_obj, iw_exc, iw_rls, getV_0, getV_s, getS_0, getS_s, boolW_bl, bindW_nm, bindW_tp, setAll_c, setAll_n, wp_ok, wp_ex, b_addI, b_subI, b_addS, b_addL, b_mulIl, b_mulIr, b_modI, b_divI, b_mulS, w_negI, a_I, a_S, x_lstI, x_rlsI, b_powT, x_lstI', x_str, x_str', x_strM, x_lstM, x_i2, x_i3, x_i4, x_i5, x_i6, x_i11, x_t0, x_t1, x_t2, x_t3, x_l0, cut_to, cut_from, cut_mid, cut_toN, cut_fromN, c_lt, c_le, c_gt, c_ge, c_eq, c_ne, e_same, e_I, e_S, e_B, c_iz, c_niz, c_inS, c_ninS, c_inP, c_ninP, c_inL, c_ninL, c_inT, c_ninT, k_non, k_bl, k_int, k_lst, k_tup, k_str, ty_w, isBor_n, isBor_c, v_lst, v_tup, v_slcL, v_slcS, v_revL, v_revS, bi_1, bi_2, l_lst, l_rls, l_tup, l_str, i_int, i_bl, li_lst, li_tup, li_str, so_int, so_str, al_bl, an_bl, su_int, al_map, an_map, su_map, ab_int, mi_2, ma_2, gc_2, r_joinS, r_indexS, r_indexL, mt_join, it_lst, it_own, it_tup, it_str, rn_ok, en_str, en_lst, zi_lst, re_lst, mb_fu, mb_fr, mb_sh, mb_bs, mb_bf, h_fu, h_fr, h_sh, h_fl, o_fu, o_sh, g_fu, g_fr, g_sh, g_fl, r_some, ol_sh, ol_fu, ap_sh, ap_fu, pu_sh, un_ok, pa_ok, bm_int, bm_str, pm_fr, pm_sh, pm_bs, pm_fu, pm_bf, cm_fr, cm_fu, cm_sh, cm_bs, callM_fl, callM_nb, rdV_fr, rdV_sh, rdV_fu, norm_fl, norm_lst, norm_nf, fl_non, fl_bl, fl_int, fl_str, fl_tup, fl_lst, fl_rls, fl_dic, flL_n, flL_c, flL_int, flL_str, wipe_n, wipe_c, List.set_cons_zero, List.set_cons_succ, List.set_nil, List.map_cons, List.map_nil, List.length_map, List.length_cons, List.length_nil, List.append_nil, List.nil_append, List.take_succ_cons, List.take_zero, List.drop_succ_cons, List.drop_zero, Nat.zero_add, Nat.reduceAdd, Nat.reduceSub, isNon, optI_n, optI_var, optI_lit, optI_bin, optI_neg, optI_idx, optI_bi, optI_call, optI_gl, optI_mt, bq_t, bq_f, bq_not, bq_yes, bq_no, bq_and, bq_or, Bool.not_true, Bool.not_false, Bool.false_and, Bool.true_and, Bool.and_false, Bool.and_true, Bool.or_false, Bool.false_or, Bool.or_true, Bool.true_or, if_true, if_false, Bool.false_eq_true, true_and, and_true, List.any_cons, List.any_nil, List.isEmpty_cons, List.isEmpty_nil, tB_int_non, tB_int_bl, tB_int_int, tB_int_str, tB_int_lst, tB_int_tup, tB_int_dic, tB_bool_non, tB_bool_bl, tB_bool_int, tB_bool_str, tB_bool_lst, tB_bool_tup, tB_bool_dic, tB_str_non, tB_str_bl, tB_str_int, tB_str_str, tB_str_lst, tB_str_tup, tB_str_dic, tB_list_non, tB_list_bl, tB_list_int, tB_list_str, tB_list_lst, tB_list_tup, tB_list_dic, tB_tuple_non, tB_tuple_bl, tB_tuple_int, tB_tuple_str, tB_tuple_lst, tB_tuple_tup, tB_tuple_dic, tB_dict_non, tB_dict_bl, tB_dict_int, tB_dict_str, tB_dict_lst, tB_dict_tup, tB_dict_dic])
        rw [show [D.str [111, 110, 101], D.str [115, 119, 97, 112], D.str [116, 119, 105, 110], D.str [106, 117, 109, 112], D.str [115, 112, 97, 110]] = kds.map D.str from rfl]
        generalize hKK : kds = KK
        let I : List (List Nat) → Ev → Prop := fun _ E => ∃ (q6 q7 q10 q11 q12 q13 q14 q15 q16 : Slot), E = [some (.fr, .rls (ns.map .int)), q1, some (.fr, .str S), some (.fr, wD m ws), some (.fr, .lst (l.map .int)), some (.fr, .bl (decide (2 ≤ S.length) && ws.any (gcd1 m))), q6, q7, some (.fr, .int m), some (.fr, .lst (ws.map .int)), q10, q11, q12, q13, q14, q15, q16]
        refine for_map (f := D.str) I ?_ ?_ ?_
        · exact ⟨_, _, _, _, _, _, _, _, _, rfl⟩
        · rintro pre kd post E hk ⟨q6, q7, q10, q11, q12, q13, q14, q15, q16, rfl⟩
          have hkd : kd ∈ kds := by rw [hKK, hk]; simp
          have hlen := flF_len S.length m ws kd (by omega) ws.length
          have c13' := fun n => c13 n S m ws kd hw ⟨hS1, by omega⟩ hkd
          (simp (config := {decide := false}) (disch := first | assumption | omega | (simp only [fl_p60, fl_pl, mb_fu, mb_fr, mb_sh, mb_bs, mb_bf, fl_non, fl_bl, fl_int, fl_str, fl_tup, fl_lst, fl_rls, fl_dic, flL_n, flL_c, flL_int, flL_str, isBor_n, isBor_c, pl_non, pl_bl, pl_int, pl_lst, plL_a, pl_tup, plL_n, plL_c, plL_int, at_non, at_bl, at_int, at_str, co_non, co_bl, co_int, co_str, co_lst, co_tup, List.all_cons, List.all_nil, List.length_cons, List.length_nil, List.length_map, beq_self_eq_true, mkb_shfu, mkb_frfu, Bool.false_and, Bool.true_and, Bool.and_true, Bool.and_false, Bool.and_self, Bool.not_true, Bool.not_false, Bool.or_false, Bool.or_true, Bool.true_or, Bool.false_or, Bool.or_self, ne_eq, reduceCtorEq, not_false_eq_true, not_true_eq_false, List.map_cons, List.map_nil]; done) | (have hSZ : SZ = 16777216 := SZ_w; first | omega | (simp only [List.length_map, List.length_append, List.length_cons, List.length_nil, List.length_reverse, List.length_range, List.length_take, List.length_drop, List.length_replicate] <;> omega))) only [gl, c0, c17, c1, c2, c3, wD, c4, c5, c6, c7, c9, c22, c10, c11, c12, c13, c14, c15, c24, c23, c23, ↓wp_ok, ↓wp_ex, ↓wp_bind, ↓w_var, ↓w_cst, ↓w_gl, ↓w_bin, ↓w_neg, ↓w_cmp, ↓w_chain, ↓w_isN, ↓w_notN, ↓w_and, ↓w_or, ↓w_and1, ↓w_and2, ↓w_or1, ↓w_or2, ↓w_not, ↓w_ite, ↓w_lst, ↓w_tup, ↓w_idx, ↓w_slc, ↓w_rev, ↓w_call, ↓w_bi, ↓w_mt1, ↓w_isi, ↓w_comp, ↓w_dcomp, ↓w_dic0, ↓w_dn, ↓w_dc, ↓t_val, ↓t_cmp, ↓t_chain, ↓t_isN, ↓t_notN, ↓t_not, ↓t_and, ↓t_or, ↓t_and1, ↓t_and2, ↓t_or1, ↓t_or2, ↓ts_n, ↓ts_1, ↓i_val, ↓i_rng1, ↓i_rng2, ↓i_enum, ↓i_zip, ↓i_revd, ↓s_nil, ↓s_cons, ↓s_set, ↓s_own, ↓s_par, ↓s_unp, ↓s_aug, ↓s_apd, ↓s_put, ↓s_exp, ↓s_ret, ↓s_retV, ↓s_retN, ↓s_ite, ↓s_for, ↓s_whl, ↓s_brk, ↓s_cnt, ↓s_pas, ↓s_frz, ↓s_nev, ↓s_mtc, ↓m_nil, ↓m_one, ↓m_two, ↓m_any, ↓ow_nx, ↓ow_bk, ↓ow_ct, ↓ow_rt, iw_non, iw_bl, iw_int, iw_str, iw_lst, iw_tup, iw_dic, iw_obj, iw_exc, iw_rls, getV_0, getV_s, getS_0, getS_s, boolW_bl, bindW_nm, bindW_tp, setAll_c, setAll_n, wp_ok, wp_ex, b_addI, b_subI, b_addS, b_addL, b_mulIl, b_mulIr, b_modI, b_divI, b_mulS, w_negI, a_I, a_S, x_lstI, x_rlsI, b_powT, x_lstI', x_str, x_str', x_strM, x_lstM, x_i2, x_i3, x_i4, x_i5, x_i6, x_i11, x_t0, x_t1, x_t2, x_t3, x_l0, cut_to, cut_from, cut_mid, cut_toN, cut_fromN, c_lt, c_le, c_gt, c_ge, c_eq, c_ne, e_same, e_I, e_S, e_B, c_iz, c_niz, c_inS, c_ninS, c_inP, c_ninP, c_inL, c_ninL, c_inT, c_ninT, k_non, k_bl, k_int, k_lst, k_tup, k_str, ty_w, isBor_n, isBor_c, v_lst, v_tup, v_slcL, v_slcS, v_revL, v_revS, bi_1, bi_2, l_lst, l_rls, l_tup, l_str, i_int, i_bl, li_lst, li_tup, li_str, so_int, so_str, al_bl, an_bl, su_int, al_map, an_map, su_map, ab_int, mi_2, ma_2, gc_2, r_joinS, r_indexS, r_indexL, mt_join, it_lst, it_own, it_tup, it_str, rn_ok, en_str, en_lst, zi_lst, re_lst, mb_fu, mb_fr, mb_sh, mb_bs, mb_bf, h_fu, h_fr, h_sh, h_fl, o_fu, o_sh, g_fu, g_fr, g_sh, g_fl, r_some, ol_sh, ol_fu, ap_sh, ap_fu, pu_sh, un_ok, pa_ok, bm_int, bm_str, pm_fr, pm_sh, pm_bs, pm_fu, pm_bf, cm_fr, cm_fu, cm_sh, cm_bs, callM_fl, callM_nb, rdV_fr, rdV_sh, rdV_fu, norm_fl, norm_lst, norm_nf, fl_non, fl_bl, fl_int, fl_str, fl_tup, fl_lst, fl_rls, fl_dic, flL_n, flL_c, flL_int, flL_str, wipe_n, wipe_c, List.set_cons_zero, List.set_cons_succ, List.set_nil, List.map_cons, List.map_nil, List.length_map, List.length_cons, List.length_nil, List.append_nil, List.nil_append, List.take_succ_cons, List.take_zero, List.drop_succ_cons, List.drop_zero, Nat.zero_add, Nat.reduceAdd, Nat.reduceSub, isNon, optI_n, optI_var, optI_lit, optI_bin, optI_neg, optI_idx, optI_bi, optI_call, optI_gl, optI_mt, bq_t, bq_f, bq_not, bq_yes, bq_no, bq_and, bq_or, Bool.not_true, Bool.not_false, Bool.false_and, Bool.true_and, Bool.and_false, Bool.and_true, Bool.or_false, Bool.false_or, Bool.or_true, Bool.true_or, if_true, if_false, Bool.false_eq_true, true_and, and_true, List.any_cons, List.any_nil, List.isEmpty_cons, List.isEmpty_nil, tB_int_non, tB_int_bl, tB_int_int, tB_int_str, tB_int_lst, tB_int_tup, tB_int_dic, tB_bool_non, tB_bool_bl, tB_bool_int, tB_bool_str, tB_bool_lst, tB_bool_tup, tB_bool_dic, tB_str_non, tB_str_bl, tB_str_int, tB_str_str, tB_str_lst, tB_str_tup, tB_str_dic, tB_list_non, tB_list_bl, tB_list_int, tB_list_str, tB_list_lst, tB_list_tup, tB_list_dic, tB_tuple_non, tB_tuple_bl, tB_tuple_int, tB_tuple_str, tB_tuple_lst, tB_tuple_tup, tB_tuple_dic, tB_dict_non, tB_dict_bl, tB_dict_int, tB_dict_str, tB_dict_lst, tB_dict_tup, tB_dict_dic])
          refine for_rng (fun i E => ∃ q6 q11 q13 q16, (i = 0 ∨ q13 = some (.fr, wD m ws)) ∧ E = [some (.fr, .rls (ns.map .int)), q1, some (.fr, .str S), some (.fr, wD m ws), some (.fr, .lst (l.map .int)), some (.fr, .bl (decide (2 ≤ S.length) && ws.any (gcd1 m))), q6, some (.fr, .str kd), some (.fr, .int m), some (.fr, .lst (ws.map .int)), some (.fr, .lst ((flF S.length m ws kd ws.length).map pr)), q11, q12, q13, q14, q15, q16]) ⟨_, _, _, _, .inl rfl, rfl⟩ ?_ ?_
          · rintro j E j1 j2 ⟨q6, q11, q13, q16, _, rfl⟩
            (simp (config := {decide := false}) (disch := first | assumption | omega | (simp only [fl_p60, fl_pl, mb_fu, mb_fr, mb_sh, mb_bs, mb_bf, fl_non, fl_bl, fl_int, fl_str, fl_tup, fl_lst, fl_rls, fl_dic, flL_n, flL_c, flL_int, flL_str, isBor_n, isBor_c, pl_non, pl_bl, pl_int, pl_lst, plL_a, pl_tup, plL_n, plL_c, plL_int, at_non, at_bl, at_int, at_str, co_non, co_bl, co_int, co_str, co_lst, co_tup, List.all_cons, List.all_nil, List.length_cons, List.length_nil, List.length_map, beq_self_eq_true, mkb_shfu, mkb_frfu, Bool.false_and, Bool.true_and, Bool.and_true, Bool.and_false, Bool.and_self, Bool.not_true, Bool.not_false, Bool.or_false, Bool.or_true, Bool.true_or, Bool.false_or, Bool.or_self, ne_eq, reduceCtorEq, not_false_eq_true, not_true_eq_false, List.map_cons, List.map_nil]; done) | (have hSZ : SZ = 16777216 := SZ_w; first | omega | (simp only [List.length_map, List.length_append, List.length_cons, List.length_nil, List.length_reverse, List.length_range, List.length_take, List.length_drop, List.length_replicate] <;> omega))) only [gl, c0, c17, c1, c2, c3, wD, c4, c5, c6, c7, c9, c22, c10, c11, c12, c13, c14, c15, c24, c23, c23, c13', ↓wp_ok, ↓wp_ex, ↓wp_bind, ↓w_var, ↓w_cst, ↓w_gl, ↓w_bin, ↓w_neg, ↓w_cmp, ↓w_chain, ↓w_isN, ↓w_notN, ↓w_and, ↓w_or, ↓w_and1, ↓w_and2, ↓w_or1, ↓w_or2, ↓w_not, ↓w_ite, ↓w_lst, ↓w_tup, ↓w_idx, ↓w_slc, ↓w_rev, ↓w_call, ↓w_bi, ↓w_mt1, ↓w_isi, ↓w_comp, ↓w_dcomp, ↓w_dic0, ↓w_dn, ↓w_dc, ↓t_val, ↓t_cmp, ↓t_chain, ↓t_isN, ↓t_notN, ↓t_not, ↓t_and, ↓t_or, ↓t_and1, ↓t_and2, ↓t_or1, ↓t_or2, ↓ts_n, ↓ts_1, ↓i_val, ↓i_rng1, ↓i_rng2, ↓i_enum, ↓i_zip, ↓i_revd, ↓s_nil, ↓s_cons, ↓s_set, ↓s_own, ↓s_par, ↓s_unp, ↓s_aug, ↓s_apd, ↓s_put, ↓s_exp, ↓s_ret, ↓s_retV, ↓s_retN, ↓s_ite, ↓s_for, ↓s_whl, ↓s_brk, ↓s_cnt, ↓s_pas, ↓s_frz, ↓s_nev, ↓s_mtc, ↓m_nil, ↓m_one, ↓m_two, ↓m_any, ↓ow_nx, ↓ow_bk, ↓ow_ct, ↓ow_rt, iw_non, iw_bl, iw_int, iw_str, iw_lst, iw_tup, iw_dic, iw_obj, iw_exc, iw_rls, getV_0, getV_s, getS_0, getS_s, boolW_bl, bindW_nm, bindW_tp, setAll_c, setAll_n, wp_ok, wp_ex, b_addI, b_subI, b_addS, b_addL, b_mulIl, b_mulIr, b_modI, b_divI, b_mulS, w_negI, a_I, a_S, x_lstI, x_rlsI, b_powT, x_lstI', x_str, x_str', x_strM, x_lstM, x_i2, x_i3, x_i4, x_i5, x_i6, x_i11, x_t0, x_t1, x_t2, x_t3, x_l0, cut_to, cut_from, cut_mid, cut_toN, cut_fromN, c_lt, c_le, c_gt, c_ge, c_eq, c_ne, e_same, e_I, e_S, e_B, c_iz, c_niz, c_inS, c_ninS, c_inP, c_ninP, c_inL, c_ninL, c_inT, c_ninT, k_non, k_bl, k_int, k_lst, k_tup, k_str, ty_w, isBor_n, isBor_c, v_lst, v_tup, v_slcL, v_slcS, v_revL, v_revS, bi_1, bi_2, l_lst, l_rls, l_tup, l_str, i_int, i_bl, li_lst, li_tup, li_str, so_int, so_str, al_bl, an_bl, su_int, al_map, an_map, su_map, ab_int, mi_2, ma_2, gc_2, r_joinS, r_indexS, r_indexL, mt_join, it_lst, it_own, it_tup, it_str, rn_ok, en_str, en_lst, zi_lst, re_lst, mb_fu, mb_fr, mb_sh, mb_bs, mb_bf, h_fu, h_fr, h_sh, h_fl, o_fu, o_sh, g_fu, g_fr, g_sh, g_fl, r_some, ol_sh, ol_fu, ap_sh, ap_fu, pu_sh, un_ok, pa_ok, bm_int, bm_str, pm_fr, pm_sh, pm_bs, pm_fu, pm_bf, cm_fr, cm_fu, cm_sh, cm_bs, callM_fl, callM_nb, rdV_fr, rdV_sh, rdV_fu, norm_fl, norm_lst, norm_nf, fl_non, fl_bl, fl_int, fl_str, fl_tup, fl_lst, fl_rls, fl_dic, flL_n, flL_c, flL_int, flL_str, wipe_n, wipe_c, List.set_cons_zero, List.set_cons_succ, List.set_nil, List.map_cons, List.map_nil, List.length_map, List.length_cons, List.length_nil, List.append_nil, List.nil_append, List.take_succ_cons, List.take_zero, List.drop_succ_cons, List.drop_zero, Nat.zero_add, Nat.reduceAdd, Nat.reduceSub, isNon, optI_n, optI_var, optI_lit, optI_bin, optI_neg, optI_idx, optI_bi, optI_call, optI_gl, optI_mt, bq_t, bq_f, bq_not, bq_yes, bq_no, bq_and, bq_or, Bool.not_true, Bool.not_false, Bool.false_and, Bool.true_and, Bool.and_false, Bool.and_true, Bool.or_false, Bool.false_or, Bool.or_true, Bool.true_or, if_true, if_false, Bool.false_eq_true, true_and, and_true, List.any_cons, List.any_nil, List.isEmpty_cons, List.isEmpty_nil, tB_int_non, tB_int_bl, tB_int_int, tB_int_str, tB_int_lst, tB_int_tup, tB_int_dic, tB_bool_non, tB_bool_bl, tB_bool_int, tB_bool_str, tB_bool_lst, tB_bool_tup, tB_bool_dic, tB_str_non, tB_str_bl, tB_str_int, tB_str_str, tB_str_lst, tB_str_tup, tB_str_dic, tB_list_non, tB_list_bl, tB_list_int, tB_list_str, tB_list_lst, tB_list_tup, tB_list_dic, tB_tuple_non, tB_tuple_bl, tB_tuple_int, tB_tuple_str, tB_tuple_lst, tB_tuple_tup, tB_tuple_dic, tB_dict_non, tB_dict_bl, tB_dict_int, tB_dict_str, tB_dict_lst, tB_dict_tup, tB_dict_dic])
            refine v_comp pr (fun _ => false) pr ?_ (fun x hx => ?_) ?_
            · omega
            · unfold pr
              (simp (config := {decide := false}) (disch := first | assumption | omega | (simp only [fl_p60, fl_pl, mb_fu, mb_fr, mb_sh, mb_bs, mb_bf, fl_non, fl_bl, fl_int, fl_str, fl_tup, fl_lst, fl_rls, fl_dic, flL_n, flL_c, flL_int, flL_str, isBor_n, isBor_c, pl_non, pl_bl, pl_int, pl_lst, plL_a, pl_tup, plL_n, plL_c, plL_int, at_non, at_bl, at_int, at_str, co_non, co_bl, co_int, co_str, co_lst, co_tup, List.all_cons, List.all_nil, List.length_cons, List.length_nil, List.length_map, beq_self_eq_true, mkb_shfu, mkb_frfu, Bool.false_and, Bool.true_and, Bool.and_true, Bool.and_false, Bool.and_self, Bool.not_true, Bool.not_false, Bool.or_false, Bool.or_true, Bool.true_or, Bool.false_or, Bool.or_self, ne_eq, reduceCtorEq, not_false_eq_true, not_true_eq_false, List.map_cons, List.map_nil]; done) | (have hSZ : SZ = 16777216 := SZ_w; first | omega | (simp only [List.length_map, List.length_append, List.length_cons, List.length_nil, List.length_reverse, List.length_range, List.length_take, List.length_drop, List.length_replicate] <;> omega))) only [gl, c0, c17, c1, c2, c3, wD, c4, c5, c6, c7, c9, c22, c10, c11, c12, c13, c14, c15, c24, c23, c23, ↓wp_ok, ↓wp_ex, ↓wp_bind, ↓w_var, ↓w_cst, ↓w_gl, ↓w_bin, ↓w_neg, ↓w_cmp, ↓w_chain, ↓w_isN, ↓w_notN, ↓w_and, ↓w_or, ↓w_and1, ↓w_and2, ↓w_or1, ↓w_or2, ↓w_not, ↓w_ite, ↓w_lst, ↓w_tup, ↓w_idx, ↓w_slc, ↓w_rev, ↓w_call, ↓w_bi, ↓w_mt1, ↓w_isi, ↓w_comp, ↓w_dcomp, ↓w_dic0, ↓w_dn, ↓w_dc, ↓t_val, ↓t_cmp, ↓t_chain, ↓t_isN, ↓t_notN, ↓t_not, ↓t_and, ↓t_or, ↓t_and1, ↓t_and2, ↓t_or1, ↓t_or2, ↓ts_n, ↓ts_1, ↓i_val, ↓i_rng1, ↓i_rng2, ↓i_enum, ↓i_zip, ↓i_revd, ↓s_nil, ↓s_cons, ↓s_set, ↓s_own, ↓s_par, ↓s_unp, ↓s_aug, ↓s_apd, ↓s_put, ↓s_exp, ↓s_ret, ↓s_retV, ↓s_retN, ↓s_ite, ↓s_for, ↓s_whl, ↓s_brk, ↓s_cnt, ↓s_pas, ↓s_frz, ↓s_nev, ↓s_mtc, ↓m_nil, ↓m_one, ↓m_two, ↓m_any, ↓ow_nx, ↓ow_bk, ↓ow_ct, ↓ow_rt, iw_non, iw_bl, iw_int, iw_str, iw_lst, iw_tup, iw_dic, iw_obj, iw_exc, iw_rls, getV_0, getV_s, getS_0, getS_s, boolW_bl, bindW_nm, bindW_tp, setAll_c, setAll_n, wp_ok, wp_ex, b_addI, b_subI, b_addS, b_addL, b_mulIl, b_mulIr, b_modI, b_divI, b_mulS, w_negI, a_I, a_S, x_lstI, x_rlsI, b_powT, x_lstI', x_str, x_str', x_strM, x_lstM, x_i2, x_i3, x_i4, x_i5, x_i6, x_i11, x_t0, x_t1, x_t2, x_t3, x_l0, cut_to, cut_from, cut_mid, cut_toN, cut_fromN, c_lt, c_le, c_gt, c_ge, c_eq, c_ne, e_same, e_I, e_S, e_B, c_iz, c_niz, c_inS, c_ninS, c_inP, c_ninP, c_inL, c_ninL, c_inT, c_ninT, k_non, k_bl, k_int, k_lst, k_tup, k_str, ty_w, isBor_n, isBor_c, v_lst, v_tup, v_slcL, v_slcS, v_revL, v_revS, bi_1, bi_2, l_lst, l_rls, l_tup, l_str, i_int, i_bl, li_lst, li_tup, li_str, so_int, so_str, al_bl, an_bl, su_int, al_map, an_map, su_map, ab_int, mi_2, ma_2, gc_2, r_joinS, r_indexS, r_indexL, mt_join, it_lst, it_own, it_tup, it_str, rn_ok, en_str, en_lst, zi_lst, re_lst, mb_fu, mb_fr, mb_sh, mb_bs, mb_bf, h_fu, h_fr, h_sh, h_fl, o_fu, o_sh, g_fu, g_fr, g_sh, g_fl, r_some, ol_sh, ol_fu, ap_sh, ap_fu, pu_sh, un_ok, pa_ok, bm_int, bm_str, pm_fr, pm_sh, pm_bs, pm_fu, pm_bf, cm_fr, cm_fu, cm_sh, cm_bs, callM_fl, callM_nb, rdV_fr, rdV_sh, rdV_fu, norm_fl, norm_lst, norm_nf, fl_non, fl_bl, fl_int, fl_str, fl_tup, fl_lst, fl_rls, fl_dic, flL_n, flL_c, flL_int, flL_str, wipe_n, wipe_c, List.set_cons_zero, List.set_cons_succ, List.set_nil, List.map_cons, List.map_nil, List.length_map, List.length_cons, List.length_nil, List.append_nil, List.nil_append, List.take_succ_cons, List.take_zero, List.drop_succ_cons, List.drop_zero, Nat.zero_add, Nat.reduceAdd, Nat.reduceSub, isNon, optI_n, optI_var, optI_lit, optI_bin, optI_neg, optI_idx, optI_bi, optI_call, optI_gl, optI_mt, bq_t, bq_f, bq_not, bq_yes, bq_no, bq_and, bq_or, Bool.not_true, Bool.not_false, Bool.false_and, Bool.true_and, Bool.and_false, Bool.and_true, Bool.or_false, Bool.false_or, Bool.or_true, Bool.true_or, if_true, if_false, Bool.false_eq_true, true_and, and_true, List.any_cons, List.any_nil, List.isEmpty_cons, List.isEmpty_nil, tB_int_non, tB_int_bl, tB_int_int, tB_int_str, tB_int_lst, tB_int_tup, tB_int_dic, tB_bool_non, tB_bool_bl, tB_bool_int, tB_bool_str, tB_bool_lst, tB_bool_tup, tB_bool_dic, tB_str_non, tB_str_bl, tB_str_int, tB_str_str, tB_str_lst, tB_str_tup, tB_str_dic, tB_list_non, tB_list_bl, tB_list_int, tB_list_str, tB_list_lst, tB_list_tup, tB_list_dic, tB_tuple_non, tB_tuple_bl, tB_tuple_int, tB_tuple_str, tB_tuple_lst, tB_tuple_tup, tB_tuple_dic, tB_dict_non, tB_dict_bl, tB_dict_int, tB_dict_str, tB_dict_lst, tB_dict_tup, tB_dict_dic])
              exact fun _ => trivial
            · have ef : (flF S.length m ws kd ws.length).filter (fun _ => false) = [] := by simp
              (simp (config := {decide := false}) (disch := first | assumption | omega | (simp only [fl_p60, fl_pl, mb_fu, mb_fr, mb_sh, mb_bs, mb_bf, fl_non, fl_bl, fl_int, fl_str, fl_tup, fl_lst, fl_rls, fl_dic, flL_n, flL_c, flL_int, flL_str, isBor_n, isBor_c, pl_non, pl_bl, pl_int, pl_lst, plL_a, pl_tup, plL_n, plL_c, plL_int, at_non, at_bl, at_int, at_str, co_non, co_bl, co_int, co_str, co_lst, co_tup, List.all_cons, List.all_nil, List.length_cons, List.length_nil, List.length_map, beq_self_eq_true, mkb_shfu, mkb_frfu, Bool.false_and, Bool.true_and, Bool.and_true, Bool.and_false, Bool.and_self, Bool.not_true, Bool.not_false, Bool.or_false, Bool.or_true, Bool.true_or, Bool.false_or, Bool.or_self, ne_eq, reduceCtorEq, not_false_eq_true, not_true_eq_false, List.map_cons, List.map_nil]; done) | (have hSZ : SZ = 16777216 := SZ_w; first | omega | (simp only [List.length_map, List.length_append, List.length_cons, List.length_nil, List.length_reverse, List.length_range, List.length_take, List.length_drop, List.length_replicate] <;> omega))) only [gl, c0, c17, c1, c2, c3, wD, c4, c5, c6, c7, c9, c22, c10, c11, c12, c13, c14, c15, c24, c23, c23, ef, eqv_nil, e_P, ↓wp_ok, ↓wp_ex, ↓wp_bind, ↓w_var, ↓w_cst, ↓w_gl, ↓w_bin, ↓w_neg, ↓w_cmp, ↓w_chain, ↓w_isN, ↓w_notN, ↓w_and, ↓w_or, ↓w_and1, ↓w_and2, ↓w_or1, ↓w_or2, ↓w_not, ↓w_ite, ↓w_lst, ↓w_tup, ↓w_idx, ↓w_slc, ↓w_rev, ↓w_call, ↓w_bi, ↓w_mt1, ↓w_isi, ↓w_comp, ↓w_dcomp, ↓w_dic0, ↓w_dn, ↓w_dc, ↓t_val, ↓t_cmp, ↓t_chain, ↓t_isN, ↓t_notN, ↓t_not, ↓t_and, ↓t_or, ↓t_and1, ↓t_and2, ↓t_or1, ↓t_or2, ↓ts_n, ↓ts_1, ↓i_val, ↓i_rng1, ↓i_rng2, ↓i_enum, ↓i_zip, ↓i_revd, ↓s_nil, ↓s_cons, ↓s_set, ↓s_own, ↓s_par, ↓s_unp, ↓s_aug, ↓s_apd, ↓s_put, ↓s_exp, ↓s_ret, ↓s_retV, ↓s_retN, ↓s_ite, ↓s_for, ↓s_whl, ↓s_brk, ↓s_cnt, ↓s_pas, ↓s_frz, ↓s_nev, ↓s_mtc, ↓m_nil, ↓m_one, ↓m_two, ↓m_any, ↓ow_nx, ↓ow_bk, ↓ow_ct, ↓ow_rt, iw_non, iw_bl, iw_int, iw_str, iw_lst, iw_tup, iw_dic, iw_obj, iw_exc, iw_rls, getV_0, getV_s, getS_0, getS_s, boolW_bl, bindW_nm, bindW_tp, setAll_c, setAll_n, wp_ok, wp_ex, b_addI, b_subI, b_addS, b_addL, b_mulIl, b_mulIr, b_modI, b_divI, b_mulS, w_negI, a_I, a_S, x_lstI, x_rlsI, b_powT, x_lstI', x_str, x_str', x_strM, x_lstM, x_i2, x_i3, x_i4, x_i5, x_i6, x_i11, x_t0, x_t1, x_t2, x_t3, x_l0, cut_to, cut_from, cut_mid, cut_toN, cut_fromN, c_lt, c_le, c_gt, c_ge, c_eq, c_ne, e_same, e_I, e_S, e_B, c_iz, c_niz, c_inS, c_ninS, c_inP, c_ninP, c_inL, c_ninL, c_inT, c_ninT, k_non, k_bl, k_int, k_lst, k_tup, k_str, ty_w, isBor_n, isBor_c, v_lst, v_tup, v_slcL, v_slcS, v_revL, v_revS, bi_1, bi_2, l_lst, l_rls, l_tup, l_str, i_int, i_bl, li_lst, li_tup, li_str, so_int, so_str, al_bl, an_bl, su_int, al_map, an_map, su_map, ab_int, mi_2, ma_2, gc_2, r_joinS, r_indexS, r_indexL, mt_join, it_lst, it_own, it_tup, it_str, rn_ok, en_str, en_lst, zi_lst, re_lst, mb_fu, mb_fr, mb_sh, mb_bs, mb_bf, h_fu, h_fr, h_sh, h_fl, o_fu, o_sh, g_fu, g_fr, g_sh, g_fl, r_some, ol_sh, ol_fu, ap_sh, ap_fu, pu_sh, un_ok, pa_ok, bm_int, bm_str, pm_fr, pm_sh, pm_bs, pm_fu, pm_bf, cm_fr, cm_fu, cm_sh, cm_bs, callM_fl, callM_nb, rdV_fr, rdV_sh, rdV_fu, norm_fl, norm_lst, norm_nf, fl_non, fl_bl, fl_int, fl_str, fl_tup, fl_lst, fl_rls, fl_dic, flL_n, flL_c, flL_int, flL_str, wipe_n, wipe_c, List.set_cons_zero, List.set_cons_succ, List.set_nil, List.map_cons, List.map_nil, List.length_map, List.length_cons, List.length_nil, List.append_nil, List.nil_append, List.take_succ_cons, List.take_zero, List.drop_succ_cons, List.drop_zero, Nat.zero_add, Nat.reduceAdd, Nat.reduceSub, isNon, optI_n, optI_var, optI_lit, optI_bin, optI_neg, optI_idx, optI_bi, optI_call, optI_gl, optI_mt, bq_t, bq_f, bq_not, bq_yes, bq_no, bq_and, bq_or, Bool.not_true, Bool.not_false, Bool.false_and, Bool.true_and, Bool.and_false, Bool.and_true, Bool.or_false, Bool.false_or, Bool.or_true, Bool.true_or, if_true, if_false, Bool.false_eq_true, true_and, and_true, List.any_cons, List.any_nil, List.isEmpty_cons, List.isEmpty_nil, tB_int_non, tB_int_bl, tB_int_int, tB_int_str, tB_int_lst, tB_int_tup, tB_int_dic, tB_bool_non, tB_bool_bl, tB_bool_int, tB_bool_str, tB_bool_lst, tB_bool_tup, tB_bool_dic, tB_str_non, tB_str_bl, tB_str_int, tB_str_str, tB_str_lst, tB_str_tup, tB_str_dic, tB_list_non, tB_list_bl, tB_list_int, tB_list_str, tB_list_lst, tB_list_tup, tB_list_dic, tB_tuple_non, tB_tuple_bl, tB_tuple_int, tB_tuple_str, tB_tuple_lst, tB_tuple_tup, tB_tuple_dic, tB_dict_non, tB_dict_bl, tB_dict_int, tB_dict_str, tB_dict_lst, tB_dict_tup, tB_dict_dic])
              exact ⟨_, _, _, _, .inr rfl, rfl⟩
          · rintro E ⟨q6, q11, q13, q16, h13, rfl⟩
            have h13' : q13 = some (.fr, wD m ws) := by rcases h13 with z | z; (simp at z); exact z
            subst h13'
            (simp (config := {decide := false}) (disch := first | assumption | omega | (simp only [fl_p60, fl_pl, mb_fu, mb_fr, mb_sh, mb_bs, mb_bf, fl_non, fl_bl, fl_int, fl_str, fl_tup, fl_lst, fl_rls, fl_dic, flL_n, flL_c, flL_int, flL_str, isBor_n, isBor_c, pl_non, pl_bl, pl_int, pl_lst, plL_a, pl_tup, plL_n, plL_c, plL_int, at_non, at_bl, at_int, at_str, co_non, co_bl, co_int, co_str, co_lst, co_tup, List.all_cons, List.all_nil, List.length_cons, List.length_nil, List.length_map, beq_self_eq_true, mkb_shfu, mkb_frfu, Bool.false_and, Bool.true_and, Bool.and_true, Bool.and_false, Bool.and_self, Bool.not_true, Bool.not_false, Bool.or_false, Bool.or_true, Bool.true_or, Bool.false_or, Bool.or_self, ne_eq, reduceCtorEq, not_false_eq_true, not_true_eq_false, List.map_cons, List.map_nil]; done) | (have hSZ : SZ = 16777216 := SZ_w; first | omega | (simp only [List.length_map, List.length_append, List.length_cons, List.length_nil, List.length_reverse, List.length_range, List.length_take, List.length_drop, List.length_replicate] <;> omega))) only [gl, c0, c17, c1, c2, c3, wD, c4, c5, c6, c7, c9, c22, c10, c11, c12, c13, c14, c15, c24, c23, c23, ↓wp_ok, ↓wp_ex, ↓wp_bind, ↓w_var, ↓w_cst, ↓w_gl, ↓w_bin, ↓w_neg, ↓w_cmp, ↓w_chain, ↓w_isN, ↓w_notN, ↓w_and, ↓w_or, ↓w_and1, ↓w_and2, ↓w_or1, ↓w_or2, ↓w_not, ↓w_ite, ↓w_lst, ↓w_tup, ↓w_idx, ↓w_slc, ↓w_rev, ↓w_call, ↓w_bi, ↓w_mt1, ↓w_isi, ↓w_comp, ↓w_dcomp, ↓w_dic0, ↓w_dn, ↓w_dc, ↓t_val, ↓t_cmp, ↓t_chain, ↓t_isN, ↓t_notN, ↓t_not, ↓t_and, ↓t_or, ↓t_and1, ↓t_and2, ↓t_or1, ↓t_or2, ↓ts_n, ↓ts_1, ↓i_val, ↓i_rng1, ↓i_rng2, ↓i_enum, ↓i_zip, ↓i_revd, ↓s_nil, ↓s_cons, ↓s_set, ↓s_own, ↓s_par, ↓s_unp, ↓s_aug, ↓s_apd, ↓s_put, ↓s_exp, ↓s_ret, ↓s_retV, ↓s_retN, ↓s_ite, ↓s_for, ↓s_whl, ↓s_brk, ↓s_cnt, ↓s_pas, ↓s_frz, ↓s_nev, ↓s_mtc, ↓m_nil, ↓m_one, ↓m_two, ↓m_any, ↓ow_nx, ↓ow_bk, ↓ow_ct, ↓ow_rt, iw_non, iw_bl, iw_int, iw_str, iw_lst, iw_tup, iw_dic, iw_obj, iw_exc, iw_rls, getV_0, getV_s, getS_0, getS_s, boolW_bl, bindW_nm, bindW_tp, setAll_c, setAll_n, wp_ok, wp_ex, b_addI, b_subI, b_addS, b_addL, b_mulIl, b_mulIr, b_modI, b_divI, b_mulS, w_negI, a_I, a_S, x_lstI, x_rlsI, b_powT, x_lstI', x_str, x_str', x_strM, x_lstM, x_i2, x_i3, x_i4, x_i5, x_i6, x_i11, x_t0, x_t1, x_t2, x_t3, x_l0, cut_to, cut_from, cut_mid, cut_toN, cut_fromN, c_lt, c_le, c_gt, c_ge, c_eq, c_ne, e_same, e_I, e_S, e_B, c_iz, c_niz, c_inS, c_ninS, c_inP, c_ninP, c_inL, c_ninL, c_inT, c_ninT, k_non, k_bl, k_int, k_lst, k_tup, k_str, ty_w, isBor_n, isBor_c, v_lst, v_tup, v_slcL, v_slcS, v_revL, v_revS, bi_1, bi_2, l_lst, l_rls, l_tup, l_str, i_int, i_bl, li_lst, li_tup, li_str, so_int, so_str, al_bl, an_bl, su_int, al_map, an_map, su_map, ab_int, mi_2, ma_2, gc_2, r_joinS, r_indexS, r_indexL, mt_join, it_lst, it_own, it_tup, it_str, rn_ok, en_str, en_lst, zi_lst, re_lst, mb_fu, mb_fr, mb_sh, mb_bs, mb_bf, h_fu, h_fr, h_sh, h_fl, o_fu, o_sh, g_fu, g_fr, g_sh, g_fl, r_some, ol_sh, ol_fu, ap_sh, ap_fu, pu_sh, un_ok, pa_ok, bm_int, bm_str, pm_fr, pm_sh, pm_bs, pm_fu, pm_bf, cm_fr, cm_fu, cm_sh, cm_bs, callM_fl, callM_nb, rdV_fr, rdV_sh, rdV_fu, norm_fl, norm_lst, norm_nf, fl_non, fl_bl, fl_int, fl_str, fl_tup, fl_lst, fl_rls, fl_dic, flL_n, flL_c, flL_int, flL_str, wipe_n, wipe_c, List.set_cons_zero, List.set_cons_succ, List.set_nil, List.map_cons, List.map_nil, List.length_map, List.length_cons, List.length_nil, List.append_nil, List.nil_append, List.take_succ_cons, List.take_zero, List.drop_succ_cons, List.drop_zero, Nat.zero_add, Nat.reduceAdd, Nat.reduceSub, isNon, optI_n, optI_var, optI_lit, optI_bin, optI_neg, optI_idx, optI_bi, optI_call, optI_gl, optI_mt, bq_t, bq_f, bq_not, bq_yes, bq_no, bq_and, bq_or, Bool.not_true, Bool.not_false, Bool.false_and, Bool.true_and, Bool.and_false, Bool.and_true, Bool.or_false, Bool.false_or, Bool.or_true, Bool.true_or, if_true, if_false, Bool.false_eq_true, true_and, and_true, List.any_cons, List.any_nil, List.isEmpty_cons, List.isEmpty_nil, tB_int_non, tB_int_bl, tB_int_int, tB_int_str, tB_int_lst, tB_int_tup, tB_int_dic, tB_bool_non, tB_bool_bl, tB_bool_int, tB_bool_str, tB_bool_lst, tB_bool_tup, tB_bool_dic, tB_str_non, tB_str_bl, tB_str_int, tB_str_str, tB_str_lst, tB_str_tup, tB_str_dic, tB_list_non, tB_list_bl, tB_list_int, tB_list_str, tB_list_lst, tB_list_tup, tB_list_dic, tB_tuple_non, tB_tuple_bl, tB_tuple_int, tB_tuple_str, tB_tuple_lst, tB_tuple_tup, tB_tuple_dic, tB_dict_non, tB_dict_bl, tB_dict_int, tB_dict_str, tB_dict_lst, tB_dict_tup, tB_dict_dic])
            refine c25 _ S ws _ l ⟨hS1, hS2⟩ hn fun L hL => ?_
            (simp (config := {decide := false}) (disch := first | assumption | omega | (simp only [fl_p60, fl_pl, mb_fu, mb_fr, mb_sh, mb_bs, mb_bf, fl_non, fl_bl, fl_int, fl_str, fl_tup, fl_lst, fl_rls, fl_dic, flL_n, flL_c, flL_int, flL_str, isBor_n, isBor_c, pl_non, pl_bl, pl_int, pl_lst, plL_a, pl_tup, plL_n, plL_c, plL_int, at_non, at_bl, at_int, at_str, co_non, co_bl, co_int, co_str, co_lst, co_tup, List.all_cons, List.all_nil, List.length_cons, List.length_nil, List.length_map, beq_self_eq_true, mkb_shfu, mkb_frfu, Bool.false_and, Bool.true_and, Bool.and_true, Bool.and_false, Bool.and_self, Bool.not_true, Bool.not_false, Bool.or_false, Bool.or_true, Bool.true_or, Bool.false_or, Bool.or_self, ne_eq, reduceCtorEq, not_false_eq_true, not_true_eq_false, List.map_cons, List.map_nil]; done) | (have hSZ : SZ = 16777216 := SZ_w; first | omega | (simp only [List.length_map, List.length_append, List.length_cons, List.length_nil, List.length_reverse, List.length_range, List.length_take, List.length_drop, List.length_replicate] <;> omega))) only [gl, c0, c17, c1, c2, c3, wD, c4, c5, c6, c7, c9, c22, c10, c11, c12, c13, c14, c15, c24, c23, c23, ↓wp_ok, ↓wp_ex, ↓wp_bind, ↓w_var, ↓w_cst, ↓w_gl, ↓w_bin, ↓w_neg, ↓w_cmp, ↓w_chain, ↓w_isN, ↓w_notN, ↓w_and, ↓w_or, ↓w_and1, ↓w_and2, ↓w_or1, ↓w_or2, ↓w_not, ↓w_ite, ↓w_lst, ↓w_tup, ↓w_idx, ↓w_slc, ↓w_rev, ↓w_call, ↓w_bi, ↓w_mt1, ↓w_isi, ↓w_comp, ↓w_dcomp, ↓w_dic0, ↓w_dn, ↓w_dc, ↓t_val, ↓t_cmp, ↓t_chain, ↓t_isN, ↓t_notN, ↓t_not, ↓t_and, ↓t_or, ↓t_and1, ↓t_and2, ↓t_or1, ↓t_or2, ↓ts_n, ↓ts_1, ↓i_val, ↓i_rng1, ↓i_rng2, ↓i_enum, ↓i_zip, ↓i_revd, ↓s_nil, ↓s_cons, ↓s_set, ↓s_own, ↓s_par, ↓s_unp, ↓s_aug, ↓s_apd, ↓s_put, ↓s_exp, ↓s_ret, ↓s_retV, ↓s_retN, ↓s_ite, ↓s_for, ↓s_whl, ↓s_brk, ↓s_cnt, ↓s_pas, ↓s_frz, ↓s_nev, ↓s_mtc, ↓m_nil, ↓m_one, ↓m_two, ↓m_any, ↓ow_nx, ↓ow_bk, ↓ow_ct, ↓ow_rt, iw_non, iw_bl, iw_int, iw_str, iw_lst, iw_tup, iw_dic, iw_obj, iw_exc, iw_rls, getV_0, getV_s, getS_0, getS_s, boolW_bl, bindW_nm, bindW_tp, setAll_c, setAll_n, wp_ok, wp_ex, b_addI, b_subI, b_addS, b_addL, b_mulIl, b_mulIr, b_modI, b_divI, b_mulS, w_negI, a_I, a_S, x_lstI, x_rlsI, b_powT, x_lstI', x_str, x_str', x_strM, x_lstM, x_i2, x_i3, x_i4, x_i5, x_i6, x_i11, x_t0, x_t1, x_t2, x_t3, x_l0, cut_to, cut_from, cut_mid, cut_toN, cut_fromN, c_lt, c_le, c_gt, c_ge, c_eq, c_ne, e_same, e_I, e_S, e_B, c_iz, c_niz, c_inS, c_ninS, c_inP, c_ninP, c_inL, c_ninL, c_inT, c_ninT, k_non, k_bl, k_int, k_lst, k_tup, k_str, ty_w, isBor_n, isBor_c, v_lst, v_tup, v_slcL, v_slcS, v_revL, v_revS, bi_1, bi_2, l_lst, l_rls, l_tup, l_str, i_int, i_bl, li_lst, li_tup, li_str, so_int, so_str, al_bl, an_bl, su_int, al_map, an_map, su_map, ab_int, mi_2, ma_2, gc_2, r_joinS, r_indexS, r_indexL, mt_join, it_lst, it_own, it_tup, it_str, rn_ok, en_str, en_lst, zi_lst, re_lst, mb_fu, mb_fr, mb_sh, mb_bs, mb_bf, h_fu, h_fr, h_sh, h_fl, o_fu, o_sh, g_fu, g_fr, g_sh, g_fl, r_some, ol_sh, ol_fu, ap_sh, ap_fu, pu_sh, un_ok, pa_ok, bm_int, bm_str, pm_fr, pm_sh, pm_bs, pm_fu, pm_bf, cm_fr, cm_fu, cm_sh, cm_bs, callM_fl, callM_nb, rdV_fr, rdV_sh, rdV_fu, norm_fl, norm_lst, norm_nf, fl_non, fl_bl, fl_int, fl_str, fl_tup, fl_lst, fl_rls, fl_dic, flL_n, flL_c, flL_int, flL_str, wipe_n, wipe_c, List.set_cons_zero, List.set_cons_succ, List.set_nil, List.map_cons, List.map_nil, List.length_map, List.length_cons, List.length_nil, List.append_nil, List.nil_append, List.take_succ_cons, List.take_zero, List.drop_succ_cons, List.drop_zero, Nat.zero_add, Nat.reduceAdd, Nat.reduceSub, isNon, optI_n, optI_var, optI_lit, optI_bin, optI_neg, optI_idx, optI_bi, optI_call, optI_gl, optI_mt, bq_t, bq_f, bq_not, bq_yes, bq_no, bq_and, bq_or, Bool.not_true, Bool.not_false, Bool.false_and, Bool.true_and, Bool.and_false, Bool.and_true, Bool.or_false, Bool.false_or, Bool.or_true, Bool.true_or, if_true, if_false, Bool.false_eq_true, true_and, and_true, List.any_cons, List.any_nil, List.isEmpty_cons, List.isEmpty_nil, tB_int_non, tB_int_bl, tB_int_int, tB_int_str, tB_int_lst, tB_int_tup, tB_int_dic, tB_bool_non, tB_bool_bl, tB_bool_int, tB_bool_str, tB_bool_lst, tB_bool_tup, tB_bool_dic, tB_str_non, tB_str_bl, tB_str_int, tB_str_str, tB_str_lst, tB_str_tup, tB_str_dic, tB_list_non, tB_list_bl, tB_list_int, tB_list_str, tB_list_lst, tB_list_tup, tB_list_dic, tB_tuple_non, tB_tuple_bl, tB_tuple_int, tB_tuple_str, tB_tuple_lst, tB_tuple_tup, tB_tuple_dic, tB_dict_non, tB_dict_bl, tB_dict_int, tB_dict_str, tB_dict_lst, tB_dict_tup, tB_dict_dic])
            refine for_each (fun E => ∃ q6 q12 q14, E = [some (.fr, .rls (ns.map .int)), q1, some (.fr, .str S), some (.fr, wD m ws), some (.fr, .lst (l.map .int)), some (.fr, .bl (decide (2 ≤ S.length) && ws.any (gcd1 m))), q6, some (.fr, .str kd), some (.fr, .int m), some (.fr, .lst (ws.map .int)), some (.fr, .lst ((flF S.length m ws kd ws.length).map pr)), q11, q12, some (.fr, wD m ws), q14, q15, q16]) ⟨_, _, _, rfl⟩ ?_ ?_
            · rintro v hv E ⟨q6, q12, q14, rfl⟩
              have hpl := plL_mem hL v hv
              have hco := pl_com hpl
              (simp only [bindW_nm, bindW_tp, setAll_c, setAll_n, List.set_cons_zero, List.set_cons_succ, List.length_cons, List.length_nil, true_and])
              refine cut_at 1 (fun E => ∃ q6, E = [some (.fr, .rls (ns.map .int)), q1, some (.fr, .str S), some (.fr, wD m ws), some (.fr, .lst (l.map .int)), some (.fr, .bl (decide (2 ≤ S.length) && ws.any (gcd1 m))), q6, some (.fr, .str kd), some (.fr, .int m), some (.fr, .lst (ws.map .int)), some (.fr, .lst ((flF S.length m ws kd ws.length).map pr)), q11, some (.fr, v), some (.fr, wD m ws), some (.fr, .bl (shw S.length m ws kd v)), q15, q16]) ?_ ?_
              · (simp (config := {decide := false}) (disch := first | assumption | omega | (simp only [fl_p60, fl_pl, mb_fu, mb_fr, mb_sh, mb_bs, mb_bf, fl_non, fl_bl, fl_int, fl_str, fl_tup, fl_lst, fl_rls, fl_dic, flL_n, flL_c, flL_int, flL_str, isBor_n, isBor_c, pl_non, pl_bl, pl_int, pl_lst, plL_a, pl_tup, plL_n, plL_c, plL_int, at_non, at_bl, at_int, at_str, co_non, co_bl, co_int, co_str, co_lst, co_tup, List.all_cons, List.all_nil, List.length_cons, List.length_nil, List.length_map, beq_self_eq_true, mkb_shfu, mkb_frfu, Bool.false_and, Bool.true_and, Bool.and_true, Bool.and_false, Bool.and_self, Bool.not_true, Bool.not_false, Bool.or_false, Bool.or_true, Bool.true_or, Bool.false_or, Bool.or_self, ne_eq, reduceCtorEq, not_false_eq_true, not_true_eq_false, List.map_cons, List.map_nil]; done) | (have hSZ : SZ = 16777216 := SZ_w; first | omega | (simp only [List.length_map, List.length_append, List.length_cons, List.length_nil, List.length_reverse, List.length_range, List.length_take, List.length_drop, List.length_replicate] <;> omega))) only [gl, c0, c17, c1, c2, c3, wD, c4, c5, c6, c7, c9, c22, c10, c11, c12, c13, c14, c15, c24, c23, c23, ↓wp_ok, ↓wp_ex, ↓wp_bind, ↓w_var, ↓w_cst, ↓w_gl, ↓w_bin, ↓w_neg, ↓w_cmp, ↓w_chain, ↓w_isN, ↓w_notN, ↓w_and, ↓w_or, ↓w_and1, ↓w_and2, ↓w_or1, ↓w_or2, ↓w_not, ↓w_ite, ↓w_lst, ↓w_tup, ↓w_idx, ↓w_slc, ↓w_rev, ↓w_call, ↓w_bi, ↓w_mt1, ↓w_isi, ↓w_comp, ↓w_dcomp, ↓w_dic0, ↓w_dn, ↓w_dc, ↓t_val, ↓t_cmp, ↓t_chain, ↓t_isN, ↓t_notN, ↓t_not, ↓t_and, ↓t_or, ↓t_and1, ↓t_and2, ↓t_or1, ↓t_or2, ↓ts_n, ↓ts_1, ↓i_val, ↓i_rng1, ↓i_rng2, ↓i_enum, ↓i_zip, ↓i_revd, ↓s_nil, ↓s_cons, ↓s_set, ↓s_own, ↓s_par, ↓s_unp, ↓s_aug, ↓s_apd, ↓s_put, ↓s_exp, ↓s_ret, ↓s_retV, ↓s_retN, ↓s_ite, ↓s_for, ↓s_whl, ↓s_brk, ↓s_cnt, ↓s_pas, ↓s_frz, ↓s_nev, ↓s_mtc, ↓m_nil, ↓m_one, ↓m_two, ↓m_any, ↓ow_nx, ↓ow_bk, ↓ow_ct, ↓ow_rt, iw_non, iw_bl, iw_int, iw_str, iw_lst, iw_tup, iw_dic, iw_obj, iw_exc, iw_rls, getV_0, getV_s, getS_0, getS_s, boolW_bl, bindW_nm, bindW_tp, setAll_c, setAll_n, wp_ok, wp_ex, b_addI, b_subI, b_addS, b_addL, b_mulIl, b_mulIr, b_modI, b_divI, b_mulS, w_negI, a_I, a_S, x_lstI, x_rlsI, b_powT, x_lstI', x_str, x_str', x_strM, x_lstM, x_i2, x_i3, x_i4, x_i5, x_i6, x_i11, x_t0, x_t1, x_t2, x_t3, x_l0, cut_to, cut_from, cut_mid, cut_toN, cut_fromN, c_lt, c_le, c_gt, c_ge, c_eq, c_ne, e_same, e_I, e_S, e_B, c_iz, c_niz, c_inS, c_ninS, c_inP, c_ninP, c_inL, c_ninL, c_inT, c_ninT, k_non, k_bl, k_int, k_lst, k_tup, k_str, ty_w, isBor_n, isBor_c, v_lst, v_tup, v_slcL, v_slcS, v_revL, v_revS, bi_1, bi_2, l_lst, l_rls, l_tup, l_str, i_int, i_bl, li_lst, li_tup, li_str, so_int, so_str, al_bl, an_bl, su_int, al_map, an_map, su_map, ab_int, mi_2, ma_2, gc_2, r_joinS, r_indexS, r_indexL, mt_join, it_lst, it_own, it_tup, it_str, rn_ok, en_str, en_lst, zi_lst, re_lst, mb_fu, mb_fr, mb_sh, mb_bs, mb_bf, h_fu, h_fr, h_sh, h_fl, o_fu, o_sh, g_fu, g_fr, g_sh, g_fl, r_some, ol_sh, ol_fu, ap_sh, ap_fu, pu_sh, un_ok, pa_ok, bm_int, bm_str, pm_fr, pm_sh, pm_bs, pm_fu, pm_bf, cm_fr, cm_fu, cm_sh, cm_bs, callM_fl, callM_nb, rdV_fr, rdV_sh, rdV_fu, norm_fl, norm_lst, norm_nf, fl_non, fl_bl, fl_int, fl_str, fl_tup, fl_lst, fl_rls, fl_dic, flL_n, flL_c, flL_int, flL_str, wipe_n, wipe_c, List.set_cons_zero, List.set_cons_succ, List.set_nil, List.map_cons, List.map_nil, List.length_map, List.length_cons, List.length_nil, List.append_nil, List.nil_append, List.take_succ_cons, List.take_zero, List.drop_succ_cons, List.drop_zero, Nat.zero_add, Nat.reduceAdd, Nat.reduceSub, isNon, optI_n, optI_var, optI_lit, optI_bin, optI_neg, optI_idx, optI_bi, optI_call, optI_gl, optI_mt, bq_t, bq_f, bq_not, bq_yes, bq_no, bq_and, bq_or, Bool.not_true, Bool.not_false, Bool.false_and, Bool.true_and, Bool.and_false, Bool.and_true, Bool.or_false, Bool.false_or, Bool.or_true, Bool.true_or, if_true, if_false, Bool.false_eq_true, true_and, and_true, List.any_cons, List.any_nil, List.isEmpty_cons, List.isEmpty_nil, tB_int_non, tB_int_bl, tB_int_int, tB_int_str, tB_int_lst, tB_int_tup, tB_int_dic, tB_bool_non, tB_bool_bl, tB_bool_int, tB_bool_str, tB_bool_lst, tB_bool_tup, tB_bool_dic, tB_str_non, tB_str_bl, tB_str_int, tB_str_str, tB_str_lst, tB_str_tup, tB_str_dic, tB_list_non, tB_list_bl, tB_list_int, tB_list_str, tB_list_lst, tB_list_tup, tB_list_dic, tB_tuple_non, tB_tuple_bl, tB_tuple_int, tB_tuple_str, tB_tuple_lst, tB_tuple_tup, tB_tuple_dic, tB_dict_non, tB_dict_bl, tB_dict_int, tB_dict_str, tB_dict_lst, tB_dict_tup, tB_dict_dic])
                cases v with
                | tup xs =>
                  match xs, hpl with
                  | [a, b], hpl =>
                    have hab := hpl
                    rw [pl_tup, plL_c, plL_c, Bool.and_eq_true, Bool.and_eq_true] at hab
                    have ha := pl_com hab.1
                    have hb := pl_com hab.2.1
                    (simp (config := {decide := false}) (disch := first | assumption | omega | (simp only [fl_p60, fl_pl, mb_fu, mb_fr, mb_sh, mb_bs, mb_bf, fl_non, fl_bl, fl_int, fl_str, fl_tup, fl_lst, fl_rls, fl_dic, flL_n, flL_c, flL_int, flL_str, isBor_n, isBor_c, pl_non, pl_bl, pl_int, pl_lst, plL_a, pl_tup, plL_n, plL_c, plL_int, at_non, at_bl, at_int, at_str, co_non, co_bl, co_int, co_str, co_lst, co_tup, List.all_cons, List.all_nil, List.length_cons, List.length_nil, List.length_map, beq_self_eq_true, mkb_shfu, mkb_frfu, Bool.false_and, Bool.true_and, Bool.and_true, Bool.and_false, Bool.and_self, Bool.not_true, Bool.not_false, Bool.or_false, Bool.or_true, Bool.true_or, Bool.false_or, Bool.or_self, ne_eq, reduceCtorEq, not_false_eq_true, not_true_eq_false, List.map_cons, List.map_nil]; done) | (have hSZ : SZ = 16777216 := SZ_w; first | omega | (simp only [List.length_map, List.length_append, List.length_cons, List.length_nil, List.length_reverse, List.length_range, List.length_take, List.length_drop, List.length_replicate] <;> omega))) only [gl, c0, c17, c1, c2, c3, wD, c4, c5, c6, c7, c9, c22, c10, c11, c12, c13, c14, c15, c24, c23, c23, ↓wp_ok, ↓wp_ex, ↓wp_bind, ↓w_var, ↓w_cst, ↓w_gl, ↓w_bin, ↓w_neg, ↓w_cmp, ↓w_chain, ↓w_isN, ↓w_notN, ↓w_and, ↓w_or, ↓w_and1, ↓w_and2, ↓w_or1, ↓w_or2, ↓w_not, ↓w_ite, ↓w_lst, ↓w_tup, ↓w_idx, ↓w_slc, ↓w_rev, ↓w_call, ↓w_bi, ↓w_mt1, ↓w_isi, ↓w_comp, ↓w_dcomp, ↓w_dic0, ↓w_dn, ↓w_dc, ↓t_val, ↓t_cmp, ↓t_chain, ↓t_isN, ↓t_notN, ↓t_not, ↓t_and, ↓t_or, ↓t_and1, ↓t_and2, ↓t_or1, ↓t_or2, ↓ts_n, ↓ts_1, ↓i_val, ↓i_rng1, ↓i_rng2, ↓i_enum, ↓i_zip, ↓i_revd, ↓s_nil, ↓s_cons, ↓s_set, ↓s_own, ↓s_par, ↓s_unp, ↓s_aug, ↓s_apd, ↓s_put, ↓s_exp, ↓s_ret, ↓s_retV, ↓s_retN, ↓s_ite, ↓s_for, ↓s_whl, ↓s_brk, ↓s_cnt, ↓s_pas, ↓s_frz, ↓s_nev, ↓s_mtc, ↓m_nil, ↓m_one, ↓m_two, ↓m_any, ↓ow_nx, ↓ow_bk, ↓ow_ct, ↓ow_rt, iw_non, iw_bl, iw_int, iw_str, iw_lst, iw_tup, iw_dic, iw_obj, iw_exc, iw_rls, getV_0, getV_s, getS_0, getS_s, boolW_bl, bindW_nm, bindW_tp, setAll_c, setAll_n, wp_ok, wp_ex, b_addI, b_subI, b_addS, b_addL, b_mulIl, b_mulIr, b_modI, b_divI, b_mulS, w_negI, a_I, a_S, x_lstI, x_rlsI, b_powT, x_lstI', x_str, x_str', x_strM, x_lstM, x_i2, x_i3, x_i4, x_i5, x_i6, x_i11, x_t0, x_t1, x_t2, x_t3, x_l0, cut_to, cut_from, cut_mid, cut_toN, cut_fromN, c_lt, c_le, c_gt, c_ge, c_eq, c_ne, e_same, e_I, e_S, e_B, c_iz, c_niz, c_inS, c_ninS, c_inP, c_ninP, c_inL, c_ninL, c_inT, c_ninT, k_non, k_bl, k_int, k_lst, k_tup, k_str, ty_w, isBor_n, isBor_c, v_lst, v_tup, v_slcL, v_slcS, v_revL, v_revS, bi_1, bi_2, l_lst, l_rls, l_tup, l_str, i_int, i_bl, li_lst, li_tup, li_str, so_int, so_str, al_bl, an_bl, su_int, al_map, an_map, su_map, ab_int, mi_2, ma_2, gc_2, r_joinS, r_indexS, r_indexL, mt_join, it_lst, it_own, it_tup, it_str, rn_ok, en_str, en_lst, zi_lst, re_lst, mb_fu, mb_fr, mb_sh, mb_bs, mb_bf, h_fu, h_fr, h_sh, h_fl, o_fu, o_sh, g_fu, g_fr, g_sh, g_fl, r_some, ol_sh, ol_fu, ap_sh, ap_fu, pu_sh, un_ok, pa_ok, bm_int, bm_str, pm_fr, pm_sh, pm_bs, pm_fu, pm_bf, cm_fr, cm_fu, cm_sh, cm_bs, callM_fl, callM_nb, rdV_fr, rdV_sh, rdV_fu, norm_fl, norm_lst, norm_nf, fl_non, fl_bl, fl_int, fl_str, fl_tup, fl_lst, fl_rls, fl_dic, flL_n, flL_c, flL_int, flL_str, wipe_n, wipe_c, List.set_cons_zero, List.set_cons_succ, List.set_nil, List.map_cons, List.map_nil, List.length_map, List.length_cons, List.length_nil, List.append_nil, List.nil_append, List.take_succ_cons, List.take_zero, List.drop_succ_cons, List.drop_zero, Nat.zero_add, Nat.reduceAdd, Nat.reduceSub, isNon, optI_n, optI_var, optI_lit, optI_bin, optI_neg, optI_idx, optI_bi, optI_call, optI_gl, optI_mt, bq_t, bq_f, bq_not, bq_yes, bq_no, bq_and, bq_or, Bool.not_true, Bool.not_false, Bool.false_and, Bool.true_and, Bool.and_false, Bool.and_true, Bool.or_false, Bool.false_or, Bool.or_true, Bool.true_or, if_true, if_false, Bool.false_eq_true, true_and, and_true, List.any_cons, List.any_nil, List.isEmpty_cons, List.isEmpty_nil, tB_int_non, tB_int_bl, tB_int_int, tB_int_str, tB_int_lst, tB_int_tup, tB_int_dic, tB_bool_non, tB_bool_bl, tB_bool_int, tB_bool_str, tB_bool_lst, tB_bool_tup, tB_bool_dic, tB_str_non, tB_str_bl, tB_str_int, tB_str_str, tB_str_lst, tB_str_tup, tB_str_dic, tB_list_non, tB_list_bl, tB_list_int, tB_list_str, tB_list_lst, tB_list_tup, tB_list_dic, tB_tuple_non, tB_tuple_bl, tB_tuple_int, tB_tuple_str, tB_tuple_lst, tB_tuple_tup, tB_tuple_dic, tB_dict_non, tB_dict_bl, tB_dict_int, tB_dict_str, tB_dict_lst, tB_dict_tup, tB_dict_dic])
                    have fin : inD (.tup [a, b]) ((flF S.length m ws kd ws.length).map pr) = true ∧ isW a = true ∧ isW b = true ∧ shw S.length m ws kd (.tup [a, b]) = true ∨ (inD (.tup [a, b]) ((flF S.length m ws kd ws.length).map pr) = false ∨ isW a = false ∨ isW b = false) ∧ shw S.length m ws kd (.tup [a, b]) = false := by
                      cases a <;> cases b <;> simp only [iw_non, iw_bl, iw_int, iw_str, iw_lst, iw_tup, isW, shw, fl_in] <;> simp
                    cases h1 : inD (.tup [a, b]) ((flF S.length m ws kd ws.length).map pr) <;> cases h2 : isW a <;> cases h3 : isW b <;> rw [h1, h2, h3] at fin <;> simp only [reduceCtorEq, false_and, and_false, or_false, false_or, true_and, or_true, true_or, and_true] at fin
                    all_goals
                      (simp (config := {decide := false}) (disch := first | assumption | omega | (simp only [fl_p60, fl_pl, mb_fu, mb_fr, mb_sh, mb_bs, mb_bf, fl_non, fl_bl, fl_int, fl_str, fl_tup, fl_lst, fl_rls, fl_dic, flL_n, flL_c, flL_int, flL_str, isBor_n, isBor_c, pl_non, pl_bl, pl_int, pl_lst, plL_a, pl_tup, plL_n, plL_c, plL_int, at_non, at_bl, at_int, at_str, co_non, co_bl, co_int, co_str, co_lst, co_tup, List.all_cons, List.all_nil, List.length_cons, List.length_nil, List.length_map, beq_self_eq_true, mkb_shfu, mkb_frfu, Bool.false_and, Bool.true_and, Bool.and_true, Bool.and_false, Bool.and_self, Bool.not_true, Bool.not_false, Bool.or_false, Bool.or_true, Bool.true_or, Bool.false_or, Bool.or_self, ne_eq, reduceCtorEq, not_false_eq_true, not_true_eq_false, List.map_cons, List.map_nil]; done) | (have hSZ : SZ = 16777216 := SZ_w; first | omega | (simp only [List.length_map, List.length_append, List.length_cons, List.length_nil, List.length_reverse, List.length_range, List.length_take, List.length_drop, List.length_replicate] <;> omega))) only [gl, c0, c17, c1, c2, c3, wD, c4, c5, c6, c7, c9, c22, c10, c11, c12, c13, c14, c15, c24, c23, c23, h1, h2, h3, ↓wp_ok, ↓wp_ex, ↓wp_bind, ↓w_var, ↓w_cst, ↓w_gl, ↓w_bin, ↓w_neg, ↓w_cmp, ↓w_chain, ↓w_isN, ↓w_notN, ↓w_and, ↓w_or, ↓w_and1, ↓w_and2, ↓w_or1, ↓w_or2, ↓w_not, ↓w_ite, ↓w_lst, ↓w_tup, ↓w_idx, ↓w_slc, ↓w_rev, ↓w_call, ↓w_bi, ↓w_mt1, ↓w_isi, ↓w_comp, ↓w_dcomp, ↓w_dic0, ↓w_dn, ↓w_dc, ↓t_val, ↓t_cmp, ↓t_chain, ↓t_isN, ↓t_notN, ↓t_not, ↓t_and, ↓t_or, ↓t_and1, ↓t_and2, ↓t_or1, ↓t_or2, ↓ts_n, ↓ts_1, ↓i_val, ↓i_rng1, ↓i_rng2, ↓i_enum, ↓i_zip, ↓i_revd, ↓s_nil, ↓s_cons, ↓s_set, ↓s_own, ↓s_par, ↓s_unp, ↓s_aug, ↓s_apd, ↓s_put, ↓s_exp, ↓s_ret, ↓s_retV, ↓s_retN, ↓s_ite, ↓s_for, ↓s_whl, ↓s_brk, ↓s_cnt, ↓s_pas, ↓s_frz, ↓s_nev, ↓s_mtc, ↓m_nil, ↓m_one, ↓m_two, ↓m_any, ↓ow_nx, ↓ow_bk, ↓ow_ct, ↓ow_rt, iw_non, iw_bl, iw_int, iw_str, iw_lst, iw_tup, iw_dic, iw_obj, iw_exc, iw_rls, getV_0, getV_s, getS_0, getS_s, boolW_bl, bindW_nm, bindW_tp, setAll_c, setAll_n, wp_ok, wp_ex, b_addI, b_subI, b_addS, b_addL, b_mulIl, b_mulIr, b_modI, b_divI, b_mulS, w_negI, a_I, a_S, x_lstI, x_rlsI, b_powT, x_lstI', x_str, x_str', x_strM, x_lstM, x_i2, x_i3, x_i4, x_i5, x_i6, x_i11, x_t0, x_t1, x_t2, x_t3, x_l0, cut_to, cut_from, cut_mid, cut_toN, cut_fromN, c_lt, c_le, c_gt, c_ge, c_eq, c_ne, e_same, e_I, e_S, e_B, c_iz, c_niz, c_inS, c_ninS, c_inP, c_ninP, c_inL, c_ninL, c_inT, c_ninT, k_non, k_bl, k_int, k_lst, k_tup, k_str, ty_w, isBor_n, isBor_c, v_lst, v_tup, v_slcL, v_slcS, v_revL, v_revS, bi_1, bi_2, l_lst, l_rls, l_tup, l_str, i_int, i_bl, li_lst, li_tup, li_str, so_int, so_str, al_bl, an_bl, su_int, al_map, an_map, su_map, ab_int, mi_2, ma_2, gc_2, r_joinS, r_indexS, r_indexL, mt_join, it_lst, it_own, it_tup, it_str, rn_ok, en_str, en_lst, zi_lst, re_lst, mb_fu, mb_fr, mb_sh, mb_bs, mb_bf, h_fu, h_fr, h_sh, h_fl, o_fu, o_sh, g_fu, g_fr, g_sh, g_fl, r_some, ol_sh, ol_fu, ap_sh, ap_fu, pu_sh, un_ok, pa_ok, bm_int, bm_str, pm_fr, pm_sh, pm_bs, pm_fu, pm_bf, cm_fr, cm_fu, cm_sh, cm_bs, callM_fl, callM_nb, rdV_fr, rdV_sh, rdV_fu, norm_fl, norm_lst, norm_nf, fl_non, fl_bl, fl_int, fl_str, fl_tup, fl_lst, fl_rls, fl_dic, flL_n, flL_c, flL_int, flL_str, wipe_n, wipe_c, List.set_cons_zero, List.set_cons_succ, List.set_nil, List.map_cons, List.map_nil, List.length_map, List.length_cons, List.length_nil, List.append_nil, List.nil_append, List.take_succ_cons, List.take_zero, List.drop_succ_cons, List.drop_zero, Nat.zero_add, Nat.reduceAdd, Nat.reduceSub, isNon, optI_n, optI_var, optI_lit, optI_bin, optI_neg, optI_idx, optI_bi, optI_call, optI_gl, optI_mt, bq_t, bq_f, bq_not, bq_yes, bq_no, bq_and, bq_or, Bool.not_true, Bool.not_false, Bool.false_and, Bool.true_and, Bool.and_false, Bool.and_true, Bool.or_false, Bool.false_or, Bool.or_true, Bool.true_or, if_true, if_false, Bool.false_eq_true, true_and, and_true, List.any_cons, List.any_nil, List.isEmpty_cons, List.isEmpty_nil, tB_int_non, tB_int_bl, tB_int_int, tB_int_str, tB_int_lst, tB_int_tup, tB_int_dic, tB_bool_non, tB_bool_bl, tB_bool_int, tB_bool_str, tB_bool_lst, tB_bool_tup, tB_bool_dic, tB_str_non, tB_str_bl, tB_str_int, tB_str_str, tB_str_lst, tB_str_tup, tB_str_dic, tB_list_non, tB_list_bl, tB_list_int, tB_list_str, tB_list_lst, tB_list_tup, tB_list_dic, tB_tuple_non, tB_tuple_bl, tB_tuple_int, tB_tuple_str, tB_tuple_lst, tB_tuple_tup, tB_tuple_dic, tB_dict_non, tB_dict_bl, tB_dict_int, tB_dict_str, tB_dict_lst, tB_dict_tup, tB_dict_dic])
                      exact ⟨_, by rw [fin]⟩
                  | [], hpl => (simp (config := {decide := false}) (disch := first | assumption | omega | (simp only [fl_p60, fl_pl, mb_fu, mb_fr, mb_sh, mb_bs, mb_bf, fl_non, fl_bl, fl_int, fl_str, fl_tup, fl_lst, fl_rls, fl_dic, flL_n, flL_c, flL_int, flL_str, isBor_n, isBor_c, pl_non, pl_bl, pl_int, pl_lst, plL_a, pl_tup, plL_n, plL_c, plL_int, at_non, at_bl, at_int, at_str, co_non, co_bl, co_int, co_str, co_lst, co_tup, List.all_cons, List.all_nil, List.length_cons, List.length_nil, List.length_map, beq_self_eq_true, mkb_shfu, mkb_frfu, Bool.false_and, Bool.true_and, Bool.and_true, Bool.and_false, Bool.and_self, Bool.not_true, Bool.not_false, Bool.or_false, Bool.or_true, Bool.true_or, Bool.false_or, Bool.or_self, ne_eq, reduceCtorEq, not_false_eq_true, not_true_eq_false, List.map_cons, List.map_nil]; done) | (have hSZ : SZ = 16777216 := SZ_w; first | omega | (simp only [List.length_map, List.length_append, List.length_cons, List.length_nil, List.length_reverse, List.length_range, List.length_take, List.length_drop, List.length_replicate] <;> omega))) only [gl, c0, c17, c1, c2, c3, wD, c4, c5, c6, c7, c9, c22, c10, c11, c12, c13, c14, c15, c24, c23, c23, ↓wp_ok, ↓wp_ex, ↓wp_bind, ↓w_var, ↓w_cst, ↓w_gl, ↓w_bin, ↓w_neg, ↓w_cmp, ↓w_chain, ↓w_isN, ↓w_notN, ↓w_and, ↓w_or, ↓w_and1, ↓w_and2, ↓w_or1, ↓w_or2, ↓w_not, ↓w_ite, ↓w_lst, ↓w_tup, ↓w_idx, ↓w_slc, ↓w_rev, ↓w_call, ↓w_bi, ↓w_mt1, ↓w_isi, ↓w_comp, ↓w_dcomp, ↓w_dic0, ↓w_dn, ↓w_dc, ↓t_val, ↓t_cmp, ↓t_chain, ↓t_isN, ↓t_notN, ↓t_not, ↓t_and, ↓t_or, ↓t_and1, ↓t_and2, ↓t_or1, ↓t_or2, ↓ts_n, ↓ts_1, ↓i_val, ↓i_rng1, ↓i_rng2, ↓i_enum, ↓i_zip, ↓i_revd, ↓s_nil, ↓s_cons, ↓s_set, ↓s_own, ↓s_par, ↓s_unp, ↓s_aug, ↓s_apd, ↓s_put, ↓s_exp, ↓s_ret, ↓s_retV, ↓s_retN, ↓s_ite, ↓s_for, ↓s_whl, ↓s_brk, ↓s_cnt, ↓s_pas, ↓s_frz, ↓s_nev, ↓s_mtc, ↓m_nil, ↓m_one, ↓m_two, ↓m_any, ↓ow_nx, ↓ow_bk, ↓ow_ct, ↓ow_rt, iw_non, iw_bl, iw_int, iw_str, iw_lst, iw_tup, iw_dic, iw_obj, iw_exc, iw_rls, getV_0, getV_s, getS_0, getS_s, boolW_bl, bindW_nm, bindW_tp, setAll_c, setAll_n, wp_ok, wp_ex, b_addI, b_subI, b_addS, b_addL, b_mulIl, b_mulIr, b_modI, b_divI, b_mulS, w_negI, a_I, a_S, x_lstI, x_rlsI, b_powT, x_lstI', x_str, x_str', x_strM, x_lstM, x_i2, x_i3, x_i4, x_i5, x_i6, x_i11, x_t0, x_t1, x_t2, x_t3, x_l0, cut_to, cut_from, cut_mid, cut_toN, cut_fromN, c_lt, c_le, c_gt, c_ge, c_eq, c_ne, e_same, e_I, e_S, e_B, c_iz, c_niz, c_inS, c_ninS, c_inP, c_ninP, c_inL, c_ninL, c_inT, c_ninT, k_non, k_bl, k_int, k_lst, k_tup, k_str, ty_w, isBor_n, isBor_c, v_lst, v_tup, v_slcL, v_slcS, v_revL, v_revS, bi_1, bi_2, l_lst, l_rls, l_tup, l_str, i_int, i_bl, li_lst, li_tup, li_str, so_int, so_str, al_bl, an_bl, su_int, al_map, an_map, su_map, ab_int, mi_2, ma_2, gc_2, r_joinS, r_indexS, r_indexL, mt_join, it_lst, it_own, it_tup, it_str, rn_ok, en_str, en_lst, zi_lst, re_lst, mb_fu, mb_fr, mb_sh, mb_bs, mb_bf, h_fu, h_fr, h_sh, h_fl, o_fu, o_sh, g_fu, g_fr, g_sh, g_fl, r_some, ol_sh, ol_fu, ap_sh, ap_fu, pu_sh, un_ok, pa_ok, bm_int, bm_str, pm_fr, pm_sh, pm_bs, pm_fu, pm_bf, cm_fr, cm_fu, cm_sh, cm_bs, callM_fl, callM_nb, rdV_fr, rdV_sh, rdV_fu, norm_fl, norm_lst, norm_nf, fl_non, fl_bl, fl_int, fl_str, fl_tup, fl_lst, fl_rls, fl_dic, flL_n, flL_c, flL_int, flL_str, wipe_n, wipe_c, List.set_cons_zero, List.set_cons_succ, List.set_nil, List.map_cons, List.map_nil, List.length_map, List.length_cons, List.length_nil, List.append_nil, List.nil_append, List.take_succ_cons, List.take_zero, List.drop_succ_cons, List.drop_zero, Nat.zero_add, Nat.reduceAdd, Nat.reduceSub, isNon, optI_n, optI_var, optI_lit, optI_bin, optI_neg, optI_idx, optI_bi, optI_call, optI_gl, optI_mt, bq_t, bq_f, bq_not, bq_yes, bq_no, bq_and, bq_or, Bool.not_true, Bool.not_false, Bool.false_and, Bool.true_and, Bool.and_false, Bool.and_true, Bool.or_false, Bool.false_or, Bool.or_true, Bool.true_or, if_true, if_false, Bool.false_eq_true, true_and, and_true, List.any_cons, List.any_nil, List.isEmpty_cons, List.isEmpty_nil, tB_int_non, tB_int_bl, tB_int_int, tB_int_str, tB_int_lst, tB_int_tup, tB_int_dic, tB_bool_non, tB_bool_bl, tB_bool_int, tB_bool_str, tB_bool_lst, tB_bool_tup, tB_bool_dic, tB_str_non, tB_str_bl, tB_str_int, tB_str_str, tB_str_lst, tB_str_tup, tB_str_dic, tB_list_non, tB_list_bl, tB_list_int, tB_list_str, tB_list_lst, tB_list_tup, tB_list_dic, tB_tuple_non, tB_tuple_bl, tB_tuple_int, tB_tuple_str, tB_tuple_lst, tB_tuple_tup, tB_tuple_dic, tB_dict_non, tB_dict_bl, tB_dict_int, tB_dict_str, tB_dict_lst, tB_dict_tup, tB_dict_dic]); exact ⟨_, rfl⟩
                  | [a], hpl => (simp (config := {decide := false}) (disch := first | assumption | omega | (simp only [fl_p60, fl_pl, mb_fu, mb_fr, mb_sh, mb_bs, mb_bf, fl_non, fl_bl, fl_int, fl_str, fl_tup, fl_lst, fl_rls, fl_dic, flL_n, flL_c, flL_int, flL_str, isBor_n, isBor_c, pl_non, pl_bl, pl_int, pl_lst, plL_a, pl_tup, plL_n, plL_c, plL_int, at_non, at_bl, at_int, at_str, co_non, co_bl, co_int, co_str, co_lst, co_tup, List.all_cons, List.all_nil, List.length_cons, List.length_nil, List.length_map, beq_self_eq_true, mkb_shfu, mkb_frfu, Bool.false_and, Bool.true_and, Bool.and_true, Bool.and_false, Bool.and_self, Bool.not_true, Bool.not_false, Bool.or_false, Bool.or_true, Bool.true_or, Bool.false_or, Bool.or_self, ne_eq, reduceCtorEq, not_false_eq_true, not_true_eq_false, List.map_cons, List.map_nil]; done) | (have hSZ : SZ = 16777216 := SZ_w; first | omega | (simp only [List.length_map, List.length_append, List.length_cons, List.length_nil, List.length_reverse, List.length_range, List.length_take, List.length_drop, List.length_replicate] <;> omega))) only [gl, c0, c17, c1, c2, c3, wD, c4, c5, c6, c7, c9, c22, c10, c11, c12, c13, c14, c15, c24, c23, c23, ↓wp_ok, ↓wp_ex, ↓wp_bind, ↓w_var, ↓w_cst, ↓w_gl, ↓w_bin, ↓w_neg, ↓w_cmp, ↓w_chain, ↓w_isN, ↓w_notN, ↓w_and, ↓w_or, ↓w_and1, ↓w_and2, ↓w_or1, ↓w_or2, ↓w_not, ↓w_ite, ↓w_lst, ↓w_tup, ↓w_idx, ↓w_slc, ↓w_rev, ↓w_call, ↓w_bi, ↓w_mt1, ↓w_isi, ↓w_comp, ↓w_dcomp, ↓w_dic0, ↓w_dn, ↓w_dc, ↓t_val, ↓t_cmp, ↓t_chain, ↓t_isN, ↓t_notN, ↓t_not, ↓t_and, ↓t_or, ↓t_and1, ↓t_and2, ↓t_or1, ↓t_or2, ↓ts_n, ↓ts_1, ↓i_val, ↓i_rng1, ↓i_rng2, ↓i_enum, ↓i_zip, ↓i_revd, ↓s_nil, ↓s_cons, ↓s_set, ↓s_own, ↓s_par, ↓s_unp, ↓s_aug, ↓s_apd, ↓s_put, ↓s_exp, ↓s_ret, ↓s_retV, ↓s_retN, ↓s_ite, ↓s_for, ↓s_whl, ↓s_brk, ↓s_cnt, ↓s_pas, ↓s_frz, ↓s_nev, ↓s_mtc, ↓m_nil, ↓m_one, ↓m_two, ↓m_any, ↓ow_nx, ↓ow_bk, ↓ow_ct, ↓ow_rt, iw_non, iw_bl, iw_int, iw_str, iw_lst, iw_tup, iw_dic, iw_obj, iw_exc, iw_rls, getV_0, getV_s, getS_0, getS_s, boolW_bl, bindW_nm, bindW_tp, setAll_c, setAll_n, wp_ok, wp_ex, b_addI, b_subI, b_addS, b_addL, b_mulIl, b_mulIr, b_modI, b_divI, b_mulS, w_negI, a_I, a_S, x_lstI, x_rlsI, b_powT, x_lstI', x_str, x_str', x_strM, x_lstM, x_i2, x_i3, x_i4, x_i5, x_i6, x_i11, x_t0, x_t1, x_t2, x_t3, x_l0, cut_to, cut_from, cut_mid, cut_toN, cut_fromN, c_lt, c_le, c_gt, c_ge, c_eq, c_ne, e_same, e_I, e_S, e_B, c_iz, c_niz, c_inS, c_ninS, c_inP, c_ninP, c_inL, c_ninL, c_inT, c_ninT, k_non, k_bl, k_int, k_lst, k_tup, k_str, ty_w, isBor_n, isBor_c, v_lst, v_tup, v_slcL, v_slcS, v_revL, v_revS, bi_1, bi_2, l_lst, l_rls, l_tup, l_str, i_int, i_bl, li_lst, li_tup, li_str, so_int, so_str, al_bl, an_bl, su_int, al_map, an_map, su_map, ab_int, mi_2, ma_2, gc_2, r_joinS, r_indexS, r_indexL, mt_join, it_lst, it_own, it_tup, it_str, rn_ok, en_str, en_lst, zi_lst, re_lst, mb_fu, mb_fr, mb_sh, mb_bs, mb_bf, h_fu, h_fr, h_sh, h_fl, o_fu, o_sh, g_fu, g_fr, g_sh, g_fl, r_some, ol_sh, ol_fu, ap_sh, ap_fu, pu_sh, un_ok, pa_ok, bm_int, bm_str, pm_fr, pm_sh, pm_bs, pm_fu, pm_bf, cm_fr, cm_fu, cm_sh, cm_bs, callM_fl, callM_nb, rdV_fr, rdV_sh, rdV_fu, norm_fl, norm_lst, norm_nf, fl_non, fl_bl, fl_int, fl_str, fl_tup, fl_lst, fl_rls, fl_dic, flL_n, flL_c, flL_int, flL_str, wipe_n, wipe_c, List.set_cons_zero, List.set_cons_succ, List.set_nil, List.map_cons, List.map_nil, List.length_map, List.length_cons, List.length_nil, List.append_nil, List.nil_append, List.take_succ_cons, List.take_zero, List.drop_succ_cons, List.drop_zero, Nat.zero_add, Nat.reduceAdd, Nat.reduceSub, isNon, optI_n, optI_var, optI_lit, optI_bin, optI_neg, optI_idx, optI_bi, optI_call, optI_gl, optI_mt, bq_t, bq_f, bq_not, bq_yes, bq_no, bq_and, bq_or, Bool.not_true, Bool.not_false, Bool.false_and, Bool.true_and, Bool.and_false, Bool.and_true, Bool.or_false, Bool.false_or, Bool.or_true, Bool.true_or, if_true, if_false, Bool.false_eq_true, true_and, and_true, List.any_cons, List.any_nil, List.isEmpty_cons, List.isEmpty_nil, tB_int_non, tB_int_bl, tB_int_int, tB_int_str, tB_int_lst, tB_int_tup, tB_int_dic, tB_bool_non, tB_bool_bl, tB_bool_int, tB_bool_str, tB_bool_lst, tB_bool_tup, tB_bool_dic, tB_str_non, tB_str_bl, tB_str_int, tB_str_str, tB_str_lst, tB_str_tup, tB_str_dic, tB_list_non, tB_list_bl, tB_list_int, tB_list_str, tB_list_lst, tB_list_tup, tB_list_dic, tB_tuple_non, tB_tuple_bl, tB_tuple_int, tB_tuple_str, tB_tuple_lst, tB_tuple_tup, tB_tuple_dic, tB_dict_non, tB_dict_bl, tB_dict_int, tB_dict_str, tB_dict_lst, tB_dict_tup, tB_dict_dic]); exact ⟨_, by cases a <;> rfl⟩
                  | a :: b :: c :: r, hpl =>
                    (simp (config := {decide := false}) (disch := first | assumption | omega | (simp only [fl_p60, fl_pl, mb_fu, mb_fr, mb_sh, mb_bs, mb_bf, fl_non, fl_bl, fl_int, fl_str, fl_tup, fl_lst, fl_rls, fl_dic, flL_n, flL_c, flL_int, flL_str, isBor_n, isBor_c, pl_non, pl_bl, pl_int, pl_lst, plL_a, pl_tup, plL_n, plL_c, plL_int, at_non, at_bl, at_int, at_str, co_non, co_bl, co_int, co_str, co_lst, co_tup, List.all_cons, List.all_nil, List.length_cons, List.length_nil, List.length_map, beq_self_eq_true, mkb_shfu, mkb_frfu, Bool.false_and, Bool.true_and, Bool.and_true, Bool.and_false, Bool.and_self, Bool.not_true, Bool.not_false, Bool.or_false, Bool.or_true, Bool.true_or, Bool.false_or, Bool.or_self, ne_eq, reduceCtorEq, not_false_eq_true, not_true_eq_false, List.map_cons, List.map_nil]; done) | (have hSZ : SZ = 16777216 := SZ_w; first | omega | (simp only [List.length_map, List.length_append, List.length_cons, List.length_nil, List.length_reverse, List.length_range, List.length_take, List.length_drop, List.length_replicate] <;> omega))) only [gl, c0, c17, c1, c2, c3, wD, c4, c5, c6, c7, c9, c22, c10, c11, c12, c13, c14, c15, c24, c23, c23, ↓wp_ok, ↓wp_ex, ↓wp_bind, ↓w_var, ↓w_cst, ↓w_gl, ↓w_bin, ↓w_neg, ↓w_cmp, ↓w_chain, ↓w_isN, ↓w_notN, ↓w_and, ↓w_or, ↓w_and1, ↓w_and2, ↓w_or1, ↓w_or2, ↓w_not, ↓w_ite, ↓w_lst, ↓w_tup, ↓w_idx, ↓w_slc, ↓w_rev, ↓w_call, ↓w_bi, ↓w_mt1, ↓w_isi, ↓w_comp, ↓w_dcomp, ↓w_dic0, ↓w_dn, ↓w_dc, ↓t_val, ↓t_cmp, ↓t_chain, ↓t_isN, ↓t_notN, ↓t_not, ↓t_and, ↓t_or, ↓t_and1, ↓t_and2, ↓t_or1, ↓t_or2, ↓ts_n, ↓ts_1, ↓i_val, ↓i_rng1, ↓i_rng2, ↓i_enum, ↓i_zip, ↓i_revd, ↓s_nil, ↓s_cons, ↓s_set, ↓s_own, ↓s_par, ↓s_unp, ↓s_aug, ↓s_apd, ↓s_put, ↓s_exp, ↓s_ret, ↓s_retV, ↓s_retN, ↓s_ite, ↓s_for, ↓s_whl, ↓s_brk, ↓s_cnt, ↓s_pas, ↓s_frz, ↓s_nev, ↓s_mtc, ↓m_nil, ↓m_one, ↓m_two, ↓m_any, ↓ow_nx, ↓ow_bk, ↓ow_ct, ↓ow_rt, iw_non, iw_bl, iw_int, iw_str, iw_lst, iw_tup, iw_dic, iw_obj, iw_exc, iw_rls, getV_0, getV_s, getS_0, getS_s, boolW_bl, bindW_nm, bindW_tp, setAll_c, setAll_n, wp_ok, wp_ex, b_addI, b_subI, b_addS, b_addL, b_mulIl, b_mulIr, b_modI, b_divI, b_mulS, w_negI, a_I, a_S, x_lstI, x_rlsI, b_powT, x_lstI', x_str, x_str', x_strM, x_lstM, x_i2, x_i3, x_i4, x_i5, x_i6, x_i11, x_t0, x_t1, x_t2, x_t3, x_l0, cut_to, cut_from, cut_mid, cut_toN, cut_fromN, c_lt, c_le, c_gt, c_ge, c_eq, c_ne, e_same, e_I, e_S, e_B, c_iz, c_niz, c_inS, c_ninS, c_inP, c_ninP, c_inL, c_ninL, c_inT, c_ninT, k_non, k_bl, k_int, k_lst, k_tup, k_str, ty_w, isBor_n, isBor_c, v_lst, v_tup, v_slcL, v_slcS, v_revL, v_revS, bi_1, bi_2, l_lst, l_rls, l_tup, l_str, i_int, i_bl, li_lst, li_tup, li_str, so_int, so_str, al_bl, an_bl, su_int, al_map, an_map, su_map, ab_int, mi_2, ma_2, gc_2, r_joinS, r_indexS, r_indexL, mt_join, it_lst, it_own, it_tup, it_str, rn_ok, en_str, en_lst, zi_lst, re_lst, mb_fu, mb_fr, mb_sh, mb_bs, mb_bf, h_fu, h_fr, h_sh, h_fl, o_fu, o_sh, g_fu, g_fr, g_sh, g_fl, r_some, ol_sh, ol_fu, ap_sh, ap_fu, pu_sh, un_ok, pa_ok, bm_int, bm_str, pm_fr, pm_sh, pm_bs, pm_fu, pm_bf, cm_fr, cm_fu, cm_sh, cm_bs, callM_fl, callM_nb, rdV_fr, rdV_sh, rdV_fu, norm_fl, norm_lst, norm_nf, fl_non, fl_bl, fl_int, fl_str, fl_tup, fl_lst, fl_rls, fl_dic, flL_n, flL_c, flL_int, flL_str, wipe_n, wipe_c, List.set_cons_zero, List.set_cons_succ, List.set_nil, List.map_cons, List.map_nil, List.length_map, List.length_cons, List.length_nil, List.append_nil, List.nil_append, List.take_succ_cons, List.take_zero, List.drop_succ_cons, List.drop_zero, Nat.zero_add, Nat.reduceAdd, Nat.reduceSub, isNon, optI_n, optI_var, optI_lit, optI_bin, optI_neg, optI_idx, optI_bi, optI_call, optI_gl, optI_mt, bq_t, bq_f, bq_not, bq_yes, bq_no, bq_and, bq_or, Bool.not_true, Bool.not_false, Bool.false_and, Bool.true_and, Bool.and_false, Bool.and_true, Bool.or_false, Bool.false_or, Bool.or_true, Bool.true_or, if_true, if_false, Bool.false_eq_true, true_and, and_true, List.any_cons, List.any_nil, List.isEmpty_cons, List.isEmpty_nil, tB_int_non, tB_int_bl, tB_int_int, tB_int_str, tB_int_lst, tB_int_tup, tB_int_dic, tB_bool_non, tB_bool_bl, tB_bool_int, tB_bool_str, tB_bool_lst, tB_bool_tup, tB_bool_dic, tB_str_non, tB_str_bl, tB_str_int, tB_str_str, tB_str_lst, tB_str_tup, tB_str_dic, tB_list_non, tB_list_bl, tB_list_int, tB_list_str, tB_list_lst, tB_list_tup, tB_list_dic, tB_tuple_non, tB_tuple_bl, tB_tuple_int, tB_tuple_str, tB_tuple_lst, tB_tuple_tup, tB_tuple_dic, tB_dict_non, tB_dict_bl, tB_dict_int, tB_dict_str, tB_dict_lst, tB_dict_tup, tB_dict_dic])
                    exact ⟨_, by cases a <;> cases b <;> rfl⟩
                | _ => first | ((simp (config := {decide := false}) (disch := first | assumption | omega | (simp only [fl_p60, fl_pl, mb_fu, mb_fr, mb_sh, mb_bs, mb_bf, fl_non, fl_bl, fl_int, fl_str, fl_tup, fl_lst, fl_rls, fl_dic, flL_n, flL_c, flL_int, flL_str, isBor_n, isBor_c, pl_non, pl_bl, pl_int, pl_lst, plL_a, pl_tup, plL_n, plL_c, plL_int, at_non, at_bl, at_int, at_str, co_non, co_bl, co_int, co_str, co_lst, co_tup, List.all_cons, List.all_nil, List.length_cons, List.length_nil, List.length_map, beq_self_eq_true, mkb_shfu, mkb_frfu, Bool.false_and, Bool.true_and, Bool.and_true, Bool.and_false, Bool.and_self, Bool.not_true, Bool.not_false, Bool.or_false, Bool.or_true, Bool.true_or, Bool.false_or, Bool.or_self, ne_eq, reduceCtorEq, not_false_eq_true, not_true_eq_false, List.map_cons, List.map_nil]; done) | (have hSZ : SZ = 16777216 := SZ_w; first | omega | (simp only [List.length_map, List.length_append, List.length_cons, List.length_nil, List.length_reverse, List.length_range, List.length_take, List.length_drop, List.length_replicate] <;> omega))) only [gl, c0, c17, c1, c2, c3, wD, c4, c5, c6, c7, c9, c22, c10, c11, c12, c13, c14, c15, c24, c23, c23, ↓wp_ok, ↓wp_ex, ↓wp_bind, ↓w_var, ↓w_cst, ↓w_gl, ↓w_bin, ↓w_neg, ↓w_cmp, ↓w_chain, ↓w_isN, ↓w_notN, ↓w_and, ↓w_or, ↓w_and1, ↓w_and2, ↓w_or1, ↓w_or2, ↓w_not, ↓w_ite, ↓w_lst, ↓w_tup, ↓w_idx, ↓w_slc, ↓w_rev, ↓w_call, ↓w_bi, ↓w_mt1, ↓w_isi, ↓w_comp, ↓w_dcomp, ↓w_dic0, ↓w_dn, ↓w_dc, ↓t_val, ↓t_cmp, ↓t_chain, ↓t_isN, ↓t_notN, ↓t_not, ↓t_and, ↓t_or, ↓t_and1, ↓t_and2, ↓t_or1, ↓t_or2, ↓ts_n, ↓ts_1, ↓i_val, ↓i_rng1, ↓i_rng2, ↓i_enum, ↓i_zip, ↓i_revd, ↓s_nil, ↓s_cons, ↓s_set, ↓s_own, ↓s_par, ↓s_unp, ↓s_aug, ↓s_apd, ↓s_put, ↓s_exp, ↓s_ret, ↓s_retV, ↓s_retN, ↓s_ite, ↓s_for, ↓s_whl, ↓s_brk, ↓s_cnt, ↓s_pas, ↓s_frz, ↓s_nev, ↓s_mtc, ↓m_nil, ↓m_one, ↓m_two, ↓m_any, ↓ow_nx, ↓ow_bk, ↓ow_ct, ↓ow_rt, iw_non, iw_bl, iw_int, iw_str, iw_lst, iw_tup, iw_dic, iw_obj, iw_exc, iw_rls, getV_0, getV_s, getS_0, getS_s, boolW_bl, bindW_nm, bindW_tp, setAll_c, setAll_n, wp_ok, wp_ex, b_addI, b_subI, b_addS, b_addL, b_mulIl, b_mulIr, b_modI, b_divI, b_mulS, w_negI, a_I, a_S, x_lstI, x_rlsI, b_powT, x_lstI', x_str, x_str', x_strM, x_lstM, x_i2, x_i3, x_i4, x_i5, x_i6, x_i11, x_t0, x_t1, x_t2, x_t3, x_l0, cut_to, cut_from, cut_mid, cut_toN, cut_fromN, c_lt, c_le, c_gt, c_ge, c_eq, c_ne, e_same, e_I, e_S, e_B, c_iz, c_niz, c_inS, c_ninS, c_inP, c_ninP, c_inL, c_ninL, c_inT, c_ninT, k_non, k_bl, k_int, k_lst, k_tup, k_str, ty_w, isBor_n, isBor_c, v_lst, v_tup, v_slcL, v_slcS, v_revL, v_revS, bi_1, bi_2, l_lst, l_rls, l_tup, l_str, i_int, i_bl, li_lst, li_tup, li_str, so_int, so_str, al_bl, an_bl, su_int, al_map, an_map, su_map, ab_int, mi_2, ma_2, gc_2, r_joinS, r_indexS, r_indexL, mt_join, it_lst, it_own, it_tup, it_str, rn_ok, en_str, en_lst, zi_lst, re_lst, mb_fu, mb_fr, mb_sh, mb_bs, mb_bf, h_fu, h_fr, h_sh, h_fl, o_fu, o_sh, g_fu, g_fr, g_sh, g_fl, r_some, ol_sh, ol_fu, ap_sh, ap_fu, pu_sh, un_ok, pa_ok, bm_int, bm_str, pm_fr, pm_sh, pm_bs, pm_fu, pm_bf, cm_fr, cm_fu, cm_sh, cm_bs, callM_fl, callM_nb, rdV_fr, rdV_sh, rdV_fu, norm_fl, norm_lst, norm_nf, fl_non, fl_bl, fl_int, fl_str, fl_tup, fl_lst, fl_rls, fl_dic, flL_n, flL_c, flL_int, flL_str, wipe_n, wipe_c, List.set_cons_zero, List.set_cons_succ, List.set_nil, List.map_cons, List.map_nil, List.length_map, List.length_cons, List.length_nil, List.append_nil, List.nil_append, List.take_succ_cons, List.take_zero, List.drop_succ_cons, List.drop_zero, Nat.zero_add, Nat.reduceAdd, Nat.reduceSub, isNon, optI_n, optI_var, optI_lit, optI_bin, optI_neg, optI_idx, optI_bi, optI_call, optI_gl, optI_mt, bq_t, bq_f, bq_not, bq_yes, bq_no, bq_and, bq_or, Bool.not_true, Bool.not_false, Bool.false_and, Bool.true_and, Bool.and_false, Bool.and_true, Bool.or_false, Bool.false_or, Bool.or_true, Bool.true_or, if_true, if_false, Bool.false_eq_true, true_and, and_true, List.any_cons, List.any_nil, List.isEmpty_cons, List.isEmpty_nil, tB_int_non, tB_int_bl, tB_int_int, tB_int_str, tB_int_lst, tB_int_tup, tB_int_dic, tB_bool_non, tB_bool_bl, tB_bool_int, tB_bool_str, tB_bool_lst, tB_bool_tup, tB_bool_dic, tB_str_non, tB_str_bl, tB_str_int, tB_str_str, tB_str_lst, tB_str_tup, tB_str_dic, tB_list_non, tB_list_bl, tB_list_int, tB_list_str, tB_list_lst, tB_list_tup, tB_list_dic, tB_tuple_non, tB_tuple_bl, tB_tuple_int, tB_tuple_str, tB_tuple_lst, tB_tuple_tup, tB_tuple_dic, tB_dict_non, tB_dict_bl, tB_dict_int, tB_dict_str, tB_dict_lst, tB_dict_tup, tB_dict_dic]); exact ⟨_, rfl⟩) | (simp [D.plain] at hpl)
              · rintro E ⟨q6, rfl⟩
                (simp (config := {decide := false}) (disch := first | assumption | omega | (simp only [fl_p60, fl_pl, mb_fu, mb_fr, mb_sh, mb_bs, mb_bf, fl_non, fl_bl, fl_int, fl_str, fl_tup, fl_lst, fl_rls, fl_dic, flL_n, flL_c, flL_int, flL_str, isBor_n, isBor_c, pl_non, pl_bl, pl_int, pl_lst, plL_a, pl_tup, plL_n, plL_c, plL_int, at_non, at_bl, at_int, at_str, co_non, co_bl, co_int, co_str, co_lst, co_tup, List.all_cons, List.all_nil, List.length_cons, List.length_nil, List.length_map, beq_self_eq_true, mkb_shfu, mkb_frfu, Bool.false_and, Bool.true_and, Bool.and_true, Bool.and_false, Bool.and_self, Bool.not_true, Bool.not_false, Bool.or_false, Bool.or_true, Bool.true_or, Bool.false_or, Bool.or_self, ne_eq, reduceCtorEq, not_false_eq_true, not_true_eq_false, List.map_cons, List.map_nil]; done) | (have hSZ : SZ = 16777216 := SZ_w; first | omega | (simp only [List.length_map, List.length_append, List.length_cons, List.length_nil, List.length_reverse, List.length_range, List.length_take, List.length_drop, List.length_replicate] <;> omega))) only [gl, c0, c17, c1, c2, c3, wD, c4, c5, c6, c7, c9, c22, c10, c11, c12, c13, c14, c15, c24, c23, c23, ↓wp_ok, ↓wp_ex, ↓wp_bind, ↓w_var, ↓w_cst, ↓w_gl, ↓w_bin, ↓w_neg, ↓w_cmp, ↓w_chain, ↓w_isN, ↓w_notN, ↓w_and, ↓w_or, ↓w_and1, ↓w_and2, ↓w_or1, ↓w_or2, ↓w_not, ↓w_ite, ↓w_lst, ↓w_tup, ↓w_idx, ↓w_slc, ↓w_rev, ↓w_call, ↓w_bi, ↓w_mt1, ↓w_isi, ↓w_comp, ↓w_dcomp, ↓w_dic0, ↓w_dn, ↓w_dc, ↓t_val, ↓t_cmp, ↓t_chain, ↓t_isN, ↓t_notN, ↓t_not, ↓t_and, ↓t_or, ↓t_and1, ↓t_and2, ↓t_or1, ↓t_or2, ↓ts_n, ↓ts_1, ↓i_val, ↓i_rng1, ↓i_rng2, ↓i_enum, ↓i_zip, ↓i_revd, ↓s_nil, ↓s_cons, ↓s_set, ↓s_own, ↓s_par, ↓s_unp, ↓s_aug, ↓s_apd, ↓s_put, ↓s_exp, ↓s_ret, ↓s_retV, ↓s_retN, ↓s_ite, ↓s_for, ↓s_whl, ↓s_brk, ↓s_cnt, ↓s_pas, ↓s_frz, ↓s_nev, ↓s_mtc, ↓m_nil, ↓m_one, ↓m_two, ↓m_any, ↓ow_nx, ↓ow_bk, ↓ow_ct, ↓ow_rt, iw_non, iw_bl, iw_int, iw_str, iw_lst, iw_tup, iw_dic, iw_obj, iw_exc, iw_rls, getV_0, getV_s, getS_0, getS_s, boolW_bl, bindW_nm, bindW_tp, setAll_c, setAll_n, wp_ok, wp_ex, b_addI, b_subI, b_addS, b_addL, b_mulIl, b_mulIr, b_modI, b_divI, b_mulS, w_negI, a_I, a_S, x_lstI, x_rlsI, b_powT, x_lstI', x_str, x_str', x_strM, x_lstM, x_i2, x_i3, x_i4, x_i5, x_i6, x_i11, x_t0, x_t1, x_t2, x_t3, x_l0, cut_to, cut_from, cut_mid, cut_toN, cut_fromN, c_lt, c_le, c_gt, c_ge, c_eq, c_ne, e_same, e_I, e_S, e_B, c_iz, c_niz, c_inS, c_ninS, c_inP, c_ninP, c_inL, c_ninL, c_inT, c_ninT, k_non, k_bl, k_int, k_lst, k_tup, k_str, ty_w, isBor_n, isBor_c, v_lst, v_tup, v_slcL, v_slcS, v_revL, v_revS, bi_1, bi_2, l_lst, l_rls, l_tup, l_str, i_int, i_bl, li_lst, li_tup, li_str, so_int, so_str, al_bl, an_bl, su_int, al_map, an_map, su_map, ab_int, mi_2, ma_2, gc_2, r_joinS, r_indexS, r_indexL, mt_join, it_lst, it_own, it_tup, it_str, rn_ok, en_str, en_lst, zi_lst, re_lst, mb_fu, mb_fr, mb_sh, mb_bs, mb_bf, h_fu, h_fr, h_sh, h_fl, o_fu, o_sh, g_fu, g_fr, g_sh, g_fl, r_some, ol_sh, ol_fu, ap_sh, ap_fu, pu_sh, un_ok, pa_ok, bm_int, bm_str, pm_fr, pm_sh, pm_bs, pm_fu, pm_bf, cm_fr, cm_fu, cm_sh, cm_bs, callM_fl, callM_nb, rdV_fr, rdV_sh, rdV_fu, norm_fl, norm_lst, norm_nf, fl_non, fl_bl, fl_int, fl_str, fl_tup, fl_lst, fl_rls, fl_dic, flL_n, flL_c, flL_int, flL_str, wipe_n, wipe_c, List.set_cons_zero, List.set_cons_succ, List.set_nil, List.map_cons, List.map_nil, List.length_map, List.length_cons, List.length_nil, List.append_nil, List.nil_append, List.take_succ_cons, List.take_zero, List.drop_succ_cons, List.drop_zero, Nat.zero_add, Nat.reduceAdd, Nat.reduceSub, isNon, optI_n, optI_var, optI_lit, optI_bin, optI_neg, optI_idx, optI_bi, optI_call, optI_gl, optI_mt, bq_t, bq_f, bq_not, bq_yes, bq_no, bq_and, bq_or, Bool.not_true, Bool.not_false, Bool.false_and, Bool.true_and, Bool.and_false, Bool.and_true, Bool.or_false, Bool.false_or, Bool.or_true, Bool.true_or, if_true, if_false, Bool.false_eq_true, true_and, and_true, List.any_cons, List.any_nil, List.isEmpty_cons, List.isEmpty_nil, tB_int_non, tB_int_bl, tB_int_int, tB_int_str, tB_int_lst, tB_int_tup, tB_int_dic, tB_bool_non, tB_bool_bl, tB_bool_int, tB_bool_str, tB_bool_lst, tB_bool_tup, tB_bool_dic, tB_str_non, tB_str_bl, tB_str_int, tB_str_str, tB_str_lst, tB_str_tup, tB_str_dic, tB_list_non, tB_list_bl, tB_list_int, tB_list_str, tB_list_lst, tB_list_tup, tB_list_dic, tB_tuple_non, tB_tuple_bl, tB_tuple_int, tB_tuple_str, tB_tuple_lst, tB_tuple_tup, tB_tuple_dic, tB_dict_non, tB_dict_bl, tB_dict_int, tB_dict_str, tB_dict_lst, tB_dict_tup, tB_dict_dic])
                exact ⟨_, _, _, rfl⟩
            · rintro E ⟨q6, q12, q14, rfl⟩
              (simp (config := {decide := false}) (disch := first | assumption | omega | (simp only [fl_p60, fl_pl, mb_fu, mb_fr, mb_sh, mb_bs, mb_bf, fl_non, fl_bl, fl_int, fl_str, fl_tup, fl_lst, fl_rls, fl_dic, flL_n, flL_c, flL_int, flL_str, isBor_n, isBor_c, pl_non, pl_bl, pl_int, pl_lst, plL_a, pl_tup, plL_n, plL_c, plL_int, at_non, at_bl, at_int, at_str, co_non, co_bl, co_int, co_str, co_lst, co_tup, List.all_cons, List.all_nil, List.length_cons, List.length_nil, List.length_map, beq_self_eq_true, mkb_shfu, mkb_frfu, Bool.false_and, Bool.true_and, Bool.and_true, Bool.and_false, Bool.and_self, Bool.not_true, Bool.not_false, Bool.or_false, Bool.or_true, Bool.true_or, Bool.false_or, Bool.or_self, ne_eq, reduceCtorEq, not_false_eq_true, not_true_eq_false, List.map_cons, List.map_nil]; done) | (have hSZ : SZ = 16777216 := SZ_w; first | omega | (simp only [List.length_map, List.length_append, List.length_cons, List.length_nil, List.length_reverse, List.length_range, List.length_take, List.length_drop, List.length_replicate] <;> omega))) only [gl, c0, c17, c1, c2, c3, wD, c4, c5, c6, c7, c9, c22, c10, c11, c12, c13, c14, c15, c24, c23, c23, ↓wp_ok, ↓wp_ex, ↓wp_bind, ↓w_var, ↓w_cst, ↓w_gl, ↓w_bin, ↓w_neg, ↓w_cmp, ↓w_chain, ↓w_isN, ↓w_notN, ↓w_and, ↓w_or, ↓w_and1, ↓w_and2, ↓w_or1, ↓w_or2, ↓w_not, ↓w_ite, ↓w_lst, ↓w_tup, ↓w_idx, ↓w_slc, ↓w_rev, ↓w_call, ↓w_bi, ↓w_mt1, ↓w_isi, ↓w_comp, ↓w_dcomp, ↓w_dic0, ↓w_dn, ↓w_dc, ↓t_val, ↓t_cmp, ↓t_chain, ↓t_isN, ↓t_notN, ↓t_not, ↓t_and, ↓t_or, ↓t_and1, ↓t_and2, ↓t_or1, ↓t_or2, ↓ts_n, ↓ts_1, ↓i_val, ↓i_rng1, ↓i_rng2, ↓i_enum, ↓i_zip, ↓i_revd, ↓s_nil, ↓s_cons, ↓s_set, ↓s_own, ↓s_par, ↓s_unp, ↓s_aug, ↓s_apd, ↓s_put, ↓s_exp, ↓s_ret, ↓s_retV, ↓s_retN, ↓s_ite, ↓s_for, ↓s_whl, ↓s_brk, ↓s_cnt, ↓s_pas, ↓s_frz, ↓s_nev, ↓s_mtc, ↓m_nil, ↓m_one, ↓m_two, ↓m_any, ↓ow_nx, ↓ow_bk, ↓ow_ct, ↓ow_rt, iw_non, iw_bl, iw_int, iw_str, iw_lst, iw_tup, iw_dic, iw_obj, iw_exc, iw_rls, getV_0, getV_s, getS_0, getS_s, boolW_bl, bindW_nm, bindW_tp, setAll_c, setAll_n, wp_ok, wp_ex, b_addI, b_subI, b_addS, b_addL, b_mulIl, b_mulIr, b_modI, b_divI, b_mulS, w_negI, a_I, a_S, x_lstI, x_rlsI, b_powT, x_lstI', x_str, x_str', x_strM, x_lstM, x_i2, x_i3, x_i4, x_i5, x_i6, x_i11, x_t0, x_t1, x_t2, x_t3, x_l0, cut_to, cut_from, cut_mid, cut_toN, cut_fromN, c_lt, c_le, c_gt, c_ge, c_eq, c_ne, e_same, e_I, e_S, e_B, c_iz, c_niz, c_inS, c_ninS, c_inP, c_ninP, c_inL, c_ninL, c_inT, c_ninT, k_non, k_bl, k_int, k_lst, k_tup, k_str, ty_w, isBor_n, isBor_c, v_lst, v_tup, v_slcL, v_slcS, v_revL, v_revS, bi_1, bi_2, l_lst, l_rls, l_tup, l_str, i_int, i_bl, li_lst, li_tup, li_str, so_int, so_str, al_bl, an_bl, su_int, al_map, an_map, su_map, ab_int, mi_2, ma_2, gc_2, r_joinS, r_indexS, r_indexL, mt_join, it_lst, it_own, it_tup, it_str, rn_ok, en_str, en_lst, zi_lst, re_lst, mb_fu, mb_fr, mb_sh, mb_bs, mb_bf, h_fu, h_fr, h_sh, h_fl, o_fu, o_sh, g_fu, g_fr, g_sh, g_fl, r_some, ol_sh, ol_fu, ap_sh, ap_fu, pu_sh, un_ok, pa_ok, bm_int, bm_str, pm_fr, pm_sh, pm_bs, pm_fu, pm_bf, cm_fr, cm_fu, cm_sh, cm_bs, callM_fl, callM_nb, rdV_fr, rdV_sh, rdV_fu, norm_fl, norm_lst, norm_nf, fl_non, fl_bl, fl_int, fl_str, fl_tup, fl_lst, fl_rls, fl_dic, flL_n, flL_c, flL_int, flL_str, wipe_n, wipe_c, List.set_cons_zero, List.set_cons_succ, List.set_nil, List.map_cons, List.map_nil, List.length_map, List.length_cons, List.length_nil, List.append_nil, List.nil_append, List.take_succ_cons, List.take_zero, List.drop_succ_cons, List.drop_zero, Nat.zero_add, Nat.reduceAdd, Nat.reduceSub, isNon, optI_n, optI_var, optI_lit, optI_bin, optI_neg, optI_idx, optI_bi, optI_call, optI_gl, optI_mt, bq_t, bq_f, bq_not, bq_yes, bq_no, bq_and, bq_or, Bool.not_true, Bool.not_false, Bool.false_and, Bool.true_and, Bool.and_false, Bool.and_true, Bool.or_false, Bool.false_or, Bool.or_true, Bool.true_or, if_true, if_false, Bool.false_eq_true, true_and, and_true, List.any_cons, List.any_nil, List.isEmpty_cons, List.isEmpty_nil, tB_int_non, tB_int_bl, tB_int_int, tB_int_str, tB_int_lst, tB_int_tup, tB_int_dic, tB_bool_non, tB_bool_bl, tB_bool_int, tB_bool_str, tB_bool_lst, tB_bool_tup, tB_bool_dic, tB_str_non, tB_str_bl, tB_str_int, tB_str_str, tB_str_lst, tB_str_tup, tB_str_dic, tB_list_non, tB_list_bl, tB_list_int, tB_list_str, tB_list_lst, tB_list_tup, tB_list_dic, tB_tuple_non, tB_tuple_bl, tB_tuple_int, tB_tuple_str, tB_tuple_lst, tB_tuple_tup, tB_tuple_dic, tB_dict_non, tB_dict_bl, tB_dict_int, tB_dict_str, tB_dict_lst, tB_dict_tup, tB_dict_dic])
              exact ⟨_, _, _, _, _, _, _, _, _, rfl⟩
        · rintro E ⟨q6, q7, q10, q11, q12, q13, q14, q15, q16, rfl⟩
          (simp (config := {decide := false}) (disch := first | assumption | omega | (simp only [fl_p60, fl_pl, mb_fu, mb_fr, mb_sh, mb_bs, mb_bf, fl_non, fl_bl, fl_int, fl_str, fl_tup, fl_lst, fl_rls, fl_dic, flL_n, flL_c, flL_int, flL_str, isBor_n, isBor_c, pl_non, pl_bl, pl_int, pl_lst, plL_a, pl_tup, plL_n, plL_c, plL_int, at_non, at_bl, at_int, at_str, co_non, co_bl, co_int, co_str, co_lst, co_tup, List.all_cons, List.all_nil, List.length_cons, List.length_nil, List.length_map, beq_self_eq_true, mkb_shfu, mkb_frfu, Bool.false_and, Bool.true_and, Bool.and_true, Bool.and_false, Bool.and_self, Bool.not_true, Bool.not_false, Bool.or_false, Bool.or_true, Bool.true_or, Bool.false_or, Bool.or_self, ne_eq, reduceCtorEq, not_false_eq_true, not_true_eq_false, List.map_cons, List.map_nil]; done) | (have hSZ : SZ = 16777216 := SZ_w; first | omega | (simp only [List.length_map, List.length_append, List.length_cons, List.length_nil, List.length_reverse, List.length_range, List.length_take, List.length_drop, List.length_replicate] <;> omega))) only [gl, c0, c17, c1, c2, c3, wD, c4, c5, c6, c7, c9, c22, c10, c11, c12, c13, c14, c15, c24, c23, c23, ↓wp_ok, ↓wp_ex, ↓wp_bind, ↓w_var, ↓w_cst, ↓w_gl, ↓w_bin, ↓w_neg, ↓w_cmp, ↓w_chain, ↓w_isN, ↓w_notN, ↓w_and, ↓w_or, ↓w_and1, ↓w_and2, ↓w_or1, ↓w_or2, ↓w_not, ↓w_ite, ↓w_lst, ↓w_tup, ↓w_idx, ↓w_slc, ↓w_rev, ↓w_call, ↓w_bi, ↓w_mt1, ↓w_isi, ↓w_comp, ↓w_dcomp, ↓w_dic0, ↓w_dn, ↓w_dc, ↓t_val, ↓t_cmp, ↓t_chain, ↓t_isN, ↓t_notN, ↓t_not, ↓t_and, ↓t_or, ↓t_and1, ↓t_and2, ↓t_or1, ↓t_or2, ↓ts_n, ↓ts_1, ↓i_val, ↓i_rng1, ↓i_rng2, ↓i_enum, ↓i_zip, ↓i_revd, ↓s_nil, ↓s_cons, ↓s_set, ↓s_own, ↓s_par, ↓s_unp, ↓s_aug, ↓s_apd, ↓s_put, ↓s_exp, ↓s_ret, ↓s_retV, ↓s_retN, ↓s_ite, ↓s_for, ↓s_whl, ↓s_brk, ↓s_cnt, ↓s_pas, ↓s_frz, ↓s_nev, ↓s_mtc, ↓m_nil, ↓m_one, ↓m_two, ↓m_any, ↓ow_nx, ↓ow_bk, ↓ow_ct, ↓ow_rt, iw_non, iw_bl, iw_int, iw_str, iw_lst, iw_tup, iw_dic, iw_obj, iw_exc, iw_rls, getV_0, getV_s, getS_0, getS_s, boolW_bl, bindW_nm, bindW_tp, setAll_c, setAll_n, wp_ok, wp_ex, b_addI, b_subI, b_addS, b_addL, b_mulIl, b_mulIr, b_modI, b_divI, b_mulS, w_negI, a_I, a_S, x_lstI, x_rlsI, b_powT, x_lstI', x_str, x_str', x_strM, x_lstM, x_i2, x_i3, x_i4, x_i5, x_i6, x_i11, x_t0, x_t1, x_t2, x_t3, x_l0, cut_to, cut_from, cut_mid, cut_toN, cut_fromN, c_lt, c_le, c_gt, c_ge, c_eq, c_ne, e_same, e_I, e_S, e_B, c_iz, c_niz, c_inS, c_ninS, c_inP, c_ninP, c_inL, c_ninL, c_inT, c_ninT, k_non, k_bl, k_int, k_lst, k_tup, k_str, ty_w, isBor_n, isBor_c, v_lst, v_tup, v_slcL, v_slcS, v_revL, v_revS, bi_1, bi_2, l_lst, l_rls, l_tup, l_str, i_int, i_bl, li_lst, li_tup, li_str, so_int, so_str, al_bl, an_bl, su_int, al_map, an_map, su_map, ab_int, mi_2, ma_2, gc_2, r_joinS, r_indexS, r_indexL, mt_join, it_lst, it_own, it_tup, it_str, rn_ok, en_str, en_lst, zi_lst, re_lst, mb_fu, mb_fr, mb_sh, mb_bs, mb_bf, h_fu, h_fr, h_sh, h_fl, o_fu, o_sh, g_fu, g_fr, g_sh, g_fl, r_some, ol_sh, ol_fu, ap_sh, ap_fu, pu_sh, un_ok, pa_ok, bm_int, bm_str, pm_fr, pm_sh, pm_bs, pm_fu, pm_bf, cm_fr, cm_fu, cm_sh, cm_bs, callM_fl, callM_nb, rdV_fr, rdV_sh, rdV_fu, norm_fl, norm_lst, norm_nf, fl_non, fl_bl, fl_int, fl_str, fl_tup, fl_lst, fl_rls, fl_dic, flL_n, flL_c, flL_int, flL_str, wipe_n, wipe_c, List.set_cons_zero, List.set_cons_succ, List.set_nil, List.map_cons, List.map_nil, List.length_map, List.length_cons, List.length_nil, List.append_nil, List.nil_append, List.take_succ_cons, List.take_zero, List.drop_succ_cons, List.drop_zero, Nat.zero_add, Nat.reduceAdd, Nat.reduceSub, isNon, optI_n, optI_var, optI_lit, optI_bin, optI_neg, optI_idx, optI_bi, optI_call, optI_gl, optI_mt, bq_t, bq_f, bq_not, bq_yes, bq_no, bq_and, bq_or, Bool.not_true, Bool.not_false, Bool.false_and, Bool.true_and, Bool.and_false, Bool.and_true, Bool.or_false, Bool.false_or, Bool.or_true, Bool.true_or, if_true, if_false, Bool.false_eq_true, true_and, and_true, List.any_cons, List.any_nil, List.isEmpty_cons, List.isEmpty_nil, tB_int_non, tB_int_bl, tB_int_int, tB_int_str, tB_int_lst, tB_int_tup, tB_int_dic, tB_bool_non, tB_bool_bl, tB_bool_int, tB_bool_str, tB_bool_lst, tB_bool_tup, tB_bool_dic, tB_str_non, tB_str_bl, tB_str_int, tB_str_str, tB_str_lst, tB_str_tup, tB_str_dic, tB_list_non, tB_list_bl, tB_list_int, tB_list_str, tB_list_lst, tB_list_tup, tB_list_dic, tB_tuple_non, tB_tuple_bl, tB_tuple_int, tB_tuple_str, tB_tuple_lst, tB_tuple_tup, tB_tuple_dic, tB_dict_non, tB_dict_bl, tB_dict_int, tB_dict_str, tB_dict_lst, tB_dict_tup, tB_dict_dic])
          exact ⟨_, _, _, _, _, _, _, _, _, _, _, _, _, _, _, _, rfl⟩
  · rintro E ⟨q1, q2, q3, q4, q5, q6, q7, q8, q9, q10, q11, q12, q13, q14, q15, q16, rfl⟩
    (simp (config := {decide := false}) (disch := first | assumption | omega | (simp only [fl_p60, fl_pl, mb_fu, mb_fr, mb_sh, mb_bs, mb_bf, fl_non, fl_bl, fl_int, fl_str, fl_tup, fl_lst, fl_rls, fl_dic, flL_n, flL_c, flL_int, flL_str, isBor_n, isBor_c, pl_non, pl_bl, pl_int, pl_lst, plL_a, pl_tup, plL_n, plL_c, plL_int, at_non, at_bl, at_int, at_str, co_non, co_bl, co_int, co_str, co_lst, co_tup, List.all_cons, List.all_nil, List.length_cons, List.length_nil, List.length_map, beq_self_eq_true, mkb_shfu, mkb_frfu, Bool.false_and, Bool.true_and, Bool.and_true, Bool.and_false, Bool.and_self, Bool.not_true, Bool.not_false, Bool.or_false, Bool.or_true, Bool.true_or, Bool.false_or, Bool.or_self, ne_eq, reduceCtorEq, not_false_eq_true, not_true_eq_false, List.map_cons, List.map_nil]; done) | (have hSZ : SZ = 16777216 := SZ_w; first | omega | (simp only [List.length_map, List.length_append, List.length_cons, List.length_nil, List.length_reverse, List.length_range, List.length_take, List.length_drop, List.length_replicate] <;> omega))) only [gl, c0, c17, c1, c2, c3, wD, c4, c5, c6, c7, c9, c22, c10, c11, c12, c13, c14, c15, c24, c23, c23, ↓wp_ok, ↓wp_ex, ↓wp_bind, ↓w_var, ↓w_cst, ↓w_gl, ↓w_bin, ↓w_neg, ↓w_cmp, ↓w_chain, ↓w_isN, ↓w_notN, ↓w_and, ↓w_or, ↓w_and1, ↓w_and2, ↓w_or1, ↓w_or2, ↓w_not, ↓w_ite, ↓w_lst, ↓w_tup, ↓w_idx, ↓w_slc, ↓w_rev, ↓w_call, ↓w_bi, ↓w_mt1, ↓w_isi, ↓w_comp, ↓w_dcomp, ↓w_dic0, ↓w_dn, ↓w_dc, ↓t_val, ↓t_cmp, ↓t_chain, ↓t_isN, ↓t_notN, ↓t_not, ↓t_and, ↓t_or, ↓t_and1, ↓t_and2, ↓t_or1, ↓t_or2, ↓ts_n, ↓ts_1, ↓i_val, ↓i_rng1, ↓i_rng2, ↓i_enum, ↓i_zip, ↓i_revd, ↓s_nil, ↓s_cons, ↓s_set, ↓s_own, ↓s_par, ↓s_unp, ↓s_aug, ↓s_apd, ↓s_put, ↓s_exp, ↓s_ret, ↓s_retV, ↓s_retN, ↓s_ite, ↓s_for, ↓s_whl, ↓s_brk, ↓s_cnt, ↓s_pas, ↓s_frz, ↓s_nev, ↓s_mtc, ↓m_nil, ↓m_one, ↓m_two, ↓m_any, ↓ow_nx, ↓ow_bk, ↓ow_ct, ↓ow_rt, iw_non, iw_bl, iw_int, iw_str, iw_lst, iw_tup, iw_dic, iw_obj, iw_exc, iw_rls, getV_0, getV_s, getS_0, getS_s, boolW_bl, bindW_nm, bindW_tp, setAll_c, setAll_n, wp_ok, wp_ex, b_addI, b_subI, b_addS, b_addL, b_mulIl, b_mulIr, b_modI, b_divI, b_mulS, w_negI, a_I, a_S, x_lstI, x_rlsI, b_powT, x_lstI', x_str, x_str', x_strM, x_lstM, x_i2, x_i3, x_i4, x_i5, x_i6, x_i11, x_t0, x_t1, x_t2, x_t3, x_l0, cut_to, cut_from, cut_mid, cut_toN, cut_fromN, c_lt, c_le, c_gt, c_ge, c_eq, c_ne, e_same, e_I, e_S, e_B, c_iz, c_niz, c_inS, c_ninS, c_inP, c_ninP, c_inL, c_ninL, c_inT, c_ninT, k_non, k_bl, k_int, k_lst, k_tup, k_str, ty_w, isBor_n, isBor_c, v_lst, v_tup, v_slcL, v_slcS, v_revL, v_revS, bi_1, bi_2, l_lst, l_rls, l_tup, l_str, i_int, i_bl, li_lst, li_tup, li_str, so_int, so_str, al_bl, an_bl, su_int, al_map, an_map, su_map, ab_int, mi_2, ma_2, gc_2, r_joinS, r_indexS, r_indexL, mt_join, it_lst, it_own, it_tup, it_str, rn_ok, en_str, en_lst, zi_lst, re_lst, mb_fu, mb_fr, mb_sh, mb_bs, mb_bf, h_fu, h_fr, h_sh, h_fl, o_fu, o_sh, g_fu, g_fr, g_sh, g_fl, r_some, ol_sh, ol_fu, ap_sh, ap_fu, pu_sh, un_ok, pa_ok, bm_int, bm_str, pm_fr, pm_sh, pm_bs, pm_fu, pm_bf, cm_fr, cm_fu, cm_sh, cm_bs, callM_fl, callM_nb, rdV_fr, rdV_sh, rdV_fu, norm_fl, norm_lst, norm_nf, fl_non, fl_bl, fl_int, fl_str, fl_tup, fl_lst, fl_rls, fl_dic, flL_n, flL_c, flL_int, flL_str, wipe_n, wipe_c, List.set_cons_zero, List.set_cons_succ, List.set_nil, List.map_cons, List.map_nil, List.length_map, List.length_cons, List.length_nil, List.append_nil, List.nil_append, List.take_succ_cons, List.take_zero, List.drop_succ_cons, List.drop_zero, Nat.zero_add, Nat.reduceAdd, Nat.reduceSub, isNon, optI_n, optI_var, optI_lit, optI_bin, optI_neg, optI_idx, optI_bi, optI_call, optI_gl, optI_mt, bq_t, bq_f, bq_not, bq_yes, bq_no, bq_and, bq_or, Bool.not_true, Bool.not_false, Bool.false_and, Bool.true_and, Bool.and_false, Bool.and_true, Bool.or_false, Bool.false_or, Bool.or_true, Bool.true_or, if_true, if_false, Bool.false_eq_true, true_and, and_true, List.any_cons, List.any_nil, List.isEmpty_cons, List.isEmpty_nil, tB_int_non, tB_int_bl, tB_int_int, tB_int_str, tB_int_lst, tB_int_tup, tB_int_dic, tB_bool_non, tB_bool_bl, tB_bool_int, tB_bool_str, tB_bool_lst, tB_bool_tup, tB_bool_dic, tB_str_non, tB_str_bl, tB_str_int, tB_str_str, tB_str_lst, tB_str_tup, tB_str_dic, tB_list_non, tB_list_bl, tB_list_int, tB_list_str, tB_list_lst, tB_list_tup, tB_list_dic, tB_tuple_non, tB_tuple_bl, tB_tuple_int, tB_tuple_str, tB_tuple_lst, tB_tuple_tup, tB_tuple_dic, tB_dict_non, tB_dict_bl, tB_dict_int, tB_dict_str, tB_dict_lst, tB_dict_tup, tB_dict_dic])

theorem holds : ∀ ns : List Int, ns.length ≤ 63 → ∃ m, callD Ps gl 64 8 26 [.rls (ns.map .int)] = .ok (m, .bl true) := fun ns _ => by
  obtain ⟨⟨m, d⟩, e, h⟩ := Rs.wp_ex_some (c26 0 ns)
  cases h
  exact ⟨m, e⟩

end
open PySem PySem.Spec PyProof.Rows L2 DP
def top (i : Nat) : Stmt := PySem.Challenge.pw_slipscaught_k28_faults_of_weights.main.body.getD i (.Pass ⟨0, 0, 0, 0⟩)
def names : List Str := ["is_whole", "is_from_to", "modulus_of", "list_of", "is_modulus", "first_wrong_weight", "check_right", "weight_at", "check_fault_kind", "factor", "is_fault", "all_faults", "has_full_weight", "faults", "are_full", "shows_fault", "_law_numbers", "_law_is_integer", "_law_signs", "is_whole", "_law_weights", "is_whole", "_law_factor", "_law_faults", "_law_gcd", "_law_values", "law"]
def gls : List Str := ["LEAST_MODULUS", "GREATEST_MODULUS", "MOST_WEIGHTS", "MOST_STATES", "WRONG_MODULUS", "WRONG_LENGTH", "FAULT_KINDS"]
theorem sc0 : FnScope ["value"] ["value"] (defScope (top 7)) := ⟨rfl, rfl, rfl, by decide +kernel, rfl, by decide +kernel, by decide +kernel⟩
theorem ck0 : chSs ⟨["value"], defScope (top 7), names, gls, fun _ => true, true⟩ b0 (defBody (top 7)) = true := by decide +kernel
theorem sc1 : FnScope ["value", "least", "greatest"] ["value", "least", "greatest"] (defScope (top 8)) := ⟨rfl, rfl, rfl, by decide +kernel, rfl, by decide +kernel, by decide +kernel⟩
theorem ck1 : chSs ⟨["value", "least", "greatest"], defScope (top 8), names, gls, fun _ => true, true⟩ b1 (defBody (top 8)) = true := by decide +kernel
theorem sc2 : FnScope ["weights"] ["weights"] (defScope (top 16)) := ⟨rfl, rfl, rfl, by decide +kernel, rfl, by decide +kernel, by decide +kernel⟩
theorem ck2 : chSs ⟨["weights"], defScope (top 16), names, gls, fun _ => true, true⟩ b2 (defBody (top 16)) = true := by decide +kernel
theorem sc3 : FnScope ["weights"] ["weights"] (defScope (top 17)) := ⟨rfl, rfl, rfl, by decide +kernel, rfl, by decide +kernel, by decide +kernel⟩
theorem ck3 : chSs ⟨["weights"], defScope (top 17), names, gls, fun _ => true, true⟩ b3 (defBody (top 17)) = true := by decide +kernel
theorem sc4 : FnScope ["value"] ["value"] (defScope (top 18)) := ⟨rfl, rfl, rfl, by decide +kernel, rfl, by decide +kernel, by decide +kernel⟩
theorem ck4 : chSs ⟨["value"], defScope (top 18), names, gls, fun _ => true, true⟩ b4 (defBody (top 18)) = true := by decide +kernel
theorem sc5 : FnScope ["m", "listed", "index", "value"] ["m", "listed"] (defScope (top 19)) := ⟨rfl, rfl, rfl, by decide +kernel, rfl, by decide +kernel, by decide +kernel⟩
theorem ck5 : chSs ⟨["m", "listed", "index", "value"], defScope (top 19), names, gls, fun _ => true, true⟩ b5 (defBody (top 19)) = true := by decide +kernel
theorem sc6 : FnScope ["weights", "index", "m", "listed"] ["weights"] (defScope (top 20)) := ⟨rfl, rfl, rfl, by decide +kernel, rfl, by decide +kernel, by decide +kernel⟩
theorem ck6 : chSs ⟨["weights", "index", "m", "listed"], defScope (top 20), names, gls, fun _ => true, true⟩ b6 (defBody (top 20)) = true := by decide +kernel
theorem sc7 : FnScope ["weights", "place", "listed"] ["weights", "place"] (defScope (top 21)) := ⟨rfl, rfl, rfl, by decide +kernel, rfl, by decide +kernel, by decide +kernel⟩
theorem ck7 : chSs ⟨["weights", "place", "listed"], defScope (top 21), names, gls, fun _ => true, true⟩ b7 (defBody (top 21)) = true := by decide +kernel
theorem sc8 : FnScope ["kind"] ["kind"] (defScope (top 24)) := ⟨rfl, rfl, rfl, by decide +kernel, rfl, by decide +kernel, by decide +kernel⟩
theorem ck8 : chSs ⟨["kind"], defScope (top 24), names, gls, fun _ => true, true⟩ b8 (defBody (top 24)) = true := by decide +kernel
theorem sc9 : FnScope ["weights", "kind", "place", "here"] ["weights", "kind", "place"] (defScope (top 25)) := ⟨rfl, rfl, rfl, by decide +kernel, rfl, by decide +kernel, by decide +kernel⟩
theorem ck9 : chSs ⟨["weights", "kind", "place", "here"], defScope (top 25), names, gls, fun _ => true, true⟩ b9 (defBody (top 25)) = true := by decide +kernel
theorem sc10 : FnScope ["signs", "weights", "kind", "place", "difference"] ["signs", "weights", "kind", "place", "difference"] (defScope (top 26)) := ⟨rfl, rfl, rfl, by decide +kernel, rfl, by decide +kernel, by decide +kernel⟩
theorem ck10 : chSs ⟨["signs", "weights", "kind", "place", "difference"], defScope (top 26), names, gls, fun _ => true, true⟩ b10 (defBody (top 26)) = true := by decide +kernel
theorem sc11 : FnScope ["signs", "weights", "kind", "found", "place", "difference"] ["signs", "weights", "kind"] (defScope (top 27)) := ⟨rfl, rfl, rfl, by decide +kernel, rfl, by decide +kernel, by decide +kernel⟩
theorem ck11 : chSs ⟨["signs", "weights", "kind", "found", "place", "difference"], defScope (top 27), names, gls, fun _ => true, true⟩ b11 (defBody (top 27)) = true := by decide +kernel
theorem sc12 : FnScope ["weights", "weight"] ["weights"] (defScope (top 28)) := ⟨rfl, rfl, rfl, by decide +kernel, rfl, by decide +kernel, by decide +kernel⟩
theorem ck12 : chSs ⟨["weights", "weight"], defScope (top 28), names, gls, fun _ => true, true⟩ b12 (defBody (top 28)) = true := by decide +kernel
theorem sc13 : FnScope ["signs", "weights", "kind"] ["signs", "weights", "kind"] (defScope (top 30)) := ⟨rfl, rfl, rfl, by decide +kernel, rfl, by decide +kernel, by decide +kernel⟩
theorem ck13 : chSs ⟨["signs", "weights", "kind"], defScope (top 30), names, gls, fun _ => true, true⟩ b13 (defBody (top 30)) = true := by decide +kernel
theorem sc14 : FnScope ["signs", "weights"] ["signs", "weights"] (defScope (top 31)) := ⟨rfl, rfl, rfl, by decide +kernel, rfl, by decide +kernel, by decide +kernel⟩
theorem ck14 : chSs ⟨["signs", "weights"], defScope (top 31), names, gls, fun _ => true, true⟩ b14 (defBody (top 31)) = true := by decide +kernel
theorem sc15 : FnScope ["signs", "weights", "kind", "value", "place", "difference"] ["signs", "weights", "kind", "value"] (defScope (top 32)) := ⟨rfl, rfl, rfl, by decide +kernel, rfl, by decide +kernel, by decide +kernel⟩
theorem ck15 : chSs ⟨["signs", "weights", "kind", "value", "place", "difference"], defScope (top 32), names, gls, fun _ => true, true⟩ b15 (defBody (top 32)) = true := by decide +kernel
theorem sc16 : FnScope ["script", "at", "count", "cell", "numbers", "k", "mixed"] ["script", "at", "count"] (defScope (top 34)) := ⟨rfl, rfl, rfl, by decide +kernel, rfl, by decide +kernel, by decide +kernel⟩
theorem ck16 : chSs ⟨["script", "at", "count", "cell", "numbers", "k", "mixed"], defScope (top 34), names, gls, fun _ => true, true⟩ b16 (defBody (top 34)) = true := by decide +kernel
theorem sc17 : FnScope ["value"] ["value"] (defScope (top 35)) := ⟨rfl, rfl, rfl, by decide +kernel, rfl, by decide +kernel, by decide +kernel⟩
theorem ck17 : chSs ⟨["value"], defScope (top 35), names, gls, fun _ => true, true⟩ b17 (defBody (top 35)) = true := by decide +kernel
theorem sc18 : FnScope ["script", "at", "most", "numbers", "left", "found", "k", "spot"] ["script", "at", "most"] (defScope (top 36)) := ⟨rfl, rfl, rfl, by decide +kernel, rfl, by decide +kernel, by decide +kernel⟩
theorem ck18 : chSs ⟨["script", "at", "most", "numbers", "left", "found", "k", "spot"], defScope (top 36), names, gls, fun _ => true, true⟩ b18 (defBody (top 36)) = true := by decide +kernel
theorem sc20 : FnScope ["script", "at", "numbers", "m", "listed", "k"] ["script", "at"] (defScope (top 38)) := ⟨rfl, rfl, rfl, by decide +kernel, rfl, by decide +kernel, by decide +kernel⟩
theorem ck20 : chSs ⟨["script", "at", "numbers", "m", "listed", "k"], defScope (top 38), names, gls, fun _ => true, true⟩ b20 (defBody (top 38)) = true := by decide +kernel
theorem sc22 : FnScope ["listed", "kind", "k", "n"] ["listed", "kind", "k"] (defScope (top 40)) := ⟨rfl, rfl, rfl, by decide +kernel, rfl, by decide +kernel, by decide +kernel⟩
theorem ck22 : chSs ⟨["listed", "kind", "k", "n"], defScope (top 40), names, gls, fun _ => true, true⟩ b22 (defBody (top 40)) = true := by decide +kernel
theorem sc23 : FnScope ["signs", "weights", "kind", "found", "k", "m", "listed", "d"] ["signs", "weights", "kind"] (defScope (top 41)) := ⟨rfl, rfl, rfl, by decide +kernel, rfl, by decide +kernel, by decide +kernel⟩
theorem ck23 : chSs ⟨["signs", "weights", "kind", "found", "k", "m", "listed", "d"], defScope (top 41), names, gls, fun _ => true, true⟩ b23 (defBody (top 41)) = true := by decide +kernel
theorem sc24 : FnScope ["a", "b"] ["a", "b"] (defScope (top 42)) := ⟨rfl, rfl, rfl, by decide +kernel, rfl, by decide +kernel, by decide +kernel⟩
theorem ck24 : chSs ⟨["a", "b"], defScope (top 42), names, gls, fun _ => true, true⟩ b24 (defBody (top 42)) = true := by decide +kernel
theorem sc25 : FnScope ["signs", "listed", "due", "numbers", "found", "k", "d"] ["signs", "listed", "due", "numbers"] (defScope (top 43)) := ⟨rfl, rfl, rfl, by decide +kernel, rfl, by decide +kernel, by decide +kernel⟩
theorem ck25 : chSs ⟨["signs", "listed", "due", "numbers", "found", "k", "d"], defScope (top 43), names, gls, fun _ => true, true⟩ b25 (defBody (top 43)) = true := by decide +kernel
theorem sc26 : FnScope ["script", "turn", "signs", "weights", "numbers", "full", "told", "kind", "m", "listed", "due", "again", "value", "handed", "right", "weight", "pair"] ["script"] (defScope (top 44)) := ⟨rfl, rfl, rfl, by decide +kernel, rfl, by decide +kernel, by decide +kernel⟩
theorem ck26 : chSs ⟨["script", "turn", "signs", "weights", "numbers", "full", "told", "kind", "m", "listed", "due", "again", "value", "handed", "right", "weight", "pair"], defScope (top 44), names, gls, fun _ => true, true⟩ b26 (defBody (top 44)) = true := by decide +kernel
def QD (K : PySem.W.Frag) (mg : Str → Option Value) : Nat → Str → Prop := fun f x => ∃ a fd ps, DefAt K mg Ps names gls true f x a fd ps
def QG (K : PySem.W.Frag) (mg : Str → Option Value) : Nat → Str → Prop := fun k x => ∃ u v, mg x = some u ∧ RelV v u ∧ Data K (fun _ => none) v (gl k)
theorem all_mk {l : PySem.W.OpenLaw} {w : World} {K : PySem.W.Frag} {h : Heap} {mg : Str → Option Value} {fa f0 f1 f2 f3 f4 f5 f6 f7 f8 f9 f10 f11 f12 f13 f14 f15 f16 f17 f18 f20 f22 f23 f24 f25 f26 : Addr} (X : K.In h) (G : h.Ns mainGlobals mg) (hfa : mg "law" = some (.ref fa))
    {od0 an0 : Option Addr} {sl0 : Array (Option Value)} {oc0 kV0 dc0 pm0 cd0 ct0 : Value} {od1 an1 : Option Addr} {sl1 : Array (Option Value)} {oc1 kV1 dc1 pm1 cd1 ct1 : Value} {od2 an2 : Option Addr} {sl2 : Array (Option Value)} {oc2 kV2 dc2 pm2 cd2 ct2 : Value} {od3 an3 : Option Addr} {sl3 : Array (Option Value)} {oc3 kV3 dc3 pm3 cd3 ct3 : Value} {od4 an4 : Option Addr} {sl4 : Array (Option Value)} {oc4 kV4 dc4 pm4 cd4 ct4 : Value} {od5 an5 : Option Addr} {sl5 : Array (Option Value)} {oc5 kV5 dc5 pm5 cd5 ct5 : Value} {od6 an6 : Option Addr} {sl6 : Array (Option Value)} {oc6 kV6 dc6 pm6 cd6 ct6 : Value} {od7 an7 : Option Addr} {sl7 : Array (Option Value)} {oc7 kV7 dc7 pm7 cd7 ct7 : Value} {od8 an8 : Option Addr} {sl8 : Array (Option Value)} {oc8 kV8 dc8 pm8 cd8 ct8 : Value} {od9 an9 : Option Addr} {sl9 : Array (Option Value)} {oc9 kV9 dc9 pm9 cd9 ct9 : Value} {od10 an10 : Option Addr} {sl10 : Array (Option Value)} {oc10 kV10 dc10 pm10 cd10 ct10 : Value} {od11 an11 : Option Addr} {sl11 : Array (Option Value)} {oc11 kV11 dc11 pm11 cd11 ct11 : Value} {od12 an12 : Option Addr} {sl12 : Array (Option Value)} {oc12 kV12 dc12 pm12 cd12 ct12 : Value} {od13 an13 : Option Addr} {sl13 : Array (Option Value)} {oc13 kV13 dc13 pm13 cd13 ct13 : Value} {od14 an14 : Option Addr} {sl14 : Array (Option Value)} {oc14 kV14 dc14 pm14 cd14 ct14 : Value} {od15 an15 : Option Addr} {sl15 : Array (Option Value)} {oc15 kV15 dc15 pm15 cd15 ct15 : Value} {od16 an16 : Option Addr} {sl16 : Array (Option Value)} {oc16 kV16 dc16 pm16 cd16 ct16 : Value} {od17 an17 : Option Addr} {sl17 : Array (Option Value)} {oc17 kV17 dc17 pm17 cd17 ct17 : Value} {od18 an18 : Option Addr} {sl18 : Array (Option Value)} {oc18 kV18 dc18 pm18 cd18 ct18 : Value} {od20 an20 : Option Addr} {sl20 : Array (Option Value)} {oc20 kV20 dc20 pm20 cd20 ct20 : Value} {od22 an22 : Option Addr} {sl22 : Array (Option Value)} {oc22 kV22 dc22 pm22 cd22 ct22 : Value} {od23 an23 : Option Addr} {sl23 : Array (Option Value)} {oc23 kV23 dc23 pm23 cd23 ct23 : Value} {od24 an24 : Option Addr} {sl24 : Array (Option Value)} {oc24 kV24 dc24 pm24 cd24 ct24 : Value} {od25 an25 : Option Addr} {sl25 : Array (Option Value)} {oc25 kV25 dc25 pm25 cd25 ct25 : Value} {od26 an26 : Option Addr} {sl26 : Array (Option Value)} {oc26 kV26 dc26 pm26 cd26 ct26 : Value}
    {t0 t1 t2 t3 t4 t5 t6 t7 t8 t9 t10 : Tok}
    {ga6 : Addr} {gn6 : Nat} {gs6 : Array (Option Value)}
    (a0 : PySem.W.nsIn K mainGlobals "is_whole" = some (some (.ref f0)))
    (l0 : K.lookup f0 = some ⟨oc0, od0, .func (PySem.W.fnOf "is_whole" "is_whole" (defArgs (top 7)) (defBody (top 7)) (defScope (top 7)) .none kV0 dc0 pm0 an0 cd0 ct0), sl0⟩)
    (c0 : PySem.W.codeIn K cd0 "is_whole" = true)
    (k0 : PySem.W.keepIn K (.ref f0) = true)
    (a1 : PySem.W.nsIn K mainGlobals "is_from_to" = some (some (.ref f1)))
    (l1 : K.lookup f1 = some ⟨oc1, od1, .func (PySem.W.fnOf "is_from_to" "is_from_to" (defArgs (top 8)) (defBody (top 8)) (defScope (top 8)) .none kV1 dc1 pm1 an1 cd1 ct1), sl1⟩)
    (c1 : PySem.W.codeIn K cd1 "is_from_to" = true)
    (k1 : PySem.W.keepIn K (.ref f1) = true)
    (a2 : PySem.W.nsIn K mainGlobals "modulus_of" = some (some (.ref f2)))
    (l2 : K.lookup f2 = some ⟨oc2, od2, .func (PySem.W.fnOf "modulus_of" "modulus_of" (defArgs (top 16)) (defBody (top 16)) (defScope (top 16)) .none kV2 dc2 pm2 an2 cd2 ct2), sl2⟩)
    (c2 : PySem.W.codeIn K cd2 "modulus_of" = true)
    (k2 : PySem.W.keepIn K (.ref f2) = true)
    (a3 : PySem.W.nsIn K mainGlobals "list_of" = some (some (.ref f3)))
    (l3 : K.lookup f3 = some ⟨oc3, od3, .func (PySem.W.fnOf "list_of" "list_of" (defArgs (top 17)) (defBody (top 17)) (defScope (top 17)) .none kV3 dc3 pm3 an3 cd3 ct3), sl3⟩)
    (c3 : PySem.W.codeIn K cd3 "list_of" = true)
    (k3 : PySem.W.keepIn K (.ref f3) = true)
    (a4 : PySem.W.nsIn K mainGlobals "is_modulus" = some (some (.ref f4)))
    (l4 : K.lookup f4 = some ⟨oc4, od4, .func (PySem.W.fnOf "is_modulus" "is_modulus" (defArgs (top 18)) (defBody (top 18)) (defScope (top 18)) .none kV4 dc4 pm4 an4 cd4 ct4), sl4⟩)
    (c4 : PySem.W.codeIn K cd4 "is_modulus" = true)
    (k4 : PySem.W.keepIn K (.ref f4) = true)
    (a5 : PySem.W.nsIn K mainGlobals "first_wrong_weight" = some (some (.ref f5)))
    (l5 : K.lookup f5 = some ⟨oc5, od5, .func (PySem.W.fnOf "first_wrong_weight" "first_wrong_weight" (defArgs (top 19)) (defBody (top 19)) (defScope (top 19)) .none kV5 dc5 pm5 an5 cd5 ct5), sl5⟩)
    (c5 : PySem.W.codeIn K cd5 "first_wrong_weight" = true)
    (k5 : PySem.W.keepIn K (.ref f5) = true)
    (a6 : PySem.W.nsIn K mainGlobals "check_right" = some (some (.ref f6)))
    (l6 : K.lookup f6 = some ⟨oc6, od6, .func (PySem.W.fnOf "check_right" "check_right" (defArgs (top 20)) (defBody (top 20)) (defScope (top 20)) .none kV6 dc6 pm6 an6 cd6 ct6), sl6⟩)
    (c6 : PySem.W.codeIn K cd6 "check_right" = true)
    (k6 : PySem.W.keepIn K (.ref f6) = true)
    (a7 : PySem.W.nsIn K mainGlobals "weight_at" = some (some (.ref f7)))
    (l7 : K.lookup f7 = some ⟨oc7, od7, .func (PySem.W.fnOf "weight_at" "weight_at" (defArgs (top 21)) (defBody (top 21)) (defScope (top 21)) .none kV7 dc7 pm7 an7 cd7 ct7), sl7⟩)
    (c7 : PySem.W.codeIn K cd7 "weight_at" = true)
    (k7 : PySem.W.keepIn K (.ref f7) = true)
    (a8 : PySem.W.nsIn K mainGlobals "check_fault_kind" = some (some (.ref f8)))
    (l8 : K.lookup f8 = some ⟨oc8, od8, .func (PySem.W.fnOf "check_fault_kind" "check_fault_kind" (defArgs (top 24)) (defBody (top 24)) (defScope (top 24)) .none kV8 dc8 pm8 an8 cd8 ct8), sl8⟩)
    (c8 : PySem.W.codeIn K cd8 "check_fault_kind" = true)
    (k8 : PySem.W.keepIn K (.ref f8) = true)
    (a9 : PySem.W.nsIn K mainGlobals "factor" = some (some (.ref f9)))
    (l9 : K.lookup f9 = some ⟨oc9, od9, .func (PySem.W.fnOf "factor" "factor" (defArgs (top 25)) (defBody (top 25)) (defScope (top 25)) .none kV9 dc9 pm9 an9 cd9 ct9), sl9⟩)
    (c9 : PySem.W.codeIn K cd9 "factor" = true)
    (k9 : PySem.W.keepIn K (.ref f9) = true)
    (a10 : PySem.W.nsIn K mainGlobals "is_fault" = some (some (.ref f10)))
    (l10 : K.lookup f10 = some ⟨oc10, od10, .func (PySem.W.fnOf "is_fault" "is_fault" (defArgs (top 26)) (defBody (top 26)) (defScope (top 26)) .none kV10 dc10 pm10 an10 cd10 ct10), sl10⟩)
    (c10 : PySem.W.codeIn K cd10 "is_fault" = true)
    (k10 : PySem.W.keepIn K (.ref f10) = true)
    (a11 : PySem.W.nsIn K mainGlobals "all_faults" = some (some (.ref f11)))
    (l11 : K.lookup f11 = some ⟨oc11, od11, .func (PySem.W.fnOf "all_faults" "all_faults" (defArgs (top 27)) (defBody (top 27)) (defScope (top 27)) .none kV11 dc11 pm11 an11 cd11 ct11), sl11⟩)
    (c11 : PySem.W.codeIn K cd11 "all_faults" = true)
    (k11 : PySem.W.keepIn K (.ref f11) = true)
    (a12 : PySem.W.nsIn K mainGlobals "has_full_weight" = some (some (.ref f12)))
    (l12 : K.lookup f12 = some ⟨oc12, od12, .func (PySem.W.fnOf "has_full_weight" "has_full_weight" (defArgs (top 28)) (defBody (top 28)) (defScope (top 28)) .none kV12 dc12 pm12 an12 cd12 ct12), sl12⟩)
    (c12 : PySem.W.codeIn K cd12 "has_full_weight" = true)
    (k12 : PySem.W.keepIn K (.ref f12) = true)
    (a13 : PySem.W.nsIn K mainGlobals "faults" = some (some (.ref f13)))
    (l13 : K.lookup f13 = some ⟨oc13, od13, .func (PySem.W.fnOf "faults" "faults" (defArgs (top 30)) (defBody (top 30)) (defScope (top 30)) .none kV13 dc13 pm13 an13 cd13 ct13), sl13⟩)
    (c13 : PySem.W.codeIn K cd13 "faults" = true)
    (k13 : PySem.W.keepIn K (.ref f13) = true)
    (a14 : PySem.W.nsIn K mainGlobals "are_full" = some (some (.ref f14)))
    (l14 : K.lookup f14 = some ⟨oc14, od14, .func (PySem.W.fnOf "are_full" "are_full" (defArgs (top 31)) (defBody (top 31)) (defScope (top 31)) .none kV14 dc14 pm14 an14 cd14 ct14), sl14⟩)
    (c14 : PySem.W.codeIn K cd14 "are_full" = true)
    (k14 : PySem.W.keepIn K (.ref f14) = true)
    (a15 : PySem.W.nsIn K mainGlobals "shows_fault" = some (some (.ref f15)))
    (l15 : K.lookup f15 = some ⟨oc15, od15, .func (PySem.W.fnOf "shows_fault" "shows_fault" (defArgs (top 32)) (defBody (top 32)) (defScope (top 32)) .none kV15 dc15 pm15 an15 cd15 ct15), sl15⟩)
    (c15 : PySem.W.codeIn K cd15 "shows_fault" = true)
    (k15 : PySem.W.keepIn K (.ref f15) = true)
    (a16 : PySem.W.nsIn K mainGlobals "_law_numbers" = some (some (.ref f16)))
    (l16 : K.lookup f16 = some ⟨oc16, od16, .func (PySem.W.fnOf "_law_numbers" "_law_numbers" (defArgs (top 34)) (defBody (top 34)) (defScope (top 34)) .none kV16 dc16 pm16 an16 cd16 ct16), sl16⟩)
    (c16 : PySem.W.codeIn K cd16 "_law_numbers" = true)
    (k16 : PySem.W.keepIn K (.ref f16) = true)
    (a17 : PySem.W.nsIn K mainGlobals "_law_is_integer" = some (some (.ref f17)))
    (l17 : K.lookup f17 = some ⟨oc17, od17, .func (PySem.W.fnOf "_law_is_integer" "_law_is_integer" (defArgs (top 35)) (defBody (top 35)) (defScope (top 35)) .none kV17 dc17 pm17 an17 cd17 ct17), sl17⟩)
    (c17 : PySem.W.codeIn K cd17 "_law_is_integer" = true)
    (k17 : PySem.W.keepIn K (.ref f17) = true)
    (a18 : PySem.W.nsIn K mainGlobals "_law_signs" = some (some (.ref f18)))
    (l18 : K.lookup f18 = some ⟨oc18, od18, .func (PySem.W.fnOf "_law_signs" "_law_signs" (defArgs (top 36)) (defBody (top 36)) (defScope (top 36)) .none kV18 dc18 pm18 an18 cd18 ct18), sl18⟩)
    (c18 : PySem.W.codeIn K cd18 "_law_signs" = true)
    (k18 : PySem.W.keepIn K (.ref f18) = true)
    (a20 : PySem.W.nsIn K mainGlobals "_law_weights" = some (some (.ref f20)))
    (l20 : K.lookup f20 = some ⟨oc20, od20, .func (PySem.W.fnOf "_law_weights" "_law_weights" (defArgs (top 38)) (defBody (top 38)) (defScope (top 38)) .none kV20 dc20 pm20 an20 cd20 ct20), sl20⟩)
    (c20 : PySem.W.codeIn K cd20 "_law_weights" = true)
    (k20 : PySem.W.keepIn K (.ref f20) = true)
    (a22 : PySem.W.nsIn K mainGlobals "_law_factor" = some (some (.ref f22)))
    (l22 : K.lookup f22 = some ⟨oc22, od22, .func (PySem.W.fnOf "_law_factor" "_law_factor" (defArgs (top 40)) (defBody (top 40)) (defScope (top 40)) .none kV22 dc22 pm22 an22 cd22 ct22), sl22⟩)
    (c22 : PySem.W.codeIn K cd22 "_law_factor" = true)
    (k22 : PySem.W.keepIn K (.ref f22) = true)
    (a23 : PySem.W.nsIn K mainGlobals "_law_faults" = some (some (.ref f23)))
    (l23 : K.lookup f23 = some ⟨oc23, od23, .func (PySem.W.fnOf "_law_faults" "_law_faults" (defArgs (top 41)) (defBody (top 41)) (defScope (top 41)) .none kV23 dc23 pm23 an23 cd23 ct23), sl23⟩)
    (c23 : PySem.W.codeIn K cd23 "_law_faults" = true)
    (k23 : PySem.W.keepIn K (.ref f23) = true)
    (a24 : PySem.W.nsIn K mainGlobals "_law_gcd" = some (some (.ref f24)))
    (l24 : K.lookup f24 = some ⟨oc24, od24, .func (PySem.W.fnOf "_law_gcd" "_law_gcd" (defArgs (top 42)) (defBody (top 42)) (defScope (top 42)) .none kV24 dc24 pm24 an24 cd24 ct24), sl24⟩)
    (c24 : PySem.W.codeIn K cd24 "_law_gcd" = true)
    (k24 : PySem.W.keepIn K (.ref f24) = true)
    (a25 : PySem.W.nsIn K mainGlobals "_law_values" = some (some (.ref f25)))
    (l25 : K.lookup f25 = some ⟨oc25, od25, .func (PySem.W.fnOf "_law_values" "_law_values" (defArgs (top 43)) (defBody (top 43)) (defScope (top 43)) .none kV25 dc25 pm25 an25 cd25 ct25), sl25⟩)
    (c25 : PySem.W.codeIn K cd25 "_law_values" = true)
    (k25 : PySem.W.keepIn K (.ref f25) = true)
    (a26 : PySem.W.nsIn K mainGlobals "law" = some (some (.ref f26)))
    (l26 : K.lookup f26 = some ⟨oc26, od26, .func (PySem.W.fnOf "law" "law" (defArgs (top 44)) (defBody (top 44)) (defScope (top 44)) .none kV26 dc26 pm26 an26 cd26 ct26), sl26⟩)
    (c26 : PySem.W.codeIn K cd26 "law" = true)
    (k26 : PySem.W.keepIn K (.ref f26) = true)
    (gv0 : PySem.W.nsIn K mainGlobals "LEAST_MODULUS" = some (some (.int 2 t0)))
    (gv1 : PySem.W.nsIn K mainGlobals "GREATEST_MODULUS" = some (some (.int 40 t1)))
    (gv2 : PySem.W.nsIn K mainGlobals "MOST_WEIGHTS" = some (some (.int 12 t2)))
    (gv3 : PySem.W.nsIn K mainGlobals "MOST_STATES" = some (some (.int 120 t3)))
    (gv4 : PySem.W.nsIn K mainGlobals "WRONG_MODULUS" = some (some (.int (-1) t4)))
    (gv5 : PySem.W.nsIn K mainGlobals "WRONG_LENGTH" = some (some (.int (-2) t5)))
    (gv6 : PySem.W.nsIn K mainGlobals "FAULT_KINDS" = some (some (.ref ga6)))
    (gl6 : K.lookup ga6 = some ⟨.type "tuple", none, .seq #[(.str (sv [111, 110, 101]) t6), (.str (sv [115, 119, 97, 112]) t7), (.str (sv [116, 119, 105, 110]) t8), (.str (sv [106, 117, 109, 112]) t9), (.str (sv [115, 112, 97, 110]) t10)] gn6, gs6⟩)
    (gc : PySem.W.nsIn K mainGlobals "gcd" = some (some (.builtin "math.gcd")))
    (z_len : PySem.W.nsIn K mainGlobals "len" = some none)
    (z_int : PySem.W.nsIn K mainGlobals "int" = some none)
    (z_list : PySem.W.nsIn K mainGlobals "list" = some none)
    (z_tuple : PySem.W.nsIn K mainGlobals "tuple" = some none)
    (z_sorted : PySem.W.nsIn K mainGlobals "sorted" = some none)
    (z_all : PySem.W.nsIn K mainGlobals "all" = some none)
    (z_any : PySem.W.nsIn K mainGlobals "any" = some none)
    (z_sum : PySem.W.nsIn K mainGlobals "sum" = some none)
    (z_min : PySem.W.nsIn K mainGlobals "min" = some none)
    (z_max : PySem.W.nsIn K mainGlobals "max" = some none)
    (z_abs : PySem.W.nsIn K mainGlobals "abs" = some none)
    (z_str : PySem.W.nsIn K mainGlobals "str" = some none)
    (z_range : PySem.W.nsIn K mainGlobals "range" = some none)
    (z_enumerate : PySem.W.nsIn K mainGlobals "enumerate" = some none)
    (z_zip : PySem.W.nsIn K mainGlobals "zip" = some none)
    (z_reversed : PySem.W.nsIn K mainGlobals "reversed" = some none)
    (z_isinstance : PySem.W.nsIn K mainGlobals "isinstance" = some none)
    (z_bool : PySem.W.nsIn K mainGlobals "bool" = some none)
    (z_dict : PySem.W.nsIn K mainGlobals "dict" = some none)
    (z_set : PySem.W.nsIn K mainGlobals "set" = some none)
    (z_type : PySem.W.nsIn K mainGlobals "type" = some none)
    : ∃ fd : FuncData, (∀ (s : Shared) (v : Value), BindsTo s fd ⟨[v], []⟩ [("script", v)]) ∧ ∀ base : Heap, K.In base → base.Ns mainGlobals mg → FnOk l.prog w K mg base (L2.CX l.prog w) 8 fa fd ["script"] (spOf K (callD Ps gl 64 8) xr0 26) := by
  have e := hfa.symm.trans (PySem.W.mg_of X G a26)
  cases e
  have D0 : DefAt K mg Ps names gls true 0 "is_whole" f0 _ ["value"] := def_at (st := top 7) rfl l0 c0 k0 (PySem.W.mg_of X G a0) sc0 rfl rfl ck0 fun _ _ _ _ _ _ us hl => match us, hl with | [_], _ => rfl
  have D1 : DefAt K mg Ps names gls true 1 "is_from_to" f1 _ ["value", "least", "greatest"] := def_at (st := top 8) rfl l1 c1 k1 (PySem.W.mg_of X G a1) sc1 rfl rfl ck1 fun _ _ _ _ _ _ us hl => match us, hl with | [_, _, _], _ => rfl
  have D2 : DefAt K mg Ps names gls true 2 "modulus_of" f2 _ ["weights"] := def_at (st := top 16) rfl l2 c2 k2 (PySem.W.mg_of X G a2) sc2 rfl rfl ck2 fun _ _ _ _ _ _ us hl => match us, hl with | [_], _ => rfl
  have D3 : DefAt K mg Ps names gls true 3 "list_of" f3 _ ["weights"] := def_at (st := top 17) rfl l3 c3 k3 (PySem.W.mg_of X G a3) sc3 rfl rfl ck3 fun _ _ _ _ _ _ us hl => match us, hl with | [_], _ => rfl
  have D4 : DefAt K mg Ps names gls true 4 "is_modulus" f4 _ ["value"] := def_at (st := top 18) rfl l4 c4 k4 (PySem.W.mg_of X G a4) sc4 rfl rfl ck4 fun _ _ _ _ _ _ us hl => match us, hl with | [_], _ => rfl
  have D5 : DefAt K mg Ps names gls true 5 "first_wrong_weight" f5 _ ["m", "listed"] := def_at (st := top 19) rfl l5 c5 k5 (PySem.W.mg_of X G a5) sc5 rfl rfl ck5 fun _ _ _ _ _ _ us hl => match us, hl with | [_, _], _ => rfl
  have D6 : DefAt K mg Ps names gls true 6 "check_right" f6 _ ["weights"] := def_at (st := top 20) rfl l6 c6 k6 (PySem.W.mg_of X G a6) sc6 rfl rfl ck6 fun _ _ _ _ _ _ us hl => match us, hl with | [_], _ => rfl
  have D7 : DefAt K mg Ps names gls true 7 "weight_at" f7 _ ["weights", "place"] := def_at (st := top 21) rfl l7 c7 k7 (PySem.W.mg_of X G a7) sc7 rfl rfl ck7 fun _ _ _ _ _ _ us hl => match us, hl with | [_, _], _ => rfl
  have D8 : DefAt K mg Ps names gls true 8 "check_fault_kind" f8 _ ["kind"] := def_at (st := top 24) rfl l8 c8 k8 (PySem.W.mg_of X G a8) sc8 rfl rfl ck8 fun _ _ _ _ _ _ us hl => match us, hl with | [_], _ => rfl
  have D9 : DefAt K mg Ps names gls true 9 "factor" f9 _ ["weights", "kind", "place"] := def_at (st := top 25) rfl l9 c9 k9 (PySem.W.mg_of X G a9) sc9 rfl rfl ck9 fun _ _ _ _ _ _ us hl => match us, hl with | [_, _, _], _ => rfl
  have D10 : DefAt K mg Ps names gls true 10 "is_fault" f10 _ ["signs", "weights", "kind", "place", "difference"] := def_at (st := top 26) rfl l10 c10 k10 (PySem.W.mg_of X G a10) sc10 rfl rfl ck10 fun _ _ _ _ _ _ us hl => match us, hl with | [_, _, _, _, _], _ => rfl
  have D11 : DefAt K mg Ps names gls true 11 "all_faults" f11 _ ["signs", "weights", "kind"] := def_at (st := top 27) rfl l11 c11 k11 (PySem.W.mg_of X G a11) sc11 rfl rfl ck11 fun _ _ _ _ _ _ us hl => match us, hl with | [_, _, _], _ => rfl
  have D12 : DefAt K mg Ps names gls true 12 "has_full_weight" f12 _ ["weights"] := def_at (st := top 28) rfl l12 c12 k12 (PySem.W.mg_of X G a12) sc12 rfl rfl ck12 fun _ _ _ _ _ _ us hl => match us, hl with | [_], _ => rfl
  have D13 : DefAt K mg Ps names gls true 13 "faults" f13 _ ["signs", "weights", "kind"] := def_at (st := top 30) rfl l13 c13 k13 (PySem.W.mg_of X G a13) sc13 rfl rfl ck13 fun _ _ _ _ _ _ us hl => match us, hl with | [_, _, _], _ => rfl
  have D14 : DefAt K mg Ps names gls true 14 "are_full" f14 _ ["signs", "weights"] := def_at (st := top 31) rfl l14 c14 k14 (PySem.W.mg_of X G a14) sc14 rfl rfl ck14 fun _ _ _ _ _ _ us hl => match us, hl with | [_, _], _ => rfl
  have D15 : DefAt K mg Ps names gls true 15 "shows_fault" f15 _ ["signs", "weights", "kind", "value"] := def_at (st := top 32) rfl l15 c15 k15 (PySem.W.mg_of X G a15) sc15 rfl rfl ck15 fun _ _ _ _ _ _ us hl => match us, hl with | [_, _, _, _], _ => rfl
  have D16 : DefAt K mg Ps names gls true 16 "_law_numbers" f16 _ ["script", "at", "count"] := def_at (st := top 34) rfl l16 c16 k16 (PySem.W.mg_of X G a16) sc16 rfl rfl ck16 fun _ _ _ _ _ _ us hl => match us, hl with | [_, _, _], _ => rfl
  have D17 : DefAt K mg Ps names gls true 17 "_law_is_integer" f17 _ ["value"] := def_at (st := top 35) rfl l17 c17 k17 (PySem.W.mg_of X G a17) sc17 rfl rfl ck17 fun _ _ _ _ _ _ us hl => match us, hl with | [_], _ => rfl
  have D18 : DefAt K mg Ps names gls true 18 "_law_signs" f18 _ ["script", "at", "most"] := def_at (st := top 36) rfl l18 c18 k18 (PySem.W.mg_of X G a18) sc18 rfl rfl ck18 fun _ _ _ _ _ _ us hl => match us, hl with | [_, _, _], _ => rfl
  have D19 : DefAt K mg Ps names gls true 19 "is_whole" f0 _ ["value"] := def_at (st := top 7) rfl l0 c0 k0 (PySem.W.mg_of X G a0) sc0 rfl rfl ck0 fun _ _ _ _ _ _ us hl => match us, hl with | [_], _ => rfl
  have D20 : DefAt K mg Ps names gls true 20 "_law_weights" f20 _ ["script", "at"] := def_at (st := top 38) rfl l20 c20 k20 (PySem.W.mg_of X G a20) sc20 rfl rfl ck20 fun _ _ _ _ _ _ us hl => match us, hl with | [_, _], _ => rfl
  have D21 : DefAt K mg Ps names gls true 21 "is_whole" f0 _ ["value"] := def_at (st := top 7) rfl l0 c0 k0 (PySem.W.mg_of X G a0) sc0 rfl rfl ck0 fun _ _ _ _ _ _ us hl => match us, hl with | [_], _ => rfl
  have D22 : DefAt K mg Ps names gls true 22 "_law_factor" f22 _ ["listed", "kind", "k"] := def_at (st := top 40) rfl l22 c22 k22 (PySem.W.mg_of X G a22) sc22 rfl rfl ck22 fun _ _ _ _ _ _ us hl => match us, hl with | [_, _, _], _ => rfl
  have D23 : DefAt K mg Ps names gls true 23 "_law_faults" f23 _ ["signs", "weights", "kind"] := def_at (st := top 41) rfl l23 c23 k23 (PySem.W.mg_of X G a23) sc23 rfl rfl ck23 fun _ _ _ _ _ _ us hl => match us, hl with | [_, _, _], _ => rfl
  have D24 : DefAt K mg Ps names gls true 24 "_law_gcd" f24 _ ["a", "b"] := def_at (st := top 42) rfl l24 c24 k24 (PySem.W.mg_of X G a24) sc24 rfl rfl ck24 fun _ _ _ _ _ _ us hl => match us, hl with | [_, _], _ => rfl
  have D25 : DefAt K mg Ps names gls true 25 "_law_values" f25 _ ["signs", "listed", "due", "numbers"] := def_at (st := top 43) rfl l25 c25 k25 (PySem.W.mg_of X G a25) sc25 rfl rfl ck25 fun _ _ _ _ _ _ us hl => match us, hl with | [_, _, _, _], _ => rfl
  have D26 : DefAt K mg Ps names gls true 26 "law" fa _ ["script"] := def_at (st := top 44) rfl l26 c26 k26 (PySem.W.mg_of X G a26) sc26 rfl rfl ck26 fun _ _ _ _ _ _ us hl => match us, hl with | [_], _ => rfl
  have H27 := at_nil (Q := QD K mg) (n := 27)
  have H26 := at_cons (Q := QD K mg) (n := 26) (y := "law") (r := []) ⟨_, _, _, D26⟩ H27
  have H25 := at_cons (Q := QD K mg) (n := 25) (y := "_law_values") (r := ["law"]) ⟨_, _, _, D25⟩ H26
  have H24 := at_cons (Q := QD K mg) (n := 24) (y := "_law_gcd") (r := ["_law_values", "law"]) ⟨_, _, _, D24⟩ H25
  have H23 := at_cons (Q := QD K mg) (n := 23) (y := "_law_faults") (r := ["_law_gcd", "_law_values", "law"]) ⟨_, _, _, D23⟩ H24
  have H22 := at_cons (Q := QD K mg) (n := 22) (y := "_law_factor") (r := ["_law_faults", "_law_gcd", "_law_values", "law"]) ⟨_, _, _, D22⟩ H23
  have H21 := at_cons (Q := QD K mg) (n := 21) (y := "is_whole") (r := ["_law_factor", "_law_faults", "_law_gcd", "_law_values", "law"]) ⟨_, _, _, D21⟩ H22
  have H20 := at_cons (Q := QD K mg) (n := 20) (y := "_law_weights") (r := ["is_whole", "_law_factor", "_law_faults", "_law_gcd", "_law_values", "law"]) ⟨_, _, _, D20⟩ H21
  have H19 := at_cons (Q := QD K mg) (n := 19) (y := "is_whole") (r := ["_law_weights", "is_whole", "_law_factor", "_law_faults", "_law_gcd", "_law_values", "law"]) ⟨_, _, _, D19⟩ H20
  have H18 := at_cons (Q := QD K mg) (n := 18) (y := "_law_signs") (r := ["is_whole", "_law_weights", "is_whole", "_law_factor", "_law_faults", "_law_gcd", "_law_values", "law"]) ⟨_, _, _, D18⟩ H19
  have H17 := at_cons (Q := QD K mg) (n := 17) (y := "_law_is_integer") (r := ["_law_signs", "is_whole", "_law_weights", "is_whole", "_law_factor", "_law_faults", "_law_gcd", "_law_values", "law"]) ⟨_, _, _, D17⟩ H18
  have H16 := at_cons (Q := QD K mg) (n := 16) (y := "_law_numbers") (r := ["_law_is_integer", "_law_signs", "is_whole", "_law_weights", "is_whole", "_law_factor", "_law_faults", "_law_gcd", "_law_values", "law"]) ⟨_, _, _, D16⟩ H17
  have H15 := at_cons (Q := QD K mg) (n := 15) (y := "shows_fault") (r := ["_law_numbers", "_law_is_integer", "_law_signs", "is_whole", "_law_weights", "is_whole", "_law_factor", "_law_faults", "_law_gcd", "_law_values", "law"]) ⟨_, _, _, D15⟩ H16
  have H14 := at_cons (Q := QD K mg) (n := 14) (y := "are_full") (r := ["shows_fault", "_law_numbers", "_law_is_integer", "_law_signs", "is_whole", "_law_weights", "is_whole", "_law_factor", "_law_faults", "_law_gcd", "_law_values", "law"]) ⟨_, _, _, D14⟩ H15
  have H13 := at_cons (Q := QD K mg) (n := 13) (y := "faults") (r := ["are_full", "shows_fault", "_law_numbers", "_law_is_integer", "_law_signs", "is_whole", "_law_weights", "is_whole", "_law_factor", "_law_faults", "_law_gcd", "_law_values", "law"]) ⟨_, _, _, D13⟩ H14
  have H12 := at_cons (Q := QD K mg) (n := 12) (y := "has_full_weight") (r := ["faults", "are_full", "shows_fault", "_law_numbers", "_law_is_integer", "_law_signs", "is_whole", "_law_weights", "is_whole", "_law_factor", "_law_faults", "_law_gcd", "_law_values", "law"]) ⟨_, _, _, D12⟩ H13
  have H11 := at_cons (Q := QD K mg) (n := 11) (y := "all_faults") (r := ["has_full_weight", "faults", "are_full", "shows_fault", "_law_numbers", "_law_is_integer", "_law_signs", "is_whole", "_law_weights", "is_whole", "_law_factor", "_law_faults", "_law_gcd", "_law_values", "law"]) ⟨_, _, _, D11⟩ H12
  have H10 := at_cons (Q := QD K mg) (n := 10) (y := "is_fault") (r := ["all_faults", "has_full_weight", "faults", "are_full", "shows_fault", "_law_numbers", "_law_is_integer", "_law_signs", "is_whole", "_law_weights", "is_whole", "_law_factor", "_law_faults", "_law_gcd", "_law_values", "law"]) ⟨_, _, _, D10⟩ H11
  have H9 := at_cons (Q := QD K mg) (n := 9) (y := "factor") (r := ["is_fault", "all_faults", "has_full_weight", "faults", "are_full", "shows_fault", "_law_numbers", "_law_is_integer", "_law_signs", "is_whole", "_law_weights", "is_whole", "_law_factor", "_law_faults", "_law_gcd", "_law_values", "law"]) ⟨_, _, _, D9⟩ H10
  have H8 := at_cons (Q := QD K mg) (n := 8) (y := "check_fault_kind") (r := ["factor", "is_fault", "all_faults", "has_full_weight", "faults", "are_full", "shows_fault", "_law_numbers", "_law_is_integer", "_law_signs", "is_whole", "_law_weights", "is_whole", "_law_factor", "_law_faults", "_law_gcd", "_law_values", "law"]) ⟨_, _, _, D8⟩ H9
  have H7 := at_cons (Q := QD K mg) (n := 7) (y := "weight_at") (r := ["check_fault_kind", "factor", "is_fault", "all_faults", "has_full_weight", "faults", "are_full", "shows_fault", "_law_numbers", "_law_is_integer", "_law_signs", "is_whole", "_law_weights", "is_whole", "_law_factor", "_law_faults", "_law_gcd", "_law_values", "law"]) ⟨_, _, _, D7⟩ H8
  have H6 := at_cons (Q := QD K mg) (n := 6) (y := "check_right") (r := ["weight_at", "check_fault_kind", "factor", "is_fault", "all_faults", "has_full_weight", "faults", "are_full", "shows_fault", "_law_numbers", "_law_is_integer", "_law_signs", "is_whole", "_law_weights", "is_whole", "_law_factor", "_law_faults", "_law_gcd", "_law_values", "law"]) ⟨_, _, _, D6⟩ H7
  have H5 := at_cons (Q := QD K mg) (n := 5) (y := "first_wrong_weight") (r := ["check_right", "weight_at", "check_fault_kind", "factor", "is_fault", "all_faults", "has_full_weight", "faults", "are_full", "shows_fault", "_law_numbers", "_law_is_integer", "_law_signs", "is_whole", "_law_weights", "is_whole", "_law_factor", "_law_faults", "_law_gcd", "_law_values", "law"]) ⟨_, _, _, D5⟩ H6
  have H4 := at_cons (Q := QD K mg) (n := 4) (y := "is_modulus") (r := ["first_wrong_weight", "check_right", "weight_at", "check_fault_kind", "factor", "is_fault", "all_faults", "has_full_weight", "faults", "are_full", "shows_fault", "_law_numbers", "_law_is_integer", "_law_signs", "is_whole", "_law_weights", "is_whole", "_law_factor", "_law_faults", "_law_gcd", "_law_values", "law"]) ⟨_, _, _, D4⟩ H5
  have H3 := at_cons (Q := QD K mg) (n := 3) (y := "list_of") (r := ["is_modulus", "first_wrong_weight", "check_right", "weight_at", "check_fault_kind", "factor", "is_fault", "all_faults", "has_full_weight", "faults", "are_full", "shows_fault", "_law_numbers", "_law_is_integer", "_law_signs", "is_whole", "_law_weights", "is_whole", "_law_factor", "_law_faults", "_law_gcd", "_law_values", "law"]) ⟨_, _, _, D3⟩ H4
  have H2 := at_cons (Q := QD K mg) (n := 2) (y := "modulus_of") (r := ["list_of", "is_modulus", "first_wrong_weight", "check_right", "weight_at", "check_fault_kind", "factor", "is_fault", "all_faults", "has_full_weight", "faults", "are_full", "shows_fault", "_law_numbers", "_law_is_integer", "_law_signs", "is_whole", "_law_weights", "is_whole", "_law_factor", "_law_faults", "_law_gcd", "_law_values", "law"]) ⟨_, _, _, D2⟩ H3
  have H1 := at_cons (Q := QD K mg) (n := 1) (y := "is_from_to") (r := ["modulus_of", "list_of", "is_modulus", "first_wrong_weight", "check_right", "weight_at", "check_fault_kind", "factor", "is_fault", "all_faults", "has_full_weight", "faults", "are_full", "shows_fault", "_law_numbers", "_law_is_integer", "_law_signs", "is_whole", "_law_weights", "is_whole", "_law_factor", "_law_faults", "_law_gcd", "_law_values", "law"]) ⟨_, _, _, D1⟩ H2
  have H0 := at_cons (Q := QD K mg) (n := 0) (y := "is_whole") (r := ["is_from_to", "modulus_of", "list_of", "is_modulus", "first_wrong_weight", "check_right", "weight_at", "check_fault_kind", "factor", "is_fault", "all_faults", "has_full_weight", "faults", "are_full", "shows_fault", "_law_numbers", "_law_is_integer", "_law_signs", "is_whole", "_law_weights", "is_whole", "_law_factor", "_law_faults", "_law_gcd", "_law_values", "law"]) ⟨_, _, _, D0⟩ H1
  have hd : ∀ f x, names[f]? = some x → ∃ a fd ps, DefAt K mg Ps names gls true f x a fd ps := at_0 (Q := QD K mg) H0
  have J7 := at_nil (Q := QG K mg) (n := 7)
  have J6 := at_cons (Q := QG K mg) (n := 6) (y := "FAULT_KINDS") (r := []) ⟨_, .ref ga6, PySem.W.mg_of X G gv6, rfl, gtup (vs := [.str (sv [111, 110, 101]), .str (sv [115, 119, 97, 112]), .str (sv [116, 119, 105, 110]), .str (sv [106, 117, 109, 112]), .str (sv [115, 112, 97, 110])]) gl6 (by show 5 ≤ sizeLine; decide) (.cons ⟨_, rfl⟩ (.cons ⟨_, rfl⟩ (.cons ⟨_, rfl⟩ (.cons ⟨_, rfl⟩ (.cons ⟨_, rfl⟩ .nil))))) (.cons (.str _) (.cons (.str _) (.cons (.str _) (.cons (.str _) (.cons (.str _) .nil)))))⟩ J7
  have J5 := at_cons (Q := QG K mg) (n := 5) (y := "WRONG_LENGTH") (r := ["FAULT_KINDS"]) ⟨_, .int (-2), PySem.W.mg_of X G gv5, ⟨_, rfl⟩, .int _⟩ J6
  have J4 := at_cons (Q := QG K mg) (n := 4) (y := "WRONG_MODULUS") (r := ["WRONG_LENGTH", "FAULT_KINDS"]) ⟨_, .int (-1), PySem.W.mg_of X G gv4, ⟨_, rfl⟩, .int _⟩ J5
  have J3 := at_cons (Q := QG K mg) (n := 3) (y := "MOST_STATES") (r := ["WRONG_MODULUS", "WRONG_LENGTH", "FAULT_KINDS"]) ⟨_, .int 120, PySem.W.mg_of X G gv3, ⟨_, rfl⟩, .int _⟩ J4
  have J2 := at_cons (Q := QG K mg) (n := 2) (y := "MOST_WEIGHTS") (r := ["MOST_STATES", "WRONG_MODULUS", "WRONG_LENGTH", "FAULT_KINDS"]) ⟨_, .int 12, PySem.W.mg_of X G gv2, ⟨_, rfl⟩, .int _⟩ J3
  have J1 := at_cons (Q := QG K mg) (n := 1) (y := "GREATEST_MODULUS") (r := ["MOST_WEIGHTS", "MOST_STATES", "WRONG_MODULUS", "WRONG_LENGTH", "FAULT_KINDS"]) ⟨_, .int 40, PySem.W.mg_of X G gv1, ⟨_, rfl⟩, .int _⟩ J2
  have J0 := at_cons (Q := QG K mg) (n := 0) (y := "LEAST_MODULUS") (r := ["GREATEST_MODULUS", "MOST_WEIGHTS", "MOST_STATES", "WRONG_MODULUS", "WRONG_LENGTH", "FAULT_KINDS"]) ⟨_, .int 2, PySem.W.mg_of X G gv0, ⟨_, rfl⟩, .int _⟩ J1
  have hg : ∀ k x, gls[k]? = some x → ∃ u v, mg x = some u ∧ RelV v u ∧ Data K (fun _ => none) v (gl k) := at_0 (Q := QG K mg) J0
  have hb : ∀ s, s ∈ bltNames → mg (Str.ofString s) = none := (blt_cons (PySem.W.mg_none_of X G z_len) (blt_cons (PySem.W.mg_none_of X G z_int) (blt_cons (PySem.W.mg_none_of X G z_list) (blt_cons (PySem.W.mg_none_of X G z_tuple) (blt_cons (PySem.W.mg_none_of X G z_sorted) (blt_cons (PySem.W.mg_none_of X G z_all) (blt_cons (PySem.W.mg_none_of X G z_any) (blt_cons (PySem.W.mg_none_of X G z_sum) (blt_cons (PySem.W.mg_none_of X G z_min) (blt_cons (PySem.W.mg_none_of X G z_max) (blt_cons (PySem.W.mg_none_of X G z_abs) (blt_cons (PySem.W.mg_none_of X G z_str) (blt_cons (PySem.W.mg_none_of X G z_range) (blt_cons (PySem.W.mg_none_of X G z_enumerate) (blt_cons (PySem.W.mg_none_of X G z_zip) (blt_cons (PySem.W.mg_none_of X G z_reversed) (blt_cons (PySem.W.mg_none_of X G z_isinstance) (blt_cons (PySem.W.mg_none_of X G z_bool) (blt_cons (PySem.W.mg_none_of X G z_dict) (blt_cons (PySem.W.mg_none_of X G z_set) (blt_cons (PySem.W.mg_none_of X G z_type) blt_nil)))))))))))))))))))))
  have hgcd : true = true → mg "gcd" = some (.builtin "math.gcd") := fun e => PySem.W.mg_of X G gc
  exact ⟨_, fun s v => .of_eq rfl, fun base _ _ => fn_ok hd hg hgcd hb 8 26 "law" fa _ ["script"] D26⟩
end K28
open PySem PySem.W PyProof.Rows in
set_option maxRecDepth 100000 in
set_option maxHeartbeats 0 in
theorem PySem.Challenge.cw_slipscaught_k28_faults_of_weights_holds : PySem.Challenge.rw_slipscaught_k28_faults_of_weights.Holds := by
  w_on; o_law; k_head; (case hw => w_witness2)
  k_fill
  refine DP.law_walk (l := PySem.Challenge.rw_slipscaught_k28_faults_of_weights) (Ps := K28.Ps) (gl := K28.gl) (wb := 64) (k := 8) (f := 26) (xr := DP.xr0) rfl rfl ⟨rfl, by decide, by decide⟩ (fun w h Y => PySem.W.kIn_of Y) ?F K28.holds
  case F =>
    intro w mg fa h KX G hmg
    refine' K28.all_mk KX G hmg ?a0 ?l0 ?c0 ?k0 ?a1 ?l1 ?c1 ?k1 ?a2 ?l2 ?c2 ?k2 ?a3 ?l3 ?c3 ?k3 ?a4 ?l4 ?c4 ?k4 ?a5 ?l5 ?c5 ?k5 ?a6 ?l6 ?c6 ?k6 ?a7 ?l7 ?c7 ?k7 ?a8 ?l8 ?c8 ?k8 ?a9 ?l9 ?c9 ?k9 ?a10 ?l10 ?c10 ?k10 ?a11 ?l11 ?c11 ?k11 ?a12 ?l12 ?c12 ?k12 ?a13 ?l13 ?c13 ?k13 ?a14 ?l14 ?c14 ?k14 ?a15 ?l15 ?c15 ?k15 ?a16 ?l16 ?c16 ?k16 ?a17 ?l17 ?c17 ?k17 ?a18 ?l18 ?c18 ?k18 ?a20 ?l20 ?c20 ?k20 ?a22 ?l22 ?c22 ?k22 ?a23 ?l23 ?c23 ?k23 ?a24 ?l24 ?c24 ?k24 ?a25 ?l25 ?c25 ?k25 ?a26 ?l26 ?c26 ?k26 ?gv0 ?gv1 ?gv2 ?gv3 ?gv4 ?gv5 ?gv6 ?gl6 ?gc ?z_len ?z_int ?z_list ?z_tuple ?z_sorted ?z_all ?z_any ?z_sum ?z_min ?z_max ?z_abs ?z_str ?z_range ?z_enumerate ?z_zip ?z_reversed ?z_isinstance ?z_bool ?z_dict ?z_set ?z_type
    (case a0 => k_is)
    (case l0 => k_is)
    (case c0 => k_is)
    (case k0 => k_is)
    (case a1 => k_is)
    (case l1 => k_is)
    (case c1 => k_is)
    (case k1 => k_is)
    (case a2 => k_is)
    (case l2 => k_is)
    (case c2 => k_is)
    (case k2 => k_is)
    (case a3 => k_is)
    (case l3 => k_is)
    (case c3 => k_is)
    (case k3 => k_is)
    (case a4 => k_is)
    (case l4 => k_is)
    (case c4 => k_is)
    (case k4 => k_is)
    (case a5 => k_is)
    (case l5 => k_is)
    (case c5 => k_is)
    (case k5 => k_is)
    (case a6 => k_is)
    (case l6 => k_is)
    (case c6 => k_is)
    (case k6 => k_is)
    (case a7 => k_is)
    (case l7 => k_is)
    (case c7 => k_is)
    (case k7 => k_is)
    (case a8 => k_is)
    (case l8 => k_is)
    (case c8 => k_is)
    (case k8 => k_is)
    (case a9 => k_is)
    (case l9 => k_is)
    (case c9 => k_is)
    (case k9 => k_is)
    (case a10 => k_is)
    (case l10 => k_is)
    (case c10 => k_is)
    (case k10 => k_is)
    (case a11 => k_is)
    (case l11 => k_is)
    (case c11 => k_is)
    (case k11 => k_is)
    (case a12 => k_is)
    (case l12 => k_is)
    (case c12 => k_is)
    (case k12 => k_is)
    (case a13 => k_is)
    (case l13 => k_is)
    (case c13 => k_is)
    (case k13 => k_is)
    (case a14 => k_is)
    (case l14 => k_is)
    (case c14 => k_is)
    (case k14 => k_is)
    (case a15 => k_is)
    (case l15 => k_is)
    (case c15 => k_is)
    (case k15 => k_is)
    (case a16 => k_is)
    (case l16 => k_is)
    (case c16 => k_is)
    (case k16 => k_is)
    (case a17 => k_is)
    (case l17 => k_is)
    (case c17 => k_is)
    (case k17 => k_is)
    (case a18 => k_is)
    (case l18 => k_is)
    (case c18 => k_is)
    (case k18 => k_is)
    (case a20 => k_is)
    (case l20 => k_is)
    (case c20 => k_is)
    (case k20 => k_is)
    (case a22 => k_is)
    (case l22 => k_is)
    (case c22 => k_is)
    (case k22 => k_is)
    (case a23 => k_is)
    (case l23 => k_is)
    (case c23 => k_is)
    (case k23 => k_is)
    (case a24 => k_is)
    (case l24 => k_is)
    (case c24 => k_is)
    (case k24 => k_is)
    (case a25 => k_is)
    (case l25 => k_is)
    (case c25 => k_is)
    (case k25 => k_is)
    (case a26 => k_is)
    (case l26 => k_is)
    (case c26 => k_is)
    (case k26 => k_is)
    (case gv0 => k_is)
    (case gv1 => k_is)
    (case gv2 => k_is)
    (case gv3 => k_is)
    (case gv4 => k_is)
    (case gv5 => k_is)
    (case gv6 => k_is)
    (case gl6 => k_is)
    (case gc => k_is)
    (case z_len => k_is)
    (case z_int => k_is)
    (case z_list => k_is)
    (case z_tuple => k_is)
    (case z_sorted => k_is)
    (case z_all => k_is)
    (case z_any => k_is)
    (case z_sum => k_is)
    (case z_min => k_is)
    (case z_max => k_is)
    (case z_abs => k_is)
    (case z_str => k_is)
    (case z_range => k_is)
    (case z_enumerate => k_is)
    (case z_zip => k_is)
    (case z_reversed => k_is)
    (case z_isinstance => k_is)
    (case z_bool => k_is)
    (case z_dict => k_is)
    (case z_set => k_is)
    (case z_type => k_is)
