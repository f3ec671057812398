import PyProof.Rows.All
import HandS.ForMost
import HandS.ForExc
import HandS.TupAny
import HandS.TupMul
import HandS.Wide
import HandS.Zip
import HandS.Flow
import HandS.Strs
import HandS.TupLe
import KE.KDictPairs
import PyProof.Rows.SortShellAny
import HandS.SortInts
import HandS.WordsDict
import HandS.IsInst
import HandS.RaiseMore
import HandS.Small
import HandS.More
import KE.GoesEnum
import HandS.EndBits
import HandS.Defaults
import HandS.Words
import HandS.HeadEnd
import HandS.HeadHook1
import HandS.HeadHook2
import HandS.Head0
import HandS.Head1
import HandS.Head2
import PySem.Challenge.RW_leastrecord_k84_looks_and_runs_as_texts
set_option Elab.async false
section
/-! MiniPy, the pure part: data, store, syntax, predicate transformers. -/
set_option linter.all false
namespace Mp

/-! ### data and store -/
inductive D where
  | non | bl (b : Bool) | int (i : Int) | str (s : String) | tup (l : List D)
  /-- a list that nobody changes any more; a new list that nothing holds yet; an object of the store; the script -/
  | fz (l : List D) | tl (l : List D) | ref (n : Nat) | scr (l : List Int)
  deriving Inhabited
inductive MO where
  | lst (l : List D) | dic (l : List (D × D)) | ins (c : String) (fs : List (String × D))
  deriving Inhabited
abbrev Me := List MO
abbrev Sg := List (Option D)
def line : Nat := 16777216
structure Exn where
  cls : String
  fs : List (String × D)

/-- a value as it is stored: a new list is frozen -/
def frz : D → D
  | .tl xs => .fz xs
  | d => d
mutual
/-- no object of a number from n on -/
def clsD (n : Nat) : D → Bool
  | .tup l => clsDs n l
  | .fz l => clsDs n l
  | .tl l => clsDs n l
  | .ref k => decide (k < n)
  | _ => true
def clsDs (n : Nat) : List D → Bool
  | [] => true
  | d :: r => clsD n d && clsDs n r
end
def clsO (n : Nat) : MO → Bool
  | .lst l => clsDs n l
  | .dic l => l.all fun p => clsD n p.1 && clsD n p.2
  | .ins _ fs => fs.all fun p => clsD n p.2
def clsM (n : Nat) (M : Me) : Bool := M.all (clsO n)
mutual
def D.eqv : D → D → Bool
  | .non, .non => true
  | .bl a, .bl b => a == b
  | .bl a, .int j => (if a then (1 : Int) else 0) == j
  | .int i, .bl b => i == (if b then (1 : Int) else 0)
  | .int i, .int j => i == j
  | .str x, .str y => decide (x = y)
  | .tup a, .tup b => D.eqvs a b
  | .fz a, .fz b => D.eqvs a b
  | _, _ => false
def D.eqvs : List D → List D → Bool
  | [], [] => true
  | x :: xs, y :: ys => D.eqv x y && D.eqvs xs ys
  | _, _ => false
end
mutual
/-- plain data, at most so deep -/
def pln : Nat → D → Bool
  | _, .non => true
  | _, .bl _ => true
  | _, .int _ => true
  | _, .str _ => true
  | n, .tup l => (match n with
    | 0 => false
    | n + 1 => plns n l)
  | n, .fz l => (match n with
    | 0 => false
    | n + 1 => plns n l)
  | _, _ => false
def plns : Nat → List D → Bool
  | _, [] => true
  | n, d :: r => pln n d && plns n r
end
def flat : D → Bool
  | .non => true
  | .bl _ => true
  | .int _ => true
  | .str _ => true
  | _ => false
/-- a key of a dict -/
def isKey : D → Bool
  | .int _ => true
  | .str _ => true
  | _ => false
def keq : D → D → Bool
  | .int i, .int j => decide (i = j)
  | .str x, .str y => decide (x = y)
  | _, _ => false
def look (l : List (D × D)) (k : D) : Option D := (l.find? fun p => keq p.1 k).map (·.2)
def put (l : List (D × D)) (k v : D) : List (D × D) := if l.any (fun p => keq p.1 k) then l.map (fun p => if keq p.1 k then (p.1, v) else p) else l ++ [(k, v)]
def puts (l : List (D × D)) : List (D × D) → List (D × D)
  | [] => l
  | p :: r => puts (put l p.1 p.2) r
def fput (f : String) (v : D) : List (String × D) → List (String × D)
  | [] => [(f, v)]
  | (g, x) :: r => if g = f then (g, v) :: r else (g, x) :: fput f v r
def flook (f : String) : List (String × D) → Option D
  | [] => none
  | (g, x) :: r => if g = f then some x else flook f r
def mget (M : Me) (n : Nat) : Option MO := M[n]?
def lstAt (M : Me) (n : Nat) : Option (List D) := match mget M n with
  | some (.lst xs) => some xs
  | _ => none
def dicAt (M : Me) (n : Nat) : Option (List (D × D)) := match mget M n with
  | some (.dic xs) => some xs
  | _ => none
def insAt (M : Me) (n : Nat) : Option (String × List (String × D)) := match mget M n with
  | some (.ins c fs) => some (c, fs)
  | _ => none
/-- a list's items -/
def lstOf (M : Me) : D → Option (List D)
  | .fz xs => some xs
  | .tl xs => some xs
  | .scr l => some (l.map .int)
  | .ref n => lstAt M n
  | _ => none
/-- a list's or a tuple's items -/
def seqOf (M : Me) : D → Option (List D)
  | .tup xs => some xs
  | d => lstOf M d
def vw (M : Me) (d : D) : D := match lstOf M d with
  | some xs => .fz xs
  | none => d
def get : Sg → Nat → Option D
  | [], _ => none
  | x :: _, 0 => x
  | _ :: r, n + 1 => get r n
def sset : Sg → Nat → D → Sg
  | [], _, _ => []
  | _ :: r, 0, d => some d :: r
  | x :: r, n + 1, d => x :: sset r n d
def ssets : Sg → List Nat → List D → Option Sg
  | σ, [], [] => some σ
  | σ, i :: is, d :: ds => ssets (sset σ i d) is ds
  | _, _, _ => none
def wipe1 : Sg → Nat → Sg
  | [], _ => []
  | _ :: r, 0 => none :: r
  | x :: r, n + 1 => x :: wipe1 r n
def wipes (σ : Sg) : List Nat → Sg
  | [] => σ
  | v :: vs => wipe1 (wipes σ vs) v
def start (ds : List D) (n : Nat) : Sg := ds.map some ++ List.replicate (n - ds.length) none

/-! ### operators -/
inductive BOp where | add | sub | mul | div | mod | pow
  deriving DecidableEq
inductive COp where | eq | ne | lt | le | gt | ge | isin | notin | is | isnot
  deriving DecidableEq
def notScr : D → Bool
  | .scr _ => false
  | _ => true
def catOf (M : Me) (x y : D) : Option D := (lstOf M x).bind fun a => (lstOf M y).bind fun b => if notScr x = true ∧ notScr y = true ∧ a.length + b.length ≤ line then some (.tl (a ++ b)) else none
def addOf (M : Me) (x y : D) : Option D := match x, y with
  | .int i, .int j => some (.int (i + j))
  | .str a, .str b => if a.length + b.length ≤ line then some (.str (a ++ b)) else none
  | .tup a, .tup b => if a.length + b.length ≤ line then some (.tup (a ++ b)) else none
  | x, y => catOf M x y
/-- two intS -/
def ii {α : Type} (x y : D) (f : Int → Int → Option α) : Option α := match x, y with
  | .int i, .int j => f i j
  | _, _ => none
def mulI (i j : Int) : Option D := if (-(2 ^ 64) < i ∧ i < 2 ^ 64) ∨ (-(2 ^ 64) < j ∧ j < 2 ^ 64) then some (.int (i * j)) else none
def mulOf (M : Me) (x y : D) : Option D := match x, y with
  | .int i, .int j => mulI i j
  | x, .int k => (lstOf M x).bind fun a => if notScr x = true ∧ -(2 ^ 63) ≤ k ∧ k < 2 ^ 63 ∧ a.length * k.toNat ≤ line then some (.tl (List.replicate k.toNat a).flatten) else none
  | _, _ => none
def bin (M : Me) : BOp → D → D → Option D
  | .add, x, y => addOf M x y
  | .sub, x, y => ii x y fun i j => some (.int (i - j))
  | .mul, x, y => mulOf M x y
  | .div, x, y => ii x y fun i j => if 0 < j ∧ j < 2 ^ 64 then some (.int (i / j)) else none
  | .mod, x, y => ii x y fun i j => if 0 < j then some (.int (i % j)) else none
  | .pow, x, y => ii x y fun i j => if 0 ≤ j ∧ j ≤ 1000000 ∧ i.natAbs < 2 ^ 64 then some (.int (i ^ j.toNat)) else none
def inSeq (x : D) (xs : List D) : Option Bool := if flat x && xs.all flat then some (xs.any fun y => D.eqv y x) else none
def inStr (x : D) (s : String) : Option Bool := match x with
  | .str t => (match t.toList with
    | [c] => some (decide (c ∈ s.toList))
    | _ => none)
  | _ => none
def cin (M : Me) (x y : D) : Option Bool := match y with
  | .str s => inStr x s
  | y => (match seqOf M y with
    | some xs => inSeq x xs
    | none => (match y with
      | .ref n => (dicAt M n).bind fun l => if isKey x then some (look l x).isSome else none
      | _ => none))
def eqOf (M : Me) (x y : D) : Option Bool := if pln 60 (vw M x) = true ∧ pln 60 (vw M y) = true then some (D.eqv (vw M x) (vw M y)) else none
def isN : D → Bool
  | .non => true
  | _ => false
def isOf (x y : D) : Option Bool := match y with
  | .non => some (isN x)
  | .bl b => (match x with
    | .bl a => some (a == b)
    | _ => none)
  | _ => none
def cmp (M : Me) : COp → D → D → Option Bool
  | .eq, x, y => eqOf M x y
  | .ne, x, y => (eqOf M x y).map not
  | .lt, x, y => ii x y fun i j => some (decide (i < j))
  | .le, x, y => ii x y fun i j => some (decide (i ≤ j))
  | .gt, x, y => ii x y fun i j => some (decide (j < i))
  | .ge, x, y => ii x y fun i j => some (decide (j ≤ i))
  | .isin, x, y => cin M x y
  | .notin, x, y => (cin M x y).map not
  | .is, x, y => isOf x y
  | .isnot, x, y => (isOf x y).map not
def tru (M : Me) : D → Option Bool
  | .non => some false
  | .bl b => some b
  | .int i => some (i != 0)
  | .str s => if s.length ≤ line then some (decide (s ≠ "")) else none
  | d => (match seqOf M d with
    | some xs => some (!xs.isEmpty)
    | none => (match d with
      | .ref n => (dicAt M n).map fun l => !l.isEmpty
      | _ => none))
def intOf : D → Option Int
  | .int i => some i
  | _ => none
def pix {α : Type} (xs : List α) (i : Int) : Option α := if 0 ≤ i then xs[i.toNat]? else if -(xs.length : Int) ≤ i then xs[(i + xs.length).toNat]? else none
def ixOf (M : Me) (a i : D) : Option D := match a with
  | .str s => (intOf i).bind fun k => if s.length ≤ line then (pix s.toList k).map fun c => .str (String.singleton c) else none
  | a => (match seqOf M a with
    | some xs => (intOf i).bind fun k => pix xs k
    | none => (match a with
      | .ref n => (dicAt M n).bind fun l => if isKey i then look l i else none
      | _ => none))
/-- a slice's end -/
def sEnd (n d : Nat) : Option Int → Nat
  | none => d
  | some v => if v < 0 then (v + (n : Int)).toNat else min v.toNat n
def cutL {α : Type} (xs : List α) (lo hi : Option Int) : List α := (xs.drop (sEnd xs.length 0 lo)).take (sEnd xs.length xs.length hi - sEnd xs.length 0 lo)
def slOf (M : Me) (a : D) (lo hi : Option Int) : Option D := match a with
  | .tup xs => some (.tup (cutL xs lo hi))
  | .str s => if s.length ≤ line then some (.str (String.ofList (cutL s.toList lo hi))) else none
  | a => (lstOf M a).map fun xs => .tl (cutL xs lo hi)
/-! ### syntax -/
inductive Bi where
  | len | tuple | list | sorted | sum | all | abs | int | str | min2 | max2 | min1 | max1 | dict | repr | sset | lset
  deriving DecidableEq
inductive Mt where
  | append | pop | pop0 | insert | extend | index | get1 | get2 | setd | join | split | clear | count | starts
  | own (m : String)
  deriving DecidableEq
inductive Tg where
  | n (i : Nat) | tu (is : List Nat)
mutual
inductive E where
  | c (d : D) | v (i : Nat) | g (x : String)
  | bin (o : BOp) (a b : E) | neg (a : E)
  | cmp (o : COp) (a b : E) | ch (o p : COp) (a b c : E)
  | and (a b : E) | or (a b : E) | not (a : E) | ite (t a b : E)
  | tup (es : Es) | lst (es : Es) | dic (ks : List D) (vs : Es)
  | ix (a i : E) | sl (a : E) (lo hi : Oe)
  | call (f : String) (es : Es) | new (c : String) (es : Es) | bi (f : Bi) (es : Es) | mt (o : E) (m : Mt) (es : Es)
  | fld (o : E) (f : String) | isi (a : E) (ts : List String)
  | al (e : E)
  | lc (elt : E) (tg : Tg) (it : Ie) (cond : E) (own : List Nat)
inductive Es where
  | nil | cons (e : E) (r : Es)
inductive Oe where
  | no | some (e : E)
inductive Ie where
  | rng (a : E) | rng2 (a b : E) | enum (a : E) | zip (a b : E) | of (e : E)
end
mutual
inductive S where
  | asg (i : Nat) (e : E) | tas (is : List Nat) (e : E) | par (is : List Nat) (es : Es)
  | ixs (o i e : E) | fas (o : E) (f : String) (e : E)
  | ex (e : E) | ret (e : E) | retn
  | iff (t : E) (a b : Ss) | for_ (tg : Tg) (it : Ie) (b : Ss) | whl (t : E) (b : Ss)
  | raise (c : String) (es : Es) | try_ (b : Ss) (c : String) (n : Option Nat) (h : Ss)
  | pass | brk | cont
inductive Ss where
  | nil | cons (s : S) (r : Ss)
end
structure Fn where
  ps : Nat
  n : Nat
  body : Ss
structure Cn where
  T : String → Option Fn
  G : String → Option D
  /-- a class's fields -/
  A : String → List String

/-! ### predicate transformers -/
abbrev QD := D → Me → Prop
abbrev QX := Exn → Me → Prop
abbrev Or := String → List D → Me → QD → QX → Prop
structure Post where
  nx : Sg → Me → Prop
  rt : QD
  bk : Sg → Me → Prop
  ct : Sg → Me → Prop
  ex : Exn → Sg → Me → Prop
/-- where there is one, Q of it -/
def opt {α : Type} (o : Option α) (Q : α → Prop) : Prop := match o with
  | some a => Q a
  | none => False
@[simp] theorem opt_some {α : Type} (a : α) (Q : α → Prop) : opt (some a) Q = Q a := rfl
@[simp] theorem opt_none {α : Type} (Q : α → Prop) : opt none Q = False := rfl
theorem opt_mono {α : Type} {o : Option α} {Q Q' : α → Prop} (h : opt o Q) (hq : ∀ a, Q a → Q' a) : opt o Q' := by
  cases o with
  | none => exact h
  | some a => exact hq a h
def asgO (t : Tg) (x : D) (σ : Sg) (M : Me) : Option Sg := match t with
  | .n i => some (sset σ i (frz x))
  | .tu is => (seqOf M x).bind fun ds => ssets σ is ds
/-- what is walked: the items; the number of the list in the store that has to stay -/
structure It where
  xs : List D
  gd : Option Nat
def It.ok (I : It) (M : Me) : Prop := match I.gd with
  | none => True
  | some n => mget M n = some (.lst I.xs)
def itOf (M : Me) : D → Option It
  | .tup xs => some ⟨xs, none⟩
  | .fz xs => some ⟨xs, none⟩
  | .tl xs => some ⟨xs, none⟩
  | .scr l => some ⟨l.map .int, none⟩
  | .str s => some ⟨s.toList.map fun c => .str (String.singleton c), none⟩
  | .ref n => (lstAt M n).map fun xs => ⟨xs, some n⟩
  | _ => none
def rngL (lo hi : Int) : List D := (List.range (hi - lo).toNat).map fun (k : Nat) => .int (lo + k)
def enumL (k : Int) : List D → List D
  | [] => []
  | x :: r => .tup [.int k, x] :: enumL (k + 1) r
def zipL : List D → List D → List D
  | x :: xs, y :: ys => .tup [x, y] :: zipL xs ys
  | _, _ => []
def sm (M : Me) : List D → Option Int
  | [] => some 0
  | .int i :: r => (sm M r).map (i + ·)
  | _ => none
def bls : List D → Option (List Bool)
  | [] => some []
  | .bl b :: r => (bls r).map (b :: ·)
  | _ => none
def intS : List D → Option (List Int)
  | [] => some []
  | .int b :: r => (intS r).map (b :: ·)
  | _ => none
def strS : List D → Option (List String)
  | [] => some []
  | .str b :: r => (strS r).map (b :: ·)
  | _ => none
def prs : List D → Option (List (D × D))
  | [] => some []
  | .tup [k, v] :: r => if isKey k then (prs r).map ((k, v) :: ·) else none
  | _ => none
def joinS (sep : String) : List String → String
  | [] => ""
  | [x] => x
  | x :: r => x ++ sep ++ joinS sep r
def strL (s t : String) : Prop := s.toList.map Char.toNat < t.toList.map Char.toNat
/-- built-in functions whose value is told; what they make is new -/
def lenOf (M : Me) (d : D) : Option Nat := match d with
  | .str s => if s.length ≤ line then some s.length else none
  | d => (match seqOf M d with
    | some xs => some xs.length
    | none => (match d with
      | .ref n => (dicAt M n).map List.length
      | _ => none))
def strOf : D → Option D
  | .int i => if i.natAbs < 2 ^ 1000 then some (.str (toString i)) else none
  | .str s => some (.str s)
  | _ => none
def intOfB : D → Option D
  | .int i => some (.int i)
  | .bl b => some (.int (if b then 1 else 0))
  | _ => none
/-- built-in functions of one argument whose value is told; what they make is new -/
def bi1 (M : Me) (f : Bi) (d : D) : Option D := match f with
  | .len => (lenOf M d).map fun (n : Nat) => D.int (n : Int)
  | .tuple => (seqOf M d).map .tup
  | .list => (seqOf M d).map .tl
  | .sum => ((lstOf M d).bind (sm M)).map .int
  | .all => ((lstOf M d).bind bls).map fun bs => .bl (bs.all id)
  | .abs => (intOf d).map fun i => .int (if i < 0 then -i else i)
  | .int => intOfB d
  | .str => strOf d
  | _ => none
def bi2 (f : Bi) (x y : D) : Option D := match f with
  | .min2 => ii x y fun i j => some (.int (if j < i then j else i))
  | .max2 => ii x y fun i j => some (.int (if j > i then j else i))
  | _ => none
def biOf (M : Me) (f : Bi) (ds : List D) : Option D := match ds with
  | [d] => bi1 M f d
  | [x, y] => bi2 f x y
  | _ => none
/-- what dict() makes -/
def dictOf (M : Me) (ds : List D) : Option (List (D × D)) := match ds with
  | [d] => (match seqOf M d with
    | some xs => (prs xs).map (puts [])
    | none => (match d with
      | .ref n => dicAt M n
      | _ => none))
  | _ => none
/-- what is sorted: texts, intS -/
def srtL (xs : List D) : Option (List String ⊕ List Int) := match strS xs with
  | some ks => some (.inl ks)
  | none => (intS xs).map .inr
def srtOf (M : Me) (ds : List D) : Option (List String ⊕ List Int) := match ds with
  | [d] => (match seqOf M d with
    | some xs => srtL xs
    | none => (match d with
      | .ref n => (dicAt M n).bind fun l => if l.length < 64 then srtL (l.map (·.1)) else none
      | _ => none))
  | _ => none
def Rises (ys ks : List String) : Prop := ys.Perm ks ∧ ys.Pairwise fun a b => ¬ strL b a
def RisesI (ys ks : List Int) : Prop := ys.Perm ks ∧ ys.Pairwise (· ≤ ·)
def wSort (k : List String ⊕ List Int) (Q : D → Prop) : Prop := match k with
  | .inl ks => ∀ ys, Rises ys ks → Q (.tl (ys.map .str))
  | .inr ks => ∀ ys, RisesI ys ks → Q (.tl (ys.map .int))
/-- built-in functions -/
def wBi (M : Me) (f : Bi) (ds : List D) (Q : QD) : Prop := match f with
  | .dict => opt (dictOf M ds) fun l => Q (.ref M.length) (M ++ [.dic l])
  | .sorted => opt (srtOf M ds) fun k => wSort k fun d => Q d M
  | f => opt (biOf M f ds) fun d => Q d M
def isTy (M : Me) (d : D) (t : String) : Option Bool := match d with
  | .non => some false
  | .bl _ => some (t == "bool" || t == "int")
  | .int _ => some (t == "int")
  | .str _ => some (t == "str")
  | .tup _ => some (t == "tuple")
  | d => (lstOf M d).map fun _ => t == "list"
/-- methods of lists, dicts, texts: the receiver, the arguments -/
def mtOf (M : Me) (m : Mt) (o : D) (ds : List D) : Option (D × Me) := match m, o, ds with
  | .append, .ref n, [x] => (lstAt M n).bind fun xs => if xs.length < line then some (.non, M.set n (.lst (xs ++ [frz x]))) else none
  | .insert, .ref n, [.int i, x] => (lstAt M n).bind fun xs => if xs.length < line ∧ 0 ≤ i ∧ i < 2 ^ 62 then some (.non, M.set n (.lst (xs.take i.toNat ++ [frz x] ++ xs.drop i.toNat))) else none
  | .pop, .ref n, [] => (lstAt M n).bind fun xs => xs.getLast?.map fun x => (x, M.set n (.lst xs.dropLast))
  | .pop0, .ref n, [.int 0] => (lstAt M n).bind fun xs => xs.head?.map fun x => (x, M.set n (.lst xs.tail))
  | .extend, .ref n, [d] => (lstAt M n).bind fun xs => (lstOf M d).bind fun ys => if notScr d = true ∧ xs.length + ys.length ≤ line then some (.non, M.set n (.lst (xs ++ ys))) else none
  | .get2, .ref n, [k, z] => (dicAt M n).bind fun l => if isKey k then some ((look l k).getD (frz z), M) else none
  | .get1, .ref n, [k] => (dicAt M n).bind fun l => if isKey k then some ((look l k).getD .non, M) else none
  | .index, d, [x] => (lstOf M d).bind fun xs => if flat x && xs.all flat then (xs.findIdx? fun y => D.eqv y x).map fun (j : Nat) => (D.int (j : Int), M) else none
  | .join, .str s, [d] => ((seqOf M d).bind strS).bind fun ys => if (ys.map String.length).sum + ys.length * s.length ≤ line then some (.str (joinS s ys), M) else none
  | _, _, _ => none
/-- what a method's receiver has to be -/
def mtRc (M : Me) (m : Mt) (x : D) : Bool := match m, x with
  | .get1, .ref n => (dicAt M n).isSome
  | .get2, .ref n => (dicAt M n).isSome
  | .join, .str _ => true
  | .index, d => (lstOf M d).isSome
  | .append, .ref n => (lstAt M n).isSome
  | .pop, .ref n => (lstAt M n).isSome
  | .pop0, .ref n => (lstAt M n).isSome
  | .insert, .ref n => (lstAt M n).isSome
  | .extend, .ref n => (lstAt M n).isSome
  | _, _ => false
def negOf : D → Option D
  | .int i => some (.int (-i))
  | _ => none
def insOf (M : Me) : D → Option (Nat × String × List (String × D))
  | .ref n => (insAt M n).map fun p => (n, p)
  | _ => none
def isiOf (M : Me) (x : D) : List String → Option Bool
  | [t] => isTy M x t
  | _ => none
/-- a new list becomes an object of the store -/
def alQ (x : D) (M : Me) (Q : QD) : Prop := match x with
  | .tl xs => Q (.ref M.length) (M ++ [.lst xs])
  | d => Q d M
@[irreducible] def rngO : D → Option It
  | .int j => if -(2 ^ 62) ≤ j ∧ j < 2 ^ 62 then some ⟨rngL 0 j, none⟩ else none
  | _ => none
@[irreducible] def rng2O : D → D → Option It
  | .int i, .int j => if -(2 ^ 62) ≤ i ∧ i < 2 ^ 62 ∧ -(2 ^ 62) ≤ j ∧ j < 2 ^ 62 then some ⟨rngL i j, none⟩ else none
  | _, _ => none
/-- what stays while it is walked: a tuple's, a list's items -/
def still : D → Option (Bool × List D)
  | .tup xs => some (true, xs)
  | .fz xs => some (false, xs)
  | .tl xs => some (false, xs)
  | _ => none
def zipO (x y : D) : Option It := (still x).bind fun p => (still y).bind fun q => if p.1 = q.1 then some ⟨zipL p.2 q.2, none⟩ else none
/-- o[i] = z -/
def stOf (M : Me) (x y z : D) : Option Me := match x with
  | .ref n => (match lstAt M n with
    | some xs => (intOf y).bind fun k => if 0 ≤ k ∧ k < xs.length then some (M.set n (.lst (xs.set k.toNat (frz z)))) else none
    | none => (dicAt M n).bind fun l => if isKey y = true ∧ l.length < line then some (M.set n (.dic (put l y (frz z)))) else none)
  | _ => none
/-- o.f = z -/
def fasOf (C : Cn) (M : Me) (x : D) (f : String) (z : D) : Option Me := match x with
  | .ref n => (insAt M n).bind fun p => if f ∈ C.A p.1 ∧ p.2.length < 100 then some (M.set n (.ins p.1 (fput f (frz z) p.2))) else none
  | _ => none
/-- a list comprehension's turns -/
def wLc (body : D → Me → (Option D → Me → Prop) → Prop) (ok : Me → Prop) : List D → Me → List D → (List D → Me → Prop) → Prop
  | [], M, acc, Q => ok M ∧ Q acc M
  | x :: r, M, acc, Q => ok M ∧ body x M fun y M' => match y with
    | some y => acc.length < line ∧ wLc body ok r M' (acc ++ [frz y]) Q
    | none => wLc body ok r M' acc Q
/-- by a truth -/
def br (k : Bool) (A B : Prop) : Prop := match k with
  | true => A
  | false => B
@[simp] theorem br_true (A B : Prop) : br true A B = A := rfl
@[simp] theorem br_false (A B : Prop) : br false A B = B := rfl
theorem br_mono {k : Bool} {A B A' B' : Prop} (h : br k A B) (ha : A → A') (hb : B → B') : br k A' B' := by
  cases k with
  | true => exact ha h
  | false => exact hb h
mutual
def wE (C : Cn) (F : Or) : E → Sg → Me → QD → QX → Prop
  | .c d, _, M, Q, _ => Q d M
  | .v i, σ, M, Q, _ => opt (get σ i) fun d => Q d M
  | .g x, _, M, Q, _ => opt (C.G x) fun d => Q d M
  | .bin o a b, σ, M, Q, X => wE C F a σ M (fun x M1 => wE C F b σ M1 (fun y M2 => opt (bin M2 o x y) fun d => Q d M2) X) X
  | .neg a, σ, M, Q, X => wE C F a σ M (fun x M1 => opt (negOf x) fun d => Q d M1) X
  | .cmp o a b, σ, M, Q, X => wE C F a σ M (fun x M1 => wE C F b σ M1 (fun y M2 => opt (cmp M2 o x y) fun k => Q (.bl k) M2) X) X
  | .ch o p a b c, σ, M, Q, X => wE C F a σ M (fun x M1 => wE C F b σ M1 (fun y M2 => opt (cmp M2 o x y) fun k => br k (wE C F c σ M2 (fun z M3 => opt (cmp M3 p y z) fun k => Q (.bl k) M3) X) (Q (.bl false) M2)) X) X
  | .and a b, σ, M, Q, X => wE C F a σ M (fun x M1 => opt (tru M1 x) fun k => br k (wE C F b σ M1 Q X) (Q x M1)) X
  | .or a b, σ, M, Q, X => wE C F a σ M (fun x M1 => opt (tru M1 x) fun k => br k (Q x M1) (wE C F b σ M1 Q X)) X
  | .not a, σ, M, Q, X => wE C F a σ M (fun x M1 => opt (tru M1 x) fun k => Q (.bl (!k)) M1) X
  | .ite t a b, σ, M, Q, X => wT C F t σ M (fun k M1 => br k (wE C F a σ M1 Q X) (wE C F b σ M1 Q X)) X
  | .tup es, σ, M, Q, X => wEs C F es σ M (fun ds M1 => ds.length ≤ line ∧ Q (.tup ds) M1) X
  | .lst es, σ, M, Q, X => wEs C F es σ M (fun ds M1 => ds.length ≤ line ∧ Q (.tl ds) M1) X
  | .dic ks vs, σ, M, Q, X => wEs C F vs σ M (fun vd M1 => ks.length = vd.length ∧ Q (.ref M1.length) (M1 ++ [.dic (puts [] (ks.zip vd))])) X
  | .ix a i, σ, M, Q, X => wE C F a σ M (fun x M1 => wE C F i σ M1 (fun y M2 => opt (ixOf M2 x y) fun d => Q d M2) X) X
  | .sl a lo hi, σ, M, Q, X => wE C F a σ M (fun x M1 => wO C F lo σ M1 (fun l M2 => wO C F hi σ M2 (fun h M3 => opt (slOf M3 x l h) fun d => Q d M3) X) X) X
  | .call f es, σ, M, Q, X => wEs C F es σ M (fun ds M1 => F f ds M1 Q X) X
  | .new c es, σ, M, Q, X => wEs C F es σ M (fun ds M1 => F (c ++ ".__init__") (.ref M1.length :: ds) (M1 ++ [.ins c []]) (fun _ M2 => Q (.ref M1.length) M2) X) X
  | .bi f es, σ, M, Q, X => wEt C F es σ M (fun ds M1 => wBi M1 f ds Q) X
  | .mt o (.own m) es, σ, M, Q, X => wE C F o σ M (fun x M1 => opt (insOf M1 x) fun p => wEs C F es σ M1 (fun ds M2 => F (p.2.1 ++ "." ++ m) (.ref p.1 :: ds) M2 Q X) X) X
  | .mt o m es, σ, M, Q, X => wE C F o σ M (fun x M1 => mtRc M1 m x = true ∧ wEt C F es σ M1 (fun ds M2 => opt (mtOf M2 m x ds) fun p => Q p.1 p.2) X) X
  | .fld o f, σ, M, Q, X => wE C F o σ M (fun x M1 => opt ((insOf M1 x).bind fun p => flook f p.2.2) fun d => Q d M1) X
  | .isi a ts, σ, M, Q, X => wE C F a σ M (fun x M1 => opt (isiOf M1 x ts) fun k => Q (.bl k) M1) X
  | .al e, σ, M, Q, X => wE C F e σ M (fun x M1 => alQ x M1 Q) X
  | .lc elt tg it cond own, σ, M, Q, X => wI C F it σ M (fun J M1 =>
      wLc (fun x M2 R => opt (asgO tg x (wipes σ own) M2) fun σ1 => wT C F cond σ1 M2 (fun k M3 => br k (wE C F elt σ1 M3 (fun y M4 => R (some y) M4) (fun _ _ => False)) (R none M3)) (fun _ _ => False)) J.ok J.xs M1 [] fun ys M2 => Q (.tl ys) M2) X
/-- a test -/
def wT (C : Cn) (F : Or) : E → Sg → Me → (Bool → Me → Prop) → QX → Prop
  | .and a b, σ, M, Q, X => wT C F a σ M (fun k M1 => br k (wT C F b σ M1 Q X) (Q false M1)) X
  | .or a b, σ, M, Q, X => wT C F a σ M (fun k M1 => br k (Q true M1) (wT C F b σ M1 Q X)) X
  | .not a, σ, M, Q, X => wT C F a σ M (fun k M1 => Q (!k) M1) X
  | .ite t a b, σ, M, Q, X => wT C F t σ M (fun k M1 => br k (wT C F a σ M1 Q X) (wT C F b σ M1 Q X)) X
  | .c d, _, M, Q, _ => opt (tru M d) fun k => Q k M
  | .v i, σ, M, Q, _ => opt ((get σ i).bind (tru M)) fun k => Q k M
  | .g x, _, M, Q, _ => opt ((C.G x).bind (tru M)) fun k => Q k M
  | .cmp o a b, σ, M, Q, X => wE C F a σ M (fun x M1 => wE C F b σ M1 (fun y M2 => opt (cmp M2 o x y) fun k => Q k M2) X) X
  | .ch o p a b c, σ, M, Q, X => wE C F a σ M (fun x M1 => wE C F b σ M1 (fun y M2 => opt (cmp M2 o x y) fun k => br k (wE C F c σ M2 (fun z M3 => opt (cmp M3 p y z) fun k => Q k M3) X) (Q false M2)) X) X
  | .isi a ts, σ, M, Q, X => wE C F a σ M (fun x M1 => opt (isiOf M1 x ts) fun k => Q k M1) X
  | .call f es, σ, M, Q, X => wEs C F es σ M (fun ds M1 => F f ds M1 (fun d M2 => opt (tru M2 d) fun k => Q k M2) X) X
  | .bi f es, σ, M, Q, X => wEt C F es σ M (fun ds M1 => wBi M1 f ds (fun d M2 => opt (tru M2 d) fun k => Q k M2)) X
  | .fld o f, σ, M, Q, X => wE C F o σ M (fun x M1 => opt (((insOf M1 x).bind fun p => flook f p.2.2).bind (tru M1)) fun k => Q k M1) X
  | .mt o (.own m) es, σ, M, Q, X => wE C F o σ M (fun x M1 => opt (insOf M1 x) fun p => wEs C F es σ M1 (fun ds M2 => F (p.2.1 ++ "." ++ m) (.ref p.1 :: ds) M2 (fun d M3 => opt (tru M3 d) fun k => Q k M3) X) X) X
  | .mt o m es, σ, M, Q, X => wE C F o σ M (fun x M1 => mtRc M1 m x = true ∧ wEt C F es σ M1 (fun ds M2 => opt (mtOf M2 m x ds) fun p => opt (tru p.2 p.1) fun k => Q k p.2) X) X
  | _, _, _, _, _ => False
/-- arguments, items of displays: stored -/
def wEs (C : Cn) (F : Or) : Es → Sg → Me → (List D → Me → Prop) → QX → Prop
  | .nil, _, M, Q, _ => Q [] M
  | .cons e r, σ, M, Q, X => wE C F e σ M (fun x M1 => wEs C F r σ M1 (fun xs M2 => Q (frz x :: xs) M2) X) X
/-- arguments of built-ins: looked at -/
def wEt (C : Cn) (F : Or) : Es → Sg → Me → (List D → Me → Prop) → QX → Prop
  | .nil, _, M, Q, _ => Q [] M
  | .cons e r, σ, M, Q, X => wE C F e σ M (fun x M1 => wEt C F r σ M1 (fun xs M2 => Q (x :: xs) M2) X) X
/-- a slice's end -/
def wO (C : Cn) (F : Or) : Oe → Sg → Me → (Option Int → Me → Prop) → QX → Prop
  | .no, _, M, Q, _ => Q none M
  | .some e, σ, M, Q, X => wE C F e σ M (fun x M1 => opt (intOf x) fun i => Q (some i) M1) X
/-- what a loop walks -/
def wI (C : Cn) (F : Or) : Ie → Sg → Me → (It → Me → Prop) → QX → Prop
  | .rng a, σ, M, Q, X => wE C F a σ M (fun x M1 => opt (rngO x) fun J => Q J M1) X
  | .rng2 a b, σ, M, Q, X => wE C F a σ M (fun x M1 => wE C F b σ M1 (fun y M2 => opt (rng2O x y) fun J => Q J M2) X) X
  | .enum a, σ, M, Q, X => wE C F a σ M (fun x M1 => opt (still x) fun p => Q ⟨enumL 0 p.2, none⟩ M1) X
  | .zip a b, σ, M, Q, X => wE C F a σ M (fun x M1 => wE C F b σ M1 (fun y M2 => opt (zipO x y) fun J => Q J M2) X) X
  | .of e, σ, M, Q, X => wE C F e σ M (fun x M1 => opt (itOf M1 x) fun J => Q J M1) X
end
/-- a for's turns -/
def wFor (body : D → Sg → Me → Post → Prop) (ok : Me → Prop) (P : Post) : List D → Sg → Me → Prop
  | [], σ, M => ok M ∧ P.nx σ M
  | x :: r, σ, M => ok M ∧ body x σ M { nx := wFor body ok P r, rt := P.rt, bk := P.nx, ct := wFor body ok P r, ex := P.ex }
/-- a while's turns, at most so many -/
def wWhl (t : Sg → Me → (Bool → Me → Prop) → Prop) (body : Sg → Me → Post → Prop) (P : Post) : Nat → Sg → Me → Prop
  | 0, _, _ => False
  | n + 1, σ, M => t σ M fun k M1 => br k (body σ M1 { nx := wWhl t body P n, rt := P.rt, bk := P.nx, ct := wWhl t body P n, ex := P.ex }) (P.nx σ M1)
mutual
def wS (C : Cn) (F : Or) : S → Sg → Me → Post → Prop
  | .asg i e, σ, M, P => wE C F e σ M (fun x M1 => P.nx (sset σ i (frz x)) M1) (fun x M1 => P.ex x σ M1)
  | .tas is e, σ, M, P => wE C F e σ M (fun x M1 => opt ((seqOf M1 x).bind fun ds => ssets σ is ds) fun σ' => P.nx σ' M1) (fun x M1 => P.ex x σ M1)
  | .par is es, σ, M, P => wEs C F es σ M (fun ds M1 => opt (ssets σ is ds) fun σ' => P.nx σ' M1) (fun x M1 => P.ex x σ M1)
  | .ixs o i e, σ, M, P => wE C F e σ M (fun z M1 => wE C F o σ M1 (fun x M2 => wE C F i σ M2 (fun y M3 => opt (stOf M3 x y z) fun M4 => P.nx σ M4) (fun x M1 => P.ex x σ M1)) (fun x M1 => P.ex x σ M1)) (fun x M1 => P.ex x σ M1)
  | .fas o f e, σ, M, P => wE C F e σ M (fun z M1 => wE C F o σ M1 (fun x M2 => opt (fasOf C M2 x f z) fun M3 => P.nx σ M3) (fun x M1 => P.ex x σ M1)) (fun x M1 => P.ex x σ M1)
  | .ex e, σ, M, P => wE C F e σ M (fun _ M1 => P.nx σ M1) (fun x M1 => P.ex x σ M1)
  | .ret e, σ, M, P => wE C F e σ M P.rt (fun x M1 => P.ex x σ M1)
  | .retn, _, M, P => P.rt .non M
  | .iff t a b, σ, M, P => wT C F t σ M (fun k M1 => br k (wSs C F a σ M1 P) (wSs C F b σ M1 P)) (fun x M1 => P.ex x σ M1)
  | .for_ tg it b, σ, M, P => wI C F it σ M (fun J M1 => wFor (fun x σ2 M2 P2 => opt (asgO tg x σ2 M2) fun σ3 => wSs C F b σ3 M2 P2) J.ok P J.xs σ M1) (fun x M1 => P.ex x σ M1)
  | .whl t b, σ, M, P => ∃ n, wWhl (fun σ2 M2 R => wT C F t σ2 M2 R (fun x M1 => P.ex x σ2 M1)) (fun σ2 M2 P2 => wSs C F b σ2 M2 P2) P n σ M
  | .raise _ _, _, _, _ => False
  | .try_ b _ _ _, σ, M, P => wSs C F b σ M { P with ex := fun _ _ _ => False }
  | .pass, σ, M, P => P.nx σ M
  | .brk, σ, M, P => P.bk σ M
  | .cont, σ, M, P => P.ct σ M
def wSs (C : Cn) (F : Or) : Ss → Sg → Me → Post → Prop
  | .nil, σ, M, P => P.nx σ M
  | .cons s r, σ, M, P => wS C F s σ M { P with nx := fun σ1 M1 => wSs C F r σ1 M1 P }
end
/-- behind a call: what it made and nothing holds any more may be forgotten -/
def gcQ (n : Nat) (Q : QD) (d : D) (M : Me) : Prop :=
  Q d M ∨ ((clsD n d = true ∧ clsM n (M.take n) = true) ∧ Q d (M.take n)) ∨
    ∃ k xs, (d = .ref k ∧ n ≤ k ∧ mget M k = some (.lst xs) ∧ clsDs n xs = true ∧ clsM n (M.take n) = true) ∧ Q (.tl xs) (M.take n)
def callN (C : Cn) : Nat → Or
  | 0, _, _, _, _, _ => False
  | n + 1, f, ds, M, Q, X => opt (C.T f) fun fn => ds.length = fn.ps ∧ wSs C (callN C n) fn.body (start ds fn.n) M
        { nx := fun _ M' => gcQ M.length Q .non M', rt := gcQ M.length Q, bk := fun _ _ => False, ct := fun _ _ => False, ex := fun x _ M' => X x M' }
end Mp
end

section
/-! MiniPy: the predicate transformers are monotone. -/
set_option linter.all false
namespace Mp
theorem wSort_mono {k : List String ⊕ List Int} {Q Q' : D → Prop} (hq : ∀ d, Q d → Q' d) (h : wSort k Q) : wSort k Q' := by
  cases k with
  | inl ks => exact fun ys a => hq _ (h ys a)
  | inr ks => exact fun ys a => hq _ (h ys a)
theorem wBi_mono {M : Me} {f : Bi} {ds : List D} {Q Q' : QD} (hq : ∀ d M, Q d M → Q' d M) (h : wBi M f ds Q) : wBi M f ds Q' := by
  cases f with
  | dict => exact opt_mono h fun l h => hq _ _ h
  | sorted => exact opt_mono h fun k h => wSort_mono (fun d h => hq _ _ h) h
  | _ =>
    unfold wBi at h ⊢
    exact opt_mono h fun l h => hq _ _ h
theorem alQ_mono {x : D} {M : Me} {Q Q' : QD} (hq : ∀ d M, Q d M → Q' d M) (h : alQ x M Q) : alQ x M Q' := by
  cases x <;> exact hq _ _ h
theorem wLc_mono {body body' : D → Me → (Option D → Me → Prop) → Prop} {ok : Me → Prop} (hb : ∀ x M (R R' : Option D → Me → Prop), (∀ y M, R y M → R' y M) → body x M R → body' x M R') :
    ∀ (xs : List D) (M : Me) (acc : List D) {Q Q' : List D → Me → Prop}, (∀ ys M, Q ys M → Q' ys M) → wLc body ok xs M acc Q → wLc body' ok xs M acc Q'
  | [], M, acc, Q, Q', hq, h => ⟨h.1, hq _ _ h.2⟩
  | x :: r, M, acc, Q, Q', hq, h => by
    refine ⟨h.1, hb x M _ _ (fun y M' h2 => ?_) h.2⟩
    cases y with
    | none => exact wLc_mono hb r M' _ hq h2
    | some y => exact ⟨h2.1, wLc_mono hb r M' _ hq h2.2⟩
def MonoOr (F : Or) : Prop := ∀ f ds M (Q Q' : QD) (X X' : QX), (∀ d M, Q d M → Q' d M) → (∀ x M, X x M → X' x M) → F f ds M Q X → F f ds M Q' X'
section
variable {C : Cn} {F : Or} (hF : MonoOr F)
include hF
mutual
theorem wE_mono : ∀ (e : E) (σ : Sg) (M : Me) {Q Q' : QD} {X X' : QX}, (∀ d M, Q d M → Q' d M) → (∀ x M, X x M → X' x M) → wE C F e σ M Q X → wE C F e σ M Q' X'
  | .c d, σ, M, Q, Q', X, X', hq, hx, h => hq _ _ h
  | .v i, σ, M, Q, Q', X, X', hq, hx, h => opt_mono h fun d h => hq _ _ h
  | .g x, σ, M, Q, Q', X, X', hq, hx, h => opt_mono h fun d h => hq _ _ h
  | .bin o a b, σ, M, Q, Q', X, X', hq, hx, h => wE_mono a σ M (fun x M1 h1 => wE_mono b σ M1 (fun y M2 h2 => opt_mono h2 fun d h => hq _ _ h) hx h1) hx h
  | .neg a, σ, M, Q, Q', X, X', hq, hx, h => wE_mono a σ M (fun x M1 h1 => opt_mono h1 fun d h => hq _ _ h) hx h
  | .cmp o a b, σ, M, Q, Q', X, X', hq, hx, h => wE_mono a σ M (fun x M1 h1 => wE_mono b σ M1 (fun y M2 h2 => opt_mono h2 fun d h => hq _ _ h) hx h1) hx h
  | .ch o p a b c, σ, M, Q, Q', X, X', hq, hx, h => wE_mono a σ M (fun x M1 h1 => wE_mono b σ M1 (fun y M2 h2 => opt_mono h2 fun k h => br_mono h (fun h => wE_mono c σ M2 (fun z M3 h3 => opt_mono h3 fun d h => hq _ _ h) hx h) (fun h => hq _ _ h)) hx h1) hx h
  | .and a b, σ, M, Q, Q', X, X', hq, hx, h => wE_mono a σ M (fun x M1 h1 => opt_mono h1 fun k h => br_mono h (fun h => wE_mono b σ M1 hq hx h) (fun h => hq _ _ h)) hx h
  | .or a b, σ, M, Q, Q', X, X', hq, hx, h => wE_mono a σ M (fun x M1 h1 => opt_mono h1 fun k h => br_mono h (fun h => hq _ _ h) (fun h => wE_mono b σ M1 hq hx h)) hx h
  | .not a, σ, M, Q, Q', X, X', hq, hx, h => wE_mono a σ M (fun x M1 h1 => opt_mono h1 fun d h => hq _ _ h) hx h
  | .ite t a b, σ, M, Q, Q', X, X', hq, hx, h => wT_mono t σ M (fun k M1 h1 => br_mono h1 (fun h => wE_mono a σ M1 hq hx h) (fun h => wE_mono b σ M1 hq hx h)) hx h
  | .tup es, σ, M, Q, Q', X, X', hq, hx, h => wEs_mono es σ M (fun ds M1 h1 => ⟨h1.1, hq _ _ h1.2⟩) hx h
  | .lst es, σ, M, Q, Q', X, X', hq, hx, h => wEs_mono es σ M (fun ds M1 h1 => ⟨h1.1, hq _ _ h1.2⟩) hx h
  | .dic ks vs, σ, M, Q, Q', X, X', hq, hx, h => wEs_mono vs σ M (fun vd M2 h2 => ⟨h2.1, hq _ _ h2.2⟩) hx h
  | .ix a i, σ, M, Q, Q', X, X', hq, hx, h => wE_mono a σ M (fun x M1 h1 => wE_mono i σ M1 (fun y M2 h2 => opt_mono h2 fun d h => hq _ _ h) hx h1) hx h
  | .sl a lo hi, σ, M, Q, Q', X, X', hq, hx, h => wE_mono a σ M (fun x M1 h1 => wO_mono lo σ M1 (fun y M2 h2 => wO_mono hi σ M2 (fun z M3 h3 => opt_mono h3 fun d h => hq _ _ h) hx h2) hx h1) hx h
  | .call f es, σ, M, Q, Q', X, X', hq, hx, h => wEs_mono es σ M (fun ds M1 h1 => hF _ _ _ _ _ _ _ hq hx h1) hx h
  | .new c es, σ, M, Q, Q', X, X', hq, hx, h => wEs_mono es σ M (fun ds M1 h1 => hF _ _ _ _ _ _ _ (fun _ M2 h2 => hq _ _ h2) hx h1) hx h
  | .bi f es, σ, M, Q, Q', X, X', hq, hx, h => wEt_mono es σ M (fun ds M1 h1 => wBi_mono hq h1) hx h
  | .mt o m es, σ, M, Q, Q', X, X', hq, hx, h => by
    cases m with
    | own m => exact wE_mono o σ M (fun x M1 h1 => opt_mono h1 fun p h => wEs_mono es σ M1 (fun ds M2 h2 => hF _ _ _ _ _ _ _ hq hx h2) hx h) hx h
    | _ => exact wE_mono o σ M (fun x M1 h1 => ⟨h1.1, wEt_mono es σ M1 (fun ds M2 h2 => opt_mono h2 fun p h => hq _ _ h) hx h1.2⟩) hx h
  | .fld o f, σ, M, Q, Q', X, X', hq, hx, h => wE_mono o σ M (fun x M1 h1 => opt_mono h1 fun d h => hq _ _ h) hx h
  | .isi a ts, σ, M, Q, Q', X, X', hq, hx, h => wE_mono a σ M (fun x M1 h1 => opt_mono h1 fun d h => hq _ _ h) hx h
  | .al e, σ, M, Q, Q', X, X', hq, hx, h => wE_mono e σ M (fun x M1 h1 => alQ_mono hq h1) hx h
  | .lc elt tg it cond own, σ, M, Q, Q', X, X', hq, hx, h => by
    rw [wE] at h ⊢
    refine wI_mono it σ M (fun J M1 h1 => ?_) hx h
    refine wLc_mono (fun x M2 R R' hr hb => ?_) J.xs M1 [] (fun ys M2 h2 => hq _ _ h2) h1
    exact opt_mono hb fun σ1 h3 => wT_mono cond σ1 M2 (fun k M3 h4 => br_mono h4 (fun h => wE_mono elt σ1 M3 (fun y M4 h5 => hr _ _ h5) (fun _ _ z => z) h) (fun h => hr _ _ h)) (fun _ _ z => z) h3
theorem wT_mono : ∀ (e : E) (σ : Sg) (M : Me) {Q Q' : Bool → Me → Prop} {X X' : QX}, (∀ d M, Q d M → Q' d M) → (∀ x M, X x M → X' x M) → wT C F e σ M Q X → wT C F e σ M Q' X'
  | .and a b, σ, M, Q, Q', X, X', hq, hx, h => wT_mono a σ M (fun k M1 h1 => br_mono h1 (fun h => wT_mono b σ M1 hq hx h) (fun h => hq _ _ h)) hx h
  | .or a b, σ, M, Q, Q', X, X', hq, hx, h => wT_mono a σ M (fun k M1 h1 => br_mono h1 (fun h => hq _ _ h) (fun h => wT_mono b σ M1 hq hx h)) hx h
  | .not a, σ, M, Q, Q', X, X', hq, hx, h => wT_mono a σ M (fun k M1 h1 => hq _ _ h1) hx h
  | .ite t a b, σ, M, Q, Q', X, X', hq, hx, h => wT_mono t σ M (fun k M1 h1 => br_mono h1 (fun h => wT_mono a σ M1 hq hx h) (fun h => wT_mono b σ M1 hq hx h)) hx h
  | .c d, σ, M, Q, Q', X, X', hq, hx, h => opt_mono h fun d h => hq _ _ h
  | .v i, σ, M, Q, Q', X, X', hq, hx, h => opt_mono h fun d h => hq _ _ h
  | .g x, σ, M, Q, Q', X, X', hq, hx, h => opt_mono h fun d h => hq _ _ h
  | .cmp o a b, σ, M, Q, Q', X, X', hq, hx, h => wE_mono a σ M (fun x M1 h1 => wE_mono b σ M1 (fun y M2 h2 => opt_mono h2 fun d h => hq _ _ h) hx h1) hx h
  | .ch o p a b c, σ, M, Q, Q', X, X', hq, hx, h => wE_mono a σ M (fun x M1 h1 => wE_mono b σ M1 (fun y M2 h2 => opt_mono h2 fun k h => br_mono h (fun h => wE_mono c σ M2 (fun z M3 h3 => opt_mono h3 fun d h => hq _ _ h) hx h) (fun h => hq _ _ h)) hx h1) hx h
  | .isi a ts, σ, M, Q, Q', X, X', hq, hx, h => wE_mono a σ M (fun x M1 h1 => opt_mono h1 fun d h => hq _ _ h) hx h
  | .call f es, σ, M, Q, Q', X, X', hq, hx, h => wEs_mono es σ M (fun ds M1 h1 => hF _ _ _ _ _ _ _ (fun d M2 h2 => opt_mono h2 fun k h => hq _ _ h) hx h1) hx h
  | .bi f es, σ, M, Q, Q', X, X', hq, hx, h => wEt_mono es σ M (fun ds M1 h1 => wBi_mono (fun d M2 h2 => opt_mono h2 fun k h => hq _ _ h) h1) hx h
  | .fld o f, σ, M, Q, Q', X, X', hq, hx, h => wE_mono o σ M (fun x M1 h1 => opt_mono h1 fun d h => hq _ _ h) hx h
  | .mt o m es, σ, M, Q, Q', X, X', hq, hx, h => by
    cases m with
    | own m => exact wE_mono o σ M (fun x M1 h1 => opt_mono h1 fun p h => wEs_mono es σ M1 (fun ds M2 h2 => hF _ _ _ _ _ _ _ (fun d M3 h3 => opt_mono h3 fun k h => hq _ _ h) hx h2) hx h) hx h
    | _ => exact wE_mono o σ M (fun x M1 h1 => ⟨h1.1, wEt_mono es σ M1 (fun ds M2 h2 => opt_mono h2 fun p h => opt_mono h fun k h => hq _ _ h) hx h1.2⟩) hx h
  | .neg _, σ, M, Q, Q', X, X', hq, hx, h => (show False from h).elim
  | .bin _ _ _, σ, M, Q, Q', X, X', hq, hx, h => (show False from h).elim
  | .tup _, σ, M, Q, Q', X, X', hq, hx, h => (show False from h).elim
  | .lst _, σ, M, Q, Q', X, X', hq, hx, h => (show False from h).elim
  | .dic _ _, σ, M, Q, Q', X, X', hq, hx, h => (show False from h).elim
  | .ix _ _, σ, M, Q, Q', X, X', hq, hx, h => (show False from h).elim
  | .sl _ _ _, σ, M, Q, Q', X, X', hq, hx, h => (show False from h).elim
  | .new _ _, σ, M, Q, Q', X, X', hq, hx, h => (show False from h).elim
  | .al _, σ, M, Q, Q', X, X', hq, hx, h => (show False from h).elim
  | .lc _ _ _ _ _, σ, M, Q, Q', X, X', hq, hx, h => (show False from h).elim
theorem wEs_mono : ∀ (e : Es) (σ : Sg) (M : Me) {Q Q' : List D → Me → Prop} {X X' : QX}, (∀ d M, Q d M → Q' d M) → (∀ x M, X x M → X' x M) → wEs C F e σ M Q X → wEs C F e σ M Q' X'
  | .nil, σ, M, Q, Q', X, X', hq, hx, h => hq _ _ h
  | .cons e r, σ, M, Q, Q', X, X', hq, hx, h => wE_mono e σ M (fun x M1 h1 => wEs_mono r σ M1 (fun xs M2 h2 => hq _ _ h2) hx h1) hx h
theorem wEt_mono : ∀ (e : Es) (σ : Sg) (M : Me) {Q Q' : List D → Me → Prop} {X X' : QX}, (∀ d M, Q d M → Q' d M) → (∀ x M, X x M → X' x M) → wEt C F e σ M Q X → wEt C F e σ M Q' X'
  | .nil, σ, M, Q, Q', X, X', hq, hx, h => hq _ _ h
  | .cons e r, σ, M, Q, Q', X, X', hq, hx, h => wE_mono e σ M (fun x M1 h1 => wEt_mono r σ M1 (fun xs M2 h2 => hq _ _ h2) hx h1) hx h
theorem wO_mono : ∀ (e : Oe) (σ : Sg) (M : Me) {Q Q' : Option Int → Me → Prop} {X X' : QX}, (∀ d M, Q d M → Q' d M) → (∀ x M, X x M → X' x M) → wO C F e σ M Q X → wO C F e σ M Q' X'
  | .no, σ, M, Q, Q', X, X', hq, hx, h => hq _ _ h
  | .some e, σ, M, Q, Q', X, X', hq, hx, h => wE_mono e σ M (fun x M1 h1 => opt_mono h1 fun d h => hq _ _ h) hx h
theorem wI_mono : ∀ (e : Ie) (σ : Sg) (M : Me) {Q Q' : It → Me → Prop} {X X' : QX}, (∀ d M, Q d M → Q' d M) → (∀ x M, X x M → X' x M) → wI C F e σ M Q X → wI C F e σ M Q' X'
  | .rng a, σ, M, Q, Q', X, X', hq, hx, h => wE_mono a σ M (fun x M1 h1 => opt_mono h1 fun d h => hq _ _ h) hx h
  | .rng2 a b, σ, M, Q, Q', X, X', hq, hx, h => wE_mono a σ M (fun x M1 h1 => wE_mono b σ M1 (fun y M2 h2 => opt_mono h2 fun d h => hq _ _ h) hx h1) hx h
  | .enum a, σ, M, Q, Q', X, X', hq, hx, h => wE_mono a σ M (fun x M1 h1 => opt_mono h1 fun d h => hq _ _ h) hx h
  | .zip a b, σ, M, Q, Q', X, X', hq, hx, h => wE_mono a σ M (fun x M1 h1 => wE_mono b σ M1 (fun y M2 h2 => opt_mono h2 fun d h => hq _ _ h) hx h1) hx h
  | .of a, σ, M, Q, Q', X, X', hq, hx, h => wE_mono a σ M (fun x M1 h1 => opt_mono h1 fun d h => hq _ _ h) hx h
end
end
structure Post.le (P P' : Post) : Prop where
  nx : ∀ σ M, P.nx σ M → P'.nx σ M
  rt : ∀ σ M, P.rt σ M → P'.rt σ M
  bk : ∀ σ M, P.bk σ M → P'.bk σ M
  ct : ∀ σ M, P.ct σ M → P'.ct σ M
  ex : ∀ x σ M, P.ex x σ M → P'.ex x σ M
theorem wFor_mono {body body' : D → Sg → Me → Post → Prop} {ok : Me → Prop} {P P' : Post} (hb : ∀ x σ M (R R' : Post), R.le R' → body x σ M R → body' x σ M R') (hp : P.le P') :
    ∀ (xs : List D) (σ : Sg) (M : Me), wFor body ok P xs σ M → wFor body' ok P' xs σ M
  | [], σ, M, h => ⟨h.1, hp.nx _ _ h.2⟩
  | x :: r, σ, M, h => by
    refine ⟨h.1, hb x σ M _ _ ?_ h.2⟩
    exact ⟨fun σ M h => wFor_mono hb hp r σ M h, hp.rt, hp.nx, fun σ M h => wFor_mono hb hp r σ M h, hp.ex⟩
theorem wWhl_mono {t t' : Sg → Me → (Bool → Me → Prop) → Prop} {body body' : Sg → Me → Post → Prop} {P P' : Post} (ht : ∀ σ M (R R' : Bool → Me → Prop), (∀ k M, R k M → R' k M) → t σ M R → t' σ M R')
    (hb : ∀ σ M (R R' : Post), R.le R' → body σ M R → body' σ M R') (hp : P.le P') : ∀ (n : Nat) (σ : Sg) (M : Me), wWhl t body P n σ M → wWhl t' body' P' n σ M
  | 0, σ, M, h => h
  | n + 1, σ, M, h => by
    refine ht σ M _ _ (fun k M1 h1 => br_mono h1 (fun h1 => ?_) (fun h => hp.nx _ _ h)) h
    refine hb σ M1 _ _ ?_ h1
    exact ⟨fun σ M h => wWhl_mono ht hb hp n σ M h, hp.rt, hp.nx, fun σ M h => wWhl_mono ht hb hp n σ M h, hp.ex⟩
section
variable {C : Cn} {F : Or} (hF : MonoOr F)
include hF
mutual
theorem wS_mono : ∀ (s : S) (σ : Sg) (M : Me) {P P' : Post}, P.le P' → wS C F s σ M P → wS C F s σ M P'
  | .asg i e, σ, M, P, P', hp, h => wE_mono hF e σ M (fun x M1 h1 => hp.nx _ _ h1) (fun x M1 h1 => hp.ex _ _ _ h1) h
  | .tas is e, σ, M, P, P', hp, h => wE_mono hF e σ M (fun x M1 h1 => opt_mono h1 fun σ' h => hp.nx _ _ h) (fun x M1 h1 => hp.ex _ _ _ h1) h
  | .par is es, σ, M, P, P', hp, h => wEs_mono hF es σ M (fun x M1 h1 => opt_mono h1 fun σ' h => hp.nx _ _ h) (fun x M1 h1 => hp.ex _ _ _ h1) h
  | .ixs o i e, σ, M, P, P', hp, h => wE_mono hF e σ M (fun z M1 h1 => wE_mono hF o σ M1 (fun x M2 h2 => wE_mono hF i σ M2 (fun y M3 h3 => opt_mono h3 fun M4 h => hp.nx _ _ h) (fun x M1 h1 => hp.ex _ _ _ h1) h2) (fun x M1 h1 => hp.ex _ _ _ h1) h1) (fun x M1 h1 => hp.ex _ _ _ h1) h
  | .fas o f e, σ, M, P, P', hp, h => wE_mono hF e σ M (fun z M1 h1 => wE_mono hF o σ M1 (fun x M2 h2 => opt_mono h2 fun M4 h => hp.nx _ _ h) (fun x M1 h1 => hp.ex _ _ _ h1) h1) (fun x M1 h1 => hp.ex _ _ _ h1) h
  | .ex e, σ, M, P, P', hp, h => wE_mono hF e σ M (fun x M1 h1 => hp.nx _ _ h1) (fun x M1 h1 => hp.ex _ _ _ h1) h
  | .ret e, σ, M, P, P', hp, h => wE_mono hF e σ M (fun x M1 h1 => hp.rt _ _ h1) (fun x M1 h1 => hp.ex _ _ _ h1) h
  | .retn, σ, M, P, P', hp, h => hp.rt _ _ h
  | .iff t a b, σ, M, P, P', hp, h => wT_mono hF t σ M (fun k M1 h1 => br_mono h1 (fun h => wSs_mono a σ M1 hp h) (fun h => wSs_mono b σ M1 hp h)) (fun x M1 h1 => hp.ex _ _ _ h1) h
  | .for_ tg it b, σ, M, P, P', hp, h => by
    rw [wS] at h ⊢
    refine wI_mono hF it σ M (fun J M1 h1 => ?_) (fun x M1 h1 => hp.ex _ _ _ h1) h
    refine wFor_mono (fun x σ2 M2 R R' hr hb => ?_) hp J.xs σ M1 h1
    exact opt_mono hb fun σ3 h3 => wSs_mono b σ3 M2 hr h3
  | .whl t b, σ, M, P, P', hp, h => h.imp fun n h => wWhl_mono (fun σ M R R' hr h => wT_mono hF t σ M hr (fun x M1 h1 => hp.ex _ _ _ h1) h) (fun σ M R R' hr h => wSs_mono b σ M hr h) hp n σ M h
  | .raise _ _, σ, M, P, P', hp, h => (show False from h).elim
  | .try_ b _ _ _, σ, M, P, P', hp, h => by
    rw [wS] at h ⊢
    refine wSs_mono b σ M ?_ h
    exact ⟨hp.nx, hp.rt, hp.bk, hp.ct, fun _ _ _ z => z⟩
  | .pass, σ, M, P, P', hp, h => hp.nx _ _ h
  | .brk, σ, M, P, P', hp, h => hp.bk _ _ h
  | .cont, σ, M, P, P', hp, h => hp.ct _ _ h
theorem wSs_mono : ∀ (s : Ss) (σ : Sg) (M : Me) {P P' : Post}, P.le P' → wSs C F s σ M P → wSs C F s σ M P'
  | .nil, σ, M, P, P', hp, h => hp.nx _ _ h
  | .cons s r, σ, M, P, P', hp, h => by
    rw [wSs] at h ⊢
    refine wS_mono s σ M ?_ h
    exact ⟨fun σ M h => wSs_mono r σ M hp h, hp.rt, hp.bk, hp.ct, hp.ex⟩
end
end
theorem gcQ_mono {n : Nat} {Q Q' : QD} {d : D} {M : Me} (hq : ∀ d M, Q d M → Q' d M) (h : gcQ n Q d M) : gcQ n Q' d M := by
  rcases h with h | ⟨a, h⟩ | ⟨k, xs, a, h⟩
  · exact .inl (hq _ _ h)
  · exact .inr (.inl ⟨a, hq _ _ h⟩)
  · exact .inr (.inr ⟨k, xs, a, hq _ _ h⟩)
theorem callN_mono (C : Cn) : ∀ n, MonoOr (callN C n)
  | 0 => fun _ _ _ _ _ _ _ _ _ h => h
  | n + 1 => fun f ds M Q Q' X X' hq hx h => by
    refine opt_mono (show opt (C.T f) _ from h) fun fn h => ⟨h.1, ?_⟩
    refine wSs_mono (callN_mono C n) fn.body _ M ?_ h.2
    exact ⟨fun _ M' h => gcQ_mono hq h, fun d M' h => gcQ_mono hq h, fun _ _ z => z, fun _ _ z => z, fun x _ M' h => hx x M' h⟩
end Mp
end

section
/-! MiniPy: new tuples known to the object (no dict), dict(a list or a tuple of pairs). -/
set_option linter.all false
set_option maxRecDepth 100000
namespace Mp
open PySem PySem.Spec PyProof.Rows L2
/-- a tuple, known to the object -/
def TpO (H : Hp) (a : Addr) (vs : List V) : Prop := ∃ o : Obj, H a = some (.frz o (.tup vs)) ∧ o.dict = none
theorem TpO.rd {H : Hp} {a : Addr} {vs : List V} (h : TpO H a vs) : Rd H a (.tup vs) := let ⟨o, e, _⟩ := h; .inr ⟨o, e⟩
/-- what a rule that makes a tuple asks -/
abbrev NewT (H : Hp) (Q : VK) (vs : List V) : Prop := ∀ (p : Addr) (o : Obj), H p = none → o.dict = none → Q (.ref p) (upd H p (.frz o (.tup vs)))
section
variable {X : Cx} {pins : List (Addr × Obj)} {σ : L2.St} {H : Hp} {s : Shared} {Q : VK}
theorem tup_laid {its : List Value} {vs : List V} (I : Inv X pins σ H s) (r : Vals vs its) (hz : vs.length ≤ sizeLine) (q : NewT H Q vs) {t' : Nat} :
    EP X pins σ Q (.ref s.heap.objs.size) { s with heap := s.heap.push { cls := .type "tuple", data := .seq its.toArray }, toks := t' } :=
  ⟨.ref s.heap.objs.size, _, I.laid (t' := t') (o := .frz { cls := .type "tuple", data := .seq its.toArray } (.tup vs)) (fun b u e => Heap.get?_push_of_some _ e) (Nat.le_refl _)
    ⟨Heap.get?_push_size _ rfl, hz, its, r, IsTup.new _ _⟩, rfl, q _ _ (I.hok.fresh (Nat.le_refl _)) rfl⟩
theorem pe_tupF {es : List Expr} {t : TA} {x1 : Nat} {pos : Pos} (h : PA X es t) : PE X (.Tuple es x1 pos) (fun σ H Q => t σ H fun xs H1 => xs.length ≤ sizeLine ∧ NewT H1 Q xs) := by
  refine ⟨fun pins s σ H Q I hq => ?_⟩
  refine wpAny_Tuple_spliced (thn (h.run pos pins s σ H _ I hq) fun us s1 ⟨xs, H1, I1, r, z, q⟩ => ⟨by rw [← r.length]; exact z, tup_laid (t' := s1.toks) I1 r z q⟩)
theorem op_catF : OpR X (binaryOp .Add) (fun x y H Q => ∃ a b xs ys, x = .ref a ∧ y = .ref b ∧ SqT X.K H a xs ∧ SqT X.K H b ys ∧ xs.length + ys.length ≤ sizeLine ∧
    (xs = [] → Q (.ref b) H) ∧ (xs ≠ [] → ys = [] → Q (.ref a) H) ∧ (xs ≠ [] → ys ≠ [] → NewT H Q (xs ++ ys))) := by
  intro pins s σ H x y v u Q I rx ry h
  obtain ⟨a, b, xs, ys, rfl, rfl, ha, hb, hz, q0, q1, q2⟩ := h
  cases rx
  cases ry
  obtain ⟨its, r1, p1, _⟩ := I.tuple ha
  obtain ⟨its2, r2, p2, _⟩ := I.tuple hb
  by_cases hx : xs = []
  · subst hx
    cases r1
    exact cat_tup0 p1 p2 ⟨.ref b, H, I, rfl, q0 rfl⟩
  · refine HT.cat_tup p1 p2 (fun z => hx (r1.nil_iff.mp z)) (fun z => ⟨.ref a, H, I, rfl, q1 hx (r2.nil_iff.mp z)⟩) (fun z => ?_) (by rw [← r1.length, ← r2.length]; exact hz)
    exact tup_laid (t' := s.toks) I (r1.append r2) (by rw [List.length_append]; exact hz) (q2 hx fun w => z (r2.nil_iff.mpr w))
theorem sl_tupF : SlR X (fun x lo hi H Q => ∃ a xs, x = .ref a ∧ SqT X.K H a xs ∧
    (HT.sIx xs.length 0 lo = 0 ∧ HT.sIx xs.length xs.length hi = xs.length → Q (.ref a) H) ∧ (¬ (HT.sIx xs.length 0 lo = 0 ∧ HT.sIx xs.length xs.length hi = xs.length) → NewT H Q (cutV xs lo hi))) := by
  intro pins s σ H x v vl vu lo hi sl Q I rx hs pl pu h
  obtain ⟨a, xs, rfl, hx, q1, q2⟩ := h
  cases rx
  obtain ⟨its, r, ht, hz⟩ := I.tuple hx
  have hlen : its.toArray.size = xs.length := by rw [List.size_toArray]; exact r.length.symm
  refine ⟨"tuple", _, PyProof.Rows.slot_tuple_getitem.lookup, ht.typeIs, ?_⟩
  by_cases hw : HT.sIx xs.length 0 lo = 0 ∧ HT.sIx xs.length xs.length hi = xs.length
  · exact getItem_tuple_whole ht hs pl pu (by rw [hlen]; exact hw) ⟨.ref a, H, I, rfl, q1 hw⟩
  · refine HT.getItem_tuple_cut ht hs pl pu (by rw [hlen]; exact hw) ?_ (by rw [hlen]; exact hz)
    rw [hlen]
    exact tup_laid (t' := s.toks) I ((r.drop (HT.sIx xs.length 0 lo)).take (HT.sIx xs.length xs.length hi - HT.sIx xs.length 0 lo)) (Nat.le_trans (cutV_length xs lo hi) hz) (q2 hw)
theorem call_tupleF : CallR X (.type "tuple") (fun xs H Q => ∃ p ys, xs = [.ref p] ∧ ((SqL X.K H p ys ∧ NewT H Q ys) ∨ (SqT X.K H p ys ∧ Q (.ref p) H))) := by
  intro pins s σ H xs us Q I r h
  obtain ⟨p, ys, rfl, h⟩ := h
  obtain ⟨u, rfl, rx⟩ := vals1 r
  cases rx
  rcases h with ⟨hq, q⟩ | ⟨hq, q⟩
  · obtain ⟨its, r', pl, hz⟩ := I.list hq
    have hlen := r'.length
    refine call_tuple_list pl.isList (fun h' kp => ?_) (by simp only [List.size_toArray] <;> omega)
    have I1 : Inv X pins σ H { s with heap := h' } := I.kept (t' := s.toks) kp
    exact tup_laid (t' := s.toks) I1 r' hz q
  · obtain ⟨its, r', pl, hz⟩ := I.tuple hq
    exact call_tuple_same pl ⟨.ref p, H, I, rfl, q⟩
theorem pairs_of2 (I : Inv X pins σ H s) : ∀ {ps : List Addr} {kvs : List (Key × V)}, Paired (fun p kv => SqT X.K H p [kV kv.1, kv.2]) ps kvs →
    ∃ (ws : List (Value × Value)) (prs : List (Key × Value)), KV kvs prs ∧ ws.length = ps.length ∧ prs.length = ps.length ∧ ∀ (j : Nat) (k v : Value), ws[j]? = some (k, v) → ∃ (b : Addr) (kk : Key), ps[j]? = some b ∧ prs[j]? = some (kk, v) ∧ IsTup s.heap b #[k, v] ∧ keyIs kk k = true
  | _, _, .nil => ⟨[], [], .nil, rfl, rfl, fun j k v e => by simp at e⟩
  | _, _, .cons (a := p) (b := kv) h t => by
    obtain ⟨ws, prs, r, hl, hl', hp⟩ := pairs_of2 I t
    obtain ⟨its, rv, ht, _⟩ := I.tuple h
    obtain ⟨u, y, ei, ru, ry⟩ := vals2 rv
    subst ei
    refine ⟨(u, y) :: ws, (kv.1, y) :: prs, .cons ⟨rfl, ry⟩ r, by rw [List.length_cons, List.length_cons, hl], by rw [List.length_cons, List.length_cons, hl'], fun j k v e => ?_⟩
    cases j with
    | zero =>
      have e' : (u, y) = (k, v) := Option.some.inj e
      cases e'
      exact ⟨p, kv.1, rfl, rfl, ht, kV_is (P := X.prog) (w := X.w) ru⟩
    | succ j =>
      obtain ⟨b, kk, e1, e2, e3, e4⟩ := hp j k v (by simpa using e)
      exact ⟨b, kk, by simpa using e1, by simpa using e2, e3, e4⟩
/-- dict(a tuple of pairs) -/
theorem call_dictT (hcalm : X.calm = true) : CallR X (.type "dict") (fun xs H Q => ∃ (a : Addr) (ps : List Addr) (kvs : List (Key × V)), xs = [.ref a] ∧
    ((TpO H a (ps.map V.ref)) ∨ ∃ o its n, X.K.lookup a = some o ∧ o.cls = .type "tuple" ∧ o.dict = none ∧ o.data = .seq its n ∧ its.size ≤ sizeLine ∧ Vals (ps.map V.ref) its.toList) ∧ Paired (fun p kv => SqT X.K H p [kV kv.1, kv.2]) ps kvs ∧
    ∀ p, H p = none → Q (.ref p) (upd H p (.dK (mergeK [] kvs)))) := by
  intro pins s σ H xs us Q I r q
  obtain ⟨a, ps, kvs, ex, hq, hp, q⟩ := q
  subst ex
  obtain ⟨u, eu, rx⟩ := vals1 r
  subst eu
  cases rx
  obtain ⟨items, pl, rv, hz⟩ : ∃ items : Array Value, PlainSeq "tuple" s.heap a items ∧ Vals (ps.map V.ref) items.toList ∧ items.size ≤ sizeLine := by
    rcases hq with ⟨o, e, hd⟩ | ⟨o, its, n, e, hc, hd, hdat, hz, rv⟩
    · obtain ⟨g, z, its, rv, o', g', hc, n, hdat⟩ := (show ObjOk X.prog X.w H s.heap a (.frz o (.tup (ps.map V.ref))) from I.hok a _ e)
      rw [g] at g'; cases g'
      exact ⟨_, ⟨o, n, g, hc, hd, hdat⟩, rv, by rw [List.size_toArray, ← rv.length]; exact z⟩
    · exact ⟨its, ⟨o, n, I.kIn a o e, hc, hd, hdat⟩, rv, hz⟩
  have ei := refs_at rv
  obtain ⟨ws, prs, rel, hl1, hl2, hpr⟩ := pairs_of2 I hp
  have hsz : items.size = ps.length := by
    have := congrArg List.length ei
    simpa using this
  have hit : ∀ (j : Nat) (b : Addr), ps[j]? = some b → items[j]? = some (.ref b) := fun j b e => by
    rw [← Array.getElem?_toList, ei, List.getElem?_map, e]
    rfl
  refine PySem.call_dict_pairs (knd := mixKind X.prog X.w) (kvs := prs) (PairArg.tuple a items (fun j => ps.getD j 0) ws) (I.ok.hd hcalm) ⟨pl, by rw [hsz, hl1], fun j k v e => ?_⟩ ⟨by rw [hl2, hl1], fun i k v e => ?_⟩ (by rw [hl1, ← hsz]; exact hz) fun h' tk hd' k => ?_
  · obtain ⟨b, kk, e1, e2, e3, e4⟩ := hpr j k v e
    have : ps.getD j 0 = b := by rw [List.getD_eq_getElem?_getD, e1]; rfl
    show items[j]? = some (Value.ref (ps.getD j 0)) ∧ PairAt s.heap (ps.getD j 0) k v
    rw [this]
    exact ⟨hit j b e1, .inl e3⟩
  · obtain ⟨b, kk, e1, e2, e3, e4⟩ := hpr i k v e
    exact ⟨kk, e2, e4⟩
  · have hm : (s.heap.objs.size == sysModules) = false := beq_eq_false_iff_ne.mpr (Nat.ne_of_gt I.big)
    have hlen : (mergeK [] kvs).length ≤ sizeLine := by
      refine Nat.le_trans (length_mergeK kvs []) ?_
      rw [List.length_nil, Nat.zero_add, rel.length, hl2, ← hsz]
      exact hz
    exact ⟨.ref s.heap.objs.size, upd H s.heap.objs.size (.dK (mergeK [] kvs)), I.laid (t' := tk) (fun b o e => k b o (by simp) e) (Nat.le_refl _) (show ObjOk X.prog X.w _ _ _ (.dK (mergeK [] kvs)) from ⟨hlen, hm, merged [] prs, KV.merge rel .nil, hd'⟩), rfl, q _ (I.hok.fresh (Nat.le_refl _))⟩
end
end Mp
end

section
/-! MiniPy: enumerate(a tuple). -/
set_option linter.all false
set_option maxRecDepth 100000
namespace Mp
open PySem PySem.Spec PyProof.Rows L2
set_option maxHeartbeats 1000000 in
theorem meets_enum1 {v : Value} {o : Obj} {H : Heap → Prop} (B : Begins v o H) :
    Meets (Builtin.«enumerate.__new__» ⟨[.type "enumerate", v], []⟩) (fun _ R s => H s.heap ∧
      R (.ok (.ret (.ref (s.heap.push o).objs.size))) { s with heap := (s.heap.push o).push { cls := .type "enumerate", data := .fields #[.none, .bool false, .ref s.heap.objs.size, rawInt 0, .none, .none] } }) :=
  .of_wp fun prog w A R s h => by
    obtain ⟨hp, g, d, tk, os⟩ := s; obtain ⟨h1, h⟩ := h
    have hsub := sub_enumerate
    have q1 : ∀ {A' : Around} {E : Value → Shared → Prop} {Q : Value → Shared → Prop}, Q (.ref hp.objs.size) ⟨hp.push o, g, d, tk, os⟩ → wpAny (model prog w) A' (pyIter v) Q E ⟨hp, g, d, tk, os⟩ :=
      fun q => B.iter prog w _ _ ⟨hp, g, d, tk, os⟩ _ h1 q
    wp_walk using q1
    refine wpAny_stack_any fun st => wpAny_pure ?_
    split
    · rename_i c _ _ _ _ _
      cases (c == Value.type "enumerate")
      · wp_walk using q1
        exact ⟨_, rfl, h⟩
      · wp_walk using q1
        exact ⟨_, rfl, h⟩
    · wp_walk using q1
      exact ⟨_, rfl, h⟩
theorem call_enum1 {prog : Program} {w : World} {A : Around} {E : Value → Shared → Prop} {s : Shared} {v : Value} {o : Obj} {H : Heap → Prop} {Q : Value → Shared → Prop} (B : Begins v o H) (h1 : H s.heap)
    (h : ∀ h', IsEnum h' (s.heap.objs.size + 1) s.heap.objs.size 0 .none → h'.get? s.heap.objs.size = some o → h'.objs.size = s.heap.objs.size + 2 →
      (∀ b o, s.heap.get? b = some o → h'.get? b = some o) → Q (.ref (s.heap.objs.size + 1)) { s with heap := h' }) :
    wpAny (model prog w) A (call (.type "enumerate") [v]) Q E s := by
  refine callType_new F.called_enumerate (by decide) (F.typeCall_enumerate_1 _) (F.newCall_enumerate_1 _) (fun obj => F.args_object_init_2 obj _) F.entry_enumerate_new (meets_enum1 B) ⟨h1, ?_⟩
  have hz : (s.heap.push o).objs.size = s.heap.objs.size + 1 := Heap.size_push ..
  show _ ∧ _
  rw [hz]
  have he : IsEnum ((s.heap.push o).push { cls := .type "enumerate", data := .fields #[.none, .bool false, .ref s.heap.objs.size, rawInt 0, .none, .none] }) (s.heap.objs.size + 1) s.heap.objs.size 0 .none := by
    have := Heap.get?_push_size (s.heap.push o) (o := { cls := .type "enumerate", data := .fields #[.none, .bool false, .ref s.heap.objs.size, rawInt 0, .none, .none] }) rfl
    rw [hz] at this; exact this
  refine ⟨⟨_, he, rfl⟩, h _ he (Heap.get?_push_of_some _ (Heap.get?_push_size _ B.free)) (by rw [Heap.size_push, hz]) fun b o x => Heap.get?_push_of_some _ (Heap.get?_push_of_some _ x)⟩
/-- the tuple at a: each item in a new pair -/
def IteT (K : PySem.W.Frag) (a : Addr) : L2.It :=
  ⟨fun i H => ∃ (xs : List V) (x : V), SqT K H a xs ∧ xs[i]? = some x, fun i H v H' => ∃ T x, v = .ref T ∧ H T = none ∧ H' = upd H T (.tup [.int (i : Nat), x]) ∧ ∀ xs, SqT K H a xs → xs[i]? = some x, fun i H => ∃ xs : List V, SqT K H a xs ∧ xs.length = i⟩
theorem turn_enumT {P : Program} {w : World} {K : PySem.W.Frag} {elts : List Expr} {kk : Nat} {tpos : Pos} (a e it : Addr) :
    Turn P w K (.Tuple elts kk tpos) (IteT K a) [e, it] e (fun i h => (∃ old, IsEnum h e it ((i : Nat) : Int) old) ∧ h.IsTupleIter it a i ∧ e ≠ it) where
  mem := by simp
  obj := fun i h st b hb => by
    obtain ⟨⟨old, he⟩, ⟨o, ho, hc, hd⟩, _⟩ := st
    have e' : b = e ∨ b = it := by simpa using hb
    rcases e' with z | z
    · rw [z]; exact ⟨_, he, fun v q => nomatch q⟩
    · rw [z]; exact ⟨o, ho, fun v q => by rw [hd] at q; cases q⟩
  keep := fun i h h' st k => let ⟨⟨old, he⟩, hi, hne⟩ := st; ⟨⟨old, k e (by simp) _ he⟩, hi.at fun o q => k it (by simp) o q, hne⟩
  item := by
    intro X hP hw hK hc i pins s σ H E I hf st hg
    subst hP hw hK
    obtain ⟨⟨old, he⟩, hit, hne⟩ := st
    obtain ⟨xs, x, hq, hx⟩ := hg
    obtain ⟨its, rv, p, hz⟩ := I.tuple hq
    obtain ⟨u, hu, ru⟩ := rv.get hx
    have hel : e < s.heap.objs.size := Heap.lt_size he
    have hil : it < s.heap.objs.size := by obtain ⟨_, q, _⟩ := hit; exact Heap.lt_size q
    obtain ⟨f0, f1, f2, f3, f4, f5⟩ := hf it (by simp)
    obtain ⟨g0, _⟩ := hf e (by simp)
    have hai : a ≠ it := fun z => by
      subst z
      obtain ⟨o1, e1, c1, _⟩ := hit
      obtain ⟨o2, e2, c2, _⟩ := p
      rw [e1] at e2; cases e2
      rw [c1] at c2; exact absurd c2 (by decide)
    have hae : e ≠ a := fun z => by
      subst z
      obtain ⟨o2, e2, c2, _⟩ := p
      rw [he] at e2; cases e2
      exact absurd (show Value.type "enumerate" = Value.type "tuple" from c2) (by decide)
    have hlt : i < its.toArray.size := by
      have := (List.getElem?_eq_some_iff.mp hu).1
      simpa using this
    have D := Draws.tuple (prog := X.prog) (w := X.w) (A := X.A.in1) (I.ok.hd hc) it a hai its.toArray
    refine wpAny_pyNext_enum_itemD D he ⟨hit, p⟩ hlt hne (by simp [hne, hae]) fun x' h' tk hx' ho hit' hT hsz hk => ?_
    have hxu : x' = u := by
      have z : its.toArray[i]? = some x' := hx'
      rw [List.getElem?_toArray, hu] at z
      exact (Option.some.inj z).symm
    subst hxu
    refine ⟨_, rfl, wpAny_letOwnedTupleGo_enum (s := { s with heap := h', toks := tk + 1 }) ho fun h'' he' sb => ?_⟩
    have hT2 : h''.get? s.heap.objs.size = some { cls := .type "tuple", data := .seq #[.int i tk, x'] } := (sb.2 _ (Nat.ne_of_gt hel)).trans hT
    have new : ObjOk X.prog X.w (upd H s.heap.objs.size (.tup [.int (i : Nat), x])) h'' s.heap.objs.size (.tup [.int (i : Nat), x]) :=
      ⟨by show 2 ≤ sizeLine; decide, [.int i tk, x'], .cons ⟨_, rfl⟩ (.cons ru .nil), ⟨_, hT2, rfl, _, rfl⟩⟩
    have I1 : Inv X pins σ (upd H s.heap.objs.size (.tup [.int (i : Nat), x])) { s with heap := h'', toks := tk + 1 } :=
      I.turnedNew (ch := [e, it]) (fun b ob hb q => (sb.2 b (fun z => hb (by simp [z]))).trans (hk b ob (fun z => hb (by simp [z])) (fun z => hb (by simp [z])) q)) hf (Nat.le_refl _) new
    refine ⟨.ref s.heap.objs.size, _, I1, rfl, ⟨_, x, rfl, I.hok.fresh (Nat.le_refl _), rfl, fun ys hy => by rw [I.tuple_inj hy hq]; exact hx⟩, ⟨⟨x', ?_⟩, hit'.1.at fun o q => (sb.2 it (Ne.symm hne)).trans q, hne⟩, fun b hb => ?_⟩
    · have e1 : ((i + 1 : Nat) : Int) = (i : Int) + 1 := by omega
      rw [e1]; exact he'
    · have hb' : b < s.heap.objs.size := by
        have e' : b = e ∨ b = it := by simpa using hb
        rcases e' with z | z
        · rw [z]; exact hel
        · rw [z]; exact hil
      rw [upd_ne (Nat.ne_of_lt hb')]
      exact (hf b hb).1
  done := by
    intro X hP hw hK hc i pins s σ H E I hf st hg
    subst hP hw hK
    obtain ⟨⟨old, he⟩, hit, hne⟩ := st
    obtain ⟨xs, hq, hx⟩ := hg
    obtain ⟨its, rv, p, hz⟩ := I.tuple hq
    obtain ⟨f0, f1, f2, f3, f4, f5⟩ := hf it (by simp)
    have hl := rv.length
    have hai : a ≠ it := fun z => by
      subst z
      obtain ⟨o1, e1, c1, _⟩ := hit
      obtain ⟨o2, e2, c2, _⟩ := p
      rw [e1] at e2; cases e2
      rw [c1] at c2; exact absurd c2 (by decide)
    have D := Draws.tuple (prog := X.prog) (w := X.w) (A := X.A.in1) (I.ok.hd hc) it a hai its.toArray
    have hn : i = its.toArray.size := by simp; omega
    exact wpAny_pyNext_enum_endD D he (by rw [← hn]; exact ⟨hit, p⟩) fun h' eb => ⟨rfl, I.turned (t' := s.toks) (fun b o hb q => eb b o hb q) f0 f1 f3 f4 f5⟩
  self := fun A i s Q E st h => let ⟨⟨_, he⟩, _⟩ := st; wpAny_pyIter_enum he h
/-- enumerate(a list or a tuple) -/
def iEnumA (K : PySem.W.Frag) (ta : TA) : TI := fun σ H R => ta σ H fun vs H1 => ∃ a xs, vs = [.ref a] ∧ ((SqL K H1 a xs ∧ R (Ite K a) H1) ∨ (SqT K H1 a xs ∧ R (IteT K a) H1))
theorem pi_enumA {X : Cx} {e : Expr} {ta : TA} {p pos tpos : Pos} {elts : List Expr} {kk : Nat} (hg : Gl X "enumerate") (hm : X.mg "enumerate" = none) (ha : PA X [e] ta) (hs : starEach [e] X.env = [(false, eval e X.env)]) :
    PI X (.Tuple elts kk tpos) (.Call (.Name "enumerate" p) [e] [] pos) (iEnumA X.K ta) := by
  refine ⟨fun pins s σ H R I h => ?_⟩
  refine Call_ (ld_blt I hg hm boot_enumerate (PyProof.Rows.callWith_type1 (thn (ha.run pos pins s σ H _ I h) fun us s1 ⟨vs, H1, I1, r1, q1⟩ => ?_) hs rfl))
  obtain ⟨a, xs, ex, hq⟩ := q1
  subst ex
  have fp : ∀ b ∈ [s1.heap.objs.size + 1, s1.heap.objs.size], FpOk X pins H1 b := fun b hb => by
    have e' : b = s1.heap.objs.size + 1 ∨ b = s1.heap.objs.size := by simpa using hb
    have hle : s1.heap.objs.size ≤ b := by
      rcases e' with z | z
      · rw [z]; exact Nat.le_add_right _ _
      · rw [z]; exact Nat.le_refl _
    exact I1.fpOk hle (I1.hok.fresh hle)
  cases r1 with
  | cons r rr =>
    cases rr
    cases r
    rcases hq with ⟨hq, q⟩ | ⟨hq, q⟩
    · obtain ⟨its, rv, p', hz⟩ := I1.list hq
      refine call_enumerate_list p'.isList fun h' he hit hsz hk => wpAny_pyIter_enum he ?_
      have I2 : Inv X pins σ H1 { s1 with heap := h' } := I1.kept (t' := s1.toks) hk
      exact ⟨s1.heap.objs.size + 1, [s1.heap.objs.size + 1, s1.heap.objs.size], _, _, H1, rfl, I2, turn_enum a (s1.heap.objs.size + 1) s1.heap.objs.size, ⟨⟨.none, he⟩, hit, Nat.succ_ne_self _⟩, fp, q⟩
    · obtain ⟨its, rv, p', hz⟩ := I1.tuple hq
      refine call_enum1 (begins_tuple a its.toArray) p' fun h' he hit hsz hk => wpAny_pyIter_enum he ?_
      have I2 : Inv X pins σ H1 { s1 with heap := h' } := I1.kept (t' := s1.toks) hk
      exact ⟨s1.heap.objs.size + 1, [s1.heap.objs.size + 1, s1.heap.objs.size], _, _, H1, rfl, I2, turn_enumT a (s1.heap.objs.size + 1) s1.heap.objs.size, ⟨⟨.none, he⟩, ⟨_, hit, rfl, rfl⟩, Nat.succ_ne_self _⟩, fp, q⟩
end Mp
end

section
/-! MiniPy beside the program's text: the checker, the relation of data and heap. -/
set_option linter.all false
set_option maxRecDepth 100000
namespace Mp
open PySem PySem.Spec PyProof.Rows L2

abbrev so (s : String) : Str := Str.ofString s
/-- the names of the program's top: defs, classes, constants -/
structure Gs where
  defs : List String
  cls : List String
  con : List String
def vis (sc : Scope) (x : Str) : Bool := match sc.names.lookup x with
  | some .local => true
  | some .cell => true
  | some .free => true
  | _ => false
def loc (sc : Scope) (x : Str) : Bool := match sc.names.lookup x with
  | some .local => true
  | some .cell => true
  | _ => false
def locl (sc : Scope) (x : Str) : Bool := match sc.names.lookup x with
  | some .local => true
  | _ => false
def cell (sc : Scope) (x : Str) : Bool := match sc.names.lookup x with
  | some .cell => true
  | _ => false
def glb (sc : Scope) (x : Str) : Bool := match sc.names.lookup x with
  | some .globalImplicit => true
  | _ => false
def plainN (x : Str) : Bool := decide (x ≠ "__debug__") && decide (x ≠ "__classdict__") && decide (x ≠ "__name__")
def chkC : D → Const → Bool
  | .int i, .int j => decide (i = j)
  | .str s, .str t => decide (so s = t)
  | .bl a, .bool b => a == b
  | .non, .none => true
  | _, _ => false
def chkBO : BOp → Operator → Bool
  | .add, .Add => true
  | .sub, .Sub => true
  | .mul, .Mult => true
  | .div, .FloorDiv => true
  | .mod, .Mod => true
  | .pow, .Pow => true
  | _, _ => false
def chkCO : COp → CmpOp → Bool
  | .eq, .Eq => true
  | .ne, .NotEq => true
  | .lt, .Lt => true
  | .le, .LtE => true
  | .gt, .Gt => true
  | .ge, .GtE => true
  | .isin, .In => true
  | .notin, .NotIn => true
  | .is, .Is => true
  | .isnot, .IsNot => true
  | _, _ => false
def biName : Bi → String
  | .len => "len" | .tuple => "tuple" | .list => "list" | .sorted => "sorted" | .sum => "sum" | .all => "all" | .abs => "abs" | .int => "int" | .str => "str"
  | .min2 => "min" | .max2 => "max" | .min1 => "min" | .max1 => "max" | .dict => "dict" | .repr => "repr" | .sset => "" | .lset => ""
def mtName : Mt → String
  | .append => "append" | .pop => "pop" | .pop0 => "pop" | .insert => "insert" | .extend => "extend" | .index => "index" | .get1 => "get" | .get2 => "get" | .setd => "setdefault"
  | .join => "join" | .split => "split" | .clear => "clear" | .count => "count" | .starts => "startswith" | .own m => m
def biArity : Bi → Nat
  | .min2 => 2
  | .max2 => 2
  | _ => 1
def biOk : Bi → Bool
  | .sset => false
  | .lset => false
  | _ => true
def mtArity : Mt → Nat
  | .pop => 0
  | .clear => 0
  | .insert => 2
  | .get2 => 2
  | .setd => 2
  | _ => 1
/-- a name that is stored: its slot -/
def chkN (N : List Str) (sc : Scope) (fn : Str → Bool) (i : Nat) : Expr → Bool
  | .Name x _ => decide (N[i]? = some x) && loc sc x && (fn x || locl sc x)
  | _ => false
def chkNs (N : List Str) (sc : Scope) (fn : Str → Bool) : List Nat → List Expr → Bool
  | [], [] => true
  | i :: is, e :: es => chkN N sc fn i e && chkNs N sc fn is es
  | _, _ => false
def chkT (N : List Str) (sc : Scope) (fn : Str → Bool) : Tg → Expr → Bool
  | .n i, e => chkN N sc fn i e
  | .tu is, .Tuple es _ _ => chkNs N sc fn is es
  | _, _ => false
def tgIs : Tg → List Nat
  | .n i => [i]
  | .tu is => is
def ownOf (N : List Str) (own : List Nat) : List (Str × Nat) := own.filterMap fun i => (N[i]?).map fun x => (x, i)
/-- no call without arguments (super) -/
def noSup : Expr → Bool
  | .Call (.Name _ _) [] _ _ => false
  | _ => true
def notTrue : Expr → Bool
  | .UnaryOp .. => false
  | .BoolOp .. => false
  | .IfExp .. => false
  | .Compare .. => false
  | _ => true
/-- no starred one -/
def noStar : Expr → Bool
  | .Starred .. => false
  | _ => true
/-- no slice -/
def noSl : Expr → Bool
  | .Slice .. => false
  | _ => true
/-- no set display -/
def noSet : Expr → Bool
  | .Set .. => false
  | _ => true
/-- new pairs are taken apart at once -/
def itTg : Ie → Tg → Bool
  | .enum _, .n _ => false
  | .zip _ _, .n _ => false
  | _, _ => true
mutual
def chkE (N : List Str) (sc : Scope) (G : Gs) : E → Expr → Bool
  | .c d, .Constant k _ _ => chkC d k
  | .v i, .Name x _ => decide (N[i]? = some x) && vis sc x && plainN x
  | .g y, .Name x _ => decide (so y = x) && glb sc x && plainN x && decide (y ∈ G.con)
  | .bin o a b, .BinOp l op r _ => chkBO o op && chkE N sc G a l && chkE N sc G b r
  | .neg a, .UnaryOp .USub x _ => chkE N sc G a x
  | .cmp o a b, .Compare l [op] [r] _ => chkCO o op && noSet r && chkE N sc G a l && chkE N sc G b r
  | .ch o p a b c, .Compare l [op, op'] [m, r] _ => chkCO o op && chkCO p op' && noSet r && chkE N sc G a l && chkE N sc G b m && chkE N sc G c r
  | .and a b, .BoolOp .And (x :: y :: r) pos => chkE N sc G a x && (match r with
    | [] => chkE N sc G b y
    | z :: r => chkE N sc G b (.BoolOp .And (y :: z :: r) pos))
  | .or a b, .BoolOp .Or (x :: y :: r) pos => chkE N sc G a x && (match r with
    | [] => chkE N sc G b y
    | z :: r => chkE N sc G b (.BoolOp .Or (y :: z :: r) pos))
  | .not a, .UnaryOp .Not x _ => chkE N sc G a x
  | .ite t a b, .IfExp c x y _ => chkE N sc G t c && chkE N sc G a x && chkE N sc G b y
  | .tup es, .Tuple l _ _ => chkEs N sc G es l
  | .lst es, .List l _ => chkEs N sc G es l
  | .dic ks vs, .Dict kl vl _ => chkK ks kl && chkEs N sc G vs vl && decide (ks.length = vl.length) && decide (ks.length ≤ 15)
  | .ix a i, .Subscript x s _ => noSl s && chkE N sc G a x && chkE N sc G i s
  | .sl a lo hi, .Subscript x (.Slice l u none _) _ => chkE N sc G a x && chkO N sc G lo l && chkO N sc G hi u
  | .call f es, .Call (.Name x _) args [] _ => decide (so f = x) && glb sc x && plainN x && decide (f ∈ G.defs) && chkEs N sc G es args
  | .bi f es, .Call (.Name x _) args [] _ => decide (so (biName f) = x) && biOk f && glb sc x && plainN x && decide (args.length = biArity f) && chkEs N sc G es args
  | .mt o m es, .Call (.Attribute ob nm apos) args [] cpos => decide (so (mtName m) = nm) && noSup ob && decide (apos.endLine = cpos.line) && decide (args.length < 20) && chkE N sc G o ob && chkEs N sc G es args &&
      (match m with
      | .own _ => false
      | m => decide (args.length = mtArity m))
  | .fld o f, .Attribute ob nm _ => decide (so f = nm) && noSup ob && chkE N sc G o ob
  | .isi a [t], .Call (.Name x _) [y, .Name z _] [] _ => decide (x = "isinstance") && noStar y && glb sc x && decide (so t = z) && glb sc z && plainN z && decide (t ∈ ["tuple", "int", "bool", "str", "list"]) && chkE N sc G a y
  | .al e, x => chkE N sc G e x
  | .lc elt tg it cond own, .ListComp el [⟨t, i, ifs, as⟩] scope _ =>
      decide (as = 0) && blkC N sc scope (ownOf N own) && decide ((ownOf N own).map (·.2) = own) && chkT N (relS scope sc) (cell scope) tg t && decide (∀ i ∈ tgIs tg, i ∈ own) && itTg it tg && noSet i && chkI N sc G it i &&
      chkE N (relS scope sc) G elt el && (match ifs with
      | [] => (match cond with
        | .c (.bl true) => true
        | _ => false)
      | [c] => chkE N (relS scope sc) G cond c
      | _ => false)
  | _, _ => false
def chkEs (N : List Str) (sc : Scope) (G : Gs) : Es → List Expr → Bool
  | .nil, [] => true
  | .cons e r, x :: xs => noStar x && chkE N sc G e x && chkEs N sc G r xs
  | _, _ => false
def chkO (N : List Str) (sc : Scope) (G : Gs) : Oe → Option Expr → Bool
  | .no, none => true
  | .some e, some x => chkE N sc G e x
  | _, _ => false
def chkI (N : List Str) (sc : Scope) (G : Gs) : Ie → Expr → Bool
  | .rng a, .Call (.Name x _) [y] [] _ => decide (x = "range") && glb sc x && noStar y && chkE N sc G a y
  | .rng2 a b, .Call (.Name x _) [y, z] [] _ => decide (x = "range") && glb sc x && noStar y && noStar z && chkE N sc G a y && chkE N sc G b z
  | .enum a, .Call (.Name x _) [y] [] _ => decide (x = "enumerate") && glb sc x && noStar y && chkE N sc G a y
  | .zip a b, .Call (.Name x _) [y, z] [] _ => decide (x = "zip") && glb sc x && noStar y && noStar z && chkE N sc G a y && chkE N sc G b z
  | .of e, x => chkE N sc G e x
  | _, _ => false
def chkK : List D → List (Option Expr) → Bool
  | [], [] => true
  | d :: ds, some (.Constant k _ _) :: ks => chkC d k && isKey d && chkK ds ks
  | _, _ => false
end
/-- whether y = [..] is a comprehension that stores its list itself -/
def lcSwap (sc : Scope) (x : Str) (px : Pos) : Expr → Bool
  | .ListComp _ _ s p => locl sc x && px.line == p.line && !(s.names.any fun (n, k) => n == x && (k == .local || k == .cell))
  | _ => false
def isLc : Expr → Bool
  | .ListComp .. => true
  | _ => false
def isTupE : Expr → Bool
  | .Tuple .. => true
  | _ => false
/-- no set, no dict comprehension -/
def notComp : Expr → Bool
  | .SetComp .. => false
  | .DictComp .. => false
  | _ => true
mutual
def chkS (N : List Str) (sc : Scope) (G : Gs) : S → Stmt → Bool
  | .asg i e, .Assign [.Name x px] v pos => chkN N sc (fun _ => true) i (.Name x px) && notComp v && (!isLc v || lcSwap sc x px v) && chkE N sc G e v
  | .tas is e, .Assign [.Tuple ts _ _] v _ => chkNs N sc (fun _ => true) is ts && !isTupE v && chkE N sc G e v
  | .ixs o i e, .Assign [.Subscript ob ix _] v _ => noSl ix && chkE N sc G o ob && chkE N sc G i ix && chkE N sc G e v
  | .fas o f e, .Assign [.Attribute ob nm _] v _ => decide (so f = nm) && chkE N sc G o ob && chkE N sc G e v
  | .ex e, .Expr v _ => chkE N sc G e v && notComp v && !isLc v
  | .ret e, .Return (some v) _ => chkE N sc G e v
  | .retn, .Return none _ => true
  | .iff t a b, .If c x y _ => chkE N sc G t c && chkSs N sc G a x && chkSs N sc G b y
  | .for_ tg it b, .For t i x [] _ => chkT N sc (fun _ => true) tg t && itTg it tg && noSet i && chkI N sc G it i && chkSs N sc G b x
  | .whl t b, .While c x [] _ => chkE N sc G t c && chkSs N sc G b x
  | .raise _ _, .Raise .. => true
  | .try_ b _ _ _, .Try x (_ :: _) [] [] _ => chkSs N sc G b x
  | .pass, .Pass _ => true
  | .brk, .Break _ => true
  | .cont, .Continue _ => true
  | _, _ => false
def chkSs (N : List Str) (sc : Scope) (G : Gs) : Ss → List Stmt → Bool
  | .nil, [] => true
  | .cons s r, x :: xs => chkS N sc G s x && chkSs N sc G r xs
  | _, _ => false
end

/-! ### data and heap -/
def nt : D → Bool
  | .tl _ => false
  | _ => true
/-- a tuple, a list that the top has written -/
def WrT (K : PySem.W.Frag) (a : Addr) (xs : List V) : Prop := ∃ (o : Obj) (its : Array Value) (n : Nat), K.lookup a = some o ∧ o.cls = .type "tuple" ∧ o.dict = none ∧ o.data = .seq its n ∧ its.size ≤ sizeLine ∧ Vals xs its.toList
def WrL (K : PySem.W.Frag) (a : Addr) (xs : List V) : Prop := ∃ (o : Obj) (its : Array Value) (n : Nat), K.lookup a = some o ∧ o.cls = .type "list" ∧ o.dict = none ∧ o.data = .seq its n ∧ its.size ≤ sizeLine ∧ Vals xs its.toList
mutual
/-- ρ: the store's addresses; R: addresses that no data name (a new list under way) -/
inductive DV (K : PySem.W.Frag) (ρ R : List Addr) (H : Hp) : D → V → Prop
  | non : DV K ρ R H .non .non
  | bl (b : Bool) : DV K ρ R H (.bl b) (.bl b)
  | int (i : Int) : DV K ρ R H (.int i) (.int i)
  | str (s : String) : DV K ρ R H (.str s) (.str (so s))
  | tup {ds : List D} {vs : List V} {a : Addr} : TpO H a vs → a ∉ ρ → a ∉ R → DVs K ρ R H ds vs → DV K ρ R H (.tup ds) (.ref a)
  | tupK {ds : List D} {vs : List V} {a : Addr} : WrT K a vs → DVs K ρ R H ds vs → DV K ρ R H (.tup ds) (.ref a)
  | fz {ds : List D} {vs : List V} {a : Addr} : H a = some (.lst vs) → a ∉ ρ → a ∉ R → DVs K ρ R H ds vs → DV K ρ R H (.fz ds) (.ref a)
  | tl {ds : List D} {vs : List V} {a : Addr} : H a = some (.lst vs) → a ∉ ρ → a ∉ R → DVs K ρ R H ds vs → DV K ρ R H (.tl ds) (.ref a)
  | ref {n : Nat} {a : Addr} : ρ[n]? = some a → DV K ρ R H (.ref n) (.ref a)
  | scr {l : List Int} {a : Addr} : Rd H a (.lst (l.map V.int)) → a ∉ ρ → a ∉ R → DV K ρ R H (.scr l) (.ref a)
  | scrK {l : List Int} {a : Addr} : WrL K a (l.map V.int) → DV K ρ R H (.scr l) (.ref a)
inductive DVs (K : PySem.W.Frag) (ρ R : List Addr) (H : Hp) : List D → List V → Prop
  | nil : DVs K ρ R H [] []
  | cons {d : D} {v : V} {ds : List D} {vs : List V} : DV K ρ R H d v → nt d = true → DVs K ρ R H ds vs → DVs K ρ R H (d :: ds) (v :: vs)
end
/-- ahead, behind: what is not an object of the store stays; new objects of the store were not there -/
structure Grow (ρ : List Addr) (H : Hp) (ρ' : List Addr) (H' : Hp) : Prop where
  pre : ∃ t, ρ' = ρ ++ t ∧ ∀ c ∈ t, H c = none
  keep : ∀ b o, H b = some o → b ∉ ρ → H' b = some o
  dom : ∀ b o, H b = some o → ∃ o', H' b = some o'
section
variable {K : PySem.W.Frag} {ρ ρ1 ρ2 R : List Addr} {H H1 H2 : Hp}
theorem Grow.refl : Grow ρ H ρ H := ⟨⟨[], by simp, fun _ h => by cases h⟩, fun _ _ h _ => h, fun _ o h => ⟨o, h⟩⟩
theorem Grow.notin (g : Grow ρ H ρ1 H1) {b : Addr} {o : HO} (e : H b = some o) (h : b ∉ ρ) : b ∉ ρ1 := by
  obtain ⟨t, rfl, ht⟩ := g.pre
  intro hb
  rcases List.mem_append.mp hb with hb | hb
  · exact h hb
  · have := ht b hb
    rw [e] at this; cases this
theorem Grow.trans (a : Grow ρ H ρ1 H1) (b : Grow ρ1 H1 ρ2 H2) : Grow ρ H ρ2 H2 := by
  obtain ⟨t, rfl, ht⟩ := id a.pre
  obtain ⟨u, rfl, hu⟩ := id b.pre
  refine ⟨⟨t ++ u, by simp, fun c hc => ?_⟩, fun c o e h => b.keep c o (a.keep c o e h) (a.notin e h), fun c o e => ?_⟩
  · rcases List.mem_append.mp hc with hc | hc
    · exact ht c hc
    · cases q : H c with
      | none => rfl
      | some o =>
        obtain ⟨o', e'⟩ := a.dom c o q
        have := hu c hc
        rw [e'] at this; cases this
  · obtain ⟨o', e'⟩ := a.dom c o e
    exact b.dom c o' e'
theorem Grow.none_of (g : Grow ρ H ρ1 H1) {b : Addr} (e : H1 b = none) : H b = none := by
  cases q : H b with
  | none => rfl
  | some o =>
    obtain ⟨o', e'⟩ := g.dom b o q
    rw [e] at e'; cases e'
theorem Grow.tp (g : Grow ρ H ρ1 H1) {a : Addr} {vs : List V} (h : TpO H a vs) (hn : a ∉ ρ) : TpO H1 a vs ∧ a ∉ ρ1 := by
  obtain ⟨o, e, hd⟩ := h
  exact ⟨⟨o, g.keep a _ e hn, hd⟩, g.notin e hn⟩
theorem Grow.rd (g : Grow ρ H ρ1 H1) {a : Addr} {u : HO} (h : Rd H a u) (hn : a ∉ ρ) : Rd H1 a u ∧ a ∉ ρ1 := by
  rcases h with h | ⟨o, h⟩
  · exact ⟨.inl (g.keep a _ h hn), g.notin h hn⟩
  · exact ⟨.inr ⟨o, g.keep a _ h hn⟩, g.notin h hn⟩
mutual
theorem DV.mono (g : Grow ρ H ρ1 H1) : ∀ {d : D} {v : V}, DV K ρ R H d v → DV K ρ1 R H1 d v
  | _, _, .non => .non
  | _, _, .bl b => .bl b
  | _, _, .int i => .int i
  | _, _, .str s => .str s
  | _, _, .tup h hn hr hs => .tup (g.tp h hn).1 (g.tp h hn).2 hr (DVs.mono g hs)
  | _, _, .tupK h hs => .tupK h (DVs.mono g hs)
  | _, _, .fz h hn hr hs => .fz (g.keep _ _ h hn) (g.notin h hn) hr (DVs.mono g hs)
  | _, _, .tl h hn hr hs => .tl (g.keep _ _ h hn) (g.notin h hn) hr (DVs.mono g hs)
  | _, _, .ref h => .ref (by
    obtain ⟨t, rfl, ht⟩ := g.pre
    rw [List.getElem?_append_left (List.getElem?_eq_some_iff.mp h).1]
    exact h)
  | _, _, .scr h hn hr => .scr (g.rd h hn).1 (g.rd h hn).2 hr
  | _, _, .scrK h => .scrK h
theorem DVs.mono (g : Grow ρ H ρ1 H1) : ∀ {ds : List D} {vs : List V}, DVs K ρ R H ds vs → DVs K ρ1 R H1 ds vs
  | _, _, .nil => .nil
  | _, _, .cons h n t => .cons (DV.mono g h) n (DVs.mono g t)
end
/-- other excluded addresses -/
structure Ex (ρ R ρ1 R1 : List Addr) : Prop where
  pre : ∀ (n : Nat) (a : Addr), ρ[n]? = some a → ρ1[n]? = some a
  out : ∀ a, a ∉ ρ → a ∉ R → a ∉ ρ1 ∧ a ∉ R1
mutual
theorem DV.ex {R1 : List Addr} (g : Ex ρ R ρ1 R1) : ∀ {d : D} {v : V}, DV K ρ R H d v → DV K ρ1 R1 H d v
  | _, _, .non => .non
  | _, _, .bl b => .bl b
  | _, _, .int i => .int i
  | _, _, .str s => .str s
  | _, _, .tup h hn hr hs => .tup h (g.out _ hn hr).1 (g.out _ hn hr).2 (DVs.ex g hs)
  | _, _, .tupK h hs => .tupK h (DVs.ex g hs)
  | _, _, .fz h hn hr hs => .fz h (g.out _ hn hr).1 (g.out _ hn hr).2 (DVs.ex g hs)
  | _, _, .tl h hn hr hs => .tl h (g.out _ hn hr).1 (g.out _ hn hr).2 (DVs.ex g hs)
  | _, _, .ref h => .ref (g.pre _ _ h)
  | _, _, .scr h hn hr => .scr h (g.out _ hn hr).1 (g.out _ hn hr).2
  | _, _, .scrK h => .scrK h
theorem DVs.ex {R1 : List Addr} (g : Ex ρ R ρ1 R1) : ∀ {ds : List D} {vs : List V}, DVs K ρ R H ds vs → DVs K ρ1 R1 H ds vs
  | _, _, .nil => .nil
  | _, _, .cons h n t => .cons (DV.ex g h) n (DVs.ex g t)
end
/-- one excluded address more: a new one -/
theorem Ex.less {a : Addr} : Ex ρ (a :: R) ρ R := ⟨fun _ _ h => h, fun b h1 h2 => ⟨h1, fun z => h2 (List.mem_cons_of_mem _ z)⟩⟩
theorem Ex.al {a : Addr} : Ex ρ (a :: R) (ρ ++ [a]) R := ⟨fun n b h => by
    rw [List.getElem?_append_left (List.getElem?_eq_some_iff.mp h).1]
    exact h, fun b h1 h2 => ⟨fun z => (List.mem_append.mp z).elim h1 fun z => h2 (by rw [List.mem_singleton.mp z]; exact List.mem_cons_self), fun z => h2 (List.mem_cons_of_mem _ z)⟩⟩
mutual
/-- an untracked address may be excluded -/
theorem DV.more {a : Addr} (h0 : H a = none) : ∀ {d : D} {v : V}, DV K ρ R H d v → DV K ρ (a :: R) H d v
  | _, _, .non => .non
  | _, _, .bl b => .bl b
  | _, _, .int i => .int i
  | _, _, .str s => .str s
  | _, _, .tup h hn hr hs => .tup h hn (fun z => (List.mem_cons.mp z).elim (fun z => by
      subst z
      obtain ⟨o, h, _⟩ := h
      rw [h0] at h; cases h) hr) (DVs.more h0 hs)
  | _, _, .tupK h hs => .tupK h (DVs.more h0 hs)
  | _, _, .fz h hn hr hs => .fz h hn (fun z => (List.mem_cons.mp z).elim (fun z => by
      subst z
      rw [h0] at h; cases h) hr) (DVs.more h0 hs)
  | _, _, .tl h hn hr hs => .tl h hn (fun z => (List.mem_cons.mp z).elim (fun z => by
      subst z
      rw [h0] at h; cases h) hr) (DVs.more h0 hs)
  | _, _, .ref h => .ref h
  | _, _, .scr h hn hr => .scr h hn (fun z => (List.mem_cons.mp z).elim (fun z => by
      subst z
      rcases h with h | ⟨o, h⟩
      · rw [h0] at h; cases h
      · rw [h0] at h; cases h) hr)
  | _, _, .scrK h => .scrK h
theorem DVs.more {a : Addr} (h0 : H a = none) : ∀ {ds : List D} {vs : List V}, DVs K ρ R H ds vs → DVs K ρ (a :: R) H ds vs
  | _, _, .nil => .nil
  | _, _, .cons h n t => .cons (DV.more h0 h) n (DVs.more h0 t)
end
theorem DVs.length : ∀ {ds : List D} {vs : List V}, DVs K ρ R H ds vs → ds.length = vs.length
  | _, _, .nil => rfl
  | _, _, .cons _ _ t => by rw [List.length_cons, List.length_cons, DVs.length t]
theorem DVs.get : ∀ {ds : List D} {vs : List V} {i : Nat} {d : D}, DVs K ρ R H ds vs → ds[i]? = some d → ∃ v, vs[i]? = some v ∧ DV K ρ R H d v ∧ nt d = true
  | _, _, _, _, .nil, e => by simp at e
  | _, _, 0, _, .cons h n t, e => by
    simp at e
    subst e
    exact ⟨_, rfl, h, n⟩
  | _, _, i + 1, d, .cons h n t, e => by
    obtain ⟨v, a, b⟩ := DVs.get (i := i) (d := d) t (by simpa using e)
    exact ⟨v, by simpa using a, b⟩
theorem DVs.append : ∀ {ds es : List D} {vs ws : List V}, DVs K ρ R H ds vs → DVs K ρ R H es ws → DVs K ρ R H (ds ++ es) (vs ++ ws)
  | _, _, _, _, .nil, t => t
  | _, _, _, _, .cons h n s, t => .cons h n (DVs.append s t)
theorem DVs.take : ∀ {ds : List D} {vs : List V} (n : Nat), DVs K ρ R H ds vs → DVs K ρ R H (ds.take n) (vs.take n)
  | _, _, 0, _ => .nil
  | _, _, _ + 1, .nil => .nil
  | _, _, n + 1, .cons h m t => .cons h m (DVs.take n t)
theorem DVs.drop : ∀ {ds : List D} {vs : List V} (n : Nat), DVs K ρ R H ds vs → DVs K ρ R H (ds.drop n) (vs.drop n)
  | _, _, 0, r => r
  | _, _, _ + 1, .nil => .nil
  | _, _, n + 1, .cons h m t => DVs.drop n t
theorem DVs.set {d : D} {v : V} (h : DV K ρ R H d v) (hn : nt d = true) : ∀ {ds : List D} {vs : List V} (i : Nat), DVs K ρ R H ds vs → DVs K ρ R H (ds.set i d) (vs.set i v)
  | _, _, _, .nil => .nil
  | _, _, 0, .cons _ _ t => .cons h hn t
  | _, _, i + 1, .cons a b t => .cons a b (DVs.set h hn i t)
theorem DVs.rep {ds : List D} {vs : List V} (h : DVs K ρ R H ds vs) : ∀ n : Nat, DVs K ρ R H (List.replicate n ds).flatten (List.replicate n vs).flatten
  | 0 => .nil
  | n + 1 => by
    rw [List.replicate_succ, List.replicate_succ, List.flatten_cons, List.flatten_cons]
    exact DVs.append h (DVs.rep h n)
theorem DVs.intS : ∀ l : List Int, DVs K ρ R H (l.map .int) (l.map V.int)
  | [] => .nil
  | i :: r => .cons (.int i) rfl (DVs.intS r)
theorem DVs.strS : ∀ l : List String, DVs K ρ R H (l.map .str) (l.map fun s => V.str (so s))
  | [] => .nil
  | i :: r => .cons (.str i) rfl (DVs.strS r)
theorem DVs.isEmpty {ds : List D} {vs : List V} (h : DVs K ρ R H ds vs) : ds.isEmpty = vs.isEmpty := by
  cases h <;> rfl
/-! what a sequence is in the heap -/
theorem WrT.sq {a : Addr} {vs : List V} (h : WrT K a vs) : SqT K H a vs := by
  obtain ⟨o, its, n, h1, h2, h3, h4, h5, h6⟩ := h
  exact .inr ⟨o, its, n, h1, h2, h4, h5, h6⟩
theorem DV.seqT {ds : List D} {v : V} (h : DV K ρ R H (.tup ds) v) : ∃ a vs, v = .ref a ∧ SqT K H a vs ∧ DVs K ρ R H ds vs := by
  cases h with
  | tup h _ _ hs => exact ⟨_, _, rfl, .inl h.rd, hs⟩
  | tupK h hs => exact ⟨_, _, rfl, h.sq, hs⟩
theorem DV.frz {d : D} {v : V} (h : DV K ρ R H d v) : DV K ρ R H (frz d) v := by
  cases h with
  | tl h1 h2 h3 h4 => exact .fz h1 h2 h3 h4
  | non => exact .non
  | bl b => exact .bl b
  | int b => exact .int b
  | str b => exact .str b
  | tup h1 h2 h3 h4 => exact .tup h1 h2 h3 h4
  | tupK h1 h2 => exact .tupK h1 h2
  | fz h1 h2 h3 h4 => exact .fz h1 h2 h3 h4
  | ref h => exact .ref h
  | scr h1 h2 h3 => exact .scr h1 h2 h3
  | scrK h => exact .scrK h
theorem nt_frz (d : D) : nt (frz d) = true := by cases d <;> rfl
end

/-! ### the store -/
def DK : D → Key → Prop
  | .int i, k => k = Sum.inl i
  | .str s, k => k = Sum.inr (so s)
  | _, _ => False
/-- the classes' addresses -/
abbrev CA := String → Addr
def CellR (K : PySem.W.Frag) (A : String → List String) (ca : CA) (ρ R : List Addr) (H : Hp) (a : Addr) : MO → Prop
  | .lst ds => ∃ vs, H a = some (.lst vs) ∧ DVs K ρ R H ds vs
  | .dic l => ∃ kvs : List (Key × V), H a = some (.dK kvs) ∧ Paired (fun (p : D × D) (q : Key × V) => DK p.1 q.1 ∧ DV K ρ R H p.2 q.2 ∧ nt p.2 = true) l kvs
  | .ins c fs => ∃ dx, ∃ gs : List (Str × V), H a = some (.ins (ca c) dx gs) ∧ Paired (fun (p : String × D) (q : Str × V) => so p.1 = q.1 ∧ DV K ρ R H p.2 q.2 ∧ nt p.2 = true ∧ p.1 ∈ A c) fs gs
structure MR (K : PySem.W.Frag) (A : String → List String) (ca : CA) (ρ R : List Addr) (M : Me) (H : Hp) : Prop where
  len : ρ.length = M.length
  nd : ρ.Nodup
  cell : ∀ (n : Nat) (c : MO) (a : Addr), M[n]? = some c → ρ[n]? = some a → CellR K A ca ρ R H a c
  rs : ∀ a ∈ R, a ∉ ρ ∧ ∃ o, H a = some o
section
variable {K : PySem.W.Frag} {A : String → List String} {ca : CA} {ρ ρ1 ρ2 R R1 : List Addr} {H H1 H2 : Hp} {M : Me}
theorem CellR.mono (g : Grow ρ H ρ1 H1) {a : Addr} {c : MO} (h : CellR K A ca ρ R H a c) (e : H1 a = H a) : CellR K A ca ρ1 R H1 a c := by
  cases c with
  | lst ds =>
    obtain ⟨vs, h1, h2⟩ := h
    exact ⟨vs, e.trans h1, h2.mono g⟩
  | dic l =>
    obtain ⟨kvs, h1, h2⟩ := h
    exact ⟨kvs, e.trans h1, Paired.mapP h2 fun p q z => ⟨z.1, z.2.1.mono g, z.2.2⟩⟩
  | ins c fs =>
    obtain ⟨dx, gs, h1, h2⟩ := h
    exact ⟨dx, gs, e.trans h1, Paired.mapP h2 fun p q z => ⟨z.1, z.2.1.mono g, z.2.2⟩⟩
theorem CellR.ex (g : Ex ρ R ρ1 R1) {a : Addr} {c : MO} (h : CellR K A ca ρ R H a c) : CellR K A ca ρ1 R1 H a c := by
  cases c with
  | lst ds =>
    obtain ⟨vs, h1, h2⟩ := h
    exact ⟨vs, h1, h2.ex g⟩
  | dic l =>
    obtain ⟨kvs, h1, h2⟩ := h
    exact ⟨kvs, h1, Paired.mapP h2 fun p q z => ⟨z.1, z.2.1.ex g, z.2.2⟩⟩
  | ins c fs =>
    obtain ⟨dx, gs, h1, h2⟩ := h
    exact ⟨dx, gs, h1, Paired.mapP h2 fun p q z => ⟨z.1, z.2.1.ex g, z.2.2⟩⟩
theorem CellR.more {b : Addr} (h0 : H b = none) {a : Addr} {c : MO} (h : CellR K A ca ρ R H a c) : CellR K A ca ρ (b :: R) H a c := by
  cases c with
  | lst ds =>
    obtain ⟨vs, h1, h2⟩ := h
    exact ⟨vs, h1, h2.more h0⟩
  | dic l =>
    obtain ⟨kvs, h1, h2⟩ := h
    exact ⟨kvs, h1, Paired.mapP h2 fun p q z => ⟨z.1, z.2.1.more h0, z.2.2⟩⟩
  | ins c fs =>
    obtain ⟨dx, gs, h1, h2⟩ := h
    exact ⟨dx, gs, h1, Paired.mapP h2 fun p q z => ⟨z.1, z.2.1.more h0, z.2.2⟩⟩
theorem CellR.some {a : Addr} {c : MO} (h : CellR K A ca ρ R H a c) : ∃ o, H a = some o := by
  cases c with
  | lst ds => obtain ⟨vs, h1, _⟩ := h; exact ⟨_, h1⟩
  | dic l => obtain ⟨vs, h1, _⟩ := h; exact ⟨_, h1⟩
  | ins c fs => obtain ⟨dx, vs, h1, _⟩ := h; exact ⟨_, h1⟩
theorem MR.addr (m : MR K A ca ρ R M H) {n : Nat} {c : MO} (e : M[n]? = some c) : ∃ a, ρ[n]? = some a ∧ CellR K A ca ρ R H a c := by
  have hn : n < ρ.length := by rw [m.len]; exact (List.getElem?_eq_some_iff.mp e).1
  exact ⟨ρ[n], List.getElem?_eq_getElem hn, m.cell n c _ e (List.getElem?_eq_getElem hn)⟩
theorem MR.tracked (m : MR K A ca ρ R M H) {a : Addr} (h : a ∈ ρ) : ∃ o, H a = some o := by
  obtain ⟨n, hn, e⟩ := List.getElem_of_mem h
  have hm : n < M.length := by rw [← m.len]; exact hn
  exact (m.cell n M[n] a (List.getElem?_eq_getElem hm) (by rw [List.getElem?_eq_getElem hn, e])).some
theorem MR.fresh (m : MR K A ca ρ R M H) {a : Addr} (h : H a = none) : a ∉ ρ := fun z => by
  obtain ⟨o, e⟩ := m.tracked z
  rw [h] at e; cases e
theorem MR.freshR (m : MR K A ca ρ R M H) {a : Addr} (h : H a = none) : a ∉ R := fun z => by
  obtain ⟨o, e⟩ := (m.rs a z).2
  rw [h] at e; cases e
/-- a new object is laid and tracked -/
theorem grow_new {a : Addr} {o : HO} (h : H a = none) : Grow ρ H ρ (upd H a o) :=
  ⟨⟨[], by simp, fun _ h => by cases h⟩, fun b u e _ => by rw [upd_ne (ne_of_none e h)]; exact e, fun b u e => ⟨u, by rw [upd_ne (ne_of_none e h)]; exact e⟩⟩
theorem MR.new (m : MR K A ca ρ R M H) {a : Addr} {o : HO} (h : H a = none) : MR K A ca ρ R M (upd H a o) :=
  ⟨m.len, m.nd, fun n c b e r => (m.cell n c b e r).mono (grow_new h) (by
    rw [upd_ne]
    rintro rfl
    exact m.fresh h (List.mem_of_getElem? r)), fun b hb => ⟨(m.rs b hb).1, by
      obtain ⟨o', e⟩ := (m.rs b hb).2
      exact ⟨o', by rw [upd_ne (ne_of_none e h)]; exact e⟩⟩⟩
/-- .. and excluded -/
theorem MR.newR (m : MR K A ca ρ R M H) {a : Addr} {o : HO} (h : H a = none) : MR K A ca ρ (a :: R) M (upd H a o) := by
  refine ⟨m.len, m.nd, fun n c b e r => ((m.cell n c b e r).more h).mono (grow_new h) (by
    rw [upd_ne]
    rintro rfl
    exact m.fresh h (List.mem_of_getElem? r)), fun b hb => ?_⟩
  rcases List.mem_cons.mp hb with rfl | hb
  · exact ⟨m.fresh h, _, upd_same⟩
  · exact (m.new h).rs b hb
theorem MR.less {a : Addr} (m : MR K A ca ρ (a :: R) M H) : MR K A ca ρ R M H :=
  ⟨m.len, m.nd, fun n c b e r => (m.cell n c b e r).ex Ex.less, fun b hb => m.rs b (List.mem_cons_of_mem _ hb)⟩
/-- the store's address stays when something else changes -/
theorem grow_al {a : Addr} (g : Grow ρ H ρ1 H1) (h : H a = none) : Grow ρ H (ρ1 ++ [a]) H1 := by
  obtain ⟨t, rfl, ht⟩ := g.pre
  refine ⟨⟨t ++ [a], by simp, fun c hc => ?_⟩, g.keep, g.dom⟩
  rcases List.mem_append.mp hc with hc | hc
  · exact ht c hc
  · rw [List.mem_singleton.mp hc]; exact h
/-- a new list becomes an object of the store -/
theorem MR.al {a : Addr} {c : MO} (m : MR K A ca ρ (a :: R) M H) (hR : a ∉ R) (hc : CellR K A ca ρ (a :: R) H a c) : MR K A ca (ρ ++ [a]) R (M ++ [c]) H := by
  refine ⟨by rw [List.length_append, List.length_append, m.len]; rfl, ?_, fun n c' b e r => ?_, fun b hb => ⟨fun z => ?_, (m.rs b (List.mem_cons_of_mem _ hb)).2⟩⟩
  · rw [List.nodup_append]
    refine ⟨m.nd, by simp, fun x hx y hy z => ?_⟩
    rw [List.mem_singleton.mp hy] at z
    exact (m.rs a List.mem_cons_self).1 (z ▸ hx)
  · by_cases hlt : n < M.length
    · rw [List.getElem?_append_left hlt] at e
      rw [List.getElem?_append_left (by rw [m.len]; exact hlt)] at r
      exact (m.cell n c' b e r).ex Ex.al
    · rw [List.getElem?_append_right (by omega)] at e
      rw [List.getElem?_append_right (by rw [m.len]; omega)] at r
      have hz : n - M.length = 0 := by
        have := (List.getElem?_eq_some_iff.mp e).1
        simp at this
        omega
      rw [hz] at e
      rw [m.len, hz] at r
      simp at e r
      subst e r
      exact hc.ex Ex.al
  · rcases List.mem_append.mp z with z | z
    · exact (m.rs b (List.mem_cons_of_mem _ hb)).1 z
    · rw [List.mem_singleton.mp z] at hb
      exact hR hb
/-- an object of the store is written -/
theorem grow_set {n : Nat} {a : Addr} {o : HO} (hr : ρ[n]? = some a) : Grow ρ H ρ (upd H a o) := by
  refine ⟨⟨[], by simp, fun _ h => by cases h⟩, fun b u e hb => ?_, fun b u e => ?_⟩
  · rw [upd_ne]
    · exact e
    · rintro rfl
      exact hb (List.mem_of_getElem? hr)
  · by_cases z : b = a
    · subst z; exact ⟨o, upd_same⟩
    · exact ⟨u, by rw [upd_ne z]; exact e⟩
theorem MR.set (m : MR K A ca ρ R M H) {n : Nat} {a : Addr} {o : HO} {c : MO} (hr : ρ[n]? = some a) (hc : CellR K A ca ρ R (upd H a o) a c) : MR K A ca ρ R (M.set n c) (upd H a o) := by
  refine ⟨by rw [List.length_set]; exact m.len, m.nd, fun k c' b e r => ?_, fun b hb => ⟨(m.rs b hb).1, ?_⟩⟩
  · by_cases hk : k = n
    · subst hk
      rw [hr] at r
      cases r
      have hlt : k < M.length := by rw [← m.len]; exact (List.getElem?_eq_some_iff.mp hr).1
      rw [List.getElem?_set_self hlt] at e
      cases e
      exact hc
    · rw [List.getElem?_set_ne (Ne.symm hk)] at e
      refine (m.cell k c' b e r).mono (grow_set hr) (upd_ne ?_)
      rintro rfl
      exact hk (by
        obtain ⟨h1, e1⟩ := List.getElem?_eq_some_iff.mp hr
        obtain ⟨h2, e2⟩ := List.getElem?_eq_some_iff.mp r
        exact (List.getElem_inj m.nd).mp (e2.trans e1.symm))
  · obtain ⟨o', e⟩ := (m.rs b hb).2
    by_cases z : b = a
    · subst z; exact ⟨o, upd_same⟩
    · exact ⟨o', by rw [upd_ne z]; exact e⟩
end
/-- what an expression leaves: the data d as v, the store M' at ρ', H'; a new list is new, and no data name it -/
structure EvQ (K : PySem.W.Frag) (A : String → List String) (ca : CA) (ρ R : List Addr) (H : Hp) (ρ' : List Addr) (M' : Me) (H' : Hp) (d : D) (v : V) : Prop where
  gr : Grow ρ H ρ' H'
  mr : MR K A ca ρ' R M' H'
  dv : DV K ρ' R H' d v
  tl : ∀ xs, d = .tl xs → ∀ a, v = .ref a → H a = none ∧ MR K A ca ρ' (a :: R) M' H' ∧ ∃ vs, H' a = some (.lst vs) ∧ DVs K ρ' (a :: R) H' xs vs
/-- the slots -/
structure SR (K : PySem.W.Frag) (ρ R : List Addr) (H : Hp) (σ : Sg) (τ : L2.St) : Prop where
  len : σ.length = τ.length
  at_ : ∀ i d, get σ i = some d → ∃ v, τ[i]? = some (some v) ∧ DV K ρ R H d v ∧ nt d = true
end Mp
end

section
/-! MiniPy: operators by values. -/
set_option linter.all false
set_option maxRecDepth 100000
namespace Mp
open PySem PySem.Spec PyProof.Rows L2
theorem line_eq : line = sizeLine := by rw [sizeLine_eq]; rfl
/-! ### texts -/
theorem so_eq (s : String) : so s = ⟨(s.toList.map Char.toNat).toArray⟩ := Str.ofString_eq_toList s
theorem so_list (s : String) : (so s).cps.toList = s.toList.map Char.toNat := by rw [so_eq]
theorem so_len (s : String) : (so s).length = s.length := by
  rw [so_eq]
  show (s.toList.map Char.toNat).toArray.size = _
  simp [String.length_toList]
theorem map_toNat_inj : ∀ {a b : List Char}, a.map Char.toNat = b.map Char.toNat → a = b
  | [], [], _ => rfl
  | [], _ :: _, h => by simp at h
  | _ :: _, [], h => by simp at h
  | x :: xs, y :: ys, h => by
    simp only [List.map_cons, List.cons.injEq] at h
    rw [map_toNat_inj h.2]
    have : x = y := Char.ext (UInt32.toNat_inj.mp h.1)
    rw [this]
theorem so_inj {a b : String} (h : so a = so b) : a = b := by
  have e : (so a).cps.toList = (so b).cps.toList := by rw [h]
  rw [so_list, so_list] at e
  exact String.toList_inj.mp (map_toNat_inj e)
theorem so_iff {a b : String} : so a = so b ↔ a = b := ⟨so_inj, fun h => by rw [h]⟩
theorem so_append (a b : String) : so (a ++ b) = so a ++ so b := by
  rw [so_eq, so_eq, so_eq]
  show (⟨_⟩ : Str) = ⟨_ ++ _⟩
  simp
theorem so_ofList (l : List Char) : so (String.ofList l) = ⟨(l.map Char.toNat).toArray⟩ := by
  rw [so_eq, String.toList_ofList]
theorem so_strOk (s : String) : PyData.strOk (so s) = true := by
  rw [so_eq]
  unfold PyData.strOk
  simp only [List.all_toArray, List.all_map, List.all_eq_true, Function.comp, decide_eq_true_eq]
  intro c _
  have := c.valid
  have h : c.toNat.isValidChar := c.valid
  simp only [Nat.isValidChar] at h
  omega
section
variable {K : PySem.W.Frag} {A : String → List String} {ca : CA} {ρ ρ1 ρ2 R R1 : List Addr} {H H1 H2 : Hp} {M : Me}
/-! ### sequences -/
theorem lstAt_some {n : Nat} {xs : List D} (e : lstAt M n = some xs) : M[n]? = some (.lst xs) := by
  unfold lstAt mget at e
  split at e
  · rename_i q
    cases e
    exact q
  · cases e
theorem dicAt_some {n : Nat} {xs : List (D × D)} (e : dicAt M n = some xs) : M[n]? = some (.dic xs) := by
  unfold dicAt mget at e
  split at e
  · rename_i q
    cases e
    exact q
  · cases e
theorem insAt_some {n : Nat} {p : String × List (String × D)} (e : insAt M n = some p) : M[n]? = some (.ins p.1 p.2) := by
  unfold insAt mget at e
  split at e
  · rename_i q
    cases e
    exact q
  · cases e
theorem DV.lstH (m : MR K A ca ρ R M H) {d : D} {v : V} {xs : List D} (h : DV K ρ R H d v) (e : lstOf M d = some xs) (hs : notScr d = true) : ∃ a vs, v = .ref a ∧ H a = some (.lst vs) ∧ DVs K ρ R H xs vs := by
  cases h with
  | fz h1 h2 h3 h4 => cases e; exact ⟨_, _, rfl, h1, h4⟩
  | tl h1 h2 h3 h4 => cases e; exact ⟨_, _, rfl, h1, h4⟩
  | @ref n a hr =>
    obtain ⟨vs, e1, e2⟩ := m.cell n _ a (lstAt_some e) hr
    exact ⟨a, vs, rfl, e1, e2⟩
  | scr _ _ _ => cases hs
  | scrK _ => cases hs
  | _ => cases e
theorem DV.lstS (m : MR K A ca ρ R M H) {d : D} {v : V} {xs : List D} (h : DV K ρ R H d v) (e : lstOf M d = some xs) : ∃ a vs, v = .ref a ∧ SqL K H a vs ∧ DVs K ρ R H xs vs := by
  cases hs : notScr d with
  | true =>
    obtain ⟨a, vs, e1, e2, e3⟩ := h.lstH m e hs
    exact ⟨a, vs, e1, .of e2, e3⟩
  | false =>
    cases h with
    | scr h1 h2 h3 => cases e; exact ⟨_, _, rfl, .inl h1, DVs.intS _⟩
    | scrK h1 => cases e; exact ⟨_, _, rfl, .inr h1, DVs.intS _⟩
    | _ => cases hs
theorem DV.seqS (m : MR K A ca ρ R M H) {d : D} {v : V} {xs : List D} (h : DV K ρ R H d v) (e : seqOf M d = some xs) : ∃ a vs, v = .ref a ∧ (SqL K H a vs ∨ SqT K H a vs) ∧ DVs K ρ R H xs vs := by
  cases d with
  | tup l =>
    cases e
    obtain ⟨a, vs, e1, e2, e3⟩ := h.seqT
    exact ⟨a, vs, e1, .inr e2, e3⟩
  | _ =>
    obtain ⟨a, vs, e1, e2, e3⟩ := h.lstS m (show lstOf M _ = some xs from e)
    exact ⟨a, vs, e1, .inl e2, e3⟩
/-! ### data for == -/
mutual
def toPy : D → PyData
  | .bl b => .bool b
  | .int i => .int i
  | .str s => .str (so s)
  | .tup l => .tuple (toPys l)
  | .fz l => .list (toPys l)
  | _ => .none
def toPys : List D → List PyData
  | [] => []
  | d :: r => toPy d :: toPys r
end
mutual
theorem dp_of : ∀ {n : Nat} {d : D} {v : V}, DV K ρ R H d v → pln n d = true → Dp K H v (toPy d)
  | _, _, _, .non, _ => .non
  | _, _, _, .bl b, _ => .bl b
  | _, _, _, .int b, _ => .int b
  | _, _, _, .str b, _ => .str _
  | 0, _, _, .tup h hn hr hs, p => by simp [pln] at p
  | n + 1, _, _, .tup h hn hr hs, p => .tup (.inl h.rd) (dps_of (n := n) hs (by simpa [pln] using p))
  | 0, _, _, .tupK h hs, p => by simp [pln] at p
  | n + 1, _, _, .tupK h hs, p => .tup h.sq (dps_of (n := n) hs (by simpa [pln] using p))
  | 0, _, _, .fz h hn hr hs, p => by simp [pln] at p
  | n + 1, _, _, .fz h hn hr hs, p => .lst (.of h) (dps_of (n := n) hs (by simpa [pln] using p))
  | _, _, _, .tl h hn hr hs, p => by simp [pln] at p
  | _, _, _, .ref h, p => by simp [pln] at p
  | _, _, _, .scr h hn hr, p => by simp [pln] at p
  | _, _, _, .scrK h, p => by simp [pln] at p
theorem dps_of : ∀ {n : Nat} {ds : List D} {vs : List V}, DVs K ρ R H ds vs → plns n ds = true → DpAll K H vs (toPys ds)
  | _, _, _, .nil, _ => .nil
  | n, _, _, .cons h _ t, p => by
    simp only [plns, Bool.and_eq_true] at p
    exact .cons (dp_of h p.1) (dps_of t p.2)
end
theorem vw_some {d : D} {xs : List D} (e : lstOf M d = some xs) : vw M d = .fz xs := by unfold vw; rw [e]
theorem vw_none {d : D} (e : lstOf M d = none) : vw M d = d := by unfold vw; rw [e]
theorem dp_vw (m : MR K A ca ρ R M H) {n : Nat} {d : D} {v : V} (h : DV K ρ R H d v) (p : pln n (vw M d) = true) : Dp K H v (toPy (vw M d)) := by
  cases e : lstOf M d with
  | none =>
    rw [vw_none e] at p ⊢
    exact dp_of h p
  | some xs =>
    rw [vw_some e] at p ⊢
    obtain ⟨a, vs, rfl, h1, h2⟩ := h.lstS m e
    cases n with
    | zero => simp [pln] at p
    | succ n => exact .lst h1 (dps_of (n := n) h2 (by simpa [pln] using p))
mutual
theorem py_lay : ∀ (n : Nat) (d : D), pln n d = true → (toPy d).canLay0 = true ∧ (toPy d).depth ≤ n + 1
  | _, .non, _ => ⟨rfl, Nat.le_add_left _ _⟩
  | _, .bl b, _ => ⟨rfl, Nat.le_add_left _ _⟩
  | _, .int b, _ => ⟨rfl, Nat.le_add_left _ _⟩
  | _, .str b, _ => ⟨so_strOk b, Nat.le_add_left _ _⟩
  | 0, .tup l, p => by simp [pln] at p
  | n + 1, .tup l, p => by
    have := py_lays n l (by simpa [pln] using p)
    simp only [toPy, PyData.canLay0, PyData.depth]
    exact ⟨this.1, by omega⟩
  | 0, .fz l, p => by simp [pln] at p
  | n + 1, .fz l, p => by
    have := py_lays n l (by simpa [pln] using p)
    simp only [toPy, PyData.canLay0, PyData.depth]
    exact ⟨this.1, by omega⟩
  | _, .tl _, p => by simp [pln] at p
  | _, .ref _, p => by simp [pln] at p
  | _, .scr _, p => by simp [pln] at p
theorem py_lays : ∀ (n : Nat) (d : List D), plns n d = true → PyData.canLayAll0 (toPys d) = true ∧ PyData.depthAll (toPys d) ≤ n + 1
  | _, [], _ => ⟨rfl, by simp [toPys, PyData.depthAll]⟩
  | n, d :: r, p => by
    simp only [plns, Bool.and_eq_true] at p
    have h1 := py_lay n d p.1
    have h2 := py_lays n r p.2
    simp only [toPys, PyData.canLayAll0, PyData.depthAll, h1.1, h2.1]
    exact ⟨rfl, by omega⟩
end
theorem py_shaped {d : D} (p : pln 60 d = true) : SeqAt.shaped (toPy d) = true := by
  have := py_lay 60 d p
  unfold SeqAt.shaped
  simp [this.1]
  omega
mutual
theorem py_eqv : ∀ (n m : Nat) (a b : D), pln n a = true → pln m b = true → PyData.eqv (toPy a) (toPy b) = D.eqv a b
  | n, m, a, b, p, q => by
    cases a <;> cases b <;> first
      | (exfalso; simp [pln] at p; done)
      | (exfalso; simp [pln] at q; done)
      | (simp only [toPy, PyData.eqv, D.eqv]; done)
      | (simp only [toPy, PyData.eqv, D.eqv]
         first
           | (rw [Bool.eq_iff_iff]; simp [so_iff]; done)
           | (cases n with
              | zero => simp [pln] at p
              | succ n => cases m with
                | zero => simp [pln] at q
                | succ m => exact py_eqvs n m _ _ (by simpa [pln] using p) (by simpa [pln] using q)))
theorem py_eqvs : ∀ (n m : Nat) (a b : List D), plns n a = true → plns m b = true → PyData.eqvAll (toPys a) (toPys b) = D.eqvs a b
  | n, m, [], [], _, _ => rfl
  | n, m, [], _ :: _, _, _ => rfl
  | n, m, _ :: _, [], _, _ => rfl
  | n, m, a :: as, b :: bs, p, q => by
    simp only [plns, Bool.and_eq_true] at p q
    simp only [toPys, PyData.eqvAll, D.eqvs]
    rw [py_eqv n m a b p.1 q.1, py_eqvs n m as bs p.2 q.2]
end
end
end Mp
end

section
/-! MiniPy: operators by values, the rules. -/
set_option linter.all false
set_option maxRecDepth 100000
namespace Mp
open PySem PySem.Spec PyProof.Rows L2
abbrev KQ (K : PySem.W.Frag) (A : String → List String) (ca : CA) (ρ R : List Addr) (H : Hp) (Q : VK) : QD := fun d M' => ∀ ρ' v H', EvQ K A ca ρ R H ρ' M' H' d v → Q v H'
/-- where one stands: ahead ρ0, H0; now ρ, M, H -/
structure At (K : PySem.W.Frag) (A : String → List String) (ca : CA) (ρ0 R : List Addr) (H0 : Hp) (ρ : List Addr) (M : Me) (H : Hp) : Prop where
  gr : Grow ρ0 H0 ρ H
  mr : MR K A ca ρ R M H
section
variable {K : PySem.W.Frag} {A : String → List String} {ca : CA} {ρ0 ρ ρ1 ρ2 R R1 : List Addr} {H0 H H1 H2 : Hp} {M : Me} {Q : VK}
theorem At.same (a : At K A ca ρ0 R H0 ρ M H) {d : D} {v : V} (h : DV K ρ R H d v) (n : nt d = true) (q : KQ K A ca ρ0 R H0 Q d M) : Q v H :=
  q ρ v H ⟨a.gr, a.mr, h, fun xs e => by subst e; cases n⟩
theorem At.tup (a : At K A ca ρ0 R H0 ρ M H) {ds : List D} {vs : List V} (hs : DVs K ρ R H ds vs) (q : KQ K A ca ρ0 R H0 Q (.tup ds) M) : NewT H Q vs := fun p o hp ho =>
  q ρ (.ref p) _ ⟨a.gr.trans (grow_new hp), a.mr.new hp, .tup ⟨o, upd_same, ho⟩ (a.mr.fresh hp) (a.mr.freshR hp) (hs.mono (grow_new hp)), fun xs e => nomatch e⟩
theorem At.list (a : At K A ca ρ0 R H0 ρ M H) {p : Addr} {ds : List D} {vs : List V} (hp : H p = none) (hs : DVs K ρ R H ds vs) (q : KQ K A ca ρ0 R H0 Q (.tl ds) M) : Q (.ref p) (upd H p (.lst vs)) :=
  q ρ (.ref p) _ ⟨a.gr.trans (grow_new hp), a.mr.new hp, .tl upd_same (a.mr.fresh hp) (a.mr.freshR hp) (hs.mono (grow_new hp)), fun xs e b eb => by
    cases e
    cases eb
    exact ⟨a.gr.none_of hp, a.mr.newR hp, vs, upd_same, (hs.more hp).mono (grow_new hp)⟩⟩
theorem At.dic (a : At K A ca ρ0 R H0 ρ M H) {p : Addr} {l : List (D × D)} {kvs : List (Key × V)} (hp : H p = none) (hs : Paired (fun (p : D × D) (q : Key × V) => DK p.1 q.1 ∧ DV K ρ R H p.2 q.2 ∧ nt p.2 = true) l kvs)
    (q : KQ K A ca ρ0 R H0 Q (.ref M.length) (M ++ [.dic l])) : Q (.ref p) (upd H p (.dK kvs)) := by
  have g : Grow ρ0 H0 (ρ ++ [p]) (upd H p (.dK kvs)) := grow_al (a.gr.trans (grow_new hp)) (a.gr.none_of hp)
  refine q (ρ ++ [p]) (.ref p) _ ⟨g, (a.mr.newR hp).al (a.mr.freshR hp) ⟨kvs, upd_same, Paired.mapP hs fun x y z => ⟨z.1, (z.2.1.more hp).mono (grow_new hp), z.2.2⟩⟩, .ref ?_, fun xs e => nomatch e⟩
  rw [← a.mr.len, List.getElem?_append_right (Nat.le_refl _)]
  simp
theorem At.step (a : At K A ca ρ0 R H0 ρ M H) {M1 : Me} (g : Grow ρ H ρ1 H1) (m : MR K A ca ρ1 R M1 H1) : At K A ca ρ0 R H0 ρ1 M1 H1 := ⟨a.gr.trans g, m⟩

theorem DVs.ne_nil {ds : List D} {vs : List V} (h : DVs K ρ R H ds vs) : ds = [] ↔ vs = [] := by
  cases h <;> simp
theorem inv_int {d : D} {i : Int} (e : intOf d = some i) : d = .int i := by
  cases d with
  | int j => cases e; rfl
  | _ => cases e
theorem ii_some {α : Type} {x y : D} {f : Int → Int → Option α} {P : α → Prop} (h : opt (ii x y f) P) : ∃ i j, x = .int i ∧ y = .int j ∧ opt (f i j) P := by
  unfold ii at h
  split at h
  · exact ⟨_, _, rfl, rfl, h⟩
  · exact h.elim
theorem opt_bind {α β : Type} {o : Option α} {f : α → Option β} {P : β → Prop} (h : opt (o.bind f) P) : ∃ a, o = some a ∧ opt (f a) P := by
  cases o with
  | none => exact h.elim
  | some a => exact ⟨a, rfl, h⟩
theorem opt_map {α β : Type} {o : Option α} {f : α → β} {P : β → Prop} (h : opt (o.map f) P) : ∃ a, o = some a ∧ P (f a) := by
  cases o with
  | none => exact h.elim
  | some a => exact ⟨a, rfl, h⟩
theorem opt_ite {α : Type} {c : Prop} [Decidable c] {a : α} {P : α → Prop} (h : opt (if c then some a else none) P) : c ∧ P a := by
  split at h
  · rename_i hc; exact ⟨hc, h⟩
  · exact h.elim
theorem opt_ex {α : Type} {o : Option α} {P : α → Prop} (h : opt o P) : ∃ a, o = some a ∧ P a := by
  cases o with
  | none => exact h.elim
  | some a => exact ⟨a, rfl, h⟩
theorem DV.int_inv {i : Int} {v : V} (h : DV K ρ R H (.int i) v) : v = .int i := by cases h; rfl
theorem DV.str_inv {i : String} {v : V} (h : DV K ρ R H (.str i) v) : v = .str (so i) := by cases h; rfl

/-! ### operators -/
variable {X : Cx} {C : Cn}
theorem cat_ok {d1 d2 : D} {v1 v2 : V} (a : At X.K C.A ca ρ0 R H0 ρ M H) (h1 : DV X.K ρ R H d1 v1) (h2 : DV X.K ρ R H d2 v2)
    (q : opt (catOf M d1 d2) fun d => KQ X.K C.A ca ρ0 R H0 Q d M) : ∃ r, OpR X (binaryOp .Add) r ∧ r v1 v2 H Q := by
  unfold catOf at q
  obtain ⟨x, e1, q⟩ := opt_bind q
  obtain ⟨y, e2, q⟩ := opt_bind q
  obtain ⟨⟨n1, n2, hl⟩, q⟩ := opt_ite q
  obtain ⟨p1, vs1, rfl, g1, s1⟩ := h1.lstH a.mr e1 n1
  obtain ⟨p2, vs2, rfl, g2, s2⟩ := h2.lstH a.mr e2 n2
  exact ⟨_, op_cat, _, _, _, _, rfl, rfl, g1, g2, by rw [← s1.length, ← s2.length, ← line_eq]; exact hl, fun p hp => a.list hp (s1.append s2) q⟩
theorem add_ok {d1 d2 : D} {v1 v2 : V} (a : At X.K C.A ca ρ0 R H0 ρ M H) (h1 : DV X.K ρ R H d1 v1) (h2 : DV X.K ρ R H d2 v2)
    (q : opt (addOf M d1 d2) fun d => KQ X.K C.A ca ρ0 R H0 Q d M) : ∃ r, OpR X (binaryOp .Add) r ∧ r v1 v2 H Q := by
  unfold addOf at q
  split at q
  · cases h1; cases h2
    exact ⟨_, op_add, _, _, rfl, rfl, a.same (.int _) rfl q⟩
  · rename_i s t
    obtain rfl := h1.str_inv
    obtain rfl := h2.str_inv
    obtain ⟨hl, q⟩ := opt_ite q
    refine ⟨_, op_add_str, _, _, rfl, rfl, by rw [so_len, so_len, ← line_eq]; exact hl, ?_⟩
    rw [← so_append]
    exact a.same (.str _) rfl q
  · obtain ⟨hl, q⟩ := opt_ite q
    obtain ⟨p1, vs1, rfl, g1, s1⟩ := h1.seqT
    obtain ⟨p2, vs2, rfl, g2, s2⟩ := h2.seqT
    refine ⟨_, op_catF, _, _, _, _, rfl, rfl, g1, g2, by rw [← s1.length, ← s2.length, ← line_eq]; exact hl, fun e => ?_, fun _ e => ?_, fun _ _ => a.tup (s1.append s2) q⟩
    · have e' := s1.ne_nil.mpr e
      subst e'
      exact a.same h2 rfl (by simpa using q)
    · have e' := s2.ne_nil.mpr e
      subst e'
      exact a.same h1 rfl (by simpa using q)
  · exact cat_ok a h1 h2 q
theorem mul_ok {d1 d2 : D} {v1 v2 : V} (a : At X.K C.A ca ρ0 R H0 ρ M H) (h1 : DV X.K ρ R H d1 v1) (h2 : DV X.K ρ R H d2 v2)
    (q : opt (mulOf M d1 d2) fun d => KQ X.K C.A ca ρ0 R H0 Q d M) : ∃ r, OpR X (binaryOp .Mult) r ∧ r v1 v2 H Q := by
  unfold mulOf at q
  split at q
  · cases h1; cases h2
    unfold mulI at q
    obtain ⟨hc, q⟩ := opt_ite q
    exact ⟨_, op_mul, _, _, rfl, rfl, hc, a.same (.int _) rfl q⟩
  · obtain ⟨x, e1, q⟩ := opt_bind q
    obtain ⟨⟨n1, c1, c2, c3⟩, q⟩ := opt_ite q
    obtain rfl := h2.int_inv
    obtain ⟨p1, vs1, rfl, g1, s1⟩ := h1.lstH a.mr e1 n1
    exact ⟨_, op_rep, _, _, _, rfl, rfl, g1, c1, c2, by rw [← s1.length, ← line_eq]; exact c3, fun p hp => a.list hp (s1.rep _) q⟩
  · exact q.elim
theorem bin_ok {o : BOp} {op : Operator} {d1 d2 : D} {v1 v2 : V} (ho : chkBO o op = true) (a : At X.K C.A ca ρ0 R H0 ρ M H) (h1 : DV X.K ρ R H d1 v1) (h2 : DV X.K ρ R H d2 v2)
    (q : opt (bin M o d1 d2) fun d => KQ X.K C.A ca ρ0 R H0 Q d M) : ∃ r, OpR X (binaryOp op) r ∧ r v1 v2 H Q := by
  cases o <;> cases op <;> first
    | (exfalso; exact Bool.noConfusion ho)
    | skip
  · exact add_ok a h1 h2 q
  · obtain ⟨i, j, rfl, rfl, q⟩ := ii_some q
    obtain rfl := h1.int_inv
    obtain rfl := h2.int_inv
    exact ⟨_, op_sub, _, _, rfl, rfl, a.same (.int _) rfl q⟩
  · exact mul_ok a h1 h2 q
  · obtain ⟨i, j, rfl, rfl, q⟩ := ii_some q
    obtain rfl := h1.int_inv
    obtain rfl := h2.int_inv
    obtain ⟨⟨c1, c2⟩, q⟩ := opt_ite q
    refine ⟨_, op_fdivW, _, _, rfl, rfl, wide_div (b := 64) c1 ?_ (by decide) (by decide), a.same (.int _) rfl q⟩
    omega
  · obtain ⟨i, j, rfl, rfl, q⟩ := ii_some q
    obtain rfl := h1.int_inv
    obtain rfl := h2.int_inv
    obtain ⟨c1, q⟩ := opt_ite q
    exact ⟨_, op_mod, _, _, rfl, rfl, c1, a.same (.int _) rfl q⟩
  · obtain ⟨i, j, rfl, rfl, q⟩ := ii_some q
    obtain rfl := h1.int_inv
    obtain rfl := h2.int_inv
    obtain ⟨c1, q⟩ := opt_ite q
    exact ⟨_, op_pow, _, _, rfl, rfl, c1, a.same (.int _) rfl q⟩
/-! ### comparisons -/
theorem flat_V {d : D} {v : V} (h : DV K ρ R H d v) (f : flat d = true) : flatV v = true := by
  cases h <;> first | rfl | (cases f)
theorem flats_V : ∀ {ds : List D} {vs : List V}, DVs K ρ R H ds vs → ds.all flat = true → vs.all flatV = true
  | _, _, .nil, _ => rfl
  | _, _, .cons h _ t, f => by
    rw [List.all_cons, Bool.and_eq_true] at f ⊢
    exact ⟨flat_V h f.1, flats_V t f.2⟩
theorem eqv_V {d e : D} {v w : V} (h1 : DV K ρ R H d v) (h2 : DV K ρ R H e w) (f1 : flat d = true) (f2 : flat e = true) : eqV v w = D.eqv d e := by
  cases h1 <;> first
    | (cases f1; done)
    | (cases h2 <;> first
        | (cases f2; done)
        | rfl
        | (simp only [eqV, D.eqv]
           first
             | rfl
             | (rw [Bool.eq_iff_iff]; simp [so_iff])))
theorem any_V {x : D} {xv : V} (hx : DV K ρ R H x xv) (fx : flat x = true) : ∀ {ds : List D} {vs : List V}, DVs K ρ R H ds vs → ds.all flat = true → inV xv vs = ds.any fun y => D.eqv y x
  | _, _, .nil, _ => rfl
  | d :: ds, v :: vs, .cons h _ t, f => by
    rw [List.all_cons, Bool.and_eq_true] at f
    unfold inV
    rw [List.any_cons, List.any_cons, eqv_V h hx f.1 fx]
    congr 1
    exact any_V hx fx t f.2
/-! #### keys -/
theorem dk_of {d : D} (h : isKey d = true) : ∃ k, DK d k := by
  cases d <;> first
    | (cases h; done)
    | exact ⟨_, rfl⟩
theorem dk_kV {d : D} {k : Key} {v : V} (h : DK d k) (hv : DV K ρ R H d v) : v = kV k := by
  cases hv <;> first
    | exact h.elim
    | (cases h; rfl)
theorem dk_eq {d e : D} {k j : Key} (h1 : DK d k) (h2 : DK e j) : decide (k = j) = keq d e := by
  cases d <;> first
    | exact h1.elim
    | (cases e <;> first
        | exact h2.elim
        | (cases h1; cases h2
           simp only [keq]
           first
             | (rw [Bool.eq_iff_iff]; simp [so_iff]; done)
             | (simp; done)))
abbrev KVR (K : PySem.W.Frag) (ρ R : List Addr) (H : Hp) : List (D × D) → List (Key × V) → Prop := Paired fun (p : D × D) (q : Key × V) => DK p.1 q.1 ∧ DV K ρ R H p.2 q.2 ∧ nt p.2 = true
theorem kv_look {x : D} {k : Key} (hk : DK x k) : ∀ {l : List (D × D)} {kvs : List (Key × V)}, KVR K ρ R H l kvs → (look l x = none ∧ valV kvs k = none) ∨ ∃ d v, look l x = some d ∧ valV kvs k = some v ∧ DV K ρ R H d v ∧ nt d = true
  | _, _, .nil => .inl ⟨rfl, rfl⟩
  | p :: l, q :: kvs, .cons h t => by
    have e := dk_eq h.1 hk
    cases hb : keq p.1 x with
    | true =>
      rw [hb] at e
      refine .inr ⟨p.2, q.2, ?_, valV_pos (of_decide_eq_true e), h.2⟩
      unfold look
      rw [List.find?_cons, hb]
      rfl
    | false =>
      rw [hb] at e
      have e1 : look (p :: l) x = look l x := by
        unfold look
        rw [List.find?_cons, hb]
      rw [e1, valV_neg (of_decide_eq_false e)]
      exact kv_look hk t
theorem kv_any {x : D} {k : Key} (hk : DK x k) : ∀ {l : List (D × D)} {kvs : List (Key × V)}, KVR K ρ R H l kvs → (l.any fun p => keq p.1 x) = kvs.any fun kv => decide (kv.1 = k)
  | _, _, .nil => rfl
  | p :: l, q :: kvs, .cons h t => by
    rw [List.any_cons, List.any_cons, dk_eq h.1 hk, kv_any hk t]
theorem kv_map {x d : D} {k : Key} {v : V} (hk : DK x k) (hd : DV K ρ R H d v) (hn : nt d = true) : ∀ {l : List (D × D)} {kvs : List (Key × V)}, KVR K ρ R H l kvs →
    KVR K ρ R H (l.map fun p => if keq p.1 x then (p.1, d) else p) (kvs.map fun kv => if kv.1 = k then (kv.1, v) else kv)
  | _, _, .nil => .nil
  | p :: l, q :: kvs, .cons h t => by
    rw [List.map_cons, List.map_cons]
    refine .cons ?_ (kv_map hk hd hn t)
    have e := dk_eq h.1 hk
    cases hb : keq p.1 x with
    | true =>
      rw [hb] at e
      rw [if_pos rfl, if_pos (of_decide_eq_true e)]
      exact ⟨h.1, hd, hn⟩
    | false =>
      rw [hb] at e
      rw [if_neg Bool.false_ne_true, if_neg (of_decide_eq_false e)]
      exact h
theorem Paired.app {α β : Type} {F : α → β → Prop} : ∀ {l l' : List α} {m m' : List β}, Paired F l m → Paired F l' m' → Paired F (l ++ l') (m ++ m')
  | _, _, _, _, .nil, t => t
  | _, _, _, _, .cons h s, t => .cons h (Paired.app s t)
theorem kv_put {x d : D} {k : Key} {v : V} (hk : DK x k) (hd : DV K ρ R H d v) (hn : nt d = true) {l : List (D × D)} {kvs : List (Key × V)} (r : KVR K ρ R H l kvs) : KVR K ρ R H (put l x d) (putK kvs k v) := by
  unfold put putK
  rw [kv_any hk r]
  split
  · exact kv_map hk hd hn r
  · exact Paired.app r (.cons ⟨hk, hd, hn⟩ .nil)
theorem kv_puts : ∀ {more : List (D × D)} {ms : List (Key × V)} {l : List (D × D)} {kvs : List (Key × V)}, KVR K ρ R H more ms → KVR K ρ R H l kvs → KVR K ρ R H (puts l more) (mergeK kvs ms)
  | _, _, _, _, .nil, r => r
  | p :: more, q :: ms, l, kvs, .cons h t, r => by
    show KVR K ρ R H (puts (put l p.1 p.2) more) (mergeK (putK kvs q.1 q.2) ms)
    exact kv_puts t (kv_put h.1 h.2.1 h.2.2 r)
theorem dic_at (m : MR K A ca ρ R M H) {n : Nat} {l : List (D × D)} {v : V} (e : dicAt M n = some l) (h : DV K ρ R H (.ref n) v) : ∃ a kvs, v = .ref a ∧ ρ[n]? = some a ∧ H a = some (.dK kvs) ∧ KVR K ρ R H l kvs := by
  cases h with
  | ref hr =>
    obtain ⟨kvs, e1, e2⟩ := m.cell n _ _ (dicAt_some e) hr
    exact ⟨_, kvs, rfl, hr, e1, e2⟩
theorem lst_at (m : MR K A ca ρ R M H) {n : Nat} {l : List D} {v : V} (e : lstAt M n = some l) (h : DV K ρ R H (.ref n) v) : ∃ a vs, v = .ref a ∧ ρ[n]? = some a ∧ H a = some (.lst vs) ∧ DVs K ρ R H l vs := by
  cases h with
  | ref hr =>
    obtain ⟨vs, e1, e2⟩ := m.cell n _ _ (lstAt_some e) hr
    exact ⟨_, vs, rfl, hr, e1, e2⟩
theorem DK.dget {x : D} {k : Key} {a : Addr} {kvs : List (Key × V)} {xv : V} (hk : DK x k) (hx : DV K ρ R H x xv) (e : H a = some (.dK kvs)) : DGet H a xv (valV kvs k) := by
  rw [dk_kV hk hx]
  exact .k e
/-- in a dict -/
def rDIn (neg : Bool) : R2 := fun x y H Q => ∃ a o, y = .ref a ∧ DGet H a x o ∧ Q (.bl (if neg then !o.isSome else o.isSome)) H
theorem op_din (hu : X.A.units + 1 < cLine) : OpR X (compareOp .In) (rDIn false) := by
  intro pins s σ H x y v u Q I rx ry h
  obtain ⟨a, o, rfl, g, q⟩ := h
  cases ry
  exact d_in hu I g rx fun s3 I3 => ⟨.bl o.isSome, H, I3, rfl, q⟩
theorem op_dnotin (hu : X.A.units + 1 < cLine) : OpR X (compareOp .NotIn) (rDIn true) := by
  intro pins s σ H x y v u Q I rx ry h
  obtain ⟨a, o, rfl, g, q⟩ := h
  cases ry
  exact d_notIn hu I g rx fun s3 I3 => ⟨.bl (!o.isSome), H, I3, rfl, q⟩
theorem eq_ok {d1 d2 : D} {v1 v2 : V} {k : Bool} (hu : X.A.units + 64 < cLine) (m : MR X.K A ca ρ R M H) (h1 : DV X.K ρ R H d1 v1) (h2 : DV X.K ρ R H d2 v2) (e : eqOf M d1 d2 = some k) (q : Q (.bl k) H) :
    rEqD X.K v1 v2 H Q := by
  unfold eqOf at e
  split at e
  · rename_i p
    cases e
    refine ⟨_, _, dp_vw m h1 p.1, dp_vw m h2 p.2, py_shaped p.1, py_shaped p.2, ?_⟩
    rw [py_eqv 60 60 _ _ p.1 p.2]
    exact q
  · cases e
theorem inSeq_ok {x : D} {xs : List D} {xv : V} {k : Bool} (h1 : DV K ρ R H x xv) {vs : List V} (hs : DVs K ρ R H xs vs) (e : inSeq x xs = some k) : flatV xv = true ∧ vs.all flatV = true ∧ inV xv vs = k := by
  unfold inSeq at e
  split at e
  · rename_i p
    rw [Bool.and_eq_true] at p
    cases e
    exact ⟨flat_V h1 p.1, flats_V hs p.2, any_V h1 p.1 hs p.2⟩
  · cases e
theorem mem_map_toNat {c : Char} {l : List Char} : (c.toNat ∈ l.map Char.toNat) ↔ c ∈ l := by
  rw [List.mem_map]
  constructor
  · rintro ⟨d, hd, e⟩
    have : d = c := Char.ext (UInt32.toNat_inj.mp e)
    rw [← this]; exact hd
  · intro h; exact ⟨c, h, rfl⟩
theorem one_sign {t : String} {c : Char} (e : t.toList = [c]) : so t = ⟨#[c.toNat]⟩ := by rw [so_eq, e]; rfl
/-- x in y: which rule it is -/
theorem in_ok {d1 d2 : D} {v1 v2 : V} {k : Bool} (hu : X.A.units + 64 < cLine) (m : MR X.K A ca ρ R M H) (h1 : DV X.K ρ R H d1 v1) (h2 : DV X.K ρ R H d2 v2) (e : cin M d1 d2 = some k) :
    (Q (.bl k) H → ∃ r, OpR X (compareOp .In) r ∧ r v1 v2 H Q) ∧ (Q (.bl (!k)) H → ∃ r, OpR X (compareOp .NotIn) r ∧ r v1 v2 H Q) := by
  unfold cin at e
  split at e
  · rename_i s
    unfold inStr at e
    split at e
    · rename_i t
      split at e
      · rename_i c ec
        cases e
        obtain rfl := h1.str_inv
        obtain rfl := h2.str_inv
        have hk : decide (c.toNat ∈ (so s).cps.toList) = decide (c ∈ s.toList) := by
          rw [so_list]
          exact decide_eq_decide.mpr mem_map_toNat
        refine ⟨fun q => ⟨_, op_in_sign, _, _, by rw [one_sign ec], rfl, ?_⟩, fun q => ⟨_, op_notIn_sign, _, _, by rw [one_sign ec], rfl, ?_⟩⟩
        · rw [hk]; exact q
        · rw [hk]; exact q
      · cases e
    · cases e
  · split at e
    · rename_i xs es
      obtain ⟨a, vs, rfl, hq, hs⟩ := h2.seqS m es
      obtain ⟨f1, f2, f3⟩ := inSeq_ok h1 hs e
      refine ⟨fun q => ⟨_, op_in_seq, _, _, rfl, hq, f1, f2, ?_⟩, fun q => ⟨_, op_notIn_seq, _, _, rfl, hq, f1, f2, ?_⟩⟩
      · show Q (.bl (inV v1 vs)) H
        rw [f3]; exact q
      · show Q (.bl (!inV v1 vs)) H
        rw [f3]; exact q
    · split at e
      · rename_i n _ _
        cases q0 : dicAt M n with
        | none => rw [q0] at e; cases e
        | some l =>
          rw [q0] at e
          have e' : (if isKey d1 = true then some (look l d1).isSome else none) = some k := e
          split at e'
          · rename_i hk
            cases e'
            obtain ⟨kk, hkk⟩ := dk_of hk
            obtain ⟨a, kvs, rfl, hr, eH, rel⟩ := dic_at m q0 h2
            have hz : (valV kvs kk).isSome = (look l d1).isSome := by
              rcases kv_look hkk rel with ⟨z1, z2⟩ | ⟨d, v, z1, z2, _⟩
              · rw [z1, z2]; rfl
              · rw [z1, z2]; rfl
            refine ⟨fun q => ⟨_, op_din (by omega), a, _, rfl, hkk.dget h1 eH, ?_⟩, fun q => ⟨_, op_dnotin (by omega), a, _, rfl, hkk.dget h1 eH, ?_⟩⟩
            · show Q (.bl (valV kvs kk).isSome) H
              rw [hz]; exact q
            · show Q (.bl (!(valV kvs kk).isSome)) H
              rw [hz]; exact q
          · cases e'
      · cases e
theorem isN_V {d : D} {v : V} (h : DV K ρ R H d v) : decide (v = .non) = isN d := by
  cases h <;> rfl
theorem is_ok {d1 d2 : D} {v1 v2 : V} {k : Bool} (h1 : DV X.K ρ R H d1 v1) (h2 : DV X.K ρ R H d2 v2) (e : isOf d1 d2 = some k) :
    (Q (.bl k) H → ∃ r, OpR X (compareOp .Is) r ∧ r v1 v2 H Q) ∧ (Q (.bl (!k)) H → ∃ r, OpR X (compareOp .IsNot) r ∧ r v1 v2 H Q) := by
  unfold isOf at e
  split at e
  · cases e
    cases h2
    exact ⟨fun q => ⟨_, op_isN, rfl, by rw [isN_V h1]; exact q⟩, fun q => ⟨_, op_notN, rfl, by rw [isN_V h1]; exact q⟩⟩
  · split at e
    · rename_i b _ a
      cases e
      cases h1
      cases h2
      exact ⟨fun q => ⟨_, op_is_bl, a, b, rfl, rfl, by
        have : decide (a = b) = (a == b) := by rw [Bool.beq_eq_decide_eq]
        rw [this]; exact q⟩, fun q => ⟨_, op_isnot_bl, a, b, rfl, rfl, by
        have : decide (a = b) = (a == b) := by rw [Bool.beq_eq_decide_eq]
        rw [this]; exact q⟩⟩
    · cases e
  · cases e
theorem ii_ex {α : Type} {x y : D} {f : Int → Int → Option α} {k : α} (h : ii x y f = some k) : ∃ i j, x = .int i ∧ y = .int j ∧ f i j = some k := by
  unfold ii at h
  split at h
  · exact ⟨_, _, rfl, rfl, h⟩
  · cases h
theorem cmp_ok {o : COp} {op : CmpOp} {d1 d2 : D} {v1 v2 : V} {k : Bool} (ho : chkCO o op = true) (hu : X.A.units + 64 < cLine) (m : MR X.K A ca ρ R M H) (h1 : DV X.K ρ R H d1 v1) (h2 : DV X.K ρ R H d2 v2)
    (e : cmp M o d1 d2 = some k) (q : Q (.bl k) H) : ∃ r, OpR X (compareOp op) r ∧ r v1 v2 H Q := by
  have nots : ∀ {o : Option Bool}, o.map not = some k → ∃ j, o = some j ∧ (!j) = k := fun {o} h => by
    cases o with
    | none => cases h
    | some j => exact ⟨j, rfl, Option.some.inj h⟩
  cases o <;> cases op <;> first
    | (exfalso; exact Bool.noConfusion ho)
    | skip
  · exact ⟨_, op_eqD hu, eq_ok hu m h1 h2 e q⟩
  · obtain ⟨j, ej, rfl⟩ := nots e
    obtain ⟨d, e', hd, he, sd, se, q'⟩ := eq_ok (Q := fun v _ => v = .bl j) hu m h1 h2 ej rfl
    refine ⟨_, op_neD hu, d, e', hd, he, sd, se, ?_⟩
    cases q'
    exact q
  · obtain ⟨i, j, rfl, rfl, e⟩ := ii_ex e
    cases e
    obtain rfl := h1.int_inv
    obtain rfl := h2.int_inv
    exact ⟨_, op_lt, _, _, rfl, rfl, q⟩
  · obtain ⟨i, j, rfl, rfl, e⟩ := ii_ex e
    cases e
    obtain rfl := h1.int_inv
    obtain rfl := h2.int_inv
    exact ⟨_, op_le, _, _, rfl, rfl, q⟩
  · obtain ⟨i, j, rfl, rfl, e⟩ := ii_ex e
    cases e
    obtain rfl := h1.int_inv
    obtain rfl := h2.int_inv
    exact ⟨_, op_gt, _, _, rfl, rfl, q⟩
  · obtain ⟨i, j, rfl, rfl, e⟩ := ii_ex e
    cases e
    obtain rfl := h1.int_inv
    obtain rfl := h2.int_inv
    exact ⟨_, op_ge, _, _, rfl, rfl, q⟩
  · exact (in_ok hu m h1 h2 e).1 q
  · obtain ⟨j, ej, rfl⟩ := nots e
    exact (in_ok hu m h1 h2 ej).2 q
  · exact (is_ok h1 h2 e).1 q
  · obtain ⟨j, ej, rfl⟩ := nots e
    exact (is_ok h1 h2 ej).2 q
/-! ### truth -/
theorem tru_V {d : D} {v : V} {k : Bool} (m : MR K A ca ρ R M H) (h : DV K ρ R H d v) (e : tru M d = some k) : TruV K v H k := by
  unfold tru at e
  split at e
  · cases h; cases e; exact rfl
  · cases h; cases e; exact rfl
  · cases h; cases e; exact rfl
  · rename_i s
    split at e
    · rename_i hl
      cases e
      obtain rfl := h.str_inv
      refine ⟨by rw [so_len, ← line_eq]; exact hl, ?_⟩
      rw [so_len]
      by_cases z : s = ""
      · subst z; rfl
      · have : s.length ≠ 0 := fun q => z (by
          have := String.length_eq_zero_iff.mp q
          exact this)
        rw [Bool.eq_iff_iff]
        simp [z, this]
    · cases e
  · split at e
    · rename_i xs es
      cases e
      obtain ⟨a, vs, rfl, hq, hs⟩ := h.seqS m es
      rcases hq with hq | hq
      · exact .inl ⟨vs, hq, by rw [hs.isEmpty]⟩
      · exact .inr (.inl ⟨vs, hq, by rw [hs.isEmpty]⟩)
    · split at e
      · rename_i n _ _ _ _ _
        cases q0 : dicAt M n with
        | none => rw [q0] at e; cases e
        | some l =>
          rw [q0] at e
          cases e
          obtain ⟨a, kvs, rfl, hr, eH, rel⟩ := dic_at m q0 h
          refine .inr (.inr ⟨kvs, eH, ?_⟩)
          cases rel <;> rfl
      · cases e
end
end Mp
end

section
/-! MiniPy: sorted(a tuple), d[k] by values, subscripts, slices, built-in functions. -/
set_option linter.all false
set_option maxRecDepth 100000
namespace Mp
open PySem PySem.Spec PyProof.Rows L2
section
variable {prog : Program} {w : World} {A : Around} {E : Value → Shared → Prop} {s : Shared}
theorem collect_tuple {l : Addr} {vs : List Value} {Q : List Value → Shared → Prop} (hl : IsTup s.heap l vs.toArray)
    (h : Q vs { s with heap := (s.heap.push (seqObj "list" #[] 0)).update s.heap.objs.size (Obj.mapSeq (· ++ vs.toArray)) }) (hsz : vs.length ≤ sizeLine) :
    wpAny (model prog w) A (collect (.ref l)) Q E s := by
  obtain ⟨o, ho, hc, n, hd⟩ := id hl
  unfold collect
  refine wpAny_bind (wpAny_runValue (codeAny_builtin entry_proto_collect' ?_))
  show wpAny _ _ (do again (.builtin "list.__iadd__" ⟨[← newList [], .ref l], []⟩)) _ _ s
  refine wpAny_bind (wpAny_newList (wpAny_pure ⟨Code.quiet_builtin _ (by decide +kernel), codeAny_builtin entry_list_iadd' ?_⟩))
  show wpAny _ _ (Builtin.List.listExtendWith (.ref s.heap.objs.size) (.ref l) (.ref s.heap.objs.size)) _ _ { s with heap := s.heap.push (seqObj "list" #[] 0) }
  unfold Builtin.List.listExtendWith
  have ho' : (s.heap.push (seqObj "list" #[] 0)).get? l = some o := Heap.get?_push_of_some _ ho
  refine wpAny_bind (wpAny_typeOf (T := "tuple") ⟨o, ho', hc⟩ ?_)
  have ht : (Value.type "tuple" == Value.type "tuple") = true := by rfl
  rw [if_pos (by rw [ht]; simp)]
  refine wpAny_bind (listItems_at ho' hd ?_)
  refine wpAny_bind (listItems_at (xs := #[]) (n := 0) (Heap.get?_push_size _ rfl) rfl ?_)
  rw [if_neg (by simp)]
  refine wpAny_bind (listUpdate_at (xs := #[]) (n := 0) (Heap.get?_push_size _ rfl) rfl ?_ (Nat.zero_le _) (by show (#[] ++ vs.toArray).size ≤ sizeLine + 1; simp only [Array.size_append, List.size_toArray, List.length_nil]; omega))
  refine wpAny_pure ?_
  show wpAny (model prog w) A (do
      let o ← load s.heap.objs.size
      match o.data with
      | .seq xs _ => pure xs.toList
      | _ => unsupported "internal:collect") Q E { s with heap := (s.heap.push (seqObj "list" #[] 0)).update s.heap.objs.size (Obj.mapSeq (· ++ vs.toArray)) }
  refine wpAny_bind (wpAny_load (get?_update_seq (Heap.get?_push_size _ rfl) _) ?_)
  show wpAny _ _ (pure ((#[] : Array Value) ++ vs.toArray).toList) Q E _
  rw [show ((#[] : Array Value) ++ vs.toArray).toList = vs by simp]
  exact wpAny_pure h
theorem sortedKTup {κ : KeyKind} (hO : κ.OneLt) {l : Addr} {vs : List Value} {Q : Value → Shared → Prop} (hl : IsTup s.heap l vs.toArray) (h0 : KeysOf κ (pairsOf vs)) (hkk : ∀ v₁ v₂ rest, vs = v₁ :: v₂ :: rest → keyKind' (v₁ :: v₂ :: rest).toArray = pure oneType') (hL : vs.length ≤ sizeLine)
    (h : ∀ st' : SortSt, (arrOf st').Perm (pairsOf vs) → SortedToK κ (arrOf st') (pairsOf vs).size → Q (.ref (s.heap.objs.size + 1)) { s with heap := sortedAll s.heap vs ((arrOf st').map (·.2)) }) :
    wpAny (model prog w) A (call (.builtin "sorted") [.ref l]) Q E s := by
  refine Calls.call_function_entry kind_sorted plain_sorted entry_sorted (args_sorted1 _) ?_
  unfold Builtin.«sorted»
  refine wpAny_bind (m := checkCount "sorted" 1 1 _) (wpAny_pure ?_)
  refine wpAny_bind (collect_tuple hl ?_ hL)
  refine wpAny_bind (wpAny_newList ?_)
  have hsz : ((s.heap.push (seqObj "list" #[] 0)).update s.heap.objs.size (Obj.mapSeq (· ++ vs.toArray))).objs.size = s.heap.objs.size + 1 := by
    rw [Heap.size_update, size_push']
  have hoL : (((s.heap.push (seqObj "list" #[] 0)).update s.heap.objs.size (Obj.mapSeq (· ++ vs.toArray))).push (seqObj "list" vs.toArray 0)).get? (s.heap.objs.size + 1) = some (seqObj "list" vs.toArray 0) := by
    rw [← hsz]; exact Heap.get?_push_size _ rfl
  show wpAny _ _ _ _ _ { s with heap := ((s.heap.push (seqObj "list" #[] 0)).update s.heap.objs.size (Obj.mapSeq (· ++ vs.toArray))).push (seqObj "list" vs.toArray 0) }
  rw [hsz]
  refine wpAny_bind (wpAny_holding (wpAny_call_entry slot_list_sort ⟨_, hoL, rfl⟩ entry_list_sort (list_sort_treeKAny hO hoL h0 hkk hL fun st' a1 a2 => ⟨_, rfl, ?_⟩) (args_list_sort _)))
  exact wpAny_pure ⟨_, rfl, h st' a1 a2⟩
end
section
variable {X : Cx}
/-- sorted(a list or a tuple of texts), any number -/
theorem cr_srtS : CallR X (.builtin "sorted") (fun vs H Q => ∃ (a : Addr) (xs : List Str), vs = [V.ref a] ∧ (SqL X.K H a (xs.map V.str) ∨ SqT X.K H a (xs.map V.str)) ∧
    ∀ (ys : List Str) (p : Addr), ys.Perm xs → sortedS ys = true → H p = none → Q (.ref p) (upd H p (.lst (ys.map V.str)))) := by
  intro pins s σ H vs us Q I r h
  obtain ⟨a, xs, rfl, hs, q⟩ := h
  rw [Vals.ref1 r]
  have fin : ∀ (its : List Value) (out : Array Value) (ys : List Str), xs.length ≤ sizeLine → StrsAre out.toList ys → ys.Perm xs → sortedS ys = true → EP X pins σ Q (.ref (s.heap.objs.size + 1)) { s with heap := sortedAll s.heap its out } := fun its out ys hz h1 h2 h3 => by
    obtain ⟨ep, he'⟩ := PyProof.Rows.sortedAll_at s.heap its out
    have hlen : (ys.map V.str).length ≤ sizeLine := by rw [List.length_map, h2.length_eq]; exact hz
    exact ⟨.ref _, upd H (s.heap.objs.size + 1) (.lst (ys.map V.str)), I.laid (t' := s.toks) (fun _ _ => PyProof.Rows.sortedAll_old) (Nat.le_succ _) ⟨hlen, out.toList, ep, vals_of_strs h1, he'⟩, rfl, q ys _ h2 h3 (I.hok.fresh (Nat.le_succ _))⟩
  rcases hs with hs | hs
  · obtain ⟨its, rv, hl, hz⟩ := I.list hs
    rw [List.length_map] at hz
    have hlen0 := rv.length
    rw [List.length_map] at hlen0
    exact PyProof.Rows.sorted_strsAny hl.isList rv.strs (by rw [← hlen0]; exact hz) fun out ys h1 h2 h3 => fin its out ys hz h1 h2 h3
  · obtain ⟨its, rv, hl, hz⟩ := I.tuple hs
    rw [List.length_map] at hz
    have hlen0 := rv.length
    rw [List.length_map] at hlen0
    refine sortedKTup strKind_oneLt hl rv.strs.keysOf (fun v₁ v₂ rest e => keyKind_strs (by rw [← e]; exact rv.strs)) (by rw [← hlen0]; exact hz) fun st' hp hs => ?_
    obtain ⟨ys, h1, h2, h3⟩ := sorted_out_str rv.strs hp hs
    exact fin its _ ys hz h1 h2 h3
/-- sorted(a list or a tuple of intS), any number -/
theorem cr_srtI : CallR X (.builtin "sorted") (fun vs H Q => ∃ (a : Addr) (xs : List Int), vs = [V.ref a] ∧ (SqL X.K H a (xs.map V.int) ∨ SqT X.K H a (xs.map V.int)) ∧
    ∀ (ys : List Int) (p : Addr), ys.Perm xs → ys.Pairwise (· ≤ ·) → H p = none → Q (.ref p) (upd H p (.lst (ys.map V.int)))) := by
  intro pins s σ H vs us Q I r h
  obtain ⟨a, xs, rfl, hs, q⟩ := h
  rw [Vals.ref1 r]
  have fin : ∀ (its : List Value) (out : Array Value) (ys : List Int), xs.length ≤ sizeLine → IntsAre out.toList ys → ys.Perm xs → ys.Pairwise (· ≤ ·) → EP X pins σ Q (.ref (s.heap.objs.size + 1)) { s with heap := sortedAll s.heap its out } := fun its out ys hz h1 h2 h3 => by
    obtain ⟨ep, he'⟩ := PyProof.Rows.sortedAll_at s.heap its out
    have hlen : (ys.map V.int).length ≤ sizeLine := by rw [List.length_map, h2.length_eq]; exact hz
    exact ⟨.ref _, upd H (s.heap.objs.size + 1) (.lst (ys.map V.int)), I.laid (t' := s.toks) (fun _ _ => PyProof.Rows.sortedAll_old) (Nat.le_succ _) ⟨hlen, out.toList, ep, vals_of_ints h1, he'⟩, rfl, q ys _ h2 h3 (I.hok.fresh (Nat.le_succ _))⟩
  rcases hs with hs | hs
  · obtain ⟨its, rv, hl, hz⟩ := I.list hs
    rw [List.length_map] at hz
    have hlen0 := rv.length
    rw [List.length_map] at hlen0
    exact PyProof.Rows.sorted_intsAny hl.isList rv.ints (by rw [← hlen0]; exact hz) fun out ys h1 h2 h3 => fin its out ys hz h1 h2 h3
  · obtain ⟨its, rv, hl, hz⟩ := I.tuple hs
    rw [List.length_map] at hz
    have hlen0 := rv.length
    rw [List.length_map] at hlen0
    refine sortedKTup intKind_oneLt hl rv.ints.keysOfInt (fun v₁ v₂ rest e => keyKind_ints (by rw [← e]; exact rv.ints)) (by rw [← hlen0]; exact hz) fun st' hp hs => ?_
    obtain ⟨ys, h1, h2, h3⟩ := sorted_out rv.ints hp (sortedTo_of_int hs)
    exact fin its _ ys hz h1 h2 h3
/-- d[y], by values -/
theorem ix_dict (hu : X.A.units + 1 < cLine) : IxR X (fun x y H Q => ∃ a v, x = .ref a ∧ DGet H a y (some v) ∧ Q v H) := by
  intro value slice pins s σ H x y o i Q I rx ry h hs
  obtain ⟨a, v, rfl, g, q⟩ := h
  obtain rfl : o = Value.ref a := rx
  have hT := dict_typeIs I g
  unfold subscriptTail
  refine wpAny_bind ?_
  rw [getitemInPython_of_ne hT.not_modules]
  refine wpAny_bind (wpAny_specialOf hT PySem.F.slot_dict_getitem.lookup ?_)
  have fin : wpAny (model X.prog X.w) X.A (subscripted slice false (.ref a) i) (fun r s₃ => wpAny (model X.prog X.w) X.A (letTemporaryGo value (.ref a) r >>= fun _ => pure r) (EP X pins σ Q) X.xe s₃) X.xe s := by
    rw [hs]
    exact wpAny_operating (d_getItem hu I g ry fun w' s3 I3 rw' => wpAny_bind (wpAny_letTemporaryGo (wpAny_pure ⟨v, H, I3, rw', q⟩)))
  first
    | exact wpAny_pure (wpAny_bind fin)
    | exact wpAny_bind (wpAny_pure (wpAny_bind fin))
    | exact wpAny_bind fin
end
end Mp
end

section
/-! MiniPy: subscripts, slices, built-in functions, methods by values. -/
set_option linter.all false
set_option maxRecDepth 100000
namespace Mp
open PySem PySem.Spec PyProof.Rows L2
theorem seq_split {M : Me} {d : D} {xs : List D} (e : seqOf M d = some xs) : d = .tup xs ∨ lstOf M d = some xs := by
  cases d with
  | tup l => cases e; exact .inl rfl
  | _ => exact .inr e
theorem pix_at {α : Type} (xs : List α) (i : Int) : pix xs i = atI xs i := by
  unfold pix atI ixN
  by_cases h : 0 ≤ i
  · rw [if_pos h, if_pos h]
    by_cases h2 : i < xs.length
    · rw [if_pos h2]; rfl
    · rw [if_neg h2]
      exact List.getElem?_eq_none_iff.mpr (by omega)
  · rw [if_neg h, if_neg h]
    by_cases h2 : -(xs.length : Int) ≤ i
    · rw [if_pos h2, if_pos h2]; rfl
    · rw [if_neg h2, if_neg h2]; rfl
theorem pix_map {α β : Type} (f : α → β) (xs : List α) (i : Int) : pix (xs.map f) i = (pix xs i).map f := by
  unfold pix
  rw [List.length_map]
  split
  · rw [List.getElem?_map]
  · split
    · rw [List.getElem?_map]
    · rfl
theorem so_one (c : Char) : so (String.singleton c) = ⟨#[c.toNat]⟩ := by
  rw [so_eq, String.toList_singleton]
  rfl
theorem sEnd_eq (n d : Nat) (o : Option Int) : sEnd n d o = HT.sIx n d o := by cases o <;> rfl
section
variable {K : PySem.W.Frag} {A : String → List String} {ca : CA} {ρ0 ρ ρ1 ρ2 R R1 : List Addr} {H0 H H1 H2 : Hp} {M : Me} {Q : VK} {X : Cx} {C : Cn}
theorem DVs.pix {ds : List D} {vs : List V} {i : Int} {d : D} (h : DVs K ρ R H ds vs) (e : pix ds i = some d) : ∃ v, atI vs i = some v ∧ DV K ρ R H d v ∧ nt d = true := by
  unfold Mp.pix at e
  by_cases c : 0 ≤ i
  · rw [if_pos c] at e
    obtain ⟨v, e1, e2⟩ := h.get e
    refine ⟨v, ?_, e2⟩
    rw [← pix_at]
    unfold Mp.pix
    rw [if_pos c]
    exact e1
  · rw [if_neg c] at e
    by_cases c2 : -(ds.length : Int) ≤ i
    · rw [if_pos c2] at e
      obtain ⟨v, e1, e2⟩ := h.get e
      refine ⟨v, ?_, e2⟩
      rw [← pix_at]
      unfold Mp.pix
      rw [if_neg c, ← h.length, if_pos c2]
      exact e1
    · rw [if_neg c2] at e; cases e
theorem ix_ok {d1 d2 : D} {v1 v2 : V} (hu : X.A.units + 64 < cLine) (a : At X.K C.A ca ρ0 R H0 ρ M H) (h1 : DV X.K ρ R H d1 v1) (h2 : DV X.K ρ R H d2 v2)
    (q : opt (ixOf M d1 d2) fun d => KQ X.K C.A ca ρ0 R H0 Q d M) : ∃ r, IxR X r ∧ r v1 v2 H Q := by
  unfold ixOf at q
  split at q
  · rename_i s
    obtain ⟨k, ek, q⟩ := opt_bind q
    obtain rfl := inv_int ek
    obtain rfl := h1.str_inv
    obtain rfl := h2.int_inv
    split at q
    · rename_i hl
      obtain ⟨c, ec, q⟩ := opt_map q
      refine ⟨_, ix_str, so s, k, c.toNat, rfl, rfl, by rw [so_len, ← line_eq]; exact hl, ?_, ?_⟩
      · rw [← pix_at, so_list, pix_map, ec]; rfl
      · rw [← so_one]
        exact a.same (.str _) rfl q
    · exact q.elim
  · split at q
    · rename_i xs es
      obtain ⟨k, ek, q⟩ := opt_bind q
      obtain rfl := inv_int ek
      obtain rfl := h2.int_inv
      obtain ⟨d, ed, q⟩ := opt_ex q
      obtain ⟨p, vs, rfl, hq, hs⟩ := h1.seqS a.mr es
      obtain ⟨v, ev, hv, hn⟩ := hs.pix ed
      rcases hq with hq | hq
      · exact ⟨_, ix_list, p, vs, k, v, rfl, rfl, hq, ev, a.same hv hn q⟩
      · exact ⟨_, ix_tup, p, vs, k, v, rfl, rfl, hq, ev, a.same hv hn q⟩
    · split at q
      · rename_i n _ _
        obtain ⟨l, el, q⟩ := opt_bind q
        obtain ⟨p, kvs, rfl, hr, eH, rel⟩ := dic_at a.mr el h1
        split at q
        · rename_i hk
          obtain ⟨d, ed, q⟩ := opt_ex q
          obtain ⟨kk, hkk⟩ := dk_of hk
          rcases kv_look hkk rel with ⟨z1, z2⟩ | ⟨d', v, z1, z2, z3, z4⟩
          · rw [z1] at ed; cases ed
          · rw [z1] at ed; cases ed
            refine ⟨_, ix_dict (by omega), p, v, rfl, ?_, a.same z3 z4 q⟩
            rw [← z2]
            exact hkk.dget h2 eH
        · exact q.elim
      · exact q.elim
theorem cutL_length {α : Type} (xs : List α) (lo hi : Option Int) : (cutL xs lo hi).length ≤ xs.length := by
  unfold cutL
  rw [List.length_take, List.length_drop]; omega
theorem DVs.cut {ds : List D} {vs : List V} (h : DVs K ρ R H ds vs) (lo hi : Option Int) : DVs K ρ R H (cutL ds lo hi) (cutV vs lo hi) := by
  unfold cutL cutV
  rw [sEnd_eq, sEnd_eq, h.length]
  exact (h.drop _).take _
theorem cutL_whole {α : Type} {xs : List α} {lo hi : Option Int} (h : HT.sIx xs.length 0 lo = 0 ∧ HT.sIx xs.length xs.length hi = xs.length) : cutL xs lo hi = xs := by
  unfold cutL
  rw [sEnd_eq, sEnd_eq, h.1, h.2]
  simp
theorem so_cut (s : String) (lo hi : Option Int) : so (String.ofList (cutL s.toList lo hi)) = cutS (so s) lo hi := by
  rw [so_ofList]
  unfold cutL cutS
  rw [sEnd_eq, sEnd_eq, so_list, so_len, String.length_toList]
  simp
theorem sl_ok {d1 : D} {v1 : V} {lo hi : Option Int} (a : At X.K C.A ca ρ0 R H0 ρ M H) (h1 : DV X.K ρ R H d1 v1)
    (q : opt (slOf M d1 lo hi) fun d => KQ X.K C.A ca ρ0 R H0 Q d M) : ∃ r, SlR X r ∧ r v1 lo hi H Q := by
  unfold slOf at q
  split at q
  · rename_i xs
    obtain ⟨p, vs, rfl, hq, hs⟩ := h1.seqT
    refine ⟨_, sl_tupF, p, vs, rfl, hq, fun w => ?_, fun w => ?_⟩
    · have hw := w
      rw [← hs.length] at hw
      rw [cutL_whole hw] at q
      exact a.same h1 rfl q
    · exact a.tup (hs.cut lo hi) q
  · rename_i s
    obtain ⟨hl, q⟩ := opt_ite q
    obtain rfl := h1.str_inv
    refine ⟨_, sl_str, so s, rfl, by rw [so_len, ← line_eq]; exact hl, ?_⟩
    rw [← so_cut]
    exact a.same (.str _) rfl q
  · obtain ⟨xs, es, q⟩ := opt_map q
    obtain ⟨p, vs, rfl, hq, hs⟩ := h1.lstS a.mr es
    exact ⟨_, sl_list, p, vs, rfl, hq, fun p hp => a.list hp (hs.cut lo hi) q⟩
/-! ### built-in functions -/
def biVal : Bi → Value
  | .len => .builtin "len" | .tuple => .type "tuple" | .list => .type "list" | .sorted => .builtin "sorted" | .sum => .builtin "sum" | .all => .builtin "all" | .abs => .builtin "abs" | .int => .type "int" | .str => .type "str"
  | .min2 => .builtin "min" | .max2 => .builtin "max" | .min1 => .builtin "min" | .max1 => .builtin "max" | .dict => .type "dict" | .repr => .builtin "repr" | .sset => .none | .lset => .none
abbrev DTs (K : PySem.W.Frag) (ρ R : List Addr) (H : Hp) : List D → List V → Prop := Paired (DV K ρ R H)
theorem sm_V : ∀ {ds : List D} {vs : List V} {n : Int}, DVs K ρ R H ds vs → sm M ds = some n → ∃ ns : List Int, vs = ns.map V.int ∧ ns.sum = n
  | _, _, _, .nil, e => by cases e; exact ⟨[], rfl, rfl⟩
  | d :: ds, v :: vs, n, .cons h _ t, e => by
    cases d with
    | int i =>
      simp only [sm, Option.map_eq_some_iff] at e
      obtain ⟨m, e1, rfl⟩ := e
      obtain ⟨ns, rfl, rfl⟩ := sm_V t e1
      obtain rfl := h.int_inv
      exact ⟨i :: ns, rfl, by simp⟩
    | _ => cases e
theorem ints_V : ∀ {ds : List D} {vs : List V} {ns : List Int}, DVs K ρ R H ds vs → intS ds = some ns → vs = ns.map V.int
  | _, _, _, .nil, e => by cases e; rfl
  | d :: ds, v :: vs, n, .cons h _ t, e => by
    cases d with
    | int i =>
      simp only [intS, Option.map_eq_some_iff] at e
      obtain ⟨m, e1, rfl⟩ := e
      obtain rfl := ints_V t e1
      obtain rfl := h.int_inv
      rfl
    | _ => cases e
theorem strs_V : ∀ {ds : List D} {vs : List V} {ns : List String}, DVs K ρ R H ds vs → strS ds = some ns → vs = (ns.map so).map V.str
  | _, _, _, .nil, e => by cases e; rfl
  | d :: ds, v :: vs, n, .cons h _ t, e => by
    cases d with
    | str i =>
      simp only [strS, Option.map_eq_some_iff] at e
      obtain ⟨m, e1, rfl⟩ := e
      obtain rfl := strs_V t e1
      obtain rfl := h.str_inv
      rfl
    | _ => cases e
theorem bls_V : ∀ {ds : List D} {vs : List V} {ns : List Bool}, DVs K ρ R H ds vs → bls ds = some ns → vs = ns.map V.bl
  | _, _, _, .nil, e => by cases e; rfl
  | d :: ds, v :: vs, n, .cons h _ t, e => by
    cases d with
    | bl i =>
      simp only [bls, Option.map_eq_some_iff] at e
      obtain ⟨m, e1, rfl⟩ := e
      obtain rfl := bls_V t e1
      cases h
      rfl
    | _ => cases e
theorem one_V {d : D} {vs : List V} (h : DTs K ρ R H [d] vs) : ∃ v, vs = [v] ∧ DV K ρ R H d v := by
  cases h with
  | cons h t => cases t; exact ⟨_, rfl, h⟩
theorem two_V {d e : D} {vs : List V} (h : DTs K ρ R H [d, e] vs) : ∃ v w, vs = [v, w] ∧ DV K ρ R H d v ∧ DV K ρ R H e w := by
  cases h with
  | cons h t => cases t with
    | cons h' t => cases t; exact ⟨_, _, rfl, h, h'⟩
theorem log_lt {n : Nat} (h : n < 2 ^ 1000) : n.log2 < 1920 := by
  by_cases z : n = 0
  · subst z; decide
  · have := (Nat.log2_lt z).mpr h
    omega
theorem bi1_ok {f : Bi} {d : D} {v : V} (hc : X.calm = true) (a : At X.K C.A ca ρ0 R H0 ρ M H) (h : DV X.K ρ R H d v)
    (q : opt (bi1 M f d) fun d => KQ X.K C.A ca ρ0 R H0 Q d M) : ∃ r, CallR X (biVal f) r ∧ r [v] H Q := by
  cases f <;> (unfold bi1 at q; first | (exact q.elim; done) | skip)
  · obtain ⟨n, en, q⟩ := opt_map q
    unfold lenOf at en
    split at en
    · split at en
      · rename_i hl
        cases en
        obtain rfl := h.str_inv
        refine ⟨_, call_len_str, _, rfl, by rw [so_len, ← line_eq]; exact hl, ?_⟩
        rw [so_len]
        exact a.same (.int _) rfl q
      · cases en
    · split at en
      · rename_i xs es
        cases en
        obtain ⟨p, vs, rfl, hq, hs⟩ := h.seqS a.mr es
        refine ⟨_, call_len_seq, p, vs, rfl, hq, ?_⟩
        rw [← hs.length]
        exact a.same (.int _) rfl q
      · split at en
        · rename_i n _ _
          cases e2 : dicAt M n with
          | none => rw [e2] at en; cases en
          | some l =>
            rw [e2] at en
            cases en
            obtain ⟨p, kvs, rfl, hr, eH, rel⟩ := dic_at a.mr e2 h
            refine ⟨_, call_lenD, p, kvs, rfl, eH, ?_⟩
            rw [← Paired.length rel]
            exact a.same (.int _) rfl q
        · cases en
  · obtain ⟨xs, es, q⟩ := opt_map q
    rcases seq_split es with rfl | es
    · obtain ⟨p, vs, rfl, hq, hs⟩ := h.seqT
      exact ⟨_, call_tupleF, p, vs, rfl, .inr ⟨hq, a.same h rfl q⟩⟩
    · obtain ⟨p, vs, rfl, hq, hs⟩ := h.lstS a.mr es
      exact ⟨_, call_tupleF, p, vs, rfl, .inl ⟨hq, a.tup hs q⟩⟩
  · obtain ⟨xs, es, q⟩ := opt_map q
    obtain ⟨p, vs, rfl, hq, hs⟩ := h.seqS a.mr es
    exact ⟨_, call_list_of, p, vs, rfl, hq, fun p hp => a.list hp hs q⟩
  · obtain ⟨n, en, q⟩ := opt_map q
    cases e1 : lstOf M d with
    | none => rw [e1] at en; cases en
    | some xs =>
      rw [e1] at en
      obtain ⟨p, vs, rfl, hq, hs⟩ := h.lstS a.mr e1
      obtain ⟨ns, rfl, rfl⟩ := sm_V hs en
      exact ⟨_, cr_sum hc, p, ns, rfl, hq, a.same (.int _) rfl q⟩
  · obtain ⟨bs, en, q⟩ := opt_map q
    cases e1 : lstOf M d with
    | none => rw [e1] at en; cases en
    | some xs =>
      rw [e1] at en
      obtain ⟨p, vs, rfl, hq, hs⟩ := h.lstS a.mr e1
      obtain rfl := bls_V hs en
      exact ⟨_, cr_all hc, p, bs, rfl, hq, a.same (.bl _) rfl q⟩
  · obtain ⟨i, ei, q⟩ := opt_map q
    obtain rfl := inv_int ei
    obtain rfl := h.int_inv
    exact ⟨_, call_abs, i, rfl, a.same (.int _) rfl q⟩
  · change opt (intOfB d) _ at q
    unfold intOfB at q
    split at q
    · obtain rfl := h.int_inv
      exact ⟨_, call_int1, .inl ⟨_, rfl, a.same (.int _) rfl q⟩⟩
    · cases h
      exact ⟨_, call_int1, .inr ⟨_, rfl, a.same (.int _) rfl q⟩⟩
    · exact q.elim
  · change opt (Mp.strOf d) _ at q
    unfold Mp.strOf at q
    split at q
    · split at q
      · rename_i hl
        obtain rfl := h.int_inv
        exact ⟨_, call_str_int, _, rfl, log_lt hl, a.same (.str _) rfl q⟩
      · exact q.elim
    · obtain rfl := h.str_inv
      exact ⟨_, SkE.call_str_str, _, rfl, a.same (.str _) rfl q⟩
    · exact q.elim
theorem bi2_ok {f : Bi} {d e : D} {v w : V} (hc : X.calm = true) (a : At X.K C.A ca ρ0 R H0 ρ M H) (h : DV X.K ρ R H d v) (h' : DV X.K ρ R H e w)
    (q : opt (bi2 f d e) fun d => KQ X.K C.A ca ρ0 R H0 Q d M) : ∃ r, CallR X (biVal f) r ∧ r [v, w] H Q := by
  cases f <;> (unfold bi2 at q; first | (exact q.elim; done) | skip)
  · obtain ⟨i, j, rfl, rfl, q⟩ := ii_some q
    obtain rfl := h.int_inv
    obtain rfl := h'.int_inv
    exact ⟨_, call_min2 hc, i, j, rfl, a.same (.int _) rfl q⟩
  · obtain ⟨i, j, rfl, rfl, q⟩ := ii_some q
    obtain rfl := h.int_inv
    obtain rfl := h'.int_inv
    exact ⟨_, call_max2 hc, i, j, rfl, a.same (.int _) rfl q⟩
end
end Mp
end

section
/-! MiniPy: dict(), sorted(), methods, stores, isinstance by values. -/
set_option linter.all false
set_option maxRecDepth 100000
namespace Mp
open PySem PySem.Spec PyProof.Rows L2
section
variable {K : PySem.W.Frag} {A : String → List String} {ca : CA} {ρ0 ρ ρ1 ρ2 R R1 : List Addr} {H0 H H1 H2 : Hp} {M : Me} {Q : VK} {X : Cx} {C : Cn}
/-! ### sorted -/
def unso (x : Str) : String := String.ofList (x.cps.toList.map Char.ofNat)
theorem unso_so (s : String) : unso (so s) = s := by
  unfold unso
  rw [so_list, List.map_map]
  have : (Char.ofNat ∘ Char.toNat) = id := by funext c; simp [Char.ofNat_toNat]
  rw [this, List.map_id, String.ofList_toList]
theorem map_self {α : Type} {f : α → α} : ∀ l : List α, (∀ y ∈ l, f y = y) → l.map f = l
  | [], _ => rfl
  | y :: r, h => by rw [List.map_cons, h y List.mem_cons_self, map_self r fun z hz => h z (List.mem_cons_of_mem _ hz)]
theorem perm_so {ys : List Str} {ks : List String} (h : ys.Perm (ks.map so)) : ∃ zs : List String, ys = zs.map so ∧ zs.Perm ks := by
  refine ⟨ys.map unso, ?_, ?_⟩
  · rw [List.map_map]
    have : ∀ y ∈ ys, (so ∘ unso) y = y := fun y hy => by
      obtain ⟨k, _, rfl⟩ := List.mem_map.mp (h.subset hy)
      show so (unso (so k)) = so k
      rw [unso_so]
    exact (map_self _ this).symm
  · have := h.map unso
    rw [List.map_map] at this
    have e : (unso ∘ so) = id := by funext c; exact unso_so c
    rw [e, List.map_id] at this
    exact this
theorem risingS_all : ∀ (p : Str) (l : List Str), risingS p l = true → (∀ x ∈ l, ¬ x.cps.toList < p.cps.toList) ∧ l.Pairwise (fun a b => ¬ b.cps.toList < a.cps.toList)
  | p, [], _ => ⟨fun x hx => (nomatch hx), List.Pairwise.nil⟩
  | p, x :: r, h => by
    unfold risingS at h
    rw [Bool.and_eq_true, ltCps_eq] at h
    obtain ⟨h1, h2⟩ := risingS_all x r h.2
    have hp : ¬ x.cps.toList < p.cps.toList := by simpa using h.1
    refine ⟨fun y hy => ?_, List.Pairwise.cons (fun y hy => h1 y hy) h2⟩
    rcases List.mem_cons.mp hy with rfl | hy
    · exact hp
    · exact fun z => hp (Std.lt_of_le_of_lt (Std.not_lt.mp (h1 y hy)) z)
theorem sortedS_all : ∀ (l : List Str), sortedS l = true → l.Pairwise fun a b => ¬ b.cps.toList < a.cps.toList
  | [], _ => List.Pairwise.nil
  | x :: r, h => List.Pairwise.cons (risingS_all x r h).1 (risingS_all x r h).2
theorem rises_of {ys : List Str} {ks : List String} (h : ys.Perm (ks.map so)) (h2 : sortedS ys = true) : ∃ zs : List String, ys = zs.map so ∧ Mp.Rises zs ks := by
  obtain ⟨zs, rfl, hp⟩ := perm_so h
  refine ⟨zs, rfl, hp, ?_⟩
  have := sortedS_all _ h2
  rw [List.pairwise_map] at this
  refine this.imp fun {a b} z => ?_
  unfold strL
  rw [so_list, so_list] at z
  exact z
theorem At.lists (a : At K A ca ρ0 R H0 ρ M H) {ks : List String} (q : KQ K A ca ρ0 R H0 Q (.tl (ks.map .str)) M) {p : Addr} (hp : H p = none) : Q (.ref p) (upd H p (.lst ((ks.map so).map V.str))) := by
  refine a.list hp ?_ q
  have := DVs.strS (K := K) (ρ := ρ) (R := R) (H := H) ks
  rw [List.map_map]
  exact this
theorem KVR.keys {l : List (D × D)} {kvs : List (Key × V)} (r : KVR K ρ R H l kvs) : (∀ ks : List String, strS (l.map (·.1)) = some ks → kvs.map (·.1) = (ks.map so).map Sum.inr) ∧ (∀ ks : List Int, intS (l.map (·.1)) = some ks → kvs.map (·.1) = ks.map Sum.inl) := by
  induction r with
  | nil => exact ⟨fun ks e => by cases e; rfl, fun ks e => by cases e; rfl⟩
  | @cons p q l kvs h t ih =>
    obtain ⟨pk, pd⟩ := p
    obtain ⟨qk, qd⟩ := q
    refine ⟨fun ks e => ?_, fun ks e => ?_⟩
    · cases pk with
      | str s =>
        simp only [List.map_cons, strS, Option.map_eq_some_iff] at e
        obtain ⟨m, e1, rfl⟩ := e
        have hk : qk = Sum.inr (so s) := h.1
        simp only [List.map_cons, ih.1 m e1, hk]
      | _ => cases e
    · cases pk with
      | int s =>
        simp only [List.map_cons, intS, Option.map_eq_some_iff] at e
        obtain ⟨m, e1, rfl⟩ := e
        have hk : qk = Sum.inl s := h.1
        simp only [List.map_cons, ih.2 m e1, hk]
      | _ => cases e
theorem len_strs : ∀ {ds : List D} {ks : List String}, strS ds = some ks → ks.length = ds.length
  | [], _, e => by cases e; rfl
  | d :: ds, _, e => by
    cases d with
    | str s =>
      simp only [strS, Option.map_eq_some_iff] at e
      obtain ⟨m, e1, rfl⟩ := e
      simp [len_strs e1]
    | _ => cases e
theorem len_ints : ∀ {ds : List D} {ks : List Int}, intS ds = some ks → ks.length = ds.length
  | [], _, e => by cases e; rfl
  | d :: ds, _, e => by
    cases d with
    | int s =>
      simp only [intS, Option.map_eq_some_iff] at e
      obtain ⟨m, e1, rfl⟩ := e
      simp [len_ints e1]
    | _ => cases e
theorem srt_ok {ds : List D} {vs : List V} (hc : X.calm = true) (a : At X.K C.A ca ρ0 R H0 ρ M H) (h : DTs X.K ρ R H ds vs)
    (q : opt (srtOf M ds) fun k => wSort k fun d => KQ X.K C.A ca ρ0 R H0 Q d M) : ∃ r, CallR X (.builtin "sorted") r ∧ r vs H Q := by
  unfold srtOf at q
  split at q
  · obtain ⟨v, rfl, g⟩ := one_V h
    split at q
    · rename_i xs es
      obtain ⟨p, vs, rfl, hq, hs⟩ := g.seqS a.mr es
      obtain ⟨k, ek, q⟩ := opt_ex q
      unfold srtL at ek
      split at ek
      · rename_i ks eks
        cases ek
        obtain rfl := strs_V hs eks
        refine ⟨_, cr_srtS, p, ks.map so, rfl, hq, fun ys l h1 h2 h3 => ?_⟩
        obtain ⟨zs, rfl, hz⟩ := rises_of h1 h2
        exact a.lists (q zs hz) h3
      · cases e2 : intS xs with
        | none => rw [e2] at ek; cases ek
        | some ks =>
          rw [e2] at ek
          cases ek
          obtain rfl := ints_V hs e2
          exact ⟨_, cr_srtI, p, ks, rfl, hq, fun ys l h1 h2 h3 => a.list h3 (DVs.intS ys) (q ys ⟨h1, h2⟩)⟩
    · split at q
      · rename_i n _
        obtain ⟨k, ek, q⟩ := opt_ex q
        cases e2 : dicAt M n with
        | none => rw [e2] at ek; cases ek
        | some l =>
          rw [e2] at ek
          have ek' : (if l.length < 64 then srtL (l.map (·.1)) else none) = some k := ek
          split at ek'
          · rename_i h64
            obtain ⟨p, kvs, rfl, hr, eH, rel⟩ := dic_at a.mr e2 g
            unfold srtL at ek'
            split at ek'
            · rename_i ks eks
              cases ek'
              refine ⟨_, call_sortedD hc, p, kvs, ks.map so, rfl, .inl eH, rel.keys.1 ks eks, ?_, fun ys l h1 h2 h3 => ?_⟩
              · rw [List.length_map, len_strs eks, List.length_map]; exact h64
              · obtain ⟨zs, rfl, hz⟩ := rises_of h1 h2
                exact a.lists (q zs hz) h3
            · cases e3 : intS (l.map (·.1)) with
              | none => rw [e3] at ek'; cases ek'
              | some ks =>
                rw [e3] at ek'
                cases ek'
                refine ⟨_, call_sortedDI hc, p, kvs, ks, rfl, .inl eH, rel.keys.2 ks e3, ?_, fun ys l h1 h2 h3 => a.list h3 (DVs.intS ys) (q ys ⟨h1, h2⟩)⟩
                rw [len_ints e3, List.length_map]; exact h64
          · cases ek'
      · exact q.elim
  · exact q.elim
/-! ### dict -/
theorem prs_ok : ∀ {ds : List D} {vs : List V} {ps : List (D × D)}, DVs K ρ R H ds vs → prs ds = some ps →
    ∃ (as : List Addr) (kvs : List (Key × V)), vs = as.map V.ref ∧ Paired (fun p kv => SqT K H p [kV kv.1, kv.2]) as kvs ∧ KVR K ρ R H ps kvs
  | _, _, _, .nil, e => by cases e; exact ⟨[], [], rfl, .nil, .nil⟩
  | d :: ds, v :: vs, ps, .cons h _ t, e => by
    unfold prs at e
    split at e
    · cases ‹_ = ([] : List D)›
    · rename_i k x r ed
      cases ed
      split at e
      · rename_i hk
        simp only [Option.map_eq_some_iff] at e
        obtain ⟨m, e1, rfl⟩ := e
        obtain ⟨as, kvs, rfl, hp, hr⟩ := prs_ok t e1
        obtain ⟨a, ws, rfl, hq, hs⟩ := h.seqT
        obtain ⟨kk, hkk⟩ := dk_of hk
        cases hs with
        | cons g1 _ hs => cases hs with
          | cons g2 n2 hs =>
            cases hs
            obtain rfl := dk_kV hkk g1
            exact ⟨a :: as, (kk, _) :: kvs, rfl, .cons hq hp, .cons ⟨hkk, g2, n2⟩ hr⟩
      · cases e
    · cases e
theorem dict_ok {ds : List D} {vs : List V} (hc : X.calm = true) (a : At X.K C.A ca ρ0 R H0 ρ M H) (h : DTs X.K ρ R H ds vs)
    (q : opt (dictOf M ds) fun l => KQ X.K C.A ca ρ0 R H0 Q (.ref M.length) (M ++ [.dic l])) : ∃ r, CallR X (.type "dict") r ∧ r vs H Q := by
  unfold dictOf at q
  split at q
  · obtain ⟨v, rfl, g⟩ := one_V h
    split at q
    · rename_i xs es
      obtain ⟨ps, e1, q⟩ := opt_map q
      rcases seq_split es with rfl | el
      · cases g with
        | tup h1 h2 h3 h4 =>
          obtain ⟨as, kvs, rfl, hp, hr⟩ := prs_ok h4 e1
          exact ⟨_, call_dictT hc, _, as, kvs, rfl, .inl h1, hp, fun p hp => a.dic hp (kv_puts hr .nil) q⟩
        | tupK h1 h4 =>
          obtain ⟨as, kvs, rfl, hp, hr⟩ := prs_ok h4 e1
          exact ⟨_, call_dictT hc, _, as, kvs, rfl, .inr h1, hp, fun p hp => a.dic hp (kv_puts hr .nil) q⟩
      · obtain ⟨p, vs, rfl, hq, hs⟩ := g.lstS a.mr el
        obtain ⟨as, kvs, rfl, hp, hr⟩ := prs_ok hs e1
        exact ⟨_, call_dictP hc, p, as, kvs, rfl, hq, hp, fun p hp => a.dic hp (kv_puts hr .nil) q⟩
    · split at q
      · rename_i n _
        obtain ⟨l, el, q⟩ := opt_ex q
        obtain ⟨p, kvs, rfl, hr, eH, rel⟩ := dic_at a.mr el g
        exact ⟨_, call_dictD, p, kvs, rfl, .inl eH, fun p hp => a.dic hp rel q⟩
      · exact q.elim
  · exact q.elim
theorem bi_ok {f : Bi} {ds : List D} {vs : List V} (hc : X.calm = true) (a : At X.K C.A ca ρ0 R H0 ρ M H) (h : DTs X.K ρ R H ds vs)
    (q : wBi M f ds (KQ X.K C.A ca ρ0 R H0 Q)) : ∃ r, CallR X (biVal f) r ∧ r vs H Q := by
  have rest : opt (biOf M f ds) (fun d => KQ X.K C.A ca ρ0 R H0 Q d M) → ∃ r, CallR X (biVal f) r ∧ r vs H Q := fun q => by
    unfold biOf at q
    split at q
    · obtain ⟨v, rfl, g⟩ := one_V h
      exact bi1_ok hc a g q
    · obtain ⟨v, w, rfl, h1, h2⟩ := two_V h
      exact bi2_ok hc a h1 h2 q
    · exact q.elim
  cases f with
  | dict => exact dict_ok hc a h q
  | sorted => exact srt_ok hc a h q
  | _ => exact rest q
end
end Mp
end

section
/-! MiniPy: methods, stores, isinstance by values. -/
set_option linter.all false
set_option maxRecDepth 100000
namespace Mp
open PySem PySem.Spec PyProof.Rows L2
section
variable {K : PySem.W.Frag} {A : String → List String} {ca : CA} {ρ0 ρ ρ1 ρ2 R R1 : List Addr} {H0 H H1 H2 : Hp} {M : Me} {Q : VK} {X : Cx} {C : Cn}
theorem mt_get1 (hu : X.A.units + 1 < cLine) : MtR X "dict.get" (fun x vs H Q => ∃ a o y, x = .ref a ∧ vs = [y] ∧ DGet H a y o ∧ Q (o.getD .non) H) := by
  intro pins s σ H x vs v us Q I rx rs h
  obtain ⟨a, o, y, rfl, rfl, g, q⟩ := h
  obtain ⟨u, rfl, ru⟩ := vals1 rs
  cases rx
  exact d_get1 hu I g ru fun w' s' I' r' => ⟨_, H, I', r', q⟩
theorem mt_get2 (hu : X.A.units + 1 < cLine) : MtR X "dict.get" (fun x vs H Q => ∃ a o y z, x = .ref a ∧ vs = [y, z] ∧ DGet H a y o ∧ Q (o.getD z) H) := by
  intro pins s σ H x vs v us Q I rx rs h
  obtain ⟨a, o, y, z, rfl, rfl, g, q⟩ := h
  obtain ⟨u, w, rfl, ru, rw'⟩ := vals2 rs
  cases rx
  exact d_get2 hu I g ru rw' fun w' s' I' r' => ⟨_, H, I', r', q⟩
theorem At.wr (a : At K A ca ρ0 R H0 ρ M H) {n : Nat} {p : Addr} {o : HO} {c : MO} {d : D} {v : V} (hr : ρ[n]? = some p) (hc : CellR K A ca ρ R (upd H p o) p c) (hd : DV K ρ R H d v) (hn : nt d = true)
    (q : KQ K A ca ρ0 R H0 Q d (M.set n c)) : Q v (upd H p o) :=
  q ρ v _ ⟨a.gr.trans (grow_set hr), a.mr.set hr hc, hd.mono (grow_set hr), fun xs e => by subst e; cases hn⟩
theorem cell_lst {n : Nat} {p : Addr} {ds : List D} {vs : List V} (hr : ρ[n]? = some p) (h : DVs K ρ R H ds vs) : CellR K A ca ρ R (upd H p (.lst vs)) p (.lst ds) := ⟨vs, upd_same, h.mono (grow_set hr)⟩
theorem cell_dic {n : Nat} {p : Addr} {l : List (D × D)} {kvs : List (Key × V)} (hr : ρ[n]? = some p) (h : KVR K ρ R H l kvs) : CellR K A ca ρ R (upd H p (.dK kvs)) p (.dic l) :=
  ⟨kvs, upd_same, Paired.mapP h fun x y z => ⟨z.1, z.2.1.mono (grow_set hr), z.2.2⟩⟩
/-- a built-in method: its type, its name -/
def mtT : Mt → String × String
  | .append => ("list", "list.append") | .pop => ("list", "list.pop") | .pop0 => ("list", "list.pop") | .insert => ("list", "list.insert") | .extend => ("list", "list.extend") | .index => ("list", "list.index")
  | .get1 => ("dict", "dict.get") | .get2 => ("dict", "dict.get") | .join => ("str", "str.join") | _ => ("", "")
/-- what MethodOn asks -/
def MtF (m : Mt) : Prop := PlainAttrs (mtT m).1 ∧ Slot (mtT m).1 (so (mtName m)) (mtT m).2 ∧ typeOf (.builtin (mtT m).2) = pure (.type "method_descriptor")
theorem mt_facts {M : Me} {m : Mt} {x : D} (h : mtRc M m x = true) : MtF m := by
  cases m <;> first
    | (exfalso; cases x <;> (exact Bool.noConfusion h))
    | skip
  · exact ⟨F.plainAttrs_list, F.slot_list_append, rfl⟩
  · exact ⟨F.plainAttrs_list, F.slot_list_pop, rfl⟩
  · exact ⟨F.plainAttrs_list, F.slot_list_pop, rfl⟩
  · exact ⟨F.plainAttrs_list, F.slot_list_insert, rfl⟩
  · exact ⟨F.plainAttrs_list, F.slot_list_extend, rfl⟩
  · exact ⟨F.plainAttrs_list, F.slot_list_index, rfl⟩
  · exact ⟨F.plainAttrs_dict, F.slot_dict_get, rfl⟩
  · exact ⟨F.plainAttrs_dict, F.slot_dict_get, rfl⟩
  · exact ⟨F.plainAttrs_str, F.slot_str_join, rfl⟩
theorem mt_ty {m : Mt} {x : D} {v : V} (mr : MR K A ca ρ R M H) (hv : DV K ρ R H x v) (h : mtRc M m x = true) : tyV K (mtT m).1 v H := by
  have l1 : ∀ {n : Nat} {v : V}, DV K ρ R H (.ref n) v → (lstAt M n).isSome = true → tyV K "list" v H := fun {n v} hv h => by
    obtain ⟨l, e⟩ := Option.isSome_iff_exists.mp h
    obtain ⟨p, vs, rfl, hr, eH, _⟩ := lst_at mr e hv
    exact .inl ⟨rfl, vs, .of eH⟩
  have l2 : ∀ {n : Nat} {v : V}, DV K ρ R H (.ref n) v → (dicAt M n).isSome = true → tyV K "dict" v H := fun {n v} hv h => by
    obtain ⟨l, e⟩ := Option.isSome_iff_exists.mp h
    obtain ⟨p, vs, rfl, hr, eH, _⟩ := dic_at mr e hv
    exact .inr (.inr (.inl ⟨rfl, .inl ⟨vs, eH⟩⟩))
  cases m <;> first
    | (exfalso; cases x <;> (exact Bool.noConfusion h))
    | skip
  case index =>
    obtain ⟨l, e⟩ := Option.isSome_iff_exists.mp (show (lstOf M x).isSome = true from h)
    obtain ⟨p, vs, rfl, hq, _⟩ := hv.lstS mr e
    exact .inl ⟨rfl, vs, hq⟩
  case join =>
    cases x <;> first
      | (exact Bool.noConfusion h)
      | skip
    obtain rfl := hv.str_inv
    exact rfl
  all_goals
    cases x <;> first
      | (exact Bool.noConfusion h)
      | exact l1 hv h
      | exact l2 hv h
theorem Paired.two {α β : Type} {F : α → β → Prop} {a b : α} {l : List β} (h : Paired F [a, b] l) : ∃ x y, l = [x, y] ∧ F a x ∧ F b y := by
  cases h with
  | cons h t => cases t with
    | cons h' t => cases t; exact ⟨_, _, rfl, h, h'⟩
theorem Paired.one {α β : Type} {F : α → β → Prop} {a : α} {l : List β} (h : Paired F [a] l) : ∃ x, l = [x] ∧ F a x := by
  cases h with
  | cons h t => cases t; exact ⟨_, rfl, h⟩
theorem DVs.dropLast {ds : List D} {vs : List V} (h : DVs K ρ R H ds vs) : DVs K ρ R H ds.dropLast vs.dropLast := by
  rw [List.dropLast_eq_take, List.dropLast_eq_take, h.length]
  exact h.take _
theorem joinS_so (a : String) : ∀ ys : List String, so (joinS a ys) = Str.join (so a) (ys.map so)
  | [] => rfl
  | [x] => rfl
  | x :: y :: r => by
    show so (x ++ a ++ joinS a (y :: r)) = so x ++ so a ++ Str.join (so a) ((y :: r).map so)
    rw [so_append, so_append, joinS_so a (y :: r)]
theorem eqv_at {x : D} {xv : V} (hx : DV K ρ R H x xv) (fx : flat x = true) {ds : List D} {vs : List V} (hs : DVs K ρ R H ds vs) (f : ds.all flat = true) {j : Nat} {d : D} (e : ds[j]? = some d) : ∃ v, vs[j]? = some v ∧ eqV v xv = D.eqv d x := by
  obtain ⟨v, e1, e2, _⟩ := hs.get e
  refine ⟨v, e1, eqv_V e2 hx ?_ fx⟩
  exact List.all_eq_true.mp f d (List.mem_of_getElem? e)
theorem mt_ok {m : Mt} {x : D} {v : V} {ds : List D} {vs : List V} (hc : X.calm = true) (hu : X.A.units + 64 < cLine) (a : At X.K C.A ca ρ0 R H0 ρ M H) (hx : DV X.K ρ R H x v) (hs : DTs X.K ρ R H ds vs)
    (q : opt (mtOf M m x ds) fun p => KQ X.K C.A ca ρ0 R H0 Q p.1 p.2) : ∃ r, MtR X (mtT m).2 r ∧ r v vs H Q := by
  unfold mtOf at q
  split at q
  · obtain ⟨d, rfl, hd⟩ := Paired.one hs
    obtain ⟨xs, e, q⟩ := opt_bind q
    obtain ⟨hl, q⟩ := opt_ite q
    obtain ⟨p, ws, rfl, hr, eH, rel⟩ := lst_at a.mr e hx
    exact ⟨_, mt_append, p, ws, d, rfl, rfl, eH, by rw [← rel.length, ← line_eq]; exact hl, a.wr hr (cell_lst hr (rel.append (.cons hd.frz (nt_frz _) .nil))) .non rfl q⟩
  · obtain ⟨d, w, rfl, hd, hw⟩ := Paired.two hs
    obtain ⟨xs, e, q⟩ := opt_bind q
    obtain ⟨⟨hl, h0, h1⟩, q⟩ := opt_ite q
    obtain ⟨p, ws, rfl, hr, eH, rel⟩ := lst_at a.mr e hx
    obtain rfl := hd.int_inv
    refine ⟨_, mt_insert, p, ws, _, w, rfl, rfl, eH, by rw [← rel.length, ← line_eq]; exact hl, h0, by omega, a.wr hr (cell_lst hr ?_) .non rfl q⟩
    exact ((rel.take _).append (.cons hw.frz (nt_frz _) .nil)).append (rel.drop _)
  · cases hs
    obtain ⟨xs, e, q⟩ := opt_bind q
    obtain ⟨y, ey, q⟩ := opt_map q
    obtain ⟨p, ws, rfl, hr, eH, rel⟩ := lst_at a.mr e hx
    rw [List.getLast?_eq_getElem?] at ey
    obtain ⟨w, ew, hw, hn⟩ := rel.get ey
    exact ⟨_, mt_pop, p, ws, w, rfl, rfl, eH, by rw [← rel.length]; exact ew, a.wr hr (cell_lst hr rel.dropLast) hw hn q⟩
  · obtain ⟨d, rfl, hd⟩ := Paired.one hs
    obtain ⟨xs, e, q⟩ := opt_bind q
    obtain ⟨y, ey, q⟩ := opt_map q
    obtain ⟨p, ws, rfl, hr, eH, rel⟩ := lst_at a.mr e hx
    obtain rfl := hd.int_inv
    rw [List.head?_eq_getElem?] at ey
    obtain ⟨w, ew, hw, hn⟩ := rel.get ey
    refine ⟨_, mt_popAt, p, ws, 0, 0, w, rfl, rfl, eH, by decide, by decide, ?_, ew, a.wr hr (cell_lst hr ?_) hw hn q⟩
    · have hl : 0 < ws.length := (List.getElem?_eq_some_iff.mp ew).1
      rw [seqIndex_of (by omega) (by omega)]
      rfl
    · rw [List.eraseIdx_zero, ← List.drop_one, ← List.drop_one]
      exact rel.drop 1
  · obtain ⟨d, rfl, hd⟩ := Paired.one hs
    obtain ⟨xs, e, q⟩ := opt_bind q
    obtain ⟨ys, e2, q⟩ := opt_bind q
    obtain ⟨⟨hn, hl⟩, q⟩ := opt_ite q
    obtain ⟨p, ws, rfl, hr, eH, rel⟩ := lst_at a.mr e hx
    obtain ⟨p2, ws2, rfl, eH2, rel2⟩ := hd.lstH a.mr e2 hn
    exact ⟨_, mt_extend, p, p2, ws, ws2, rfl, rfl, eH, eH2, by rw [← rel.length, ← rel2.length, ← line_eq]; exact hl, a.wr hr (cell_lst hr (rel.append rel2)) .non rfl q⟩
  · obtain ⟨d, w, rfl, hd, hw⟩ := Paired.two hs
    obtain ⟨l, e, q⟩ := opt_bind q
    obtain ⟨hk, q⟩ := opt_ite q
    obtain ⟨p, kvs, rfl, hr, eH, rel⟩ := dic_at a.mr e hx
    obtain ⟨kk, hkk⟩ := dk_of hk
    refine ⟨_, mt_get2 (by omega), p, _, d, w, rfl, rfl, hkk.dget hd eH, ?_⟩
    rcases kv_look hkk rel with ⟨z1, z2⟩ | ⟨d', v', z1, z2, z3, z4⟩
    · rw [z2]; rw [z1] at q
      exact a.same hw.frz (nt_frz _) q
    · rw [z2]; rw [z1] at q
      exact a.same z3 z4 q
  · obtain ⟨d, rfl, hd⟩ := Paired.one hs
    obtain ⟨l, e, q⟩ := opt_bind q
    obtain ⟨hk, q⟩ := opt_ite q
    obtain ⟨p, kvs, rfl, hr, eH, rel⟩ := dic_at a.mr e hx
    obtain ⟨kk, hkk⟩ := dk_of hk
    refine ⟨_, mt_get1 (by omega), p, _, d, rfl, rfl, hkk.dget hd eH, ?_⟩
    rcases kv_look hkk rel with ⟨z1, z2⟩ | ⟨d', v', z1, z2, z3, z4⟩
    · rw [z2]; rw [z1] at q
      exact a.same .non rfl q
    · rw [z2]; rw [z1] at q
      exact a.same z3 z4 q
  · obtain ⟨d, rfl, hd⟩ := Paired.one hs
    obtain ⟨xs, e, q⟩ := opt_bind q
    split at q
    · rename_i hf
      rw [Bool.and_eq_true] at hf
      obtain ⟨j, ej, q⟩ := opt_map q
      obtain ⟨p, ws, rfl, hq, rel⟩ := hx.lstS a.mr e
      rw [List.findIdx?_eq_some_iff_getElem] at ej
      obtain ⟨hj, hj1, hj2⟩ := ej
      obtain ⟨w, ew, hw⟩ := eqv_at hd hf.1 rel hf.2 (List.getElem?_eq_getElem hj)
      refine ⟨_, mt_index, p, ws, d, j, w, rfl, rfl, hq, flat_V hd hf.1, flats_V rel hf.2, ew, by rw [hw]; exact hj1, fun m' z' hm e' => ?_, a.same (.int _) rfl q⟩
      have hm2 : m' < xs.length := by omega
      obtain ⟨w', ew', hw'⟩ := eqv_at hd hf.1 rel hf.2 (List.getElem?_eq_getElem hm2)
      rw [e'] at ew'
      cases ew'
      rw [hw']
      have := hj2 m' hm
      simpa using this
    · exact q.elim
  · rename_i s _
    obtain ⟨d, rfl, hd⟩ := Paired.one hs
    obtain rfl := hx.str_inv
    obtain ⟨ys, e, q⟩ := opt_bind q
    obtain ⟨hl, q⟩ := opt_ite q
    cases e2 : seqOf M _ with
    | none => rw [e2] at e; cases e
    | some xs =>
      rw [e2] at e
      obtain ⟨p, ws, rfl, hq, rel⟩ := hd.seqS a.mr e2
      obtain rfl := strs_V rel e
      refine ⟨_, mt_join, so s, p, ys.map so, rfl, rfl, hq, ?_, ?_⟩
      · have : ((ys.map so).map fun x => x.length) = ys.map String.length := by
          rw [List.map_map]
          exact List.map_congr_left fun x _ => so_len x
        rw [this, List.length_map, so_len]
        exact hl
      · rw [TL.join_eq, ← joinS_so]
        exact a.same (.str _) rfl q
  · exact q.elim
end
end Mp
end

section
/-! MiniPy: stores, fields, isinstance by values. -/
set_option linter.all false
set_option maxRecDepth 100000
namespace Mp
open PySem PySem.Spec PyProof.Rows L2
section
variable {K : PySem.W.Frag} {A : String → List String} {ca : CA} {ρ0 ρ ρ1 ρ2 R R1 : List Addr} {H0 H H1 H2 : Hp} {M : Me} {Q : VK} {X : Cx} {C : Cn}
/-- what a statement needs behind it -/
abbrev HQ (K : PySem.W.Frag) (A : String → List String) (ca : CA) (ρ0 R : List Addr) (H0 : Hp) (Q : Hp → Prop) (M' : Me) : Prop := ∀ ρ' H', Grow ρ0 H0 ρ' H' → MR K A ca ρ' R M' H' → Q H'
theorem st_ok {x y z : D} {xv yv zv : V} {M4 : Me} {Q : Hp → Prop} (hu : X.A.units + 64 < cLine) (a : At X.K C.A ca ρ0 R H0 ρ M H) (hx : DV X.K ρ R H x xv) (hy : DV X.K ρ R H y yv) (hz : DV X.K ρ R H z zv)
    (e : stOf M x y z = some M4) (q : HQ X.K C.A ca ρ0 R H0 Q M4) : ∃ t, PSet X t ∧ t xv yv zv H Q := by
  unfold stOf at e
  split at e
  · rename_i n
    split at e
    · rename_i xs e1
      obtain ⟨p, ws, rfl, hr, eH, rel⟩ := lst_at a.mr e1 hx
      cases ek : intOf y with
      | none => rw [ek] at e; cases e
      | some k =>
        rw [ek] at e
        obtain rfl := inv_int ek
        obtain rfl := hy.int_inv
        have e' : (if 0 ≤ k ∧ k < xs.length then some (M.set n (.lst (xs.set k.toNat (frz z)))) else none) = some M4 := e
        split at e'
        · rename_i hk
          cases e'
          refine ⟨_, set_list, p, ws, k, k.toNat, rfl, rfl, eH, ?_, q ρ _ (a.gr.trans (grow_set hr)) (a.mr.set hr (cell_lst hr (rel.set hz.frz (nt_frz _) _)))⟩
          unfold ixN
          rw [if_pos hk.1, if_pos (by rw [← rel.length]; exact hk.2)]
        · cases e'
    · cases e1 : dicAt M n with
      | none => rw [e1] at e; cases e
      | some l =>
        rw [e1] at e
        have e' : (if isKey y = true ∧ l.length < line then some (M.set n (.dic (put l y (frz z)))) else none) = some M4 := e
        split at e'
        · rename_i hk
          cases e'
          obtain ⟨p, kvs, rfl, hr, eH, rel⟩ := dic_at a.mr e1 hx
          obtain ⟨kk, hkk⟩ := dk_of hk.1
          obtain rfl := dk_kV hkk hy
          exact ⟨_, set_dict (by omega), p, _, rfl, .k eH (by rw [← Paired.length rel, ← line_eq]; exact hk.2), q ρ _ (a.gr.trans (grow_set hr)) (a.mr.set hr (cell_dic hr (kv_put hkk hz.frz (nt_frz _) rel)))⟩
        · cases e'
  · cases e
/-! ### fields -/
abbrev FR (K : PySem.W.Frag) (As : List String) (ρ R : List Addr) (H : Hp) : List (String × D) → List (Str × V) → Prop := Paired fun (p : String × D) (q : Str × V) => so p.1 = q.1 ∧ DV K ρ R H p.2 q.2 ∧ nt p.2 = true ∧ p.1 ∈ As
theorem fr_look {As : List String} {f : String} {d : D} : ∀ {fs : List (String × D)} {gs : List (Str × V)}, FR K As ρ R H fs gs → flook f fs = some d → ∃ v, gs.lookup (so f) = some v ∧ DV K ρ R H d v ∧ nt d = true ∧ f ∈ As
  | _, _, .nil, e => by cases e
  | p :: fs, q :: gs, .cons h t, e => by
    obtain ⟨g, x⟩ := p
    obtain ⟨gv, xv⟩ := q
    unfold flook at e
    split at e
    · rename_i hg
      cases e
      subst hg
      obtain ⟨h1, h2, h3, h4⟩ := h
      refine ⟨xv, ?_, h2, h3, h4⟩
      have : (so g == gv) = true := by rw [beq_iff_eq]; exact h1
      simp [List.lookup, this]
    · rename_i hg
      obtain ⟨v, e1, e2⟩ := fr_look t e
      refine ⟨v, ?_, e2⟩
      have : (so f == gv) = false := by
        rw [beq_eq_false_iff_ne]
        intro z
        exact hg (so_inj (h.1.trans z.symm))
      simp [List.lookup, this, e1]
theorem fr_none {As : List String} {f : Str} : ∀ {fs : List (String × D)} {gs : List (Str × V)}, FR K As ρ R H fs gs → (∀ g ∈ As, so g ≠ f) → gs.lookup f = none
  | _, _, .nil, _ => rfl
  | p :: fs, q :: gs, .cons h t, hn => by
    obtain ⟨gv, xv⟩ := q
    have : (f == gv) = false := by
      rw [beq_eq_false_iff_ne]
      intro z
      exact hn p.1 h.2.2.2 (h.1.trans z.symm)
    simp [List.lookup, this, fr_none t hn]
theorem fr_put {As : List String} {f : String} {d : D} {v : V} (hd : DV K ρ R H d v) (hn : nt d = true) (hf : f ∈ As) : ∀ {fs : List (String × D)} {gs : List (Str × V)}, FR K As ρ R H fs gs → FR K As ρ R H (fput f d fs) (putF (so f) v gs)
  | _, _, .nil => .cons ⟨rfl, hd, hn, hf⟩ .nil
  | p :: fs, q :: gs, .cons h t => by
    obtain ⟨g, x⟩ := p
    obtain ⟨gv, xv⟩ := q
    unfold fput putF
    obtain ⟨h1, h2, h3, h4⟩ := h
    by_cases z : g = f
    · subst z
      rw [if_pos rfl, if_pos h1.symm]
      exact .cons ⟨h1, hd, hn, h4⟩ t
    · rw [if_neg z, if_neg (fun w => z (so_inj (h1.trans w)))]
      exact .cons ⟨h1, h2, h3, h4⟩ (fr_put hd hn hf t)
theorem ins_at (m : MR K A ca ρ R M H) {n : Nat} {p : String × List (String × D)} {v : V} (e : insAt M n = some p) (h : DV K ρ R H (.ref n) v) : ∃ a dx gs, v = .ref a ∧ ρ[n]? = some a ∧ H a = some (.ins (ca p.1) dx gs) ∧ FR K (A p.1) ρ R H p.2 gs := by
  cases h with
  | ref hr =>
    obtain ⟨dx, gs, e1, e2⟩ := m.cell n _ _ (insAt_some e) hr
    exact ⟨_, dx, gs, rfl, hr, e1, e2⟩
/-! ### isinstance -/
def tyN : List String := ["tuple", "int", "bool", "str", "list"]
theorem kit_all (a b : String) (ha : a ∈ ["NoneType", "bool", "int", "str", "tuple", "list"]) (hb : b ∈ tyN) : kitB a b = some (b == a || (a == "bool" && b == "int")) := by
  simp only [tyN, List.mem_cons, List.not_mem_nil, or_false] at ha hb
  rcases ha with rfl | rfl | rfl | rfl | rfl | rfl <;> rcases hb with rfl | rfl | rfl | rfl | rfl <;> decide +kernel
theorem isTy_ok {x : D} {v : V} {t : String} {b : Bool} (m : MR X.K A ca ρ R M H) (hv : DV X.K ρ R H x v) (ht : t ∈ tyN) (e : isTy M x t = some b) (q : Q (.bl b) H) : rIsi X.K [v, .ty t] H Q := by
  have fin : ∀ (a : String) (v : V), a ∈ ["NoneType", "bool", "int", "str", "tuple", "list"] → TyX X.K H v (.type a) → (t == a || (a == "bool" && t == "int")) = b → rIsi X.K [v, .ty t] H Q := fun a v ha ty hb =>
    ⟨v, .ty t, .type a, .type t, b, rfl, .ty t, ty, kit_ty (by rw [kit_all a t ha ht, hb]), q⟩
  have hl : ∀ {d : D} {v : V} {xs : List D}, DV X.K ρ R H d v → lstOf M d = some xs → TyX X.K H v (.type "list") := fun {d v xs} h e => by
    obtain ⟨p, vs, rfl, hq, _⟩ := h.lstS m e
    rcases hq with (h | ⟨o, h⟩) | ⟨o, its, n, h1, h2, _⟩
    · exact .base (.lst h)
    · exact .base (.frz h)
    · exact .kList h1 h2
  unfold isTy at e
  split at e
  · cases hv
    cases e
    refine fin "NoneType" _ (by decide) (.base .non) ?_
    simp only [tyN, List.mem_cons, List.not_mem_nil, or_false] at ht
    rcases ht with rfl | rfl | rfl | rfl | rfl <;> rfl
  · cases hv
    cases e
    refine fin "bool" _ (by decide) (.base (.bl _)) ?_
    simp only [tyN, List.mem_cons, List.not_mem_nil, or_false] at ht
    rcases ht with rfl | rfl | rfl | rfl | rfl <;> rfl
  · cases hv
    cases e
    refine fin "int" _ (by decide) (.base (.int _)) ?_
    simp only [tyN, List.mem_cons, List.not_mem_nil, or_false] at ht
    rcases ht with rfl | rfl | rfl | rfl | rfl <;> rfl
  · cases hv
    cases e
    refine fin "str" _ (by decide) (.base (.str _)) ?_
    simp only [tyN, List.mem_cons, List.not_mem_nil, or_false] at ht
    rcases ht with rfl | rfl | rfl | rfl | rfl <;> rfl
  · cases e
    refine fin "tuple" _ (by decide) ?_ ?_
    · cases hv with
      | tup h _ _ _ => exact .fTuple h.choose_spec.1
      | tupK h _ => obtain ⟨o, its, n, h1, h2, _⟩ := h; exact .kTuple h1 h2
    · simp only [tyN, List.mem_cons, List.not_mem_nil, or_false] at ht
      rcases ht with rfl | rfl | rfl | rfl | rfl <;> rfl
  · rw [Option.map_eq_some_iff] at e
    obtain ⟨xs, e1, e2⟩ := e
    subst e2
    refine fin "list" _ (by decide) (hl hv e1) ?_
    simp only [tyN, List.mem_cons, List.not_mem_nil, or_false] at ht
    rcases ht with rfl | rfl | rfl | rfl | rfl <;> rfl
end
end Mp
end

section
/-! MiniPy: a def's body, as HandS reads it: expressions. -/
set_option linter.all false
set_option maxRecDepth 100000
namespace Mp
open PySem PySem.Spec PyProof.Rows L2
abbrev CXn : CXT := fun _ _ _ _ _ _ => False
def spF (K : PySem.W.Frag) (C : Cn) (ca : CA) (F : Or) (f : String) : Sp := fun vs H Q _ => ∃ ρ R M ds, MR K C.A ca ρ R M H ∧ DVs K ρ R H ds vs ∧ F f ds M (KQ K C.A ca ρ R H Q) (fun _ _ => False)
def bltN : List String := ["len", "tuple", "list", "sorted", "sum", "all", "abs", "int", "str", "min", "max", "dict", "repr", "range", "enumerate", "zip", "isinstance", "bool"]
structure FnG (C : Cn) (ca : CA) (F : Or) (k : Nat) (X : Cx) (f : String) : Prop where
  ex : ∃ (fa : Addr) (fd : FuncData) (ps : List Str), X.mg (so f) = some (.ref fa) ∧ PySem.W.keepIn X.K (.ref fa) = true ∧ Binds X.K fd ps [] ∧ FnOk X.prog X.w X.K X.mg X.base CXn k fa fd ps (spF X.K C ca F f)
structure Good (C : Cn) (G : Gs) (ca : CA) (F : Or) (k : Nat) (N : List Str) (sc : Scope) (X : Cx) : Prop where
  mono : MonoOr F
  hN : X.N = N
  nd : N.Nodup
  hsc : X.env.scope = sc
  fnk : sc.kind = .function
  calm : X.calm = true
  xe : X.xe = fun _ _ => False
  room : Room (k + 1) X.A
  blt : ∀ b ∈ bltN, X.mg (so b) = none
  con : ∀ y ∈ G.con, ∃ d v u, C.G y = some d ∧ X.mg (so y) = some u ∧ RelV v u ∧ nt d = true ∧ ∀ ρ R H, DV X.K ρ R H d v
  fns : ∀ f ∈ G.defs, FnG C ca F k X f
  cls : ∀ c, C.A c ≠ [] → Cls X.K (ca c) ∧ ∀ f ∈ C.A c, NoAttr X.K (ca c) (so f)
section
variable {K : PySem.W.Frag} {A : String → List String} {ca : CA} {ρ0 ρ ρ1 ρ2 R R1 : List Addr} {H0 H H1 H2 : Hp} {M : Me} {Q : VK} {X : Cx} {C : Cn} {F : Or} {G : Gs} {N : List Str} {sc : Scope} {k : Nat}
/-! ### slots -/
theorem SR.mono {σ : Sg} {τ : L2.St} (g : Grow ρ H ρ1 H1) (s : SR K ρ R H σ τ) : SR K ρ1 R H1 σ τ := ⟨s.len, fun i d e => let ⟨v, a, b, c⟩ := s.at_ i d e; ⟨v, a, b.mono g, c⟩⟩
theorem SR.more {σ : Sg} {τ : L2.St} {a : Addr} (h : H a = none) (s : SR K ρ R H σ τ) : SR K ρ (a :: R) H σ τ := ⟨s.len, fun i d e => let ⟨v, p, b, c⟩ := s.at_ i d e; ⟨v, p, b.more h, c⟩⟩
theorem get_sset : ∀ (σ : Sg) (i j : Nat) (d : D), get (sset σ i d) j = if j = i then (if i < σ.length then some d else none) else get σ j
  | [], i, j, d => by simp [sset, get]
  | x :: r, 0, 0, d => by simp [sset, get]
  | x :: r, 0, j + 1, d => by simp [sset, get]
  | x :: r, i + 1, 0, d => by simp [sset, get]
  | x :: r, i + 1, j + 1, d => by
    show get (sset r i d) j = _
    rw [get_sset r i j d]
    simp [get]
theorem len_sset : ∀ (σ : Sg) (i : Nat) (d : D), (sset σ i d).length = σ.length
  | [], _, _ => rfl
  | x :: r, 0, _ => rfl
  | x :: r, i + 1, d => by simp [sset, len_sset r i d]
theorem get_wipe1 : ∀ (σ : Sg) (i j : Nat), get (wipe1 σ i) j = if j = i then none else get σ j
  | [], i, j => by simp [wipe1, get]
  | x :: r, 0, 0 => by simp [wipe1, get]
  | x :: r, 0, j + 1 => by simp [wipe1, get]
  | x :: r, i + 1, 0 => by simp [wipe1, get]
  | x :: r, i + 1, j + 1 => by
    show get (wipe1 r i) j = _
    rw [get_wipe1 r i j]
    simp [get]
theorem len_wipe1 : ∀ (σ : Sg) (i : Nat), (wipe1 σ i).length = σ.length
  | [], _ => rfl
  | x :: r, 0 => rfl
  | x :: r, i + 1 => by simp [wipe1, len_wipe1 r i]
theorem SR.set {σ : Sg} {τ : L2.St} {i : Nat} {d : D} {v : V} (s : SR K ρ R H σ τ) (h : DV K ρ R H d v) (hn : nt d = true) : SR K ρ R H (sset σ i d) (τ.set i (some v)) := by
  refine ⟨by rw [len_sset, List.length_set]; exact s.len, fun j e hj => ?_⟩
  rw [get_sset] at hj
  by_cases z : j = i
  · subst z
    rw [if_pos rfl] at hj
    split at hj
    · rename_i hl
      cases hj
      refine ⟨v, ?_, h, hn⟩
      rw [List.getElem?_set_self (by rw [← s.len]; exact hl)]
    · cases hj
  · rw [if_neg z] at hj
    obtain ⟨w, e1, e2⟩ := s.at_ j e hj
    exact ⟨w, by rw [List.getElem?_set_ne (Ne.symm z)]; exact e1, e2⟩
theorem SR.wipe1 {σ : Sg} {τ : L2.St} {i : Nat} (s : SR K ρ R H σ τ) : SR K ρ R H (wipe1 σ i) (τ.set i none) := by
  refine ⟨by rw [len_wipe1, List.length_set]; exact s.len, fun j e hj => ?_⟩
  rw [get_wipe1] at hj
  by_cases z : j = i
  · rw [if_pos z] at hj; cases hj
  · rw [if_neg z] at hj
    obtain ⟨w, e1, e2⟩ := s.at_ j e hj
    exact ⟨w, by rw [List.getElem?_set_ne (Ne.symm z)]; exact e1, e2⟩
theorem SR.wipes {σ : Sg} {τ : L2.St} (s : SR K ρ R H σ τ) : ∀ vs : List Nat, SR K ρ R H (wipes σ vs) (wipe τ vs)
  | [] => s
  | v :: vs => (SR.wipes s vs).wipe1
/-! ### readings -/
def rE (X : Cx) (C : Cn) (ca : CA) (F : Or) (m : E) : TE := fun τ H Q => ∃ ρ R M σ, MR X.K C.A ca ρ R M H ∧ SR X.K ρ R H σ τ ∧ wE C F m σ M (KQ X.K C.A ca ρ R H Q) (fun _ _ => False)
abbrev BQ (K : PySem.W.Frag) (A : String → List String) (ca : CA) (ρ R : List Addr) (H : Hp) (Q : Bool → Hp → Prop) : Bool → Me → Prop := fun k M' => ∀ ρ' H', Grow ρ H ρ' H' → MR K A ca ρ' R M' H' → Q k H'
def rT (X : Cx) (C : Cn) (ca : CA) (F : Or) (m : E) : TT := fun τ H Q => ∃ ρ R M σ, MR X.K C.A ca ρ R M H ∧ SR X.K ρ R H σ τ ∧ wT C F m σ M (BQ X.K C.A ca ρ R H Q) (fun _ _ => False)
abbrev LQ (K : PySem.W.Frag) (A : String → List String) (ca : CA) (ρ R : List Addr) (H : Hp) (Q : List V → Hp → Prop) : List D → Me → Prop := fun ds M' => ∀ ρ' vs H', Grow ρ H ρ' H' → MR K A ca ρ' R M' H' → DVs K ρ' R H' ds vs → Q vs H'
def rEs (X : Cx) (C : Cn) (ca : CA) (F : Or) (m : Es) : TA := fun τ H Q => ∃ ρ R M σ, MR X.K C.A ca ρ R M H ∧ SR X.K ρ R H σ τ ∧ wEs C F m σ M (LQ X.K C.A ca ρ R H Q) (fun _ _ => False)
abbrev TQ (K : PySem.W.Frag) (A : String → List String) (ca : CA) (ρ R : List Addr) (H : Hp) (Q : List V → Hp → Prop) : List D → Me → Prop := fun ds M' => ∀ ρ' vs H', Grow ρ H ρ' H' → MR K A ca ρ' R M' H' → DTs K ρ' R H' ds vs → Q vs H'
def rEt (X : Cx) (C : Cn) (ca : CA) (F : Or) (m : Es) : TA := fun τ H Q => ∃ ρ R M σ, MR X.K C.A ca ρ R M H ∧ SR X.K ρ R H σ τ ∧ wEt C F m σ M (TQ X.K C.A ca ρ R H Q) (fun _ _ => False)
abbrev OQ (K : PySem.W.Frag) (A : String → List String) (ca : CA) (ρ R : List Addr) (H : Hp) (Q : Option Int → Hp → Prop) : Option Int → Me → Prop := fun o M' => ∀ ρ' H', Grow ρ H ρ' H' → MR K A ca ρ' R M' H' → Q o H'
def rO (X : Cx) (C : Cn) (ca : CA) (F : Or) (m : Oe) : TO := fun τ H Q => ∃ ρ R M σ, MR X.K C.A ca ρ R M H ∧ SR X.K ρ R H σ τ ∧ wO C F m σ M (OQ X.K C.A ca ρ R H Q) (fun _ _ => False)
theorem PE.imp {e : Expr} {t t' : TE} (h : PE X e t) (f : ∀ τ H Q, t' τ H Q → t τ H Q) : PE X e t' := ⟨fun pins s σ H Q I q => h.run pins s σ H Q I (f _ _ _ q)⟩
theorem PT.imp {e : Expr} {t t' : TT} (h : PT X e t) (f : ∀ τ H Q, t' τ H Q → t τ H Q) : PT X e t' := ⟨fun pins s σ H Q I q => h.run pins s σ H Q I (f _ _ _ q)⟩
theorem PW.imp {e : Expr} {t t' : TT} (h : PW X e t) (f : ∀ τ H Q, t' τ H Q → t τ H Q) : PW X e t' := ⟨fun wh pins s σ H Q I q => h.run wh pins s σ H Q I (f _ _ _ q)⟩
theorem PA.imp {es : List Expr} {t t' : TA} (h : PA X es t) (f : ∀ τ H Q, t' τ H Q → t τ H Q) : PA X es t' := ⟨fun pos pins s σ H Q I q => h.run pos pins s σ H Q I (f _ _ _ q)⟩
/-- any rule -/
abbrev uOp (X : Cx) (f : Value → Value → Sem Value) : R2 := fun x y H Q => ∃ r, OpR X f r ∧ r x y H Q
theorem uOp_ok {f : Value → Value → Sem Value} : OpR X f (uOp X f) := fun pins s σ H x y v u Q I rx ry ⟨r, h, q⟩ => h pins s σ H x y v u Q I rx ry q
abbrev uCall (X : Cx) (f : Value) : List V → Hp → VK → Prop := fun xs H Q => ∃ r, CallR X f r ∧ r xs H Q
theorem uCall_ok {f : Value} : CallR X f (uCall X f) := fun pins s σ H xs us Q I rs ⟨r, h, q⟩ => h pins s σ H xs us Q I rs q
abbrev uIx (X : Cx) : R2 := fun x y H Q => ∃ r, IxR X r ∧ r x y H Q
theorem uIx_ok : IxR X (uIx X) := fun va sl pins s σ H x y v u Q I rx ry ⟨r, h, q⟩ hs => h va sl pins s σ H x y v u Q I rx ry q hs
abbrev uSl (X : Cx) : V → Option Int → Option Int → Hp → VK → Prop := fun x l h H Q => ∃ r, SlR X r ∧ r x l h H Q
theorem uSl_ok : SlR X (uSl X) := fun pins s σ H x v vl vu lo hi sl Q I rx hs pl pu ⟨r, h, q⟩ => h pins s σ H x v vl vu lo hi sl Q I rx hs pl pu q
abbrev uMt (X : Cx) (id : String) : V → List V → Hp → VK → Prop := fun x xs H Q => ∃ r, MtR X id r ∧ r x xs H Q
theorem uMt_ok {id : String} : MtR X id (uMt X id) := fun pins s σ H x xs v us Q I rx rs ⟨r, h, q⟩ => h pins s σ H x xs v us Q I rx rs q
abbrev uSet (X : Cx) : TSet := fun o i v H Q => ∃ r, PSet X r ∧ r o i v H Q
theorem uSet_ok : PSet X (uSet X) := fun pins s σ H o i v ov iv u Q I ro ri rv ⟨r, h, q⟩ => h pins s σ H o i v ov iv u Q I ro ri rv q
/-- going on behind an expression -/
theorem rE_next (hF : MonoOr F) {m : E} {τ : L2.St} {σ : Sg} {Qd : QD} {Q' : VK} (mr : MR X.K C.A ca ρ R M H) (sr : SR X.K ρ R H σ τ) (w : wE C F m σ M Qd (fun _ _ => False))
    (f : ∀ x M1, Qd x M1 → ∀ ρ1 v1 H1, EvQ X.K C.A ca ρ R H ρ1 M1 H1 x v1 → Q' v1 H1) : rE X C ca F m τ H Q' :=
  ⟨ρ, R, M, σ, mr, sr, wE_mono hF m σ M (fun x M1 h1 ρ1 v1 H1 e => f x M1 h1 ρ1 v1 H1 e) (fun _ _ h => h) w⟩
theorem rEs_next (hF : MonoOr F) {m : Es} {τ : L2.St} {σ : Sg} {Qd : List D → Me → Prop} {Q' : List V → Hp → Prop} (mr : MR X.K C.A ca ρ R M H) (sr : SR X.K ρ R H σ τ) (w : wEs C F m σ M Qd (fun _ _ => False))
    (f : ∀ x M1, Qd x M1 → ∀ ρ1 v1 H1, Grow ρ H ρ1 H1 → MR X.K C.A ca ρ1 R M1 H1 → DVs X.K ρ1 R H1 x v1 → Q' v1 H1) : rEs X C ca F m τ H Q' :=
  ⟨ρ, R, M, σ, mr, sr, wEs_mono hF m σ M (fun x M1 h1 ρ1 v1 H1 a b c => f x M1 h1 ρ1 v1 H1 a b c) (fun _ _ h => h) w⟩
theorem rEt_next (hF : MonoOr F) {m : Es} {τ : L2.St} {σ : Sg} {Qd : List D → Me → Prop} {Q' : List V → Hp → Prop} (mr : MR X.K C.A ca ρ R M H) (sr : SR X.K ρ R H σ τ) (w : wEt C F m σ M Qd (fun _ _ => False))
    (f : ∀ x M1, Qd x M1 → ∀ ρ1 v1 H1, Grow ρ H ρ1 H1 → MR X.K C.A ca ρ1 R M1 H1 → DTs X.K ρ1 R H1 x v1 → Q' v1 H1) : rEt X C ca F m τ H Q' :=
  ⟨ρ, R, M, σ, mr, sr, wEt_mono hF m σ M (fun x M1 h1 ρ1 v1 H1 a b c => f x M1 h1 ρ1 v1 H1 a b c) (fun _ _ h => h) w⟩
theorem rO_next (hF : MonoOr F) {m : Oe} {τ : L2.St} {σ : Sg} {Qd : Option Int → Me → Prop} {Q' : Option Int → Hp → Prop} (mr : MR X.K C.A ca ρ R M H) (sr : SR X.K ρ R H σ τ) (w : wO C F m σ M Qd (fun _ _ => False))
    (f : ∀ x M1, Qd x M1 → ∀ ρ1 H1, Grow ρ H ρ1 H1 → MR X.K C.A ca ρ1 R M1 H1 → Q' x H1) : rO X C ca F m τ H Q' :=
  ⟨ρ, R, M, σ, mr, sr, wO_mono hF m σ M (fun x M1 h1 ρ1 H1 a b => f x M1 h1 ρ1 H1 a b) (fun _ _ h => h) w⟩
theorem rT_next (hF : MonoOr F) {m : E} {τ : L2.St} {σ : Sg} {Qd : Bool → Me → Prop} {Q' : Bool → Hp → Prop} (mr : MR X.K C.A ca ρ R M H) (sr : SR X.K ρ R H σ τ) (w : wT C F m σ M Qd (fun _ _ => False))
    (f : ∀ x M1, Qd x M1 → ∀ ρ1 H1, Grow ρ H ρ1 H1 → MR X.K C.A ca ρ1 R M1 H1 → Q' x H1) : rT X C ca F m τ H Q' :=
  ⟨ρ, R, M, σ, mr, sr, wT_mono hF m σ M (fun x M1 h1 ρ1 H1 a b => f x M1 h1 ρ1 H1 a b) (fun _ _ h => h) w⟩
/-! ### expressions -/
theorem KQ.step {d : D} {M' : Me} (g : Grow ρ0 H0 ρ H) (q : KQ K A ca ρ0 R H0 Q d M') (hn : ∀ b, H0 b = none → H b = none ∨ nt d = true → True) : True := trivial
theorem EvQ.from {ρ' : List Addr} {M' : Me} {H' : Hp} {d : D} {v : V} (g : Grow ρ0 H0 ρ H) (e : EvQ K A ca ρ R H ρ' M' H' d v) : EvQ K A ca ρ0 R H0 ρ' M' H' d v :=
  ⟨g.trans e.gr, e.mr, e.dv, fun xs ed a ea => let ⟨p, q⟩ := e.tl xs ed a ea; ⟨g.none_of p, q⟩⟩
theorem EvQ.at_ {ρ' : List Addr} {M' : Me} {H' : Hp} {d : D} {v : V} (e : EvQ K A ca ρ R H ρ' M' H' d v) : At K A ca ρ R H ρ' M' H' := ⟨e.gr, e.mr⟩
theorem re_bin (hF : MonoOr F) {o : BOp} {op : Operator} {a b : E} {l r : Expr} {p : Pos} (ho : chkBO o op = true) (ha : PE X l (rE X C ca F a)) (hb : PE X r (rE X C ca F b)) : PE X (.BinOp l op r p) (rE X C ca F (.bin o a b)) := by
  refine PE.imp (pe_op (uOp_ok (X := X) (f := binaryOp op)) ha hb) fun τ H Q ⟨ρ, R, M, σ, mr, sr, w⟩ => ?_
  exact rE_next hF mr sr w fun x M1 h1 ρ1 v1 H1 e1 => rE_next hF e1.mr (sr.mono e1.gr) h1 fun y M2 h2 ρ2 v2 H2 e2 =>
    bin_ok ho ⟨e1.gr.trans e2.gr, e2.mr⟩ (e1.dv.mono e2.gr) e2.dv h2
theorem re_cmp (hF : MonoOr F) (hu : X.A.units + 64 < cLine) {o : COp} {op : CmpOp} {a b : E} {l r : Expr} {p : Pos} (ho : chkCO o op = true) (hs : behindInMarks op r = false) (ha : PE X l (rE X C ca F a)) (hb : PE X r (rE X C ca F b)) : PE X (.Compare l [op] [r] p) (rE X C ca F (.cmp o a b)) := by
  refine PE.imp (pe_cmpR (uOp_ok (X := X) (f := compareOp op)) ha hb hs) fun τ H Q ⟨ρ, R, M, σ, mr, sr, w⟩ => ?_
  exact rE_next hF mr sr w fun x M1 h1 ρ1 v1 H1 e1 => rE_next hF e1.mr (sr.mono e1.gr) h1 fun y M2 h2 ρ2 v2 H2 e2 =>
    let ⟨k, ek, q⟩ := opt_ex h2
    cmp_ok ho hu e2.mr (e1.dv.mono e2.gr) e2.dv ek (At.same ⟨e1.gr.trans e2.gr, e2.mr⟩ (.bl k) rfl q)
theorem rt_cmp (hF : MonoOr F) (hu : X.A.units + 64 < cLine) {o : COp} {op : CmpOp} {a b : E} {l r : Expr} {p : Pos} (ho : chkCO o op = true) (hs : behindInMarks op r = false) (ha : PE X l (rE X C ca F a)) (hb : PE X r (rE X C ca F b)) : PT X (.Compare l [op] [r] p) (rT X C ca F (.cmp o a b)) := by
  refine PT.imp (pt_cmpR (uOp_ok (X := X) (f := compareOp op)) ha hb hs) fun τ H Q ⟨ρ, R, M, σ, mr, sr, w⟩ => ?_
  exact rE_next hF mr sr w fun x M1 h1 ρ1 v1 H1 e1 => rE_next hF e1.mr (sr.mono e1.gr) h1 fun y M2 h2 ρ2 v2 H2 e2 =>
    let ⟨k, ek, q⟩ := opt_ex h2
    cmp_ok ho hu e2.mr (e1.dv.mono e2.gr) e2.dv ek ⟨k, rfl, q ρ2 H2 (e1.gr.trans e2.gr) e2.mr⟩
theorem re_ch (hF : MonoOr F) (hu : X.A.units + 64 < cLine) {o o' : COp} {op op' : CmpOp} {a b c : E} {l m r : Expr} {p : Pos} (ho : chkCO o op = true) (ho' : chkCO o' op' = true) (hs : lastMarks [op, op'] [m, r] = false)
    (ha : PE X l (rE X C ca F a)) (hb : PE X m (rE X C ca F b)) (hc : PE X r (rE X C ca F c)) : PE X (.Compare l [op, op'] [m, r] p) (rE X C ca F (.ch o o' a b c)) := by
  refine PE.imp (pe_chain (uOp_ok (X := X) (f := compareOp op)) (uOp_ok (X := X) (f := compareOp op')) ha hb hc hs) fun τ H Q ⟨ρ, R, M, σ, mr, sr, w⟩ => ?_
  refine rE_next hF mr sr w fun x M1 h1 ρ1 v1 H1 e1 => rE_next hF e1.mr (sr.mono e1.gr) h1 fun y M2 h2 ρ2 v2 H2 e2 => ?_
  obtain ⟨k, ek, q⟩ := opt_ex h2
  have g2 := e1.gr.trans e2.gr
  refine cmp_ok ho hu e2.mr (e1.dv.mono e2.gr) e2.dv ek ⟨k, rfl, ?_⟩
  cases k with
  | false => exact At.same ⟨g2, e2.mr⟩ (.bl false) rfl q
  | true =>
    rw [if_pos rfl]
    exact rE_next hF e2.mr (sr.mono g2) q fun z M3 h3 ρ3 v3 H3 e3 =>
      let ⟨k, ek, q⟩ := opt_ex h3
      cmp_ok ho' hu e3.mr (e2.dv.mono e3.gr) e3.dv ek (At.same ⟨g2.trans e3.gr, e3.mr⟩ (.bl k) rfl q)
theorem rt_ch (hF : MonoOr F) (hu : X.A.units + 64 < cLine) {o o' : COp} {op op' : CmpOp} {a b c : E} {l m r : Expr} {p : Pos} (ho : chkCO o op = true) (ho' : chkCO o' op' = true) (hs : lastMarks [op, op'] [m, r] = false)
    (ha : PE X l (rE X C ca F a)) (hb : PE X m (rE X C ca F b)) (hc : PE X r (rE X C ca F c)) : PT X (.Compare l [op, op'] [m, r] p) (rT X C ca F (.ch o o' a b c)) := by
  refine PT.imp (pt_chain (uOp_ok (X := X) (f := compareOp op)) (uOp_ok (X := X) (f := compareOp op')) ha hb hc hs) fun τ H Q ⟨ρ, R, M, σ, mr, sr, w⟩ => ?_
  refine rE_next hF mr sr w fun x M1 h1 ρ1 v1 H1 e1 => rE_next hF e1.mr (sr.mono e1.gr) h1 fun y M2 h2 ρ2 v2 H2 e2 => ?_
  obtain ⟨k, ek, q⟩ := opt_ex h2
  have g2 := e1.gr.trans e2.gr
  refine cmp_ok ho hu e2.mr (e1.dv.mono e2.gr) e2.dv ek ⟨k, rfl, ?_⟩
  cases k with
  | false => exact ⟨false, rfl, q ρ2 H2 g2 e2.mr⟩
  | true =>
    rw [if_pos rfl]
    exact rE_next hF e2.mr (sr.mono g2) q fun z M3 h3 ρ3 v3 H3 e3 =>
      let ⟨k, ek, q⟩ := opt_ex h3
      cmp_ok ho' hu e3.mr (e2.dv.mono e3.gr) e3.dv ek ⟨k, rfl, q ρ3 H3 (g2.trans e3.gr) e3.mr⟩
theorem re_neg (hF : MonoOr F) {a : E} {x : Expr} {p : Pos} (ha : PE X x (rE X C ca F a)) : PE X (.UnaryOp .USub x p) (rE X C ca F (.neg a)) := by
  refine PE.imp (pe_un un_neg ha) fun τ H Q ⟨ρ, R, M, σ, mr, sr, w⟩ => ?_
  refine rE_next hF mr sr w fun x M1 h1 ρ1 v1 H1 e1 => ?_
  unfold negOf at h1
  split at h1
  · obtain rfl := e1.dv.int_inv
    exact ⟨_, rfl, e1.at_.same (.int _) rfl h1⟩
  · exact h1.elim
theorem re_and (hF : MonoOr F) {a b : E} {x y : Expr} {ys : List Expr} {p : Pos} (ha : PE X x (rE X C ca F a)) (hb : PE X (.BoolOp .And (y :: ys) p) (rE X C ca F b)) : PE X (.BoolOp .And (x :: y :: ys) p) (rE X C ca F (.and a b)) := by
  refine PE.imp (pe_andT ha hb) fun τ H Q ⟨ρ, R, M, σ, mr, sr, w⟩ => ?_
  refine rE_next hF mr sr w fun x M1 h1 ρ1 v1 H1 e1 => ?_
  obtain ⟨k, ek, q⟩ := opt_ex h1
  refine ⟨k, tru_V e1.mr e1.dv ek, ?_⟩
  cases k with
  | false => exact q ρ1 v1 H1 e1
  | true =>
    rw [if_pos rfl]
    exact rE_next hF e1.mr (sr.mono e1.gr) q fun y M2 h2 ρ2 v2 H2 e2 => h2 ρ2 v2 H2 (e2.from e1.gr)
theorem re_or (hF : MonoOr F) {a b : E} {x y : Expr} {ys : List Expr} {p : Pos} (ha : PE X x (rE X C ca F a)) (hb : PE X (.BoolOp .Or (y :: ys) p) (rE X C ca F b)) : PE X (.BoolOp .Or (x :: y :: ys) p) (rE X C ca F (.or a b)) := by
  refine PE.imp (pe_orT ha hb) fun τ H Q ⟨ρ, R, M, σ, mr, sr, w⟩ => ?_
  refine rE_next hF mr sr w fun x M1 h1 ρ1 v1 H1 e1 => ?_
  obtain ⟨k, ek, q⟩ := opt_ex h1
  refine ⟨k, tru_V e1.mr e1.dv ek, ?_⟩
  cases k with
  | true => exact q ρ1 v1 H1 e1
  | false =>
    rw [if_neg Bool.false_ne_true]
    exact rE_next hF e1.mr (sr.mono e1.gr) q fun y M2 h2 ρ2 v2 H2 e2 => h2 ρ2 v2 H2 (e2.from e1.gr)
theorem re_not (hF : MonoOr F) {a : E} {x : Expr} {p : Pos} (ha : PE X x (rE X C ca F a)) : PE X (.UnaryOp .Not x p) (rE X C ca F (.not a)) := by
  refine PE.imp (pe_notT ha) fun τ H Q ⟨ρ, R, M, σ, mr, sr, w⟩ => ?_
  refine rE_next hF mr sr w fun x M1 h1 ρ1 v1 H1 e1 => ?_
  obtain ⟨k, ek, q⟩ := opt_ex h1
  exact ⟨k, tru_V e1.mr e1.dv ek, e1.at_.same (.bl _) rfl q⟩
theorem re_ite (hF : MonoOr F) {t a b : E} {c x y : Expr} {p : Pos} (ht : PT X c (rT X C ca F t)) (ha : PE X x (rE X C ca F a)) (hb : PE X y (rE X C ca F b)) : PE X (.IfExp c x y p) (rE X C ca F (.ite t a b)) := by
  refine PE.imp (pe_ifExp ht ha hb) fun τ H Q ⟨ρ, R, M, σ, mr, sr, w⟩ => ?_
  refine rT_next hF mr sr w fun k M1 h1 ρ1 H1 g1 m1 => ?_
  cases k with
  | true =>
    rw [if_pos rfl]
    exact rE_next hF m1 (sr.mono g1) h1 fun y M2 h2 ρ2 v2 H2 e2 => h2 ρ2 v2 H2 (e2.from g1)
  | false =>
    rw [if_neg Bool.false_ne_true]
    exact rE_next hF m1 (sr.mono g1) h1 fun y M2 h2 ρ2 v2 H2 e2 => h2 ρ2 v2 H2 (e2.from g1)
theorem re_tup (hF : MonoOr F) {es : Es} {l : List Expr} {x1 : Nat} {p : Pos} (ha : PA X l (rEs X C ca F es)) : PE X (.Tuple l x1 p) (rE X C ca F (.tup es)) := by
  refine PE.imp (pe_tupF ha) fun τ H Q ⟨ρ, R, M, σ, mr, sr, w⟩ => ?_
  exact rEs_next hF mr sr w fun ds M1 h1 ρ1 vs H1 g1 m1 r1 => ⟨by rw [← r1.length, ← line_eq]; exact h1.1, At.tup ⟨g1, m1⟩ r1 h1.2⟩
theorem re_lst (hF : MonoOr F) {es : Es} {l : List Expr} {p : Pos} (ha : PA X l (rEs X C ca F es)) : PE X (.List l p) (rE X C ca F (.lst es)) := by
  refine PE.imp (pe_lst ha) fun τ H Q ⟨ρ, R, M, σ, mr, sr, w⟩ => ?_
  exact rEs_next hF mr sr w fun ds M1 h1 ρ1 vs H1 g1 m1 r1 => ⟨by rw [← r1.length, ← line_eq]; exact h1.1, fun q hq => At.list ⟨g1, m1⟩ hq r1 h1.2⟩
theorem re_ix (hF : MonoOr F) (hu : X.A.units + 64 < cLine) {a i : E} {x s : Expr} {p : Pos} (hs : PlainIx s) (ha : PE X x (rE X C ca F a)) (hb : PE X s (rE X C ca F i)) : PE X (.Subscript x s p) (rE X C ca F (.ix a i)) := by
  refine PE.imp (pe_ix (uIx_ok (X := X)) ha hb hs) fun τ H Q ⟨ρ, R, M, σ, mr, sr, w⟩ => ?_
  exact rE_next hF mr sr w fun x M1 h1 ρ1 v1 H1 e1 => rE_next hF e1.mr (sr.mono e1.gr) h1 fun y M2 h2 ρ2 v2 H2 e2 =>
    ix_ok hu ⟨e1.gr.trans e2.gr, e2.mr⟩ (e1.dv.mono e2.gr) e2.dv h2
theorem re_sl (hF : MonoOr F) {a : E} {lo hi : Oe} {x : Expr} {l u : Option Expr} {p p2 : Pos} (ha : PE X x (rE X C ca F a)) (hl : PO X l (rO X C ca F lo)) (hh : PO X u (rO X C ca F hi)) : PE X (.Subscript x (.Slice l u none p2) p) (rE X C ca F (.sl a lo hi)) := by
  refine PE.imp (pe_slice (uSl_ok (X := X)) ha hl hh) fun τ H Q ⟨ρ, R, M, σ, mr, sr, w⟩ => ?_
  exact rE_next hF mr sr w fun x M1 h1 ρ1 v1 H1 e1 => rO_next hF e1.mr (sr.mono e1.gr) h1 fun y M2 h2 ρ2 H2 g2 m2 =>
    rO_next hF m2 (sr.mono (e1.gr.trans g2)) h2 fun z M3 h3 ρ3 H3 g3 m3 => sl_ok ⟨(e1.gr.trans g2).trans g3, m3⟩ ((e1.dv.mono g2).mono g3) h3
theorem re_v {i : Nat} {x : Str} {p : Pos} (h : PE X (.Name x p) (tVar i)) : PE X (.Name x p) (rE X C ca F (.v i)) := by
  refine PE.imp h fun τ H Q ⟨ρ, R, M, σ, mr, sr, w⟩ => ?_
  obtain ⟨d, ed, q⟩ := opt_ex w
  obtain ⟨v, e1, e2, e3⟩ := sr.at_ i d ed
  exact ⟨v, e1, At.same ⟨.refl, mr⟩ e2 e3 q⟩
theorem re_con {e : Expr} {d : D} {v : V} (h : PE X e (tC v)) (hd : ∀ ρ R H, DV X.K ρ R H d v) (hn : nt d = true) : PE X e (rE X C ca F (.c d)) := by
  refine PE.imp h fun τ H Q ⟨ρ, R, M, σ, mr, sr, w⟩ => At.same ⟨.refl, mr⟩ (hd ρ R H) hn w
theorem re_g {e : Expr} {y : String} {d : D} {v : V} (h : PE X e (tC v)) (hg : C.G y = some d) (hd : ∀ ρ R H, DV X.K ρ R H d v) (hn : nt d = true) : PE X e (rE X C ca F (.g y)) := by
  refine PE.imp h fun τ H Q ⟨ρ, R, M, σ, mr, sr, w⟩ => ?_
  have w' : opt (C.G y) (fun d => KQ X.K C.A ca ρ R H Q d M) := w
  rw [hg] at w'
  exact At.same ⟨.refl, mr⟩ (hd ρ R H) hn w'
theorem al_strip (hF : MonoOr F) {m : E} {τ : L2.St} (h : rE X C ca F (.al m) τ H Q) : rE X C ca F m τ H Q := by
  obtain ⟨ρ, R, M, σ, mr, sr, w⟩ := h
  refine rE_next hF mr sr w fun x M1 h1 ρ1 v1 H1 e1 => ?_
  unfold alQ at h1
  split at h1
  · rename_i xs
    obtain ⟨a, ea⟩ : ∃ a, v1 = .ref a := by
      have := e1.dv
      cases this with
      | tl h _ _ _ => exact ⟨_, rfl⟩
    obtain ⟨p1, p2, vs, p3, p4⟩ := e1.tl xs rfl a ea
    subst ea
    have hn : a ∉ ρ1 := (p2.rs a List.mem_cons_self).1
    have hR : a ∉ R := e1.mr.rs a |> fun f z => by
      have := (mr.rs a z).2
      rw [p1] at this
      obtain ⟨o, ho⟩ := this
      cases ho
    refine h1 (ρ1 ++ [a]) (.ref a) H1 ⟨grow_al e1.gr p1, p2.al hR ⟨vs, p3, p4⟩, .ref ?_, fun xs e => nomatch e⟩
    rw [← e1.mr.len, List.getElem?_append_right (Nat.le_refl _)]
    simp
  · exact h1 ρ1 v1 H1 e1
theorem re_al (hF : MonoOr F) {m : E} {e : Expr} (h : PE X e (rE X C ca F m)) : PE X e (rE X C ca F (.al m)) := PE.imp h fun τ H Q => al_strip hF
/-! ### argument lists -/
theorem rs_nil : PA X [] (rEs X C ca F .nil) := PA.imp pa_nil fun τ H Q ⟨ρ, R, M, σ, mr, sr, w⟩ => w ρ [] H .refl mr .nil
theorem rs_cons (hF : MonoOr F) {e : E} {r : Es} {x : Expr} {xs : List Expr} (hs : starEach (x :: xs) X.env = (false, eval x X.env) :: starEach xs X.env) (h1 : PE X x (rE X C ca F e)) (h2 : PA X xs (rEs X C ca F r)) : PA X (x :: xs) (rEs X C ca F (.cons e r)) := by
  refine PA.imp (pa_cons h1 h2 hs) fun τ H Q ⟨ρ, R, M, σ, mr, sr, w⟩ => ?_
  exact rE_next hF mr sr w fun x M1 h1 ρ1 v1 H1 e1 => rEs_next hF e1.mr (sr.mono e1.gr) h1 fun ds M2 h2 ρ2 vs H2 g2 m2 r2 =>
    h2 ρ2 _ H2 (e1.gr.trans g2) m2 (.cons (e1.dv.frz.mono g2) (nt_frz _) r2)
theorem rt_nil : PA X [] (rEt X C ca F .nil) := PA.imp pa_nil fun τ H Q ⟨ρ, R, M, σ, mr, sr, w⟩ => w ρ [] H .refl mr .nil
theorem rt_cons (hF : MonoOr F) {e : E} {r : Es} {x : Expr} {xs : List Expr} (hs : starEach (x :: xs) X.env = (false, eval x X.env) :: starEach xs X.env) (h1 : PE X x (rE X C ca F e)) (h2 : PA X xs (rEt X C ca F r)) : PA X (x :: xs) (rEt X C ca F (.cons e r)) := by
  refine PA.imp (pa_cons h1 h2 hs) fun τ H Q ⟨ρ, R, M, σ, mr, sr, w⟩ => ?_
  exact rE_next hF mr sr w fun x M1 h1 ρ1 v1 H1 e1 => rEt_next hF e1.mr (sr.mono e1.gr) h1 fun ds M2 h2 ρ2 vs H2 g2 m2 r2 =>
    h2 ρ2 _ H2 (e1.gr.trans g2) m2 (.cons (e1.dv.mono g2) r2)
theorem ro_no : PO X none (rO X C ca F .no) := ⟨fun pins s σ H Q I ⟨ρ, R, M, σ', mr, sr, w⟩ => po_none.run pins s σ H Q I (w ρ H .refl mr)⟩
theorem ro_some (hF : MonoOr F) {m : E} {e : Expr} (h : PE X e (rE X C ca F m)) : PO X (some e) (rO X C ca F (.some m)) := ⟨fun pins s σ H Q I ⟨ρ, R, M, σ', mr, sr, w⟩ =>
  (po_some h).run pins s σ H Q I (rE_next hF mr sr w fun x M1 h1 ρ1 v1 H1 e1 => by
    obtain ⟨i, ei, q⟩ := opt_ex h1
    obtain rfl := inv_int ei
    obtain rfl := e1.dv.int_inv
    exact ⟨i, rfl, q ρ1 H1 e1.gr e1.mr⟩)⟩
end
end Mp
end

section
/-! MiniPy: calls, methods, fields, isinstance, dict displays. -/
set_option linter.all false
set_option maxRecDepth 100000
namespace Mp
open PySem PySem.Spec PyProof.Rows L2
section
variable {K : PySem.W.Frag} {A : String → List String} {ca : CA} {ρ0 ρ ρ1 ρ2 R R1 : List Addr} {H0 H H1 H2 : Hp} {M : Me} {Q : VK} {X : Cx} {C : Cn} {F : Or} {G : Gs} {N : List Str} {sc : Scope} {k : Nat}
/-! ### the text's shape -/
theorem star_cons {x : Expr} {xs : List Expr} {env : Env} (h : noStar x = true) : starEach (x :: xs) env = (false, eval x env) :: starEach xs env := by
  cases x <;> first
    | rfl
    | (exact Bool.noConfusion h)
theorem star_any {pos : Pos} {env : Env} : ∀ {xs : List Expr}, xs.all noStar = true → (backTo pos (starEach xs env)).any (·.1) = false
  | [], _ => rfl
  | x :: xs, h => by
    rw [List.all_cons, Bool.and_eq_true] at h
    rw [star_cons h.1]
    show (false || (backTo pos (starEach xs env)).any (·.1)) = false
    rw [star_any h.2]
    rfl
theorem star_all {pos : Pos} {env : Env} : ∀ {xs : List Expr}, xs.all noStar = true → (backTo pos (starEach xs env)).all (fun x => !x.1) = true
  | [], _ => rfl
  | x :: xs, h => by
    rw [List.all_cons, Bool.and_eq_true] at h
    rw [star_cons h.1]
    show (!false && (backTo pos (starEach xs env)).all (fun x => !x.1)) = true
    rw [star_all h.2]
    rfl
theorem plainIx_of {s : Expr} (h : noSl s = true) : PlainIx s := by
  intro o i
  cases s <;> first
    | rfl
    | (exact Bool.noConfusion h)
theorem marks_of {op : CmpOp} {e : Expr} (h : noSet e = true) : behindInMarks op e = false := by
  cases e <;> first
    | rfl
    | (exact Bool.noConfusion h)
theorem fold_of {e : Expr} {env : Env} (h : noSet e = true) : ∀ x, foldedSetIterable e env x = pure x := by
  intro x
  cases e <;> first
    | rfl
    | (exact Bool.noConfusion h)
theorem attr_base {o : Expr} {nm : Str} {env : Env} (h : noSup o = true) : attributeBase o nm env (eval o env) = eval o env := by
  unfold attributeBase
  split
  · exact Bool.noConfusion h
  · rfl
/-! ### calls -/
theorem re_call (g : Good C G ca F k N sc X) {f : String} {es : Es} {args : List Expr} {x : Str} {p pos : Pos} (hf : f ∈ G.defs) (hx : so f = x) (hg : Gl X x) (hdb : (x == ("__debug__" : Str)) = false) (hst : args.all noStar = true) (hz : args = [] → es = .nil)
    (ha : PA X args (rEs X C ca F es)) : PE X (.Call (.Name x p) args [] pos) (rE X C ca F (.call f es)) := by
  obtain ⟨fa, fd, ps, hm, hk, hb, fn⟩ := (g.fns f hf).ex
  rw [hx] at hm
  have key : ∀ τ H Q, rE X C ca F (.call f es) τ H Q → tCall (spF X.K C ca F f) [] (fun _ _ _ => False) (rEs X C ca F es) τ H Q := fun τ H Q ⟨ρ, R, M, σ, mr, sr, w⟩ =>
    rEs_next g.mono mr sr w fun ds M1 h1 ρ1 vs H1 g1 m1 r1 => by
      refine ⟨ρ1, R, M1, ds, m1, by rw [List.append_nil]; exact r1, g.mono _ _ _ _ _ _ _ (fun d M2 h2 ρ2 v2 H2 e2 => h2 ρ2 v2 H2 (e2.from g1)) (fun _ _ z => z) h1⟩
  cases args with
  | nil =>
    obtain rfl := hz rfl
    refine PE.imp (pe_call0 fn (g.room.mono (Nat.le_succ _)) hg hm hk hb .nil (E := fun _ _ _ => False) (fun _ _ _ _ _ _ _ z => z.elim) hdb) fun τ H Q h => ?_
    obtain ⟨ρ, R, M, σ, mr, sr, w⟩ := key τ H Q h
    exact w ρ [] H .refl mr .nil
  | cons e r =>
    rw [List.all_cons, Bool.and_eq_true] at hst
    exact PE.imp (pe_call fn (g.room.mono (Nat.le_succ _)) hg hm hk hb .nil (fun _ _ _ _ _ _ _ z => z.elim) ha hdb (star_cons hst.1) (star_any hst.2)) key
theorem boot_bi : ∀ f : Bi, biOk f = true → bootBuiltins (so (biName f)) = some (biVal f) ∧ (so (biName f)) ≠ "__name__" ∧ ((so (biName f)) == ("__debug__" : Str)) = false ∧ biName f ∈ bltN := by
  intro f h
  cases f <;> first
    | (exact Bool.noConfusion h)
    | (refine ⟨?_, ?_, ?_, ?_⟩ <;> decide +kernel)
theorem biVal_cases (f : Bi) (h : biOk f = true) : (∃ id, biVal f = .builtin id) ∨ ∃ T, biVal f = .type T := by
  cases f <;> first
    | (exact Bool.noConfusion h)
    | exact .inl ⟨_, rfl⟩
    | exact .inr ⟨_, rfl⟩
theorem re_bi (g : Good C G ca F k N sc X) {f : Bi} {es : Es} {args : List Expr} {x : Str} {p pos : Pos} (hf : biOk f = true) (hx : so (biName f) = x) (hg : Gl X x) (hst : args.all noStar = true) (hz : args ≠ [])
    (ha : PA X args (rEt X C ca F es)) : PE X (.Call (.Name x p) args [] pos) (rE X C ca F (.bi f es)) := by
  obtain ⟨b1, b2, b3, b4⟩ := boot_bi f hf
  have hm := g.blt _ b4
  rw [hx] at b1 b2 b3 hm
  have key : ∀ τ H Q, rE X C ca F (.bi f es) τ H Q → tCB (uCall X (biVal f)) (rEt X C ca F es) τ H Q := fun τ H Q ⟨ρ, R, M, σ, mr, sr, w⟩ =>
    rEt_next g.mono mr sr w fun ds M1 h1 ρ1 vs H1 g1 m1 r1 => bi_ok g.calm ⟨g1, m1⟩ r1 h1
  cases args with
  | nil => exact absurd rfl hz
  | cons e r =>
    rw [List.all_cons, Bool.and_eq_true] at hst
    rcases biVal_cases f hf with ⟨id, hv⟩ | ⟨T, hv⟩
    · rw [hv] at b1 key
      exact PE.imp (pe_callB (uCall_ok (X := X)) hg hm b1 ha b2 b3 (star_cons hst.1) (star_any hst.2)) key
    · rw [hv] at b1 key
      exact PE.imp (pe_callTy (uCall_ok (X := X)) hg hm b1 ha b2 b3 (star_cons hst.1) (star_any hst.2)) key
theorem re_mt (g : Good C G ca F k N sc X) (hu : X.A.units + 64 < cLine) {o : E} {m : Mt} {es : Es} {ob : Expr} {args : List Expr} {nm : Str} {apos cpos : Pos} (hm : so (mtName m) = nm) (hown : ∀ s, m ≠ .own s) (hsup : noSup ob = true) (hline : (apos.endLine == cpos.line) = true)
    (hlen : args.length < 20) (hst : args.all noStar = true) (hz : args = [] → es = .nil) (ho : PE X ob (rE X C ca F o)) (ha : PA X args (rEt X C ca F es)) : PE X (.Call (.Attribute ob nm apos) args [] cpos) (rE X C ca F (.mt o m es)) := by
  refine ⟨fun pins s τ H Q I ⟨ρ, R, M, σ, mr, sr, w⟩ => ?_⟩
  have w' : wE C F o σ M (fun x M1 => mtRc M1 m x = true ∧ wEt C F es σ M1 (fun ds M2 => opt (mtOf M2 m x ds) fun p => KQ X.K C.A ca ρ R H Q p.1 p.2) (fun _ _ => False)) (fun _ _ => False) := by
    cases m <;> first
      | exact w
      | exact absurd rfl (hown _)
  have h1 : rE X C ca F o τ H (fun v1 H1 => ∃ x M1 ρ1, EvQ X.K C.A ca ρ R H ρ1 M1 H1 x v1 ∧ mtRc M1 m x = true ∧ wEt C F es σ M1 (fun ds M2 => opt (mtOf M2 m x ds) fun p => KQ X.K C.A ca ρ R H Q p.1 p.2) (fun _ _ => False)) :=
    rE_next g.mono mr sr w' fun x M1 h1 ρ1 v1 H1 e1 => ⟨x, M1, ρ1, e1, h1⟩
  have hfew : ((backTo cpos (starEach args X.env)).all (fun x => !x.1) && (backToKw cpos (keywordEach [] X.env)).all (fun x => x.1.isSome) && decide (args.length + ([] : List Keyword).length + (if ([] : List Keyword).isEmpty then 0 else 1) < 30)) = true := by
    rw [star_all hst]
    show (true && true && decide (args.length + 0 + 0 < 30)) = true
    rw [decide_eq_true (by omega)]
    rfl
  refine wpAny_Call_method_late (attr_base hsup) hfew hline rfl (thn (ho.run pins s τ H _ I h1) fun v s1 ⟨x, H1, I1, r1, d, M1, ρ1, e1, hrc, q1⟩ => ?_)
  obtain ⟨f1, f2, f3⟩ := mt_facts hrc
  obtain ⟨t1, t2⟩ := tyV_is I1 r1 (mt_ty e1.mr e1.dv hrc)
  rw [hm] at f2
  refine ⟨(mtT m).1, (mtT m).2, f1, f2, f3, t1, t2, ?_⟩
  have hA : rEt X C ca F es τ H1 (fun vs H2 => uMt X (mtT m).2 x vs H2 Q) := rEt_next g.mono e1.mr (sr.mono e1.gr) q1 fun ds M2 h2 ρ2 vs H2 g2 m2 r2 =>
    mt_ok g.calm hu ⟨e1.gr.trans g2, m2⟩ (e1.dv.mono g2) r2 h2
  cases args with
  | nil =>
    obtain rfl := hz rfl
    obtain ⟨ρ, R, M, σ, mr, sr, w⟩ := hA
    exact Calls.callWith_builtin rfl (PySem.evalArgs_none (uMt_ok pins s1 τ H1 x [] v [] Q I1 r1 .nil (w ρ [] H1 .refl mr .nil)))
  | cons e r =>
    rw [List.all_cons, Bool.and_eq_true] at hst
    have hA := ha.run cpos pins s1 τ H1 _ I1 hA
    rw [star_cons hst.1] at hA ⊢
    refine Calls.callWith_builtin (by show (false || (backTo cpos (starEach r X.env)).any (·.1)) = false; rw [star_any hst.2] <;> rfl) (Calls.evalArgs_plain ?_)
    exact thn hA fun us s2 ⟨vs, H2, I2, r2, q2⟩ => uMt_ok pins s2 τ H2 x vs v us Q I2 r1 r2 q2
theorem re_fld (g : Good C G ca F k N sc X) {o : E} {f : String} {ob : Expr} {nm : Str} {pos : Pos} (hf : so f = nm) (hsup : noSup ob = true) (ho : PE X ob (rE X C ca F o)) : PE X (.Attribute ob nm pos) (rE X C ca F (.fld o f)) := by
  refine PE.imp (pe_fld ho (attr_base hsup)) fun τ H Q ⟨ρ, R, M, σ, mr, sr, w⟩ => ?_
  refine rE_next g.mono mr sr w fun x M1 h1 ρ1 v1 H1 e1 => ?_
  obtain ⟨p, ep, q⟩ := opt_bind h1
  obtain ⟨d, ed, q2⟩ := opt_ex q
  unfold insOf at ep
  split at ep
  · rename_i n
    rw [Option.map_eq_some_iff] at ep
    obtain ⟨p', ep, rfl⟩ := ep
    obtain ⟨a, dx, gs, rfl, hr, eH, rel⟩ := ins_at e1.mr ep e1.dv
    obtain ⟨v, ev, hv, hn, hA⟩ := fr_look rel ed
    obtain ⟨c1, c2⟩ := g.cls p'.1 (fun z => by rw [z] at hA; cases hA)
    rw [← hf]
    exact ⟨a, _, dx, gs, v, rfl, eH, c1, c2 f hA, ev, e1.at_.same hv hn q2⟩
  · cases ep
theorem re_isi (g : Good C G ca F k N sc X) {a : E} {t : String} {y : Expr} {x z : Str} {p pz pos : Pos} (hx : x = "isinstance") (hg : Gl X x) (hgz : Gl X z) (hz : so t = z) (ht : t ∈ tyN) (hs : noStar y = true) (hdb : (z == ("__debug__" : Str)) = false) (hn : z ≠ "__name__")
    (ha : PE X y (rE X C ca F a)) : PE X (.Call (.Name x p) [y, .Name z pz] [] pos) (rE X C ca F (.isi a [t])) := by
  have hb : ∀ t, t ∈ tyN → bootBuiltins (so t) = some (.type t) ∧ t ∈ bltN := by
    intro t ht
    simp only [tyN, List.mem_cons, List.not_mem_nil, or_false] at ht
    rcases ht with rfl | rfl | rfl | rfl | rfl <;> (constructor <;> decide +kernel)
  obtain ⟨b1, b2⟩ := hb t ht
  have hmz := g.blt t b2
  rw [hz] at b1 hmz
  have hm := g.blt "isinstance" (by decide)
  have hx' : so "isinstance" = x := hx.symm
  rw [hx'] at hm
  have pz' : PE X (.Name z pz) (tC (.ty t)) := pe_bltn hgz hmz b1 rfl hn hdb
  have pa : PA X [y, .Name z pz] (tCons (rE X C ca F a) (tCons (tC (.ty t)) tNil)) := pa_cons ha (pa_cons pz' pa_nil (by rfl)) (star_cons hs)
  have hd2 : (x == ("__debug__" : Str)) = false := by rw [hx]; decide +kernel
  have hn2 : x ≠ "__name__" := by rw [hx]; decide +kernel
  have hv2 : bootBuiltins x = some (.builtin "isinstance") := by rw [hx]; exact boot_isinstance
  refine PE.imp (pe_callB (uCall_ok (X := X)) hg hm hv2 pa hn2 hd2 (star_cons hs) (by rfl)) fun τ H Q ⟨ρ, R, M, σ, mr, sr, w⟩ => ?_
  refine rE_next g.mono mr sr w fun d M1 h1 ρ1 v1 H1 e1 => ?_
  obtain ⟨b, eb, q⟩ := opt_ex h1
  exact ⟨_, call_isi, isTy_ok e1.mr e1.dv ht eb (e1.at_.same (.bl b) rfl q)⟩
/-! ### dict displays -/
theorem upd_out {p a : Addr} {o : HO} (hp : p ∈ R) (hr : a ∉ R) : upd H p o a = H a := upd_ne (fun q => hr (by rw [q]; exact hp))
mutual
theorem DV.updR {p : Addr} {o : HO} (hp : p ∈ R) : ∀ {d : D} {v : V}, DV K ρ R H d v → DV K ρ R (upd H p o) d v
  | _, _, .non => .non
  | _, _, .bl b => .bl b
  | _, _, .int i => .int i
  | _, _, .str s => .str s
  | _, _, .tup h hn hr hs => .tup (by
      obtain ⟨o, e, z⟩ := h
      exact ⟨o, by rw [upd_out hp hr]; exact e, z⟩) hn hr (DVs.updR hp hs)
  | _, _, .tupK h hs => .tupK h (DVs.updR hp hs)
  | _, _, .fz h hn hr hs => .fz (by rw [upd_out hp hr]; exact h) hn hr (DVs.updR hp hs)
  | _, _, .tl h hn hr hs => .tl (by rw [upd_out hp hr]; exact h) hn hr (DVs.updR hp hs)
  | _, _, .ref h => .ref h
  | _, _, .scr h hn hr => .scr (by
      rcases h with h | ⟨o, h⟩
      · exact .inl (by rw [upd_out hp hr]; exact h)
      · exact .inr ⟨o, by rw [upd_out hp hr]; exact h⟩) hn hr
  | _, _, .scrK h => .scrK h
theorem DVs.updR {p : Addr} {o : HO} (hp : p ∈ R) : ∀ {d : List D} {v : List V}, DVs K ρ R H d v → DVs K ρ R (upd H p o) d v
  | _, _, .nil => .nil
  | _, _, .cons h n t => .cons (DV.updR hp h) n (DVs.updR hp t)
end
theorem MR.updR {p : Addr} {o : HO} (hp : p ∈ R) (m : MR K A ca ρ R M H) : MR K A ca ρ R M (upd H p o) := by
  refine ⟨m.len, m.nd, fun n c a e r => ?_, fun b hb => ⟨(m.rs b hb).1, ?_⟩⟩
  · have hne : a ≠ p := fun z => (m.rs p hp).1 (z ▸ List.mem_of_getElem? r)
    have h := m.cell n c a e r
    cases c with
    | lst ds =>
      obtain ⟨vs, h1, h2⟩ := h
      exact ⟨vs, by rw [upd_ne hne]; exact h1, h2.updR hp⟩
    | dic l =>
      obtain ⟨kvs, h1, h2⟩ := h
      exact ⟨kvs, by rw [upd_ne hne]; exact h1, Paired.mapP h2 fun x y z => ⟨z.1, z.2.1.updR hp, z.2.2⟩⟩
    | ins c fs =>
      obtain ⟨dx, gs, h1, h2⟩ := h
      exact ⟨dx, gs, by rw [upd_ne hne]; exact h1, Paired.mapP h2 fun x y z => ⟨z.1, z.2.1.updR hp, z.2.2⟩⟩
  · by_cases z : b = p
    · subst z; exact ⟨o, upd_same⟩
    · obtain ⟨o', e⟩ := (m.rs b hb).2
      exact ⟨o', by rw [upd_ne z]; exact e⟩
theorem grow_skip {p : Addr} {o o' : HO} (h : H p = none) (g : Grow ρ (upd H p o) ρ1 H1) : Grow ρ H ρ1 (upd H1 p o') := by
  obtain ⟨t, rfl, ht⟩ := g.pre
  refine ⟨⟨t, rfl, fun c hc => ?_⟩, fun b u e hb => ?_, fun b u e => ?_⟩
  · have := ht c hc
    unfold upd at this
    split at this
    · cases this
    · exact this
  · have hne := ne_of_none e h
    rw [upd_ne hne]
    exact g.keep b u (by rw [upd_ne hne]; exact e) hb
  · have hne := ne_of_none e h
    rw [upd_ne hne]
    exact g.dom b u (by rw [upd_ne hne]; exact e)
def eslen : Es → Nat
  | .nil => 0
  | .cons _ r => eslen r + 1
def vOf : D → V
  | .int i => .int i
  | .str s => .str (so s)
  | _ => .non
def trsOf (X : Cx) (C : Cn) (ca : CA) (F : Or) : List D → Es → List (TE × TE)
  | d :: ds, .cons e r => (tC (vOf d), rE X C ca F e) :: trsOf X C ca F ds r
  | _, _ => []
theorem key_vOf {d : D} (h : isKey d = true) : ∃ kk, DK d kk ∧ vOf d = kV kk := by
  cases d <;> first
    | (exact Bool.noConfusion h)
    | exact ⟨_, rfl, rfl⟩
theorem pairs_w (hF : MonoOr F) {τ : L2.St} {σ : Sg} : ∀ {ks : List D} {vs : Es} {ρ : List Addr} {M : Me} {H : Hp} {Qd : List D → Me → Prop} {Q' : List (V × V) → Hp → Prop}, ks.length = eslen vs → ks.all isKey = true → MR X.K C.A ca ρ R M H → SR X.K ρ R H σ τ → wEs C F vs σ M (fun vd M1 => ks.length = vd.length ∧ Qd vd M1) (fun _ _ => False) →
    (∀ vd M1, Qd vd M1 → ks.length = vd.length → ∀ ρ1 H1 (kvs : List (Key × V)), Grow ρ H ρ1 H1 → MR X.K C.A ca ρ1 R M1 H1 → KVR X.K ρ1 R H1 (ks.zip vd) kvs → Q' (kvs.map fun kv => (kV kv.1, kv.2)) H1) → tPairs (trsOf X C ca F ks vs) τ H Q'
  | [], .nil, ρ, M, H, Qd, Q', hl0, hk, mr, sr, w, f => by
    obtain ⟨w1, w2⟩ := w
    exact f [] M w2 rfl ρ H [] .refl mr .nil
  | [], .cons e r, ρ, M, H, Qd, Q', hl0, hk, mr, sr, w, f => by cases hl0
  | d :: ds, .nil, ρ, M, H, Qd, Q', hl0, hk, mr, sr, w, f => by
    obtain ⟨w1, w2⟩ := w
    cases w1
  | d :: ds, .cons e r, ρ, M, H, Qd, Q', hl0, hk, mr, sr, w, f => by
    rw [List.all_cons, Bool.and_eq_true] at hk
    obtain ⟨kk, hkk, hv⟩ := key_vOf hk.1
    show rE X C ca F e τ H _
    refine rE_next hF mr sr w fun x M1 h1 ρ1 v1 H1 e1 => ?_
    refine pairs_w hF (Qd := fun vd M2 => Qd (frz x :: vd) M2) (Nat.succ.inj hl0) hk.2 e1.mr (sr.mono e1.gr) (wEs_mono hF r σ M1 (fun vd M2 h2 => ⟨Nat.succ.inj h2.1, h2.2⟩) (fun _ _ z => z) h1) fun vd M2 h2 hl ρ2 H2 kvs g2 m2 r2 => ?_
    have := f (frz x :: vd) M2 h2 (by rw [List.length_cons, List.length_cons, hl]) ρ2 H2 ((kk, v1) :: kvs) (e1.gr.trans g2) m2 (.cons ⟨hkk, e1.dv.frz.mono g2, nt_frz _⟩ r2)
    rw [List.map_cons] at this
    rw [hv]
    exact this
theorem puts_zip (l : List (D × D)) (kvs : List (Key × V)) (h : KVR K ρ R H l kvs) : KVR K ρ R H (puts [] l) (mergeK [] kvs) := kv_puts h .nil
theorem re_dic (hF : MonoOr F) {ks : List D} {vs : Es} {kl : List (Option Expr)} {vl : List Expr} {pos : Pos} (hps : PPs X pos kl vl (trsOf X C ca F ks vs)) (hall : kl.all (·.isSome) = true) (hl : kl.length = vl.length) (hk : ks.all isKey = true) (hes : ks.length = eslen vs) (h15 : kl.length ≤ 15) (hkl : ks.length = kl.length) :
    PE X (.Dict kl vl pos) (rE X C ca F (.dic ks vs)) := by
  by_cases h0 : kl = []
  · subst h0
    have hk0 : ks = [] := List.eq_nil_of_length_eq_zero hkl
    subst hk0
    have hv0 : vl = [] := List.eq_nil_of_length_eq_zero hl.symm
    subst hv0
    cases vs with
    | nil =>
      refine PE.imp pe_dnewK fun τ H Q ⟨ρ, R, M, σ, mr, sr, w⟩ => fun p hp => ?_
      obtain ⟨_, w2⟩ := w
      exact At.dic ⟨.refl, mr⟩ hp .nil w2
    | cons _ _ => cases hes
  · refine PE.imp (pe_disp hps hall hl h0 h15) fun τ H Q ⟨ρ, R, M, σ, mr, sr, w⟩ => fun p hp => ?_
    have hpR := mr.freshR hp
    refine pairs_w hF (Qd := fun vd M1 => KQ X.K C.A ca ρ R H Q (.ref M1.length) (M1 ++ [MO.dic (puts [] (ks.zip vd))])) hes hk (mr.newR hp) ((sr.more hp).mono (grow_new hp)) (show wEs C F vs σ M (fun vd M1 => ks.length = vd.length ∧ KQ X.K C.A ca ρ R H Q (.ref M1.length) (M1 ++ [MO.dic (puts [] (ks.zip vd))])) (fun _ _ => False) from w) fun vd M1 h1 hlen ρ1 H1 kvs g1 m1 r1 => ?_
    have hp1 : p ∉ ρ1 := (m1.rs p List.mem_cons_self).1
    have hH1 : H1 p = some (.dK []) := g1.keep p _ upd_same (mr.fresh hp)
    refine ⟨hH1, kvs, rfl, ?_, ?_⟩
    · rw [← Paired.length r1, List.length_zip, ← hlen, Nat.min_self, hkl]
      exact h15
    · have g2 : Grow ρ H ρ1 (upd H1 p (.dK (mergeK [] kvs))) := grow_skip hp g1
      have m2 := m1.updR (o := .dK (mergeK [] kvs)) List.mem_cons_self
      have rel : KVR X.K ρ1 (p :: R) (upd H1 p (.dK (mergeK [] kvs))) (puts [] (ks.zip vd)) (mergeK [] kvs) := Paired.mapP (puts_zip _ _ r1) fun x y z => ⟨z.1, z.2.1.updR List.mem_cons_self, z.2.2⟩
      refine h1 (ρ1 ++ [p]) (.ref p) _ ⟨grow_al g2 hp, m2.al hpR ⟨_, upd_same, rel⟩, .ref ?_, fun xs e => nomatch e⟩
      rw [← m1.len, List.getElem?_append_right (Nat.le_refl _)]
      simp
end
end Mp
end

section
/-! MiniPy: targets, what loops walk. -/
set_option linter.all false
set_option maxRecDepth 100000
namespace Mp
open PySem PySem.Spec PyProof.Rows L2
section
variable {K : PySem.W.Frag} {A : String → List String} {ca : CA} {ρ0 ρ ρ1 ρ2 R R1 R' : List Addr} {H0 H H1 H2 H' : Hp} {M M' : Me} {Q : VK} {X : Cx} {C : Cn} {F : Or} {G : Gs} {N : List Str} {sc : Scope} {k : Nat}
/-! ### targets -/
def stV : L2.St → List Nat → List V → L2.St
  | τ, i :: is, v :: vs => stV (τ.set i (some v)) is vs
  | τ, _, _ => τ
theorem SR.sets : ∀ {is : List Nat} {ds : List D} {vs : List V} {σ σ' : Sg} {τ : L2.St}, SR K ρ R H σ τ → ssets σ is ds = some σ' → DVs K ρ R H ds vs → SR K ρ R H σ' (stV τ is vs) ∧ is.length = vs.length
  | [], _, _, _, _, _, s, e, .nil => by cases e; exact ⟨s, rfl⟩
  | [], _, _, _, _, _, s, e, .cons _ _ _ => by cases e
  | i :: is, _, _, _, _, _, s, e, .nil => by cases e
  | i :: is, _, _, _, _, _, s, e, .cons h n t => by
    obtain ⟨a, b⟩ := SR.sets (s.set h n) e t
    exact ⟨a, by rw [List.length_cons, List.length_cons, b]⟩
theorem PG.imp {e : Expr} {t t' : TG} (h : PG X e t) (f : ∀ v τ H Q, t' v τ H Q → t v τ H Q) : PG X e t' := ⟨fun pins s σ H v u Q I r q => h.run pins s σ H v u Q I r (f _ _ _ _ q)⟩
theorem PGs.imp {e : List Expr} {t t' : TGs} (h : PGs X e t) (f : ∀ v τ H Q, t' v τ H Q → t v τ H Q) : PGs X e t' := ⟨fun pins s σ H v u Q I r q => h.run pins s σ H v u Q I r (f _ _ _ _ q)⟩
def rG (K : PySem.W.Frag) : Tg → TG
  | .n i => fun v τ H Q => Q (τ.set i (some v)) H
  | .tu is => fun v τ H Q => ∃ a vs, v = .ref a ∧ (SqL K H a vs ∨ SqT K H a vs) ∧ is.length = vs.length ∧ Q (stV τ is vs) H
structure NmOk (fn : Str → Bool) (X : Cx) (N : List Str) (sc : Scope) : Prop where
  hN : X.N = N
  nd : N.Nodup
  hsc : X.env.scope = sc
  fn : ∀ x, fn x = true → X.fn x = true
theorem chkN_inv {fn : Str → Bool} {i : Nat} {e : Expr} (h : chkN N sc fn i e = true) : ∃ x p, e = .Name x p ∧ N[i]? = some x ∧ Loc sc x ∧ (fn x = true ∨ sc.names.lookup x = some .local) := by
  unfold chkN at h
  split at h
  · rename_i x p
    simp only [Bool.and_eq_true, decide_eq_true_eq, Bool.or_eq_true] at h
    obtain ⟨⟨h1, h2⟩, h3⟩ := h
    refine ⟨x, p, rfl, h1, ?_, ?_⟩
    · unfold loc at h2
      split at h2
      · exact .inl ‹_›
      · exact .inr ‹_›
      · cases h2
    · rcases h3 with h3 | h3
      · exact .inl h3
      · unfold locl at h3
        split at h3
        · exact .inr ‹_›
        · cases h3
  · cases h
theorem pgn_ok {fn : Str → Bool} (n : NmOk fn X N sc) {i : Nat} {e : Expr} (h : chkN N sc fn i e = true) : PG X e (gName i) := by
  obtain ⟨x, p, rfl, h1, h2, h3⟩ := chkN_inv h
  refine pg_name (by rw [n.hN]; exact n.nd) (by rw [n.hN]; exact h1) (by rw [n.hsc]; exact h2) ?_
  rw [n.hsc]
  exact h3.imp (n.fn x) id
theorem pgs_ok {fn : Str → Bool} (n : NmOk fn X N sc) : ∀ {is : List Nat} {es : List Expr}, chkNs N sc fn is es = true → PGs X es (fun vs τ H Q => is.length = vs.length ∧ Q (stV τ is vs) H) ∧ (assignEach es X.env).length = is.length ∧ (assignEach es X.env).findIdx? (·.1) = none
  | [], [], _ => ⟨PGs.imp pgs_nil fun vs τ H Q ⟨a, b⟩ => ⟨List.eq_nil_of_length_eq_zero a.symm, by cases vs <;> exact b⟩, rfl, rfl⟩
  | [], _ :: _, h => by cases h
  | _ :: _, [], h => by cases h
  | i :: is, e :: es, h => by
    have h' : (chkN N sc fn i e && chkNs N sc fn is es) = true := h
    rw [Bool.and_eq_true] at h'
    obtain ⟨p1, p2, p3⟩ := pgs_ok n h'.2
    obtain ⟨x, p, rfl, _⟩ := chkN_inv h'.1
    refine ⟨PGs.imp (pgs_cons (pgn_ok n h'.1) p1 rfl) fun vs τ H Q ⟨a, b⟩ => ?_, ?_, ?_⟩
    · cases vs with
      | nil => cases a
      | cons v vs => exact ⟨v, vs, rfl, Nat.succ.inj a, b⟩
    · show (assignEach es X.env).length + 1 = _
      rw [p2]; rfl
    · show ((false, assign (.Name x p) X.env) :: assignEach es X.env).findIdx? (·.1) = none
      rw [List.findIdx?_cons]
      simp only [Bool.false_eq_true, if_false, p3]
      rfl
theorem pg_ok {fn : Str → Bool} (n : NmOk fn X N sc) (hc : X.calm = true) {tg : Tg} {t : Expr} (h : chkT N sc fn tg t = true) : PG X t (rG X.K tg) := by
  cases tg with
  | n i => exact pgn_ok n (show chkN N sc fn i t = true from h)
  | tu is =>
    unfold chkT at h
    split at h
    · rename_i h0; cases h0
    · rename_i is' es kk p h0
      cases h0
      obtain ⟨p1, p2, p3⟩ := pgs_ok n h
      refine ⟨fun pins s σ H v u Q I r ⟨a, vs, e1, hq, hl, q⟩ => ?_⟩
      rcases hq with hq | hq
      · exact (pg_lst hc p1 p2 p3).run pins s σ H v u Q I r ⟨a, vs, e1, hq, hl.symm, hl, q⟩
      · exact (pg_tup hc p1 p2 p3).run pins s σ H v u Q I r ⟨a, vs, e1, hq, hl.symm, hl, q⟩
    · cases h
/-! ### what is walked -/
theorem pi_val {tg l : Expr} {tl : TE} (hl : PE X l tl) : PI X tg l (fun σ H R => tl σ H fun x H1 => (∃ a xs, x = .ref a ∧ SqL X.K H1 a xs ∧ R (Itl X.K a) H1) ∨ (∃ a xs, x = .ref a ∧ SqT X.K H1 a xs ∧ R (Itt X.K a) H1) ∨ ∃ z, x = .str z ∧ R (Its z) H1) := by
  refine ⟨fun pins s σ H R I h => ?_⟩
  refine thn (hl.run pins s σ H _ I h) fun v s1 ⟨x, H1, I1, r1, q1⟩ => ?_
  rcases q1 with ⟨a, xs, e, hq, q⟩ | ⟨a, xs, e, hq, q⟩ | ⟨z, e, q⟩
  · subst e
    cases r1
    obtain ⟨its, rv, p, hz⟩ := I1.list hq
    refine wpAny_pyIter_list p.isList ?_
    refine ⟨s1.heap.objs.size, [s1.heap.objs.size], _, _, H1, rfl, I1.kept (t' := s1.toks) fun b o e => Heap.get?_push_of_some _ e, turn_list a _, ⟨_, Heap.get?_push_size _ rfl, rfl, rfl⟩, fun b hb => ?_, q⟩
    have e : b = s1.heap.objs.size := by simpa using hb
    subst e
    exact I1.fpOk (Nat.le_refl _) (I1.hok.fresh (Nat.le_refl _))
  · subst e
    cases r1
    obtain ⟨its, rv, p, hz⟩ := I1.tuple hq
    refine wpAny_pyIter_tuple (show s1.heap.IsTuple a its.toArray from p) ?_
    refine ⟨s1.heap.objs.size, [s1.heap.objs.size], _, _, H1, rfl, I1.kept (t' := s1.toks) fun b o e => Heap.get?_push_of_some _ e, turn_tuple a _, ⟨_, Heap.get?_push_size _ rfl, rfl, rfl⟩, fun b hb => ?_, q⟩
    have e : b = s1.heap.objs.size := by simpa using hb
    subst e
    exact I1.fpOk (Nat.le_refl _) (I1.hok.fresh (Nat.le_refl _))
  · subst e
    obtain ⟨t, rfl⟩ := r1
    cases ha : z.cps.all (· < 128)
    · exact wpAny_pyIter_wide ha (pi_one (tk := s1.toks) I1 _ (turn_str _ z t "str_iterator" (.inr rfl)) ⟨_, Heap.get?_push_size _ rfl, rfl, rfl⟩ q)
    · exact wpAny_pyIter_ascii ha (pi_one (tk := s1.toks) I1 _ (turn_str _ z t "str_ascii_iterator" (.inl rfl)) ⟨_, Heap.get?_push_size _ rfl, rfl, rfl⟩ q)
/-- excluded addresses, perhaps one more, new -/
def OneR (H : Hp) (R R' : List Addr) : Prop := R' = R ∨ ∃ p, R' = p :: R ∧ H p = none
theorem DV.oneR {d : D} {v : V} (o : OneR H R R') (h : DV K ρ R H d v) : DV K ρ R' H d v := by
  rcases o with rfl | ⟨p, rfl, hp⟩
  · exact h
  · exact h.more hp
theorem DVs.oneR {d : List D} {v : List V} (o : OneR H R R') (h : DVs K ρ R H d v) : DVs K ρ R' H d v := by
  rcases o with rfl | ⟨p, rfl, hp⟩
  · exact h
  · exact h.more hp
/-- an item as it is handed out: data, or a new pair of data -/
def IV (K : PySem.W.Frag) (ρ R : List Addr) (H : Hp) (pr : Bool) (d : D) (x : V) : Prop := match pr with
  | false => DV K ρ R H d x ∧ nt d = true
  | true => ∃ a vs ds, d = .tup ds ∧ x = .ref a ∧ SqT K H a vs ∧ DVs K ρ R H ds vs
def ItW (K : PySem.W.Frag) (A : String → List String) (ca : CA) (J : L2.It) (I : It) (ρ R : List Addr) (H : Hp) (pr : Bool) : Prop :=
  ∀ ρ' R' M' H', Grow ρ H ρ' H' → OneR H R R' → MR K A ca ρ' R' M' H' → I.ok M' →
    (∀ i d, I.xs[i]? = some d → J.go i H' ∧ ∀ x H'', J.yld i H' x H'' → Grow ρ' H' ρ' H'' ∧ MR K A ca ρ' R' M' H'' ∧ IV K ρ' R' H'' pr d x) ∧ J.stop I.xs.length H'
/-- a list or a tuple, later -/
theorem seq_later (m : MR K A ca ρ R M H) {d : D} {v : V} {I : It} (h : DV K ρ R H d v) (e : itOf M d = some I) (hs : ∀ s, d ≠ .str s) :
    (∃ a, v = .ref a ∧ ∀ ρ' R' M' H', Grow ρ H ρ' H' → OneR H R R' → MR K A ca ρ' R' M' H' → I.ok M' → ∃ vs, SqL K H' a vs ∧ DVs K ρ' R' H' I.xs vs) ∨
    (∃ a, v = .ref a ∧ ∀ ρ' R' M' H', Grow ρ H ρ' H' → OneR H R R' → MR K A ca ρ' R' M' H' → I.ok M' → ∃ vs, SqT K H' a vs ∧ DVs K ρ' R' H' I.xs vs) := by
  cases h with
  | tup h1 h2 h3 h4 => cases e; exact .inr ⟨_, rfl, fun ρ' R' M' H' g o m' ok => ⟨_, .inl (g.tp h1 h2).1.rd, (h4.oneR o).mono g⟩⟩
  | tupK h1 h4 => cases e; exact .inr ⟨_, rfl, fun ρ' R' M' H' g o m' ok => ⟨_, h1.sq, (h4.oneR o).mono g⟩⟩
  | fz h1 h2 h3 h4 => cases e; exact .inl ⟨_, rfl, fun ρ' R' M' H' g o m' ok => ⟨_, .of (g.keep _ _ h1 h2), (h4.oneR o).mono g⟩⟩
  | tl h1 h2 h3 h4 => cases e; exact .inl ⟨_, rfl, fun ρ' R' M' H' g o m' ok => ⟨_, .of (g.keep _ _ h1 h2), (h4.oneR o).mono g⟩⟩
  | scr h1 h2 h3 => cases e; exact .inl ⟨_, rfl, fun ρ' R' M' H' g o m' ok => ⟨_, .inl (g.rd h1 h2).1, DVs.intS _⟩⟩
  | scrK h1 => cases e; exact .inl ⟨_, rfl, fun ρ' R' M' H' g o m' ok => ⟨_, .inr h1, DVs.intS _⟩⟩
  | @ref n a hr =>
    unfold itOf at e
    obtain ⟨xs, e1, rfl⟩ := Option.map_eq_some_iff.mp e
    refine .inl ⟨a, rfl, fun ρ' R' M' H' g o m' ok => ?_⟩
    have hr' : ρ'[n]? = some a := by
      obtain ⟨t, rfl, _⟩ := g.pre
      rw [List.getElem?_append_left (List.getElem?_eq_some_iff.mp hr).1]
      exact hr
    obtain ⟨vs, h1, h2⟩ := m'.cell n _ a ok hr'
    exact ⟨vs, .of h1, h2⟩
  | str s => exact absurd rfl (hs s)
  | _ => cases e
theorem itw_list {a : Addr} {I : It} (h : ∀ ρ' R' M' H', Grow ρ H ρ' H' → OneR H R R' → MR K A ca ρ' R' M' H' → I.ok M' → ∃ vs, SqL K H' a vs ∧ DVs K ρ' R' H' I.xs vs) : ItW K A ca (Itl K a) I ρ R H false := fun ρ' R' M' H' g o m ok => by
  obtain ⟨vs, hq, hs⟩ := h ρ' R' M' H' g o m ok
  refine ⟨fun i d e => ?_, vs, hq, by rw [hs.length]; exact Nat.le_refl _⟩
  obtain ⟨v, e1, e2, e3⟩ := hs.get e
  refine ⟨⟨vs, v, hq, e1⟩, fun x H'' ⟨y1, y2⟩ => ?_⟩
  subst y1
  have := y2 vs hq
  rw [e1] at this; cases this
  exact ⟨.refl, m, e2, e3⟩
theorem itw_tup {a : Addr} {I : It} (h : ∀ ρ' R' M' H', Grow ρ H ρ' H' → OneR H R R' → MR K A ca ρ' R' M' H' → I.ok M' → ∃ vs, SqT K H' a vs ∧ DVs K ρ' R' H' I.xs vs) : ItW K A ca (Itt K a) I ρ R H false := fun ρ' R' M' H' g o m ok => by
  obtain ⟨vs, hq, hs⟩ := h ρ' R' M' H' g o m ok
  refine ⟨fun i d e => ?_, vs, hq, by rw [hs.length]; exact Nat.le_refl _⟩
  obtain ⟨v, e1, e2, e3⟩ := hs.get e
  refine ⟨⟨vs, v, hq, e1⟩, fun x H'' ⟨y1, y2⟩ => ?_⟩
  subst y1
  have := y2 vs hq
  rw [e1] at this; cases this
  exact ⟨.refl, m, e2, e3⟩
theorem itw_str (s : String) : ItW K A ca (Its (so s)) ⟨s.toList.map fun c => .str (String.singleton c), none⟩ ρ R H false := fun ρ' R' M' H' g o m ok => by
  have hsz : (so s).cps.size = s.toList.length := by
    have := so_len s
    rw [← String.length_toList] at this
    exact this
  refine ⟨fun i d e => ?_, ?_⟩
  · rw [List.getElem?_map, Option.map_eq_some_iff] at e
    obtain ⟨c, e1, rfl⟩ := e
    have hi := (List.getElem?_eq_some_iff.mp e1).1
    refine ⟨show i < (so s).cps.size by rw [hsz]; exact hi, fun x H'' ⟨y1, c', y2, y3⟩ => ?_⟩
    subst y1 y3
    refine ⟨.refl, m, ?_, rfl⟩
    rw [← Array.getElem?_toList, so_list, List.getElem?_map, e1] at y2
    cases y2
    rw [← so_one]
    exact .str _
  · show (so s).cps.size ≤ (s.toList.map _).length
    rw [List.length_map, hsz]
    exact Nat.le_refl _
theorem itw_rng {lo : Int} {n : Nat} {xs : List D} (hx : xs = (List.range n).map fun (k : Nat) => .int (lo + k)) : ItW K A ca (Itr lo n) ⟨xs, none⟩ ρ R H false := fun ρ' R' M' H' g o m ok => by
  subst hx
  refine ⟨fun i d e => ?_, ?_⟩
  · rw [List.getElem?_map, Option.map_eq_some_iff] at e
    obtain ⟨j, e1, rfl⟩ := e
    obtain ⟨hi, e2⟩ := List.getElem?_eq_some_iff.mp e1
    rw [List.length_range] at hi
    rw [List.getElem_range] at e2
    subst e2
    refine ⟨hi, fun x H'' ⟨y1, y2⟩ => ?_⟩
    subst y1 y2
    exact ⟨.refl, m, .int _, rfl⟩
  · show n ≤ ((List.range n).map _).length
    rw [List.length_map, List.length_range]
    exact Nat.le_refl _
theorem enumL_get : ∀ (xs : List D) (k : Int) (i : Nat) (d : D), (enumL k xs)[i]? = some d → ∃ x, xs[i]? = some x ∧ d = .tup [.int (k + i), x]
  | [], k, i, d, h => by simp [enumL] at h
  | x :: r, k, 0, d, h => by
    simp [enumL] at h
    exact ⟨x, rfl, by rw [← h]; simp⟩
  | x :: r, k, i + 1, d, h => by
    simp only [enumL, List.getElem?_cons_succ] at h
    obtain ⟨y, e1, e2⟩ := enumL_get r (k + 1) i d h
    refine ⟨y, by simpa using e1, ?_⟩
    rw [e2]
    have : k + 1 + (i : Int) = k + ((i + 1 : Nat) : Int) := by omega
    rw [this]
theorem enumL_len : ∀ (xs : List D) (k : Int), (enumL k xs).length = xs.length
  | [], _ => rfl
  | x :: r, k => by simp [enumL, enumL_len r (k + 1)]
theorem pair_new (m : MR K A ca ρ R M H) {T : Addr} {i : D} {iv : V} {d : D} {x : V} (hT : H T = none) (hi : DV K ρ R H i iv) (ni : nt i = true) (hd : DV K ρ R H d x) (hn : nt d = true) :
    Grow ρ H ρ (upd H T (.tup [iv, x])) ∧ MR K A ca ρ R M (upd H T (.tup [iv, x])) ∧ IV K ρ R (upd H T (.tup [iv, x])) true (.tup [i, d]) (.ref T) :=
  ⟨grow_new hT, m.new hT, T, [iv, x], [i, d], rfl, rfl, .of upd_same, .cons (hi.mono (grow_new hT)) ni (.cons (hd.mono (grow_new hT)) hn .nil)⟩
theorem itw_enum {a : Addr} {ds : List D} (h : ∀ ρ' R' M' H', Grow ρ H ρ' H' → OneR H R R' → MR K A ca ρ' R' M' H' → ∃ vs, SqL K H' a vs ∧ DVs K ρ' R' H' ds vs) : ItW K A ca (Ite K a) ⟨enumL 0 ds, none⟩ ρ R H true := fun ρ' R' M' H' g o m ok => by
  obtain ⟨vs, hq, hs⟩ := h ρ' R' M' H' g o m
  refine ⟨fun i d e => ?_, vs, hq, by rw [enumL_len, hs.length]; exact Nat.le_refl _⟩
  obtain ⟨y, e1, rfl⟩ := enumL_get ds 0 i d e
  obtain ⟨v, e2, e3, e4⟩ := hs.get e1
  refine ⟨⟨vs, v, hq, e2⟩, fun x H'' ⟨T, x', y1, y2, y3, y4⟩ => ?_⟩
  subst y1 y3
  have := y4 vs hq
  rw [e2] at this; cases this
  have z : (0 : Int) + (i : Int) = ((i : Nat) : Int) := by omega
  rw [z]
  exact pair_new m y2 (.int _) rfl e3 e4
theorem itw_enumT {a : Addr} {ds : List D} (h : ∀ ρ' R' M' H', Grow ρ H ρ' H' → OneR H R R' → MR K A ca ρ' R' M' H' → ∃ vs, SqT K H' a vs ∧ DVs K ρ' R' H' ds vs) : ItW K A ca (IteT K a) ⟨enumL 0 ds, none⟩ ρ R H true := fun ρ' R' M' H' g o m ok => by
  obtain ⟨vs, hq, hs⟩ := h ρ' R' M' H' g o m
  refine ⟨fun i d e => ?_, vs, hq, by rw [enumL_len, hs.length]⟩
  obtain ⟨y, e1, rfl⟩ := enumL_get ds 0 i d e
  obtain ⟨v, e2, e3, e4⟩ := hs.get e1
  refine ⟨⟨vs, v, hq, e2⟩, fun x H'' ⟨T, x', y1, y2, y3, y4⟩ => ?_⟩
  subst y1 y3
  have := y4 vs hq
  rw [e2] at this; cases this
  have z : (0 : Int) + (i : Int) = ((i : Nat) : Int) := by omega
  rw [z]
  exact pair_new m y2 (.int _) rfl e3 e4
theorem zipL_get : ∀ (xs ys : List D) (i : Nat) (d : D), (zipL xs ys)[i]? = some d → ∃ x y, xs[i]? = some x ∧ ys[i]? = some y ∧ d = .tup [x, y]
  | [], _, i, d, h => by simp [zipL] at h
  | _ :: _, [], i, d, h => by simp [zipL] at h
  | x :: r, y :: s, 0, d, h => by
    simp [zipL] at h
    exact ⟨x, y, rfl, rfl, h.symm⟩
  | x :: r, y :: s, i + 1, d, h => by
    simp only [zipL, List.getElem?_cons_succ] at h
    obtain ⟨a, b, e1, e2, e3⟩ := zipL_get r s i d h
    exact ⟨a, b, by simpa using e1, by simpa using e2, e3⟩
theorem zipL_len : ∀ (xs ys : List D), xs.length ≤ (zipL xs ys).length ∨ ys.length ≤ (zipL xs ys).length
  | [], _ => .inl (Nat.zero_le _)
  | _ :: _, [] => .inr (Nat.zero_le _)
  | x :: r, y :: s => by
    rcases zipL_len r s with h | h
    · exact .inl (by simp [zipL]; exact h)
    · exact .inr (by simp [zipL]; exact h)
theorem itw_zip {a b : Addr} {ds es : List D} (h : ∀ ρ' R' M' H', Grow ρ H ρ' H' → OneR H R R' → MR K A ca ρ' R' M' H' → ∃ vs ws, (SqL K H' a vs ∧ DVs K ρ' R' H' ds vs) ∧ SqL K H' b ws ∧ DVs K ρ' R' H' es ws) : ItW K A ca (Itz K a b) ⟨zipL ds es, none⟩ ρ R H true := fun ρ' R' M' H' g o m ok => by
  obtain ⟨vs, ws, ⟨hq, hs⟩, hq2, hs2⟩ := h ρ' R' M' H' g o m
  refine ⟨fun i d e => ?_, vs, ws, hq, hq2, by rw [← hs.length, ← hs2.length]; exact zipL_len ds es⟩
  obtain ⟨x, y, e1, e2, rfl⟩ := zipL_get ds es i d e
  obtain ⟨v, f1, f2, f3⟩ := hs.get e1
  obtain ⟨w, g1, g2, g3⟩ := hs2.get e2
  refine ⟨⟨vs, ws, v, w, hq, hq2, f1, g1⟩, fun x H'' ⟨T, x', y', z1, z2, z3, z4, z5⟩ => ?_⟩
  subst z1 z3
  have t1 := z4 vs hq
  have t2 := z5 ws hq2
  rw [f1] at t1; cases t1
  rw [g1] at t2; cases t2
  exact pair_new m z2 f2 f3 g2 g3
theorem itw_zipT {a b : Addr} {ds es : List D} (h : ∀ ρ' R' M' H', Grow ρ H ρ' H' → OneR H R R' → MR K A ca ρ' R' M' H' → ∃ vs ws, (SqT K H' a vs ∧ DVs K ρ' R' H' ds vs) ∧ SqT K H' b ws ∧ DVs K ρ' R' H' es ws) : ItW K A ca (RZ.ItzT K a b) ⟨zipL ds es, none⟩ ρ R H true := fun ρ' R' M' H' g o m ok => by
  obtain ⟨vs, ws, ⟨hq, hs⟩, hq2, hs2⟩ := h ρ' R' M' H' g o m
  refine ⟨fun i d e => ?_, vs, ws, hq, hq2, by rw [← hs.length, ← hs2.length]; exact zipL_len ds es⟩
  obtain ⟨x, y, e1, e2, rfl⟩ := zipL_get ds es i d e
  obtain ⟨v, f1, f2, f3⟩ := hs.get e1
  obtain ⟨w, g1, g2, g3⟩ := hs2.get e2
  refine ⟨⟨vs, ws, v, w, hq, hq2, f1, g1⟩, fun x H'' ⟨T, x', y', z1, z2, z3, z4, z5⟩ => ?_⟩
  subst z1 z3
  have t1 := z4 vs hq
  have t2 := z5 ws hq2
  rw [f1] at t1; cases t1
  rw [g1] at t2; cases t2
  exact pair_new m z2 f2 f3 g2 g3
/-- a list or a tuple that nobody changes, later -/
theorem still_later {d : D} {v : V} {p : Bool × List D} (h : DV K ρ R H d v) (e : still d = some p) : ∃ a, v = .ref a ∧
    ((p.1 = true ∧ ∀ ρ' R' H', Grow ρ H ρ' H' → OneR H R R' → ∃ vs, SqT K H' a vs ∧ DVs K ρ' R' H' p.2 vs) ∨ (p.1 = false ∧ ∀ ρ' R' H', Grow ρ H ρ' H' → OneR H R R' → ∃ vs, SqL K H' a vs ∧ DVs K ρ' R' H' p.2 vs)) := by
  cases h with
  | tup h1 h2 h3 h4 => cases e; exact ⟨_, rfl, .inl ⟨rfl, fun ρ' R' H' g o => ⟨_, .inl (g.tp h1 h2).1.rd, (h4.oneR o).mono g⟩⟩⟩
  | tupK h1 h4 => cases e; exact ⟨_, rfl, .inl ⟨rfl, fun ρ' R' H' g o => ⟨_, h1.sq, (h4.oneR o).mono g⟩⟩⟩
  | fz h1 h2 h3 h4 => cases e; exact ⟨_, rfl, .inr ⟨rfl, fun ρ' R' H' g o => ⟨_, .of (g.keep _ _ h1 h2), (h4.oneR o).mono g⟩⟩⟩
  | tl h1 h2 h3 h4 => cases e; exact ⟨_, rfl, .inr ⟨rfl, fun ρ' R' H' g o => ⟨_, .of (g.keep _ _ h1 h2), (h4.oneR o).mono g⟩⟩⟩
  | _ => cases e
def prI : Ie → Bool
  | .enum _ => true
  | .zip _ _ => true
  | _ => false
def rI (X : Cx) (C : Cn) (ca : CA) (F : Or) (m : Ie) : TI := fun τ H Rq => ∃ ρ R M σ, MR X.K C.A ca ρ R M H ∧ SR X.K ρ R H σ τ ∧ wI C F m σ M (fun I M1 => ∀ ρ' J H', Grow ρ H ρ' H' → MR X.K C.A ca ρ' R M1 H' → ItW X.K C.A ca J I ρ' R H' (prI m) → Rq J H') (fun _ _ => False)
theorem PI.imp {t e : Expr} {w w' : TI} (h : PI X t e w) (f : ∀ τ H Q, w' τ H Q → w τ H Q) : PI X t e w' := ⟨fun pins s σ H Q I q => h.run pins s σ H Q I (f _ _ _ q)⟩
theorem ri_of (hF : MonoOr F) {t e : Expr} {m : E} (h : PE X e (rE X C ca F m)) : PI X t e (rI X C ca F (.of m)) := by
  refine PI.imp (pi_val h) fun τ H Rq ⟨ρ, R, M, σ, mr, sr, w⟩ => ?_
  refine rE_next hF mr sr w fun d M1 h1 ρ1 v1 H1 e1 => ?_
  obtain ⟨I, eI, q⟩ := opt_ex h1
  by_cases hs : ∃ s, d = .str s
  · obtain ⟨s, rfl⟩ := hs
    cases eI
    obtain rfl := e1.dv.str_inv
    exact .inr (.inr ⟨so s, rfl, q ρ1 _ H1 e1.gr e1.mr (itw_str s)⟩)
  · rcases seq_later e1.mr e1.dv eI (fun s z => hs ⟨s, z⟩) with ⟨a, rfl, h⟩ | ⟨a, rfl, h⟩
    · have ok : I.ok M1 := by
        unfold itOf at eI
        split at eI <;> first
          | (cases eI; exact True.intro)
          | skip
        · obtain ⟨xs, e2, rfl⟩ := Option.map_eq_some_iff.mp eI
          exact lstAt_some e2
        · cases eI
      obtain ⟨vs, hq, _⟩ := h ρ1 R M1 H1 .refl (.inl rfl) e1.mr ok
      exact .inl ⟨a, vs, rfl, hq, q ρ1 _ H1 e1.gr e1.mr (itw_list h)⟩
    · have ok : I.ok M1 := by
        unfold itOf at eI
        split at eI <;> first
          | (cases eI; exact True.intro)
          | skip
        · obtain ⟨xs, e2, rfl⟩ := Option.map_eq_some_iff.mp eI
          exact lstAt_some e2
        · cases eI
      obtain ⟨vs, hq, _⟩ := h ρ1 R M1 H1 .refl (.inl rfl) e1.mr ok
      exact .inr (.inl ⟨a, vs, rfl, hq, q ρ1 _ H1 e1.gr e1.mr (itw_tup h)⟩)
end
end Mp
end

section
/-! MiniPy: ranges, enumerate, zip, comprehensions, tests. -/
set_option linter.all false
set_option maxRecDepth 100000
namespace Mp
open PySem PySem.Spec PyProof.Rows L2
section
variable {K : PySem.W.Frag} {A : String → List String} {ca : CA} {ρ0 ρ ρ1 ρ2 R R1 R' : List Addr} {H0 H H1 H2 H' : Hp} {M M' : Me} {Q : VK} {X : Cx} {C : Cn} {F : Or} {G : Gs} {N : List Str} {sc : Scope} {k : Nat}
theorem blt_of (g : Good C G ca F k N sc X) {b : String} (h : b ∈ bltN) {x : Str} (hx : x = so b) : X.mg x = none := by rw [hx]; exact g.blt b h
theorem ri_rng (g : Good C G ca F k N sc X) {t y : Expr} {p pos : Pos} {m : E} (hg : Gl X "range") (hs : noStar y = true) (h : PE X y (rE X C ca F m)) : PI X t (.Call (.Name "range" p) [y] [] pos) (rI X C ca F (.rng m)) := by
  refine PI.imp (pi_range1 hg (blt_of g (b := "range") (by decide) rfl) (pa_cons h pa_nil (star_cons hs)) (star_cons hs)) fun τ H Rq ⟨ρ, R, M, σ, mr, sr, w⟩ => ?_
  refine rE_next g.mono mr sr w fun d M1 h1 ρ1 v1 H1 e1 => ?_
  obtain ⟨I, eI, q⟩ := opt_ex h1
  unfold rngO at eI
  split at eI
  · split at eI
    · rename_i j hj
      cases eI
      obtain rfl := e1.dv.int_inv
      refine ⟨_, rfl, hj.1, hj.2, q ρ1 _ H1 e1.gr e1.mr (itw_rng ?_)⟩
      unfold rngL
      rw [show (j - 0).toNat = j.toNat by rw [Int.sub_zero]]
    · cases eI
  · cases eI
theorem ri_rng2 (g : Good C G ca F k N sc X) {t y z : Expr} {p pos : Pos} {m n : E} (hg : Gl X "range") (hs : noStar y = true) (hs2 : noStar z = true) (h : PE X y (rE X C ca F m)) (h2 : PE X z (rE X C ca F n)) : PI X t (.Call (.Name "range" p) [y, z] [] pos) (rI X C ca F (.rng2 m n)) := by
  refine PI.imp (pi_range2 hg (blt_of g (b := "range") (by decide) rfl) (pa_cons h (pa_cons h2 pa_nil (star_cons hs2)) (star_cons hs)) (by rw [star_cons hs, star_cons hs2]; rfl) (star_cons hs2)) fun τ H Rq ⟨ρ, R, M, σ, mr, sr, w⟩ => ?_
  refine rE_next g.mono mr sr w fun d M1 h1 ρ1 v1 H1 e1 => rE_next g.mono e1.mr (sr.mono e1.gr) h1 fun d2 M2 h2 ρ2 v2 H2 e2 => ?_
  obtain ⟨I, eI, q⟩ := opt_ex h2
  unfold rng2O at eI
  split at eI
  · split at eI
    · rename_i i j hj
      cases eI
      obtain rfl := e1.dv.int_inv
      obtain rfl := e2.dv.int_inv
      exact ⟨_, _, rfl, hj, q ρ2 _ H2 (e1.gr.trans e2.gr) e2.mr (itw_rng rfl)⟩
    · cases eI
  · cases eI
theorem ri_enum (g : Good C G ca F k N sc X) {elts : List Expr} {kk : Nat} {tpos : Pos} {y : Expr} {p pos : Pos} {m : E} (hg : Gl X "enumerate") (hs : noStar y = true) (h : PE X y (rE X C ca F m)) :
    PI X (.Tuple elts kk tpos) (.Call (.Name "enumerate" p) [y] [] pos) (rI X C ca F (.enum m)) := by
  refine PI.imp (pi_enumA hg (blt_of g (b := "enumerate") (by decide) rfl) (pa_cons h pa_nil (star_cons hs)) (star_cons hs)) fun τ H Rq ⟨ρ, R, M, σ, mr, sr, w⟩ => ?_
  refine rE_next g.mono mr sr w fun d M1 h1 ρ1 v1 H1 e1 => ?_
  obtain ⟨I, eI, q⟩ := opt_ex h1
  obtain ⟨a, rfl, h⟩ := still_later e1.dv eI
  rcases h with ⟨hp, h⟩ | ⟨hp, h⟩
  · obtain ⟨vs, hq, _⟩ := h ρ1 R H1 .refl (.inl rfl)
    exact ⟨a, vs, rfl, .inr ⟨hq, q ρ1 _ H1 e1.gr e1.mr (itw_enumT fun ρ' R' M' H' g o m => h ρ' R' H' g o)⟩⟩
  · obtain ⟨vs, hq, _⟩ := h ρ1 R H1 .refl (.inl rfl)
    exact ⟨a, vs, rfl, .inl ⟨hq, q ρ1 _ H1 e1.gr e1.mr (itw_enum fun ρ' R' M' H' g o m => h ρ' R' H' g o)⟩⟩
theorem ri_zip (g : Good C G ca F k N sc X) {elts : List Expr} {kk : Nat} {tpos : Pos} {y z : Expr} {p pos : Pos} {m n : E} (hg : Gl X "zip") (hs : noStar y = true) (hs2 : noStar z = true) (h : PE X y (rE X C ca F m)) (h2 : PE X z (rE X C ca F n)) :
    PI X (.Tuple elts kk tpos) (.Call (.Name "zip" p) [y, z] [] pos) (rI X C ca F (.zip m n)) := by
  refine PI.imp (RZ.pi_zipA hg (blt_of g (b := "zip") (by decide) rfl) (pa_cons h (pa_cons h2 pa_nil (star_cons hs2)) (star_cons hs)) (star_cons hs) (by rw [star_cons hs2]; rfl)) fun τ H Rq ⟨ρ, R, M, σ, mr, sr, w⟩ => ?_
  refine rE_next g.mono mr sr w fun d M1 h1 ρ1 v1 H1 e1 => rE_next g.mono e1.mr (sr.mono e1.gr) h1 fun d2 M2 h2 ρ2 v2 H2 e2 => ?_
  unfold zipO at h2
  obtain ⟨I, eI, q⟩ := opt_ex h2
  cases e3 : still d with
  | none => rw [e3] at eI; cases eI
  | some p1 =>
    cases e4 : still d2 with
    | none => rw [e3, e4] at eI; cases eI
    | some p2 =>
      rw [e3, e4] at eI
      have eI' : (if p1.1 = p2.1 then some (⟨zipL p1.2 p2.2, none⟩ : It) else none) = some I := eI
      split at eI'
      · rename_i hp
        cases eI'
        obtain ⟨a, rfl, f⟩ := still_later e1.dv e3
        obtain ⟨b, rfl, f2⟩ := still_later e2.dv e4
        have gg := e1.gr.trans e2.gr
        have og : ∀ {R'}, OneR H2 R R' → OneR H1 R R' := fun o => by
          rcases o with rfl | ⟨p, rfl, hp⟩
          · exact .inl rfl
          · exact .inr ⟨p, rfl, e2.gr.none_of hp⟩
        rcases f with ⟨hp1, f⟩ | ⟨hp1, f⟩
        · rcases f2 with ⟨hp2, f2⟩ | ⟨hp2, f2⟩
          · obtain ⟨vs, hq, _⟩ := f ρ2 R H2 e2.gr (.inl rfl)
            obtain ⟨ws, hq2, _⟩ := f2 ρ2 R H2 .refl (.inl rfl)
            refine ⟨a, b, vs, ws, rfl, .inr ⟨hq, hq2, q ρ2 _ H2 gg e2.mr (itw_zipT fun ρ' R' M' H' g o m => ?_)⟩⟩
            obtain ⟨vs, hq⟩ := f ρ' R' H' (e2.gr.trans g) (og o)
            obtain ⟨ws, hq2⟩ := f2 ρ' R' H' g o
            exact ⟨vs, ws, hq, hq2⟩
          · rw [hp1, hp2] at hp; cases hp
        · rcases f2 with ⟨hp2, f2⟩ | ⟨hp2, f2⟩
          · rw [hp1, hp2] at hp; cases hp
          · obtain ⟨vs, hq, _⟩ := f ρ2 R H2 e2.gr (.inl rfl)
            obtain ⟨ws, hq2, _⟩ := f2 ρ2 R H2 .refl (.inl rfl)
            refine ⟨a, b, vs, ws, rfl, .inl ⟨hq, hq2, q ρ2 _ H2 gg e2.mr (itw_zip fun ρ' R' M' H' g o m => ?_)⟩⟩
            obtain ⟨vs, hq⟩ := f ρ' R' H' (e2.gr.trans g) (og o)
            obtain ⟨ws, hq2⟩ := f2 ρ' R' H' g o
            exact ⟨vs, ws, hq, hq2⟩
      · cases eI'
/-! ### comprehensions -/
theorem wipe_set {τ : L2.St} {i : Nat} {x : Option V} : ∀ {vs : List Nat}, i ∈ vs → wipe (τ.set i x) vs = wipe τ vs
  | [], h => by cases h
  | v :: vs, h => by
    unfold wipe
    by_cases z : i ∈ vs
    · rw [wipe_set z]
    · rcases List.mem_cons.mp h with rfl | h
      · have key : ∀ vs : List Nat, i ∉ vs → wipe (τ.set i x) vs = (wipe τ vs).set i x := by
          intro vs hv
          induction vs with
          | nil => rfl
          | cons w ws ih =>
            simp only [List.mem_cons, not_or] at hv
            unfold wipe
            rw [ih hv.2, List.set_comm _ _ (fun e => hv.1 e)]
        rw [key vs z, List.set_set]
      · exact absurd h z
theorem wipe_wipe {τ : L2.St} : ∀ (us : List Nat) {vs : List Nat}, (∀ u ∈ us, u ∈ vs) → wipe (wipe τ us) vs = wipe τ vs
  | [], _, _ => rfl
  | u :: us, vs, h => by
    show wipe ((wipe τ us).set u none) vs = _
    rw [wipe_set (h u List.mem_cons_self)]
    exact wipe_wipe us fun w hw => h w (List.mem_cons_of_mem _ hw)
theorem wipe_stV : ∀ {is : List Nat} {xs : List V} {τ : L2.St} {vs : List Nat}, (∀ i ∈ is, i ∈ vs) → wipe (stV τ is xs) vs = wipe τ vs
  | [], _, _, _, _ => by unfold stV; rfl
  | _ :: _, [], _, _, _ => by unfold stV; rfl
  | i :: is, x :: xs, τ, vs, h => by
    show wipe (stV (τ.set i (some x)) is xs) vs = _
    rw [wipe_stV fun j hj => h j (List.mem_cons_of_mem _ hj), wipe_set (h i List.mem_cons_self)]
/-- a target takes an item -/
theorem asg_ok {tg : Tg} {d : D} {x : V} {pr : Bool} {σ σ1 : Sg} {τ : L2.St} {Qs : L2.St → Hp → Prop} (hp : pr = true → ∃ is, tg = .tu is) (m : MR K A ca ρ R M H) (sr : SR K ρ R H σ τ) (iv : IV K ρ R H pr d x) (e : asgO tg d σ M = some σ1)
    (q : ∀ τ1, SR K ρ R H σ1 τ1 → (∀ vs : List Nat, (∀ i ∈ tgIs tg, i ∈ vs) → wipe τ1 vs = wipe τ vs) → Qs τ1 H) : rG K tg x τ H Qs := by
  cases tg with
  | n i =>
    cases pr with
    | true => obtain ⟨is, z⟩ := hp rfl; cases z
    | false =>
      cases e
      exact q _ (sr.set iv.1.frz (nt_frz _)) fun vs hv => wipe_set (hv i (List.mem_singleton.mpr rfl))
  | tu is =>
    have e' : (seqOf M d).bind (fun ds => ssets σ is ds) = some σ1 := e
    obtain ⟨ds, e1, e2⟩ := Option.bind_eq_some_iff.mp e'
    have : ∃ a vs, x = .ref a ∧ (SqL K H a vs ∨ SqT K H a vs) ∧ DVs K ρ R H ds vs := by
      cases pr with
      | false => exact iv.1.seqS m e1
      | true =>
        obtain ⟨a, vs, ds', rfl, rfl, hq, hs⟩ := iv
        cases e1
        exact ⟨a, vs, rfl, .inr hq, hs⟩
    obtain ⟨a, vs, rfl, hq, hs⟩ := this
    obtain ⟨s1, s2⟩ := sr.sets e2 hs
    exact ⟨a, vs, rfl, hq, s2, q _ s1 fun us hv => wipe_stV hv⟩
theorem re_lc (hF : MonoOr F) (hc : X.calm = true) (hN : X.N.Nodup) {elt : E} {tg : Tg} {it : Ie} {cond : E} {own : List Nat} {el t i : Expr} {ifs : List Expr} {scope : Scope} {ow : List (Str × Nat)} {pos : Pos} (hpr : prI it = true → ∃ is, tg = .tu is)
    (how : ow.map (·.2) = own) (hown : ∀ j ∈ tgIs tg, j ∈ own) (hi : PI X t i (rI X C ca F it)) (ok : BlkOk X.N X.env.scope scope ow)
    (hg : ∀ (s : Shared) (H : Hp) (Cc : Addr) (cl : List (Str × Addr)) (fp : List Addr), PG (X.blk s H scope (compEnvC scope cl Cc X.env) fp) t (rG X.K tg))
    (ht : ∀ (s : Shared) (H : Hp) (Cc : Addr) (cl : List (Str × Addr)) (fp : List Addr), PTs (X.blk s H scope (compEnvC scope cl Cc X.env) fp) ifs (rT X C ca F cond))
    (he : ∀ (s : Shared) (H : Hp) (Cc : Addr) (cl : List (Str × Addr)) (fp : List Addr), PE (X.blk s H scope (compEnvC scope cl Cc X.env) fp) el (rE X C ca F elt)) (hs : ∀ x, foldedSetIterable i X.env x = pure x) {σ : Sg} {τ : L2.St}
    (mr : MR X.K C.A ca ρ R M H) (sr : SR X.K ρ R H σ τ) (w : wE C F (.lc elt tg it cond own) σ M (KQ X.K C.A ca ρ R H Q) (fun _ _ => False)) :
    tLc (rI X C ca F it) (rG X.K tg) (rT X C ca F cond) (rE X C ca F elt) (ow.map (·.2)) τ H Q := by
  rw [how]
  rw [wE] at w
  refine ⟨ρ, R, M, σ, mr, sr, wI_mono hF it σ M (fun I M1 h1 ρ1 J H1 g1 m1 iw => ?_) (fun _ _ z => z) w⟩
  intro D hD
  have hDR : D ∉ R := m1.freshR hD
  refine ⟨fun i n H' => n = I.xs.length - i ∧ i ≤ I.xs.length ∧ ∃ ρ' M' acc av, Grow ρ1 H1 ρ' H' ∧ MR X.K C.A ca ρ' (D :: R) M' H' ∧ H' D = some (.lst av) ∧ DVs X.K ρ' (D :: R) H' acc av ∧
    wLc (fun x M2 Rr => opt (asgO tg x (wipes σ own) M2) fun σ1 => wT C F cond σ1 M2 (fun k M3 => br k (wE C F elt σ1 M3 (fun y M4 => Rr (some y) M4) (fun _ _ => False)) (Rr none M3)) (fun _ _ => False)) I.ok (I.xs.drop i) M' acc (fun ys M2 => KQ X.K C.A ca ρ R H Q (.tl ys) M2),
    ⟨I.xs.length, by simp, Nat.zero_le _, ρ1, M1, [], [], grow_new hD, m1.newR hD, upd_same, .nil, h1⟩, ?_⟩
  rintro i n H' ⟨rfl, hi, ρ', M', acc, av, g', m', hH', hacc, hw⟩
  have oR : OneR H1 R (D :: R) := .inr ⟨D, rfl, hD⟩
  by_cases hlt : i < I.xs.length
  · rw [List.drop_eq_getElem_cons hlt] at hw
    obtain ⟨hok, hb⟩ := hw
    obtain ⟨f1, _⟩ := iw ρ' (D :: R) M' H' g' oR m' hok
    obtain ⟨hgo, hy⟩ := f1 i _ (List.getElem?_eq_getElem hlt)
    obtain ⟨σ1, eσ, hb⟩ := opt_ex hb
    refine .inr ⟨hgo, fun H4 => ∃ ρ' M' acc av, Grow ρ1 H1 ρ' H4 ∧ MR X.K C.A ca ρ' (D :: R) M' H4 ∧ H4 D = some (.lst av) ∧ DVs X.K ρ' (D :: R) H4 acc av ∧
      wLc (fun x M2 Rr => opt (asgO tg x (wipes σ own) M2) fun σ1 => wT C F cond σ1 M2 (fun k M3 => br k (wE C F elt σ1 M3 (fun y M4 => Rr (some y) M4) (fun _ _ => False)) (Rr none M3)) (fun _ _ => False)) I.ok (I.xs.drop (i + 1)) M' acc (fun ys M2 => KQ X.K C.A ca ρ R H Q (.tl ys) M2),
      fun H4 h4 => ⟨I.xs.length - (i + 1), by omega, rfl, hlt, h4⟩, fun x H2 hx => ?_⟩
    obtain ⟨g2, m2, iv⟩ := hy x H2 hx
    have hD' : D ∉ ρ' := (m'.rs D List.mem_cons_self).1
    have srw : SR X.K ρ' (D :: R) H2 (wipes σ own) (wipe τ own) := ((((sr.mono g1).more hD).mono g').mono g2).wipes own
    refine asg_ok hpr m2 srw iv eσ fun τ1 sr1 hwp => ⟨?_, ?_⟩
    · rw [hwp own hown, wipe_wipe own fun u hu => hu]
    · refine rT_next hF m2 sr1 hb fun k M3 h3 ρ3 H3 g3 m3 => ?_
      have hH3 : H3 D = some (.lst av) := g3.keep D _ (g2.keep D _ hH' hD') hD'
      have acc3 : DVs X.K ρ3 (D :: R) H3 acc av := (hacc.mono g2).mono g3
      have gg3 : Grow ρ1 H1 ρ3 H3 := (g'.trans g2).trans g3
      have hD3 : D ∉ ρ3 := (m3.rs D List.mem_cons_self).1
      cases k with
      | false => exact ⟨ρ3, M3, acc, av, gg3, m3, hH3, acc3, h3⟩
      | true =>
        rw [if_pos rfl]
        refine rE_next hF m3 (sr1.mono g3) h3 fun y M4 h4 ρ4 v4 H4 e4 => ?_
        have hH4 : H4 D = some (.lst av) := e4.gr.keep D _ hH3 hD3
        have acc4 := acc3.mono e4.gr
        refine ⟨av, hH4, by rw [← acc4.length, ← line_eq]; exact h4.1, ρ4, M4, acc ++ [frz y], av ++ [v4], ?_, e4.mr.updR List.mem_cons_self, upd_same, (acc4.append (.cons e4.dv.frz (nt_frz _) .nil)).updR List.mem_cons_self, h4.2⟩
        have gg4 := gg3.trans e4.gr
        obtain ⟨t, e1, e2⟩ := gg4.pre
        refine ⟨⟨t, e1, e2⟩, fun b o eb hb => ?_, fun b o eb => ?_⟩
        · rw [upd_ne (ne_of_none eb hD)]
          exact gg4.keep b o eb hb
        · obtain ⟨o', eo⟩ := gg4.dom b o eb
          exact ⟨o', by rw [upd_ne (ne_of_none eb hD)]; exact eo⟩
  · have e : i = I.xs.length := by omega
    subst e
    rw [List.drop_length] at hw
    obtain ⟨hok, hq⟩ := hw
    obtain ⟨_, hstop⟩ := iw ρ' (D :: R) M' H' g' oR m' hok
    have hD' : D ∉ ρ' := (m'.rs D List.mem_cons_self).1
    refine .inl ⟨hstop, hq ρ' (.ref D) H' ⟨g1.trans g', m'.less, .tl hH' hD' hDR (hacc.ex Ex.less), fun xs ex a ea => ?_⟩⟩
    cases ex
    cases ea
    exact ⟨g1.none_of hD, m', av, hH', hacc⟩
/-! ### tests -/
theorem rt_val (hF : MonoOr F) {m : E} {e : Expr} (h : PE X e (rE X C ca F m)) (hw : ∀ σ M Qb Y, wT C F m σ M Qb Y → wE C F m σ M (fun d M1 => opt (tru M1 d) fun k => Qb k M1) Y)
    (he : ∀ whole, isTrue e X.env whole = (do let v ← whole; standAt e.pos; holding [v] (truthy v))) : PT X e (rT X C ca F m) := by
  refine PT.imp (pt_truth h he) fun τ H Qb ⟨ρ, R, M, σ, mr, sr, w⟩ => ?_
  refine rE_next hF mr sr (hw _ _ _ _ w) fun d M1 h1 ρ1 v1 H1 e1 => ?_
  obtain ⟨k, ek, q⟩ := opt_ex h1
  exact ⟨k, tru_V e1.mr e1.dv ek, q ρ1 H1 e1.gr e1.mr⟩
theorem BQ.from {ρ1 : List Addr} {H1 : Hp} {Qb : Bool → Hp → Prop} {k : Bool} {M1 : Me} (g : Grow ρ H ρ1 H1) (q : BQ K A ca ρ R H Qb k M1) : BQ K A ca ρ1 R H1 Qb k M1 := fun ρ' H' g' m' => q ρ' H' (g.trans g') m'
theorem rt_and (hF : MonoOr F) {a b : E} {x y : Expr} {ys : List Expr} {p : Pos} (ha : PT X x (rT X C ca F a)) (hb : PW X (.BoolOp .And (y :: ys) p) (rT X C ca F b)) : PW X (.BoolOp .And (x :: y :: ys) p) (rT X C ca F (.and a b)) := by
  refine PW.imp (pw_and ha hb) fun τ H Qb ⟨ρ, R, M, σ, mr, sr, w⟩ => ?_
  refine rT_next hF mr sr w fun k M1 h1 ρ1 H1 g1 m1 => ?_
  cases k with
  | false => exact h1 ρ1 H1 g1 m1
  | true =>
    rw [if_pos rfl]
    exact rT_next hF m1 (sr.mono g1) h1 fun k M2 h2 ρ2 H2 g2 m2 => h2 ρ2 H2 (g1.trans g2) m2
theorem rt_or (hF : MonoOr F) {a b : E} {x y : Expr} {ys : List Expr} {p : Pos} (ha : PT X x (rT X C ca F a)) (hb : PW X (.BoolOp .Or (y :: ys) p) (rT X C ca F b)) : PW X (.BoolOp .Or (x :: y :: ys) p) (rT X C ca F (.or a b)) := by
  refine PW.imp (pw_or ha hb) fun τ H Qb ⟨ρ, R, M, σ, mr, sr, w⟩ => ?_
  refine rT_next hF mr sr w fun k M1 h1 ρ1 H1 g1 m1 => ?_
  cases k with
  | true => exact h1 ρ1 H1 g1 m1
  | false =>
    rw [if_neg Bool.false_ne_true]
    exact rT_next hF m1 (sr.mono g1) h1 fun k M2 h2 ρ2 H2 g2 m2 => h2 ρ2 H2 (g1.trans g2) m2
theorem rt_not (hF : MonoOr F) {a : E} {x : Expr} {p : Pos} (ha : PT X x (rT X C ca F a)) : PT X (.UnaryOp .Not x p) (rT X C ca F (.not a)) := by
  refine PT.imp (pt_not ha) fun τ H Qb ⟨ρ, R, M, σ, mr, sr, w⟩ => ?_
  exact rT_next hF mr sr w fun k M1 h1 ρ1 H1 g1 m1 => h1 ρ1 H1 g1 m1
theorem rt_ite (hF : MonoOr F) {t a b : E} {c x y : Expr} {p : Pos} (ht : PT X c (rT X C ca F t)) (ha : PT X x (rT X C ca F a)) (hb : PT X y (rT X C ca F b)) : PT X (.IfExp c x y p) (rT X C ca F (.ite t a b)) := by
  refine ⟨fun pins s τ H Qb I ⟨ρ, R, M, σ, mr, sr, w⟩ => ?_⟩
  have h1 : rT X C ca F t τ H (fun k H1 => ∃ ρ1 M1, Grow ρ H ρ1 H1 ∧ MR X.K C.A ca ρ1 R M1 H1 ∧ br k (wT C F a σ M1 (BQ X.K C.A ca ρ R H Qb) (fun _ _ => False)) (wT C F b σ M1 (BQ X.K C.A ca ρ R H Qb) (fun _ _ => False))) :=
    rT_next hF mr sr w fun k M1 h1 ρ1 H1 g1 m1 => ⟨ρ1, M1, g1, m1, h1⟩
  show wpAny _ _ (do if ← isTrue c X.env (eval c X.env) then isTrue x X.env (eval x X.env) else isTrue y X.env (eval y X.env)) _ _ _
  refine wpAny_bind (thn (ht.run pins s τ H _ I h1) fun k s1 ⟨H1, I1, ρ1, M1, g1, m1, h1⟩ => ?_)
  cases k with
  | true => exact ha.run pins s1 τ H1 Qb I1 (rT_next hF m1 (sr.mono g1) h1 fun k M2 h2 ρ2 H2 g2 m2 => h2 ρ2 H2 (g1.trans g2) m2)
  | false => exact hb.run pins s1 τ H1 Qb I1 (rT_next hF m1 (sr.mono g1) h1 fun k M2 h2 ρ2 H2 g2 m2 => h2 ρ2 H2 (g1.trans g2) m2)
end
end Mp
end

section
/-! MiniPy: every expression. -/
set_option linter.all false
set_option maxRecDepth 100000
set_option maxHeartbeats 0
namespace Mp
open PySem PySem.Spec PyProof.Rows L2
section
variable {ca : CA} {C : Cn} {F : Or} {G : Gs} {N : List Str} {k : Nat}
theorem glb_ok {X : Cx} {sc : Scope} {x : Str} (hs : X.env.scope = sc) (h : glb sc x = true) : Gl X x := by
  unfold glb at h
  split at h
  · rename_i e
    show X.env.scope.names.lookup x = _
    rw [hs]; exact e
  · cases h
theorem vis_ok {X : Cx} {sc : Scope} {x : Str} (hs : X.env.scope = sc) (h : vis sc x = true) : Vis X.env.scope x := by
  rw [hs]
  unfold vis at h
  split at h
  · exact .inl ‹_›
  · exact .inr (.inl ‹_›)
  · exact .inr (.inr ‹_›)
  · cases h
theorem plain_ok {x : Str} (h : plainN x = true) : (x == ("__debug__" : Str)) = false ∧ (x == ("__classdict__" : Str)) = false ∧ x ≠ "__name__" := by
  unfold plainN at h
  simp only [Bool.and_eq_true, decide_eq_true_eq] at h
  exact ⟨beq_eq_false_iff_ne.mpr h.1.1, beq_eq_false_iff_ne.mpr h.1.2, h.2⟩
theorem Good.blk {X : Cx} {sc : Scope} (g : Good C G ca F k N sc X) {scope : Scope} (hk : scope.kind = .function) (s : Shared) (H : Hp) (Cc : Addr) (cl : List (Str × Addr)) (fp : List Addr) : Good C G ca F k N (relS scope sc) (X.blk s H scope (compEnvC scope cl Cc X.env) fp) where
  mono := g.mono
  hN := g.hN
  nd := g.nd
  hsc := by rw [← g.hsc]; rfl
  fnk := hk
  calm := g.calm
  xe := rfl
  room := g.room
  blt := g.blt
  con := g.con
  fns := fun f hf => ⟨(g.fns f hf).ex⟩
  cls := g.cls
theorem units_ok {X : Cx} {sc : Scope} (g : Good C G ca F k N sc X) : X.A.units + 64 < cLine := g.room.units
theorem es_nil {sc : Scope} {es : Es} (h : chkEs N sc G es [] = true) : es = .nil := by
  cases es with
  | nil => rfl
  | cons _ _ => cases h
theorem es_star {sc : Scope} : ∀ {es : Es} {xs : List Expr}, chkEs N sc G es xs = true → xs.all noStar = true
  | _, [], _ => rfl
  | .nil, _ :: _, h => by cases h
  | .cons e r, x :: xs, h => by
    have h' : (noStar x && chkE N sc G e x && chkEs N sc G r xs) = true := h
    simp only [Bool.and_eq_true] at h'
    rw [List.all_cons, Bool.and_eq_true]
    exact ⟨h'.1.1, es_star h'.2⟩
theorem es_len {sc : Scope} : ∀ {es : Es} {xs : List Expr}, chkEs N sc G es xs = true → eslen es = xs.length
  | .nil, [], _ => rfl
  | .cons _ _, [], h => by cases h
  | .nil, _ :: _, h => by cases h
  | .cons e r, x :: xs, h => by
    have h' : (noStar x && chkE N sc G e x && chkEs N sc G r xs) = true := h
    simp only [Bool.and_eq_true] at h'
    show eslen r + 1 = xs.length + 1
    rw [es_len h'.2]
theorem c_ok {X : Cx} {d : D} {c : Const} {j : Nat} {pos : Pos} (h : chkC d c = true) : PE X (.Constant c j pos) (rE X C ca F (.c d)) := by
  cases d <;> cases c <;> first
    | (exact Bool.noConfusion h)
    | skip
  · exact re_con pe_non (fun _ _ _ => .non) rfl
  · obtain rfl := eq_of_beq h
    exact re_con pe_bl (fun _ _ _ => .bl _) rfl
  · obtain rfl := of_decide_eq_true h
    exact re_con pe_int (fun _ _ _ => .int _) rfl
  · obtain rfl := of_decide_eq_true h
    exact re_con pe_str (fun _ _ _ => .str _) rfl
theorem pr_tu {it : Ie} {tg : Tg} (h : itTg it tg = true) (hp : prI it = true) : ∃ is, tg = .tu is := by
  cases it <;> first
    | (exact Bool.noConfusion hp)
    | (cases tg <;> first
        | exact ⟨_, rfl⟩
        | (exact Bool.noConfusion h))
theorem cell_fn {scope : Scope} {x : Str} (h : cell scope x = true) : (scope.names.lookup x == some .cell) = true := by
  unfold cell at h
  split at h
  · rename_i e; rw [e]; rfl
  · cases h
theorem tu_tuple {N : List Str} {sc : Scope} {fn : Str → Bool} {is : List Nat} {t : Expr} (h : chkT N sc fn (.tu is) t = true) : ∃ es kk p, t = .Tuple es kk p := by
  cases t <;> first
    | exact ⟨_, _, _, rfl⟩
    | (exact Bool.noConfusion h)
mutual
theorem sE : ∀ (m : E) (e : Expr) {X : Cx} {sc : Scope}, Good C G ca F k N sc X → chkE N sc G m e = true → PE X e (rE X C ca F m)
  | .c d, e, X, sc, g, h => by
    cases e <;> first | (exact Bool.noConfusion h) | skip
    exact c_ok h
  | .v i, e, X, sc, g, h => by
    cases e <;> first | (exact Bool.noConfusion h) | skip
    simp only [chkE, Bool.and_eq_true, decide_eq_true_eq] at h
    obtain ⟨p1, p2, _⟩ := plain_ok h.2
    exact re_v (pe_var (by rw [g.hN]; exact h.1.1) (vis_ok g.hsc h.1.2) p1 p2)
  | .g y, e, X, sc, g, h => by
    cases e <;> first | (exact Bool.noConfusion h) | skip
    simp only [chkE, Bool.and_eq_true, decide_eq_true_eq] at h
    obtain ⟨⟨⟨h1, h2⟩, h3⟩, h4⟩ := h
    obtain ⟨d, v, u, c1, c2, c3, c4, c5⟩ := g.con y h4
    rw [h1] at c2
    exact re_g (pe_glob (glb_ok g.hsc h2) c2 c3 (plain_ok h3).1) c1 c5 c4
  | .bin o a b, e, X, sc, g, h => by
    cases e <;> first | (exact Bool.noConfusion h) | skip
    simp only [chkE, Bool.and_eq_true] at h
    exact re_bin g.mono h.1.1 (sE a _ g h.1.2) (sE b _ g h.2)
  | .neg a, e, X, sc, g, h => by
    cases e <;> first | (exact Bool.noConfusion h) | skip
    rename_i op x p
    cases op <;> first | (exact Bool.noConfusion h) | skip
    simp only [chkE] at h
    exact re_neg g.mono (sE a _ g h)
  | .cmp o a b, e, X, sc, g, h => by
    cases e <;> first | (exact Bool.noConfusion h) | skip
    rename_i l ops cs p
    rcases ops with _ | ⟨op, _ | ⟨op2, ops⟩⟩ <;> rcases cs with _ | ⟨r, _ | ⟨r2, cs⟩⟩ <;> first | (exact Bool.noConfusion h) | skip
    simp only [chkE, Bool.and_eq_true] at h
    obtain ⟨⟨⟨h1, h2⟩, h3⟩, h4⟩ := h
    exact re_cmp g.mono (units_ok g) h1 (marks_of h2) (sE a _ g h3) (sE b _ g h4)
  | .ch o o' a b c, e, X, sc, g, h => by
    cases e <;> first | (exact Bool.noConfusion h) | skip
    rename_i l ops cs p
    rcases ops with _ | ⟨op, _ | ⟨op2, _ | ⟨op3, ops⟩⟩⟩ <;> rcases cs with _ | ⟨r, _ | ⟨r2, _ | ⟨r3, cs⟩⟩⟩ <;> first | (exact Bool.noConfusion h) | skip
    simp only [chkE, Bool.and_eq_true] at h
    obtain ⟨⟨⟨⟨⟨h1, h2⟩, h3⟩, h4⟩, h5⟩, h6⟩ := h
    exact re_ch g.mono (units_ok g) h1 h2 (by show behindInMarks _ _ = false; exact marks_of h3) (sE a _ g h4) (sE b _ g h5) (sE c _ g h6)
  | .and a b, e, X, sc, g, h => by
    cases e <;> first | (exact Bool.noConfusion h) | skip
    rename_i op l p
    cases op <;> first | (exact Bool.noConfusion h) | skip
    rcases l with _ | ⟨x, _ | ⟨y, _ | ⟨z, r⟩⟩⟩ <;> first | (exact Bool.noConfusion h) | skip
    · simp only [chkE, Bool.and_eq_true] at h
      exact re_and g.mono (sE a _ g h.1) (pe_one (sE b _ g h.2))
    · simp only [chkE, Bool.and_eq_true] at h
      exact re_and g.mono (sE a _ g h.1) (sE b _ g h.2)
  | .or a b, e, X, sc, g, h => by
    cases e <;> first | (exact Bool.noConfusion h) | skip
    rename_i op l p
    cases op <;> first | (exact Bool.noConfusion h) | skip
    rcases l with _ | ⟨x, _ | ⟨y, _ | ⟨z, r⟩⟩⟩ <;> first | (exact Bool.noConfusion h) | skip
    · simp only [chkE, Bool.and_eq_true] at h
      exact re_or g.mono (sE a _ g h.1) (pe_one (sE b _ g h.2))
    · simp only [chkE, Bool.and_eq_true] at h
      exact re_or g.mono (sE a _ g h.1) (sE b _ g h.2)
  | .not a, e, X, sc, g, h => by
    cases e <;> first | (exact Bool.noConfusion h) | skip
    rename_i op x p
    cases op <;> first | (exact Bool.noConfusion h) | skip
    simp only [chkE] at h
    exact re_not g.mono (sE a _ g h)
  | .ite t a b, e, X, sc, g, h => by
    cases e <;> first | (exact Bool.noConfusion h) | skip
    simp only [chkE, Bool.and_eq_true] at h
    exact re_ite g.mono (sT t _ g h.1.1).1 (sE a _ g h.1.2) (sE b _ g h.2)
  | .tup es, e, X, sc, g, h => by
    cases e <;> first | (exact Bool.noConfusion h) | skip
    simp only [chkE] at h
    exact re_tup g.mono (sEs es _ g h)
  | .lst es, e, X, sc, g, h => by
    cases e <;> first | (exact Bool.noConfusion h) | skip
    simp only [chkE] at h
    exact re_lst g.mono (sEs es _ g h)
  | .dic ks vs, e, X, sc, g, h => by
    cases e <;> first | (exact Bool.noConfusion h) | skip
    simp only [chkE, Bool.and_eq_true, decide_eq_true_eq] at h
    obtain ⟨⟨⟨h1, h2⟩, h3⟩, h4⟩ := h
    obtain ⟨p1, p2, p3, p4⟩ := sPs ks vs _ _ g h1 h2 h3
    exact re_dic g.mono p1 p2 (by rw [← p4, h3]) p3 (by rw [h3, es_len h2]) (by rw [← p4]; exact h4) p4
  | .ix a i, e, X, sc, g, h => by
    cases e <;> first | (exact Bool.noConfusion h) | skip
    rename_i x s p
    have h' : (noSl s && chkE N sc G a x && chkE N sc G i s) = true := by
      cases s <;> first
        | exact h
        | (unfold chkE at h; split at h <;> first | (cases h; done) | exact h | skip)
    simp only [Bool.and_eq_true] at h'
    exact re_ix g.mono (units_ok g) (plainIx_of h'.1.1) (sE a _ g h'.1.2) (sE i _ g h'.2)
  | .sl a lo hi, e, X, sc, g, h => by
    cases e <;> first | (exact Bool.noConfusion h) | skip
    rename_i x s p
    cases s <;> first | (exact Bool.noConfusion h) | skip
    rename_i l u st p2
    cases st <;> first | (exact Bool.noConfusion h) | skip
    simp only [chkE, Bool.and_eq_true] at h
    exact re_sl g.mono (sE a _ g h.1.1) (sO lo _ g h.1.2) (sO hi _ g h.2)
  | .call f es, e, X, sc, g, h => by
    cases e <;> first | (exact Bool.noConfusion h) | skip
    rename_i fn args kw p
    cases fn <;> first | (exact Bool.noConfusion h) | skip
    cases kw <;> first | (exact Bool.noConfusion h) | skip
    simp only [chkE, Bool.and_eq_true, decide_eq_true_eq] at h
    obtain ⟨⟨⟨⟨h1, h2⟩, h3⟩, h4⟩, h5⟩ := h
    exact re_call g h4 h1 (glb_ok g.hsc h2) (plain_ok h3).1 (es_star h5) (fun z => by subst z; exact es_nil h5) (sEs es _ g h5)
  | .new f es, e, X, sc, g, h => by
    cases e <;> first | (exact Bool.noConfusion h) | skip
  | .bi f es, e, X, sc, g, h => by
    cases e <;> first | (exact Bool.noConfusion h) | skip
    rename_i fn args kw p
    cases fn <;> first | (exact Bool.noConfusion h) | skip
    cases kw <;> first | (exact Bool.noConfusion h) | skip
    simp only [chkE, Bool.and_eq_true, decide_eq_true_eq] at h
    obtain ⟨⟨⟨⟨⟨h1, h0⟩, h2⟩, h3⟩, h4⟩, h5⟩ := h
    exact re_bi g h0 h1 (glb_ok g.hsc h2) (es_star h5) (fun z => by subst z; cases f <;> cases h4) (sEt es _ g h5)
  | .mt o m es, e, X, sc, g, h => by
    cases e <;> first | (exact Bool.noConfusion h) | skip
    rename_i fn args kw p
    cases fn <;> first | (exact Bool.noConfusion h) | skip
    cases kw <;> first | (exact Bool.noConfusion h) | skip
    simp only [chkE, Bool.and_eq_true, decide_eq_true_eq] at h
    obtain ⟨⟨⟨⟨⟨⟨h1, h2⟩, h3⟩, h4⟩, h5⟩, h6⟩, h7⟩ := h
    exact re_mt g (units_ok g) h1 (fun s z => by subst z; cases h7) h2 (beq_iff_eq.mpr h3) h4 (es_star h6) (fun z => by subst z; exact es_nil h6) (sE o _ g h5) (sEt es _ g h6)
  | .fld o f, e, X, sc, g, h => by
    cases e <;> first | (exact Bool.noConfusion h) | skip
    simp only [chkE, Bool.and_eq_true, decide_eq_true_eq] at h
    exact re_fld g h.1.1 h.1.2 (sE o _ g h.2)
  | .isi a ts, e, X, sc, g, h => by
    rcases ts with _ | ⟨t, _ | ⟨t2, ts⟩⟩
    · cases e <;> exact Bool.noConfusion h
    case cons.cons => cases e <;> exact Bool.noConfusion h
    cases e <;> first | (exact Bool.noConfusion h) | skip
    rename_i fn args kw p
    cases fn <;> first | (exact Bool.noConfusion h) | skip
    rcases args with _ | ⟨y, _ | ⟨z, args⟩⟩ <;> first | (exact Bool.noConfusion h) | skip
    cases z <;> first | (exact Bool.noConfusion h) | skip
    cases args <;> first | (exact Bool.noConfusion h) | skip
    cases kw <;> first | (exact Bool.noConfusion h) | skip
    simp only [chkE, Bool.and_eq_true, decide_eq_true_eq] at h
    obtain ⟨⟨⟨⟨⟨⟨⟨h1, h0⟩, h2⟩, h3⟩, h4⟩, h5⟩, h6⟩, h7⟩ := h
    exact re_isi g h1 (glb_ok g.hsc h2) (glb_ok g.hsc h4) h3 h6 h0 (plain_ok h5).1 (plain_ok h5).2.2 (sE a _ g h7)
  | .al m, e, X, sc, g, h => by
    have h' : chkE N sc G m e = true := h
    exact re_al g.mono (sE m e g h')
  | .lc elt tg it cond own, e, X, sc, g, h => by
    cases e <;> first | (exact Bool.noConfusion h) | skip
    rename_i el gs scope p
    rcases gs with _ | ⟨⟨t, i, ifs, as⟩, _ | ⟨g2, gs⟩⟩ <;> first | (exact Bool.noConfusion h) | skip
    have h' : (decide (as = 0) && blkC N sc scope (ownOf N own) && decide ((ownOf N own).map (·.2) = own) && chkT N (relS scope sc) (cell scope) tg t && decide (∀ i ∈ tgIs tg, i ∈ own) && itTg it tg && noSet i && chkI N sc G it i &&
      chkE N (relS scope sc) G elt el && (match (generalizing := false) ifs with
      | [] => (match (generalizing := false) cond with
        | .c (.bl true) => true
        | _ => false)
      | [c] => chkE N (relS scope sc) G cond c
      | _ => false)) = true := h
    simp only [Bool.and_eq_true, decide_eq_true_eq] at h'
    obtain ⟨⟨⟨⟨⟨⟨⟨⟨⟨h0, h1⟩, h2⟩, h3⟩, h4⟩, h5⟩, h6⟩, h7⟩, h8⟩, h9⟩ := h'
    subst h0
    have ok : BlkOk X.N X.env.scope scope (ownOf N own) := by rw [g.hN, g.hsc]; exact blkOk_by h1
    have gb := fun (s : Shared) (H : Hp) (Cc : Addr) (cl : List (Str × Addr)) (fp : List Addr) => g.blk ok.kind s H Cc cl fp
    have hi : PI X t i (rI X C ca F it) := sI it i t g h7 fun hp => by
      obtain ⟨is, rfl⟩ := pr_tu h5 hp
      exact tu_tuple h3
    have hpg : ∀ (s : Shared) (H : Hp) (Cc : Addr) (cl : List (Str × Addr)) (fp : List Addr), PG (X.blk s H scope (compEnvC scope cl Cc X.env) fp) t (rG X.K tg) := fun s H Cc cl fp =>
      pg_ok (X := X.blk s H scope (compEnvC scope cl Cc X.env) fp) (fn := cell scope) ⟨g.hN, g.nd, (gb s H Cc cl fp).hsc, fun x hx => cell_fn hx⟩ g.calm h3
    have hts : ∀ (s : Shared) (H : Hp) (Cc : Addr) (cl : List (Str × Addr)) (fp : List Addr), PTs (X.blk s H scope (compEnvC scope cl Cc X.env) fp) ifs (rT X C ca F cond) := fun s H Cc cl fp => by
      rcases ifs with _ | ⟨c, _ | ⟨c2, ifs⟩⟩
      · refine ⟨fun pins s σ H Q I ⟨ρ, R, M, σ', mr, sr, w⟩ => pts_nil.run pins s σ H Q I ?_⟩
        dsimp only at h9
        split at h9
        · exact w ρ H .refl mr
        · cases h9
      · exact pts_one (sT cond c (gb s H Cc cl fp) h9).1
      · cases h9
    have hpe : ∀ (s : Shared) (H : Hp) (Cc : Addr) (cl : List (Str × Addr)) (fp : List Addr), PE (X.blk s H scope (compEnvC scope cl Cc X.env) fp) el (rE X C ca F elt) := fun s H Cc cl fp => sE elt el (gb s H Cc cl fp) h8
    refine PE.imp (pe_lc g.calm (by rw [g.hN]; exact g.nd) hi ok hpg hts hpe (fold_of h6)) fun τ H Q ⟨ρ, R, M, σ, mr, sr, w⟩ => ?_
    exact re_lc (pos := p) g.mono g.calm (by rw [g.hN]; exact g.nd) (pr_tu h5) h2 h4 hi ok hpg hts hpe (fold_of h6) mr sr w
theorem sT : ∀ (m : E) (e : Expr) {X : Cx} {sc : Scope}, Good C G ca F k N sc X → chkE N sc G m e = true → PT X e (rT X C ca F m) ∧ ∀ op l p, e = .BoolOp op l p → PW X e (rT X C ca F m)
  | .c d, e, X, sc, g, h => by
    cases e <;> first | (exact Bool.noConfusion h) | skip
    exact ⟨rt_val g.mono (c_ok h) (fun _ _ _ _ w => w) (fun _ => rfl), fun _ _ _ z => nomatch z⟩
  | .v i, e, X, sc, g, h => by
    have hE := sE (.v i) e g h
    cases e <;> first | (exact Bool.noConfusion h) | skip
    exact ⟨rt_val g.mono hE (fun σ M Qb Y w => by obtain ⟨d, e1, w⟩ := opt_bind w; show opt (get σ i) _; rw [e1]; exact w) (fun _ => rfl), fun _ _ _ z => nomatch z⟩
  | .g y, e, X, sc, g, h => by
    have hE := sE (.g y) e g h
    cases e <;> first | (exact Bool.noConfusion h) | skip
    exact ⟨rt_val g.mono hE (fun σ M Qb Y w => by obtain ⟨d, e1, w⟩ := opt_bind w; show opt (C.G y) _; rw [e1]; exact w) (fun _ => rfl), fun _ _ _ z => nomatch z⟩
  | .cmp o a b, e, X, sc, g, h => by
    cases e <;> first | (exact Bool.noConfusion h) | skip
    rename_i l ops cs p
    rcases ops with _ | ⟨op, _ | ⟨op2, ops⟩⟩ <;> rcases cs with _ | ⟨r, _ | ⟨r2, cs⟩⟩ <;> first | (exact Bool.noConfusion h) | skip
    simp only [chkE, Bool.and_eq_true] at h
    obtain ⟨⟨⟨h1, h2⟩, h3⟩, h4⟩ := h
    exact ⟨rt_cmp g.mono (units_ok g) h1 (marks_of h2) (sE a _ g h3) (sE b _ g h4), fun _ _ _ z => nomatch z⟩
  | .ch o o' a b c, e, X, sc, g, h => by
    cases e <;> first | (exact Bool.noConfusion h) | skip
    rename_i l ops cs p
    rcases ops with _ | ⟨op, _ | ⟨op2, _ | ⟨op3, ops⟩⟩⟩ <;> rcases cs with _ | ⟨r, _ | ⟨r2, _ | ⟨r3, cs⟩⟩⟩ <;> first | (exact Bool.noConfusion h) | skip
    simp only [chkE, Bool.and_eq_true] at h
    obtain ⟨⟨⟨⟨⟨h1, h2⟩, h3⟩, h4⟩, h5⟩, h6⟩ := h
    exact ⟨rt_ch g.mono (units_ok g) h1 h2 (by show behindInMarks _ _ = false; exact marks_of h3) (sE a _ g h4) (sE b _ g h5) (sE c _ g h6), fun _ _ _ z => nomatch z⟩
  | .and a b, e, X, sc, g, h => by
    cases e <;> first | (exact Bool.noConfusion h) | skip
    rename_i op l p
    cases op <;> first | (exact Bool.noConfusion h) | skip
    rcases l with _ | ⟨x, _ | ⟨y, _ | ⟨z, r⟩⟩⟩ <;> first | (exact Bool.noConfusion h) | skip
    · simp only [chkE, Bool.and_eq_true] at h
      have := rt_and g.mono (sT a _ g h.1).1 (pw_and1 (pos := p) (sT b _ g h.2).1)
      exact ⟨this.pt, fun _ _ _ _ => this⟩
    · simp only [chkE, Bool.and_eq_true] at h
      have := rt_and g.mono (sT a _ g h.1).1 ((sT b _ g h.2).2 _ _ _ rfl)
      exact ⟨this.pt, fun _ _ _ _ => this⟩
  | .or a b, e, X, sc, g, h => by
    cases e <;> first | (exact Bool.noConfusion h) | skip
    rename_i op l p
    cases op <;> first | (exact Bool.noConfusion h) | skip
    rcases l with _ | ⟨x, _ | ⟨y, _ | ⟨z, r⟩⟩⟩ <;> first | (exact Bool.noConfusion h) | skip
    · simp only [chkE, Bool.and_eq_true] at h
      have := rt_or g.mono (sT a _ g h.1).1 (pw_or1 (pos := p) (sT b _ g h.2).1)
      exact ⟨this.pt, fun _ _ _ _ => this⟩
    · simp only [chkE, Bool.and_eq_true] at h
      have := rt_or g.mono (sT a _ g h.1).1 ((sT b _ g h.2).2 _ _ _ rfl)
      exact ⟨this.pt, fun _ _ _ _ => this⟩
  | .not a, e, X, sc, g, h => by
    cases e <;> first | (exact Bool.noConfusion h) | skip
    rename_i op x p
    cases op <;> first | (exact Bool.noConfusion h) | skip
    simp only [chkE] at h
    exact ⟨rt_not g.mono (sT a _ g h).1, fun _ _ _ z => nomatch z⟩
  | .ite t a b, e, X, sc, g, h => by
    cases e <;> first | (exact Bool.noConfusion h) | skip
    simp only [chkE, Bool.and_eq_true] at h
    exact ⟨rt_ite g.mono (sT t _ g h.1.1).1 (sT a _ g h.1.2).1 (sT b _ g h.2).1, fun _ _ _ z => nomatch z⟩
  | .call f es, e, X, sc, g, h => by
    have hE := sE (.call f es) e g h
    cases e <;> first | (exact Bool.noConfusion h) | skip
    exact ⟨rt_val g.mono hE (fun σ M Qb Y w => w) (fun _ => rfl), fun _ _ _ z => nomatch z⟩
  | .bi f es, e, X, sc, g, h => by
    have hE := sE (.bi f es) e g h
    cases e <;> first | (exact Bool.noConfusion h) | skip
    exact ⟨rt_val g.mono hE (fun σ M Qb Y w => w) (fun _ => rfl), fun _ _ _ z => nomatch z⟩
  | .mt o m es, e, X, sc, g, h => by
    have hE := sE (.mt o m es) e g h
    cases e <;> first | (exact Bool.noConfusion h) | skip
    refine ⟨rt_val g.mono hE (fun σ M Qb Y w => ?_) (fun _ => rfl), fun _ _ _ z => nomatch z⟩
    cases m <;> exact w
  | .fld o f, e, X, sc, g, h => by
    have hE := sE (.fld o f) e g h
    cases e <;> first | (exact Bool.noConfusion h) | skip
    refine ⟨rt_val g.mono hE (fun σ M Qb Y w => ?_) (fun _ => rfl), fun _ _ _ z => nomatch z⟩
    exact wE_mono g.mono o σ M (fun x M1 h1 => by obtain ⟨d, e1, w⟩ := opt_bind h1; rw [e1]; exact w) (fun _ _ z => z) w
  | .isi a ts, e, X, sc, g, h => by
    have hE := sE (.isi a ts) e g h
    rcases ts with _ | ⟨t, _ | ⟨t2, ts⟩⟩
    · cases e <;> exact Bool.noConfusion h
    case cons.cons => cases e <;> exact Bool.noConfusion h
    cases e <;> first | (exact Bool.noConfusion h) | skip
    exact ⟨rt_val g.mono hE (fun σ M Qb Y w => w) (fun _ => rfl), fun _ _ _ z => nomatch z⟩
  | .bin o a b, e, X, sc, g, h => ⟨⟨fun _ _ _ _ _ _ ⟨_, _, _, _, _, _, w⟩ => w.elim⟩, fun _ _ _ _ => ⟨fun _ _ _ _ _ _ _ ⟨_, _, _, _, _, _, w⟩ => w.elim⟩⟩
  | .neg a, e, X, sc, g, h => ⟨⟨fun _ _ _ _ _ _ ⟨_, _, _, _, _, _, w⟩ => w.elim⟩, fun _ _ _ _ => ⟨fun _ _ _ _ _ _ _ ⟨_, _, _, _, _, _, w⟩ => w.elim⟩⟩
  | .tup es, e, X, sc, g, h => ⟨⟨fun _ _ _ _ _ _ ⟨_, _, _, _, _, _, w⟩ => w.elim⟩, fun _ _ _ _ => ⟨fun _ _ _ _ _ _ _ ⟨_, _, _, _, _, _, w⟩ => w.elim⟩⟩
  | .lst es, e, X, sc, g, h => ⟨⟨fun _ _ _ _ _ _ ⟨_, _, _, _, _, _, w⟩ => w.elim⟩, fun _ _ _ _ => ⟨fun _ _ _ _ _ _ _ ⟨_, _, _, _, _, _, w⟩ => w.elim⟩⟩
  | .dic ks vs, e, X, sc, g, h => ⟨⟨fun _ _ _ _ _ _ ⟨_, _, _, _, _, _, w⟩ => w.elim⟩, fun _ _ _ _ => ⟨fun _ _ _ _ _ _ _ ⟨_, _, _, _, _, _, w⟩ => w.elim⟩⟩
  | .ix a i, e, X, sc, g, h => ⟨⟨fun _ _ _ _ _ _ ⟨_, _, _, _, _, _, w⟩ => w.elim⟩, fun _ _ _ _ => ⟨fun _ _ _ _ _ _ _ ⟨_, _, _, _, _, _, w⟩ => w.elim⟩⟩
  | .sl a l u, e, X, sc, g, h => ⟨⟨fun _ _ _ _ _ _ ⟨_, _, _, _, _, _, w⟩ => w.elim⟩, fun _ _ _ _ => ⟨fun _ _ _ _ _ _ _ ⟨_, _, _, _, _, _, w⟩ => w.elim⟩⟩
  | .new c es, e, X, sc, g, h => ⟨⟨fun _ _ _ _ _ _ ⟨_, _, _, _, _, _, w⟩ => w.elim⟩, fun _ _ _ _ => ⟨fun _ _ _ _ _ _ _ ⟨_, _, _, _, _, _, w⟩ => w.elim⟩⟩
  | .al m, e, X, sc, g, h => ⟨⟨fun _ _ _ _ _ _ ⟨_, _, _, _, _, _, w⟩ => w.elim⟩, fun _ _ _ _ => ⟨fun _ _ _ _ _ _ _ ⟨_, _, _, _, _, _, w⟩ => w.elim⟩⟩
  | .lc a b c d f, e, X, sc, g, h => ⟨⟨fun _ _ _ _ _ _ ⟨_, _, _, _, _, _, w⟩ => w.elim⟩, fun _ _ _ _ => ⟨fun _ _ _ _ _ _ _ ⟨_, _, _, _, _, _, w⟩ => w.elim⟩⟩
theorem sEs : ∀ (m : Es) (es : List Expr) {X : Cx} {sc : Scope}, Good C G ca F k N sc X → chkEs N sc G m es = true → PA X es (rEs X C ca F m)
  | .nil, es, X, sc, g, h => by
    cases es with
    | nil => exact rs_nil
    | cons _ _ => cases h
  | .cons e r, es, X, sc, g, h => by
    cases es with
    | nil => cases h
    | cons x xs =>
      have h' : (noStar x && chkE N sc G e x && chkEs N sc G r xs) = true := h
      simp only [Bool.and_eq_true] at h'
      exact rs_cons g.mono (star_cons h'.1.1) (sE e x g h'.1.2) (sEs r xs g h'.2)
theorem sEt : ∀ (m : Es) (es : List Expr) {X : Cx} {sc : Scope}, Good C G ca F k N sc X → chkEs N sc G m es = true → PA X es (rEt X C ca F m)
  | .nil, es, X, sc, g, h => by
    cases es with
    | nil => exact rt_nil
    | cons _ _ => cases h
  | .cons e r, es, X, sc, g, h => by
    cases es with
    | nil => cases h
    | cons x xs =>
      have h' : (noStar x && chkE N sc G e x && chkEs N sc G r xs) = true := h
      simp only [Bool.and_eq_true] at h'
      exact rt_cons g.mono (star_cons h'.1.1) (sE e x g h'.1.2) (sEt r xs g h'.2)
theorem sO : ∀ (m : Oe) (e : Option Expr) {X : Cx} {sc : Scope}, Good C G ca F k N sc X → chkO N sc G m e = true → PO X e (rO X C ca F m)
  | .no, e, X, sc, g, h => by
    cases e with
    | none => exact ro_no
    | some _ => cases h
  | .some m, e, X, sc, g, h => by
    cases e with
    | none => cases h
    | some x => exact ro_some g.mono (sE m x g (show chkE N sc G m x = true from h))
theorem sI : ∀ (m : Ie) (e t : Expr) {X : Cx} {sc : Scope}, Good C G ca F k N sc X → chkI N sc G m e = true → (prI m = true → ∃ es kk p, t = .Tuple es kk p) → PI X t e (rI X C ca F m)
  | .rng a, e, t, X, sc, g, h, hp => by
    cases e <;> first | (exact Bool.noConfusion h) | skip
    rename_i fn args kw p
    cases fn <;> first | (exact Bool.noConfusion h) | skip
    rcases args with _ | ⟨y, _ | ⟨z, args⟩⟩ <;> first | (exact Bool.noConfusion h) | skip
    cases kw <;> first | (exact Bool.noConfusion h) | skip
    simp only [chkI, Bool.and_eq_true, decide_eq_true_eq] at h
    obtain ⟨⟨⟨h1, h2⟩, h3⟩, h4⟩ := h
    subst h1
    exact ri_rng g (glb_ok g.hsc h2) h3 (sE a _ g h4)
  | .rng2 a b, e, t, X, sc, g, h, hp => by
    cases e <;> first | (exact Bool.noConfusion h) | skip
    rename_i fn args kw p
    cases fn <;> first | (exact Bool.noConfusion h) | skip
    rcases args with _ | ⟨y, _ | ⟨z, _ | ⟨z2, args⟩⟩⟩ <;> first | (exact Bool.noConfusion h) | skip
    cases kw <;> first | (exact Bool.noConfusion h) | skip
    simp only [chkI, Bool.and_eq_true, decide_eq_true_eq] at h
    obtain ⟨⟨⟨⟨⟨h1, h2⟩, h3⟩, h4⟩, h5⟩, h6⟩ := h
    subst h1
    exact ri_rng2 g (glb_ok g.hsc h2) h3 h4 (sE a _ g h5) (sE b _ g h6)
  | .enum a, e, t, X, sc, g, h, hp => by
    cases e <;> first | (exact Bool.noConfusion h) | skip
    rename_i fn args kw p
    cases fn <;> first | (exact Bool.noConfusion h) | skip
    rcases args with _ | ⟨y, _ | ⟨z, args⟩⟩ <;> first | (exact Bool.noConfusion h) | skip
    cases kw <;> first | (exact Bool.noConfusion h) | skip
    simp only [chkI, Bool.and_eq_true, decide_eq_true_eq] at h
    obtain ⟨⟨⟨h1, h2⟩, h3⟩, h4⟩ := h
    subst h1
    obtain ⟨es, kk, tp, rfl⟩ := hp rfl
    exact ri_enum g (glb_ok g.hsc h2) h3 (sE a _ g h4)
  | .zip a b, e, t, X, sc, g, h, hp => by
    cases e <;> first | (exact Bool.noConfusion h) | skip
    rename_i fn args kw p
    cases fn <;> first | (exact Bool.noConfusion h) | skip
    rcases args with _ | ⟨y, _ | ⟨z, _ | ⟨z2, args⟩⟩⟩ <;> first | (exact Bool.noConfusion h) | skip
    cases kw <;> first | (exact Bool.noConfusion h) | skip
    simp only [chkI, Bool.and_eq_true, decide_eq_true_eq] at h
    obtain ⟨⟨⟨⟨⟨h1, h2⟩, h3⟩, h4⟩, h5⟩, h6⟩ := h
    subst h1
    obtain ⟨es, kk, tp, rfl⟩ := hp rfl
    exact ri_zip g (glb_ok g.hsc h2) h3 h4 (sE a _ g h5) (sE b _ g h6)
  | .of m, e, t, X, sc, g, h, hp => ri_of g.mono (sE m e g (show chkE N sc G m e = true from h))
theorem sPs : ∀ (ks : List D) (vs : Es) (kl : List (Option Expr)) (vl : List Expr) {X : Cx} {sc : Scope} {pos : Pos}, Good C G ca F k N sc X → chkK ks kl = true → chkEs N sc G vs vl = true → ks.length = vl.length →
    PPs X pos kl vl (trsOf X C ca F ks vs) ∧ kl.all (·.isSome) = true ∧ ks.all isKey = true ∧ ks.length = kl.length
  | ks, .nil, kl, vl, X, sc, pos, g, h1, h2, h3 => by
    cases vl with
    | cons _ _ => cases h2
    | nil =>
      cases ks with
      | cons _ _ => cases h3
      | nil =>
        cases kl with
        | cons a _ => cases a <;> cases h1
        | nil => exact ⟨pps_nil, rfl, rfl, rfl⟩
  | ks, .cons e r, kl, vl, X, sc, pos, g, h1, h2, h3 => by
    cases vl with
    | nil => cases h2
    | cons x xs =>
      have h' : (noStar x && chkE N sc G e x && chkEs N sc G r xs) = true := h2
      simp only [Bool.and_eq_true] at h'
      cases ks with
      | nil => cases h3
      | cons d ds =>
        rcases kl with _ | ⟨_ | kx, kl⟩
        · cases h1
        · cases h1
        · cases kx <;> first | (exact Bool.noConfusion h1) | skip
          rename_i kc kj kp
          have h1' : (chkC d kc && isKey d && chkK ds kl) = true := h1
          simp only [Bool.and_eq_true] at h1'
          obtain ⟨⟨c1, c2⟩, c3⟩ := h1'
          obtain ⟨p1, p2, p3, p4⟩ := sPs ds r kl xs (pos := pos) g c3 h'.2 (Nat.succ.inj h3)
          have hk : PE X (.Constant kc kj kp) (tC (vOf d)) := by
            cases d <;> first | (exact Bool.noConfusion c2) | skip
            · cases kc <;> first | (exact Bool.noConfusion c1) | skip
              obtain rfl := of_decide_eq_true c1
              exact pe_int
            · cases kc <;> first | (exact Bool.noConfusion c1) | skip
              obtain rfl := of_decide_eq_true c1
              exact pe_str
          refine ⟨pps_cons hk (sE e x g h'.1.2) p1, ?_, ?_, by rw [List.length_cons, List.length_cons, p4]⟩
          · rw [List.all_cons, p2]; rfl
          · rw [List.all_cons, c2, p3]; rfl
end
end
end Mp
end

section
/-! MiniPy: statements. -/
set_option linter.all false
set_option maxRecDepth 100000
set_option maxHeartbeats 0
namespace Mp
open PySem PySem.Spec PyProof.Rows L2
section
variable {K : PySem.W.Frag} {A : String → List String} {ca : CA} {ρ0 ρ ρ1 ρ2 R R1 R' : List Addr} {H0 H H1 H2 H' : Hp} {M M' : Me} {X : Cx} {C : Cn} {F : Or} {G : Gs} {N : List Str} {sc : Scope} {k : Nat}
abbrev SQ (K : PySem.W.Frag) (A : String → List String) (ca : CA) (ρ R : List Addr) (H : Hp) (Q : L2.St → Hp → Prop) : Sg → Me → Prop := fun σ' M' => ∀ ρ' τ' H', Grow ρ H ρ' H' → MR K A ca ρ' R M' H' → SR K ρ' R H' σ' τ' → Q τ' H'
def PQ (X : Cx) (C : Cn) (ca : CA) (ρ R : List Addr) (H : Hp) (D : Ends) : Post where
  nx := SQ X.K C.A ca ρ R H D.nx
  rt := KQ X.K C.A ca ρ R H D.rt
  bk := SQ X.K C.A ca ρ R H D.bk
  ct := SQ X.K C.A ca ρ R H D.ct
  ex := fun _ _ _ => False
def rS (X : Cx) (C : Cn) (ca : CA) (F : Or) (m : S) : TS := fun D τ H => ∃ ρ R M σ, MR X.K C.A ca ρ R M H ∧ SR X.K ρ R H σ τ ∧ wS C F m σ M (PQ X C ca ρ R H D)
def rSs (X : Cx) (C : Cn) (ca : CA) (F : Or) (m : Ss) : TS := fun D τ H => ∃ ρ R M σ, MR X.K C.A ca ρ R M H ∧ SR X.K ρ R H σ τ ∧ wSs C F m σ M (PQ X C ca ρ R H D)
theorem SQ.from {Q : L2.St → Hp → Prop} {σ' : Sg} {M1 : Me} (g : Grow ρ H ρ1 H1) (q : SQ K A ca ρ R H Q σ' M1) : SQ K A ca ρ1 R H1 Q σ' M1 := fun ρ' τ' H' g' m' s' => q ρ' τ' H' (g.trans g') m' s'
theorem KQ.from {Q : VK} {d : D} {M1 : Me} (g : Grow ρ H ρ1 H1) (q : KQ K A ca ρ R H Q d M1) : KQ K A ca ρ1 R H1 Q d M1 := fun ρ' v' H' e => q ρ' v' H' (e.from g)
theorem PQ.le (g : Grow ρ H ρ1 H1) {D : Ends} : (PQ X C ca ρ R H D).le (PQ X C ca ρ1 R H1 D) := ⟨fun _ _ q => SQ.from g q, fun _ _ q => KQ.from g q, fun _ _ q => SQ.from g q, fun _ _ q => SQ.from g q, fun _ _ _ z => z⟩
theorem PS.imp {s : Stmt} {t t' : TS} (h : PS X s t) (f : ∀ D τ H, t' D τ H → t D τ H) : PS X s t' := ⟨fun pins s σ H D I q => h.run pins s σ H D I (f _ _ _ q)⟩
theorem PSs.imp {s : List Stmt} {t t' : TS} (h : PSs X s t) (f : ∀ D τ H, t' D τ H → t D τ H) : PSs X s t' := ⟨fun pins s σ H D I q => h.run pins s σ H D I (f _ _ _ q)⟩
theorem rSs_next (hF : MonoOr F) {m : Ss} {D' : Ends} {τ : L2.St} {σ : Sg} {P : Post} (mr : MR X.K C.A ca ρ R M H) (sr : SR X.K ρ R H σ τ) (w : wSs C F m σ M P) (le : P.le (PQ X C ca ρ R H D')) : rSs X C ca F m D' τ H :=
  ⟨ρ, R, M, σ, mr, sr, wSs_mono hF m σ M le w⟩
/-- [..] and its parts -/
theorem sLc : ∀ (m : E) (el : Expr) (gs : List Comprehension) (scope : Scope) (p : Pos) {X : Cx} {sc : Scope}, Good C G ca F k N sc X → chkE N sc G m (.ListComp el gs scope p) = true →
    ∃ t i ifs wi g tt te ow, gs = [⟨t, i, ifs, 0⟩] ∧ PI X t i wi ∧ BlkOk X.N X.env.scope scope ow ∧ (∀ (s : Shared) (H : Hp) (Cc : Addr) (cl : List (Str × Addr)) (fp : List Addr), PG (X.blk s H scope (compEnvC scope cl Cc X.env) fp) t g) ∧
      (∀ (s : Shared) (H : Hp) (Cc : Addr) (cl : List (Str × Addr)) (fp : List Addr), PTs (X.blk s H scope (compEnvC scope cl Cc X.env) fp) ifs tt) ∧ (∀ (s : Shared) (H : Hp) (Cc : Addr) (cl : List (Str × Addr)) (fp : List Addr), PE (X.blk s H scope (compEnvC scope cl Cc X.env) fp) el te) ∧
      (∀ x, foldedSetIterable i X.env x = pure x) ∧ ∀ τ H Q, rE X C ca F m τ H Q → tLc wi g tt te (ow.map (·.2)) τ H Q := by
  intro m
  induction m using E.rec (motive_2 := fun _ => True) (motive_3 := fun _ => True) (motive_4 := fun _ => True) with
  | al m ih =>
    intro el gs scope p X sc g h
    obtain ⟨t, i, ifs, wi, gg, tt, te, ow, h1, h2, h3, h4, h5, h6, h7, h8⟩ := ih el gs scope p g (show chkE N sc G m _ = true from h)
    exact ⟨t, i, ifs, wi, gg, tt, te, ow, h1, h2, h3, h4, h5, h6, h7, fun τ H Q q => h8 τ H Q (al_strip g.mono q)⟩
  | lc elt tg it cond own =>
    intro el gs scope p X sc g h
    rcases gs with _ | ⟨⟨t, i, ifs, as⟩, _ | ⟨g2, gs⟩⟩
    · exact Bool.noConfusion h
    · have h' : (decide (as = 0) && blkC N sc scope (ownOf N own) && decide ((ownOf N own).map (·.2) = own) && chkT N (relS scope sc) (cell scope) tg t && decide (∀ i ∈ tgIs tg, i ∈ own) && itTg it tg && noSet i && chkI N sc G it i &&
        chkE N (relS scope sc) G elt el && (match (generalizing := false) ifs with
        | [] => (match (generalizing := false) cond with
          | .c (.bl true) => true
          | _ => false)
        | [c] => chkE N (relS scope sc) G cond c
        | _ => false)) = true := h
      simp only [Bool.and_eq_true, decide_eq_true_eq] at h'
      obtain ⟨⟨⟨⟨⟨⟨⟨⟨⟨h0, h1⟩, h2⟩, h3⟩, h4⟩, h5⟩, h6⟩, h7⟩, h8⟩, h9⟩ := h'
      subst h0
      have ok : BlkOk X.N X.env.scope scope (ownOf N own) := by rw [g.hN, g.hsc]; exact blkOk_by h1
      have gb := fun (s : Shared) (H : Hp) (Cc : Addr) (cl : List (Str × Addr)) (fp : List Addr) => g.blk ok.kind s H Cc cl fp
      have hi : PI X t i (rI X C ca F it) := sI it i t g h7 fun hp => by
        obtain ⟨is, rfl⟩ := pr_tu h5 hp
        exact tu_tuple h3
      have hpg : ∀ (s : Shared) (H : Hp) (Cc : Addr) (cl : List (Str × Addr)) (fp : List Addr), PG (X.blk s H scope (compEnvC scope cl Cc X.env) fp) t (rG X.K tg) := fun s H Cc cl fp =>
        pg_ok (X := X.blk s H scope (compEnvC scope cl Cc X.env) fp) (fn := cell scope) ⟨g.hN, g.nd, (gb s H Cc cl fp).hsc, fun x hx => cell_fn hx⟩ g.calm h3
      have hts : ∀ (s : Shared) (H : Hp) (Cc : Addr) (cl : List (Str × Addr)) (fp : List Addr), PTs (X.blk s H scope (compEnvC scope cl Cc X.env) fp) ifs (rT X C ca F cond) := fun s H Cc cl fp => by
        rcases ifs with _ | ⟨c, _ | ⟨c2, ifs⟩⟩
        · refine ⟨fun pins s σ H Q I ⟨ρ, R, M, σ', mr, sr, w⟩ => pts_nil.run pins s σ H Q I ?_⟩
          dsimp only at h9
          split at h9
          · exact w ρ H .refl mr
          · cases h9
        · exact pts_one (sT cond c (gb s H Cc cl fp) h9).1
        · cases h9
      have hpe : ∀ (s : Shared) (H : Hp) (Cc : Addr) (cl : List (Str × Addr)) (fp : List Addr), PE (X.blk s H scope (compEnvC scope cl Cc X.env) fp) el (rE X C ca F elt) := fun s H Cc cl fp => sE elt el (gb s H Cc cl fp) h8
      exact ⟨t, i, ifs, _, _, _, _, _, rfl, hi, ok, hpg, hts, hpe, fold_of h6, fun τ H Q ⟨ρ, R, M, σ, mr, sr, w⟩ => re_lc (pos := p) g.mono g.calm (by rw [g.hN]; exact g.nd) (pr_tu h5) h2 h4 hi ok hpg hts hpe (fold_of h6) mr sr w⟩
    · exact Bool.noConfusion h
  | nil => trivial
  | cons => trivial
  | no => trivial
  | some => trivial
  | rng => trivial
  | rng2 => trivial
  | enum => trivial
  | zip => trivial
  | of => trivial
  | isi a ts => intro el gs scope p X sc g h; rcases ts with _ | ⟨t, _ | ⟨t2, ts⟩⟩ <;> exact Bool.noConfusion h
  | _ => intro el gs scope p X sc g h; exact Bool.noConfusion h
theorem wI_sub {D : Ends} {τ : L2.St} {σ : Sg} : True := trivial
/-! ### for -/
theorem rs_for (g : Good C G ca F k N sc X) {tg : Tg} {it : Ie} {b : Ss} {t i : Expr} {body : List Stmt} {pos : Pos} (hpr : prI it = true → ∃ is, tg = .tu is) (hi : PI X t i (rI X C ca F it)) (hg : PG X t (rG X.K tg)) (hb : PSs X body (rSs X C ca F b)) (hs : ∀ x, foldedSetIterable i X.env x = pure x) :
    PS X (.For t i body [] pos) (rS X C ca F (.for_ tg it b)) := by
  refine PS.imp (ps_for (by rw [g.xe]; exact .never) g.calm hi hg hb hs) fun D τ H ⟨ρ, R, M, σ, mr, sr, w⟩ => ?_
  rw [wS] at w
  refine ⟨ρ, R, M, σ, mr, sr, wI_mono g.mono it σ M (fun I M1 h1 ρ1 J H1 g1 m1 iw => ?_) (fun _ _ z => z) w⟩
  refine ⟨fun j n τ' H' => n = I.xs.length - j ∧ j ≤ I.xs.length ∧ ∃ ρ' M' σ', Grow ρ1 H1 ρ' H' ∧ MR X.K C.A ca ρ' R M' H' ∧ SR X.K ρ' R H' σ' τ' ∧
    wFor (fun x σ2 M2 P2 => opt (asgO tg x σ2 M2) fun σ3 => wSs C F b σ3 M2 P2) I.ok (PQ X C ca ρ R H D) (I.xs.drop j) σ' M', ⟨I.xs.length, by simp, Nat.zero_le _, ρ1, M1, σ, .refl, m1, sr.mono g1, h1⟩, ?_⟩
  rintro j n τ' H' ⟨rfl, hj, ρ', M', σ', g', m', s', hw⟩
  by_cases hlt : j < I.xs.length
  · rw [List.drop_eq_getElem_cons hlt] at hw
    obtain ⟨hok, hb⟩ := hw
    obtain ⟨f1, _⟩ := iw ρ' R M' H' g' (.inl rfl) m' hok
    obtain ⟨hgo, hy⟩ := f1 j _ (List.getElem?_eq_getElem hlt)
    obtain ⟨σ1, eσ, hb⟩ := opt_ex hb
    refine .inr ⟨hgo, fun τ4 H4 => ∃ ρ' M' σ', Grow ρ1 H1 ρ' H4 ∧ MR X.K C.A ca ρ' R M' H4 ∧ SR X.K ρ' R H4 σ' τ4 ∧
      wFor (fun x σ2 M2 P2 => opt (asgO tg x σ2 M2) fun σ3 => wSs C F b σ3 M2 P2) I.ok (PQ X C ca ρ R H D) (I.xs.drop (j + 1)) σ' M',
      fun τ4 H4 h4 => ⟨I.xs.length - (j + 1), by omega, rfl, hlt, h4⟩, fun x H2 hx => ?_⟩
    obtain ⟨g2, m2, iv⟩ := hy x H2 hx
    refine asg_ok hpr m2 (s'.mono g2) iv eσ fun τ1 sr1 _ => ?_
    have gg : Grow ρ H ρ' H2 := (g1.trans g').trans g2
    refine rSs_next g.mono m2 sr1 hb ⟨?_, ?_, ?_, ?_, fun _ _ _ z => z⟩
    · exact fun σ4 M4 h4 ρ4 τ4 H4 g4 m4 s4 => ⟨ρ4, M4, σ4, (g'.trans g2).trans g4, m4, s4, h4⟩
    · exact fun d M4 q => KQ.from gg q
    · exact fun σ4 M4 q => SQ.from gg q
    · exact fun σ4 M4 h4 ρ4 τ4 H4 g4 m4 s4 => ⟨ρ4, M4, σ4, (g'.trans g2).trans g4, m4, s4, h4⟩
  · have e : j = I.xs.length := by omega
    subst e
    rw [List.drop_length] at hw
    obtain ⟨hok, hq⟩ := hw
    obtain ⟨_, hstop⟩ := iw ρ' R M' H' g' (.inl rfl) m' hok
    exact .inl ⟨hstop, hq ρ' τ' H' (g1.trans g') m' s'⟩
theorem rs_whl (g : Good C G ca F k N sc X) {t : E} {b : Ss} {c : Expr} {body : List Stmt} {pos : Pos} (ht : PT X c (rT X C ca F t)) (hb : PSs X body (rSs X C ca F b)) : PS X (.While c body [] pos) (rS X C ca F (.whl t b)) := by
  refine PS.imp (ps_while (by rw [g.xe]; exact .never) ht hb) fun D τ H ⟨ρ, R, M, σ, mr, sr, w⟩ => ?_
  obtain ⟨n, w⟩ := w
  refine ⟨fun m τ' H' => ∃ ρ' M' σ', Grow ρ H ρ' H' ∧ MR X.K C.A ca ρ' R M' H' ∧ SR X.K ρ' R H' σ' τ' ∧ wWhl (fun σ2 M2 Rr => wT C F t σ2 M2 Rr (fun _ _ => False)) (fun σ2 M2 P2 => wSs C F b σ2 M2 P2) (PQ X C ca ρ R H D) m σ' M', ⟨n, ρ, M, σ, .refl, mr, sr, w⟩, ?_⟩
  rintro m τ' H' ⟨ρ', M', σ', g', m', s', hw⟩
  cases m with
  | zero => exact hw.elim
  | succ m =>
    refine rT_next g.mono m' s' hw fun k M1 h1 ρ1 H1 g1 m1 => ?_
    have gg := g'.trans g1
    cases k with
    | false =>
      rw [if_neg Bool.false_ne_true]
      exact h1 ρ1 τ' H1 gg m1 (s'.mono g1)
    | true =>
      rw [if_pos rfl]
      refine ⟨fun τ4 H4 => ∃ ρ' M' σ', Grow ρ H ρ' H4 ∧ MR X.K C.A ca ρ' R M' H4 ∧ SR X.K ρ' R H4 σ' τ4 ∧ wWhl (fun σ2 M2 Rr => wT C F t σ2 M2 Rr (fun _ _ => False)) (fun σ2 M2 P2 => wSs C F b σ2 M2 P2) (PQ X C ca ρ R H D) m σ' M', fun τ4 H4 h4 => ⟨m, Nat.lt_succ_self _, h4⟩, ?_⟩
      refine rSs_next g.mono m1 (s'.mono g1) h1 ⟨?_, ?_, ?_, ?_, fun _ _ _ z => z⟩
      · exact fun σ4 M4 h4 ρ4 τ4 H4 g4 m4 s4 => ⟨ρ4, M4, σ4, gg.trans g4, m4, s4, h4⟩
      · exact fun d M4 q => KQ.from gg q
      · exact fun σ4 M4 q => SQ.from gg q
      · exact fun σ4 M4 h4 ρ4 τ4 H4 g4 m4 s4 => ⟨ρ4, M4, σ4, gg.trans g4, m4, s4, h4⟩
theorem not_lc_of {v : Expr} (h : notComp v = true) (h2 : isLc v = false) {t : Option Expr} {l : Nat} {env : Env} : swapsWith v t l env = pure false := by
  cases v <;> first
    | rfl
    | (exact Bool.noConfusion h)
    | (exact Bool.noConfusion h2)
theorem swap_other {v : Expr} (h : notComp v = true) {t : Expr} (ht : ∀ x p, t ≠ .Name x p) {l : Nat} {env : Env} : swapsWith v (some t) l env = pure false := by
  cases v <;> first
    | rfl
    | (exact Bool.noConfusion h)
    | (cases t <;> first
        | rfl
        | exact absurd rfl (ht _ _))
theorem Good.nm (g : Good C G ca F k N sc X) (hf : ∀ x, X.fn x = true) : NmOk (fun _ => true) X N sc := ⟨g.hN, g.nd, g.hsc, fun x _ => hf x⟩
theorem Good.nox (g : Good C G ca F k N sc X) : Good C G ca F k N sc X.nox :=
  ⟨g.mono, g.hN, g.nd, g.hsc, g.fnk, g.calm, rfl, g.room, g.blt, g.con, fun f hf => ⟨(g.fns f hf).ex⟩, g.cls⟩
theorem sw_sole {t v : Expr} {l : Nat} {env : Env} : swapsWithSole [t] v l env = swapsWith v (some t) l env := rfl
mutual
theorem sS : ∀ (m : S) (s : Stmt) {X : Cx} {sc : Scope}, Good C G ca F k N sc X → (∀ x, X.fn x = true) → chkS N sc G m s = true → PS X s (rS X C ca F m)
  | .asg i e, s, X, sc, g, hf, h => by
    cases s <;> first | (exact Bool.noConfusion h) | skip
    rename_i ts v p
    rcases ts with _ | ⟨t, _ | ⟨t2, ts⟩⟩ <;> first | (exact Bool.noConfusion h) | skip
    · cases t <;> first | (exact Bool.noConfusion h) | skip
      rename_i x px
      simp only [chkS, Bool.and_eq_true] at h
      obtain ⟨⟨⟨h1, h2⟩, h3⟩, h4⟩ := h
      obtain ⟨x', p', he, n1, n2, n3⟩ := chkN_inv h1
      cases he
      have nm := g.nm hf
      have fin : ∀ D τ H, rS X C ca F (.asg i e) D τ H → rE X C ca F e τ H (fun x H1 => gName i x τ H1 D.nx) := fun D τ H ⟨ρ, R, M, σ, mr, sr, w⟩ =>
        rE_next g.mono mr sr w fun d M1 h1 ρ1 v1 H1 e1 => h1 ρ1 _ H1 e1.gr e1.mr ((sr.mono e1.gr).set e1.dv.frz (nt_frz _))
      cases hl : isLc v with
      | false =>
        exact PS.imp (ps_set (by rw [g.hN]; exact g.nd) (by rw [g.hN]; exact n1) (by rw [g.hsc]; exact n2) (sE e v g h4) (not_lc_of h2 hl) (.inl (hf _))) fin
      | true =>
        cases v <;> first | (exact Bool.noConfusion hl) | skip
        rename_i el gs scope lp
        have hsw : lcSwap sc x px (.ListComp el gs scope lp) = true := by
          rw [hl] at h3
          simpa using h3
        unfold lcSwap at hsw
        simp only [Bool.and_eq_true] at hsw
        obtain ⟨⟨w1, w2⟩, w3⟩ := hsw
        obtain ⟨t, it, ifs, wi, gg, tt, te, ow, e0, k1, k2, k3, k4, k5, k6, k7⟩ := sLc e el gs scope lp g h4
        subst e0
        have hloc : X.env.scope.names.lookup x = some .local := by
          rw [g.hsc]
          unfold locl at w1
          split at w1
          · assumption
          · cases w1
        refine PS.imp (ps_setLc g.calm (by rw [g.hN]; exact g.nd) (by rw [g.hN]; exact n1) hloc (sw_true (by rw [g.hsc]; exact g.fnk) hloc w2 (by simpa using w3)) k1 k2 k3 k4 k5 k6) fun D τ H q => k7 τ H _ (fin D τ H q)
    · cases t <;> exact Bool.noConfusion h
  | .tas is e, s, X, sc, g, hf, h => by
    cases s <;> first | (exact Bool.noConfusion h) | skip
    rename_i ts v p
    rcases ts with _ | ⟨t, _ | ⟨t2, ts⟩⟩ <;> first | (exact Bool.noConfusion h) | skip
    · cases t <;> first | (exact Bool.noConfusion h) | skip
      rename_i es kk tp
      simp only [chkS, Bool.and_eq_true] at h
      obtain ⟨⟨h1, h2⟩, h3⟩ := h
      have hpg : PG X (.Tuple es kk tp) (rG X.K (.tu is)) := pg_ok (g.nm hf) g.calm (show chkT N sc (fun _ => true) (.tu is) (.Tuple es kk tp) = true from h1)
      have hv : isTupE v = false := by simpa using h2
      refine PS.imp (ps_asg (sE e v g h3) hpg ?_ ?_ rfl) fun D τ H ⟨ρ, R, M, σ, mr, sr, w⟩ => ?_
      · cases v <;> rfl
      · cases v <;> first | rfl | (exact Bool.noConfusion hv)
      · refine rE_next g.mono mr sr w fun d M1 h1 ρ1 v1 H1 e1 => ?_
        obtain ⟨σ', eσ, q⟩ := opt_ex h1
        obtain ⟨ds, e2, e3⟩ := Option.bind_eq_some_iff.mp eσ
        obtain ⟨a, vs, rfl, hq, hs⟩ := e1.dv.seqS e1.mr e2
        obtain ⟨s1, s2⟩ := (sr.mono e1.gr).sets e3 hs
        exact ⟨a, vs, rfl, hq, s2, q ρ1 _ H1 e1.gr e1.mr s1⟩
    · cases t <;> exact Bool.noConfusion h
  | .par is es, s, X, sc, g, hf, h => by cases s <;> exact Bool.noConfusion h
  | .ixs o i e, s, X, sc, g, hf, h => by
    cases s <;> first | (exact Bool.noConfusion h) | skip
    rename_i ts v p
    rcases ts with _ | ⟨t, _ | ⟨t2, ts⟩⟩ <;> first | (exact Bool.noConfusion h) | skip
    · cases t <;> first | (exact Bool.noConfusion h) | skip
      rename_i ob ix tp
      simp only [chkS, Bool.and_eq_true] at h
      obtain ⟨⟨⟨h1, h2⟩, h3⟩, h4⟩ := h
      have hpg : PG X (.Subscript ob ix tp) (gSub (rE X C ca F o) (rE X C ca F i) (uSet X)) := pg_sub (sE o ob g h2) (sE i ix g h3) (uSet_ok (X := X)) (by
        intro v
        cases ix <;> first | rfl | (exact Bool.noConfusion h1))
      refine PS.imp (ps_asg (sE e v g h4) hpg ?_ ?_ rfl) fun D τ H ⟨ρ, R, M, σ, mr, sr, w⟩ => ?_
      · cases v <;> rfl
      · cases v <;> rfl
      · refine rE_next g.mono mr sr w fun z M1 h1 ρ1 zv H1 e1 => rE_next g.mono e1.mr (sr.mono e1.gr) h1 fun x M2 h2 ρ2 xv H2 e2 =>
          rE_next g.mono e2.mr ((sr.mono e1.gr).mono e2.gr) h2 fun y M3 h3 ρ3 yv H3 e3 => ?_
        obtain ⟨M4, e4, q⟩ := opt_ex h3
        have gg := (e1.gr.trans e2.gr).trans e3.gr
        exact st_ok (units_ok g) ⟨gg, e3.mr⟩ (e2.dv.mono e3.gr) e3.dv ((e1.dv.mono e2.gr).mono e3.gr) e4 fun ρ' H' g' m' => q ρ' _ H' g' m' (sr.mono g')
    · cases t <;> exact Bool.noConfusion h
  | .fas o f e, s, X, sc, g, hf, h => by
    cases s <;> first | (exact Bool.noConfusion h) | skip
    rename_i ts v p
    rcases ts with _ | ⟨t, _ | ⟨t2, ts⟩⟩ <;> first | (exact Bool.noConfusion h) | skip
    · cases t <;> first | (exact Bool.noConfusion h) | skip
      rename_i ob nm tp
      simp only [chkS, Bool.and_eq_true, decide_eq_true_eq] at h
      obtain ⟨⟨h1, h2⟩, h3⟩ := h
      refine PS.imp (ps_fld (sE o ob g h2) (sE e v g h3) (by cases v <;> rfl)) fun D τ H ⟨ρ, R, M, σ, mr, sr, w⟩ => ?_
      refine rE_next g.mono mr sr w fun z M1 h1' ρ1 zv H1 e1 => rE_next g.mono e1.mr (sr.mono e1.gr) h1' fun x M2 h2 ρ2 xv H2 e2 => ?_
      obtain ⟨M3, e3, q⟩ := opt_ex h2
      unfold fasOf at e3
      split at e3
      · rename_i n
        cases e4 : insAt M2 n with
        | none => rw [e4] at e3; cases e3
        | some p =>
          rw [e4] at e3
          have e3' : (if f ∈ C.A p.1 ∧ p.2.length < 100 then some (M2.set n (.ins p.1 (fput f (frz z) p.2))) else none) = some M3 := e3
          split at e3'
          · rename_i hc
            cases e3'
            obtain ⟨a, dx, gs, rfl, hr, eH, rel⟩ := ins_at e2.mr e4 e2.dv
            obtain ⟨c1, c2⟩ := g.cls p.1 (fun z => by rw [z] at hc; cases hc.1)
            rw [← h1]
            have gset := grow_set (ρ := ρ2) (H := H2) (o := .ins (ca p.1) dx (putF (so f) zv gs)) hr
            refine ⟨a, _, dx, gs, rfl, eH, c1, c2 f hc.1, by have := Paired.length rel; omega, ?_⟩
            refine q ρ2 _ _ ((e1.gr.trans e2.gr).trans gset) (e2.mr.set hr ⟨dx, _, upd_same, Paired.mapP (fr_put (e1.dv.frz.mono e2.gr) (nt_frz _) hc.1 rel) fun x y z => ⟨z.1, z.2.1.mono gset, z.2.2⟩⟩) (((sr.mono e1.gr).mono e2.gr).mono gset)
          · cases e3'
      · cases e3
    · cases t <;> exact Bool.noConfusion h
  | .ex e, s, X, sc, g, hf, h => by
    cases s <;> first | (exact Bool.noConfusion h) | skip
    rename_i v p
    simp only [chkS, Bool.and_eq_true] at h
    obtain ⟨⟨h1, h2⟩, h3⟩ := h
    refine PS.imp (ps_expr (sE e v g h1) (not_lc_of h2 (by simpa using h3))) fun D τ H ⟨ρ, R, M, σ, mr, sr, w⟩ => ?_
    exact rE_next g.mono mr sr w fun d M1 h1 ρ1 v1 H1 e1 => h1 ρ1 τ H1 e1.gr e1.mr (sr.mono e1.gr)
  | .ret e, s, X, sc, g, hf, h => by
    cases s <;> first | (exact Bool.noConfusion h) | skip
    rename_i v p
    cases v <;> first | (exact Bool.noConfusion h) | skip
    rename_i v
    have h' : chkE N sc G e v = true := h
    exact PS.imp (ps_ret (sE e v g h')) fun D τ H ⟨ρ, R, M, σ, mr, sr, w⟩ => ⟨ρ, R, M, σ, mr, sr, w⟩
  | .retn, s, X, sc, g, hf, h => by
    cases s <;> first | (exact Bool.noConfusion h) | skip
    rename_i v p
    cases v <;> first | (exact Bool.noConfusion h) | skip
    exact PS.imp ps_retN fun D τ H ⟨ρ, R, M, σ, mr, sr, w⟩ => At.same (A := C.A) ⟨.refl, mr⟩ .non rfl w
  | .iff t a b, s, X, sc, g, hf, h => by
    cases s <;> first | (exact Bool.noConfusion h) | skip
    rename_i c x y p
    simp only [chkS, Bool.and_eq_true] at h
    obtain ⟨⟨h1, h2⟩, h3⟩ := h
    refine PS.imp (ps_if (sT t c g h1).1 (sSs a x g hf h2) (sSs b y g hf h3)) fun D τ H ⟨ρ, R, M, σ, mr, sr, w⟩ => ?_
    refine rT_next g.mono mr sr w fun k M1 h1 ρ1 H1 g1 m1 => ?_
    cases k with
    | true =>
      rw [if_pos rfl]
      exact rSs_next g.mono m1 (sr.mono g1) h1 (PQ.le g1)
    | false =>
      rw [if_neg Bool.false_ne_true]
      exact rSs_next g.mono m1 (sr.mono g1) h1 (PQ.le g1)
  | .for_ tg it b, s, X, sc, g, hf, h => by
    cases s <;> first | (exact Bool.noConfusion h) | skip
    rename_i t i x orelse p
    cases orelse <;> first | (exact Bool.noConfusion h) | skip
    simp only [chkS, Bool.and_eq_true] at h
    obtain ⟨⟨⟨⟨h1, h2⟩, h3⟩, h4⟩, h5⟩ := h
    exact rs_for g (pr_tu h2) (sI it i t g h4 fun hp => by
      obtain ⟨is, rfl⟩ := pr_tu h2 hp
      exact tu_tuple h1) (pg_ok (g.nm hf) g.calm h1) (sSs b x g hf h5) (fold_of h3)
  | .whl t b, s, X, sc, g, hf, h => by
    cases s <;> first | (exact Bool.noConfusion h) | skip
    rename_i c x orelse p
    cases orelse <;> first | (exact Bool.noConfusion h) | skip
    simp only [chkS, Bool.and_eq_true] at h
    exact rs_whl g (sT t c g h.1).1 (sSs b x g hf h.2)
  | .raise c es, s, X, sc, g, hf, h => ⟨fun _ _ _ _ _ _ ⟨_, _, _, _, _, _, w⟩ => w.elim⟩
  | .try_ b c n hh, s, X, sc, g, hf, h => by
    cases s <;> first | (exact Bool.noConfusion h) | skip
    rename_i x hs oe fin p
    rcases hs with _ | ⟨h0, hs⟩ <;> first | (exact Bool.noConfusion h) | skip
    cases oe <;> first | (exact Bool.noConfusion h) | skip
    cases fin <;> first | (exact Bool.noConfusion h) | skip
    have h' : chkSs N sc G b x = true := h
    refine PS.imp (ps_try_thru0 (sSs b x g.nox hf h')) fun D τ H ⟨ρ, R, M, σ, mr, sr, w⟩ => ?_
    refine ⟨ρ, R, M, σ, mr, sr, wSs_mono g.mono b σ M ?_ w⟩
    exact ⟨fun _ _ q => q, fun _ _ q => q, fun _ _ q => q, fun _ _ q => q, fun _ _ _ z => z⟩
  | .pass, s, X, sc, g, hf, h => by
    cases s <;> first | (exact Bool.noConfusion h) | skip
    exact PS.imp ps_pass fun D τ H ⟨ρ, R, M, σ, mr, sr, w⟩ => w ρ τ H .refl mr sr
  | .brk, s, X, sc, g, hf, h => by
    cases s <;> first | (exact Bool.noConfusion h) | skip
    exact PS.imp ps_break fun D τ H ⟨ρ, R, M, σ, mr, sr, w⟩ => w ρ τ H .refl mr sr
  | .cont, s, X, sc, g, hf, h => by
    cases s <;> first | (exact Bool.noConfusion h) | skip
    exact PS.imp ps_continue fun D τ H ⟨ρ, R, M, σ, mr, sr, w⟩ => w ρ τ H .refl mr sr
theorem sSs : ∀ (m : Ss) (ss : List Stmt) {X : Cx} {sc : Scope}, Good C G ca F k N sc X → (∀ x, X.fn x = true) → chkSs N sc G m ss = true → PSs X ss (rSs X C ca F m)
  | .nil, ss, X, sc, g, hf, h => by
    cases ss with
    | nil => exact PSs.imp pss_nil fun D τ H ⟨ρ, R, M, σ, mr, sr, w⟩ => w ρ τ H .refl mr sr
    | cons _ _ => cases h
  | .cons s r, ss, X, sc, g, hf, h => by
    cases ss with
    | nil => cases h
    | cons x xs =>
      have h' : (chkS N sc G s x && chkSs N sc G r xs) = true := h
      rw [Bool.and_eq_true] at h'
      refine PSs.imp (pss_cons (sS s x g hf h'.1) (sSs r xs g hf h'.2)) fun D τ H ⟨ρ, R, M, σ, mr, sr, w⟩ => ?_
      rw [wSs] at w
      refine ⟨ρ, R, M, σ, mr, sr, wS_mono g.mono s σ M (P := { PQ X C ca ρ R H D with nx := fun σ1 M1 => wSs C F r σ1 M1 (PQ X C ca ρ R H D) }) (P' := PQ X C ca ρ R H { D with nx := rSs X C ca F r D }) ⟨?_, fun _ _ q => q, fun _ _ q => q, fun _ _ q => q, fun _ _ _ z => z⟩ w⟩
      exact fun σ1 M1 h1 ρ1 τ1 H1 g1 m1 s1 => rSs_next g.mono m1 s1 h1 (PQ.le g1)
end
end
end Mp
end

section
/-! MiniPy: every def keeps its promise. -/
set_option linter.all false
set_option maxRecDepth 100000
namespace Mp
open PySem PySem.Spec PyProof.Rows L2
section
variable {K : PySem.W.Frag} {A : String → List String} {ca : CA} {ρ0 ρ ρ1 ρ2 R R1 R' : List Addr} {H0 H H1 H2 H' : Hp} {M M' : Me} {X : Cx} {C : Cn} {F : Or} {G : Gs} {N : List Str} {sc : Scope} {k : Nat}
mutual
theorem DV.shr {n : Nat} (hr : ∀ k a, k < n → ρ[k]? = some a → ρ1[k]? = some a) (ho : ∀ a, a ∉ ρ → a ∉ R → a ∉ ρ1 ∧ a ∉ R1) : ∀ {d : D} {v : V}, clsD n d = true → DV K ρ R H d v → DV K ρ1 R1 H d v
  | _, _, _, .non => .non
  | _, _, _, .bl b => .bl b
  | _, _, _, .int i => .int i
  | _, _, _, .str s => .str s
  | _, _, c, .tup h h1 h2 hs => .tup h (ho _ h1 h2).1 (ho _ h1 h2).2 (DVs.shr hr ho (by simpa [clsD] using c) hs)
  | _, _, c, .tupK h hs => .tupK h (DVs.shr hr ho (by simpa [clsD] using c) hs)
  | _, _, c, .fz h h1 h2 hs => .fz h (ho _ h1 h2).1 (ho _ h1 h2).2 (DVs.shr hr ho (by simpa [clsD] using c) hs)
  | _, _, c, .tl h h1 h2 hs => .tl h (ho _ h1 h2).1 (ho _ h1 h2).2 (DVs.shr hr ho (by simpa [clsD] using c) hs)
  | _, _, c, .ref h => .ref (hr _ _ (by simpa [clsD] using c) h)
  | _, _, _, .scr h h1 h2 => .scr h (ho _ h1 h2).1 (ho _ h1 h2).2
  | _, _, _, .scrK h => .scrK h
theorem DVs.shr {n : Nat} (hr : ∀ k a, k < n → ρ[k]? = some a → ρ1[k]? = some a) (ho : ∀ a, a ∉ ρ → a ∉ R → a ∉ ρ1 ∧ a ∉ R1) : ∀ {d : List D} {v : List V}, clsDs n d = true → DVs K ρ R H d v → DVs K ρ1 R1 H d v
  | _, _, _, .nil => .nil
  | _, _, c, .cons h n t => by
    simp only [clsDs, Bool.and_eq_true] at c
    exact .cons (DV.shr hr ho c.1 h) n (DVs.shr hr ho c.2 t)
end
theorem Paired.all {α β : Type} {P Q : α → β → Prop} {f : α → Bool} : ∀ {l : List α} {m : List β}, Paired P l m → l.all f = true → (∀ a b, f a = true → P a b → Q a b) → Paired Q l m
  | _, _, .nil, _, _ => .nil
  | _, _, .cons h t, c, g => by
    rw [List.all_cons, Bool.and_eq_true] at c
    exact .cons (g _ _ c.1 h) (Paired.all t c.2 g)
theorem cellR_shr {n : Nat} (hr : ∀ k a, k < n → ρ[k]? = some a → ρ1[k]? = some a) (ho : ∀ a, a ∉ ρ → a ∉ R → a ∉ ρ1 ∧ a ∉ R1) {a : Addr} {c : MO} (hc : clsO n c = true) (h : CellR K A ca ρ R H a c) : CellR K A ca ρ1 R1 H a c := by
  cases c with
  | lst ds =>
    obtain ⟨vs, h1, h2⟩ := h
    exact ⟨vs, h1, h2.shr hr ho hc⟩
  | dic l =>
    obtain ⟨kvs, h1, h2⟩ := h
    refine ⟨kvs, h1, Paired.all h2 (show (l.all fun p => clsD n p.1 && clsD n p.2) = true from hc) fun p q hp z => ?_⟩
    rw [Bool.and_eq_true] at hp
    exact ⟨z.1, z.2.1.shr hr ho hp.2, z.2.2⟩
  | ins c fs =>
    obtain ⟨dx, gs, h1, h2⟩ := h
    exact ⟨dx, gs, h1, Paired.all h2 (show (fs.all fun p => clsD n p.2) = true from hc) fun p q hp z => ⟨z.1, z.2.1.shr hr ho hp, z.2.2⟩⟩
theorem mr_shr (g : Grow ρ H ρ1 H1) (m0 : ρ.length = M.length) (m : MR K A ca ρ1 R M' H1) (hc : clsM M.length (M'.take M.length) = true) (ho : ∀ a, a ∉ ρ1 → a ∉ R → a ∉ ρ ∧ a ∉ R1) (hR1 : ∀ a ∈ R1, a ∉ ρ ∧ ∃ o, H1 a = some o) : MR K A ca ρ R1 (M'.take M.length) H1 := by
  obtain ⟨t, rfl, ht⟩ := g.pre
  have hl := m.len
  rw [List.length_append] at hl
  have hr : ∀ k a, k < M.length → (ρ ++ t)[k]? = some a → ρ[k]? = some a := fun k a hk e => by
    rw [List.getElem?_append_left (by rw [m0]; exact hk)] at e
    exact e
  refine ⟨by rw [List.length_take, m0]; omega, (List.nodup_append.mp m.nd).1, fun n c a e1 e2 => ?_, hR1⟩
  have hn : n < M.length := by rw [← m0]; exact (List.getElem?_eq_some_iff.mp e2).1
  rw [List.getElem?_take_of_lt hn] at e1
  refine cellR_shr hr ho ?_ (m.cell n c a e1 ?_)
  rotate_left
  · rw [List.getElem?_append_left (by rw [m0]; exact hn)]; exact e2
  · refine List.all_eq_true.mp (show ((M'.take M.length).all (clsO M.length)) = true from hc) c ?_
    rw [List.mem_iff_getElem?]
    exact ⟨n, by rw [List.getElem?_take_of_lt hn]; exact e1⟩
/-- what a call made and nothing holds may be forgotten -/
theorem gc_ok {Q : VK} {d : D} {v : V} (m0 : ρ.length = M.length) (hRH : ∀ a ∈ R, ∃ o, H a = some o) (e : EvQ K A ca ρ R H ρ1 M' H1 d v) (q : gcQ M.length (KQ K A ca ρ R H Q) d M') : Q v H1 := by
  rcases q with q | ⟨⟨c1, c2⟩, q⟩ | ⟨k, xs, ⟨rfl, hk, hg, c1, c2⟩, q⟩
  · exact q ρ1 v H1 e
  · obtain ⟨t, et, ht⟩ := e.gr.pre
    subst et
    have hr : ∀ k a, k < M.length → (ρ ++ t)[k]? = some a → ρ[k]? = some a := fun k a hk e => by
      rw [List.getElem?_append_left (by rw [m0]; exact hk)] at e
      exact e
    have ho : ∀ {R : List Addr}, ∀ a, a ∉ ρ ++ t → a ∉ R → a ∉ ρ ∧ a ∉ R := fun a h1 h2 => ⟨fun z => h1 (List.mem_append_left _ z), h2⟩
    have gr : Grow ρ H ρ H1 := ⟨⟨[], by simp, fun _ h => by cases h⟩, e.gr.keep, e.gr.dom⟩
    refine q ρ v H1 ⟨gr, mr_shr e.gr m0 e.mr c2 ho fun a ha => ⟨fun z => (e.mr.rs a ha).1 (List.mem_append_left _ z), (e.mr.rs a ha).2⟩, e.dv.shr hr ho c1, fun xs ex a ea => ?_⟩
    obtain ⟨p1, p2, vs, p3, p4⟩ := e.tl xs ex a ea
    subst ex
    exact ⟨p1, mr_shr e.gr m0 p2 c2 ho fun a ha => ⟨fun z => (p2.rs a ha).1 (List.mem_append_left _ z), (p2.rs a ha).2⟩, vs, p3, p4.shr hr ho (by simpa [clsD] using c1)⟩
  · obtain ⟨t, et, ht⟩ := e.gr.pre
    subst et
    have hr : ∀ k a, k < M.length → (ρ ++ t)[k]? = some a → ρ[k]? = some a := fun k a hk e => by
      rw [List.getElem?_append_left (by rw [m0]; exact hk)] at e
      exact e
    have edv := e.dv
    cases edv with
    | @ref _ a ha =>
      obtain ⟨vs, h1, h2⟩ := e.mr.cell k _ a hg ha
      have hat : a ∈ t := by
        rw [List.getElem?_append_right (by rw [m0]; exact hk)] at ha
        exact List.mem_of_getElem? ha
      have hain : a ∈ ρ ++ t := List.mem_append_right _ hat
      have han : a ∉ ρ := fun z => by
        have := (List.nodup_append.mp e.mr.nd).2.2 a z a hat
        exact this rfl
      have haR : a ∉ R := fun z => (e.mr.rs a z).1 hain
      have hH : H a = none := ht a hat
      have ho : ∀ b, b ∉ ρ ++ t → b ∉ R → b ∉ ρ ∧ b ∉ R := fun b h1 h2 => ⟨fun z => h1 (List.mem_append_left _ z), h2⟩
      have ho2 : ∀ b, b ∉ ρ ++ t → b ∉ R → b ∉ ρ ∧ b ∉ a :: R := fun b h1 h2 => ⟨fun z => h1 (List.mem_append_left _ z), fun z => (List.mem_cons.mp z).elim (fun z => h1 (z ▸ hain)) h2⟩
      have gr : Grow ρ H ρ H1 := ⟨⟨[], by simp, fun _ h => by cases h⟩, e.gr.keep, e.gr.dom⟩
      refine q ρ (.ref a) H1 ⟨gr, mr_shr e.gr m0 e.mr c2 ho fun b hb => ⟨fun z => (e.mr.rs b hb).1 (List.mem_append_left _ z), (e.mr.rs b hb).2⟩, .tl h1 han haR (h2.shr hr ho c1), fun ys ey b eb => ?_⟩
      cases ey
      cases eb
      refine ⟨hH, mr_shr e.gr m0 e.mr c2 ho2 fun b hb => ?_, vs, h1, h2.shr hr ho2 c1⟩
      rcases List.mem_cons.mp hb with rfl | hb
      · exact ⟨han, _, h1⟩
      · exact ⟨fun z => (e.mr.rs b hb).1 (List.mem_append_left _ z), (e.mr.rs b hb).2⟩
theorem get_map_some : ∀ (ds : List D) (n i : Nat) (d : D), get (ds.map some ++ List.replicate n none) i = some d → ds[i]? = some d
  | [], n, i, d, h => by
    exfalso
    induction n generalizing i with
    | zero => simp [get] at h
    | succ n ih =>
      cases i with
      | zero => simp [get, List.replicate_succ] at h
      | succ i => exact ih i (by simpa [get, List.replicate_succ] using h)
  | x :: r, n, 0, d, h => by simpa [get] using h
  | x :: r, n, i + 1, d, h => by
    have := get_map_some r n i d (by simpa [get] using h)
    simpa using this
theorem SR.start {ds : List D} {vs : List V} {n : Nat} (h : DVs K ρ R H ds vs) (hn : n = N.length) (hl : vs.length ≤ N.length) : SR K ρ R H (Mp.start ds n) (L2.start N vs) := by
  subst hn
  have hlen := h.length
  refine ⟨by unfold Mp.start L2.start; simp only [List.length_append, List.length_map, List.length_replicate]; omega, fun i d e => ?_⟩
  have e1 := get_map_some ds _ i d e
  obtain ⟨v, e2, e3, e4⟩ := h.get e1
  refine ⟨v, ?_, e3, e4⟩
  unfold L2.start
  have hi := (List.getElem?_eq_some_iff.mp e2).1
  rw [List.getElem?_append_left (by rw [List.length_map]; exact hi), List.getElem?_map, e2]
  rfl
/-! ### defs -/
structure DefF (K : PySem.W.Frag) (mg : Str → Option Value) (C : Cn) (G : Gs) (f : String) : Prop where
  ex : ∃ (fa : Addr) (fd : FuncData) (ps N : List Str) (sc : Scope) (params : Arguments) (body : List Stmt) (qual : Str) (fn : Fn), mg (so f) = some (.ref fa) ∧ FunD K (so f) qual params body sc [] [] fa fd ∧ FnScope N ps sc ∧ Binds K fd ps [] ∧
    C.T f = some fn ∧ ps.length = fn.ps ∧ N.length = fn.n ∧ chkSs N sc G fn.body body = true ∧ ∀ args, params = ⟨[], args, none, [], [], none, []⟩ → ps = args.map (·.arg)
structure ModF (K : PySem.W.Frag) (mg : Str → Option Value) (C : Cn) (G : Gs) (ca : CA) : Prop where
  blt : ∀ b ∈ bltN, mg (so b) = none
  con : ∀ y ∈ G.con, ∃ d v u, C.G y = some d ∧ mg (so y) = some u ∧ RelV v u ∧ nt d = true ∧ ∀ ρ R H, DV K ρ R H d v
  cls : ∀ c, C.A c ≠ [] → Cls K (ca c) ∧ ∀ f ∈ C.A c, NoAttr K (ca c) (so f)
  defs : ∀ f ∈ G.defs, DefF K mg C G f
theorem fn_all {P : Program} {w : World} {mg : Str → Option Value} {base : Heap} (m : ModF K mg C G ca) : ∀ (n : Nat) (f : String), f ∈ G.defs →
    ∃ (fa : Addr) (fd : FuncData) (ps : List Str), mg (so f) = some (.ref fa) ∧ PySem.W.keepIn K (.ref fa) = true ∧ Binds K fd ps [] ∧ FnOk P w K mg base CXn (2 * n) fa fd ps (spF K C ca (callN C n) f) ∧
      ∃ qual params body sc, FunD K (so f) qual params body sc [] [] fa fd ∧ ∀ args, params = ⟨[], args, none, [], [], none, []⟩ → ps = args.map (·.arg)
  | 0, f, hf => by
    obtain ⟨fa, fd, ps, N, sc, params, body, qual, fn, h1, h2, h3, h4, _, _, _, _, h9⟩ := (m.defs f hf).ex
    exact ⟨fa, fd, ps, h1, h2.kp, h4, ⟨fun vs H Q E ⟨_, _, _, _, _, _, w⟩ => w.elim, fun A outer s H args us vs Q E _ _ _ _ ⟨_, _, _, _, _, _, w⟩ => w.elim⟩, _, _, _, _, h2, h9⟩
  | n + 1, f, hf => by
    obtain ⟨fa, fd, ps, N, sc, params, body, qual, fn, h1, h2, h3, h4, h5, h6, h7, h8, h9⟩ := (m.defs f hf).ex
    refine ⟨fa, fd, ps, h1, h2.kp, h4, ?_, _, _, _, _, h2, h9⟩
    have len : ∀ vs H Q E, spF K C ca (callN C (n + 1)) f vs H Q E → vs.length = ps.length := fun vs H Q E ⟨ρ, R, M, ds, mr, dv, w⟩ => by
      have w' : opt (C.T f) (fun fn => ds.length = fn.ps ∧ _) := w
      rw [h5] at w'
      rw [← dv.length, h6]
      exact w'.1
    refine FunD.ok (k := 2 * n + 1) h2 h3 len fun cdv A outer s H vs Q E hr ⟨ρ, R, M, ds, mr, dv, wc⟩ => ?_
    have w' : opt (C.T f) (fun fn => ds.length = fn.ps ∧ wSs C (callN C n) fn.body (Mp.start ds fn.n) M
        { nx := fun _ M' => gcQ M.length (KQ K C.A ca ρ R H Q) .non M', rt := gcQ M.length (KQ K C.A ca ρ R H Q), bk := fun _ _ => False, ct := fun _ _ => False, ex := fun x _ M' => (fun _ _ => False) x M' }) := wc
    rw [h5] at w'
    have g : Good C G ca (callN C n) (2 * n) N sc (cxOf CXn P w K mg base N qual sc fa cdv A outer s H E).nox :=
      ⟨callN_mono C n, rfl, h3.nd, rfl, h3.kind, rfl, rfl, hr, m.blt, m.con, fun f hf => let ⟨a, b, c, d1, d2, d3, d4, _⟩ := fn_all m n f hf; ⟨a, b, c, d1, d2, d3, d4⟩, m.cls⟩
    refine ⟨rSs (cxOf CXn P w K mg base N qual sc fa cdv A outer s H E).nox C ca (callN C n) fn.body, PSs.nox (sSs fn.body body g (fun _ => rfl) h8), ?_⟩
    have hpl : ps.length ≤ N.length := by have := congrArg List.length h3.pre; rw [List.length_take] at this; omega
    refine ⟨ρ, R, M, Mp.start ds fn.n, mr, SR.start dv h7.symm (by rw [← dv.length, w'.1, ← h6]; exact hpl), wSs_mono (callN_mono C n) fn.body _ M ?_ w'.2⟩
    have hRH : ∀ a ∈ R, ∃ o, H a = some o := fun a ha => (mr.rs a ha).2
    refine ⟨fun σ' M' q ρ' τ' H' g' m' s' => ?_, fun d M' q ρ' v' H' e => gc_ok mr.len hRH e q, fun _ _ z => z.elim, fun _ _ z => z.elim, fun _ _ _ z => z⟩
    exact gc_ok (Q := Q) (d := .non) (v := .non) mr.len hRH ⟨g', m', .non, fun xs e => nomatch e⟩ q
end
end Mp
end

section
/-! MiniPy: the head of a law. -/
set_option linter.all false
set_option maxRecDepth 100000
set_option maxHeartbeats 0
namespace Mp
open PySem PySem.Spec PyProof.Rows L2
theorem lookup_zip : ∀ {ps : List Str} {us : List Value} {x : Str}, us.length = ps.length → x ∈ ps → ((ps.zip us).lookup x).isSome = true
  | [], _, _, _, h => by cases h
  | p :: ps, [], _, hl, _ => by cases hl
  | p :: ps, u :: us, x, hl, h => by
    show (List.lookup x ((p, u) :: ps.zip us)).isSome = true
    rw [List.lookup_cons]
    split
    · rfl
    · rename_i hn
      rcases List.mem_cons.mp h with rfl | h
      · simp at hn
      · exact lookup_zip (Nat.succ.inj hl) h
theorem filterMap_zip : ∀ {ps : List Str} {us : List Value}, us.length = ps.length → ps.Nodup → ps.filterMap (fun n => ((ps.zip us).lookup n).map (n, ·)) = ps.zip us := by
  have gen : ∀ (qs : List Str) (ws : List Value) (ps : List Str) (us : List Value), us.length = ps.length → ps.Nodup → (∀ p ∈ ps, p ∉ qs) → qs.length = ws.length → ps.filterMap (fun n => (((qs ++ ps).zip (ws ++ us)).lookup n).map (n, ·)) = ps.zip us := by
    intro qs ws ps
    induction ps generalizing qs ws with
    | nil => intro us _ _ _ _; rfl
    | cons p ps ih =>
      intro us hl nd hq hlq
      cases us with
      | nil => cases hl
      | cons u us =>
        have e1 : (((qs ++ p :: ps).zip (ws ++ u :: us)).lookup p) = some u := by
          rw [List.zip_append hlq, List.lookup_append]
          have : (qs.zip ws).lookup p = none := by
            rw [List.lookup_eq_none_iff]
            intro q hq2
            have := (List.of_mem_zip (a := q.1) (b := q.2) hq2).1
            simp only [bne_iff_ne, ne_eq, beq_eq_false_iff_ne, Bool.not_eq_true]
            intro z
            exact hq p List.mem_cons_self (z ▸ this)
          rw [this]
          simp
        rw [List.filterMap_cons, e1]
        show (p, u) :: _ = (p, u) :: _
        congr 1
        have := ih (qs ++ [p]) (ws ++ [u]) us (Nat.succ.inj hl) (List.nodup_cons.mp nd).2 (fun x hx => by
          simp only [List.mem_append, List.mem_singleton, not_or]
          exact ⟨hq x (List.mem_cons_of_mem _ hx), fun z => (List.nodup_cons.mp nd).1 (z ▸ hx)⟩) (by simp [hlq])
        have e2 : (qs ++ [p]) ++ ps = qs ++ p :: ps := by simp
        have e3 : (ws ++ [u]) ++ us = ws ++ u :: us := by simp
        rw [e2, e3] at this
        exact this
  intro ps us hl nd
  simpa using gen [] [] ps us hl nd (fun _ _ => by simp) rfl
theorem bind_gen {x qual : Str} {args : List Arg} {body : List Stmt} {scope : Scope} {kV doc pm cdv ct : Value} {an : Option Addr} {us : List Value} (nd : (args.map (·.arg)).Nodup) (hl : us.length = (args.map (·.arg)).length) :
    bindArgs (PySem.W.fnOf x qual ⟨[], args, none, [], [], none, []⟩ body scope .none kV doc pm an cdv ct) ⟨us, []⟩ = pure ((args.map (·.arg)).zip us) := by
  unfold bindArgs PySem.W.fnOf
  simp only [List.map_nil, List.nil_append, List.append_nil, List.forIn_nil, pure_bind, bind_pure, seqItems?]
  have h1 : ¬ (us.length > (args.map (·.arg)).length) := by omega
  have hlt : ¬ args.length < us.length := by rw [hl, List.length_map]; omega
  have hf : ∀ m, List.filter (fun n => (List.lookup n ((List.map (fun x : Arg => x.arg) args).zip us)).isNone) (List.take m (List.map (fun x => x.arg) args)) = [] := fun m => by
    rw [List.filter_eq_nil_iff]
    intro n hn
    have := lookup_zip hl (List.mem_of_mem_take hn)
    simp [Option.isNone_iff_eq_none, Option.isSome_iff_ne_none] at this ⊢
    exact this
  have hs : notAStandIn Value.none = pure () := rfl
  simp [h1, hlt, hf, hs]
  have := filterMap_zip hl nd
  rw [List.filterMap_map] at this
  exact congrArg pure this

/-! ### the top's constants -/
mutual
def relD (K : PySem.W.Frag) : D → Value → Bool
  | .non, .none => true
  | .bl b, .bool c => b == c
  | .int i, .int j _ => decide (i = j)
  | .str s, .str y _ => decide (so s = y)
  | .tup ds, .ref a => (match K.lookup a with
    | some ⟨.type c, none, .seq its _, _⟩ => decide (c = "tuple") && decide (its.size ≤ sizeLine) && relDs K ds its.toList
    | _ => false)
  | _, _ => false
def relDs (K : PySem.W.Frag) : List D → List Value → Bool
  | [], [] => true
  | d :: ds, u :: us => relD K d u && relDs K ds us
  | _, _ => false
end
mutual
theorem relD_ok {K : PySem.W.Frag} : ∀ (d : D) (u : Value), relD K d u = true → ∃ v, RelV v u ∧ nt d = true ∧ ∀ ρ R H, DV K ρ R H d v
  | .non, u, h => by
    cases u <;> first | (exact Bool.noConfusion h) | skip
    exact ⟨.non, rfl, rfl, fun _ _ _ => .non⟩
  | .bl b, u, h => by
    cases u <;> first | (exact Bool.noConfusion h) | skip
    obtain rfl := eq_of_beq h
    exact ⟨.bl _, rfl, rfl, fun _ _ _ => .bl _⟩
  | .int i, u, h => by
    cases u <;> first | (exact Bool.noConfusion h) | skip
    obtain rfl := of_decide_eq_true h
    exact ⟨.int _, ⟨_, rfl⟩, rfl, fun _ _ _ => .int _⟩
  | .str s, u, h => by
    cases u <;> first | (exact Bool.noConfusion h) | skip
    obtain rfl := of_decide_eq_true h
    exact ⟨.str _, ⟨_, rfl⟩, rfl, fun _ _ _ => .str _⟩
  | .tup ds, u, h => by
    cases u <;> first | (exact Bool.noConfusion h) | skip
    rename_i a
    unfold relD at h
    split at h
    · rename_i c its n sl q
      simp only [Bool.and_eq_true, decide_eq_true_eq] at h
      obtain ⟨⟨h1, h2⟩, h3⟩ := h
      obtain ⟨vs, r1, r2⟩ := relDs_ok ds its.toList h3
      exact ⟨.ref a, rfl, rfl, fun ρ R H => .tupK ⟨_, its, n, q, by rw [h1], rfl, rfl, h2, r1⟩ (r2 ρ R H)⟩
    · cases h
  | .fz l, u, h => by cases u <;> exact Bool.noConfusion h
  | .tl l, u, h => by cases u <;> exact Bool.noConfusion h
  | .ref l, u, h => by cases u <;> exact Bool.noConfusion h
  | .scr l, u, h => by cases u <;> exact Bool.noConfusion h
theorem relDs_ok {K : PySem.W.Frag} : ∀ (d : List D) (u : List Value), relDs K d u = true → ∃ v, Vals v u ∧ ∀ ρ R H, DVs K ρ R H d v
  | [], [], _ => ⟨[], .nil, fun _ _ _ => .nil⟩
  | [], _ :: _, h => by cases h
  | _ :: _, [], h => by cases h
  | d :: ds, u :: us, h => by
    have h' : (relD K d u && relDs K ds us) = true := h
    rw [Bool.and_eq_true] at h'
    obtain ⟨v, r1, r2, r3⟩ := relD_ok d u h'.1
    obtain ⟨vs, r4, r5⟩ := relDs_ok ds us h'.2
    exact ⟨v :: vs, .cons r1 r4, fun ρ R H => .cons (r3 ρ R H) r2 (r5 ρ R H)⟩
end
def conB (K : PySem.W.Frag) (x : String) (d : D) : Bool := match PySem.W.nsIn K mainGlobals (so x) with
  | some (some u) => relD K d u
  | _ => false
/-! ### the hook -/
abbrev CoL := List (String × D)
def obsM (fa : List He.Fa) (fn : List He.DefD) (co : CoL) (K : PySem.W.Frag) : He.AlD := ((fa.all fun f => f.ok K) && (fn.all fun d => d.ok K) && co.all fun c => conB K c.1 c.2, fn.map fun d => He.fnW K d.at_)
def SaysM (fa : List He.Fa) (fn : List He.DefD) (co : CoL) (K : PySem.W.Frag) : Prop := obsM fa fn co K = He.valD fn
def obsMG (n : Nat) (fa : List He.Fa) (fn : List He.DefD) (co : CoL) (g : Addr → Option Obj) : He.AlD := obsM fa fn co (He.frG g (He.asD g n))
def hookM (n : Nat) (fa : List He.Fa) (fn : List He.DefD) (co : CoL) : PySem.W.Hook where
  α := He.AlD
  obs := fun s => obsMG n fa fn co s.heap.get?
  val := fun _ => He.valD fn
  says := fun _ h => ∃ K : PySem.W.Frag, K.In h ∧ SaysM fa fn co K
  of := fun _ _ e => ⟨_, He.frG_in, e⟩
  keeps := fun _ _ _ ⟨K, hK, c⟩ k => ⟨K, PySem.W.Frag.In.keeps hK k, c⟩
theorem obsMG_eq {n : Nat} {fa : List He.Fa} {fn : List He.DefD} {co : CoL} {g : Addr → Option Obj} {s : Shared} (h : ∀ a, g a = s.heap.get? a) : obsMG n fa fn co g = (hookM n fa fn co).obs s := by
  have e : g = s.heap.get? := funext h
  rw [e] <;> rfl
section
variable {fa : List He.Fa} {fn : List He.DefD} {co : CoL} {K : PySem.W.Frag}
theorem SaysM.fact (c : SaysM fa fn co K) {f : He.Fa} (h : f ∈ fa) : f.ok K = true := by
  have c1 : ((fa.all fun f => f.ok K) && (fn.all fun d => d.ok K) && co.all fun c => conB K c.1 c.2) = true := congrArg (fun z : He.AlD => z.1) c
  simp only [Bool.and_eq_true] at c1
  exact List.all_eq_true.mp c1.1.1 f h
theorem SaysM.con (c : SaysM fa fn co K) {p : String × D} (h : p ∈ co) : conB K p.1 p.2 = true := by
  have c1 : ((fa.all fun f => f.ok K) && (fn.all fun d => d.ok K) && co.all fun c => conB K c.1 c.2) = true := congrArg (fun z : He.AlD => z.1) c
  simp only [Bool.and_eq_true] at c1
  exact List.all_eq_true.mp c1.2 p h
theorem SaysM.def_ (c : SaysM fa fn co K) {d : He.DefD} (h : d ∈ fn) : ∃ fd, FunD K d.name d.qual d.params d.body d.scope (d.dvs K) (d.kws K) (He.fAd K d.at_) fd := by
  have c1 : ((fa.all fun f => f.ok K) && (fn.all fun d => d.ok K) && co.all fun c => conB K c.1 c.2) = true := congrArg (fun z : He.AlD => z.1) c
  simp only [Bool.and_eq_true] at c1
  have e : fn.map (fun d => He.fnW K d.at_) = fn.map He.DefD.val := congrArg (fun z : He.AlD => z.2) c
  obtain ⟨i, hi⟩ := List.mem_iff_getElem?.mp h
  have e2 : (fn.map fun d => He.fnW K d.at_)[i]? = (fn.map He.DefD.val)[i]? := by rw [e]
  rw [List.getElem?_map, List.getElem?_map, hi] at e2
  exact He.DefD.funD (Option.some.inj e2) (List.all_eq_true.mp c1.1.2 d h)
end
/-! ### a def of the top beside its mini term -/
def mkD (f : String) (st : Stmt) : He.DefD := ⟨(so f, none), so f, so f, defArgs st, defBody st, defScope st, [], []⟩
structure Row where
  f : String
  N : List String
  st : Stmt
def parOk (sc : Scope) (x : Str) : Bool := match sc.names.lookup x with
  | some .local => true
  | some .cell => true
  | _ => false
def noFree : NameKind → Bool
  | .free => false
  | _ => true
def argsOk (a : Arguments) : Option (List Arg) := match a with
  | ⟨[], args, none, [], [], none, []⟩ => some args
  | _ => none
theorem argsOk_eq {a : Arguments} {args : List Arg} (h : argsOk a = some args) : a = ⟨[], args, none, [], [], none, []⟩ := by
  unfold argsOk at h
  split at h
  · cases h; rfl
  · cases h
def rowOk (T : String → Option Fn) (G : Gs) (r : Row) : Bool := match argsOk (defArgs r.st), T r.f with
  | some args, some fn =>
    let ps := args.map (·.arg)
    let N := r.N.map so
    let sc := defScope r.st
    decide (sc.kind = .function) && !sc.isCoroutine && !sc.isGenerator && decide N.Nodup && decide (N.take ps.length = ps) && (ps.all (parOk sc)) && (sc.names.all fun y => noFree y.2) && decide ps.Nodup &&
      decide (ps.length = fn.ps) && decide (N.length = fn.n) && chkSs N sc G fn.body (defBody r.st)
  | _, _ => false
theorem par_ok {sc : Scope} {ps : List Str} (h : ps.all (parOk sc) = true) : ∀ x ∈ ps, sc.names.lookup x = some .local ∨ sc.names.lookup x = some .cell := fun x hx => by
  have := List.all_eq_true.mp h x hx
  unfold parOk at this
  split at this
  · exact .inl ‹_›
  · exact .inr ‹_›
  · cases this
theorem free_ok' {sc : Scope} (h : (sc.names.all fun y => noFree y.2) = true) : ∀ y ∈ sc.names, y.2 ≠ .free := fun y hy z => by
  have := List.all_eq_true.mp h y hy
  rw [z] at this
  cases this
theorem rowOk_ok {K : PySem.W.Frag} {mg : Str → Option Value} {C : Cn} {G : Gs} {r : Row} (h : rowOk C.T G r = true) {fa : Addr} {fd : FuncData} (hm : mg (so r.f) = some (.ref fa))
    (F : FunD K (so r.f) (so r.f) (defArgs r.st) (defBody r.st) (defScope r.st) [] [] fa fd) : DefF K mg C G r.f ∧ ∀ ps : List Str, (∃ args, argsOk (defArgs r.st) = some args ∧ ps = args.map (·.arg)) → ∀ (s : Shared) (us : List Value), us.length = ps.length → BindsTo s fd ⟨us, []⟩ (ps.zip us) := by
  unfold rowOk at h
  split at h
  · rename_i args fn ha hT
    simp only [Bool.and_eq_true, decide_eq_true_eq, Bool.not_eq_true'] at h
    obtain ⟨⟨⟨⟨⟨⟨⟨⟨⟨⟨h1, h2⟩, h3⟩, h4⟩, h5⟩, h6⟩, h7⟩, h8⟩, h9⟩, h10⟩, h11⟩ := h
    have ea : defArgs r.st = ⟨[], args, none, [], [], none, []⟩ := argsOk_eq ha
    have F' := F
    rw [ea] at F'
    have S : FnScope (r.N.map so) (args.map (·.arg)) (defScope r.st) := ⟨h1, h2, h3, h4, h5, par_ok h6, free_ok' h7⟩
    refine ⟨⟨fa, fd, args.map (·.arg), r.N.map so, defScope r.st, _, defBody r.st, so r.f, fn, hm, F, S, F'.bindsN fun kV doc pm an cdv ct us hl => bind_gen h8 hl, hT, h9, h10, h11, fun args' e => by rw [ea] at e; cases e; rfl⟩, fun ps ⟨args', e1, e2⟩ s us hl => ?_⟩
    rw [ha] at e1
    cases e1
    subst e2
    exact F'.bindsA (fun kV doc pm an cdv ct us hl => bind_gen h8 hl) s us hl
  · cases h
def fasOf_ (rows : List Row) : List He.Fa := (rows.map fun r => He.Fa.glo (so r.f)) ++ bltN.map fun b => He.Fa.free (so b)
def fnsOf (rows : List Row) : List He.DefD := rows.map fun r => mkD r.f r.st
/-- the module, as MiniPy wants it -/
theorem mod_ok {K : PySem.W.Frag} {h : Heap} {mg : Str → Option Value} {rows : List Row} {co : CoL} {C : Cn} {G : Gs} {ca : CA} (X : K.In h) (g : h.Ns mainGlobals mg) (c : SaysM (fasOf_ rows) (fnsOf rows) co K)
    (hd : G.defs = rows.map (·.f)) (hc : ∀ y ∈ G.con, ∃ d, C.G y = some d ∧ (y, d) ∈ co) (hA : ∀ c, C.A c = []) (hr : rows.all (rowOk C.T G) = true) : ModF K mg C G ca where
  blt := fun b hb => He.free_ok X g (c.fact (List.mem_append_right _ (List.mem_map_of_mem hb)))
  con := fun y hy => by
    obtain ⟨d, e1, e2⟩ := hc y hy
    have := c.con e2
    unfold conB at this
    split at this
    · rename_i u eu
      obtain ⟨v, r1, r2, r3⟩ := relD_ok d u this
      exact ⟨d, v, u, e1, PySem.W.mg_of X g eu, r1, r2, r3⟩
    · cases this
  cls := fun c hc => absurd (hA c) hc
  defs := fun f hf => by
    rw [hd] at hf
    obtain ⟨r, hr1, rfl⟩ := List.mem_map.mp hf
    obtain ⟨fd, F⟩ := c.def_ (List.mem_map_of_mem (f := fun r : Row => mkD r.f r.st) hr1)
    exact (rowOk_ok (List.all_eq_true.mp hr r hr1) (He.glo_ok X g (c.fact (List.mem_append_left _ (List.mem_map_of_mem hr1)))) F).1
/-- the law -/
theorem law_ok {P : Program} {w : World} {K : PySem.W.Frag} {h : Heap} {mg : Str → Option Value} {rows : List Row} {co : CoL} {C : Cn} {G : Gs} {n : Nat} {x : Str} {arg : Arg} {st : Stmt} {f : Addr} (X : K.In h) (g : h.Ns mainGlobals mg) (c : SaysM (fasOf_ rows) (fnsOf rows) co K)
    (hd : G.defs = rows.map (·.f)) (hc : ∀ y ∈ G.con, ∃ d, C.G y = some d ∧ (y, d) ∈ co) (hA : ∀ c, C.A c = []) (hr : rows.all (rowOk C.T G) = true) (hl : ∃ N, ⟨"law", N, st⟩ ∈ rows) (ha : argsOk (defArgs st) = some [arg]) (hx : arg.arg = x) (hf : mg (so "law") = some (.ref f))
    (pure_law : ∀ ns : List Int, callN C n "law" [.scr ns] [] (fun d _ => d = .bl true) (fun _ _ => False)) :
    ∃ (fd : FuncData) (sp : Sp), (∀ (s : Shared) (u : Value), BindsTo s fd ⟨[u], []⟩ [(x, u)]) ∧ (∀ (H : Hp) (a : Addr) (ns : List Int), SqL K H a (ns.map V.int) → sp [.ref a] H (fun v _ => v = .bl true) fun _ _ _ => False) ∧
      ∀ base : Heap, FnOk P w K mg base CXn (2 * n) f fd [x] sp := by
  have m : ModF K mg C G (fun _ => 0) := mod_ok X g c hd hc hA hr
  obtain ⟨N, hl⟩ := hl
  have hlaw : "law" ∈ G.defs := by rw [hd]; exact List.mem_map.mpr ⟨_, hl, rfl⟩
  obtain ⟨fd, F⟩ := c.def_ (List.mem_map_of_mem (f := fun r : Row => mkD r.f r.st) hl)
  have hglo := He.glo_ok X g (c.fact (f := .glo (so "law")) (List.mem_append_left _ (List.mem_map.mpr ⟨_, hl, rfl⟩)))
  have hb := (rowOk_ok (List.all_eq_true.mp hr _ hl) hglo F).2 [x] ⟨[arg], ha, by rw [← hx]; rfl⟩
  have e := hf.symm.trans hglo
  cases e
  refine ⟨fd, spF K C (fun _ => 0) (callN C n) "law", fun s u => hb s [u] rfl, fun H a ns hS => ?_, fun base => ?_⟩
  · refine ⟨[], [], [], [.scr ns], ⟨rfl, List.nodup_nil, fun n c a e => by simp at e, fun a h => by cases h⟩, .cons ?_ rfl .nil, ?_⟩
    · rcases hS with hS | ⟨o, its, k, h1, h2, h3, h4, h5, h6⟩
      · exact .scr hS (by simp) (by simp)
      · exact .scrK ⟨o, its, k, h1, h2, h3, h4, h5, h6⟩
    · refine callN_mono C n _ _ _ _ _ _ _ (fun d M hd ρ' v H' ev => ?_) (fun _ _ z => z) (pure_law ns)
      subst hd
      have edv := ev.dv
      cases edv
      rfl
  · obtain ⟨fa', fd', ps, q1, q2, q3, q4, qual, params, body, sc, F', q5⟩ := fn_all (P := P) (w := w) (base := base) m n "law" hlaw
    rw [hglo] at q1
    cases q1
    obtain ⟨oc, od, dV, kV, doc, pm, an, cdv, ct, osl, e1, e2, _⟩ := F.ex
    obtain ⟨oc', od', dV', kV', doc', pm', an', cdv', ct', osl', e1', e2', _⟩ := F'.ex
    have e3 : K.lookup (He.ga K (so "law")) = some ⟨oc, od, .func fd, osl⟩ := e2
    rw [e2'] at e3
    have e4 : fd' = fd := by
      have := Option.some.inj e3
      cases this
      rfl
    have e5 : params = defArgs st := by
      have z := congrArg FuncData.params (e1'.symm.trans (e4.trans e1))
      exact z
    have e6 : ps = [x] := by
      have ea : defArgs st = ⟨[], [arg], none, [], [], none, []⟩ := argsOk_eq ha
      have := q5 [arg] (e5.trans ea)
      rw [this, ← hx]
      rfl
    rw [← e4, ← e6]
    exact q4
end Mp
end

section
set_option linter.all false
set_option maxRecDepth 100000
namespace K84
open Mp
def n_shown_look : List String := ["look", "kind", "thing", "value", "mark"]
def b_shown_look : Ss :=
    (.cons (.tas [1, 2, 3, 4] (.v 0))
    (.cons (.iff (.cmp .eq (.v 2) (.c (.str "")))
    (.cons (.asg 2 (.c (.str "-")))
    .nil)
    .nil)
    (.cons (.ret (.bin .add (.bin .add (.bin .add (.bin .add (.v 1) (.c (.str " "))) (.v 2)) (.c (.str " "))) (.ite (.cmp .is (.v 3) (.c .non)) (.c (.str "-")) (.bi .str (.cons (.v 3) .nil)))))
    .nil)))
def f_shown_look : Fn := ⟨1, 5, b_shown_look⟩
def n_shown_step : List String := ["program", "step", "hand", "gift", "name"]
def b_shown_step : Ss :=
    (.cons (.tas [2, 3] (.v 1))
    (.cons (.asg 4 (.ix (.ix (.ix (.v 0) (.c (.int 4))) (.v 2)) (.c (.int 0))))
    (.cons (.ret (.ite (.cmp .is (.v 3) (.c .non)) (.v 4) (.bin .add (.bin .add (.v 4) (.c (.str ":"))) (.bi .str (.cons (.v 3) .nil)))))
    .nil)))
def f_shown_step : Fn := ⟨2, 5, b_shown_step⟩
def n_listed : List String := ["words"]
def b_listed : Ss :=
    (.cons (.ret (.ite (.cmp .gt (.bi .len (.cons (.v 0) .nil)) (.c (.int 0))) (.mt (.c (.str " ")) .join (.cons (.v 0) .nil)) (.c (.str "-"))))
    .nil)
def f_listed : Fn := ⟨1, 1, b_listed⟩
def n_shown_run : List String := ["program", "run", "step"]
def b_shown_run : Ss :=
    (.cons (.ret (.call "listed" (.cons (.lc (.call "shown_step" (.cons (.v 0) (.cons (.v 2) .nil))) (.n 2) (.of (.v 1)) (.c (.bl true)) [2]) .nil)))
    .nil)
def f_shown_run : Fn := ⟨2, 3, b_shown_run⟩
def n_is_name : List String := ["thing", "sign"]
def b_is_name : Ss :=
    (.cons (.iff (.or (.not (.isi (.v 0) ["str"])) (.or (.not (.ch .le .le (.c (.int 1)) (.bi .len (.cons (.v 0) .nil)) (.g "MOST_LETTERS"))) (.cmp .isin (.v 0) (.g "LANGUAGE"))))
    (.cons (.ret (.c (.bl false)))
    .nil)
    .nil)
    (.cons (.ret (.bi .all (.cons (.lc (.cmp .isin (.v 1) (.g "LETTERS")) (.n 1) (.of (.v 0)) (.c (.bl true)) [1]) .nil)))
    .nil))
def f_is_name : Fn := ⟨1, 2, b_is_name⟩
def n_worth : List String := ["told", "pockets", "kind", "first", "second"]
def b_worth : Ss :=
    (.cons (.asg 2 (.ix (.v 0) (.c (.int 0))))
    (.cons (.iff (.cmp .eq (.v 2) (.c (.str "num")))
    (.cons (.ret (.ix (.v 0) (.c (.int 1))))
    .nil)
    .nil)
    (.cons (.iff (.cmp .eq (.v 2) (.c (.str "of")))
    (.cons (.ret (.mt (.bi .dict (.cons (.v 1) .nil)) .get2 (.cons (.ix (.v 0) (.c (.int 1))) (.cons (.c (.int 0)) .nil))))
    .nil)
    .nil)
    (.cons (.asg 3 (.call "worth" (.cons (.ix (.v 0) (.c (.int 1))) (.cons (.v 1) .nil))))
    (.cons (.iff (.cmp .eq (.v 2) (.c (.str "not")))
    (.cons (.ret (.bi .int (.cons (.cmp .eq (.v 3) (.c (.int 0))) .nil)))
    .nil)
    .nil)
    (.cons (.asg 4 (.call "worth" (.cons (.ix (.v 0) (.c (.int 2))) (.cons (.v 1) .nil))))
    (.cons (.iff (.cmp .eq (.v 2) (.c (.str "less")))
    (.cons (.ret (.bi .int (.cons (.cmp .lt (.v 3) (.v 4)) .nil)))
    .nil)
    .nil)
    (.cons (.iff (.cmp .eq (.v 2) (.c (.str "same")))
    (.cons (.ret (.bi .int (.cons (.cmp .eq (.v 3) (.v 4)) .nil)))
    .nil)
    .nil)
    (.cons (.iff (.cmp .eq (.v 2) (.c (.str "add")))
    (.cons (.ret (.bin .mod (.bin .add (.v 3) (.v 4)) (.g "ROUND")))
    .nil)
    .nil)
    (.cons (.iff (.cmp .eq (.v 2) (.c (.str "sub")))
    (.cons (.ret (.bin .mod (.bin .sub (.v 3) (.v 4)) (.g "ROUND")))
    .nil)
    .nil)
    (.cons (.ret (.bin .mod (.bin .mul (.v 3) (.v 4)) (.g "ROUND")))
    .nil)))))))))))
def f_worth : Fn := ⟨2, 5, b_worth⟩
def n_named_things : List String := ["thing", "least", "one"]
def b_named_things : Ss :=
    (.cons (.iff (.or (.not (.isi (.v 0) ["tuple"])) (.not (.ch .le .le (.v 1) (.bi .len (.cons (.v 0) .nil)) (.g "MOST_OF_SORT"))))
    (.cons (.ret (.c .non))
    .nil)
    .nil)
    (.cons (.iff (.not (.bi .all (.cons (.lc (.and (.isi (.v 2) ["tuple"]) (.cmp .eq (.bi .len (.cons (.v 2) .nil)) (.c (.int 2)))) (.n 2) (.of (.v 0)) (.c (.bl true)) [2]) .nil)))
    (.cons (.ret (.c .non))
    .nil)
    .nil)
    (.cons (.ret (.lc (.ix (.v 2) (.c (.int 0))) (.n 2) (.of (.v 0)) (.c (.bl true)) [2]))
    .nil)))
def f_named_things : Fn := ⟨2, 3, b_named_things⟩
def n_names_by_sort : List String := ["thing", "found", "k", "met", "sort", "name"]
def b_names_by_sort : Ss :=
    (.cons (.iff (.or (.not (.isi (.v 0) ["tuple"])) (.cmp .ne (.bi .len (.cons (.v 0) .nil)) (.bi .len (.cons (.g "SORTS") .nil))))
    (.cons (.ret (.c .non))
    .nil)
    .nil)
    (.cons (.asg 1 (.al (.dic [(.str "box"), (.str "hand")] (.cons (.call "named_things" (.cons (.ix (.v 0) (.c (.int 0))) (.cons (.c (.int 0)) .nil))) (.cons (.call "named_things" (.cons (.ix (.v 0) (.c (.int 4))) (.cons (.c (.int 1)) .nil))) .nil)))))
    (.cons (.for_ (.n 2) (.of (.tup (.cons (.c (.int 1)) (.cons (.c (.int 2)) (.cons (.c (.int 3)) .nil)))))
    (.cons (.ixs (.v 1) (.ix (.g "SORTS") (.v 2)) (.c .non))
    (.cons (.iff (.and (.isi (.ix (.v 0) (.v 2)) ["tuple"]) (.cmp .le (.bi .len (.cons (.ix (.v 0) (.v 2)) .nil)) (.g "MOST_OF_SORT")))
    (.cons (.ixs (.v 1) (.ix (.g "SORTS") (.v 2)) (.bi .list (.cons (.ix (.v 0) (.v 2)) .nil)))
    .nil)
    .nil)
    .nil)))
    (.cons (.asg 3 (.al (.dic [] .nil)))
    (.cons (.for_ (.n 4) (.of (.g "SORTS"))
    (.cons (.iff (.or (.cmp .is (.ix (.v 1) (.v 4)) (.c .non)) (.not (.bi .all (.cons (.lc (.call "is_name" (.cons (.v 5) .nil)) (.n 5) (.of (.ix (.v 1) (.v 4))) (.c (.bl true)) [5]) .nil))))
    (.cons (.ret (.c .non))
    .nil)
    .nil)
    (.cons (.for_ (.n 5) (.of (.ix (.v 1) (.v 4)))
    (.cons (.iff (.cmp .isin (.v 5) (.v 3))
    (.cons (.ret (.c .non))
    .nil)
    .nil)
    (.cons (.ixs (.v 3) (.v 5) (.c (.bl true)))
    .nil)))
    .nil)))
    (.cons (.ret (.v 1))
    .nil))))))
def f_names_by_sort : Fn := ⟨1, 6, b_names_by_sort⟩
def n_number_of : List String := ["program", "sort", "name", "names"]
def b_number_of : Ss :=
    (.cons (.asg 3 (.ix (.call "names_by_sort" (.cons (.v 0) .nil)) (.v 1)))
    (.cons (.iff (.cmp .notin (.v 2) (.v 3))
    (.cons (.ret (.c .non))
    .nil)
    .nil)
    (.cons (.ret (.mt (.v 3) .index (.cons (.v 2) .nil)))
    .nil)))
def f_number_of : Fn := ⟨3, 4, b_number_of⟩
def n_rows_of : List String := ["program", "hand"]
def b_rows_of : Ss :=
    (.cons (.ret (.ix (.ix (.ix (.v 0) (.c (.int 4))) (.v 1)) (.c (.int 1))))
    .nil)
def f_rows_of : Fn := ⟨2, 2, b_rows_of⟩
def n_laid_in : List String := ["pockets", "pocket", "value", "found", "name"]
def b_laid_in : Ss :=
    (.cons (.asg 3 (.al (.bi .dict (.cons (.v 0) .nil))))
    (.cons (.ixs (.v 3) (.v 1) (.v 2))
    (.cons (.ret (.bi .tuple (.cons (.lc (.tup (.cons (.v 4) (.cons (.ix (.v 3) (.v 4)) .nil))) (.n 4) (.of (.bi .sorted (.cons (.v 3) .nil))) (.cmp .ne (.ix (.v 3) (.v 4)) (.c (.int 0))) [4]) .nil)))
    .nil)))
def f_laid_in : Fn := ⟨3, 5, b_laid_in⟩
def n_own_step : List String := ["rows", "seat", "number", "pockets", "held", "row"]
def b_own_step : Ss :=
    (.cons (.tas [2, 3, 4] (.v 1))
    (.cons (.iff (.cmp .eq (.v 2) (.bi .len (.cons (.v 0) .nil)))
    (.cons (.ret (.c .non))
    .nil)
    .nil)
    (.cons (.asg 5 (.ix (.v 0) (.v 2)))
    (.cons (.iff (.cmp .eq (.ix (.v 5) (.c (.int 0))) (.c (.str "let")))
    (.cons (.ret (.tup (.cons (.bin .add (.v 2) (.c (.int 1))) (.cons (.call "laid_in" (.cons (.v 3) (.cons (.ix (.v 5) (.c (.int 1))) (.cons (.call "worth" (.cons (.ix (.v 5) (.c (.int 2))) (.cons (.v 3) .nil))) .nil)))) (.cons (.v 4) .nil)))))
    .nil)
    .nil)
    (.cons (.iff (.cmp .eq (.ix (.v 5) (.c (.int 0))) (.c (.str "leap")))
    (.cons (.ret (.tup (.cons (.ite (.cmp .ne (.call "worth" (.cons (.ix (.v 5) (.c (.int 2))) (.cons (.v 3) .nil))) (.c (.int 0))) (.ix (.v 5) (.c (.int 1))) (.bin .add (.v 2) (.c (.int 1)))) (.cons (.v 3) (.cons (.v 4) .nil)))))
    .nil)
    .nil)
    (.cons (.iff (.or (.and (.cmp .eq (.ix (.v 5) (.c (.int 0))) (.c (.str "take"))) (.cmp .isin (.ix (.v 5) (.c (.int 1))) (.v 4))) (.and (.cmp .eq (.ix (.v 5) (.c (.int 0))) (.c (.str "free"))) (.cmp .notin (.ix (.v 5) (.c (.int 1))) (.v 4))))
    (.cons (.ret (.tup (.cons (.bin .add (.v 2) (.c (.int 1))) (.cons (.v 3) (.cons (.v 4) .nil)))))
    .nil)
    .nil)
    (.cons (.ret (.c .non))
    .nil)))))))
def f_own_step : Fn := ⟨2, 6, b_own_step⟩
def n_rested : List String := ["program", "hand", "seat", "rows", "turn", "behind"]
def b_rested : Ss :=
    (.cons (.asg 3 (.call "rows_of" (.cons (.v 0) (.cons (.v 1) .nil))))
    (.cons (.for_ (.n 4) (.rng (.g "MOST_OWN_ROWS"))
    (.cons (.asg 5 (.call "own_step" (.cons (.v 3) (.cons (.v 2) .nil))))
    (.cons (.iff (.cmp .is (.v 5) (.c .non))
    (.cons (.ret (.v 2))
    .nil)
    .nil)
    (.cons (.asg 2 (.v 5))
    .nil))))
    (.cons (.iff (.cmp .is (.call "own_step" (.cons (.v 3) (.cons (.v 2) .nil))) (.c .non))
    (.cons (.ret (.v 2))
    .nil)
    .nil)
    (.cons (.ret (.tup (.cons (.bi .len (.cons (.v 3) .nil)) (.cons (.ix (.v 2) (.c (.int 1))) (.cons (.ix (.v 2) (.c (.int 2))) .nil)))))
    .nil))))
def f_rested : Fn := ⟨3, 6, b_rested⟩
def n_first_seat : List String := ["program", "hand"]
def b_first_seat : Ss :=
    (.cons (.ret (.call "rested" (.cons (.v 0) (.cons (.v 1) (.cons (.tup (.cons (.c (.int 0)) (.cons (.tup .nil) (.cons (.tup .nil) .nil)))) .nil)))))
    .nil)
def f_first_seat : Fn := ⟨2, 2, b_first_seat⟩
def n_touch_of : List String := ["program", "hand", "seat", "rows", "row"]
def b_touch_of : Ss :=
    (.cons (.asg 3 (.call "rows_of" (.cons (.v 0) (.cons (.v 1) .nil))))
    (.cons (.iff (.cmp .eq (.ix (.v 2) (.c (.int 0))) (.bi .len (.cons (.v 3) .nil)))
    (.cons (.ret (.c .non))
    .nil)
    .nil)
    (.cons (.asg 4 (.ix (.v 3) (.ix (.v 2) (.c (.int 0)))))
    (.cons (.iff (.cmp .isin (.ix (.v 4) (.c (.int 0))) (.g "TOLD_OUT"))
    (.cons (.ret (.tup (.cons (.ix (.v 4) (.c (.int 0))) (.cons (.ix (.v 4) (.c (.int 1))) (.cons (.call "worth" (.cons (.ix (.v 4) (.c (.int 2))) (.cons (.ix (.v 2) (.c (.int 1))) .nil))) .nil)))))
    .nil)
    .nil)
    (.cons (.iff (.cmp .eq (.ix (.v 4) (.c (.int 0))) (.c (.str "lot")))
    (.cons (.ret (.tup (.cons (.c (.str "lot")) (.cons (.c (.str "")) (.cons (.ix (.v 4) (.c (.int 2))) .nil)))))
    .nil)
    .nil)
    (.cons (.iff (.cmp .eq (.ix (.v 4) (.c (.int 0))) (.c (.str "clock")))
    (.cons (.ret (.tup (.cons (.c (.str "clock")) (.cons (.c (.str "")) (.cons (.c .non) .nil)))))
    .nil)
    .nil)
    (.cons (.iff (.or (.cmp .eq (.ix (.v 4) (.c (.int 0))) (.c (.str "take"))) (.cmp .eq (.ix (.v 4) (.c (.int 0))) (.c (.str "free"))))
    (.cons (.ret (.tup (.cons (.ix (.v 4) (.c (.int 0))) (.cons (.ix (.v 4) (.c (.int 1))) (.cons (.c .non) .nil)))))
    .nil)
    .nil)
    (.cons (.ret (.tup (.cons (.ix (.v 4) (.c (.int 0))) (.cons (.ix (.v 4) (.c (.int 2))) (.cons (.c .non) .nil)))))
    .nil))))))))
def f_touch_of : Fn := ⟨3, 5, b_touch_of⟩
def n_seat_behind : List String := ["program", "hand", "seat", "value", "number", "pockets", "held", "row", "lock"]
def b_seat_behind : Ss :=
    (.cons (.tas [4, 5, 6] (.v 2))
    (.cons (.asg 7 (.ix (.call "rows_of" (.cons (.v 0) (.cons (.v 1) .nil))) (.v 4)))
    (.cons (.iff (.cmp .isin (.ix (.v 7) (.c (.int 0))) (.g "GIVEN_IN"))
    (.cons (.asg 5 (.call "laid_in" (.cons (.v 5) (.cons (.ix (.v 7) (.c (.int 1))) (.cons (.v 3) .nil)))))
    .nil)
    (.cons (.iff (.cmp .eq (.ix (.v 7) (.c (.int 0))) (.c (.str "take")))
    (.cons (.asg 6 (.bi .tuple (.cons (.bi .sorted (.cons (.bin .add (.v 6) (.tup (.cons (.ix (.v 7) (.c (.int 1))) .nil))) .nil)) .nil)))
    .nil)
    (.cons (.iff (.cmp .eq (.ix (.v 7) (.c (.int 0))) (.c (.str "free")))
    (.cons (.asg 6 (.bi .tuple (.cons (.lc (.v 8) (.n 8) (.of (.v 6)) (.cmp .ne (.v 8) (.ix (.v 7) (.c (.int 1)))) [8]) .nil)))
    .nil)
    .nil)
    .nil))
    .nil))
    (.cons (.ret (.call "rested" (.cons (.v 0) (.cons (.v 1) (.cons (.tup (.cons (.bin .add (.v 4) (.c (.int 1))) (.cons (.v 5) (.cons (.v 6) .nil)))) .nil)))))
    .nil))))
def f_seat_behind : Fn := ⟨4, 9, b_seat_behind⟩
def n_first_stand : List String := ["program", "boxes", "locks", "lanes", "doors", "hands", "counts", "seats", "full", "free", "empty", "hand", "one", "name"]
def b_first_stand : Ss :=
    (.cons (.tas [1, 2, 3, 4, 5] (.v 0))
    (.cons (.asg 6 (.bi .tuple (.cons (.lc (.c (.int 0)) (.n 11) (.of (.v 5)) (.c (.bl true)) [11]) .nil)))
    (.cons (.asg 7 (.bi .tuple (.cons (.lc (.call "first_seat" (.cons (.v 0) (.cons (.v 11) .nil))) (.n 11) (.rng (.bi .len (.cons (.v 5) .nil))) (.c (.bl true)) [11]) .nil)))
    (.cons (.asg 8 (.bi .tuple (.cons (.lc (.tup (.cons (.ix (.v 12) (.c (.int 1))) (.cons (.c .non) .nil))) (.n 12) (.of (.v 1)) (.c (.bl true)) [12]) .nil)))
    (.cons (.asg 9 (.bi .tuple (.cons (.lc (.tup (.cons (.c .non) (.cons (.c .non) .nil))) (.n 13) (.of (.v 2)) (.c (.bl true)) [13]) .nil)))
    (.cons (.asg 10 (.bi .tuple (.cons (.lc (.tup (.cons (.c (.int 0)) (.cons (.c (.int 0)) (.cons (.tup .nil) .nil)))) (.n 13) (.of (.v 3)) (.c (.bl true)) [13]) .nil)))
    (.cons (.ret (.tup (.cons (.v 6) (.cons (.v 7) (.cons (.v 8) (.cons (.v 9) (.cons (.v 10) (.cons (.bi .tuple (.cons (.lc (.c (.int 0)) (.n 13) (.of (.v 4)) (.c (.bl true)) [13]) .nil)) .nil))))))))
    .nil)))))))
def f_first_stand : Fn := ⟨1, 14, b_first_stand⟩
def n_wait_of : List String := ["program", "stand", "hand", "touch", "kind", "thing", "holder"]
def b_wait_of : Ss :=
    (.cons (.asg 3 (.call "touch_of" (.cons (.v 0) (.cons (.v 2) (.cons (.ix (.ix (.v 1) (.c (.int 1))) (.v 2)) .nil)))))
    (.cons (.iff (.cmp .is (.v 3) (.c .non))
    (.cons (.ret (.c (.str "end")))
    .nil)
    .nil)
    (.cons (.tas [4, 5] (.sl (.v 3) .no (.some (.c (.int 2)))))
    (.cons (.iff (.cmp .eq (.v 4) (.c (.str "take")))
    (.cons (.asg 6 (.ix (.ix (.ix (.v 1) (.c (.int 3))) (.call "number_of" (.cons (.v 0) (.cons (.c (.str "lock")) (.cons (.v 5) .nil))))) (.c (.int 0))))
    (.cons (.iff (.cmp .isnot (.v 6) (.c .non))
    (.cons (.ret (.tup (.cons (.c (.str "lock")) (.cons (.v 5) (.cons (.v 6) .nil)))))
    .nil)
    .nil)
    .nil))
    .nil)
    (.cons (.iff (.and (.cmp .eq (.v 4) (.c (.str "fetch"))) (.cmp .eq (.ix (.ix (.ix (.v 1) (.c (.int 4))) (.call "number_of" (.cons (.v 0) (.cons (.c (.str "lane")) (.cons (.v 5) .nil))))) (.c (.int 2))) (.tup .nil)))
    (.cons (.ret (.tup (.cons (.c (.str "letter")) (.cons (.v 5) .nil))))
    .nil)
    .nil)
    (.cons (.ret (.c .non))
    .nil))))))
def f_wait_of : Fn := ⟨3, 7, b_wait_of⟩
def n_waits : List String := ["program", "stand", "hand"]
def b_waits : Ss :=
    (.cons (.ret (.bi .tuple (.cons (.lc (.call "wait_of" (.cons (.v 0) (.cons (.v 1) (.cons (.v 2) .nil)))) (.n 2) (.rng (.bi .len (.cons (.ix (.v 0) (.c (.int 4))) .nil))) (.c (.bl true)) [2]) .nil)))
    .nil)
def f_waits : Fn := ⟨2, 3, b_waits⟩
def n_can_go : List String := ["program", "stand", "hand", "wait"]
def b_can_go : Ss :=
    (.cons (.ret (.lc (.v 2) (.tu [2, 3]) (.enum (.call "waits" (.cons (.v 0) (.cons (.v 1) .nil)))) (.cmp .is (.v 3) (.c .non)) [2, 3]))
    .nil)
def f_can_go : Fn := ⟨2, 4, b_can_go⟩
def n_is_whole : List String := ["thing"]
def b_is_whole : Ss :=
    (.cons (.ret (.and (.isi (.v 0) ["int"]) (.not (.isi (.v 0) ["bool"]))))
    .nil)
def f_is_whole : Fn := ⟨1, 1, b_is_whole⟩
def n_takes_gift : List String := ["touch", "gift", "most"]
def b_takes_gift : Ss :=
    (.cons (.iff (.cmp .notin (.ix (.v 0) (.c (.int 0))) (.g "ASKING"))
    (.cons (.ret (.cmp .is (.v 1) (.c .non)))
    .nil)
    .nil)
    (.cons (.asg 2 (.ite (.cmp .eq (.ix (.v 0) (.c (.int 0))) (.c (.str "lot"))) (.ix (.v 0) (.c (.int 2))) (.g "VALUES")))
    (.cons (.ret (.and (.call "is_whole" (.cons (.v 1) .nil)) (.ch .le .lt (.c (.int 0)) (.v 1) (.v 2))))
    .nil)))
def f_takes_gift : Fn := ⟨2, 3, b_takes_gift⟩
def n_laid_at : List String := ["row", "place", "thing"]
def b_laid_at : Ss :=
    (.cons (.ret (.bin .add (.bin .add (.sl (.v 0) .no (.some (.v 1))) (.tup (.cons (.v 2) .nil))) (.sl (.v 0) (.some (.bin .add (.v 1) (.c (.int 1)))) .no)))
    .nil)
def f_laid_at : Fn := ⟨3, 3, b_laid_at⟩
def n_box_touched : List String := ["program", "things", "event", "touch", "boxes", "locks", "lanes", "doors", "kind", "thing", "value", "place", "found", "mark"]
def b_box_touched : Ss :=
    (.cons (.tas [4, 5, 6, 7] (.v 1))
    (.cons (.tas [8, 9, 10] (.v 3))
    (.cons (.asg 11 (.call "number_of" (.cons (.v 0) (.cons (.c (.str "box")) (.cons (.v 9) .nil)))))
    (.cons (.tas [12, 13] (.ix (.v 4) (.v 11)))
    (.cons (.iff (.cmp .eq (.v 8) (.c (.str "get")))
    (.cons (.ret (.tup (.cons (.v 1) (.cons (.tup (.cons (.v 8) (.cons (.v 9) (.cons (.v 12) (.cons (.v 13) .nil))))) (.cons (.v 12) .nil)))))
    .nil)
    .nil)
    (.cons (.ret (.tup (.cons (.tup (.cons (.call "laid_at" (.cons (.v 4) (.cons (.v 11) (.cons (.tup (.cons (.v 10) (.cons (.v 2) .nil))) .nil)))) (.cons (.v 5) (.cons (.v 6) (.cons (.v 7) .nil))))) (.cons (.tup (.cons (.v 8) (.cons (.v 9) (.cons (.v 10) (.cons (.v 13) .nil))))) (.cons (.c .non) .nil)))))
    .nil))))))
def f_box_touched : Fn := ⟨4, 14, b_box_touched⟩
def n_lock_touched : List String := ["program", "things", "event", "touch", "boxes", "locks", "lanes", "doors", "kind", "thing", "place", "mark"]
def b_lock_touched : Ss :=
    (.cons (.tas [4, 5, 6, 7] (.v 1))
    (.cons (.tas [8, 9] (.sl (.v 3) .no (.some (.c (.int 2)))))
    (.cons (.asg 10 (.call "number_of" (.cons (.v 0) (.cons (.c (.str "lock")) (.cons (.v 9) .nil)))))
    (.cons (.asg 11 (.ix (.ix (.v 5) (.v 10)) (.c (.int 1))))
    (.cons (.iff (.cmp .eq (.v 8) (.c (.str "take")))
    (.cons (.ret (.tup (.cons (.tup (.cons (.v 4) (.cons (.call "laid_at" (.cons (.v 5) (.cons (.v 10) (.cons (.tup (.cons (.ix (.v 2) (.c (.int 0))) (.cons (.v 11) .nil))) .nil)))) (.cons (.v 6) (.cons (.v 7) .nil))))) (.cons (.tup (.cons (.v 8) (.cons (.v 9) (.cons (.c .non) (.cons (.v 11) .nil))))) (.cons (.c .non) .nil)))))
    .nil)
    .nil)
    (.cons (.ret (.tup (.cons (.tup (.cons (.v 4) (.cons (.call "laid_at" (.cons (.v 5) (.cons (.v 10) (.cons (.tup (.cons (.c .non) (.cons (.v 2) .nil))) .nil)))) (.cons (.v 6) (.cons (.v 7) .nil))))) (.cons (.tup (.cons (.v 8) (.cons (.v 9) (.cons (.c .non) (.cons (.c .non) .nil))))) (.cons (.c .non) .nil)))))
    .nil))))))
def f_lock_touched : Fn := ⟨4, 12, b_lock_touched⟩
def n_lane_touched : List String := ["program", "things", "touch", "boxes", "locks", "lanes", "doors", "kind", "thing", "value", "place", "sent", "fetched", "letters", "lane", "look"]
def b_lane_touched : Ss :=
    (.cons (.tas [3, 4, 5, 6] (.v 1))
    (.cons (.tas [7, 8, 9] (.v 2))
    (.cons (.asg 10 (.call "number_of" (.cons (.v 0) (.cons (.c (.str "lane")) (.cons (.v 8) .nil)))))
    (.cons (.tas [11, 12, 13] (.ix (.v 5) (.v 10)))
    (.cons (.iff (.cmp .eq (.v 7) (.c (.str "send")))
    (.cons (.asg 14 (.tup (.cons (.bin .add (.v 11) (.c (.int 1))) (.cons (.v 12) (.cons (.bin .add (.v 13) (.tup (.cons (.v 9) .nil))) .nil)))))
    (.cons (.ret (.tup (.cons (.tup (.cons (.v 3) (.cons (.v 4) (.cons (.call "laid_at" (.cons (.v 5) (.cons (.v 10) (.cons (.v 14) .nil)))) (.cons (.v 6) .nil))))) (.cons (.tup (.cons (.v 7) (.cons (.v 8) (.cons (.v 9) (.cons (.v 11) .nil))))) (.cons (.c .non) .nil)))))
    .nil))
    .nil)
    (.cons (.asg 14 (.tup (.cons (.v 11) (.cons (.bin .add (.v 12) (.c (.int 1))) (.cons (.sl (.v 13) (.some (.c (.int 1))) .no) .nil)))))
    (.cons (.asg 15 (.tup (.cons (.v 7) (.cons (.v 8) (.cons (.ix (.v 13) (.c (.int 0))) (.cons (.v 12) .nil))))))
    (.cons (.ret (.tup (.cons (.tup (.cons (.v 3) (.cons (.v 4) (.cons (.call "laid_at" (.cons (.v 5) (.cons (.v 10) (.cons (.v 14) .nil)))) (.cons (.v 6) .nil))))) (.cons (.v 15) (.cons (.ix (.v 13) (.c (.int 0))) .nil)))))
    .nil))))))))
def f_lane_touched : Fn := ⟨3, 16, b_lane_touched⟩
def n_touched : List String := ["program", "things", "event", "touch", "gift", "kind", "thing", "value", "boxes", "locks", "lanes", "doors", "place", "behind"]
def b_touched : Ss :=
    (.cons (.tas [5, 6, 7] (.v 3))
    (.cons (.iff (.cmp .isin (.v 5) (.tup (.cons (.c (.str "get")) (.cons (.c (.str "put")) .nil))))
    (.cons (.ret (.call "box_touched" (.cons (.v 0) (.cons (.v 1) (.cons (.v 2) (.cons (.v 3) .nil))))))
    .nil)
    .nil)
    (.cons (.iff (.cmp .isin (.v 5) (.tup (.cons (.c (.str "take")) (.cons (.c (.str "free")) .nil))))
    (.cons (.ret (.call "lock_touched" (.cons (.v 0) (.cons (.v 1) (.cons (.v 2) (.cons (.v 3) .nil))))))
    .nil)
    .nil)
    (.cons (.iff (.cmp .isin (.v 5) (.tup (.cons (.c (.str "send")) (.cons (.c (.str "fetch")) .nil))))
    (.cons (.ret (.call "lane_touched" (.cons (.v 0) (.cons (.v 1) (.cons (.v 3) .nil)))))
    .nil)
    .nil)
    (.cons (.iff (.cmp .eq (.v 5) (.c (.str "say")))
    (.cons (.tas [8, 9, 10, 11] (.v 1))
    (.cons (.asg 12 (.call "number_of" (.cons (.v 0) (.cons (.c (.str "door")) (.cons (.v 6) .nil)))))
    (.cons (.asg 13 (.tup (.cons (.v 8) (.cons (.v 9) (.cons (.v 10) (.cons (.call "laid_at" (.cons (.v 11) (.cons (.v 12) (.cons (.bin .add (.ix (.v 11) (.v 12)) (.c (.int 1))) .nil)))) .nil))))))
    (.cons (.ret (.tup (.cons (.v 13) (.cons (.tup (.cons (.v 5) (.cons (.v 6) (.cons (.v 7) (.cons (.ix (.v 11) (.v 12)) .nil))))) (.cons (.c .non) .nil)))))
    .nil))))
    .nil)
    (.cons (.ret (.tup (.cons (.v 1) (.cons (.tup (.cons (.v 5) (.cons (.v 6) (.cons (.v 4) (.cons (.c .non) .nil))))) (.cons (.v 4) .nil)))))
    .nil))))))
def f_touched : Fn := ⟨5, 14, b_touched⟩
def n_gone : List String := ["program", "stand", "hand", "gift", "wait", "counts", "seats", "touch", "things", "look", "came", "seat", "behind"]
def b_gone : Ss :=
    (.cons (.iff (.or (.not (.call "is_whole" (.cons (.v 2) .nil))) (.or (.cmp .lt (.v 2) (.c (.int 0))) (.cmp .ge (.v 2) (.bi .len (.cons (.ix (.v 0) (.c (.int 4))) .nil)))))
    (.cons (.raise "" .nil)
    .nil)
    .nil)
    (.cons (.asg 4 (.call "wait_of" (.cons (.v 0) (.cons (.v 1) (.cons (.v 2) .nil)))))
    (.cons (.iff (.cmp .isnot (.v 4) (.c .non))
    (.cons (.raise "" .nil)
    .nil)
    .nil)
    (.cons (.tas [5, 6] (.sl (.v 1) .no (.some (.c (.int 2)))))
    (.cons (.asg 7 (.call "touch_of" (.cons (.v 0) (.cons (.v 2) (.cons (.ix (.v 6) (.v 2)) .nil)))))
    (.cons (.iff (.not (.call "takes_gift" (.cons (.v 7) (.cons (.v 3) .nil))))
    (.cons (.raise "" .nil)
    .nil)
    .nil)
    (.cons (.tas [8, 9, 10] (.call "touched" (.cons (.v 0) (.cons (.sl (.v 1) (.some (.c (.int 2))) .no) (.cons (.tup (.cons (.v 2) (.cons (.ix (.v 5) (.v 2)) .nil))) (.cons (.v 7) (.cons (.v 3) .nil)))))))
    (.cons (.asg 11 (.call "seat_behind" (.cons (.v 0) (.cons (.v 2) (.cons (.ix (.v 6) (.v 2)) (.cons (.v 10) .nil))))))
    (.cons (.asg 12 (.tup (.cons (.call "laid_at" (.cons (.v 5) (.cons (.v 2) (.cons (.bin .add (.ix (.v 5) (.v 2)) (.c (.int 1))) .nil)))) (.cons (.call "laid_at" (.cons (.v 6) (.cons (.v 2) (.cons (.v 11) .nil)))) .nil))))
    (.cons (.ret (.tup (.cons (.bin .add (.v 12) (.v 8)) (.cons (.v 9) .nil))))
    .nil))))))))))
def f_gone : Fn := ⟨4, 13, b_gone⟩
def n_walked : List String := ["program", "stand", "run", "touches", "place", "step", "found", "e"]
def b_walked : Ss :=
    (.cons (.iff (.or (.not (.isi (.v 2) ["tuple"])) (.cmp .gt (.bi .len (.cons (.v 2) .nil)) (.g "MOST_STEPS")))
    (.cons (.raise "" .nil)
    .nil)
    .nil)
    (.cons (.asg 3 (.al (.lst .nil)))
    (.cons (.for_ (.tu [4, 5]) (.enum (.v 2))
    (.cons (.iff (.or (.not (.isi (.v 5) ["tuple"])) (.cmp .ne (.bi .len (.cons (.v 5) .nil)) (.c (.int 2))))
    (.cons (.raise "" .nil)
    .nil)
    .nil)
    (.cons (.try_ (.cons (.asg 6 (.call "gone" (.cons (.v 0) (.cons (.v 1) (.cons (.ix (.v 5) (.c (.int 0))) (.cons (.ix (.v 5) (.c (.int 1))) .nil))))))
    .nil) "" none .nil)
    (.cons (.asg 1 (.ix (.v 6) (.c (.int 0))))
    (.cons (.ex (.mt (.v 3) .append (.cons (.tup (.cons (.ix (.v 5) (.c (.int 0))) (.cons (.ix (.v 6) (.c (.int 1))) .nil))) .nil)))
    .nil)))))
    (.cons (.ret (.tup (.cons (.v 1) (.cons (.bi .tuple (.cons (.v 3) .nil)) .nil))))
    .nil))))
def f_walked : Fn := ⟨3, 8, b_walked⟩
def n__law_tape : List String := ["script"]
def b__law_tape : Ss :=
    (.cons (.ret (.al (.lst (.cons (.v 0) (.cons (.c (.int 0)) (.cons (.c (.int 0)) (.cons (.c (.int 0)) .nil)))))))
    .nil)
def f__law_tape : Fn := ⟨1, 1, b__law_tape⟩
def n__law_draw : List String := ["tape", "many", "script", "cell", "mixed", "figure"]
def b__law_draw : Ss :=
    (.cons (.asg 2 (.ix (.v 0) (.c (.int 0))))
    (.cons (.ixs (.v 0) (.c (.int 1)) (.bin .add (.ix (.v 0) (.c (.int 1))) (.c (.int 1))))
    (.cons (.iff (.and (.cmp .eq (.ix (.v 0) (.c (.int 2))) (.c (.int 0))) (.cmp .lt (.ix (.v 0) (.c (.int 3))) (.bi .len (.cons (.v 2) .nil))))
    (.cons (.ixs (.v 0) (.c (.int 2)) (.bin .div (.bi .abs (.cons (.ix (.v 2) (.ix (.v 0) (.c (.int 3)))) .nil)) (.bin .pow (.c (.int 10)) (.c (.int 18)))))
    (.cons (.ixs (.v 0) (.c (.int 3)) (.bin .add (.ix (.v 0) (.c (.int 3))) (.c (.int 1))))
    .nil))
    .nil)
    (.cons (.iff (.cmp .gt (.ix (.v 0) (.c (.int 2))) (.c (.int 0)))
    (.cons (.asg 5 (.bin .mod (.ix (.v 0) (.c (.int 2))) (.v 1)))
    (.cons (.ixs (.v 0) (.c (.int 2)) (.bin .div (.ix (.v 0) (.c (.int 2))) (.v 1)))
    (.cons (.ret (.v 5))
    .nil)))
    .nil)
    (.cons (.asg 3 (.c (.int 0)))
    (.cons (.iff (.cmp .gt (.bi .len (.cons (.v 2) .nil)) (.c (.int 0)))
    (.cons (.asg 3 (.ix (.v 2) (.bin .mod (.ix (.v 0) (.c (.int 1))) (.bi .len (.cons (.v 2) .nil)))))
    .nil)
    .nil)
    (.cons (.asg 4 (.bin .mod (.bin .add (.bin .add (.bin .mul (.bin .mod (.v 3) (.c (.int 2147483647))) (.c (.int 48271))) (.bin .mul (.ix (.v 0) (.c (.int 1))) (.c (.int 7919)))) (.c (.int 12345))) (.c (.int 2147483629))))
    (.cons (.asg 4 (.bin .mod (.bin .mul (.v 4) (.bin .add (.v 4) (.c (.int 40692)))) (.c (.int 2147483587))))
    (.cons (.ret (.bin .mod (.bin .mod (.bin .mul (.v 4) (.c (.int 16807))) (.c (.int 2147483563))) (.v 1)))
    .nil)))))))))
def f__law_draw : Fn := ⟨2, 6, b__law_draw⟩
def n__law_names : List String := ["tape", "many", "pool", "start", "stride", "k"]
def b__law_names : Ss :=
    (.cons (.asg 2 (.lst (.cons (.c (.str "a")) (.cons (.c (.str "ab")) (.cons (.c (.str "abc")) (.cons (.c (.str "b")) (.cons (.c (.str "ba")) (.cons (.c (.str "taker")) (.cons (.c (.str "boxa")) (.cons (.c (.str "sendx")) (.cons (.c (.str "abcdefgh")) (.cons (.c (.str "handy")) (.cons (.c (.str "c")) (.cons (.c (.str "lotb")) (.cons (.c (.str "z")) (.cons (.c (.str "freely")) .nil))))))))))))))))
    (.cons (.asg 2 (.bin .add (.v 2) (.lst (.cons (.c (.str "gets")) (.cons (.c (.str "putx")) (.cons (.c (.str "getter")) (.cons (.c (.str "sends")) (.cons (.c (.str "abcd")) (.cons (.c (.str "y")) (.cons (.c (.str "ya")) (.cons (.c (.str "lotus")) (.cons (.c (.str "doors")) (.cons (.c (.str "handle")) .nil)))))))))))))
    (.cons (.asg 3 (.call "_law_draw" (.cons (.v 0) (.cons (.c (.int 24)) .nil))))
    (.cons (.asg 4 (.ix (.lst (.cons (.c (.int 1)) (.cons (.c (.int 5)) (.cons (.c (.int 7)) (.cons (.c (.int 11)) .nil))))) (.call "_law_draw" (.cons (.v 0) (.cons (.c (.int 4)) .nil)))))
    (.cons (.ret (.lc (.ix (.v 2) (.bin .mod (.bin .add (.v 3) (.bin .mul (.v 4) (.v 5))) (.c (.int 24)))) (.n 5) (.rng (.v 1)) (.c (.bl true)) [5]))
    .nil)))))
def f__law_names : Fn := ⟨2, 6, b__law_names⟩
def n__law_pocket : List String := ["tape", "kit"]
def b__law_pocket : Ss :=
    (.cons (.ret (.ix (.ix (.v 1) (.c (.str "pockets"))) (.call "_law_draw" (.cons (.v 0) (.cons (.bi .len (.cons (.ix (.v 1) (.c (.str "pockets"))) .nil)) .nil)))))
    .nil)
def f__law_pocket : Fn := ⟨2, 2, b__law_pocket⟩
def n__law_sum : List String := ["tape", "kit", "deep", "way", "word", "one"]
def b__law_sum : Ss :=
    (.cons (.asg 3 (.call "_law_draw" (.cons (.v 0) (.cons (.c (.int 8)) .nil))))
    (.cons (.iff (.or (.cmp .eq (.v 2) (.c (.int 0))) (.cmp .lt (.v 3) (.c (.int 4))))
    (.cons (.iff (.cmp .eq (.bin .mod (.v 3) (.c (.int 2))) (.c (.int 0)))
    (.cons (.ret (.tup (.cons (.c (.str "of")) (.cons (.call "_law_pocket" (.cons (.v 0) (.cons (.v 1) .nil))) .nil))))
    .nil)
    .nil)
    (.cons (.ret (.tup (.cons (.c (.str "num")) (.cons (.ix (.lst (.cons (.call "_law_draw" (.cons (.v 0) (.cons (.c (.int 4)) .nil))) (.cons (.call "_law_draw" (.cons (.v 0) (.cons (.c (.int 1000)) .nil))) .nil))) (.bi .int (.cons (.cmp .eq (.call "_law_draw" (.cons (.v 0) (.cons (.c (.int 5)) .nil))) (.c (.int 0))) .nil))) .nil))))
    .nil))
    .nil)
    (.cons (.iff (.cmp .eq (.v 3) (.c (.int 4)))
    (.cons (.ret (.tup (.cons (.c (.str "not")) (.cons (.call "_law_sum" (.cons (.v 0) (.cons (.v 1) (.cons (.bin .sub (.v 2) (.c (.int 1))) .nil)))) .nil))))
    .nil)
    .nil)
    (.cons (.asg 4 (.ix (.lst (.cons (.c (.str "add")) (.cons (.c (.str "sub")) (.cons (.c (.str "mul")) (.cons (.c (.str "less")) (.cons (.c (.str "same")) .nil)))))) (.call "_law_draw" (.cons (.v 0) (.cons (.c (.int 5)) .nil)))))
    (.cons (.asg 5 (.call "_law_sum" (.cons (.v 0) (.cons (.v 1) (.cons (.bin .sub (.v 2) (.c (.int 1))) .nil)))))
    (.cons (.ret (.tup (.cons (.v 4) (.cons (.v 5) (.cons (.call "_law_sum" (.cons (.v 0) (.cons (.v 1) (.cons (.bin .sub (.v 2) (.c (.int 1))) .nil)))) .nil)))))
    .nil))))))
def f__law_sum : Fn := ⟨3, 6, b__law_sum⟩
def n__law_at_box : List String := ["tape", "kit", "box"]
def b__law_at_box : Ss :=
    (.cons (.asg 2 (.ix (.ix (.v 1) (.c (.str "boxes"))) (.call "_law_draw" (.cons (.v 0) (.cons (.bi .len (.cons (.ix (.v 1) (.c (.str "boxes"))) .nil)) .nil)))))
    (.cons (.iff (.cmp .eq (.call "_law_draw" (.cons (.v 0) (.cons (.c (.int 2)) .nil))) (.c (.int 0)))
    (.cons (.ret (.tup (.cons (.c (.str "get")) (.cons (.call "_law_pocket" (.cons (.v 0) (.cons (.v 1) .nil))) (.cons (.v 2) .nil)))))
    .nil)
    .nil)
    (.cons (.ret (.tup (.cons (.c (.str "put")) (.cons (.v 2) (.cons (.call "_law_sum" (.cons (.v 0) (.cons (.v 1) (.cons (.c (.int 2)) .nil)))) .nil)))))
    .nil)))
def f__law_at_box : Fn := ⟨2, 3, b__law_at_box⟩
def n__law_by_lock : List String := ["tape", "kit", "lock", "some", "k"]
def b__law_by_lock : Ss :=
    (.cons (.asg 2 (.ix (.ix (.v 1) (.c (.str "locks"))) (.call "_law_draw" (.cons (.v 0) (.cons (.bi .len (.cons (.ix (.v 1) (.c (.str "locks"))) .nil)) .nil)))))
    (.cons (.asg 3 (.bin .add (.lst (.cons (.tup (.cons (.c (.str "take")) (.cons (.v 2) .nil))) .nil)) (.lc (.call "_law_at_box" (.cons (.v 0) (.cons (.v 1) .nil))) (.n 4) (.rng (.call "_law_draw" (.cons (.v 0) (.cons (.c (.int 3)) .nil)))) (.c (.bl true)) [4])))
    (.cons (.ret (.bin .add (.v 3) (.bin .mul (.lst (.cons (.tup (.cons (.c (.str "free")) (.cons (.v 2) .nil))) .nil)) (.bi .int (.cons (.cmp .gt (.call "_law_draw" (.cons (.v 0) (.cons (.c (.int 6)) .nil))) (.c (.int 0))) .nil)))))
    .nil)))
def f__law_by_lock : Fn := ⟨2, 5, b__law_by_lock⟩
def n__law_piece : List String := ["tape", "kit", "way", "lane", "door"]
def b__law_piece : Ss :=
    (.cons (.asg 2 (.call "_law_draw" (.cons (.v 0) (.cons (.c (.int 12)) .nil))))
    (.cons (.iff (.cmp .lt (.v 2) (.c (.int 4)))
    (.cons (.ret (.lst (.cons (.call "_law_at_box" (.cons (.v 0) (.cons (.v 1) .nil))) .nil)))
    .nil)
    .nil)
    (.cons (.iff (.and (.cmp .lt (.v 2) (.c (.int 6))) (.cmp .ne (.ix (.v 1) (.c (.str "locks"))) (.lst .nil)))
    (.cons (.ret (.call "_law_by_lock" (.cons (.v 0) (.cons (.v 1) .nil))))
    .nil)
    .nil)
    (.cons (.iff (.and (.cmp .lt (.v 2) (.c (.int 8))) (.cmp .ne (.ix (.v 1) (.c (.str "lanes"))) (.lst .nil)))
    (.cons (.asg 3 (.ix (.ix (.v 1) (.c (.str "lanes"))) (.call "_law_draw" (.cons (.v 0) (.cons (.bi .len (.cons (.ix (.v 1) (.c (.str "lanes"))) .nil)) .nil)))))
    (.cons (.iff (.cmp .lt (.call "_law_draw" (.cons (.v 0) (.cons (.c (.int 5)) .nil))) (.c (.int 3)))
    (.cons (.ret (.lst (.cons (.tup (.cons (.c (.str "send")) (.cons (.v 3) (.cons (.call "_law_sum" (.cons (.v 0) (.cons (.v 1) (.cons (.c (.int 1)) .nil)))) .nil)))) .nil)))
    .nil)
    .nil)
    (.cons (.ret (.lst (.cons (.tup (.cons (.c (.str "fetch")) (.cons (.call "_law_pocket" (.cons (.v 0) (.cons (.v 1) .nil))) (.cons (.v 3) .nil)))) .nil)))
    .nil)))
    .nil)
    (.cons (.iff (.and (.cmp .eq (.v 2) (.c (.int 8))) (.cmp .ne (.ix (.v 1) (.c (.str "doors"))) (.lst .nil)))
    (.cons (.asg 4 (.ix (.ix (.v 1) (.c (.str "doors"))) (.call "_law_draw" (.cons (.v 0) (.cons (.bi .len (.cons (.ix (.v 1) (.c (.str "doors"))) .nil)) .nil)))))
    (.cons (.ret (.lst (.cons (.ix (.lst (.cons (.tup (.cons (.c (.str "say")) (.cons (.v 4) (.cons (.call "_law_sum" (.cons (.v 0) (.cons (.v 1) (.cons (.c (.int 1)) .nil)))) .nil)))) (.cons (.tup (.cons (.c (.str "hear")) (.cons (.call "_law_pocket" (.cons (.v 0) (.cons (.v 1) .nil))) (.cons (.v 4) .nil)))) .nil))) (.call "_law_draw" (.cons (.v 0) (.cons (.c (.int 2)) .nil)))) .nil)))
    .nil))
    .nil)
    (.cons (.iff (.cmp .eq (.v 2) (.c (.int 9)))
    (.cons (.ret (.lst (.cons (.tup (.cons (.c (.str "clock")) (.cons (.call "_law_pocket" (.cons (.v 0) (.cons (.v 1) .nil))) .nil))) .nil)))
    .nil)
    .nil)
    (.cons (.iff (.cmp .eq (.v 2) (.c (.int 10)))
    (.cons (.ret (.lst (.cons (.tup (.cons (.c (.str "lot")) (.cons (.call "_law_pocket" (.cons (.v 0) (.cons (.v 1) .nil))) (.cons (.ix (.lst (.cons (.c (.int 2)) (.cons (.c (.int 3)) (.cons (.c (.int 1000)) .nil)))) (.call "_law_draw" (.cons (.v 0) (.cons (.c (.int 3)) .nil)))) .nil)))) .nil)))
    .nil)
    .nil)
    (.cons (.ret (.lst (.cons (.tup (.cons (.c (.str "let")) (.cons (.call "_law_pocket" (.cons (.v 0) (.cons (.v 1) .nil))) (.cons (.call "_law_sum" (.cons (.v 0) (.cons (.v 1) (.cons (.c (.int 2)) .nil)))) .nil)))) .nil)))
    .nil))))))))
def f__law_piece : Fn := ⟨2, 5, b__law_piece⟩
def n__law_rows : List String := ["tape", "kit", "rows", "k", "goal"]
def b__law_rows : Ss :=
    (.cons (.asg 2 (.al (.lst .nil)))
    (.cons (.for_ (.n 3) (.rng (.bin .add (.c (.int 1)) (.call "_law_draw" (.cons (.v 0) (.cons (.c (.int 5)) .nil)))))
    (.cons (.asg 2 (.al (.bin .add (.v 2) (.call "_law_piece" (.cons (.v 0) (.cons (.v 1) .nil))))))
    .nil))
    (.cons (.for_ (.n 3) (.rng (.bin .div (.call "_law_draw" (.cons (.v 0) (.cons (.c (.int 5)) .nil))) (.c (.int 2))))
    (.cons (.asg 4 (.call "_law_draw" (.cons (.v 0) (.cons (.bin .add (.bi .len (.cons (.v 2) .nil)) (.c (.int 2))) .nil))))
    (.cons (.ex (.mt (.v 2) .insert (.cons (.call "_law_draw" (.cons (.v 0) (.cons (.bin .add (.bi .len (.cons (.v 2) .nil)) (.c (.int 1))) .nil))) (.cons (.tup (.cons (.c (.str "leap")) (.cons (.v 4) (.cons (.call "_law_sum" (.cons (.v 0) (.cons (.v 1) (.cons (.c (.int 1)) .nil)))) .nil)))) .nil))))
    .nil)))
    (.cons (.ret (.bi .tuple (.cons (.v 2) .nil)))
    .nil))))
def f__law_rows : Fn := ⟨2, 5, b__law_rows⟩
def n__law_program : List String := ["tape", "many", "k", "names", "some", "kit", "boxes", "hands", "name"]
def b__law_program : Ss :=
    (.cons (.asg 1 (.al (.lst (.cons (.ix (.lst (.cons (.c (.int 1)) (.cons (.c (.int 1)) (.cons (.c (.int 1)) (.cons (.c (.int 2)) (.cons (.c (.int 2)) (.cons (.c (.int 4)) .nil))))))) (.call "_law_draw" (.cons (.v 0) (.cons (.c (.int 6)) .nil)))) .nil))))
    (.cons (.for_ (.n 2) (.rng (.c (.int 3)))
    (.cons (.ex (.mt (.v 1) .append (.cons (.ix (.lst (.cons (.c (.int 0)) (.cons (.c (.int 1)) (.cons (.c (.int 1)) (.cons (.c (.int 1)) (.cons (.c (.int 2)) (.cons (.c (.int 4)) .nil))))))) (.call "_law_draw" (.cons (.v 0) (.cons (.c (.int 6)) .nil)))) .nil)))
    .nil))
    (.cons (.ex (.mt (.v 1) .append (.cons (.ix (.lst (.cons (.c (.int 1)) (.cons (.c (.int 2)) (.cons (.c (.int 2)) (.cons (.c (.int 3)) (.cons (.c (.int 3)) (.cons (.c (.int 4)) .nil))))))) (.call "_law_draw" (.cons (.v 0) (.cons (.c (.int 6)) .nil)))) .nil)))
    (.cons (.asg 3 (.call "_law_names" (.cons (.v 0) (.cons (.bi .sum (.cons (.v 1) .nil)) .nil))))
    (.cons (.asg 4 (.al (.lst .nil)))
    (.cons (.for_ (.n 2) (.rng (.c (.int 5)))
    (.cons (.ex (.mt (.v 4) .append (.cons (.sl (.v 3) (.some (.bi .sum (.cons (.sl (.v 1) .no (.some (.v 2))) .nil))) (.some (.bi .sum (.cons (.sl (.v 1) .no (.some (.bin .add (.v 2) (.c (.int 1))))) .nil)))) .nil)))
    .nil))
    (.cons (.asg 5 (.al (.dic [(.str "boxes"), (.str "locks"), (.str "lanes"), (.str "doors")] (.cons (.ix (.v 4) (.c (.int 0))) (.cons (.ix (.v 4) (.c (.int 1))) (.cons (.ix (.v 4) (.c (.int 2))) (.cons (.ix (.v 4) (.c (.int 3))) .nil)))))))
    (.cons (.ixs (.v 5) (.c (.str "pockets")) (.lst (.cons (.c (.str "p")) (.cons (.c (.str "q")) (.cons (.ix (.v 3) (.call "_law_draw" (.cons (.v 0) (.cons (.bi .len (.cons (.v 3) .nil)) .nil)))) .nil)))))
    (.cons (.asg 6 (.bi .tuple (.cons (.lc (.tup (.cons (.v 8) (.cons (.call "_law_draw" (.cons (.v 0) (.cons (.c (.int 3)) .nil))) .nil))) (.n 8) (.of (.ix (.v 4) (.c (.int 0)))) (.c (.bl true)) [8]) .nil)))
    (.cons (.asg 7 (.bi .tuple (.cons (.lc (.tup (.cons (.v 8) (.cons (.call "_law_rows" (.cons (.v 0) (.cons (.v 5) .nil))) .nil))) (.n 8) (.of (.ix (.v 4) (.c (.int 4)))) (.c (.bl true)) [8]) .nil)))
    (.cons (.ret (.tup (.cons (.v 6) (.cons (.bi .tuple (.cons (.ix (.v 4) (.c (.int 1))) .nil)) (.cons (.bi .tuple (.cons (.ix (.v 4) (.c (.int 2))) .nil)) (.cons (.bi .tuple (.cons (.ix (.v 4) (.c (.int 3))) .nil)) (.cons (.v 7) .nil)))))))
    .nil)))))))))))
def f__law_program : Fn := ⟨1, 9, b__law_program⟩
def n__law_gift : List String := ["tape", "program", "stand", "hand", "kind", "thing", "value"]
def b__law_gift : Ss :=
    (.cons (.tas [4, 5, 6] (.call "touch_of" (.cons (.v 1) (.cons (.v 3) (.cons (.ix (.ix (.v 2) (.c (.int 1))) (.v 3)) .nil)))))
    (.cons (.iff (.cmp .eq (.v 4) (.c (.str "lot")))
    (.cons (.ret (.call "_law_draw" (.cons (.v 0) (.cons (.v 6) .nil))))
    .nil)
    .nil)
    (.cons (.iff (.cmp .isin (.v 4) (.tup (.cons (.c (.str "clock")) (.cons (.c (.str "hear")) .nil))))
    (.cons (.ret (.ix (.lst (.cons (.call "_law_draw" (.cons (.v 0) (.cons (.c (.int 3)) .nil))) (.cons (.call "_law_draw" (.cons (.v 0) (.cons (.c (.int 1000)) .nil))) .nil))) (.bi .int (.cons (.cmp .eq (.call "_law_draw" (.cons (.v 0) (.cons (.c (.int 3)) .nil))) (.c (.int 0))) .nil))))
    .nil)
    .nil)
    (.cons (.ret (.c .non))
    .nil))))
def f__law_gift : Fn := ⟨4, 7, b__law_gift⟩
def n__law_run : List String := ["tape", "program", "stand", "most", "run", "k", "hands", "hand", "gift"]
def b__law_run : Ss :=
    (.cons (.asg 4 (.al (.lst .nil)))
    (.cons (.for_ (.n 5) (.rng (.v 3))
    (.cons (.asg 6 (.call "can_go" (.cons (.v 1) (.cons (.v 2) .nil))))
    (.cons (.iff (.cmp .ne (.v 6) (.lst .nil))
    (.cons (.asg 7 (.ix (.v 6) (.call "_law_draw" (.cons (.v 0) (.cons (.bi .len (.cons (.v 6) .nil)) .nil)))))
    (.cons (.asg 8 (.call "_law_gift" (.cons (.v 0) (.cons (.v 1) (.cons (.v 2) (.cons (.v 7) .nil))))))
    (.cons (.ex (.mt (.v 4) .append (.cons (.tup (.cons (.v 7) (.cons (.v 8) .nil))) .nil)))
    (.cons (.asg 2 (.ix (.call "gone" (.cons (.v 1) (.cons (.v 2) (.cons (.v 7) (.cons (.v 8) .nil))))) (.c (.int 0))))
    .nil))))
    .nil)
    .nil)))
    (.cons (.ret (.tup (.cons (.bi .tuple (.cons (.v 4) .nil)) (.cons (.v 2) .nil))))
    .nil)))
def f__law_run : Fn := ⟨4, 9, b__law_run⟩
def n__law_world : List String := ["tape", "program", "stand"]
def b__law_world : Ss :=
    (.cons (.asg 1 (.call "_law_program" (.cons (.v 0) .nil)))
    (.cons (.asg 2 (.call "first_stand" (.cons (.v 1) .nil)))
    (.cons (.iff (.cmp .eq (.call "_law_draw" (.cons (.v 0) (.cons (.c (.int 3)) .nil))) (.c (.int 0)))
    (.cons (.asg 2 (.ix (.call "_law_run" (.cons (.v 0) (.cons (.v 1) (.cons (.v 2) (.cons (.bin .add (.c (.int 1)) (.call "_law_draw" (.cons (.v 0) (.cons (.c (.int 6)) .nil)))) .nil))))) (.c (.int 1))))
    .nil)
    .nil)
    (.cons (.ret (.tup (.cons (.v 1) (.cons (.v 2) (.cons (.ix (.call "_law_run" (.cons (.v 0) (.cons (.v 1) (.cons (.v 2) (.cons (.ix (.lst (.cons (.c (.int 3)) (.cons (.c (.int 6)) (.cons (.c (.int 9)) (.cons (.c (.int 14)) (.cons (.c (.int 24)) .nil)))))) (.call "_law_draw" (.cons (.v 0) (.cons (.c (.int 5)) .nil)))) .nil))))) (.c (.int 0))) .nil)))))
    .nil))))
def f__law_world : Fn := ⟨1, 3, b__law_world⟩
def n__law_word : List String := ["value"]
def b__law_word : Ss :=
    (.cons (.ret (.ite (.cmp .is (.v 0) (.c .non)) (.c (.str "-")) (.bi .str (.cons (.v 0) .nil))))
    .nil)
def f__law_word : Fn := ⟨1, 1, b__law_word⟩
def n__law_look_text : List String := ["look"]
def b__law_look_text : Ss :=
    (.cons (.ret (.mt (.c (.str " ")) .join (.cons (.lst (.cons (.ix (.v 0) (.c (.int 0))) (.cons (.ix (.lst (.cons (.ix (.v 0) (.c (.int 1))) (.cons (.c (.str "-")) .nil))) (.bi .int (.cons (.cmp .eq (.ix (.v 0) (.c (.int 1))) (.c (.str ""))) .nil))) (.cons (.call "_law_word" (.cons (.ix (.v 0) (.c (.int 2))) .nil)) .nil)))) .nil)))
    .nil)
def f__law_look_text : Fn := ⟨1, 1, b__law_look_text⟩
def n__law_run_text : List String := ["program", "run", "words", "hand", "gift"]
def b__law_run_text : Ss :=
    (.cons (.asg 2 (.al (.lst .nil)))
    (.cons (.for_ (.tu [3, 4]) (.of (.v 1))
    (.cons (.ex (.mt (.v 2) .append (.cons (.bin .add (.ix (.ix (.ix (.v 0) (.c (.int 4))) (.v 3)) (.c (.int 0))) (.ite (.cmp .is (.v 4) (.c .non)) (.c (.str "")) (.bin .add (.c (.str ":")) (.bi .str (.cons (.v 4) .nil))))) .nil)))
    .nil))
    (.cons (.ret (.ite (.cmp .ne (.v 2) (.lst .nil)) (.mt (.c (.str " ")) .join (.cons (.v 2) .nil)) (.c (.str "-"))))
    .nil)))
def f__law_run_text : Fn := ⟨2, 5, b__law_run_text⟩
def n__law_look : List String := ["tape", "program", "kinds", "kind", "thing", "value", "mark"]
def b__law_look : Ss :=
    (.cons (.asg 2 (.lst (.cons (.c (.str "get")) (.cons (.c (.str "put")) (.cons (.c (.str "take")) (.cons (.c (.str "free")) (.cons (.c (.str "send")) (.cons (.c (.str "fetch")) (.cons (.c (.str "say")) (.cons (.c (.str "clock")) (.cons (.c (.str "lot")) (.cons (.c (.str "hear")) .nil))))))))))))
    (.cons (.asg 3 (.ix (.v 2) (.call "_law_draw" (.cons (.v 0) (.cons (.c (.int 10)) .nil)))))
    (.cons (.asg 4 (.ix (.lst (.cons (.ix (.ix (.ix (.v 1) (.c (.int 0))) (.c (.int 0))) (.c (.int 0))) (.cons (.c (.str "a")) (.cons (.c (.str "z")) (.cons (.c (.str "abcdefgh")) .nil))))) (.call "_law_draw" (.cons (.v 0) (.cons (.c (.int 4)) .nil)))))
    (.cons (.asg 5 (.ix (.lst (.cons (.c (.int 0)) (.cons (.c (.int 1)) (.cons (.c (.int 999)) (.cons (.call "_law_draw" (.cons (.v 0) (.cons (.c (.int 1000)) .nil))) .nil))))) (.call "_law_draw" (.cons (.v 0) (.cons (.c (.int 4)) .nil)))))
    (.cons (.asg 6 (.ix (.lst (.cons (.c .non) (.cons (.tup (.cons (.c (.int 0)) (.cons (.c (.int 3)) .nil))) .nil))) (.call "_law_draw" (.cons (.v 0) (.cons (.c (.int 2)) .nil)))))
    (.cons (.iff (.cmp .isin (.v 3) (.tup (.cons (.c (.str "clock")) (.cons (.c (.str "lot")) .nil))))
    (.cons (.asg 4 (.c (.str "")))
    .nil)
    .nil)
    (.cons (.iff (.cmp .isin (.v 3) (.tup (.cons (.c (.str "take")) (.cons (.c (.str "free")) .nil))))
    (.cons (.asg 5 (.c .non))
    .nil)
    .nil)
    (.cons (.iff (.cmp .isin (.v 3) (.tup (.cons (.c (.str "free")) (.cons (.c (.str "clock")) (.cons (.c (.str "lot")) (.cons (.c (.str "hear")) .nil))))))
    (.cons (.asg 6 (.c .non))
    .nil)
    .nil)
    (.cons (.iff (.cmp .isin (.v 3) (.tup (.cons (.c (.str "send")) (.cons (.c (.str "fetch")) (.cons (.c (.str "say")) .nil)))))
    (.cons (.asg 6 (.call "_law_draw" (.cons (.v 0) (.cons (.c (.int 9)) .nil))))
    .nil)
    .nil)
    (.cons (.ret (.tup (.cons (.v 3) (.cons (.v 4) (.cons (.v 5) (.cons (.v 6) .nil))))))
    .nil))))))))))
def f__law_look : Fn := ⟨2, 7, b__law_look⟩
def n_law : List String := ["script", "tape", "program", "stand", "run", "looks", "look", "place", "found", "hand", "k"]
def b_law : Ss :=
    (.cons (.asg 1 (.call "_law_tape" (.cons (.v 0) .nil)))
    (.cons (.tas [2, 3, 4] (.call "_law_world" (.cons (.v 1) .nil)))
    (.cons (.asg 5 (.lc (.v 6) (.tu [9, 6]) (.of (.ix (.call "walked" (.cons (.v 2) (.cons (.v 3) (.cons (.v 4) .nil)))) (.c (.int 1)))) (.c (.bl true)) [9, 6]))
    (.cons (.for_ (.n 6) (.of (.bin .add (.v 5) (.lc (.call "_law_look" (.cons (.v 1) (.cons (.v 2) .nil))) (.n 10) (.rng (.c (.int 12))) (.c (.bl true)) [10])))
    (.cons (.asg 8 (.call "shown_look" (.cons (.v 6) .nil)))
    (.cons (.iff (.or (.not (.isi (.v 8) ["str"])) (.cmp .ne (.v 8) (.call "_law_look_text" (.cons (.v 6) .nil))))
    (.cons (.ret (.c (.bl false)))
    .nil)
    .nil)
    .nil)))
    (.cons (.for_ (.n 7) (.rng (.bin .add (.bi .len (.cons (.v 4) .nil)) (.c (.int 1))))
    (.cons (.asg 8 (.call "shown_run" (.cons (.v 2) (.cons (.sl (.v 4) .no (.some (.v 7))) .nil))))
    (.cons (.iff (.or (.not (.isi (.v 8) ["str"])) (.cmp .ne (.v 8) (.call "_law_run_text" (.cons (.v 2) (.cons (.sl (.v 4) .no (.some (.v 7))) .nil)))))
    (.cons (.ret (.c (.bl false)))
    .nil)
    .nil)
    .nil)))
    (.cons (.ret (.cmp .eq (.call "shown_run" (.cons (.v 2) (.cons (.tup .nil) .nil))) (.c (.str "-"))))
    .nil))))))
def f_law : Fn := ⟨1, 11, b_law⟩
def tab : List (String × Fn) := [("shown_look", f_shown_look), ("shown_step", f_shown_step), ("listed", f_listed), ("shown_run", f_shown_run), ("is_name", f_is_name), ("worth", f_worth), ("named_things", f_named_things), ("names_by_sort", f_names_by_sort), ("number_of", f_number_of), ("rows_of", f_rows_of), ("laid_in", f_laid_in), ("own_step", f_own_step), ("rested", f_rested), ("first_seat", f_first_seat), ("touch_of", f_touch_of), ("seat_behind", f_seat_behind), ("first_stand", f_first_stand), ("wait_of", f_wait_of), ("waits", f_waits), ("can_go", f_can_go), ("is_whole", f_is_whole), ("takes_gift", f_takes_gift), ("laid_at", f_laid_at), ("box_touched", f_box_touched), ("lock_touched", f_lock_touched), ("lane_touched", f_lane_touched), ("touched", f_touched), ("gone", f_gone), ("walked", f_walked), ("_law_tape", f__law_tape), ("_law_draw", f__law_draw), ("_law_names", f__law_names), ("_law_pocket", f__law_pocket), ("_law_sum", f__law_sum), ("_law_at_box", f__law_at_box), ("_law_by_lock", f__law_by_lock), ("_law_piece", f__law_piece), ("_law_rows", f__law_rows), ("_law_program", f__law_program), ("_law_gift", f__law_gift), ("_law_run", f__law_run), ("_law_world", f__law_world), ("_law_word", f__law_word), ("_law_look_text", f__law_look_text), ("_law_run_text", f__law_run_text), ("_law_look", f__law_look), ("law", f_law)]
def tT : String → Option Fn
  | "shown_look" => some f_shown_look
  | "shown_step" => some f_shown_step
  | "listed" => some f_listed
  | "shown_run" => some f_shown_run
  | "is_name" => some f_is_name
  | "worth" => some f_worth
  | "named_things" => some f_named_things
  | "names_by_sort" => some f_names_by_sort
  | "number_of" => some f_number_of
  | "rows_of" => some f_rows_of
  | "laid_in" => some f_laid_in
  | "own_step" => some f_own_step
  | "rested" => some f_rested
  | "first_seat" => some f_first_seat
  | "touch_of" => some f_touch_of
  | "seat_behind" => some f_seat_behind
  | "first_stand" => some f_first_stand
  | "wait_of" => some f_wait_of
  | "waits" => some f_waits
  | "can_go" => some f_can_go
  | "is_whole" => some f_is_whole
  | "takes_gift" => some f_takes_gift
  | "laid_at" => some f_laid_at
  | "box_touched" => some f_box_touched
  | "lock_touched" => some f_lock_touched
  | "lane_touched" => some f_lane_touched
  | "touched" => some f_touched
  | "gone" => some f_gone
  | "walked" => some f_walked
  | "_law_tape" => some f__law_tape
  | "_law_draw" => some f__law_draw
  | "_law_names" => some f__law_names
  | "_law_pocket" => some f__law_pocket
  | "_law_sum" => some f__law_sum
  | "_law_at_box" => some f__law_at_box
  | "_law_by_lock" => some f__law_by_lock
  | "_law_piece" => some f__law_piece
  | "_law_rows" => some f__law_rows
  | "_law_program" => some f__law_program
  | "_law_gift" => some f__law_gift
  | "_law_run" => some f__law_run
  | "_law_world" => some f__law_world
  | "_law_word" => some f__law_word
  | "_law_look_text" => some f__law_look_text
  | "_law_run_text" => some f__law_run_text
  | "_law_look" => some f__law_look
  | "law" => some f_law
  | _ => none
def tG : String → Option D
  | "LETTERS" => some (.str "abcdefghijklmnopqrstuvwxyz")
  | "MOST_LETTERS" => some (.int 8)
  | "LANGUAGE" => some (.tup [(.str "let"), (.str "leap"), (.str "get"), (.str "put"), (.str "take"), (.str "free"), (.str "send"), (.str "fetch"), (.str "say"), (.str "clock"), (.str "lot"), (.str "hear"), (.str "add"), (.str "sub"), (.str "mul"), (.str "less"), (.str "same"), (.str "not"), (.str "box"), (.str "lock"), (.str "lane"), (.str "door"), (.str "hand")])
  | "ROUND" => some (.int 1000)
  | "SORTS" => some (.tup [(.str "box"), (.str "lock"), (.str "lane"), (.str "door"), (.str "hand")])
  | "MOST_OF_SORT" => some (.int 4)
  | "MOST_OWN_ROWS" => some (.int 200)
  | "GIVEN_IN" => some (.tup [(.str "get"), (.str "fetch"), (.str "clock"), (.str "lot"), (.str "hear")])
  | "TOLD_OUT" => some (.tup [(.str "put"), (.str "send"), (.str "say")])
  | "VALUES" => some (.int 1000)
  | "ASKING" => some (.tup [(.str "clock"), (.str "lot"), (.str "hear")])
  | "MOST_STEPS" => some (.int 60)
  | _ => none
def cn : Cn := ⟨tT, tG, fun _ => []⟩

/-! ### running a def -/
theorem gc_l {n : Nat} {Q : QD} {d : D} {M : Me} (h : Q d M) : gcQ n Q d M := .inl h
theorem run1 {n : Nat} {f : String} {fn : Fn} {ds : List D} {M : Me} {Q : QD} {X : QX} (ht : cn.T f = some fn) (hl : ds.length = fn.ps)
    (h : wSs cn (callN cn n) fn.body (start ds fn.n) M { nx := fun _ M' => gcQ M.length Q .non M', rt := gcQ M.length Q, bk := fun _ _ => False, ct := fun _ _ => False, ex := fun x _ M' => X x M' }) : callN cn (n + 1) f ds M Q X := by
  show opt (cn.T f) _
  rw [ht]
  exact ⟨hl, h⟩
/-- the store names its own cells alone -/
def Cl (M : Me) : Prop := clsM M.length M = true
mutual
theorem clsD_mono {n m : Nat} (h : n ≤ m) : ∀ {d : D}, clsD n d = true → clsD m d = true
  | .non, _ => rfl
  | .bl _, _ => rfl
  | .int _, _ => rfl
  | .str _, _ => rfl
  | .tup l, c => clsDs_mono h (d := l) c
  | .fz l, c => clsDs_mono h (d := l) c
  | .tl l, c => clsDs_mono h (d := l) c
  | .ref k, c => by
    have : k < n := of_decide_eq_true c
    exact decide_eq_true (by omega)
  | .scr _, _ => rfl
theorem clsDs_mono {n m : Nat} (h : n ≤ m) : ∀ {d : List D}, clsDs n d = true → clsDs m d = true
  | [], _ => rfl
  | d :: r, c => by
    simp only [clsDs, Bool.and_eq_true] at c ⊢
    exact ⟨clsD_mono h c.1, clsDs_mono h c.2⟩
end
theorem clsO_mono {n m : Nat} (h : n ≤ m) {c : MO} (e : clsO n c = true) : clsO m c = true := by
  cases c with
  | lst l => exact clsDs_mono h e
  | dic l =>
    simp only [clsO, List.all_eq_true, Bool.and_eq_true] at e ⊢
    exact fun p hp => ⟨clsD_mono h (e p hp).1, clsD_mono h (e p hp).2⟩
  | ins c fs =>
    simp only [clsO, List.all_eq_true] at e ⊢
    exact fun p hp => clsD_mono h (e p hp)
theorem clsM_mono {n m : Nat} (h : n ≤ m) {M : Me} (e : clsM n M = true) : clsM m M = true := by
  simp only [clsM, List.all_eq_true] at e ⊢
  exact fun c hc => clsO_mono h (e c hc)
theorem Cl.app {M : Me} (h : Cl M) {c : MO} (hc : clsO (M.length + 1) c = true) : Cl (M ++ [c]) := by
  unfold Cl
  rw [List.length_append]
  unfold clsM
  rw [List.all_append]
  have := clsM_mono (Nat.le_add_right M.length 1) h
  simp only [clsM] at this
  simp [this, hc]
/-- a def whose value is d, and that leaves the store -/
def Ev (k : Nat) (f : String) (ds : List D) (r : D) : Prop := ∀ n, k ≤ n → ∀ M, Cl M → ∀ (Q : QD) (X : QX), Q r M → callN cn n f ds M Q X
theorem gc_d {M M' : Me} {Q : QD} {d : D} (c : Cl M) (hd : clsD M.length d = true) (ht : M'.take M.length = M) (h : Q d M) : gcQ M.length Q d M' :=
  .inr (.inl ⟨⟨hd, by rw [ht]; exact c⟩, by rw [ht]; exact h⟩)
theorem Ev.intro {k : Nat} {f : String} {fn : Fn} {ds : List D} {r : D} (ht : cn.T f = some fn) (hl : ds.length = fn.ps)
    (h : ∀ n, k ≤ n → ∀ M, Cl M → ∀ (Q : QD) (X : QX), Q r M → wSs cn (callN cn n) fn.body (start ds fn.n) M { nx := fun _ M' => gcQ M.length Q .non M', rt := gcQ M.length Q, bk := fun _ _ => False, ct := fun _ _ => False, ex := fun x _ M' => X x M' }) : Ev (k + 1) f ds r := by
  intro n hn M c Q X q
  obtain ⟨n, rfl⟩ : ∃ j, n = j + 1 := ⟨n - 1, by omega⟩
  exact run1 ht hl (h n (by omega) M c Q X q)
theorem Ev.mono {k j : Nat} {f : String} {ds : List D} {r : D} (h : Ev k f ds r) (hk : k ≤ j) : Ev j f ds r := fun n hn => h n (by omega)
/-! ### rows for the simplifier -/
theorem cmp_eq_str (M : Me) (a b : String) : cmp M .eq (.str a) (.str b) = some (decide (a = b)) := by simp [cmp, eqOf, vw, lstOf, pln, D.eqv]
theorem cmp_ne_str (M : Me) (a b : String) : cmp M .ne (.str a) (.str b) = some (!decide (a = b)) := by simp [cmp, eqOf, vw, lstOf, pln, D.eqv]
theorem cmp_eq_int (M : Me) (a b : Int) : cmp M .eq (.int a) (.int b) = some (decide (a = b)) := by
  simp only [cmp, eqOf, vw, lstOf, pln, D.eqv, and_self, if_true, Option.some.injEq]
  by_cases h : a = b <;> simp [h]
theorem cmp_ne_int (M : Me) (a b : Int) : cmp M .ne (.int a) (.int b) = some (!decide (a = b)) := by
  have := cmp_eq_int M a b
  show (cmp M .eq (.int a) (.int b)).map not = _
  rw [this]; rfl
theorem cmp_is_non (M : Me) (d : D) : cmp M .is d .non = some (isN d) := rfl
theorem cmp_isnot_non (M : Me) (d : D) : cmp M .isnot d .non = some (!isN d) := rfl
theorem cmp_lt (M : Me) (a b : Int) : cmp M .lt (.int a) (.int b) = some (decide (a < b)) := rfl
theorem cmp_le (M : Me) (a b : Int) : cmp M .le (.int a) (.int b) = some (decide (a ≤ b)) := rfl
theorem cmp_gt (M : Me) (a b : Int) : cmp M .gt (.int a) (.int b) = some (decide (b < a)) := rfl
theorem cmp_ge (M : Me) (a b : Int) : cmp M .ge (.int a) (.int b) = some (decide (b ≤ a)) := rfl
theorem bin_add_int (M : Me) (a b : Int) : bin M .add (.int a) (.int b) = some (.int (a + b)) := rfl
theorem bin_sub_int (M : Me) (a b : Int) : bin M .sub (.int a) (.int b) = some (.int (a - b)) := rfl
theorem bin_add_str (M : Me) {a b : String} (h : a.length + b.length ≤ line) : bin M .add (.str a) (.str b) = some (.str (a ++ b)) := if_pos h
theorem bin_add_tup (M : Me) {a b : List D} (h : a.length + b.length ≤ line) : bin M .add (.tup a) (.tup b) = some (.tup (a ++ b)) := if_pos h
theorem bin_mul_int (M : Me) {a b : Int} (h : (-(2 ^ 64) < a ∧ a < 2 ^ 64) ∨ (-(2 ^ 64) < b ∧ b < 2 ^ 64)) : bin M .mul (.int a) (.int b) = some (.int (a * b)) := if_pos h
theorem bin_mod_int (M : Me) {a b : Int} (h : 0 < b) : bin M .mod (.int a) (.int b) = some (.int (a % b)) := if_pos h
theorem bin_div_int (M : Me) {a b : Int} (h : 0 < b ∧ b < 2 ^ 64) : bin M .div (.int a) (.int b) = some (.int (a / b)) := if_pos h
theorem ix_tup (M : Me) (xs : List D) (i : Int) : ixOf M (.tup xs) (.int i) = pix xs i := rfl
theorem ix_fz (M : Me) (xs : List D) (i : Int) : ixOf M (.fz xs) (.int i) = pix xs i := rfl
theorem ix_tl (M : Me) (xs : List D) (i : Int) : ixOf M (.tl xs) (.int i) = pix xs i := rfl
theorem pix0 {α : Type} (a : α) (l : List α) : pix (a :: l) 0 = some a := rfl
theorem pix1 {α : Type} (a b : α) (l : List α) : pix (a :: b :: l) 1 = some b := rfl
theorem pix2 {α : Type} (a b c : α) (l : List α) : pix (a :: b :: c :: l) 2 = some c := rfl
theorem pix3 {α : Type} (a b c d : α) (l : List α) : pix (a :: b :: c :: d :: l) 3 = some d := rfl
theorem pix4 {α : Type} (a b c d e : α) (l : List α) : pix (a :: b :: c :: d :: e :: l) 4 = some e := rfl
theorem pix_nat {α : Type} (xs : List α) (i : Nat) : pix xs (i : Int) = xs[i]? := by unfold pix; rw [if_pos (by omega)]; simp
theorem get0 (x : Option D) (r : Sg) : Mp.get (x :: r) 0 = x := rfl
theorem getS (x : Option D) (r : Sg) (n : Nat) : Mp.get (x :: r) (n + 1) = Mp.get r n := rfl
theorem set0 (x : Option D) (r : Sg) (d : D) : sset (x :: r) 0 d = some d :: r := rfl
theorem setS (x : Option D) (r : Sg) (n : Nat) (d : D) : sset (x :: r) (n + 1) d = x :: sset r n d := rfl
theorem tru_bl (M : Me) (b : Bool) : tru M (.bl b) = some b := rfl
theorem br_dec {p : Prop} [Decidable p] {A B : Prop} (h1 : p → A) (h2 : ¬ p → B) : br (decide p) A B := by
  by_cases h : p
  · rw [decide_eq_true h]; exact h1 h
  · rw [decide_eq_false h]; exact h2 h
theorem frz_int (i : Int) : frz (.int i) = .int i := rfl
theorem frz_str (i : String) : frz (.str i) = .str i := rfl
theorem frz_tup (i : List D) : frz (.tup i) = .tup i := rfl
theorem frz_ref (i : Nat) : frz (.ref i) = .ref i := rfl
theorem frz_tl (i : List D) : frz (.tl i) = .fz i := rfl
theorem frz_fz (i : List D) : frz (.fz i) = .fz i := rfl
theorem frz_non : frz .non = .non := rfl
theorem frz_bl (i : Bool) : frz (.bl i) = .bl i := rfl
theorem seq_tup (M : Me) (l : List D) : seqOf M (.tup l) = some l := rfl
theorem seq_fz (M : Me) (l : List D) : seqOf M (.fz l) = some l := rfl
theorem seq_tl (M : Me) (l : List D) : seqOf M (.tl l) = some l := rfl
theorem ssets0 (σ : Sg) : ssets σ [] [] = some σ := rfl
theorem ssetsS (σ : Sg) (i : Nat) (is : List Nat) (d : D) (ds : List D) : ssets σ (i :: is) (d :: ds) = ssets (sset σ i d) is ds := rfl
theorem start_def (ds : List D) (n : Nat) : start ds n = ds.map some ++ List.replicate (n - ds.length) none := rfl
theorem wBi_int_bl (M : Me) (b : Bool) (Q : QD) : wBi M .int [.bl b] Q = Q (.int (if b then 1 else 0)) M := rfl
theorem wBi_int_int (M : Me) (b : Int) (Q : QD) : wBi M .int [.int b] Q = Q (.int b) M := rfl
theorem wBi_len_tup (M : Me) (l : List D) (Q : QD) : wBi M .len [.tup l] Q = Q (.int l.length) M := rfl
theorem wBi_len_fz (M : Me) (l : List D) (Q : QD) : wBi M .len [.fz l] Q = Q (.int l.length) M := rfl
theorem wBi_len_tl (M : Me) (l : List D) (Q : QD) : wBi M .len [.tl l] Q = Q (.int l.length) M := rfl
theorem wBi_len_str (M : Me) {s : String} (h : s.length ≤ line) (Q : QD) : wBi M .len [.str s] Q = Q (.int s.length) M := by
  show opt ((bi1 M .len (.str s))) _ = _
  simp [bi1, lenOf, h]
theorem wBi_tuple_tl (M : Me) (l : List D) (Q : QD) : wBi M .tuple [.tl l] Q = Q (.tup l) M := rfl
theorem wBi_tuple_fz (M : Me) (l : List D) (Q : QD) : wBi M .tuple [.fz l] Q = Q (.tup l) M := rfl
theorem wBi_list_tup (M : Me) (l : List D) (Q : QD) : wBi M .list [.tup l] Q = Q (.tl l) M := rfl
theorem wBi_dict_tup (M : Me) (l : List D) (Q : QD) : wBi M .dict [.tup l] Q = opt ((prs l).map (puts [])) fun l => Q (.ref M.length) (M ++ [.dic l]) := rfl
theorem dic_last (M : Me) (l : List (D × D)) : dicAt (M ++ [.dic l]) M.length = some l := by
  unfold dicAt mget
  rw [List.getElem?_append_right (Nat.le_refl _)]
  simp
theorem set_last (M : Me) (c d : MO) : (M ++ [c]).set M.length d = M ++ [d] := by simp
theorem take_last (M : Me) (L : Me) : (M ++ L).take M.length = M := by simp
theorem g_ROUND : cn.G "ROUND" = some (.int 1000) := rfl
theorem g_MOST_LETTERS : cn.G "MOST_LETTERS" = some (.int 8) := rfl
theorem g_MOST_OF_SORT : cn.G "MOST_OF_SORT" = some (.int 4) := rfl
theorem g_MOST_OWN_ROWS : cn.G "MOST_OWN_ROWS" = some (.int 200) := rfl
theorem g_VALUES : cn.G "VALUES" = some (.int 1000) := rfl
theorem g_MOST_STEPS : cn.G "MOST_STEPS" = some (.int 60) := rfl
theorem g_LETTERS : cn.G "LETTERS" = some (.str "abcdefghijklmnopqrstuvwxyz") := rfl
theorem g_SORTS : cn.G "SORTS" = some (.tup [.str "box", .str "lock", .str "lane", .str "door", .str "hand"]) := rfl
theorem g_GIVEN_IN : cn.G "GIVEN_IN" = some (.tup [.str "get", .str "fetch", .str "clock", .str "lot", .str "hear"]) := rfl
theorem g_TOLD_OUT : cn.G "TOLD_OUT" = some (.tup [.str "put", .str "send", .str "say"]) := rfl
theorem g_ASKING : cn.G "ASKING" = some (.tup [.str "clock", .str "lot", .str "hear"]) := rfl
local macro_rules | `(tactic| walk_at "mp") => `(tactic| simp only [wSs, wS, wE, wT, wEs, wEt, wO, wI, start_def, List.map_cons, List.map_nil, List.length_cons, List.length_nil, List.cons_append, List.nil_append, Nat.reduceAdd, Nat.reduceSub, List.replicate,
  get0, getS, set0, setS, ssets0, ssetsS, seq_tup, seq_fz, seq_tl, opt_some, Option.bind_some, Option.map_some, frz_int, frz_str, frz_tup, frz_ref, frz_tl, frz_fz, frz_non, frz_bl, cmp_eq_str, cmp_ne_str, cmp_eq_int, cmp_ne_int, cmp_is_non, cmp_isnot_non, cmp_lt, cmp_le, cmp_gt, cmp_ge, bin_add_int, bin_sub_int,
  ix_tup, ix_fz, ix_tl, pix0, pix1, pix2, pix3, pix4, tru_bl, isN, g_ROUND, g_MOST_LETTERS, g_MOST_OF_SORT, g_MOST_OWN_ROWS, g_VALUES, g_MOST_STEPS, g_LETTERS, g_SORTS, g_GIVEN_IN, g_TOLD_OUT, g_ASKING, wBi_int_bl, wBi_int_int, wBi_len_tup, wBi_len_fz, wBi_len_tl, wBi_tuple_tl, wBi_tuple_fz, wBi_list_tup, wBi_dict_tup, br_true, br_false, decide_true, decide_false, Bool.not_true, Bool.not_false, reduceCtorEq, String.reduceEq, decide_eq_true_eq])
/-! ### sums -/
inductive Su where
  | num (i : Int) | of (p : String) | neg (s : Su) | op (w : String) (a b : Su)
def Su.enc : Su → D
  | .num i => .tup [.str "num", .int i]
  | .of p => .tup [.str "of", .str p]
  | .neg s => .tup [.str "not", s.enc]
  | .op w a b => .tup [.str w, a.enc, b.enc]
def Su.ok : Su → Prop
  | .num i => 0 ≤ i ∧ i < 1000
  | .of _ => True
  | .neg s => s.ok
  | .op w a b => w ∈ ["add", "sub", "mul", "less", "same"] ∧ a.ok ∧ b.ok
def Su.depth : Su → Nat
  | .num _ => 1
  | .of _ => 1
  | .neg s => s.depth + 1
  | .op _ a b => max a.depth b.depth + 1
@[simp] theorem frz_enc (s : Su) : frz s.enc = s.enc := by cases s <;> rfl
abbrev Pk := List (String × Int)
def encP (ps : Pk) : D := .tup (ps.map fun p => .tup [.str p.1, .int p.2])
@[simp] theorem frz_encP (ps : Pk) : frz (encP ps) = encP ps := rfl
def Pk.ok (ps : Pk) : Prop := ∀ p ∈ ps, 0 ≤ p.2 ∧ p.2 < 1000
theorem prs_enc : ∀ ps : Pk, prs (ps.map fun p => .tup [.str p.1, .int p.2]) = some (ps.map fun p => (.str p.1, .int p.2))
  | [] => rfl
  | p :: r => by
    simp only [List.map_cons, prs, isKey, if_true, prs_enc r, Option.map_some]
/-- every value of a dict is such a number -/
def Vr (l : List (D × D)) : Prop := ∀ p ∈ l, ∃ k v, p = (.str k, .int v) ∧ 0 ≤ v ∧ v < 1000
theorem Vr.put {l : List (D × D)} {k : String} {v : Int} (h : Vr l) (hv : 0 ≤ v ∧ v < 1000) : Vr (put l (.str k) (.int v)) := by
  unfold Mp.put
  split
  · intro p hp
    obtain ⟨q, hq, rfl⟩ := List.mem_map.mp hp
    obtain ⟨k', v', rfl, hv'⟩ := h q hq
    split
    · exact ⟨k', v, rfl, hv⟩
    · exact ⟨k', v', rfl, hv'⟩
  · intro p hp
    rcases List.mem_append.mp hp with hp | hp
    · exact h p hp
    · rw [List.mem_singleton.mp hp]
      exact ⟨k, v, rfl, hv⟩
theorem vr_puts : ∀ {m l : List (D × D)}, Vr l → Vr m → Vr (Mp.puts l m)
  | [], _, h, _ => h
  | p :: r, l, h, hm => by
    obtain ⟨k, v, rfl, hv⟩ := hm p List.mem_cons_self
    show Vr (Mp.puts (Mp.put l (.str k) (.int v)) r)
    exact vr_puts (h.put hv) fun q hq => hm q (List.mem_cons_of_mem _ hq)
theorem Vr.look {l : List (D × D)} (h : Vr l) {k d : D} (e : look l k = some d) : ∃ v, d = .int v ∧ 0 ≤ v ∧ v < 1000 := by
  unfold Mp.look at e
  obtain ⟨p, e1, e2⟩ := Option.map_eq_some_iff.mp e
  obtain ⟨k', v, rfl, hv⟩ := h p (List.mem_of_find?_eq_some e1)
  exact ⟨v, e2.symm, hv⟩
theorem vr_enc {ps : Pk} (h : ps.ok) : Vr (ps.map fun p => (.str p.1, .int p.2)) := fun q hq => by
  obtain ⟨p, hp, rfl⟩ := List.mem_map.mp hq
  exact ⟨p.1, p.2, rfl, h p hp⟩
theorem look_get {l : List (D × D)} (h : Vr l) (k : String) : ∃ v : Int, (look l (.str k)).getD (.int 0) = .int v ∧ 0 ≤ v ∧ v < 1000 := by
  cases e : look l (.str k) with
  | none => exact ⟨0, rfl, by omega, by omega⟩
  | some d =>
    obtain ⟨v, rfl, hv⟩ := h.look e
    exact ⟨v, rfl, hv⟩
theorem worth_ok (ps : Pk) (hp : ps.ok) : ∀ s : Su, s.ok → ∃ v : Int, (0 ≤ v ∧ v < 1000) ∧ Ev s.depth "worth" [s.enc, encP ps] (.int v)
  | .num i, h => ⟨i, h, Ev.intro (fn := f_worth) rfl rfl fun n hn M c Q X q => by
      simp only [f_worth, b_worth, Su.enc]
      walk_at "mp"
      exact gc_l q⟩
  | .of p, h => by
    obtain ⟨v, ev, hv⟩ := look_get (vr_puts (l := []) (fun q hq => by cases hq) (vr_enc hp)) p
    refine ⟨v, hv, Ev.intro (fn := f_worth) rfl rfl fun n hn M c Q X q => ?_⟩
    simp only [f_worth, b_worth, Su.enc, encP]
    walk_at "mp"
    simp only [prs_enc, Option.map_some, opt_some, mtRc, dic_last, Option.isSome_some, true_and, mtOf, Option.bind_some, isKey, if_true, frz_int, ev]
    exact gc_d c rfl (take_last _ _) q
  | .neg s, h => by
    obtain ⟨v, hv, e⟩ := worth_ok ps hp s h
    refine ⟨if v = 0 then 1 else 0, by split <;> omega, Ev.intro (fn := f_worth) rfl rfl fun n hn M c Q X q => ?_⟩
    simp only [f_worth, b_worth, Su.enc]
    walk_at "mp"
    simp only [frz_enc, frz_encP]
    refine e n hn M c _ _ ?_
    walk_at "mp"
    exact gc_l (by simpa using q)
  | .op w a b, h => by
    obtain ⟨hw, ha, hb⟩ := h
    obtain ⟨v, hv, e1⟩ := worth_ok ps hp a ha
    obtain ⟨u, hu, e2⟩ := worth_ok ps hp b hb
    simp only [List.mem_cons, List.not_mem_nil, or_false] at hw
    have pre : ∀ (r : Int), (0 ≤ r ∧ r < 1000) → (∀ n M, Cl M → ∀ (Q : QD) (X : QX), Q (.int r) M →
        wSs cn (callN cn n) b_worth (start [(Su.op w a b).enc, encP ps] 5) M { nx := fun _ M' => gcQ M.length Q .non M', rt := gcQ M.length Q, bk := fun _ _ => False, ct := fun _ _ => False, ex := fun x _ M' => X x M' } ∨ n < max a.depth b.depth) →
        ∃ v : Int, (0 ≤ v ∧ v < 1000) ∧ Ev (Su.op w a b).depth "worth" [(Su.op w a b).enc, encP ps] (.int v) := fun r hr h => ⟨r, hr, Ev.intro (fn := f_worth) rfl rfl fun n hn M c Q X q => by
      rcases h n M c Q X q with h | h
      · exact h
      · exact absurd hn (by show ¬ (max a.depth b.depth ≤ n); omega)⟩
    rcases hw with rfl | rfl | rfl | rfl | rfl
    · refine pre ((v + u) % 1000) (by omega) fun n M c Q X q => (Nat.lt_or_ge n (max a.depth b.depth)).symm.imp_left fun hn => ?_
      simp only [b_worth, Su.enc]
      walk_at "mp"
      simp only [frz_enc, frz_encP]
      refine e1 n (by omega) M c _ _ ?_
      walk_at "mp"
      refine e2 n (by omega) M c _ _ ?_
      walk_at "mp"
      rw [bin_mod_int _ (by omega)]
      exact gc_l q
    · refine pre ((v - u) % 1000) (by omega) fun n M c Q X q => (Nat.lt_or_ge n (max a.depth b.depth)).symm.imp_left fun hn => ?_
      simp only [b_worth, Su.enc]
      walk_at "mp"
      simp only [frz_enc, frz_encP]
      refine e1 n (by omega) M c _ _ ?_
      walk_at "mp"
      refine e2 n (by omega) M c _ _ ?_
      walk_at "mp"
      rw [bin_mod_int _ (by omega)]
      exact gc_l q
    · refine pre (v * u % 1000) (by omega) fun n M c Q X q => (Nat.lt_or_ge n (max a.depth b.depth)).symm.imp_left fun hn => ?_
      simp only [b_worth, Su.enc]
      walk_at "mp"
      simp only [frz_enc, frz_encP]
      refine e1 n (by omega) M c _ _ ?_
      walk_at "mp"
      refine e2 n (by omega) M c _ _ ?_
      walk_at "mp"
      rw [bin_mul_int _ (by omega)]
      walk_at "mp"
      rw [bin_mod_int _ (by omega)]
      exact gc_l q
    · refine pre (if v < u then 1 else 0) (by split <;> omega) fun n M c Q X q => (Nat.lt_or_ge n (max a.depth b.depth)).symm.imp_left fun hn => ?_
      simp only [b_worth, Su.enc]
      walk_at "mp"
      simp only [frz_enc, frz_encP]
      refine e1 n (by omega) M c _ _ ?_
      walk_at "mp"
      refine e2 n (by omega) M c _ _ ?_
      walk_at "mp"
      exact gc_l (by simpa using q)
    · refine pre (if v = u then 1 else 0) (by split <;> omega) fun n M c Q X q => (Nat.lt_or_ge n (max a.depth b.depth)).symm.imp_left fun hn => ?_
      simp only [b_worth, Su.enc]
      walk_at "mp"
      simp only [frz_enc, frz_encP]
      refine e1 n (by omega) M c _ _ ?_
      walk_at "mp"
      refine e2 n (by omega) M c _ _ ?_
      walk_at "mp"
      exact gc_l (by simpa using q)

/-! ### loops -/
theorem wLc_inv {body : D → Me → (Option D → Me → Prop) → Prop} {ok : Me → Prop} {Q : List D → Me → Prop} (I : List D → List D → Me → Prop) (hok : ∀ r acc M, I r acc M → ok M)
    (step : ∀ x r acc M, I (x :: r) acc M → ∀ R : Option D → Me → Prop, (∀ y M', acc.length < line → I r (acc ++ [frz y]) M' → R (some y) M') → (∀ M', I r acc M' → R none M') → acc.length < line ∧ body x M R) (done : ∀ acc M, I [] acc M → Q acc M) :
    ∀ (xs acc : List D) (M : Me), I xs acc M → wLc body ok xs M acc Q
  | [], acc, M, h => ⟨hok _ _ _ h, done _ _ h⟩
  | x :: r, acc, M, h => ⟨hok _ _ _ h, (step x r acc M h _ (fun y M' hl h' => ⟨hl, wLc_inv I hok step done r _ M' h'⟩) (fun M' h' => wLc_inv I hok step done r _ M' h')).2⟩
/-- each item gives one value, and the store stays -/
theorem wLc_map {body : D → Me → (Option D → Me → Prop) → Prop} {ok : Me → Prop} {Q : List D → Me → Prop} {M : Me} (g : D → D) (hok : ok M) : ∀ (xs acc : List D), (∀ x ∈ xs, ∀ R : Option D → Me → Prop, R (some (g x)) M → body x M R) → acc.length + xs.length ≤ line → Q (acc ++ xs.map fun x => frz (g x)) M → wLc body ok xs M acc Q
  | [], acc, _, _, q => ⟨hok, by simpa using q⟩
  | x :: r, acc, h, hl, q => by
    refine ⟨hok, h x List.mem_cons_self _ ⟨by simp at hl; omega, ?_⟩⟩
    refine wLc_map g hok r _ (fun y hy => h y (List.mem_cons_of_mem _ hy)) (by simp at hl ⊢; omega) ?_
    simpa using q
/-- .. one value or none -/
theorem wLc_filter {body : D → Me → (Option D → Me → Prop) → Prop} {ok : Me → Prop} {Q : List D → Me → Prop} {M : Me} (g : D → Option D) (hok : ok M) : ∀ (xs acc : List D), (∀ x ∈ xs, ∀ R : Option D → Me → Prop, R (g x) M → body x M R) → acc.length + xs.length ≤ line → Q (acc ++ xs.filterMap fun x => (g x).map frz) M → wLc body ok xs M acc Q
  | [], acc, _, _, q => ⟨hok, by simpa using q⟩
  | x :: r, acc, h, hl, q => by
    refine ⟨hok, h x List.mem_cons_self _ ?_⟩
    cases e : g x with
    | none =>
      show wLc body ok r M acc Q
      refine wLc_filter g hok r _ (fun y hy => h y (List.mem_cons_of_mem _ hy)) (by simp at hl ⊢; omega) ?_
      simpa [List.filterMap_cons, e] using q
    | some y =>
      refine ⟨by simp at hl; omega, ?_⟩
      refine wLc_filter g hok r _ (fun y hy => h y (List.mem_cons_of_mem _ hy)) (by simp at hl ⊢; omega) ?_
      simpa [List.filterMap_cons, e] using q
theorem wFor_inv {body : D → Sg → Me → Post → Prop} {ok : Me → Prop} {P : Post} (I : List D → Sg → Me → Prop) (hok : ∀ r σ M, I r σ M → ok M)
    (step : ∀ x r σ M, I (x :: r) σ M → ∀ P' : Post, (∀ σ' M', I r σ' M' → P'.nx σ' M') → P'.rt = P.rt → P'.bk = P.nx → P'.ct = P'.nx → body x σ M P') (done : ∀ σ M, I [] σ M → P.nx σ M) : ∀ (xs : List D) (σ : Sg) (M : Me), I xs σ M → wFor body ok P xs σ M
  | [], σ, M, h => ⟨hok _ _ _ h, done _ _ h⟩
  | x :: r, σ, M, h => ⟨hok _ _ _ h, step x r σ M h _ (fun σ' M' h' => wFor_inv I hok step done r σ' M' h') rfl rfl rfl⟩
theorem it_tup (M : Me) (l : List D) : itOf M (.tup l) = some ⟨l, none⟩ := rfl
theorem it_fz (M : Me) (l : List D) : itOf M (.fz l) = some ⟨l, none⟩ := rfl
theorem it_tl (M : Me) (l : List D) : itOf M (.tl l) = some ⟨l, none⟩ := rfl
theorem it_str (M : Me) (s : String) : itOf M (.str s) = some ⟨s.toList.map fun c => .str (String.singleton c), none⟩ := rfl
theorem ok_none (l : List D) (M : Me) : It.ok ⟨l, none⟩ M := trivial
theorem line_val : line = 16777216 := rfl
theorem isi_str (M : Me) (s : String) : isiOf M (.str s) ["str"] = some true := rfl
theorem isi_tup (M : Me) (s : List D) : isiOf M (.tup s) ["tuple"] = some true := rfl
theorem isi_int (M : Me) (s : Int) : isiOf M (.int s) ["int"] = some true := rfl
theorem isi_int_bool (M : Me) (s : Int) : isiOf M (.int s) ["bool"] = some false := rfl
theorem wBi_all (M : Me) (bs : List Bool) (Q : QD) : wBi M .all [.tl (bs.map .bl)] Q = Q (.bl (bs.all id)) M := by
  have h : ∀ bs : List Bool, bls (bs.map .bl) = some bs := fun bs => by
    induction bs with
    | nil => rfl
    | cons b r ih => show (bls (r.map .bl)).map _ = _; rw [ih]; rfl
  show opt ((bls (bs.map .bl)).map fun bs => D.bl (bs.all id)) _ = _
  rw [h]; rfl
theorem wBi_all_true (M : Me) (l : List D) (h : ∀ d ∈ l, d = .bl true) (Q : QD) : wBi M .all [.tl l] Q = Q (.bl true) M := by
  have : l = (l.map fun _ => true).map .bl := by
    rw [List.map_map]
    conv => lhs; rw [← List.map_id l]
    exact List.map_congr_left fun d hd => h d hd
  rw [this, wBi_all]
  have e : ((l.map fun _ => true).all id) = true := by simp
  rw [e]
theorem isN_non : isN .non = true := rfl
theorem isN_bl (b : Bool) : isN (.bl b) = false := rfl
theorem isN_int (b : Int) : isN (.int b) = false := rfl
theorem isN_str (b : String) : isN (.str b) = false := rfl
theorem isN_tup (b : List D) : isN (.tup b) = false := rfl
theorem isN_fz (b : List D) : isN (.fz b) = false := rfl
theorem isN_tl (b : List D) : isN (.tl b) = false := rfl
theorem isN_ref (b : Nat) : isN (.ref b) = false := rfl
theorem al_ref (n : Nat) (M : Me) (Q : QD) : alQ (.ref n) M Q = Q (.ref n) M := rfl
theorem al_tl (l : List D) (M : Me) (Q : QD) : alQ (.tl l) M Q = Q (.ref M.length) (M ++ [.lst l]) := rfl
theorem al_tup (l : List D) (M : Me) (Q : QD) : alQ (.tup l) M Q = Q (.tup l) M := rfl
theorem zip2 (a b c d : D) : puts [] ([.str "box", .str "hand"].zip [c, d]) = [(.str "box", c), (.str "hand", d)] := rfl
theorem zip0 : puts [] (([] : List D).zip ([] : List D)) = [] := rfl
local macro_rules | `(tactic| walk_at "ms") => `(tactic| try simp only [it_tup, it_fz, it_tl, it_str, isi_str, isi_tup, isi_int, isi_int_bool, asgO, Mp.wipes, Mp.wipe1, al_ref, al_tl, al_tup, zip0,
  wSs, wS, wE, wT, wEs, wEt, wO, wI, start_def, List.map_cons, List.map_nil, List.length_cons, List.length_nil, List.cons_append, List.nil_append, Nat.reduceAdd, Nat.reduceSub, List.replicate,
  get0, getS, set0, setS, ssets0, ssetsS, seq_tup, seq_fz, seq_tl, opt_some, Option.bind_some, Option.map_some, frz_int, frz_str, frz_tup, frz_ref, frz_tl, frz_fz, frz_non, frz_bl, cmp_eq_str, cmp_ne_str, cmp_eq_int, cmp_ne_int, cmp_is_non, cmp_isnot_non, cmp_lt, cmp_le, cmp_gt, cmp_ge, bin_add_int, bin_sub_int,
  ix_tup, ix_fz, ix_tl, pix0, pix1, pix2, pix3, pix4, tru_bl, isN_non, isN_bl, isN_int, isN_str, isN_tup, isN_fz, isN_tl, isN_ref, g_ROUND, g_MOST_LETTERS, g_MOST_OF_SORT, g_MOST_OWN_ROWS, g_VALUES, g_MOST_STEPS, g_LETTERS, g_SORTS, g_GIVEN_IN, g_TOLD_OUT, g_ASKING, wBi_int_bl, wBi_int_int, wBi_len_tup, wBi_len_fz, wBi_len_tl, wBi_tuple_tl, wBi_tuple_fz, wBi_list_tup, wBi_dict_tup,
  frz_enc, frz_encP, br_true, br_false, decide_true, decide_false, Bool.not_true, Bool.not_false, reduceCtorEq, String.reduceEq, decide_eq_true_eq])
/-! ### names -/
def lang : List String := ["let", "leap", "get", "put", "take", "free", "send", "fetch", "say", "clock", "lot", "hear", "add", "sub", "mul", "less", "same", "not", "box", "lock", "lane", "door", "hand"]
theorem g_LANGUAGE : cn.G "LANGUAGE" = some (.tup (lang.map .str)) := rfl
def abc : List Char := "abcdefghijklmnopqrstuvwxyz".toList
def nm (s : String) : Prop := 1 ≤ s.length ∧ s.length ≤ 8 ∧ s ∉ lang ∧ ∀ c ∈ s.toList, c ∈ abc
theorem flat_strs (l : List String) : (l.map D.str).all flat = true := by
  rw [List.all_map]
  exact List.all_eq_true.mpr fun _ _ => rfl
theorem any_str (l : List String) (s : String) : ((l.map D.str).any fun y => D.eqv y (.str s)) = decide (s ∈ l) := by
  rw [List.any_map, Bool.eq_iff_iff, List.any_eq_true, decide_eq_true_eq]
  constructor
  · rintro ⟨x, hx, h⟩
    have : x = s := of_decide_eq_true (show decide (x = s) = true from h)
    rw [← this]; exact hx
  · intro h
    exact ⟨s, h, decide_eq_true rfl⟩
theorem in_strs_t (M : Me) (l : List String) (s : String) : cmp M .isin (.str s) (.tup (l.map .str)) = some (decide (s ∈ l)) := by
  show (inSeq (.str s) (l.map .str)) = _
  unfold inSeq
  rw [flat_strs, any_str]
  rfl
theorem in_strs_f (M : Me) (l : List String) (s : String) : cmp M .isin (.str s) (.fz (l.map .str)) = some (decide (s ∈ l)) := in_strs_t M l s
theorem notin_strs_t (M : Me) (l : List String) (s : String) : cmp M .notin (.str s) (.tup (l.map .str)) = some (!decide (s ∈ l)) := by
  show (cmp M .isin (.str s) (.tup (l.map .str))).map not = _
  rw [in_strs_t]; rfl
theorem notin_strs_f (M : Me) (l : List String) (s : String) : cmp M .notin (.str s) (.fz (l.map .str)) = some (!decide (s ∈ l)) := notin_strs_t M l s
theorem in_letters (M : Me) {c : Char} (h : c ∈ abc) : cmp M .isin (.str (String.singleton c)) (.str "abcdefghijklmnopqrstuvwxyz") = some true := by
  show (match (String.singleton c).toList with | [c] => some (decide (c ∈ abc)) | _ => none) = _
  rw [String.toList_singleton]
  show some (decide (c ∈ abc)) = _
  rw [decide_eq_true h]
theorem is_name_ok {s : String} (h : nm s) : Ev 1 "is_name" [.str s] (.bl true) := by
  obtain ⟨h1, h2, h3, h4⟩ := h
  refine Ev.intro (fn := f_is_name) rfl rfl fun n hn M c Q X q => ?_
  simp only [f_is_name, b_is_name]
  walk_at "ms"
  walk_at "ms"
  walk_at "ms"
  rw [wBi_len_str _ (by rw [line_val]; omega)]
  walk_at "ms"
  have e1 : decide ((1 : Int) ≤ (s.length : Int)) = true := decide_eq_true (by omega)
  have e2 : decide ((s.length : Int) ≤ 8) = true := decide_eq_true (by omega)
  simp only [e1, e2]
  walk_at "ms"
  rw [g_LANGUAGE]
  walk_at "ms"
  simp only [in_strs_t, decide_eq_false h3]
  walk_at "ms"
  walk_at "ms"
  refine wLc_map (fun _ => .bl true) (ok_none _ _) _ _ (fun x hx R hR => ?_) (by rw [List.length_map, String.length_toList]; simp; rw [line_val]; omega) ?_
  · obtain ⟨ch, hch, rfl⟩ := List.mem_map.mp hx
    walk_at "ms"
    walk_at "ms"
    rw [in_letters _ (h4 ch hch)]
    walk_at "ms"
    exact hR
  · rw [List.nil_append, wBi_all_true _ _ (fun d hd => by
      obtain ⟨_, _, rfl⟩ := List.mem_map.mp hd
      rfl)]
    exact gc_l q
/-! ### the program -/
inductive Rw where
  | lett (p : String) (s : Su) | leap (g : Nat) (s : Su) | get (p b : String) | put (b : String) (s : Su) | take (l : String) | free (l : String) | send (l : String) (s : Su) | fetch (p l : String)
  | say (d : String) (s : Su) | hear (p d : String) | clock (p : String) | lot (p : String) (m : Int)
def Rw.enc : Rw → D
  | .lett p s => .tup [.str "let", .str p, s.enc]
  | .leap g s => .tup [.str "leap", .int g, s.enc]
  | .get p b => .tup [.str "get", .str p, .str b]
  | .put b s => .tup [.str "put", .str b, s.enc]
  | .take l => .tup [.str "take", .str l]
  | .free l => .tup [.str "free", .str l]
  | .send l s => .tup [.str "send", .str l, s.enc]
  | .fetch p l => .tup [.str "fetch", .str p, .str l]
  | .say d s => .tup [.str "say", .str d, s.enc]
  | .hear p d => .tup [.str "hear", .str p, .str d]
  | .clock p => .tup [.str "clock", .str p]
  | .lot p m => .tup [.str "lot", .str p, .int m]
structure Pg where
  boxes : Pk
  locks : List String
  lanes : List String
  doors : List String
  hands : List (String × List Rw)
def encS (l : List String) : D := .tup (l.map .str)
def encRs (l : List Rw) : D := .tup (l.map Rw.enc)
def encH (h : String × List Rw) : D := .tup [.str h.1, encRs h.2]
def Pg.enc (p : Pg) : D := .tup [encP p.boxes, encS p.locks, encS p.lanes, encS p.doors, .tup (p.hands.map encH)]
@[simp] theorem frz_prog (p : Pg) : frz p.enc = p.enc := rfl
def Pg.names (p : Pg) : List String := p.boxes.map (·.1) ++ p.locks ++ p.lanes ++ p.doors ++ p.hands.map (·.1)
def Su.fine (s : Su) : Prop := s.ok ∧ s.depth ≤ 4
def Rw.ok (p : Pg) (n : Nat) : Rw → Prop
  | .lett _ s => s.fine
  | .leap g s => g ≤ n ∧ s.fine
  | .get _ b => b ∈ p.boxes.map (·.1)
  | .put b s => b ∈ p.boxes.map (·.1) ∧ s.fine
  | .take l => l ∈ p.locks
  | .free l => l ∈ p.locks
  | .send l s => l ∈ p.lanes ∧ s.fine
  | .fetch _ l => l ∈ p.lanes
  | .say d s => d ∈ p.doors ∧ s.fine
  | .hear _ d => d ∈ p.doors
  | .clock _ => True
  | .lot _ m => 0 < m ∧ m ≤ 1000
structure Pg.ok (p : Pg) : Prop where
  nms : ∀ s ∈ p.names, nm s
  nd : p.names.Nodup
  b4 : p.boxes.length ≤ 4
  k4 : p.locks.length ≤ 4
  l4 : p.lanes.length ≤ 4
  d4 : p.doors.length ≤ 4
  h1 : 1 ≤ p.hands.length
  h4 : p.hands.length ≤ 4
  bx : p.boxes.ok
  rows : ∀ h ∈ p.hands, h.2.length < 1000 ∧ ∀ r ∈ h.2, r.ok p h.2.length
theorem named_things_gen {α : Type} (xs : List α) (fst : α → String) (enc : α → D) (henc : ∀ x, ∃ d, enc x = .tup [.str (fst x), d]) (least : Int) (h0 : least ≤ xs.length) (h4 : xs.length ≤ 4) : Ev 1 "named_things" [.tup (xs.map enc), .int least] (.tl (xs.map fun x => .str (fst x))) := by
  refine Ev.intro (fn := f_named_things) rfl rfl fun n hn M c Q X q => ?_
  simp only [f_named_things, b_named_things]
  walk_at "ms"
  have e1 : decide (least ≤ ((xs.map enc).length : Int)) = true := decide_eq_true (by rw [List.length_map]; exact h0)
  have e2 : decide (((xs.map enc).length : Int) ≤ 4) = true := decide_eq_true (by rw [List.length_map]; omega)
  simp only [e1, e2]
  walk_at "ms"
  refine wLc_map (fun _ => .bl true) (ok_none _ _) _ _ (fun x hx R hR => ?_) (by rw [List.length_map]; simp; rw [line_val]; omega) ?_
  · obtain ⟨y, hy, rfl⟩ := List.mem_map.mp hx
    obtain ⟨d, e⟩ := henc y
    rw [e]
    walk_at "ms"
    simpa using hR
  · rw [List.nil_append, wBi_all_true _ _ (fun d hd => by
      obtain ⟨_, _, rfl⟩ := List.mem_map.mp hd
      rfl)]
    walk_at "ms"
    refine wLc_map (fun x => ((pix (match x with | .tup l => l | _ => []) 0)).getD .non) (ok_none _ _) _ _ (fun x hx R hR => ?_) (by rw [List.length_map]; simp; rw [line_val]; omega) ?_
    · obtain ⟨y, hy, rfl⟩ := List.mem_map.mp hx
      obtain ⟨d, e⟩ := henc y
      rw [e] at hR ⊢
      walk_at "ms"
      exact hR
    · rw [List.nil_append, List.map_map]
      have : (xs.map ((fun x => frz ((pix (match x with | .tup l => l | _ => []) 0).getD .non)) ∘ enc)) = xs.map fun x => .str (fst x) := by
        refine List.map_congr_left fun x _ => ?_
        obtain ⟨d, e⟩ := henc x
        simp only [Function.comp, e]
        rfl
      rw [this]
      exact gc_l q

theorem dic_at {M : Me} {n : Nat} {l : List (D × D)} (h : M[n]? = some (.dic l)) : dicAt M n = some l := by unfold dicAt mget; rw [h]
theorem lst_at {M : Me} {n : Nat} {l : List D} (h : M[n]? = some (.lst l)) : lstAt M n = some l := by unfold lstAt mget; rw [h]
theorem lst_none {M : Me} {n : Nat} {l : List (D × D)} (h : M[n]? = some (.dic l)) : lstAt M n = none := by unfold lstAt mget; rw [h]
theorem ix_dic {M : Me} {n : Nat} {l : List (D × D)} (h : M[n]? = some (.dic l)) (s : String) : ixOf M (.ref n) (.str s) = look l (.str s) := by
  show (match lstAt M n with | some xs => _ | none => _) = _
  rw [lst_none h]
  show (dicAt M n).bind _ = _
  rw [dic_at h]
  rfl
theorem in_dic {M : Me} {n : Nat} {l : List (D × D)} (h : M[n]? = some (.dic l)) (s : String) : cmp M .isin (.str s) (.ref n) = some (look l (.str s)).isSome := by
  show (match lstAt M n with | some xs => _ | none => _) = _
  rw [lst_none h]
  show (dicAt M n).bind _ = _
  rw [dic_at h]
  rfl
theorem st_dic {M : Me} {n : Nat} {l : List (D × D)} (h : M[n]? = some (.dic l)) (s : String) (z : D) (hl : l.length < line) : stOf M (.ref n) (.str s) z = some (M.set n (.dic (put l (.str s) (frz z)))) := by
  show (match lstAt M n with | some xs => _ | none => _) = _
  rw [lst_none h]
  show (dicAt M n).bind _ = _
  rw [dic_at h]
  show (if isKey (.str s) = true ∧ l.length < line then _ else _) = _
  rw [if_pos ⟨rfl, hl⟩]
theorem at0 (M : Me) (c : MO) (L : Me) : (M ++ c :: L)[M.length]? = some c := by rw [List.getElem?_append_right (Nat.le_refl _)]; simp
theorem at1 (M : Me) (b c : MO) (L : Me) : (M ++ b :: c :: L)[M.length + 1]? = some c := by rw [List.getElem?_append_right (by omega)]; simp
theorem set_0 (M : Me) (c d : MO) (L : Me) : (M ++ c :: L).set M.length d = M ++ d :: L := by
  rw [List.set_append_right _ _ (Nat.le_refl _)]; simp
theorem set_1 (M : Me) (b c d : MO) (L : Me) : (M ++ b :: c :: L).set (M.length + 1) d = M ++ b :: d :: L := by
  rw [List.set_append_right _ _ (by omega)]; simp
def strsF (l : List String) : D := .fz (l.map .str)
def metD (l : List String) : List (D × D) := l.map fun s => (.str s, .bl true)
theorem look_met (l : List String) (s : String) : (look (metD l) (.str s)).isSome = decide (s ∈ l) := by
  induction l with
  | nil => rfl
  | cons a r ih =>
    unfold look metD at ih ⊢
    rw [List.map_cons, List.find?_cons]
    by_cases h : a = s
    · subst h
      have : keq (.str a) (.str a) = true := decide_eq_true rfl
      rw [this]
      simp
    · have : keq (.str a) (.str s) = false := decide_eq_false h
      rw [this, ih]
      have h' : ¬ s = a := fun e => h e.symm
      simp [h']
theorem put_met {l : List String} {s : String} (h : s ∉ l) : put (metD l) (.str s) (.bl true) = metD (l ++ [s]) := by
  unfold put
  have : ((metD l).any fun p => keq p.1 (.str s)) = false := by
    rw [List.any_eq_false]
    intro p hp
    obtain ⟨a, ha, rfl⟩ := List.mem_map.mp hp
    have : ¬ a = s := fun e => h (e ▸ ha)
    simp [keq, this]
  rw [this]
  simp [metD]
def F0 (p : Pg) : List (D × D) := [(.str "box", strsF (p.boxes.map (·.1))), (.str "hand", strsF (p.hands.map (·.1))), (.str "lock", strsF p.locks), (.str "lane", strsF p.lanes), (.str "door", strsF p.doors)]
def sortL (p : Pg) : String → List String
  | "box" => p.boxes.map (·.1)
  | "lock" => p.locks
  | "lane" => p.lanes
  | "door" => p.doors
  | "hand" => p.hands.map (·.1)
  | _ => []
theorem look_F0 (p : Pg) {s : String} (h : s ∈ ["box", "lock", "lane", "door", "hand"]) : look (F0 p) (.str s) = some (strsF (sortL p s)) := by
  simp only [List.mem_cons, List.not_mem_nil, or_false] at h
  rcases h with rfl | rfl | rfl | rfl | rfl <;> rfl
theorem cls_strs (n : Nat) (l : List String) : clsDs n (l.map D.str) = true := by
  induction l with
  | nil => rfl
  | cons a r ih => exact ih
theorem flat_fz (M : Me) (l : List String) : (.fz (l.map .str)) = strsF l := rfl
theorem names_by_sort_ok {p : Pg} (hp : p.ok) {n : Nat} (hn : 2 ≤ n) {M : Me} (c : Cl M) {Q : QD} {X : QX} (q : ∀ met, Q (.ref M.length) (M ++ [.dic (F0 p), .dic met])) : callN cn n "names_by_sort" [p.enc] M Q X := by
  obtain ⟨n, rfl⟩ : ∃ j, n = j + 1 := ⟨n - 1, by omega⟩
  refine run1 (fn := f_names_by_sort) rfl rfl ?_
  simp only [f_names_by_sort, b_names_by_sort, Pg.enc]
  walk_at "ms"
  refine named_things_gen p.boxes (·.1) (fun p => .tup [.str p.1, .int p.2]) (fun x => ⟨_, rfl⟩) 0 (by omega) hp.b4 n (by omega) M c _ _ ?_
  walk_at "ms"
  refine named_things_gen p.hands (·.1) encH (fun x => ⟨_, rfl⟩) 1 (by have := hp.h1; omega) hp.h4 n (by omega) M c _ _ ?_
  walk_at "ms"
  refine ⟨trivial, by decide, ?_⟩
  have hk4 := hp.k4
  have hl4 := hp.l4
  have hd4 := hp.d4
  have d2 : ∀ a b : D, puts [] ([.str "box", .str "hand"].zip [a, b]) = [(.str "box", a), (.str "hand", b)] := fun _ _ => rfl
  rw [d2]
  have p1 : ∀ a b z : D, put (put [(.str "box", a), (.str "hand", b)] (.str "lock") .non) (.str "lock") z = [(.str "box", a), (.str "hand", b), (.str "lock", z)] := fun _ _ _ => rfl
  have p2 : ∀ a b e z : D, put (put [(.str "box", a), (.str "hand", b), (.str "lock", e)] (.str "lane") .non) (.str "lane") z = [(.str "box", a), (.str "hand", b), (.str "lock", e), (.str "lane", z)] := fun _ _ _ _ => rfl
  have p3 : ∀ a b e f z : D, put (put [(.str "box", a), (.str "hand", b), (.str "lock", e), (.str "lane", f)] (.str "door") .non) (.str "door") z = [(.str "box", a), (.str "hand", b), (.str "lock", e), (.str "lane", f), (.str "door", z)] := fun _ _ _ _ _ => rfl
  have l1 : ∀ l : List (D × D), l.length < 20 → l.length < line := fun l h => by rw [line_val]; omega
  -- locks
  refine ⟨trivial, ?_⟩
  walk_at "ms"
  rw [st_dic (at0 M _ []) _ _ (l1 _ (by simp))]
  walk_at "ms"
  simp only [encS]
  walk_at "ms"
  rw [decide_eq_true (show ((p.locks.map D.str).length : Int) ≤ 4 by rw [List.length_map]; omega)]
  walk_at "ms"
  rw [set_0, st_dic (at0 M _ []) _ _ (l1 _ (by simp [put, keq]))]
  walk_at "ms"
  rw [set_0, p1]
  -- lanes
  refine ⟨trivial, ?_⟩
  walk_at "ms"
  rw [st_dic (at0 M _ []) _ _ (l1 _ (by simp))]
  walk_at "ms"
  rw [decide_eq_true (show ((p.lanes.map D.str).length : Int) ≤ 4 by rw [List.length_map]; omega)]
  walk_at "ms"
  rw [set_0, st_dic (at0 M _ []) _ _ (l1 _ (by simp [put, keq]))]
  walk_at "ms"
  rw [set_0, p2]
  -- doors
  refine ⟨trivial, ?_⟩
  walk_at "ms"
  rw [st_dic (at0 M _ []) _ _ (l1 _ (by simp))]
  walk_at "ms"
  rw [decide_eq_true (show ((p.doors.map D.str).length : Int) ≤ 4 by rw [List.length_map]; omega)]
  walk_at "ms"
  rw [set_0, st_dic (at0 M _ []) _ _ (l1 _ (by simp [put, keq]))]
  walk_at "ms"
  rw [set_0, p3]
  refine ⟨trivial, trivial, ?_⟩
  have hF : [((.str "box" : D), D.fz (List.map (fun x => D.str x.1) p.boxes)), (.str "hand", .fz (List.map (fun x => D.str x.1) p.hands)), (.str "lock", .fz (List.map .str p.locks)), (.str "lane", .fz (List.map .str p.lanes)), (.str "door", .fz (List.map .str p.doors))] = F0 p := by
    unfold F0 strsF
    rw [List.map_map, List.map_map]
    rfl
  walk_at "ms"
  rw [hF]
  have hlen : (M ++ [MO.dic (F0 p)]).length = M.length + 1 := by simp
  rw [hlen, List.append_assoc]
  walk_at "ms"
  have cM : Cl (M ++ [MO.dic (F0 p)]) := c.app (by
    simp only [clsO, F0, strsF, List.all_cons, List.all_nil, clsD, cls_strs, Bool.and_self])
  refine wFor_inv (fun r σ M' => ∃ (rs done : List String) (o4 o5 : Option D), r = rs.map .str ∧ (∀ s ∈ rs, s ∈ ["box", "lock", "lane", "door", "hand"]) ∧ (done ++ (rs.map (sortL p)).flatten).Nodup ∧ (∀ s ∈ rs, ∀ x ∈ sortL p s, nm x) ∧ done.length + rs.length * 4 ≤ 40 ∧
    σ = [some (.tup [encP p.boxes, .tup (List.map .str p.locks), .tup (List.map .str p.lanes), .tup (List.map .str p.doors), .tup (List.map encH p.hands)]), some (.ref M.length), some (.int 3), some (.ref (M.length + 1)), o4, o5] ∧ M' = M ++ [.dic (F0 p), .dic (metD done)]) (fun _ _ _ _ => trivial) ?step ?done _ _ _ ?start
  case start => exact ⟨["box", "lock", "lane", "door", "hand"], [], none, none, rfl, fun s h => h, by simpa [Pg.names, sortL] using hp.nd, fun s hs x hx => hp.nms x (by
      simp only [List.mem_cons, List.not_mem_nil, or_false] at hs
      rcases hs with rfl | rfl | rfl | rfl | rfl <;> (simp only [sortL] at hx; simp only [Pg.names, List.mem_append]; simp [hx])), by simp, rfl, rfl⟩
  case done =>
    rintro σ M' ⟨rs, done, o4, o5, h1, h2, h3, h4, h5, rfl, rfl⟩
    walk_at "ms"
    exact gc_l (q _)
  case step =>
    rintro x r σ M' ⟨rs, done, o4, o5, h1, h2, h3, h4, h5, rfl, rfl⟩ P' hnx hrt hbk hct
    cases rs with
    | nil => cases h1
    | cons s rs =>
      cases h1
      walk_at "ms"
      rw [ix_dic (at0 M _ _), look_F0 p (h2 s List.mem_cons_self)]
      simp only [strsF]
      walk_at "ms"
      have hlen4 : (sortL p s).length ≤ 4 := by
        have := h2 s List.mem_cons_self
        simp only [List.mem_cons, List.not_mem_nil, or_false] at this
        have := hp.b4
        have := hp.h4
        rcases ‹s = _ ∨ _› with rfl | rfl | rfl | rfl | rfl <;> simp only [sortL, List.length_map] <;> omega
      have cM2 : Cl (M ++ [MO.dic (F0 p), MO.dic (metD done)]) := by
        have := cM.app (c := MO.dic (metD done)) (by
          simp only [clsO, metD, List.all_map]
          exact List.all_eq_true.mpr fun _ _ => rfl)
        rwa [List.append_assoc] at this
      refine wLc_map (fun _ => .bl true) (ok_none _ _) _ _ (fun x hx R hR => ?_) (by rw [List.length_map]; simp; rw [line_val]; omega) ?_
      · obtain ⟨a, ha, rfl⟩ := List.mem_map.mp hx
        walk_at "ms"
        exact is_name_ok (h4 s List.mem_cons_self a ha) n (by omega) _ cM2 _ _ hR
      · rw [List.nil_append, wBi_all_true _ _ (fun d hd => by
          obtain ⟨_, _, rfl⟩ := List.mem_map.mp hd
          rfl)]
        walk_at "ms"
        rw [ix_dic (at0 M _ _), look_F0 p (h2 s List.mem_cons_self)]
        simp only [strsF]
        walk_at "ms"
        refine wFor_inv (fun r σ M' => ∃ (xs dn : List String) (o5 : Option D), r = xs.map .str ∧ done ++ sortL p s = dn ++ xs ∧
          σ = [some (.tup [encP p.boxes, .tup (List.map .str p.locks), .tup (List.map .str p.lanes), .tup (List.map .str p.doors), .tup (List.map encH p.hands)]), some (.ref M.length), some (.int 3), some (.ref (M.length + 1)), some (.str s), o5] ∧ M' = M ++ [.dic (F0 p), .dic (metD dn)]) (fun _ _ _ _ => trivial) ?istep ?idone _ _ _ ⟨sortL p s, done, o5, rfl, rfl, rfl, rfl⟩
        case idone =>
          rintro σ M' ⟨xs, dn, o5, e1, e2, rfl, rfl⟩
          cases xs with
          | cons _ _ => cases e1
          | nil =>
            rw [List.append_nil] at e2
            subst e2
            refine hnx _ _ ⟨rs, _, _, o5, rfl, fun s' hs' => h2 s' (List.mem_cons_of_mem _ hs'), by simpa [List.append_assoc] using h3, fun s' hs' => h4 s' (List.mem_cons_of_mem _ hs'), ?_, rfl, rfl⟩
            simp at h5 ⊢; omega
        case istep =>
          rintro x r σ M' ⟨xs, dn, o5, e1, e2, rfl, rfl⟩ P2 hnx2 hrt2 hbk2 hct2
          cases xs with
          | nil => cases e1
          | cons a xs =>
            cases e1
            have hna : a ∉ dn := fun h => by
              have hnd : (dn ++ a :: xs).Nodup := by
                rw [← e2]
                have := h3
                rw [List.map_cons, List.flatten_cons, ← List.append_assoc] at this
                exact (List.nodup_append.mp this).1
              exact (List.nodup_append.mp hnd).2.2 a h a List.mem_cons_self rfl
            walk_at "ms"
            rw [in_dic (at1 M _ _ []), look_met, decide_eq_false hna]
            walk_at "ms"
            have hdn : dn.length ≤ 40 := by
              have := congrArg List.length e2
              simp at this h5
              omega
            rw [st_dic (at1 M _ _ []) _ _ (by simp [metD]; rw [line_val]; omega)]
            walk_at "ms"
            rw [set_1, put_met hna]
            exact hnx2 _ _ ⟨xs, dn ++ [a], _, rfl, by rw [e2]; simp, rfl, rfl⟩

theorem frz_encS (l : List String) : frz (encS l) = encS l := rfl
theorem frz_encRs (l : List Rw) : frz (encRs l) = encRs l := rfl
theorem frz_rw (r : Rw) : frz r.enc = r.enc := by cases r <;> rfl
theorem find_str {l : List String} {s : String} (h : s ∈ l) : ∃ j : Nat, (l.map D.str).findIdx? (fun y => D.eqv y (.str s)) = some j ∧ j < l.length ∧ l[j]? = some s := by
  induction l with
  | nil => cases h
  | cons a r ih =>
    by_cases e : a = s
    · subst e
      refine ⟨0, ?_, by simp, rfl⟩
      rw [List.map_cons, List.findIdx?_cons]
      have : D.eqv (.str a) (.str a) = true := decide_eq_true rfl
      rw [this]; rfl
    · have h' : s ∈ r := by
        rcases List.mem_cons.mp h with h | h
        · exact absurd h.symm e
        · exact h
      obtain ⟨j, h1, h2, h3⟩ := ih h'
      refine ⟨j + 1, ?_, by simp; omega, h3⟩
      rw [List.map_cons, List.findIdx?_cons]
      have : D.eqv (.str a) (.str s) = false := decide_eq_false e
      rw [this, h1]; rfl
theorem number_of_ok {p : Pg} (hp : p.ok) {so : String} (hs : so ∈ ["box", "lock", "lane", "door", "hand"]) {s : String} (h : s ∈ sortL p so) : ∃ j : Nat, (j < (sortL p so).length ∧ (sortL p so)[j]? = some s) ∧ Ev 3 "number_of" [p.enc, .str so, .str s] (.int j) := by
  obtain ⟨j, h1, h2, h3⟩ := find_str h
  refine ⟨j, ⟨h2, h3⟩, Ev.intro (fn := f_number_of) rfl rfl fun n hn M c Q X q => ?_⟩
  simp only [f_number_of, b_number_of]
  walk_at "ms"
  simp only [frz_prog]
  refine names_by_sort_ok hp hn c fun met => ?_
  walk_at "ms"
  rw [ix_dic (at0 M _ _), look_F0 p hs]
  simp only [strsF]
  walk_at "ms"
  rw [notin_strs_f, decide_eq_true h]
  walk_at "ms"
  have hm : mtOf (M ++ [MO.dic (F0 p), MO.dic met]) .index (.fz ((sortL p so).map .str)) [.str s] = some (.int j, M ++ [MO.dic (F0 p), MO.dic met]) := by
    show (if (flat (.str s) && ((sortL p so).map D.str).all flat) = true then (((sortL p so).map D.str).findIdx? fun y => D.eqv y (.str s)).map fun (j : Nat) => (D.int (j : Int), M ++ [MO.dic (F0 p), MO.dic met]) else none) = _
    rw [flat_strs, h1]
    rfl
  refine ⟨rfl, ?_⟩
  rw [hm]
  exact gc_d c rfl (take_last M _) q
theorem rows_of_ok (p : Pg) {i : Nat} {h : String × List Rw} (e : p.hands[i]? = some h) : Ev 1 "rows_of" [p.enc, .int i] (encRs h.2) := by
  refine Ev.intro (fn := f_rows_of) rfl rfl fun n hn M c Q X q => ?_
  simp only [f_rows_of, b_rows_of, Pg.enc]
  walk_at "ms"
  rw [pix_nat, List.getElem?_map, e]
  simp only [Option.map_some, encH]
  walk_at "ms"
  exact gc_l q
/-! ### seats -/
structure Seat where
  num : Nat
  ps : Pk
  held : List String
def Seat.enc (s : Seat) : D := .tup [.int s.num, encP s.ps, encS s.held]
theorem frz_seat (s : Seat) : frz s.enc = s.enc := rfl
def Seat.ok (p : Pg) (rs : List Rw) (s : Seat) : Prop := s.num ≤ rs.length ∧ s.ps.ok ∧ s.held.length ≤ 1000
theorem keys_strs {l : List (D × D)} (h : Vr l) : ∃ ks : List String, l.map (·.1) = ks.map .str := by
  induction l with
  | nil => exact ⟨[], rfl⟩
  | cons p r ih =>
    obtain ⟨k, v, rfl, _⟩ := h p List.mem_cons_self
    obtain ⟨ks, e⟩ := ih fun q hq => h q (List.mem_cons_of_mem _ hq)
    exact ⟨k :: ks, by rw [List.map_cons, List.map_cons, e]⟩
theorem strs_map (ks : List String) : strS (ks.map D.str) = some ks := by
  induction ks with
  | nil => rfl
  | cons k r ih => show (Mp.strS (r.map .str)).map _ = _; rw [ih]; rfl
theorem look_mem {l : List (D × D)} (h : Vr l) {ks : List String} (e : l.map (·.1) = ks.map .str) {k : String} (hk : k ∈ ks) : ∃ v : Int, look l (.str k) = some (.int v) ∧ 0 ≤ v ∧ v < 1000 := by
  cases e2 : look l (.str k) with
  | some d =>
    obtain ⟨v, rfl, hv⟩ := h.look e2
    exact ⟨v, rfl, hv⟩
  | none =>
    exfalso
    unfold look at e2
    rw [Option.map_eq_none_iff, List.find?_eq_none] at e2
    have : (.str k : D) ∈ l.map (·.1) := by rw [e]; exact List.mem_map_of_mem hk
    obtain ⟨p, hp, e3⟩ := List.mem_map.mp this
    have := e2 p hp
    rw [e3] at this
    exact this (decide_eq_true rfl)
theorem len_put (l : List (D × D)) (k v : D) : (put l k v).length ≤ l.length + 1 := by
  unfold put
  split <;> simp
theorem len_puts : ∀ (m l : List (D × D)), (puts l m).length ≤ l.length + m.length
  | [], l => by simp [puts]
  | p :: r, l => by
    have := len_puts r (put l p.1 p.2)
    have := len_put l p.1 p.2
    simp only [puts, List.length_cons]
    omega
/-! ### sorting has one outcome -/
theorem strL_anti {a b : String} (h1 : ¬ strL b a) (h2 : ¬ strL a b) : a = b := by
  have : a.toList.map Char.toNat = b.toList.map Char.toNat := List.le_antisymm (as := a.toList.map Char.toNat) (bs := b.toList.map Char.toNat) h1 h2
  refine String.ext (List.map_inj_right (f := Char.toNat) (fun x y e => ?_) |>.mp this)
  exact Char.toNat_inj.mp e
theorem rises_eq {ks ys zs : List String} (h1 : Rises ys ks) (h2 : Rises zs ks) : ys = zs :=
  List.Perm.eq_of_pairwise (le := fun a b => ¬ strL b a) (fun a b _ _ x y => strL_anti x y) h1.2 h2.2 (h1.1.trans h2.1.symm)
noncomputable def srt (ks : List String) : List String := open Classical in if h : ∃ ys, Rises ys ks then Classical.choose h else ks
theorem srt_sub (ks : List String) : ∀ s ∈ srt ks, s ∈ ks := by
  unfold srt
  split
  · rename_i h
    exact fun s hs => (Classical.choose_spec h).1.subset hs
  · exact fun _ h => h
theorem srt_eq {ks ys : List String} (h : Rises ys ks) : ys = srt ks := by
  unfold srt
  have h' : ∃ ys, Rises ys ks := ⟨ys, h⟩
  rw [dif_pos h']
  exact rises_eq h (Classical.choose_spec h')
/-! ### the dict of pockets -/
def Kn (K : List String) (l : List (D × D)) : Prop := (∀ p ∈ l, ∃ k, p.1 = .str k ∧ k ∈ K) ∧ (l.map (·.1)).Nodup
theorem Kn.put {K : List String} {l : List (D × D)} {k : String} {v : D} (h : Kn K l) (hk : k ∈ K) : Kn K (Mp.put l (.str k) v) := by
  unfold Mp.put
  split
  · rename_i hany
    constructor
    · intro p hp
      obtain ⟨q, hq, rfl⟩ := List.mem_map.mp hp
      obtain ⟨k', e, hk'⟩ := h.1 q hq
      split
      · exact ⟨k', e, hk'⟩
      · exact ⟨k', e, hk'⟩
    · have : (l.map fun p => if keq p.1 (.str k) then (p.1, v) else p).map (·.1) = l.map (·.1) := by
        rw [List.map_map]
        refine List.map_congr_left fun p _ => ?_
        simp only [Function.comp]
        split <;> rfl
      rw [this]
      exact h.2
  · rename_i hany
    constructor
    · intro p hp
      rcases List.mem_append.mp hp with hp | hp
      · exact h.1 p hp
      · rw [List.mem_singleton.mp hp]
        exact ⟨k, rfl, hk⟩
    · rw [List.map_append, List.nodup_append]
      refine ⟨h.2, by simp, ?_⟩
      intro a ha b hb e
      rw [List.map_cons, List.map_nil, List.mem_singleton] at hb
      rw [hb] at e
      subst e
      obtain ⟨p, hp, e⟩ := List.mem_map.mp ha
      apply hany
      rw [List.any_eq_true]
      exact ⟨p, hp, by rw [e]; exact decide_eq_true rfl⟩
theorem Kn.puts {K : List String} : ∀ {m l : List (D × D)}, Kn K l → (∀ p ∈ m, ∃ k, p.1 = .str k ∧ k ∈ K) → Kn K (Mp.puts l m)
  | [], _, h, _ => h
  | p :: r, l, h, hm => by
    obtain ⟨k, e, hk⟩ := hm p List.mem_cons_self
    show Kn K (Mp.puts (Mp.put l p.1 p.2) r)
    rw [e]
    exact Kn.puts (h.put hk) fun q hq => hm q (List.mem_cons_of_mem _ hq)
theorem Kn.len {K : List String} {l : List (D × D)} (h : Kn K l) : l.length ≤ K.length := by
  have h1 : (l.map (·.1)) ⊆ K.map D.str := fun d hd => by
    obtain ⟨p, hp, rfl⟩ := List.mem_map.mp hd
    obtain ⟨k, e, hk⟩ := h.1 p hp
    rw [e]
    exact List.mem_map_of_mem hk
  have := List.Nodup.length_le_of_subset h.2 h1
  simpa using this
def Pk.In (K : List String) (ps : Pk) : Prop := ∀ p ∈ ps, p.1 ∈ K
theorem cls_encP (n : Nat) (ps : Pk) : clsD n (encP ps) = true := by
  show clsDs n (ps.map fun p => .tup [.str p.1, .int p.2]) = true
  induction ps with
  | nil => rfl
  | cons p r ih => exact ih
theorem laid_in_ok {ps : Pk} (hp : ps.ok) {K : List String} (hK : ps.In K) (hl : K.length < 60) {k : String} (hk : k ∈ K) {v : Int} (hv : 0 ≤ v ∧ v < 1000) : ∃ ps' : Pk, ps'.ok ∧ ps'.In K ∧ Ev 1 "laid_in" [encP ps, .str k, .int v] (encP ps') := by
  have v0 : Vr (puts [] (ps.map fun p => (.str p.1, .int p.2))) := vr_puts (fun q hq => by cases hq) (vr_enc hp)
  have n0 : Kn K (puts [] (ps.map fun p => ((.str p.1 : D), (.int p.2 : D)))) := Kn.puts ⟨fun q hq => (by cases hq), List.nodup_nil⟩ fun q hq => by
    obtain ⟨p, hp', rfl⟩ := List.mem_map.mp hq
    exact ⟨p.1, rfl, hK p hp'⟩
  have v1 : Vr (put (puts [] (ps.map fun p => (.str p.1, .int p.2))) (.str k) (.int v)) := v0.put hv
  have n1 : Kn K (put (puts [] (ps.map fun p => ((.str p.1 : D), (.int p.2 : D)))) (.str k) (.int v)) := n0.put hk
  obtain ⟨ks, eks⟩ := keys_strs v1
  generalize hl1 : put (puts [] (ps.map fun p => ((.str p.1 : D), (.int p.2 : D)))) (.str k) (.int v) = L at v1 n1 eks
  have hL : L.length < 60 := by have := n1.len; omega
  have key : ∀ s ∈ ks, ∃ v : Int, look L (.str s) = some (.int v) ∧ 0 ≤ v ∧ v < 1000 := fun s hs => look_mem v1 eks hs
  have keyK : ∀ s ∈ ks, s ∈ K := fun s hs => by
    have : (.str s : D) ∈ L.map (·.1) := by rw [eks]; exact List.mem_map_of_mem hs
    obtain ⟨p, hp', e⟩ := List.mem_map.mp this
    obtain ⟨k', e', hk'⟩ := n1.1 p hp'
    rw [e] at e'
    cases e'
    exact hk'
  have hks : ks.length < 60 := by
    have := congrArg List.length eks
    simp at this
    omega
  let val : String → Int := fun s => match look L (.str s) with
    | some (.int v) => v
    | _ => 0
  have hval : ∀ s ∈ ks, look L (.str s) = some (.int (val s)) ∧ 0 ≤ val s ∧ val s < 1000 := fun s hs => by
    obtain ⟨v, e, h⟩ := key s hs
    simp only [val, e]
    exact ⟨trivial, h⟩
  have hsub := srt_sub ks
  refine ⟨(srt ks).filterMap fun s => if val s = 0 then none else some (s, val s), ?_, ?_, Ev.intro (fn := f_laid_in) rfl rfl fun n hn M c Q X q => ?_⟩
  · intro p hp'
    obtain ⟨s, hs, e⟩ := List.mem_filterMap.mp hp'
    split at e
    · cases e
    · cases e
      exact (hval s (hsub s hs)).2
  · intro p hp'
    obtain ⟨s, hs, e⟩ := List.mem_filterMap.mp hp'
    split at e
    · cases e
    · cases e
      exact keyK s (hsub s hs)
  simp only [f_laid_in, b_laid_in]
  walk_at "ms"
  simp only [encP]
  walk_at "ms"
  rw [prs_enc]
  walk_at "ms"
  rw [st_dic (at0 M _ []) _ _ (by have := n0.len; rw [line_val]; omega)]
  walk_at "ms"
  rw [set_0, hl1]
  have es : wBi (M ++ [MO.dic L]) .sorted [.ref M.length] = fun Q => opt (srtOf (M ++ [MO.dic L]) [.ref M.length]) fun k => wSort k fun d => Q d (M ++ [MO.dic L]) := rfl
  have es2 : srtOf (M ++ [MO.dic L]) [.ref M.length] = some (.inl ks) := by
    simp only [srtOf, seqOf, lstOf, lst_none (at0 M _ []), dic_last, Option.bind_some]
    rw [if_pos (by omega), eks]
    unfold srtL
    rw [strs_map]
  rw [es, es2]
  show ∀ ys, Rises ys ks → _
  intro ys hys
  have := srt_eq hys
  subst this
  walk_at "ms"
  refine wLc_filter (fun d => match d with
    | .str s => if val s = 0 then none else some (.tup [.str s, .int (val s)])
    | _ => none) (ok_none _ _) _ _ (fun x hx R hR => ?_) (by rw [List.length_map, hys.1.length_eq]; simp; rw [line_val]; omega) ?_
  · obtain ⟨s, hs, rfl⟩ := List.mem_map.mp hx
    have hv' := hval s (hsub s hs)
    walk_at "ms"
    rw [ix_dic (at0 M _ []), hv'.1]
    walk_at "ms"
    by_cases h0 : val s = 0
    · simp only [h0] at hR ⊢
      walk_at "ms"
      exact hR
    · rw [decide_eq_false h0]
      simp only [h0, if_false] at hR
      walk_at "ms"
      exact ⟨by simp [line_val], hR⟩
  · walk_at "ms"
    have : (List.nil ++ List.filterMap (fun x => Option.map frz (match x with
      | .str s => if val s = 0 then none else some (.tup [.str s, .int (val s)])
      | _ => none)) ((srt ks).map D.str)) = ((srt ks).filterMap fun s => if val s = 0 then none else some (s, val s)).map fun p => .tup [.str p.1, .int p.2] := by
      rw [List.nil_append, List.filterMap_map, List.map_filterMap]
      congr 1
      funext s
      simp only [Function.comp]
      split <;> rfl
    rw [List.nil_append] at this
    rw [this]
    exact gc_d c (cls_encP M.length _) (take_last M _) q

def Rw.pks : Rw → List String
  | .lett p _ => [p]
  | .get p _ => [p]
  | .fetch p _ => [p]
  | .hear p _ => [p]
  | .clock p => [p]
  | .lot p _ => [p]
  | _ => []
/-- a program whose rows lay into these pockets alone -/
structure Wp (p : Pg) (K : List String) : Prop where
  ok : p.ok
  len : K.length < 60
  pk : ∀ h ∈ p.hands, ∀ r ∈ h.2, ∀ k ∈ r.pks, k ∈ K
def St (K : List String) (b : Nat) (rs : List Rw) (s : Seat) : Prop := s.num ≤ rs.length ∧ s.ps.ok ∧ s.ps.In K ∧ s.held.length ≤ b
def Rw.touch : Rw → Prop
  | .lett _ _ => False
  | .leap _ _ => False
  | _ => True
def Rest (rs : List Rw) (s : Seat) : Prop := s.num = rs.length ∨ ∃ r, rs[s.num]? = some r ∧ r.touch
def optS : Option Seat → D
  | none => .non
  | some s => s.enc
theorem own_step_ok {p : Pg} {K : List String} (hl : K.length < 60) {rs : List Rw} (hr : ∀ r ∈ rs, r.ok p rs.length) (hk : ∀ r ∈ rs, ∀ k ∈ r.pks, k ∈ K) (b : Nat) (s : Seat) (h : St K b rs s) :
    ∃ o : Option Seat, (o = none → Rest rs s) ∧ (∀ s', o = some s' → St K b rs s') ∧ Ev 6 "own_step" [encRs rs, s.enc] (optS o) := by
  obtain ⟨h1, h2, h3, h4⟩ := h
  by_cases e : s.num = rs.length
  · refine ⟨none, fun _ => .inl e, fun _ h => (by cases h), Ev.intro (fn := f_own_step) rfl rfl fun n hn M c Q X q => ?_⟩
    simp only [f_own_step, b_own_step, encRs, Seat.enc]
    walk_at "ms"
    rw [e]
    have : decide ((rs.length : Int) = ((rs.map Rw.enc).length : Int)) = true := decide_eq_true (by simp)
    rw [this]
    walk_at "ms"
    exact gc_l q
  · have hlt : s.num < rs.length := by omega
    have hget : rs[s.num]? = some rs[s.num] := List.getElem?_eq_getElem hlt
    have hmem : rs[s.num] ∈ rs := List.getElem_mem hlt
    have ok := hr _ hmem
    have pk := hk _ hmem
    generalize rs[s.num] = r at hget hmem ok pk
    have pre : ∀ o : Option Seat, (∀ n, 5 ≤ n → ∀ M, Cl M → ∀ (Q : QD) (X : QX), Q (optS o) M → wSs cn (callN cn n) (match b_own_step with | .cons _ (.cons _ r) => r | _ => .nil) [some (encRs rs), some s.enc, some (.int s.num), some (encP s.ps), some (encS s.held), none] M { nx := fun _ M' => gcQ M.length Q .non M', rt := gcQ M.length Q, bk := fun _ _ => False, ct := fun _ _ => False, ex := fun x _ M' => X x M' }) → Ev 6 "own_step" [encRs rs, s.enc] (optS o) := fun o H => Ev.intro (fn := f_own_step) rfl rfl fun n hn M c Q X q => by
      have H' := H n hn M c Q X q
      simp only [f_own_step, b_own_step, encRs, Seat.enc] at H' ⊢
      walk_at "ms"
      have : decide ((s.num : Int) = ((rs.map Rw.enc).length : Int)) = false := decide_eq_false (by simp; omega)
      rw [this]
      exact H'
    have ixr : ∀ M, ixOf M (encRs rs) (.int s.num) = some r.enc := fun M => by
      rw [encRs, ix_tup, pix_nat, List.getElem?_map, hget]; rfl
    have fzr := frz_rw r
    have non : r.touch → (∀ l, r ≠ .take l) → (∀ l, r ≠ .free l) → ∃ o : Option Seat, (o = none → Rest rs s) ∧ (∀ s', o = some s' → St K b rs s') ∧ Ev 6 "own_step" [encRs rs, s.enc] (optS o) := fun ht n1 n2 => by
      refine ⟨none, fun _ => .inr ⟨r, hget, ht⟩, fun _ h => (by cases h), pre _ fun n hn M c Q X q => ?_⟩
      simp only [b_own_step]
      walk_at "ms"
      rw [ixr]
      walk_at "ms"
      rw [fzr]
      cases r <;> first | exact absurd ht id | exact absurd rfl (n1 _) | exact absurd rfl (n2 _) | (simp only [Rw.enc]; walk_at "ms"; exact gc_l q)
    cases r with
    | lett k su =>
      obtain ⟨v, hv, ev⟩ := worth_ok s.ps h2 su ok.1
      obtain ⟨ps', k1, k2, k3⟩ := laid_in_ok h2 h3 hl (pk k List.mem_cons_self) hv
      refine ⟨some ⟨s.num + 1, ps', s.held⟩, fun h => (by cases h), fun s' h => ?_, pre _ fun n hn M c Q X q => ?_⟩
      · cases h; exact ⟨hlt, k1, k2, h4⟩
      · simp only [b_own_step]
        walk_at "ms"
        rw [ixr]
        simp only [Rw.enc]
        walk_at "ms"
        refine ev n (by have := ok.2; omega) M c _ _ ?_
        walk_at "ms"
        refine k3 n (by omega) M c _ _ ?_
        walk_at "ms"
        refine ⟨by rw [line_val]; decide, gc_l ?_⟩
        have : ((s.num : Int) + 1) = ((s.num + 1 : Nat) : Int) := by omega
        rw [this]
        exact q
    | leap g su =>
      obtain ⟨v, hv, ev⟩ := worth_ok s.ps h2 su ok.2.1
      refine ⟨some ⟨if v = 0 then s.num + 1 else g, s.ps, s.held⟩, fun h => (by cases h), fun s' h => ?_, pre _ fun n hn M c Q X q => ?_⟩
      · cases h
        refine ⟨?_, h2, h3, h4⟩
        show (if v = 0 then s.num + 1 else g) ≤ _
        have := ok.1
        split <;> omega
      · simp only [b_own_step]
        walk_at "ms"
        rw [ixr]
        simp only [Rw.enc]
        walk_at "ms"
        refine ev n (by have := ok.2.2; omega) M c _ _ ?_
        walk_at "ms"
        by_cases hz : v = 0
        · rw [decide_eq_true hz]
          rw [if_pos hz] at q
          walk_at "ms"
          refine ⟨by rw [line_val]; decide, gc_l ?_⟩
          have : ((s.num : Int) + 1) = ((s.num + 1 : Nat) : Int) := by omega
          rw [this]
          exact q
        · rw [decide_eq_false hz]
          rw [if_neg hz] at q
          walk_at "ms"
          exact ⟨by rw [line_val]; decide, gc_l q⟩
    | take l =>
      by_cases hh : l ∈ s.held
      · refine ⟨some ⟨s.num + 1, s.ps, s.held⟩, fun h => (by cases h), fun s' h => ?_, pre _ fun n hn M c Q X q => ?_⟩
        · cases h; exact ⟨hlt, h2, h3, h4⟩
        · simp only [b_own_step]
          walk_at "ms"
          rw [ixr]
          simp only [Rw.enc, encS]
          walk_at "ms"
          rw [in_strs_t, decide_eq_true hh]
          walk_at "ms"
          refine ⟨by rw [line_val]; decide, gc_l ?_⟩
          have : ((s.num : Int) + 1) = ((s.num + 1 : Nat) : Int) := by omega
          rw [this]
          exact q
      · refine ⟨none, fun _ => .inr ⟨_, hget, trivial⟩, fun _ h => (by cases h), pre _ fun n hn M c Q X q => ?_⟩
        simp only [b_own_step]
        walk_at "ms"
        rw [ixr]
        simp only [Rw.enc, encS]
        walk_at "ms"
        rw [in_strs_t, decide_eq_false hh]
        walk_at "ms"
        exact gc_l q
    | free l =>
      by_cases hh : l ∈ s.held
      · refine ⟨none, fun _ => .inr ⟨_, hget, trivial⟩, fun _ h => (by cases h), pre _ fun n hn M c Q X q => ?_⟩
        simp only [b_own_step]
        walk_at "ms"
        rw [ixr]
        simp only [Rw.enc, encS]
        walk_at "ms"
        rw [notin_strs_t, decide_eq_true hh]
        walk_at "ms"
        exact gc_l q
      · refine ⟨some ⟨s.num + 1, s.ps, s.held⟩, fun h => (by cases h), fun s' h => ?_, pre _ fun n hn M c Q X q => ?_⟩
        · cases h; exact ⟨hlt, h2, h3, h4⟩
        · simp only [b_own_step]
          walk_at "ms"
          rw [ixr]
          simp only [Rw.enc, encS]
          walk_at "ms"
          rw [notin_strs_t, decide_eq_false hh]
          walk_at "ms"
          refine ⟨by rw [line_val]; decide, gc_l ?_⟩
          have : ((s.num : Int) + 1) = ((s.num + 1 : Nat) : Int) := by omega
          rw [this]
          exact q
    | _ => exact non trivial (fun _ h => by cases h) (fun _ h => by cases h)

theorem exAll {α β : Type} [Inhabited β] {P : α → Prop} {R : α → β → Prop} (h : ∀ a, P a → ∃ b, R a b) : ∃ f : α → β, ∀ a, P a → R a (f a) := by
  classical
  refine ⟨fun a => if e : ∃ b, R a b then Classical.choose e else default, fun a ha => ?_⟩
  have e := h a ha
  simp only [dif_pos e]
  exact Classical.choose_spec e
/-- where own steps end -/
def fin (f : Seat → Option Seat) (len : Nat) : Nat → Seat → Seat
  | 0, s => match f s with
    | none => s
    | some _ => ⟨len, s.ps, s.held⟩
  | n + 1, s => match f s with
    | none => s
    | some s' => fin f len n s'
theorem fin_ok {K : List String} {b : Nat} {rs : List Rw} {f : Seat → Option Seat} (hf : ∀ s, St K b rs s → (f s = none → Rest rs s) ∧ ∀ s', f s = some s' → St K b rs s') : ∀ (n : Nat) (s : Seat), St K b rs s → St K b rs (fin f rs.length n s) ∧ Rest rs (fin f rs.length n s)
  | 0, s, h => by
    unfold fin
    cases e : f s with
    | none => exact ⟨h, (hf s h).1 e⟩
    | some s' => exact ⟨⟨Nat.le_refl _, h.2⟩, .inl rfl⟩
  | n + 1, s, h => by
    unfold fin
    cases e : f s with
    | none => exact ⟨h, (hf s h).1 e⟩
    | some s' => exact fin_ok hf n s' ((hf s h).2 s' e)
theorem isN_seat (s : Seat) : isN s.enc = false := rfl
theorem rested_ok {p : Pg} {K : List String} (hp : Wp p K) {i : Nat} {h : String × List Rw} (e : p.hands[i]? = some h) {b : Nat} {s : Seat} (hs : St K b h.2 s) :
    ∃ s', St K b h.2 s' ∧ Rest h.2 s' ∧ Ev 7 "rested" [p.enc, .int i, s.enc] s'.enc := by
  have hm : h ∈ p.hands := List.mem_of_getElem? e
  obtain ⟨f, hf⟩ := exAll (own_step_ok (p := p) (K := K) hp.len (hp.ok.rows h hm).2 (hp.pk h hm) b)
  have hf2 : ∀ s, St K b h.2 s → (f s = none → Rest h.2 s) ∧ ∀ s', f s = some s' → St K b h.2 s' := fun s hs => ⟨(hf s hs).1, (hf s hs).2.1⟩
  have hfin := fin_ok hf2 200 s hs
  refine ⟨fin f h.2.length 200 s, hfin.1, hfin.2, Ev.intro (fn := f_rested) rfl rfl fun n hn M c Q X q => ?_⟩
  simp only [f_rested, b_rested]
  walk_at "ms"
  refine rows_of_ok p e n (by omega) M c _ _ ?_
  have hR : frz (encRs h.2) = encRs h.2 := rfl
  walk_at "ms"
  rw [hR]
  have hJ : rngO (.int 200) = some ⟨rngL 0 200, none⟩ := by
    unfold rngO
    exact if_pos ⟨by decide, by decide⟩
  have hg : cn.G "MOST_OWN_ROWS" = some (.int 200) := rfl
  rw [hJ]
  walk_at "ms"
  refine wFor_inv (fun r σ M' => ∃ (t : Seat) (o4 o5 : Option D), St K b h.2 t ∧ fin f h.2.length r.length t = fin f h.2.length 200 s ∧ (∀ d ∈ r, ∃ i : Int, d = .int i) ∧
    σ = [some p.enc, some (.int i), some t.enc, some (encRs h.2), o4, o5] ∧ M' = M) (fun _ _ _ _ => trivial) ?step ?done _ _ _ ⟨s, none, none, hs, rfl, ?_, rfl, rfl⟩
  case step =>
    rintro x r σ M' ⟨t, o4, o5, h1, h2, h3, rfl, rfl⟩ P' hnx hrt hbk hct
    obtain ⟨ix, rfl⟩ := h3 _ List.mem_cons_self
    walk_at "ms"
    refine (hf t h1).2.2 n (by omega) M' c _ _ ?_
    have hu : fin f h.2.length (r.length + 1) t = match f t with
      | none => t
      | some s' => fin f h.2.length r.length s' := rfl
    rw [List.length_cons, hu] at h2
    cases eo : f t with
    | none =>
      rw [eo] at h2
      simp only [optS]
      walk_at "ms"
      rw [hrt]
      simp only [] at h2
      rw [← h2] at q
      exact gc_l q
    | some t' =>
      rw [eo] at h2
      simp only [optS]
      rw [frz_seat]
      walk_at "ms"
      rw [isN_seat]
      walk_at "ms"
      rw [frz_seat]
      exact hnx _ _ ⟨t', _, _, (hf2 t h1).2 _ eo, h2, fun d hd => h3 d (List.mem_cons_of_mem _ hd), rfl, rfl⟩
  case done =>
    rintro σ M' ⟨t, o4, o5, h1, h2, h3, rfl, rfl⟩
    walk_at "ms"
    refine (hf t h1).2.2 n (by omega) M' c _ _ ?_
    have hu : fin f h.2.length 0 t = match f t with
      | none => t
      | some _ => ⟨h.2.length, t.ps, t.held⟩ := rfl
    rw [List.length_nil, hu] at h2
    cases eo : f t with
    | none =>
      rw [eo] at h2
      simp only [optS]
      walk_at "ms"
      simp only [] at h2
      rw [← h2] at q
      exact gc_l q
    | some t' =>
      rw [eo] at h2
      simp only [optS]
      walk_at "ms"
      rw [isN_seat]
      simp only [encRs, Seat.enc]
      walk_at "ms"
      simp only [] at h2
      rw [← h2] at q
      refine ⟨by rw [line_val]; decide, gc_l ?_⟩
      rw [frz_encS, List.length_map]
      exact q
  · intro d hd
    obtain ⟨k, _, rfl⟩ := List.mem_map.mp hd
    exact ⟨_, rfl⟩
theorem first_seat_ok {p : Pg} {K : List String} (hp : Wp p K) {i : Nat} {h : String × List Rw} (e : p.hands[i]? = some h) (b : Nat) :
    ∃ s', St K b h.2 s' ∧ Rest h.2 s' ∧ Ev 8 "first_seat" [p.enc, .int i] s'.enc := by
  obtain ⟨s', h1, h2, h3⟩ := rested_ok hp e (b := b) (s := ⟨0, [], []⟩) ⟨Nat.zero_le _, fun _ h => (by cases h), fun _ h => (by cases h), Nat.zero_le _⟩
  refine ⟨s', h1, h2, Ev.intro (fn := f_first_seat) rfl rfl fun n hn M c Q X q => ?_⟩
  simp only [f_first_seat, b_first_seat]
  walk_at "ms"
  refine ⟨by rw [line_val]; decide, by rw [line_val]; decide, by rw [line_val]; decide, ?_⟩
  exact h3 n (by omega) M c _ _ (gc_l q)
/-! ### touches -/
inductive Tc where
  | get (t : String) | put (t : String) (v : Int) | take (t : String) | free (t : String) | send (t : String) (v : Int) | fetch (t : String) | say (t : String) (v : Int) | hear (t : String) | clock | lot (m : Int)
def Tc.kind : Tc → String
  | .get _ => "get" | .put _ _ => "put" | .take _ => "take" | .free _ => "free" | .send _ _ => "send" | .fetch _ => "fetch" | .say _ _ => "say" | .hear _ => "hear" | .clock => "clock" | .lot _ => "lot"
def Tc.thing : Tc → String
  | .get t => t | .put t _ => t | .take t => t | .free t => t | .send t _ => t | .fetch t => t | .say t _ => t | .hear t => t | .clock => "" | .lot _ => ""
def Tc.val : Tc → D
  | .put _ v => .int v | .send _ v => .int v | .say _ v => .int v | .lot v => .int v | _ => .non
def Tc.enc (t : Tc) : D := .tup [.str t.kind, .str t.thing, t.val]
def rv (v : Int) : Prop := 0 ≤ v ∧ v < 1000
/-- what row a touch is of -/
def Tc.of (p : Pg) : Tc → Rw → Prop
  | .get t, r => t ∈ p.boxes.map (·.1) ∧ ∃ k, r = .get k t
  | .put t v, r => t ∈ p.boxes.map (·.1) ∧ rv v ∧ ∃ s, r = .put t s
  | .take t, r => t ∈ p.locks ∧ r = .take t
  | .free t, r => t ∈ p.locks ∧ r = .free t
  | .send t v, r => t ∈ p.lanes ∧ rv v ∧ ∃ s, r = .send t s
  | .fetch t, r => t ∈ p.lanes ∧ ∃ k, r = .fetch k t
  | .say t v, r => t ∈ p.doors ∧ rv v ∧ ∃ s, r = .say t s
  | .hear t, r => t ∈ p.doors ∧ ∃ k, r = .hear k t
  | .clock, r => ∃ k, r = .clock k
  | .lot m, r => 0 < m ∧ m ≤ 1000 ∧ ∃ k, r = .lot k m
def optT : Option Tc → D
  | none => .non
  | some t => t.enc
theorem in_told (M : Me) (s : String) : cmp M .isin (.str s) (.tup [.str "put", .str "send", .str "say"]) = some (decide (s ∈ ["put", "send", "say"])) := in_strs_t M ["put", "send", "say"] s
theorem in_given (M : Me) (s : String) : cmp M .isin (.str s) (.tup [.str "get", .str "fetch", .str "clock", .str "lot", .str "hear"]) = some (decide (s ∈ ["get", "fetch", "clock", "lot", "hear"])) := in_strs_t M ["get", "fetch", "clock", "lot", "hear"] s
theorem touch_of_ok {p : Pg} {K : List String} (hp : Wp p K) {i : Nat} {h : String × List Rw} (e : p.hands[i]? = some h) {b : Nat} {s : Seat} (hs : St K b h.2 s) (hr : Rest h.2 s) :
    ∃ o : Option Tc, (∀ t, o = some t → ∃ r, h.2[s.num]? = some r ∧ t.of p r) ∧ Ev 7 "touch_of" [p.enc, .int i, s.enc] (optT o) := by
  have hm : h ∈ p.hands := List.mem_of_getElem? e
  rcases hr with hr | ⟨r, hr, ht⟩
  · refine ⟨none, fun _ h => (by cases h), Ev.intro (fn := f_touch_of) rfl rfl fun n hn M c Q X q => ?_⟩
    simp only [f_touch_of, b_touch_of]
    walk_at "ms"
    refine rows_of_ok p e n (by omega) M c _ _ ?_
    simp only [encRs, Seat.enc]
    walk_at "ms"
    have : decide ((s.num : Int) = ((h.2.map Rw.enc).length : Int)) = true := decide_eq_true (by simp [hr])
    rw [this]
    walk_at "ms"
    exact gc_l q
  · have hlt : s.num < h.2.length := by
      rcases Nat.lt_or_ge s.num h.2.length with h | h
      · exact h
      · rw [List.getElem?_eq_none h] at hr; cases hr
    have ok := (hp.ok.rows h hm).2 r (List.mem_of_getElem? hr)
    have pre : ∀ o : Option Tc, (∀ n, 6 ≤ n → ∀ M, Cl M → ∀ (Q : QD) (X : QX), Q (optT o) M → wSs cn (callN cn n) (match b_touch_of with | .cons _ (.cons _ (.cons _ r)) => r | _ => .nil) [some p.enc, some (.int i), some s.enc, some (encRs h.2), some r.enc] M { nx := fun _ M' => gcQ M.length Q .non M', rt := gcQ M.length Q, bk := fun _ _ => False, ct := fun _ _ => False, ex := fun x _ M' => X x M' }) → Ev 7 "touch_of" [p.enc, .int i, s.enc] (optT o) := fun o H => Ev.intro (fn := f_touch_of) rfl rfl fun n hn M c Q X q => by
      have H' := H n hn M c Q X q
      simp only [f_touch_of, b_touch_of]
      walk_at "ms"
      refine rows_of_ok p e n (by omega) M c _ _ ?_
      simp only [encRs, Seat.enc, b_touch_of] at H' ⊢
      walk_at "ms"
      have : decide ((s.num : Int) = ((h.2.map Rw.enc).length : Int)) = false := decide_eq_false (by simp; omega)
      rw [this]
      walk_at "ms"
      rw [pix_nat, List.getElem?_map, hr, Option.map_some]
      walk_at "ms"
      rw [frz_rw]
      exact H'
    have ln : 3 ≤ line := by rw [line_val]; decide
    have told : ∀ (k : String) (t : String) (su : Su) (mk : Int → Tc), r.enc = .tup [.str k, .str t, su.enc] → k ∈ ["put", "send", "say"] → (∀ v, (mk v).enc = .tup [.str k, .str t, .int v]) → su.fine → (∀ v, rv v → (mk v).of p r) →
        ∃ o : Option Tc, (∀ t, o = some t → ∃ r, h.2[s.num]? = some r ∧ t.of p r) ∧ Ev 7 "touch_of" [p.enc, .int i, s.enc] (optT o) := fun k t su mk e1 e2 e3 e4 e5 => by
      obtain ⟨v, hv, ev⟩ := worth_ok s.ps hs.2.1 su e4.1
      refine ⟨some (mk v), fun t h => ?_, pre _ fun n hn M c Q X q => ?_⟩
      · cases h; exact ⟨r, hr, e5 v hv⟩
      · simp only [b_touch_of, Seat.enc, e1]
        walk_at "ms"
        rw [in_told, decide_eq_true e2]
        walk_at "ms"
        refine ev n (by have := e4.2; omega) M c _ _ ?_
        walk_at "ms"
        refine ⟨ln, gc_l ?_⟩
        simp only [optT, e3] at q
        exact q
    have plain : ∀ (o : Tc), (∀ n, 6 ≤ n → ∀ M, Cl M → ∀ (Q : QD) (X : QX), Q o.enc M → wSs cn (callN cn n) (match b_touch_of with | .cons _ (.cons _ (.cons _ r)) => r | _ => .nil) [some p.enc, some (.int i), some s.enc, some (encRs h.2), some r.enc] M { nx := fun _ M' => gcQ M.length Q .non M', rt := gcQ M.length Q, bk := fun _ _ => False, ct := fun _ _ => False, ex := fun x _ M' => X x M' }) → o.of p r →
        ∃ o : Option Tc, (∀ t, o = some t → ∃ r, h.2[s.num]? = some r ∧ t.of p r) ∧ Ev 7 "touch_of" [p.enc, .int i, s.enc] (optT o) := fun o H ho =>
      ⟨some o, fun t h => by cases h; exact ⟨r, hr, ho⟩, pre _ H⟩
    cases r with
    | lett _ _ => exact ht.elim
    | leap _ _ => exact ht.elim
    | put t su => exact told "put" t su (.put t) rfl (by simp) (fun _ => rfl) ok.2 fun v hv => ⟨ok.1, hv, _, rfl⟩
    | send t su => exact told "send" t su (.send t) rfl (by simp) (fun _ => rfl) ok.2 fun v hv => ⟨ok.1, hv, _, rfl⟩
    | say t su => exact told "say" t su (.say t) rfl (by simp) (fun _ => rfl) ok.2 fun v hv => ⟨ok.1, hv, _, rfl⟩
    | get k t =>
      refine plain (.get t) (fun n hn M c Q X q => ?_) ⟨ok, _, rfl⟩
      simp only [b_touch_of, Seat.enc, Rw.enc]
      walk_at "ms"
      rw [in_told, decide_eq_false (by decide)]
      walk_at "ms"
      exact ⟨ln, gc_l q⟩
    | fetch k t =>
      refine plain (.fetch t) (fun n hn M c Q X q => ?_) ⟨ok, _, rfl⟩
      simp only [b_touch_of, Seat.enc, Rw.enc]
      walk_at "ms"
      rw [in_told, decide_eq_false (by decide)]
      walk_at "ms"
      exact ⟨ln, gc_l q⟩
    | hear k t =>
      refine plain (.hear t) (fun n hn M c Q X q => ?_) ⟨ok, _, rfl⟩
      simp only [b_touch_of, Seat.enc, Rw.enc]
      walk_at "ms"
      rw [in_told, decide_eq_false (by decide)]
      walk_at "ms"
      exact ⟨ln, gc_l q⟩
    | take t =>
      refine plain (.take t) (fun n hn M c Q X q => ?_) ⟨ok, rfl⟩
      simp only [b_touch_of, Seat.enc, Rw.enc]
      walk_at "ms"
      rw [in_told, decide_eq_false (by decide)]
      walk_at "ms"
      exact ⟨ln, gc_l q⟩
    | free t =>
      refine plain (.free t) (fun n hn M c Q X q => ?_) ⟨ok, rfl⟩
      simp only [b_touch_of, Seat.enc, Rw.enc]
      walk_at "ms"
      rw [in_told, decide_eq_false (by decide)]
      walk_at "ms"
      exact ⟨ln, gc_l q⟩
    | clock k =>
      refine plain .clock (fun n hn M c Q X q => ?_) ⟨_, rfl⟩
      simp only [b_touch_of, Seat.enc, Rw.enc]
      walk_at "ms"
      rw [in_told, decide_eq_false (by decide)]
      walk_at "ms"
      exact ⟨ln, gc_l q⟩
    | lot k m =>
      refine plain (.lot m) (fun n hn M c Q X q => ?_) ⟨ok.1, ok.2, _, rfl⟩
      simp only [b_touch_of, Seat.enc, Rw.enc]
      walk_at "ms"
      rw [in_told, decide_eq_false (by decide)]
      walk_at "ms"
      exact ⟨ln, gc_l q⟩

theorem srt_len (ks : List String) : (srt ks).length = ks.length := by
  unfold srt
  split
  · rename_i h
    exact (Classical.choose_spec h).1.length_eq
  · rfl
/-- what a touch may bring -/
def Came (t : Tc) (d : D) : Prop := match t with
  | .get _ => ∃ v, d = .int v ∧ rv v
  | .fetch _ => ∃ v, d = .int v ∧ rv v
  | .hear _ => ∃ v, d = .int v ∧ rv v
  | .clock => ∃ v, d = .int v ∧ rv v
  | .lot _ => ∃ v, d = .int v ∧ rv v
  | _ => d = .non
theorem seat_behind_ok {p : Pg} {K : List String} (hp : Wp p K) {i : Nat} {h : String × List Rw} (e : p.hands[i]? = some h) {b : Nat} (hb : b < 1000) {s : Seat} (hs : St K b h.2 s) {r : Rw} (hr : h.2[s.num]? = some r) {t : Tc} (ht : t.of p r) {d : D} (hd : Came t d) :
    ∃ s', St K (b + 1) h.2 s' ∧ Rest h.2 s' ∧ Ev 8 "seat_behind" [p.enc, .int i, s.enc, d] s'.enc := by
  have hm : h ∈ p.hands := List.mem_of_getElem? e
  have hlt : s.num < h.2.length := by
    rcases Nat.lt_or_ge s.num h.2.length with h | h
    · exact h
    · rw [List.getElem?_eq_none h] at hr; cases hr
  have hmr := List.mem_of_getElem? hr
  have pk := hp.pk h hm r hmr
  obtain ⟨s1, s2, s3, s4⟩ := hs
  have hn1 : ((s.num : Int) + 1) = ((s.num + 1 : Nat) : Int) := by omega
  have ln : 3 ≤ line := by rw [line_val]; decide
  have given : ∀ (k t0 : String) (x : D) (v : Int), r.enc = .tup [.str k, .str t0] ∨ r.enc = .tup [.str k, .str t0, x] → k ∈ ["get", "fetch", "clock", "lot", "hear"] → t0 ∈ K → d = .int v → rv v → ∃ s', St K (b + 1) h.2 s' ∧ Rest h.2 s' ∧ Ev 8 "seat_behind" [p.enc, .int i, s.enc, d] s'.enc := fun k t0 x v he hk ht0 hd hv => by
    obtain ⟨ps', k1, k2, k3⟩ := laid_in_ok s2 s3 hp.len ht0 hv
    obtain ⟨s', g1, g2, g3⟩ := rested_ok hp e (b := b + 1) (s := ⟨s.num + 1, ps', s.held⟩) ⟨hlt, k1, k2, by show s.held.length ≤ _; omega⟩
    refine ⟨s', g1, g2, Ev.intro (fn := f_seat_behind) rfl rfl fun n hn M c Q X q => ?_⟩
    subst hd
    simp only [f_seat_behind, b_seat_behind, Seat.enc]
    walk_at "ms"
    refine rows_of_ok p e n (by omega) M c _ _ ?_
    simp only [encRs]
    walk_at "ms"
    rw [pix_nat, List.getElem?_map, hr, Option.map_some]
    walk_at "ms"
    rw [frz_rw]
    rcases he with he | he <;>
    · rw [he]
      walk_at "ms"
      rw [in_given, decide_eq_true hk]
      walk_at "ms"
      refine k3 n (by omega) M c _ _ ?_
      walk_at "ms"
      refine ⟨ln, ?_⟩
      rw [hn1]
      exact g3 n (by omega) M c _ _ (gc_l q)
  have plain : ∀ (k t0 : String) (x : D), r.enc = .tup [.str k, .str t0, x] → k ∉ ["get", "fetch", "clock", "lot", "hear"] → k ≠ "take" → k ≠ "free" → d = .non → ∃ s', St K (b + 1) h.2 s' ∧ Rest h.2 s' ∧ Ev 8 "seat_behind" [p.enc, .int i, s.enc, d] s'.enc := fun k t0 x he hk h1 h2 hd => by
    obtain ⟨s', g1, g2, g3⟩ := rested_ok hp e (b := b + 1) (s := ⟨s.num + 1, s.ps, s.held⟩) ⟨hlt, s2, s3, by show s.held.length ≤ _; omega⟩
    refine ⟨s', g1, g2, Ev.intro (fn := f_seat_behind) rfl rfl fun n hn M c Q X q => ?_⟩
    subst hd
    simp only [f_seat_behind, b_seat_behind, Seat.enc]
    walk_at "ms"
    refine rows_of_ok p e n (by omega) M c _ _ ?_
    simp only [encRs]
    walk_at "ms"
    rw [pix_nat, List.getElem?_map, hr, Option.map_some]
    walk_at "ms"
    rw [frz_rw, he]
    walk_at "ms"
    rw [in_given, decide_eq_false hk]
    walk_at "ms"
    rw [decide_eq_false h1]
    walk_at "ms"
    rw [decide_eq_false h2]
    walk_at "ms"
    refine ⟨ln, ?_⟩
    rw [hn1]
    exact g3 n (by omega) M c _ _ (gc_l q)
  cases t with
  | get t0 =>
    obtain ⟨_, k, rfl⟩ := ht
    obtain ⟨v, h1, h2⟩ := hd
    exact given "get" k (.str t0) v (.inr rfl) (by simp) (pk k List.mem_cons_self) h1 h2
  | fetch t0 =>
    obtain ⟨_, k, rfl⟩ := ht
    obtain ⟨v, h1, h2⟩ := hd
    exact given "fetch" k (.str t0) v (.inr rfl) (by simp) (pk k List.mem_cons_self) h1 h2
  | hear t0 =>
    obtain ⟨_, k, rfl⟩ := ht
    obtain ⟨v, h1, h2⟩ := hd
    exact given "hear" k (.str t0) v (.inr rfl) (by simp) (pk k List.mem_cons_self) h1 h2
  | clock =>
    obtain ⟨k, rfl⟩ := ht
    obtain ⟨v, h1, h2⟩ := hd
    exact given "clock" k .non v (.inl rfl) (by simp) (pk k List.mem_cons_self) h1 h2
  | lot m =>
    obtain ⟨_, _, k, rfl⟩ := ht
    obtain ⟨v, h1, h2⟩ := hd
    exact given "lot" k (.int m) v (.inr rfl) (by simp) (pk k List.mem_cons_self) h1 h2
  | put t0 v =>
    obtain ⟨_, _, su, rfl⟩ := ht
    exact plain "put" t0 su.enc rfl (by decide) (by decide) (by decide) hd
  | send t0 v =>
    obtain ⟨_, _, su, rfl⟩ := ht
    exact plain "send" t0 su.enc rfl (by decide) (by decide) (by decide) hd
  | say t0 v =>
    obtain ⟨_, _, su, rfl⟩ := ht
    exact plain "say" t0 su.enc rfl (by decide) (by decide) (by decide) hd
  | take t0 =>
    obtain ⟨_, rfl⟩ := ht
    obtain ⟨s', g1, g2, g3⟩ := rested_ok hp e (b := b + 1) (s := ⟨s.num + 1, s.ps, srt (s.held ++ [t0])⟩) ⟨hlt, s2, s3, by show (srt _).length ≤ _; rw [srt_len]; simp; omega⟩
    refine ⟨s', g1, g2, Ev.intro (fn := f_seat_behind) rfl rfl fun n hn M c Q X q => ?_⟩
    simp only [f_seat_behind, b_seat_behind, Seat.enc]
    walk_at "ms"
    refine rows_of_ok p e n (by omega) M c _ _ ?_
    simp only [encRs]
    walk_at "ms"
    rw [pix_nat, List.getElem?_map, hr, Option.map_some]
    simp only [Rw.enc]
    walk_at "ms"
    rw [in_given, decide_eq_false (by decide)]
    simp only [encS]
    walk_at "ms"
    refine ⟨by rw [line_val]; decide, ?_⟩
    rw [bin_add_tup _ (by simp; rw [line_val]; omega)]
    walk_at "ms"
    have es : wBi M .sorted [.tup (s.held.map D.str ++ [.str t0])] = fun Q => wSort (.inl (s.held ++ [t0])) fun d => Q d M := by
      funext Q
      show opt (srtL (s.held.map D.str ++ [.str t0])) _ = _
      have : (s.held.map D.str ++ [.str t0]) = (s.held ++ [t0]).map D.str := by simp
      rw [this]
      unfold srtL
      rw [strs_map]
      rfl
    rw [es]
    intro ys hys
    rw [srt_eq hys]
    walk_at "ms"
    refine ⟨ln, ?_⟩
    rw [hn1]
    exact g3 n (by omega) M c _ _ (gc_l q)
  | free t0 =>
    obtain ⟨_, rfl⟩ := ht
    obtain ⟨s', g1, g2, g3⟩ := rested_ok hp e (b := b + 1) (s := ⟨s.num + 1, s.ps, s.held.filter fun l => l ≠ t0⟩) ⟨hlt, s2, s3, by show (s.held.filter _).length ≤ _; have := List.length_filter_le (fun l => decide (l ≠ t0)) s.held; omega⟩
    refine ⟨s', g1, g2, Ev.intro (fn := f_seat_behind) rfl rfl fun n hn M c Q X q => ?_⟩
    simp only [f_seat_behind, b_seat_behind, Seat.enc]
    walk_at "ms"
    refine rows_of_ok p e n (by omega) M c _ _ ?_
    simp only [encRs]
    walk_at "ms"
    rw [pix_nat, List.getElem?_map, hr, Option.map_some]
    simp only [Rw.enc]
    walk_at "ms"
    rw [in_given, decide_eq_false (by decide)]
    simp only [encS]
    walk_at "ms"
    refine wLc_filter (fun x => match x with
      | .str l => if l ≠ t0 then some (.str l) else none
      | _ => none) (ok_none _ _) _ _ (fun x hx R hR => ?_) (by rw [List.length_map]; simp; rw [line_val]; omega) ?_
    · obtain ⟨l, hl, rfl⟩ := List.mem_map.mp hx
      walk_at "ms"
      by_cases h0 : l = t0
      · rw [decide_eq_true h0]
        simp only [h0] at hR ⊢
        walk_at "ms"
        simpa using hR
      · rw [decide_eq_false h0]
        simp only [ne_eq, h0, not_false_eq_true, if_true] at hR
        walk_at "ms"
        exact hR
    · walk_at "ms"
      have : ([] ++ List.filterMap (fun x => Option.map frz (match x with
        | .str l => if l ≠ t0 then some (.str l) else none
        | _ => none)) (s.held.map D.str)) = (s.held.filter fun l => l ≠ t0).map D.str := by
        rw [List.nil_append, List.filterMap_map]
        induction s.held with
        | nil => rfl
        | cons a r ih =>
          rw [List.filterMap_cons, List.filter_cons, ih]
          by_cases h0 : a = t0 <;> simp [h0, frz]
      rw [List.nil_append] at this
      rw [this]
      refine ⟨ln, ?_⟩
      rw [hn1]
      exact g3 n (by omega) M c _ _ (gc_l q)

structure Sd where
  cs : List Int
  ss : List Seat
  bx : List (Int × D)
  lk : List (D × D)
  ln : List (Int × Int × List Int)
  dr : List Int
def eB (b : Int × D) : D := .tup [.int b.1, b.2]
def eL (b : D × D) : D := .tup [b.1, b.2]
def eN (b : Int × Int × List Int) : D := .tup [.int b.1, .int b.2.1, .tup (b.2.2.map .int)]
def eI (l : List Int) : D := .tup (l.map .int)
def Sd.enc (s : Sd) : D := .tup [eI s.cs, .tup (s.ss.map Seat.enc), .tup (s.bx.map eB), .tup (s.lk.map eL), .tup (s.ln.map eN), eI s.dr]
theorem frz_sd (s : Sd) : frz s.enc = s.enc := rfl
def c0 (d : D) : Prop := clsD 0 d = true
theorem c0_frz {d : D} (h : c0 d) : c0 (frz d) := by cases d <;> exact h
structure SdOk (p : Pg) (K : List String) (b : Nat) (sd : Sd) : Prop where
  csl : sd.cs.length = p.hands.length
  ssl : sd.ss.length = p.hands.length
  ss : ∀ (i : Nat) (s : Seat) (h : String × List Rw), sd.ss[i]? = some s → p.hands[i]? = some h → St K b h.2 s ∧ Rest h.2 s
  bxl : sd.bx.length = p.boxes.length
  bx : ∀ b ∈ sd.bx, rv b.1 ∧ c0 b.2
  lkl : sd.lk.length = p.locks.length
  lk : ∀ b ∈ sd.lk, c0 b.1 ∧ c0 b.2
  lnl : sd.ln.length = p.lanes.length
  ln : ∀ l ∈ sd.ln, (∀ x ∈ l.2.2, rv x) ∧ l.2.2.length ≤ b
  drl : sd.dr.length = p.doors.length
theorem sl_tup (M : Me) (xs : List D) (lo hi : Option Int) : slOf M (.tup xs) lo hi = some (.tup (cutL xs lo hi)) := rfl
theorem int_of (i : Int) : intOf (.int i) = some i := rfl
theorem cut3_2 (a b c : D) : cutL [a, b, c] none (some 2) = [a, b] := rfl
theorem cut6_2 (a b c d e f : D) : cutL [a, b, c, d, e, f] none (some 2) = [a, b] := rfl
theorem cut6_4 (a b c d e f : D) : cutL [a, b, c, d, e, f] (some 2) none = [c, d, e, f] := rfl
theorem line3 : 3 ≤ line := by rw [line_val]; decide
theorem line9 {n : Nat} (h : n ≤ 9) : n ≤ line := by rw [line_val]; omega
theorem isN_frz (d : D) : isN (frz d) = isN d := by cases d <;> rfl
theorem isN_non_iff {d : D} (h : isN d = true) : d = .non := by cases d <;> first | rfl | cases h
theorem eqv_nil (M : Me) (l : List Int) : cmp M .eq (.tup (l.map .int)) (.tup []) = some l.isEmpty := by
  have : ∀ (k : Nat) (l : List Int), plns k (l.map .int) = true := fun k l => by
    induction l with
    | nil => rfl
    | cons a r ih => exact ih
  show (if plns 59 (l.map .int) = true ∧ true = true then some (D.eqvs (l.map .int) []) else none) = _
  rw [if_pos ⟨this _ l, rfl⟩]
  cases l <;> rfl
/-- a hand that may go -/
structure Go (p : Pg) (sd : Sd) (i : Nat) (s : Seat) (h : String × List Rw) (t : Tc) : Prop where
  ev : Ev 7 "touch_of" [p.enc, .int i, s.enc] t.enc
  rw_ : ∃ r, h.2[s.num]? = some r ∧ t.of p r
  ft : ∀ l, t = .fetch l → ∃ (j : Nat) (a f x : Int) (ys : List Int), Ev 3 "number_of" [p.enc, .str "lane", .str l] (.int j) ∧ sd.ln[j]? = some (a, f, x :: ys)
theorem wait_of_ok {p : Pg} {K : List String} (hp : Wp p K) {b : Nat} {sd : Sd} (hd : SdOk p K b sd) {i : Nat} {h : String × List Rw} {s : Seat} (e : p.hands[i]? = some h) (es : sd.ss[i]? = some s) :
    ∃ d, Ev 8 "wait_of" [p.enc, sd.enc, .int i] d ∧ frz d = d ∧ (d = .non → ∃ t, Go p sd i s h t) := by
  obtain ⟨hs, hr⟩ := hd.ss i s h es e
  obtain ⟨o, ho, ev⟩ := touch_of_ok hp e hs hr
  have hix : pix (sd.ss.map Seat.enc) (i : Int) = some s.enc := by
    rw [pix_nat, List.getElem?_map, es]; rfl
  have hp1 : frz p.enc = p.enc := rfl
  cases o with
  | none =>
    refine ⟨.str "end", Ev.intro (fn := f_wait_of) rfl rfl fun n hn M c Q X q => ?_, rfl, fun h => (by cases h)⟩
    simp only [f_wait_of, b_wait_of, Sd.enc]
    walk_at "ms"
    rw [hix, hp1]
    walk_at "ms"
    rw [frz_seat]
    refine ev n (by omega) M c _ _ ?_
    simp only [optT]
    walk_at "ms"
    exact gc_l q
  | some t =>
    obtain ⟨r, hr1, hr2⟩ := ho t rfl
    have plain : t.kind ≠ "take" → t.kind ≠ "fetch" → ∃ d, Ev 8 "wait_of" [p.enc, sd.enc, .int i] d ∧ frz d = d ∧ (d = .non → ∃ t, Go p sd i s h t) := fun h1 h2 => by
      refine ⟨.non, Ev.intro (fn := f_wait_of) rfl rfl fun n hn M c Q X q => ?_, rfl, fun _ => ⟨t, ev, ⟨r, hr1, hr2⟩, fun l hl => ?_⟩⟩
      · simp only [f_wait_of, b_wait_of, Sd.enc]
        walk_at "ms"
        rw [hix, hp1]
        walk_at "ms"
        rw [frz_seat]
        refine ev n (by omega) M c _ _ ?_
        simp only [optT, Tc.enc]
        walk_at "ms"
        simp only [int_of]
        walk_at "ms"
        simp only [sl_tup, cut3_2]
        walk_at "ms"
        rw [decide_eq_false h1, decide_eq_false h2]
        walk_at "ms"
        exact gc_l q
      · rw [hl] at h2; exact absurd rfl h2
    cases t with
    | take l =>
      obtain ⟨j, ⟨hj, _⟩, ej⟩ := number_of_ok hp.ok (so := "lock") (by simp) (s := l) hr2.1
      have hj' : j < sd.lk.length := by rw [hd.lkl]; exact hj
      have hlk : sd.lk[j]? = some sd.lk[j] := List.getElem?_eq_getElem hj'
      generalize sd.lk[j] = kk at hlk
      by_cases hn0 : isN kk.1 = true
      · refine ⟨.non, Ev.intro (fn := f_wait_of) rfl rfl fun n hn M c Q X q => ?_, rfl, fun _ => ⟨_, ev, ⟨r, hr1, hr2⟩, fun l hl => by cases hl⟩⟩
        simp only [f_wait_of, b_wait_of, Sd.enc]
        walk_at "ms"
        rw [hix, hp1]
        walk_at "ms"
        rw [frz_seat]
        refine ev n (by omega) M c _ _ ?_
        simp only [optT, Tc.enc, Tc.kind, Tc.thing]
        walk_at "ms"
        simp only [int_of]
        walk_at "ms"
        simp only [sl_tup, cut3_2]
        walk_at "ms"
        refine ej n (by omega) M c _ _ ?_
        walk_at "ms"
        rw [pix_nat, List.getElem?_map, hlk]
        simp only [Option.map_some, eL]
        walk_at "ms"
        rw [isN_frz, hn0]
        walk_at "ms"
        exact gc_l q
      · refine ⟨.tup [.str "lock", .str l, frz kk.1], Ev.intro (fn := f_wait_of) rfl rfl fun n hn M c Q X q => ?_, rfl, fun h => by cases h⟩
        simp only [f_wait_of, b_wait_of, Sd.enc]
        walk_at "ms"
        rw [hix, hp1]
        walk_at "ms"
        rw [frz_seat]
        refine ev n (by omega) M c _ _ ?_
        simp only [optT, Tc.enc, Tc.kind, Tc.thing]
        walk_at "ms"
        simp only [int_of]
        walk_at "ms"
        simp only [sl_tup, cut3_2]
        walk_at "ms"
        refine ej n (by omega) M c _ _ ?_
        walk_at "ms"
        rw [pix_nat, List.getElem?_map, hlk]
        simp only [Option.map_some, eL]
        walk_at "ms"
        rw [isN_frz, (Bool.not_eq_true _).mp hn0]
        walk_at "ms"
        have : frz (frz kk.1) = frz kk.1 := by cases kk.1 <;> rfl
        rw [this]
        exact ⟨line3, gc_l q⟩
    | fetch l =>
      obtain ⟨j, ⟨hj, _⟩, ej⟩ := number_of_ok hp.ok (so := "lane") (by simp) (s := l) hr2.1
      have hj' : j < sd.ln.length := by rw [hd.lnl]; exact hj
      have hln : sd.ln[j]? = some sd.ln[j] := List.getElem?_eq_getElem hj'
      generalize sd.ln[j] = kk at hln
      obtain ⟨ka, kf, kl⟩ := kk
      have pre : ∀ (d : D), (∀ n M (Q : QD) (X : QX), Q d M → br kl.isEmpty (wE cn (callN cn n) (.tup (.cons (.c (.str "letter")) (.cons (.v 5) .nil))) [some p.enc, some sd.enc, some (.int i), some (optT (some (.fetch l))), some (.str "fetch"), some (.str l), none] M (gcQ M.length Q) fun x M' => X x M') (gcQ M.length Q .non M)) → Ev 8 "wait_of" [p.enc, sd.enc, .int i] d := fun d H => Ev.intro (fn := f_wait_of) rfl rfl fun n hn M c Q X q => by
        have H' := H n M Q X q
        simp only [f_wait_of, b_wait_of, Sd.enc, optT, Tc.enc, Tc.kind, Tc.thing] at H' ⊢
        walk_at "ms"
        rw [hix, hp1]
        walk_at "ms"
        rw [frz_seat]
        refine ev n (by omega) M c _ _ ?_
        simp only [optT, Tc.enc, Tc.kind, Tc.thing]
        walk_at "ms"
        simp only [int_of]
        walk_at "ms"
        simp only [sl_tup, cut3_2]
        walk_at "ms"
        refine ej n (by omega) M c _ _ ?_
        walk_at "ms"
        rw [pix_nat, List.getElem?_map, hln]
        simp only [Option.map_some, eN]
        walk_at "ms"
        refine ⟨line9 (by simp), ?_⟩
        rw [eqv_nil]
        simp only [wE, wEs, get0, getS, opt_some, frz_str] at H'
        walk_at "ms"
        exact H'
      cases kl with
      | nil =>
        refine ⟨.tup [.str "letter", .str l], pre _ fun n M Q X q => ?_, rfl, fun h => by cases h⟩
        simp only [List.isEmpty_nil]
        walk_at "ms"
        exact ⟨line9 (by simp), gc_l q⟩
      | cons x ys =>
        refine ⟨.non, pre _ fun n M Q X q => ?_, rfl, fun _ => ⟨_, ev, ⟨r, hr1, hr2⟩, fun l' hl => ?_⟩⟩
        · simp only [List.isEmpty_cons]
          walk_at "ms"
          exact gc_l q
        · cases hl
          exact ⟨j, ka, kf, x, ys, ej, hln⟩
    | _ => exact plain (by simp [Tc.kind]) (by simp [Tc.kind])

instance : Inhabited Seat := ⟨⟨0, [], []⟩⟩
theorem wI_of (C : Cn) (F : Or) (e : E) (σ : Sg) (M : Me) (Q : It → Me → Prop) (X : QX) : wI C F (.of e) σ M Q X = wE C F e σ M (fun x M1 => opt (itOf M1 x) fun J => Q J M1) X := rfl
theorem wI_enum (C : Cn) (F : Or) (e : E) (σ : Sg) (M : Me) (Q : It → Me → Prop) (X : QX) : wI C F (.enum e) σ M Q X = wE C F e σ M (fun x M1 => opt (still x) fun p => Q ⟨enumL 0 p.2, none⟩ M1) X := rfl
theorem wI_zip (C : Cn) (F : Or) (a b : E) (σ : Sg) (M : Me) (Q : It → Me → Prop) (X : QX) : wI C F (.zip a b) σ M Q X = wE C F a σ M (fun x M1 => wE C F b σ M1 (fun y M2 => opt (zipO x y) fun J => Q J M2) X) X := rfl
/-- ms that leaves a range alone -/
local macro_rules | `(tactic| walk_at "mv") => `(tactic| try simp only [it_tup, it_fz, it_tl, it_str, isi_str, isi_tup, isi_int, isi_int_bool, asgO, Mp.wipes, Mp.wipe1, al_ref, al_tl, al_tup, zip0,
  wSs, wS, wE, wT, wEs, wEt, wO, wI_of, wI_enum, wI_zip, start_def, List.map_cons, List.map_nil, List.length_cons, List.length_nil, List.cons_append, List.nil_append, Nat.reduceAdd, Nat.reduceSub, List.replicate,
  get0, getS, set0, setS, ssets0, ssetsS, seq_tup, seq_fz, seq_tl, opt_some, Option.bind_some, Option.map_some, frz_int, frz_str, frz_tup, frz_ref, frz_tl, frz_fz, frz_non, frz_bl, cmp_eq_str, cmp_ne_str, cmp_eq_int, cmp_ne_int, cmp_is_non, cmp_isnot_non, cmp_lt, cmp_le, cmp_gt, cmp_ge, bin_add_int, bin_sub_int,
  ix_tup, ix_fz, ix_tl, pix0, pix1, pix2, pix3, pix4, tru_bl, isN_non, isN_bl, isN_int, isN_str, isN_tup, isN_fz, isN_tl, isN_ref, g_ROUND, g_MOST_LETTERS, g_MOST_OF_SORT, g_MOST_OWN_ROWS, g_VALUES, g_MOST_STEPS, g_LETTERS, g_SORTS, g_GIVEN_IN, g_TOLD_OUT, g_ASKING, wBi_int_bl, wBi_int_int, wBi_len_tup, wBi_len_fz, wBi_len_tl, wBi_tuple_tl, wBi_tuple_fz, wBi_list_tup, wBi_dict_tup,
  frz_enc, frz_encP, br_true, br_false, decide_true, decide_false, Bool.not_true, Bool.not_false, reduceCtorEq, String.reduceEq, decide_eq_true_eq])
def rgN (n : Nat) : List D := (List.range n).map fun (k : Nat) => .int (k : Int)
theorem rng_nat {n : Nat} (h : n ≤ 1000) : rngO (.int (n : Int)) = some ⟨rgN n, none⟩ := by
  unfold rngO
  simp only []
  rw [if_pos ⟨by omega, by omega⟩]
  unfold rngL rgN
  congr 2
  rw [show ((n : Int) - 0).toNat = n by omega]
  exact List.map_congr_left fun k _ => by rw [Int.zero_add]
theorem wI_rng {C : Cn} {k : Nat} {a : E} {σ : Sg} {M : Me} {Q : It → Me → Prop} {X : QX} (h : wE C (callN C k) a σ M (fun x M1 => ∃ n : Nat, x = .int (n : Int) ∧ n ≤ 1000 ∧ Q ⟨rgN n, none⟩ M1) X) : wI C (callN C k) (.rng a) σ M Q X := by
  show wE C (callN C k) a σ M (fun x M1 => opt (rngO x) fun J => Q J M1) X
  refine wE_mono (callN_mono C k) _ _ _ (fun x M1 hh => ?_) (fun _ _ h => h) h
  have h2 : ∃ n : Nat, rngO x = some ⟨rgN n, none⟩ ∧ Q ⟨rgN n, none⟩ M1 := by
    obtain ⟨n, e, h1, h2⟩ := hh
    exact ⟨n, by rw [e]; exact rng_nat h1, h2⟩
  obtain ⟨n, e, h2⟩ := h2
  rw [e]
  exact h2
theorem enum_nat : ∀ (l : List D) (k : Nat), enumL (k : Int) l = (l.zipIdx k).map fun q => .tup [.int (q.2 : Int), q.1]
  | [], _ => rfl
  | x :: r, k => by
    have := enum_nat r (k + 1)
    simp only [enumL, List.zipIdx_cons, List.map_cons]
    rw [← this]
    rfl
def Wd (p : Pg) (sd : Sd) (i : Nat) (d : D) : Prop := Ev 8 "wait_of" [p.enc, sd.enc, .int i] d ∧ frz d = d ∧ (d = .non → ∃ h s t, p.hands[i]? = some h ∧ sd.ss[i]? = some s ∧ Go p sd i s h t)
theorem wd_ex {p : Pg} {K : List String} (hp : Wp p K) {b : Nat} {sd : Sd} (hd : SdOk p K b sd) : ∃ f : Nat → D, ∀ i, i < p.hands.length → Wd p sd i (f i) := by
  refine exAll (P := fun i => i < p.hands.length) fun i hi => ?_
  have e := List.getElem?_eq_getElem hi
  have hi' : i < sd.ss.length := by rw [hd.ssl]; exact hi
  have es := List.getElem?_eq_getElem hi'
  obtain ⟨d, h1, h2, h3⟩ := wait_of_ok hp hd e es
  exact ⟨d, h1, h2, fun h => by
    obtain ⟨t, ht⟩ := h3 h
    exact ⟨_, _, t, e, es, ht⟩⟩
theorem waits_ok {p : Pg} {K : List String} (hp : Wp p K) {sd : Sd} {f : Nat → D} (hf : ∀ i, i < p.hands.length → Wd p sd i (f i)) : Ev 9 "waits" [p.enc, sd.enc] (.tup ((List.range p.hands.length).map f)) := by
  have h4 := hp.ok.h4
  refine Ev.intro (fn := f_waits) rfl rfl fun n hn M c Q X q => ?_
  simp only [f_waits, b_waits, Pg.enc]
  walk_at "mv"
  refine wI_rng ?_
  walk_at "ms"
  refine ⟨p.hands.length, by rw [List.length_map], by omega, ?_⟩
  refine wLc_map (fun d => match d with
    | .int k => f k.toNat
    | _ => .non) (ok_none _ _) _ _ (fun x hx R hR => ?_) (by simp [rgN]; rw [line_val]; omega) ?_
  · obtain ⟨k, hk, rfl⟩ := List.mem_map.mp hx
    have hk := List.mem_range.mp hk
    walk_at "ms"
    refine (hf k hk).1 n (by omega) M c _ _ ?_
    walk_at "ms"
    simpa using hR
  · walk_at "ms"
    have : (List.map (fun x => frz (match x with
      | .int k => f k.toNat
      | _ => .non)) (rgN p.hands.length)) = (List.range p.hands.length).map f := by
      unfold rgN
      rw [List.map_map]
      refine List.map_congr_left fun k hk => ?_
      have e : frz (f k) = f k := (hf k (List.mem_range.mp hk)).2.1
      simpa [Function.comp] using e
    refine gc_l ?_
    rw [← this] at q
    exact q
/-- the hands that may go -/
def mayL (p : Pg) (f : Nat → D) : List Nat := (List.range p.hands.length).filter fun i => isN (f i)
theorem can_go_ok {p : Pg} {K : List String} (hp : Wp p K) {sd : Sd} {f : Nat → D} (hf : ∀ i, i < p.hands.length → Wd p sd i (f i)) : Ev 10 "can_go" [p.enc, sd.enc] (.tl ((mayL p f).map fun (i : Nat) => .int (i : Int))) := by
  have h4 := hp.ok.h4
  refine Ev.intro (fn := f_can_go) rfl rfl fun n hn M c Q X q => ?_
  simp only [f_can_go, b_can_go]
  walk_at "ms"
  have hp1 : frz p.enc = p.enc := rfl
  rw [hp1, frz_sd]
  refine waits_ok hp hf n (by omega) M c _ _ ?_
  have hst : ∀ l, still (.tup l) = some (true, l) := fun _ => rfl
  rw [hst]
  walk_at "ms"
  have hen := enum_nat ((List.range p.hands.length).map f) 0
  have h0 : ((0 : Nat) : Int) = 0 := rfl
  rw [h0] at hen
  rw [hen]
  refine wLc_filter (fun d => match d with
    | .tup [k, w] => if isN w = true then some k else none
    | _ => none) (ok_none _ _) _ _ (fun x hx R hR => ?_) (by simp; rw [line_val]; omega) ?_
  · obtain ⟨⟨w, k⟩, hk, rfl⟩ := List.mem_map.mp hx
    walk_at "ms"
    cases hw : isN w
    · simp only [hw] at hR
      walk_at "ms"
      simpa using hR
    · simp only [hw] at hR
      walk_at "ms"
      simpa using hR
  · walk_at "ms"
    have : ∀ (l : List Nat) (k : Nat), (∀ j, j < l.length → l[j]? = some (k + j)) → List.filterMap (fun x => Option.map frz (match x with
      | .tup [k, w] => if isN w = true then some k else none
      | _ => none)) (((l.map f).zipIdx k).map fun q => D.tup [.int (q.2 : Int), q.1]) = (l.filter fun i => isN (f i)).map fun (i : Nat) => .int (i : Int) := fun l => by
      induction l with
      | nil => intro k hk; rfl
      | cons a r ih =>
        intro k hk
        have ha : a = k := by have := hk 0 (by simp); simpa using this
        subst ha
        have hr := ih (a + 1) fun j hj => by
          have := hk (j + 1) (by simp; omega)
          rw [List.getElem?_cons_succ] at this
          rw [this]
          congr 1
          omega
        rw [List.map_cons, List.zipIdx_cons, List.map_cons, List.filterMap_cons, List.filter_cons, hr]
        cases hw : isN (f a) <;> simp [hw, frz]
    have h2 := this (List.range p.hands.length) 0 fun j hj => by
      rw [List.length_range] at hj
      rw [List.getElem?_range hj, Nat.zero_add]
    refine gc_l ?_
    rw [← mayL] at h2
    rw [← h2] at q
    exact q
theorem first_stand_ok {p : Pg} {K : List String} (hp : Wp p K) : ∃ sd, SdOk p K 0 sd ∧ Ev 9 "first_stand" [p.enc] sd.enc := by
  obtain ⟨f, hf⟩ := exAll (P := fun i => i < p.hands.length) (R := fun i (s : Seat) => ∃ h, p.hands[i]? = some h ∧ St K 0 h.2 s ∧ Rest h.2 s ∧ Ev 8 "first_seat" [p.enc, .int i] s.enc) fun i hi => by
    have e := List.getElem?_eq_getElem hi
    obtain ⟨s, h1, h2, h3⟩ := first_seat_ok hp e 0
    exact ⟨s, _, e, h1, h2, h3⟩
  refine ⟨⟨p.hands.map fun _ => 0, (List.range p.hands.length).map f, p.boxes.map fun b => (b.2, .non), p.locks.map fun _ => (.non, .non), p.lanes.map fun _ => (0, 0, []), p.doors.map fun _ => 0⟩, ⟨by simp, by simp, ?_, by simp, ?_, by simp, ?_, by simp, ?_, by simp⟩, Ev.intro (fn := f_first_stand) rfl rfl fun n hn M c Q X q => ?_⟩
  · intro i s h e1 e2
    have hi : i < p.hands.length := by
      rcases Nat.lt_or_ge i p.hands.length with h | h
      · exact h
      · rw [List.getElem?_eq_none h] at e2; cases e2
    obtain ⟨h', e3, h1, h2, _⟩ := hf i hi
    rw [e3] at e2
    cases e2
    simp only [List.getElem?_map, List.getElem?_range hi, Option.map_some, Option.some.injEq] at e1
    subst e1
    exact ⟨h1, h2⟩
  · intro b hb
    obtain ⟨a, ha, rfl⟩ := List.mem_map.mp hb
    exact ⟨hp.ok.bx a ha, rfl⟩
  · intro b hb
    obtain ⟨a, ha, rfl⟩ := List.mem_map.mp hb
    exact ⟨rfl, rfl⟩
  · intro b hb
    obtain ⟨a, ha, rfl⟩ := List.mem_map.mp hb
    exact ⟨fun _ h => (by cases h), Nat.le_refl _⟩
  · have h4 := hp.ok.h4
    have b4 := hp.ok.b4
    have k4 := hp.ok.k4
    have l4 := hp.ok.l4
    have d4 := hp.ok.d4
    simp only [f_first_stand, b_first_stand, Pg.enc, encP, encS]
    walk_at "mv"
    refine wLc_map (fun _ => .int 0) (ok_none _ _) _ _ (fun x hx R hR => ?_) (by simp; rw [line_val]; omega) ?_
    · obtain ⟨k, hk, rfl⟩ := List.mem_map.mp hx
      walk_at "ms"
      exact hR
    walk_at "mv"
    refine wI_rng ?_
    walk_at "mv"
    refine ⟨p.hands.length, by rw [List.length_map], by omega, ?_⟩
    refine wLc_map (fun d => match d with
      | .int k => (f k.toNat).enc
      | _ => .non) (ok_none _ _) _ _ (fun x hx R hR => ?_) (by simp [rgN]; rw [line_val]; omega) ?_
    · obtain ⟨k, hk, rfl⟩ := List.mem_map.mp hx
      have hk := List.mem_range.mp hk
      obtain ⟨h', e3, h1, h2, h3⟩ := hf k hk
      walk_at "ms"
      refine h3 n (by omega) M c _ _ ?_
      walk_at "ms"
      simpa using hR
    walk_at "ms"
    refine wLc_map (fun d => match d with
      | .tup [_, v] => .tup [frz v, .non]
      | _ => .non) (ok_none _ _) _ _ (fun x hx R hR => ?_) (by simp; rw [line_val]; omega) ?_
    · obtain ⟨k, hk, rfl⟩ := List.mem_map.mp hx
      walk_at "ms"
      exact ⟨line9 (by simp), hR⟩
    walk_at "ms"
    refine wLc_map (fun d => .tup [.non, .non]) (ok_none _ _) _ _ (fun x hx R hR => ?_) (by simp; rw [line_val]; omega) ?_
    · obtain ⟨k, hk, rfl⟩ := List.mem_map.mp hx
      walk_at "ms"
      exact ⟨line9 (by simp), hR⟩
    walk_at "ms"
    refine wLc_map (fun d => .tup [.int 0, .int 0, .tup []]) (ok_none _ _) _ _ (fun x hx R hR => ?_) (by simp; rw [line_val]; omega) ?_
    · obtain ⟨k, hk, rfl⟩ := List.mem_map.mp hx
      walk_at "ms"
      exact ⟨line9 (by simp), line9 (by simp), hR⟩
    walk_at "ms"
    refine wLc_map (fun d => .int 0) (ok_none _ _) _ _ (fun x hx R hR => ?_) (by simp; rw [line_val]; omega) ?_
    · obtain ⟨k, hk, rfl⟩ := List.mem_map.mp hx
      walk_at "ms"
      exact hR
    walk_at "ms"
    refine ⟨line9 (by simp), gc_l ?_⟩
    simp only [Sd.enc, eI, List.map_map] at q
    simp only [List.map_map, rgN]
    exact q

theorem is_whole_ok (i : Int) : Ev 1 "is_whole" [.int i] (.bl true) := by
  refine Ev.intro (fn := f_is_whole) rfl rfl fun n hn M c Q X q => ?_
  simp only [f_is_whole, b_is_whole]
  walk_at "ms"
  exact gc_l q
def Gift (t : Tc) (g : D) : Prop := match t with
  | .clock => ∃ v, g = .int v ∧ rv v
  | .hear _ => ∃ v, g = .int v ∧ rv v
  | .lot m => ∃ v, g = .int v ∧ 0 ≤ v ∧ v < m
  | _ => g = .non
theorem g_VALUES' : cn.G "VALUES" = some (.int 1000) := rfl
theorem notin_asking (M : Me) (s : String) : cmp M .notin (.str s) (.tup [.str "clock", .str "lot", .str "hear"]) = some (!decide (s ∈ ["clock", "lot", "hear"])) := notin_strs_t M ["clock", "lot", "hear"] s
theorem takes_gift_ok {t : Tc} {g : D} (h : Gift t g) : Ev 2 "takes_gift" [t.enc, g] (.bl true) := by
  have asks : ∀ (k th : String) (x : D) (v m : Int), t.enc = .tup [.str k, .str th, x] → k ∈ ["clock", "lot", "hear"] → (k = "lot" → x = .int m) → (k ≠ "lot" → m = 1000) → g = .int v → 0 ≤ v → v < m → Ev 2 "takes_gift" [t.enc, g] (.bl true) := fun k th x v m e hk hl hn' hg h1 h2 => by
    subst hg
    refine Ev.intro (fn := f_takes_gift) rfl rfl fun n hn M c Q X q => ?_
    simp only [f_takes_gift, b_takes_gift, e]
    walk_at "ms"
    rw [notin_asking, decide_eq_true hk]
    walk_at "ms"
    have fin : ∀ (σ0 : Option D), wE cn (callN cn n) (.and (.call "is_whole" (.cons (.v 1) .nil)) (.ch .le .lt (.c (.int 0)) (.v 1) (.v 2))) [σ0, some (.int v), some (.int m)] M (gcQ M.length Q) (fun x M' => X x M') := fun σ0 => by
      walk_at "ms"
      refine is_whole_ok v n (by omega) M c _ _ ?_
      walk_at "ms"
      rw [decide_eq_true h1]
      walk_at "ms"
      rw [decide_eq_true h2]
      exact gc_l q
    by_cases h0 : k = "lot"
    · rw [decide_eq_true h0]
      rw [hl h0]
      have := fin (some (.tup [.str k, .str th, .int m]))
      simp only [wE, wEs, get0, getS, opt_some, frz_int] at this
      walk_at "ms"
      exact this
    · rw [decide_eq_false h0]
      have := fin (some (.tup [.str k, .str th, x]))
      rw [hn' h0] at this
      simp only [wE, wEs, get0, getS, opt_some, frz_int] at this
      walk_at "ms"
      exact this
  have plain : t.kind ∉ ["clock", "lot", "hear"] → g = .non → Ev 2 "takes_gift" [t.enc, g] (.bl true) := fun hk hg => by
    subst hg
    refine Ev.intro (fn := f_takes_gift) rfl rfl fun n hn M c Q X q => ?_
    simp only [f_takes_gift, b_takes_gift, Tc.enc]
    walk_at "ms"
    rw [notin_asking, decide_eq_false hk]
    walk_at "ms"
    exact gc_l q
  cases t with
  | clock =>
    obtain ⟨v, h1, h2⟩ := h
    exact asks "clock" "" .non v 1000 rfl (by simp) (fun h => absurd h (by decide)) (fun _ => rfl) h1 h2.1 h2.2
  | hear l =>
    obtain ⟨v, h1, h2⟩ := h
    exact asks "hear" l .non v 1000 rfl (by simp) (fun h => absurd h (by decide)) (fun _ => rfl) h1 h2.1 h2.2
  | lot m =>
    obtain ⟨v, h1, h2, h3⟩ := h
    exact asks "lot" "" (.int m) v m rfl (by simp) (fun _ => rfl) (fun h => absurd rfl h) h1 h2 h3
  | _ => exact plain (by simp [Tc.kind]) h
theorem sEnd_nat (n d j : Nat) : sEnd n d (some (j : Int)) = min j n := by
  show (if (j : Int) < 0 then ((j : Int) + (n : Int)).toNat else min (j : Int).toNat n) = _
  rw [if_neg (by omega)]; rfl
theorem sEnd_none (n d : Nat) : sEnd n d none = d := rfl
theorem cut_take {α : Type} (xs : List α) (j : Nat) : cutL xs none (some (j : Int)) = xs.take j := by
  unfold cutL
  rw [sEnd_nat, sEnd_none, List.drop_zero, Nat.sub_zero]
  rcases Nat.lt_or_ge xs.length j with h | h
  · rw [Nat.min_eq_right (by omega), List.take_of_length_le (Nat.le_refl _), List.take_of_length_le (by omega)]
  · rw [Nat.min_eq_left h]
theorem cut_drop {α : Type} (xs : List α) (j : Nat) : cutL xs (some ((j : Int) + 1)) none = xs.drop (j + 1) := by
  unfold cutL
  have : ((j : Int) + 1) = ((j + 1 : Nat) : Int) := by omega
  rw [this, sEnd_nat, sEnd_none]
  rcases Nat.lt_or_ge xs.length (j + 1) with h | h
  · rw [Nat.min_eq_right (by omega), List.drop_eq_nil_of_le (Nat.le_refl _), List.drop_eq_nil_of_le (by omega), List.take_nil]
  · rw [Nat.min_eq_left h]
    exact List.take_of_length_le (by rw [List.length_drop]; exact Nat.le_refl _)
theorem laid_at_ok {xs : List D} {j : Nat} (hj : j < xs.length) (hl : xs.length ≤ 100) {x : D} (hx : frz x = x) : Ev 1 "laid_at" [.tup xs, .int j, x] (.tup (xs.set j x)) := by
  refine Ev.intro (fn := f_laid_at) rfl rfl fun n hn M c Q X q => ?_
  simp only [f_laid_at, b_laid_at]
  walk_at "ms"
  simp only [int_of, sl_tup]
  walk_at "ms"
  rw [cut_take]
  refine ⟨line9 (by simp), ?_⟩
  rw [hx, bin_add_tup _ (by simp; rw [line_val]; omega)]
  walk_at "ms"
  rw [cut_drop, bin_add_tup _ (by simp; rw [line_val]; omega)]
  walk_at "ms"
  refine gc_l ?_
  have : xs.take j ++ [x] ++ xs.drop (j + 1) = xs.set j x := by
    rw [List.set_eq_take_append_cons_drop, if_pos hj]
    simp
  rw [this]
  exact q

def optI : Option Int → D
  | none => .non
  | some v => .int v
structure Lk where
  kind : String
  thing : String
  val : Option Int
  mark : D
def Lk.enc (l : Lk) : D := .tup [.str l.kind, .str l.thing, optI l.val, l.mark]
def Lk.ok (l : Lk) : Prop := l.kind.length ≤ 8 ∧ l.thing.length ≤ 8 ∧ (∀ v, l.val = some v → rv v) ∧ c0 l.mark
structure Th where
  bx : List (Int × D)
  lk : List (D × D)
  ln : List (Int × Int × List Int)
  dr : List Int
def Th.enc (s : Th) : D := .tup [.tup (s.bx.map eB), .tup (s.lk.map eL), .tup (s.ln.map eN), eI s.dr]
structure ThOk (p : Pg) (b : Nat) (sd : Th) : Prop where
  bxl : sd.bx.length = p.boxes.length
  bx : ∀ b ∈ sd.bx, rv b.1 ∧ c0 b.2
  lkl : sd.lk.length = p.locks.length
  lk : ∀ b ∈ sd.lk, c0 b.1 ∧ c0 b.2
  lnl : sd.ln.length = p.lanes.length
  ln : ∀ l ∈ sd.ln, (∀ x ∈ l.2.2, rv x) ∧ l.2.2.length ≤ b
  drl : sd.dr.length = p.doors.length
def evD (i : Nat) (k : Int) : D := .tup [.int i, .int k]
theorem frz_optI (v : Option Int) : frz (optI v) = optI v := by cases v <;> rfl
theorem mem_set {α : Type} {P : α → Prop} {l : List α} {j : Nat} {x : α} (h : ∀ a ∈ l, P a) (hx : P x) : ∀ a ∈ l.set j x, P a := fun a ha => by
  rcases List.mem_or_eq_of_mem_set ha with h1 | rfl
  · exact h a h1
  · exact hx
theorem nm_len {p : Pg} (hp : p.ok) {s : String} (h : s ∈ p.names) : s.length ≤ 8 := (hp.nms s h).2.1
/-- what a touch does -/
def Did (p : Pg) (b : Nat) (f : String) (k : Nat) (ds : List D) (t : Tc) : Prop := ∃ (th : Th) (l : Lk) (came : D), ThOk p (b + 1) th ∧ l.ok ∧ Came t came ∧ frz came = came ∧ Ev k f ds (.tup [th.enc, l.enc, came])
theorem get_at {α : Type} {l : List α} {j : Nat} (h : j < l.length) : ∃ x, l[j]? = some x ∧ x ∈ l := ⟨l[j], List.getElem?_eq_getElem h, List.getElem_mem h⟩
theorem box_touched_ok {p : Pg} (hp : p.ok) {b : Nat} (hb : b < 100) {th : Th} (h : ThOk p b th) {t : Tc} {s : String} (ht : t = .get s ∨ ∃ v, rv v ∧ t = .put s v) (hs : s ∈ p.boxes.map (·.1)) (i : Nat) (k : Int) : Did p b "box_touched" 5 [p.enc, th.enc, evD i k, t.enc] t := by
  obtain ⟨j, ⟨hj, _⟩, ej⟩ := number_of_ok hp (so := "box") (by simp) (s := s) hs
  have hj' : j < th.bx.length := by
    rw [h.bxl]
    have : (sortL p "box").length = p.boxes.length := by simp [sortL]
    omega
  obtain ⟨⟨bv, bm⟩, hg, hm⟩ := get_at hj'
  have hok := h.bx _ hm
  have hsn : s ∈ p.names := by simp only [Pg.names, List.mem_append]; simp only [hs, true_or]
  have hix : pix (th.bx.map eB) (j : Int) = some (.tup [.int bv, bm]) := by rw [pix_nat, List.getElem?_map, hg]; rfl
  have b4 := hp.b4
  rcases ht with rfl | ⟨v, hv, rfl⟩
  · refine ⟨th, ⟨"get", s, some bv, frz bm⟩, .int bv, ⟨h.bxl, h.bx, h.lkl, h.lk, h.lnl, fun l hl => ⟨(h.ln l hl).1, by have := (h.ln l hl).2; omega⟩, h.drl⟩, ⟨by show ("get").length ≤ 8; decide, nm_len hp hsn, fun v hv => (by cases hv; exact hok.1), c0_frz hok.2⟩, ⟨bv, rfl, hok.1⟩, rfl, Ev.intro (fn := f_box_touched) rfl rfl fun n hn M c Q X q => ?_⟩
    simp only [f_box_touched, b_box_touched, Th.enc, Tc.enc, Tc.kind, Tc.thing, Tc.val]
    walk_at "ms"
    refine ej n (by omega) M c _ _ ?_
    walk_at "ms"
    rw [hix]
    walk_at "ms"
    exact ⟨line9 (by simp), line9 (by simp), gc_l q⟩
  · have len' : (th.bx.map eB).length = th.bx.length := List.length_map _
    obtain la := laid_at_ok (xs := th.bx.map eB) (j := j) (by rw [len']; exact hj') (by rw [len', h.bxl]; omega) (x := .tup [.int v, evD i k]) rfl
    refine ⟨{ th with bx := th.bx.set j (v, evD i k) }, ⟨"put", s, some v, frz bm⟩, .non, ⟨by simp [h.bxl], mem_set h.bx ⟨hv, rfl⟩, h.lkl, h.lk, h.lnl, fun l hl => ⟨(h.ln l hl).1, by have := (h.ln l hl).2; omega⟩, h.drl⟩, ⟨by show ("put").length ≤ 8; decide, nm_len hp hsn, fun v' hv' => (by cases hv'; exact hv), c0_frz hok.2⟩, rfl, rfl, Ev.intro (fn := f_box_touched) rfl rfl fun n hn M c Q X q => ?_⟩
    simp only [f_box_touched, b_box_touched, Th.enc, Tc.enc, Tc.kind, Tc.thing, Tc.val]
    walk_at "ms"
    refine ej n (by omega) M c _ _ ?_
    walk_at "ms"
    rw [hix]
    walk_at "ms"
    refine ⟨line9 (by simp), ?_⟩
    refine la n (by omega) M c _ _ ?_
    walk_at "ms"
    refine ⟨line9 (by simp), line9 (by simp), line9 (by simp), gc_l ?_⟩
    have : (th.bx.map eB).set j (.tup [.int v, evD i k]) = (th.bx.set j (v, evD i k)).map eB := by rw [List.map_set]; rfl
    rw [this]
    exact q
theorem ThOk.up {p : Pg} {b : Nat} {th : Th} (h : ThOk p b th) : ThOk p (b + 1) th := ⟨h.bxl, h.bx, h.lkl, h.lk, h.lnl, fun l hl => ⟨(h.ln l hl).1, by have := (h.ln l hl).2; omega⟩, h.drl⟩
theorem lock_touched_ok {p : Pg} (hp : p.ok) {b : Nat} (hb : b < 100) {th : Th} (h : ThOk p b th) {t : Tc} {s : String} (ht : t = .take s ∨ t = .free s) (hs : s ∈ p.locks) (i : Nat) (k : Int) : Did p b "lock_touched" 5 [p.enc, th.enc, evD i k, t.enc] t := by
  obtain ⟨j, ⟨hj, _⟩, ej⟩ := number_of_ok hp (so := "lock") (by simp) (s := s) hs
  have hj' : j < th.lk.length := by
    rw [h.lkl]
    exact hj
  obtain ⟨⟨bv, bm⟩, hg, hm⟩ := get_at hj'
  have hok := h.lk _ hm
  have hsn : s ∈ p.names := by simp only [Pg.names, List.mem_append]; simp only [hs, true_or, or_true]
  have hix : pix (th.lk.map eL) (j : Int) = some (.tup [bv, bm]) := by rw [pix_nat, List.getElem?_map, hg]; rfl
  have b4 := hp.k4
  have len' : (th.lk.map eL).length = th.lk.length := List.length_map _
  rcases ht with rfl | rfl
  · obtain la := laid_at_ok (xs := th.lk.map eL) (j := j) (by rw [len']; exact hj') (by rw [len', h.lkl]; omega) (x := .tup [.int i, frz bm]) rfl
    refine ⟨{ th with lk := th.lk.set j (.int i, frz bm) }, ⟨"take", s, none, frz bm⟩, .non, ⟨h.bxl, h.bx, by simp [h.lkl], mem_set h.lk ⟨rfl, c0_frz hok.2⟩, h.lnl, h.up.ln, h.drl⟩, ⟨by show ("take").length ≤ 8; decide, nm_len hp hsn, fun v' hv' => (by cases hv'), c0_frz hok.2⟩, rfl, rfl, Ev.intro (fn := f_lock_touched) rfl rfl fun n hn M c Q X q => ?_⟩
    simp only [f_lock_touched, b_lock_touched, Th.enc, Tc.enc, Tc.kind, Tc.thing, Tc.val]
    walk_at "ms"
    simp only [int_of, sl_tup, cut3_2]
    walk_at "ms"
    refine ej n (by omega) M c _ _ ?_
    walk_at "ms"
    rw [hix]
    walk_at "ms"
    simp only [evD]
    walk_at "ms"
    refine ⟨line9 (by simp), ?_⟩
    have ff : frz (frz bm) = frz bm := by cases bm <;> rfl
    rw [ff]
    refine la n (by omega) M c _ _ ?_
    walk_at "ms"
    refine ⟨line9 (by simp), line9 (by simp), line9 (by simp), gc_l ?_⟩
    have : (th.lk.map eL).set j (.tup [.int i, frz bm]) = (th.lk.set j (.int i, frz bm)).map eL := by rw [List.map_set]; rfl
    rw [this]
    exact q
  · obtain la := laid_at_ok (xs := th.lk.map eL) (j := j) (by rw [len']; exact hj') (by rw [len', h.lkl]; omega) (x := .tup [.non, evD i k]) rfl
    refine ⟨{ th with lk := th.lk.set j (.non, evD i k) }, ⟨"free", s, none, .non⟩, .non, ⟨h.bxl, h.bx, by simp [h.lkl], mem_set h.lk ⟨rfl, rfl⟩, h.lnl, h.up.ln, h.drl⟩, ⟨by show ("free").length ≤ 8; decide, nm_len hp hsn, fun v' hv' => (by cases hv'), rfl⟩, rfl, rfl, Ev.intro (fn := f_lock_touched) rfl rfl fun n hn M c Q X q => ?_⟩
    simp only [f_lock_touched, b_lock_touched, Th.enc, Tc.enc, Tc.kind, Tc.thing, Tc.val]
    walk_at "ms"
    simp only [int_of, sl_tup, cut3_2]
    walk_at "ms"
    refine ej n (by omega) M c _ _ ?_
    walk_at "ms"
    rw [hix]
    walk_at "ms"
    refine ⟨line9 (by simp), ?_⟩
    refine la n (by omega) M c _ _ ?_
    walk_at "ms"
    refine ⟨line9 (by simp), line9 (by simp), line9 (by simp), gc_l ?_⟩
    have : (th.lk.map eL).set j (.tup [.non, evD i k]) = (th.lk.set j (.non, evD i k)).map eL := by rw [List.map_set]; rfl
    rw [this]
    exact q
theorem lane_touched_ok {p : Pg} (hp : p.ok) {b : Nat} (hb : b < 100) {th : Th} (h : ThOk p b th) {t : Tc} {s : String} (hs : s ∈ p.lanes) (ht : (∃ v, rv v ∧ t = .send s v) ∨ t = .fetch s ∧ ∃ (j : Nat) (a f x : Int) (ys : List Int), Ev 3 "number_of" [p.enc, .str "lane", .str s] (.int j) ∧ th.ln[j]? = some (a, f, x :: ys)) (i : Nat) (k : Int) : Did p b "lane_touched" 5 [p.enc, th.enc, t.enc] t := by
  have hsn : s ∈ p.names := by simp only [Pg.names, List.mem_append]; simp only [hs, true_or, or_true]
  have b4 := hp.l4
  have len' : (th.ln.map eN).length = th.ln.length := List.length_map _
  rcases ht with ⟨v, hv, rfl⟩ | ⟨rfl, j, a, f, x, ys, ej, hg⟩
  · obtain ⟨j, ⟨hj, _⟩, ej⟩ := number_of_ok hp (so := "lane") (by simp) (s := s) hs
    have hj' : j < th.ln.length := by
      rw [h.lnl]
      exact hj
    obtain ⟨⟨a, f, ls⟩, hg, hm⟩ := get_at hj'
    have hok := h.ln _ hm
    have hix : pix (th.ln.map eN) (j : Int) = some (.tup [.int a, .int f, .tup (ls.map .int)]) := by rw [pix_nat, List.getElem?_map, hg]; rfl
    obtain la := laid_at_ok (xs := th.ln.map eN) (j := j) (by rw [len']; exact hj') (by rw [len', h.lnl]; omega) (x := .tup [.int (a + 1), .int f, .tup (ls.map .int ++ [.int v])]) rfl
    refine ⟨{ th with ln := th.ln.set j (a + 1, f, ls ++ [v]) }, ⟨"send", s, some v, .int a⟩, .non, ⟨h.bxl, h.bx, h.lkl, h.lk, by simp [h.lnl], mem_set h.up.ln ⟨fun x hx => ?_, ?_⟩, h.drl⟩, ⟨by show ("send").length ≤ 8; decide, nm_len hp hsn, fun v' hv' => (by cases hv'; exact hv), rfl⟩, rfl, rfl, Ev.intro (fn := f_lane_touched) rfl rfl fun n hn M c Q X q => ?_⟩
    · rcases List.mem_append.mp hx with hx | hx
      · exact hok.1 x hx
      · rw [List.mem_singleton.mp hx]; exact hv
    · have := hok.2
      simp only [List.length_append, List.length_singleton] at this ⊢
      omega
    have hll : ls.length ≤ b := hok.2
    simp only [f_lane_touched, b_lane_touched, Th.enc, Tc.enc, Tc.kind, Tc.thing, Tc.val]
    walk_at "ms"
    refine ej n (by omega) M c _ _ ?_
    walk_at "ms"
    rw [hix]
    walk_at "ms"
    refine ⟨line9 (by simp), ?_⟩
    rw [bin_add_tup _ (by simp; rw [line_val]; omega)]
    walk_at "ms"
    refine ⟨line9 (by simp), ?_⟩
    refine la n (by omega) M c _ _ ?_
    walk_at "ms"
    refine ⟨line9 (by simp), line9 (by simp), line9 (by simp), gc_l ?_⟩
    have : (th.ln.map eN).set j (.tup [.int (a + 1), .int f, .tup (ls.map .int ++ [.int v])]) = (th.ln.set j (a + 1, f, ls ++ [v])).map eN := by rw [List.map_set]; simp [eN]
    rw [this]
    exact q
  · have hj' : j < th.ln.length := by
      rcases Nat.lt_or_ge j th.ln.length with h | h
      · exact h
      · rw [List.getElem?_eq_none h] at hg; cases hg
    have hm := List.mem_of_getElem? hg
    have hok := h.ln _ hm
    have hx := hok.1 x List.mem_cons_self
    have hix : pix (th.ln.map eN) (j : Int) = some (.tup [.int a, .int f, .tup (.int x :: ys.map .int)]) := by rw [pix_nat, List.getElem?_map, hg]; rfl
    obtain la := laid_at_ok (xs := th.ln.map eN) (j := j) (by rw [len']; exact hj') (by rw [len', h.lnl]; omega) (x := .tup [.int a, .int (f + 1), .tup (ys.map .int)]) rfl
    refine ⟨{ th with ln := th.ln.set j (a, f + 1, ys) }, ⟨"fetch", s, some x, .int f⟩, .int x, ⟨h.bxl, h.bx, h.lkl, h.lk, by simp [h.lnl], mem_set h.up.ln ⟨fun y hy => hok.1 y (List.mem_cons_of_mem _ hy), ?_⟩, h.drl⟩, ⟨by show ("fetch").length ≤ 8; decide, nm_len hp hsn, fun v' hv' => (by cases hv'; exact hx), rfl⟩, ⟨x, rfl, hx⟩, rfl, Ev.intro (fn := f_lane_touched) rfl rfl fun n hn M c Q X q => ?_⟩
    · have := hok.2
      simp only [List.length_cons] at this ⊢
      omega
    simp only [f_lane_touched, b_lane_touched, Th.enc, Tc.enc, Tc.kind, Tc.thing, Tc.val]
    walk_at "ms"
    refine ej n (by omega) M c _ _ ?_
    walk_at "ms"
    rw [hix]
    walk_at "ms"
    simp only [int_of, sl_tup]
    have hcut : cutL (D.int x :: ys.map D.int) (some 1) none = ys.map D.int := cut_drop _ 0
    walk_at "ms"
    rw [hcut]
    refine ⟨line9 (by simp), line9 (by simp), ?_⟩
    refine la n (by omega) M c _ _ ?_
    walk_at "ms"
    refine ⟨line9 (by simp), line9 (by simp), gc_l ?_⟩
    have : (th.ln.map eN).set j (.tup [.int a, .int (f + 1), .tup (ys.map .int)]) = (th.ln.set j (a, f + 1, ys)).map eN := by rw [List.map_set]; rfl
    rw [this]
    exact q

theorem in_gp (M : Me) (s : String) : cmp M .isin (.str s) (.tup [.str "get", .str "put"]) = some (decide (s ∈ ["get", "put"])) := in_strs_t M ["get", "put"] s
theorem in_tf (M : Me) (s : String) : cmp M .isin (.str s) (.tup [.str "take", .str "free"]) = some (decide (s ∈ ["take", "free"])) := in_strs_t M ["take", "free"] s
theorem in_sf (M : Me) (s : String) : cmp M .isin (.str s) (.tup [.str "send", .str "fetch"]) = some (decide (s ∈ ["send", "fetch"])) := in_strs_t M ["send", "fetch"] s
theorem frz_th (t : Th) : frz t.enc = t.enc := rfl
theorem frz_tc (t : Tc) : frz t.enc = t.enc := rfl
theorem frz_ev (i : Nat) (k : Int) : frz (evD i k) = evD i k := rfl
theorem touched_ok {p : Pg} (hp : p.ok) {b : Nat} (hb : b < 100) {th : Th} (h : ThOk p b th) {t : Tc} {r : Rw} (ht : t.of p r)
    (hf : ∀ l, t = .fetch l → ∃ (j : Nat) (a f x : Int) (ys : List Int), Ev 3 "number_of" [p.enc, .str "lane", .str l] (.int j) ∧ th.ln[j]? = some (a, f, x :: ys)) (i : Nat) (k : Int) {g : D} (hg : Gift t g) : Did p b "touched" 6 [p.enc, th.enc, evD i k, t.enc, g] t := by
  have d4 := hp.d4
  have pass : ∀ (sub : String) (dsub : List D), Did p b sub 5 dsub t → (∀ n, 5 ≤ n → ∀ M (P : QD) (X : QX), callN cn n sub dsub M P X → wSs cn (callN cn n) f_touched.body (start [p.enc, th.enc, evD i k, t.enc, g] f_touched.n) M { nx := fun _ _ => False, rt := P, bk := fun _ _ => False, ct := fun _ _ => False, ex := fun x _ M' => X x M' }) → Did p b "touched" 6 [p.enc, th.enc, evD i k, t.enc, g] t := fun sub dsub hd hw => by
    obtain ⟨th', l, came, h1, h2, h3, h4, h5⟩ := hd
    refine ⟨th', l, came, h1, h2, h3, h4, fun n hn M c Q X q => ?_⟩
    obtain ⟨n, rfl⟩ : ∃ j, n = j + 1 := ⟨n - 1, by omega⟩
    refine run1 (fn := f_touched) rfl rfl ?_
    have := hw n (by omega) M (gcQ M.length Q) X (h5 n (by omega) M c _ _ (gc_l q))
    refine wSs_mono (callN_mono cn n) _ _ _ ?_ this
    exact ⟨fun _ _ h => h.elim, fun _ _ h => h, fun _ _ h => h, fun _ _ h => h, fun _ _ _ h => h⟩
  cases t with
  | get s =>
    refine pass _ _ (box_touched_ok hp hb h (.inl rfl) ht.1 i k) fun n hn M P X q => ?_
    simp only [f_touched, b_touched, Tc.enc, Tc.kind, Tc.thing, Tc.val] at q ⊢
    walk_at "ms"
    refine ⟨line9 (by simp), ?_⟩
    rw [in_gp, decide_eq_true (by simp)]
    walk_at "ms"
    exact q
  | put s v =>
    refine pass _ _ (box_touched_ok hp hb h (.inr ⟨v, ht.2.1, rfl⟩) ht.1 i k) fun n hn M P X q => ?_
    simp only [f_touched, b_touched, Tc.enc, Tc.kind, Tc.thing, Tc.val] at q ⊢
    walk_at "ms"
    refine ⟨line9 (by simp), ?_⟩
    rw [in_gp, decide_eq_true (by simp)]
    walk_at "ms"
    exact q
  | take s =>
    refine pass _ _ (lock_touched_ok hp hb h (.inl rfl) ht.1 i k) fun n hn M P X q => ?_
    simp only [f_touched, b_touched, Tc.enc, Tc.kind, Tc.thing, Tc.val] at q ⊢
    walk_at "ms"
    refine ⟨line9 (by simp), ?_⟩
    rw [in_gp, decide_eq_false (by decide)]
    walk_at "ms"
    refine ⟨line9 (by simp), ?_⟩
    rw [in_tf, decide_eq_true (by simp)]
    walk_at "ms"
    exact q
  | free s =>
    refine pass _ _ (lock_touched_ok hp hb h (.inr rfl) ht.1 i k) fun n hn M P X q => ?_
    simp only [f_touched, b_touched, Tc.enc, Tc.kind, Tc.thing, Tc.val] at q ⊢
    walk_at "ms"
    refine ⟨line9 (by simp), ?_⟩
    rw [in_gp, decide_eq_false (by decide)]
    walk_at "ms"
    refine ⟨line9 (by simp), ?_⟩
    rw [in_tf, decide_eq_true (by simp)]
    walk_at "ms"
    exact q
  | send s v =>
    refine pass _ _ (lane_touched_ok hp hb h ht.1 (.inl ⟨v, ht.2.1, rfl⟩) i k) fun n hn M P X q => ?_
    simp only [f_touched, b_touched, Tc.enc, Tc.kind, Tc.thing, Tc.val] at q ⊢
    walk_at "ms"
    refine ⟨line9 (by simp), ?_⟩
    rw [in_gp, decide_eq_false (by decide)]
    walk_at "ms"
    refine ⟨line9 (by simp), ?_⟩
    rw [in_tf, decide_eq_false (by decide)]
    walk_at "ms"
    refine ⟨line9 (by simp), ?_⟩
    rw [in_sf, decide_eq_true (by simp)]
    walk_at "ms"
    exact q
  | fetch s =>
    refine pass _ _ (lane_touched_ok hp hb h ht.1 (.inr ⟨rfl, hf s rfl⟩) i k) fun n hn M P X q => ?_
    simp only [f_touched, b_touched, Tc.enc, Tc.kind, Tc.thing, Tc.val] at q ⊢
    walk_at "ms"
    refine ⟨line9 (by simp), ?_⟩
    rw [in_gp, decide_eq_false (by decide)]
    walk_at "ms"
    refine ⟨line9 (by simp), ?_⟩
    rw [in_tf, decide_eq_false (by decide)]
    walk_at "ms"
    refine ⟨line9 (by simp), ?_⟩
    rw [in_sf, decide_eq_true (by simp)]
    walk_at "ms"
    exact q
  | clock =>
    obtain ⟨v, rfl, hv⟩ := hg
    refine ⟨th, ⟨"clock", "", some v, .non⟩, .int v, h.up, ⟨by show ("clock").length ≤ 8; decide, by show ("").length ≤ 8; decide, fun v' hv' => (by cases hv'; exact hv), rfl⟩, ⟨v, rfl, hv⟩, rfl, Ev.intro (fn := f_touched) rfl rfl fun n hn M c Q X q => ?_⟩
    simp only [f_touched, b_touched, Tc.enc, Tc.kind, Tc.thing, Tc.val]
    walk_at "ms"
    refine ⟨line9 (by simp), ?_⟩
    rw [in_gp, decide_eq_false (by decide)]
    walk_at "ms"
    refine ⟨line9 (by simp), ?_⟩
    rw [in_tf, decide_eq_false (by decide)]
    walk_at "ms"
    refine ⟨line9 (by simp), ?_⟩
    rw [in_sf, decide_eq_false (by decide)]
    walk_at "ms"
    exact ⟨line9 (by simp), line9 (by simp), gc_l q⟩
  | lot m =>
    obtain ⟨v, rfl, h1, h2⟩ := hg
    have hv : rv v := ⟨h1, by have := ht.2.1; omega⟩
    refine ⟨th, ⟨"lot", "", some v, .non⟩, .int v, h.up, ⟨by show ("lot").length ≤ 8; decide, by show ("").length ≤ 8; decide, fun v' hv' => (by cases hv'; exact hv), rfl⟩, ⟨v, rfl, hv⟩, rfl, Ev.intro (fn := f_touched) rfl rfl fun n hn M c Q X q => ?_⟩
    simp only [f_touched, b_touched, Tc.enc, Tc.kind, Tc.thing, Tc.val]
    walk_at "ms"
    refine ⟨line9 (by simp), ?_⟩
    rw [in_gp, decide_eq_false (by decide)]
    walk_at "ms"
    refine ⟨line9 (by simp), ?_⟩
    rw [in_tf, decide_eq_false (by decide)]
    walk_at "ms"
    refine ⟨line9 (by simp), ?_⟩
    rw [in_sf, decide_eq_false (by decide)]
    walk_at "ms"
    exact ⟨line9 (by simp), line9 (by simp), gc_l q⟩
  | hear s =>
    obtain ⟨v, rfl, hv⟩ := hg
    have hsn : s ∈ p.names := by simp only [Pg.names, List.mem_append]; simp only [ht.1, true_or, or_true]
    refine ⟨th, ⟨"hear", s, some v, .non⟩, .int v, h.up, ⟨by show ("hear").length ≤ 8; decide, nm_len hp hsn, fun v' hv' => (by cases hv'; exact hv), rfl⟩, ⟨v, rfl, hv⟩, rfl, Ev.intro (fn := f_touched) rfl rfl fun n hn M c Q X q => ?_⟩
    simp only [f_touched, b_touched, Tc.enc, Tc.kind, Tc.thing, Tc.val]
    walk_at "ms"
    refine ⟨line9 (by simp), ?_⟩
    rw [in_gp, decide_eq_false (by decide)]
    walk_at "ms"
    refine ⟨line9 (by simp), ?_⟩
    rw [in_tf, decide_eq_false (by decide)]
    walk_at "ms"
    refine ⟨line9 (by simp), ?_⟩
    rw [in_sf, decide_eq_false (by decide)]
    walk_at "ms"
    exact ⟨line9 (by simp), line9 (by simp), gc_l q⟩
  | say s v =>
    have hsn : s ∈ p.names := by simp only [Pg.names, List.mem_append]; simp only [ht.1, true_or, or_true]
    have hv := ht.2.1
    obtain ⟨j, ⟨hj, _⟩, ej⟩ := number_of_ok hp (so := "door") (by simp) (s := s) ht.1
    have hj' : j < th.dr.length := by
      rw [h.drl]
      exact hj
    obtain ⟨z, hz, _⟩ := get_at hj'
    have hix : pix (th.dr.map D.int) (j : Int) = some (.int z) := by rw [pix_nat, List.getElem?_map, hz]; rfl
    have len' : (th.dr.map D.int).length = th.dr.length := List.length_map _
    obtain la := laid_at_ok (xs := th.dr.map D.int) (j := j) (by rw [len']; exact hj') (by rw [len', h.drl]; omega) (x := .int (z + 1)) rfl
    refine ⟨{ th with dr := th.dr.set j (z + 1) }, ⟨"say", s, some v, .int z⟩, .non, ⟨h.bxl, h.bx, h.lkl, h.lk, h.lnl, h.up.ln, by simp [h.drl]⟩, ⟨by show ("say").length ≤ 8; decide, nm_len hp hsn, fun v' hv' => (by cases hv'; exact hv), rfl⟩, rfl, rfl, Ev.intro (fn := f_touched) rfl rfl fun n hn M c Q X q => ?_⟩
    simp only [f_touched, b_touched, Tc.enc, Tc.kind, Tc.thing, Tc.val, Th.enc, eI]
    walk_at "ms"
    refine ⟨line9 (by simp), ?_⟩
    rw [in_gp, decide_eq_false (by decide)]
    walk_at "ms"
    refine ⟨line9 (by simp), ?_⟩
    rw [in_tf, decide_eq_false (by decide)]
    walk_at "ms"
    refine ⟨line9 (by simp), ?_⟩
    rw [in_sf, decide_eq_false (by decide)]
    walk_at "ms"
    refine ej n (by omega) M c _ _ ?_
    walk_at "ms"
    rw [hix]
    walk_at "ms"
    refine la n (by omega) M c _ _ ?_
    walk_at "ms"
    refine ⟨line9 (by simp), line9 (by simp), line9 (by simp), gc_l ?_⟩
    have : (th.dr.map D.int).set j (.int (z + 1)) = (th.dr.set j (z + 1)).map D.int := by rw [List.map_set]
    rw [this]
    exact q

def Sd.th (s : Sd) : Th := ⟨s.bx, s.lk, s.ln, s.dr⟩
theorem SdOk.th {p : Pg} {K : List String} {b : Nat} {sd : Sd} (h : SdOk p K b sd) : ThOk p b sd.th := ⟨h.bxl, h.bx, h.lkl, h.lk, h.lnl, h.ln, h.drl⟩
theorem St.up {K : List String} {b : Nat} {rs : List Rw} {s : Seat} (h : St K b rs s) : St K (b + 1) rs s := ⟨h.1, h.2.1, h.2.2.1, by have := h.2.2.2; omega⟩
/-- a step that is made -/
def Step (p : Pg) (K : List String) (b : Nat) (sd : Sd) (i : Nat) (g : D) (sd' : Sd) (l : Lk) : Prop := SdOk p K (b + 1) sd' ∧ l.ok ∧ Ev 9 "gone" [p.enc, sd.enc, .int i, g] (.tup [sd'.enc, l.enc])
theorem gone_ok {p : Pg} {K : List String} (hp : Wp p K) {b : Nat} (hb : b < 100) {sd : Sd} (hd : SdOk p K b sd) {i : Nat} {s : Seat} {h : String × List Rw} {t : Tc} (e : p.hands[i]? = some h) (es : sd.ss[i]? = some s)
    (hw : Ev 8 "wait_of" [p.enc, sd.enc, .int i] .non) (hg : Go p sd i s h t) {g : D} (ht : Gift t g) : ∃ sd' l, Step p K b sd i g sd' l := by
  obtain ⟨r, hr1, hr2⟩ := hg.rw_
  obtain ⟨hs, _⟩ := hd.ss i s h es e
  have hi : i < p.hands.length := by
    rcases Nat.lt_or_ge i p.hands.length with h | h
    · exact h
    · rw [List.getElem?_eq_none h] at e; cases e
  have hic : i < sd.cs.length := by rw [hd.csl]; exact hi
  have his : i < sd.ss.length := by rw [hd.ssl]; exact hi
  obtain ⟨k, hk, _⟩ := get_at hic
  have h4 := hp.ok.h4
  obtain ⟨th', l, came, h1, h2, h3, h5, h6⟩ := touched_ok hp.ok hb hd.th hr2 hg.ft i k ht
  obtain ⟨s', g1, g2, g3⟩ := seat_behind_ok hp e (b := b) (by omega) hs hr1 hr2 h3
  have l1 := laid_at_ok (xs := sd.cs.map D.int) (j := i) (by rw [List.length_map]; exact hic) (by rw [List.length_map, hd.csl]; omega) (x := .int (k + 1)) rfl
  have l2 := laid_at_ok (xs := sd.ss.map Seat.enc) (j := i) (by rw [List.length_map]; exact his) (by rw [List.length_map, hd.ssl]; omega) (x := s'.enc) rfl
  have fg : frz g = g := by
    cases t <;> first | (obtain ⟨v, rfl, _⟩ := ht; rfl) | (rw [show g = .non from ht]; rfl)
  refine ⟨⟨sd.cs.set i (k + 1), sd.ss.set i s', th'.bx, th'.lk, th'.ln, th'.dr⟩, l, ⟨by simp [hd.csl], by simp [hd.ssl], ?_, h1.bxl, h1.bx, h1.lkl, h1.lk, h1.lnl, h1.ln, h1.drl⟩, h2, Ev.intro (fn := f_gone) rfl rfl fun n hn M c Q X q => ?_⟩
  · intro i' s'' h' e1 e2
    rw [List.getElem?_set] at e1
    split at e1
    · rename_i hii
      subst hii
      rw [e] at e2
      cases e2
      cases e1
      exact ⟨g1, g2⟩
    · have := hd.ss i' s'' h' e1 e2
      exact ⟨this.1.up, this.2⟩
  · have hix : pix (sd.ss.map Seat.enc) (i : Int) = some s.enc := by rw [pix_nat, List.getElem?_map, es]; rfl
    have hic' : pix (sd.cs.map D.int) (i : Int) = some (.int k) := by rw [pix_nat, List.getElem?_map, hk]; rfl
    have hp1 : frz p.enc = p.enc := rfl
    simp only [f_gone, b_gone]
    walk_at "ms"
    refine is_whole_ok i n (by omega) M c _ _ ?_
    walk_at "ms"
    rw [decide_eq_false (show ¬ (i : Int) < 0 by omega)]
    simp only [Pg.enc]
    walk_at "ms"
    rw [decide_eq_false (show ¬ ((p.hands.map encH).length : Int) ≤ (i : Int) by rw [List.length_map]; omega)]
    walk_at "ms"
    refine hw n (by omega) M c _ _ ?_
    walk_at "ms"
    simp only [Sd.enc, int_of, sl_tup, cut6_2, cut6_4, eI]
    walk_at "ms"
    simp only [cut6_2]
    walk_at "ms"
    rw [hix]
    walk_at "ms"
    rw [frz_seat]
    refine hg.ev n (by omega) M c _ _ ?_
    walk_at "ms"
    rw [frz_tc, frz_tc, fg]
    refine takes_gift_ok ht n (by omega) M c _ _ ?_
    walk_at "ms"
    simp only [sl_tup, cut6_4]
    walk_at "ms"
    rw [hic']
    walk_at "ms"
    refine ⟨line9 (by simp), ?_⟩
    refine h6 n (by omega) M c _ _ ?_
    walk_at "ms"
    rw [hix]
    walk_at "ms"
    rw [frz_seat, h5]
    refine g3 n (by omega) M c _ _ ?_
    walk_at "ms"
    rw [hic']
    walk_at "ms"
    refine l1 n (by omega) M c _ _ ?_
    walk_at "ms"
    rw [frz_seat, frz_seat]
    refine l2 n (by omega) M c _ _ ?_
    walk_at "ms"
    refine ⟨line9 (by simp), ?_⟩
    simp only [Th.enc]
    walk_at "ms"
    rw [bin_add_tup _ (by simp; rw [line_val]; omega)]
    walk_at "ms"
    refine ⟨line9 (by simp), gc_l ?_⟩
    have e1 : (sd.cs.map D.int).set i (.int (k + 1)) = (sd.cs.set i (k + 1)).map D.int := by rw [List.map_set]
    have e2 : (sd.ss.map Seat.enc).set i s'.enc = (sd.ss.set i s').map Seat.enc := by rw [List.map_set]
    rw [e1, e2]
    exact q

/-- steps that are made one behind the other -/
inductive Walk (p : Pg) (K : List String) : Nat → Sd → List (Nat × Option Int) → Sd → List (Nat × Lk) → Prop where
  | nil (b : Nat) (sd : Sd) : Walk p K b sd [] sd []
  | cons {b : Nat} {sd sd1 sd2 : Sd} {i : Nat} {g : Option Int} {l : Lk} {r : List (Nat × Option Int)} {ls : List (Nat × Lk)} : Step p K b sd i (optI g) sd1 l → i < p.hands.length → (∀ v, g = some v → rv v) → Walk p K (b + 1) sd1 r sd2 ls → Walk p K b sd ((i, g) :: r) sd2 ((i, l) :: ls)
def stD (q : Nat × Option Int) : D := .tup [.int q.1, optI q.2]
def tcD (q : Nat × Lk) : D := .tup [.int q.1, q.2.enc]
theorem cls_map {α : Type} (f : α → D) (n : Nat) (l : List α) (h : ∀ a ∈ l, clsD n (f a) = true) : clsDs n (l.map f) = true := by
  induction l with
  | nil => rfl
  | cons a r ih =>
    simp only [List.map_cons, clsDs, Bool.and_eq_true]
    exact ⟨h a List.mem_cons_self, ih fun x hx => h x (List.mem_cons_of_mem _ hx)⟩
theorem c0_up {d : D} (h : c0 d) (n : Nat) : clsD n d = true := clsD_mono (Nat.zero_le n) h
theorem cls_sd {p : Pg} {K : List String} {b : Nat} {sd : Sd} (h : SdOk p K b sd) (n : Nat) : clsD n sd.enc = true := by
  have cI : ∀ l : List Int, clsDs n (l.map D.int) = true := fun l => cls_map _ _ _ fun _ _ => rfl
  have cS : ∀ l : List String, clsDs n (l.map D.str) = true := fun l => cls_map _ _ _ fun _ _ => rfl
  have e1 : clsDs n (sd.ss.map Seat.enc) = true := cls_map _ _ _ fun s _ => by
    show clsDs n [.int s.num, encP s.ps, encS s.held] = true
    simp only [clsDs, cls_encP, Bool.and_true, Bool.true_and]
    exact cS _
  have e2 : clsDs n (sd.bx.map eB) = true := cls_map _ _ _ fun q hq => by
    show clsDs n [.int q.1, q.2] = true
    simp only [clsDs, c0_up (h.bx q hq).2 n, Bool.and_true]
    rfl
  have e3 : clsDs n (sd.lk.map eL) = true := cls_map _ _ _ fun q hq => by
    show clsDs n [q.1, q.2] = true
    simp only [clsDs, c0_up (h.lk q hq).2 n, c0_up (h.lk q hq).1 n, Bool.and_true]
  have e4 : clsDs n (sd.ln.map eN) = true := cls_map _ _ _ fun q hq => by
    show clsDs n [.int q.1, .int q.2.1, .tup (q.2.2.map .int)] = true
    simp only [clsDs, clsD, cI, Bool.and_true]
  show clsDs n [eI sd.cs, .tup (sd.ss.map Seat.enc), .tup (sd.bx.map eB), .tup (sd.lk.map eL), .tup (sd.ln.map eN), eI sd.dr] = true
  simp only [clsDs, clsD, eI, cI, e1, e2, e3, e4, Bool.and_true]
theorem cls_lk {l : Lk} (h : l.ok) (n : Nat) : clsD n l.enc = true := by
  show clsDs n [.str l.kind, .str l.thing, optI l.val, l.mark] = true
  have : clsD n (optI l.val) = true := by cases l.val <;> rfl
  simp only [clsDs, clsD, this, c0_up h.2.2.2 n, Bool.and_true]
theorem Walk.cls {p : Pg} {K : List String} {b : Nat} {sd sd2 : Sd} {run : List (Nat × Option Int)} {ls : List (Nat × Lk)} (w : Walk p K b sd run sd2 ls) : SdOk p K b sd → (∃ b', SdOk p K b' sd2) ∧ (∀ q ∈ ls, q.2.ok) ∧ (∀ q ∈ run, q.1 < p.hands.length ∧ ∀ v, q.2 = some v → rv v) ∧ ls.length = run.length := by
  induction w with
  | nil b sd => exact fun h => ⟨⟨_, h⟩, fun _ h => (by cases h), fun _ h => (by cases h), rfl⟩
  | cons h1 h2 h3 h4 ih =>
    intro h
    obtain ⟨g1, g2, g3, g4⟩ := ih h1.1
    refine ⟨g1, fun q hq => ?_, fun q hq => ?_, by simp [g4]⟩
    · rcases List.mem_cons.mp hq with rfl | hq
      · exact h1.2.1
      · exact g2 q hq
    · rcases List.mem_cons.mp hq with rfl | hq
      · exact ⟨h2, h3⟩
      · exact g3 q hq

theorem walked_ok {p : Pg} {K : List String} {b : Nat} {sd sd2 : Sd} {run : List (Nat × Option Int)} {ls : List (Nat × Lk)} (w : Walk p K b sd run sd2 ls) (h : SdOk p K b sd) (hl : run.length ≤ 60) : Ev 10 "walked" [p.enc, sd.enc, .tup (run.map stD)] (.tup [sd2.enc, .tup (ls.map tcD)]) := by
  obtain ⟨⟨b2, g1⟩, g2, g3, g4⟩ := w.cls h
  have hst : ∀ l, still (.tup l) = some (true, l) := fun _ => rfl
  have gM : cn.G "MOST_STEPS" = some (.int 60) := rfl
  refine Ev.intro (fn := f_walked) rfl rfl fun n hn M c Q X q => ?_
  simp only [f_walked, b_walked]
  walk_at "ms"
  have hlen : decide (((60 : Int)) < ((run.map stD).length : Int)) = false := decide_eq_false (by rw [List.length_map]; omega)
  rw [hlen]
  walk_at "ms"
  refine ⟨line9 (by simp), ?_⟩
  walk_at "ms"
  rw [hst]
  walk_at "ms"
  refine wFor_inv (fun r σ M' => ∃ (b' : Nat) (sd' : Sd) (rest : List (Nat × Option Int)) (done ls' : List (Nat × Lk)) (k : Int) (o4 o5 o6 : Option D), r = enumL k (rest.map stD) ∧ SdOk p K b' sd' ∧ Walk p K b' sd' rest sd2 ls' ∧ ls = done ++ ls' ∧
    σ = [some p.enc, some sd'.enc, some (.tup (run.map stD)), some (.ref M.length), o4, o5, o6, none] ∧ M' = M ++ [.lst (done.map tcD)]) (fun _ _ _ _ => trivial) ?step ?done _ _ _ ⟨b, sd, run, [], ls, 0, none, none, none, rfl, h, w, rfl, rfl, rfl⟩
  case done =>
    rintro σ M' ⟨b', sd', rest, done, ls', k, o4, o5, o6, h1, h2, h3, h4, rfl, rfl⟩
    cases rest with
    | cons _ _ => cases h1
    | nil =>
      cases h3
      rw [List.append_nil] at h4
      subst h4
      walk_at "ms"
      have ht : ∀ Q : QD, wBi (M ++ [MO.lst (ls.map tcD)]) .tuple [.ref M.length] Q = Q (.tup (ls.map tcD)) (M ++ [MO.lst (ls.map tcD)]) := fun Q => by
        show opt ((seqOf (M ++ [MO.lst (ls.map tcD)]) (.ref M.length)).map D.tup) _ = _
        have : seqOf (M ++ [MO.lst (ls.map tcD)]) (.ref M.length) = some (ls.map tcD) := lst_at (at0 M _ [])
        rw [this]
        rfl
      rw [ht]
      walk_at "ms"
      refine ⟨line9 (by simp), gc_d c ?_ (take_last M _) q⟩
      show clsDs M.length [sd2.enc, .tup (ls.map tcD)] = true
      have e1 : clsDs M.length (ls.map tcD) = true := cls_map _ _ _ fun a ha => by
        show clsDs M.length [.int a.1, a.2.enc] = true
        simp only [clsDs, clsD, cls_lk (g2 a ha), Bool.and_true]
      simp only [clsDs, clsD, cls_sd g1, e1, Bool.and_true]
  case step =>
    rintro x r σ M' ⟨b', sd', rest, done, ls', k, o4, o5, o6, h1, h2, h3, h4, rfl, rfl⟩ P' hnx hrt hbk hct
    cases rest with
    | nil => cases h1
    | cons a rest =>
      cases h1
      cases h3 with
      | cons k1 k2 k3 k4 =>
        rename_i sd1 i g l ls1
        have cM : Cl (M ++ [MO.lst (done.map tcD)]) := c.app (cls_map _ _ _ fun a ha => by
          show clsDs _ [.int a.1, a.2.enc] = true
          simp only [clsDs, clsD, cls_lk (g2 a (by rw [h4]; exact List.mem_append_left _ ha)), Bool.and_true])
        have dl : done.length ≤ 60 := by
          have := congrArg List.length h4
          simp at this
          omega
        simp only [stD]
        walk_at "ms"
        rw [frz_optI]
        refine k1.2.2 n (by omega) _ cM _ _ ?_
        walk_at "ms"
        refine ⟨?_, line9 (by simp), ?_⟩
        · show (lstAt _ _).isSome = true
          rw [lst_at (at0 M _ [])]
          rfl
        · have hm : mtOf (M ++ [MO.lst (done.map tcD)]) .append (.ref M.length) [.tup [.int (i : Int), frz l.enc]] = some (.non, M ++ [MO.lst ((done ++ [(i, l)]).map tcD)]) := by
            show ((lstAt (M ++ [MO.lst (done.map tcD)]) M.length).bind fun xs => if xs.length < line then some (D.non, (M ++ [MO.lst (done.map tcD)]).set M.length (.lst (xs ++ [frz (.tup [.int (i : Int), frz l.enc])]))) else none) = _
            rw [lst_at (at0 M _ []), Option.bind_some, if_pos (by rw [List.length_map, line_val]; omega), set_0, List.map_append]
            rfl
          rw [hm]
          walk_at "ms"
          exact hnx _ _ ⟨_, sd1, rest, done ++ [(i, l)], ls1, _, _, _, _, rfl, k1.1, k4, by rw [h4]; simp, rfl, rfl⟩

def vT : Option Int → String
  | none => "-"
  | some v => toString v
theorem ts_fin : ∀ n : Fin 1000, (toString ((n.val : Nat) : Int)).length ≤ 4 := by decide +kernel
theorem ts_len {v : Int} (h : rv v) : (toString v).length ≤ 4 := by
  have := ts_fin ⟨v.toNat, by have := h.1; have := h.2; omega⟩
  have e : ((v.toNat : Nat) : Int) = v := by have := h.1; omega
  simpa [e] using this
theorem wBi_str_int (M : Me) {v : Int} (h : rv v) (Q : QD) : wBi M .str [.int v] Q = Q (.str (toString v)) M := by
  have hv : v.natAbs < 2 ^ 1000 := Nat.lt_of_lt_of_le (show v.natAbs < 1000 by have := h.1; have := h.2; omega) (by decide +kernel)
  show opt (if v.natAbs < 2 ^ 1000 then some (D.str (toString v)) else none) _ = _
  rw [if_pos hv]
  rfl
def lkT (l : Lk) : String := l.kind ++ " " ++ (if l.thing = "" then "-" else l.thing) ++ " " ++ vT l.val
theorem shown_look_ok {l : Lk} (h : l.ok) : Ev 1 "shown_look" [l.enc] (.str (lkT l)) := by
  obtain ⟨kind, thing, val, mark⟩ := l
  obtain ⟨h1, h2, h3, _⟩ := h
  simp only at h1 h2 h3
  refine Ev.intro (fn := f_shown_look) rfl rfl fun n hn M c Q X q => ?_
  simp only [f_shown_look, b_shown_look, Lk.enc]
  walk_at "ms"
  have fin : ∀ (o : Option D) (th : String), th.length ≤ 8 → Q (.str (kind ++ " " ++ th ++ " " ++ vT val)) M → wE cn (callN cn n) (.bin .add (.bin .add (.bin .add (.bin .add (.v 1) (.c (.str " "))) (.v 2)) (.c (.str " "))) (.ite (.cmp .is (.v 3) (.c .non)) (.c (.str "-")) (.bi .str (.cons (.v 3) .nil)))) [o, some (.str kind), some (.str th), some (optI val), some mark] M (gcQ M.length Q) (fun x M' => X x M') := fun o th ht q => by
    walk_at "ms"
    rw [bin_add_str _ (by rw [line_val, show " ".length = 1 from rfl]; omega)]
    walk_at "ms"
    rw [bin_add_str _ (by rw [line_val, String.length_append, show " ".length = 1 from rfl]; omega)]
    walk_at "ms"
    rw [bin_add_str _ (by rw [line_val, String.length_append, String.length_append, show " ".length = 1 from rfl]; omega)]
    walk_at "ms"
    cases val with
    | none =>
      simp only [optI]
      walk_at "ms"
      rw [bin_add_str _ (by rw [line_val]; simp only [String.length_append, show " ".length = 1 from rfl, show "-".length = 1 from rfl]; omega)]
      exact gc_l q
    | some v =>
      have hv := h3 v rfl
      have := ts_len hv
      simp only [optI]
      walk_at "ms"
      rw [wBi_str_int _ hv]
      rw [bin_add_str _ (by rw [line_val]; simp only [String.length_append, show " ".length = 1 from rfl]; omega)]
      exact gc_l q
  by_cases h0 : thing = ""
  · rw [decide_eq_true h0]
    walk_at "ms"
    have := fin none "-" (by decide) (by simpa [lkT, h0] using q)
    simp only [wE, wT, wEt, get0, getS, opt_some] at this
    exact this
  · rw [decide_eq_false h0]
    walk_at "ms"
    have := fin none thing h2 (by simpa [lkT, h0] using q)
    simp only [wE, wT, wEt, get0, getS, opt_some] at this
    exact this

def hn (p : Pg) (i : Nat) : String := ((p.hands[i]?).map (·.1)).getD ""
def spT (p : Pg) (q : Nat × Option Int) : String := match q.2 with
  | none => hn p q.1
  | some v => hn p q.1 ++ ":" ++ toString v
theorem hn_len {p : Pg} (hp : p.ok) (i : Nat) : (hn p i).length ≤ 8 := by
  unfold hn
  cases e : p.hands[i]? with
  | none => simp
  | some h =>
    refine (hp.nms h.1 ?_).2.1
    simp only [Pg.names, List.mem_append]
    exact .inr (List.mem_map_of_mem (List.mem_of_getElem? e))
theorem shown_step_ok {p : Pg} (hp : p.ok) {q0 : Nat × Option Int} (h1 : q0.1 < p.hands.length) (h2 : ∀ v, q0.2 = some v → rv v) : Ev 1 "shown_step" [p.enc, stD q0] (.str (spT p q0)) := by
  obtain ⟨i, g⟩ := q0
  have e := List.getElem?_eq_getElem h1
  simp only at h1 h2 e
  have hl := hn_len hp i
  have hix : pix (p.hands.map encH) (i : Int) = some (.tup [.str (hn p i), encRs p.hands[i].2]) := by
    rw [pix_nat, List.getElem?_map, e]
    simp only [hn, e]
    rfl
  refine Ev.intro (fn := f_shown_step) rfl rfl fun n hn' M c Q X q => ?_
  simp only [f_shown_step, b_shown_step, Pg.enc, stD]
  walk_at "ms"
  rw [hix]
  walk_at "ms"
  cases g with
  | none =>
    simp only [optI]
    walk_at "ms"
    exact gc_l q
  | some v =>
    have hv := h2 v rfl
    have := ts_len hv
    simp only [optI]
    walk_at "ms"
    rw [bin_add_str _ (by rw [line_val, show ":".length = 1 from rfl]; omega)]
    walk_at "ms"
    rw [wBi_str_int _ hv]
    rw [bin_add_str _ (by rw [line_val]; simp only [String.length_append, show ":".length = 1 from rfl]; omega)]
    exact gc_l q
theorem spT_len {p : Pg} (hp : p.ok) {q : Nat × Option Int} (h2 : ∀ v, q.2 = some v → rv v) : (spT p q).length ≤ 20 := by
  obtain ⟨i, g⟩ := q
  have := hn_len hp i
  unfold spT
  cases g with
  | none => show (hn p i).length ≤ 20; omega
  | some v =>
    have := ts_len (h2 v rfl)
    show (hn p i ++ ":" ++ toString v).length ≤ 20
    simp only [String.length_append, show ":".length = 1 from rfl]
    omega
def runT (p : Pg) (run : List (Nat × Option Int)) : String := if run = [] then "-" else joinS " " (run.map (spT p))
theorem sum_le {l : List Nat} {k : Nat} (h : ∀ x ∈ l, x ≤ k) : l.sum ≤ l.length * k := by
  induction l with
  | nil => simp
  | cons a r ih =>
    have := ih fun x hx => h x (List.mem_cons_of_mem _ hx)
    have := h a List.mem_cons_self
    simp only [List.sum_cons, List.length_cons, Nat.succ_mul]
    omega
theorem listed_ok {l : List String} (h : ∀ s ∈ l, s.length ≤ 20) (hl : l.length ≤ 100) : Ev 1 "listed" [.fz (l.map .str)] (.str (if l = [] then "-" else joinS " " l)) := by
  refine Ev.intro (fn := f_listed) rfl rfl fun n hn M c Q X q => ?_
  simp only [f_listed, b_listed]
  walk_at "ms"
  cases l with
  | nil =>
    walk_at "ms"
    exact gc_l q
  | cons a r =>
    have : decide ((0 : Int) < (((a :: r).map D.str).length : Int)) = true := decide_eq_true (by simp)
    rw [this]
    walk_at "ms"
    have hj : mtOf M .join (.str " ") [.fz ((a :: r).map D.str)] = some (.str (joinS " " (a :: r)), M) := by
      show ((Mp.strS ((a :: r).map D.str)).bind fun ys => if (ys.map String.length).sum + ys.length * " ".length ≤ line then some (D.str (joinS " " ys), M) else none) = _
      rw [strs_map, Option.bind_some, if_pos]
      have h1 := sum_le (l := (a :: r).map String.length) (k := 20) fun x hx => by
        obtain ⟨s, hs, rfl⟩ := List.mem_map.mp hx
        exact h s hs
      rw [List.length_map] at h1
      rw [line_val, show " ".length = 1 from rfl]
      omega
    refine ⟨rfl, ?_⟩
    have hj' := hj
    simp only [List.map_cons] at hj'
    rw [hj']
    exact gc_l q
theorem shown_run_ok {p : Pg} (hp : p.ok) {run : List (Nat × Option Int)} (h : ∀ q ∈ run, q.1 < p.hands.length ∧ ∀ v, q.2 = some v → rv v) (hl : run.length ≤ 100) : Ev 2 "shown_run" [p.enc, .tup (run.map stD)] (.str (runT p run)) := by
  refine Ev.intro (fn := f_shown_run) rfl rfl fun n hn' M c Q X q => ?_
  simp only [f_shown_run, b_shown_run]
  walk_at "ms"
  refine wLc_map (fun d => match d with
    | .tup [.int i, .non] => .str (spT p (i.toNat, none))
    | .tup [.int i, .int v] => .str (spT p (i.toNat, some v))
    | _ => .non) (ok_none _ _) _ _ (fun x hx R hR => ?_) (by simp; rw [line_val]; omega) ?_
  · obtain ⟨⟨i, g⟩, hq, rfl⟩ := List.mem_map.mp hx
    walk_at "ms"
    refine shown_step_ok hp (h _ hq).1 (h _ hq).2 n (by omega) M c _ _ ?_
    cases g <;> simpa [stD, optI] using hR
  · walk_at "ms"
    have : (List.map (fun x => frz (match x with
      | .tup [.int i, .non] => .str (spT p (i.toNat, none))
      | .tup [.int i, .int v] => .str (spT p (i.toNat, some v))
      | _ => .non)) (run.map stD)) = (run.map (spT p)).map .str := by
      rw [List.map_map, List.map_map]
      refine List.map_congr_left fun q _ => ?_
      obtain ⟨i, g⟩ := q
      cases g <;> rfl
    rw [this]
    refine listed_ok (l := run.map (spT p)) (fun s hs => ?_) (by simpa using hl) n (by omega) M c _ _ (gc_l ?_)
    · obtain ⟨a, ha, rfl⟩ := List.mem_map.mp hs
      exact spT_len hp (h a ha).2
    · unfold runT at q
      simpa using q

/-! ### the tape -/
def tpc (ns : List Int) (a b c : Int) : MO := .lst [.scr ns, .int a, .int b, .int c]
def Tp (ns : List Int) (m : MO) : Prop := ∃ a b c : Int, m = tpc ns a b c ∧ 0 ≤ a ∧ 0 ≤ b ∧ 0 ≤ c
theorem ix_t0 (ns : List Int) (a b c : Int) (L : Me) : ixOf (tpc ns a b c :: L) (.ref 0) (.int 0) = some (.scr ns) := (rfl)
theorem ix_t1 (ns : List Int) (a b c : Int) (L : Me) : ixOf (tpc ns a b c :: L) (.ref 0) (.int 1) = some (.int a) := (rfl)
theorem ix_t2 (ns : List Int) (a b c : Int) (L : Me) : ixOf (tpc ns a b c :: L) (.ref 0) (.int 2) = some (.int b) := (rfl)
theorem ix_t3 (ns : List Int) (a b c : Int) (L : Me) : ixOf (tpc ns a b c :: L) (.ref 0) (.int 3) = some (.int c) := (rfl)
theorem st_t1 (ns : List Int) (a b c z : Int) (L : Me) : stOf (tpc ns a b c :: L) (.ref 0) (.int 1) (.int z) = some (tpc ns z b c :: L) := (rfl)
theorem st_t2 (ns : List Int) (a b c z : Int) (L : Me) : stOf (tpc ns a b c :: L) (.ref 0) (.int 2) (.int z) = some (tpc ns a z c :: L) := (rfl)
theorem st_t3 (ns : List Int) (a b c z : Int) (L : Me) : stOf (tpc ns a b c :: L) (.ref 0) (.int 3) (.int z) = some (tpc ns a b z :: L) := (rfl)
theorem frz_scr (ns : List Int) : frz (.scr ns) = .scr ns := (rfl)
theorem len_scr (M : Me) (ns : List Int) (Q : QD) : wBi M .len [.scr ns] Q = Q (.int ns.length) M := by
  show Q (.int ((ns.map D.int).length : Nat)) M = _
  rw [List.length_map]
theorem abs_int (M : Me) (i : Int) (Q : QD) : wBi M .abs [.int i] Q = Q (.int (if i < 0 then -i else i)) M := (rfl)
theorem pow18 (M : Me) : bin M .pow (.int 10) (.int 18) = some (.int 1000000000000000000) := by
  show (if (0 : Int) ≤ 18 ∧ (18 : Int) ≤ 1000000 ∧ (10 : Int).natAbs < 2 ^ 64 then some (D.int (10 ^ 18)) else none) = _
  rw [if_pos (by decide)]
  rfl
theorem ix_scr (M : Me) (ns : List Int) (i : Int) : ixOf M (.scr ns) (.int i) = pix (ns.map .int) i := (rfl)
theorem pix_in {ns : List Int} {i : Int} (h : 0 ≤ i) (h2 : i < ns.length) : ∃ z : Int, pix (ns.map D.int) i = some (.int z) := by
  obtain ⟨j, rfl⟩ : ∃ j : Nat, i = (j : Int) := ⟨i.toNat, by omega⟩
  rw [pix_nat, List.getElem?_map, List.getElem?_eq_getElem (by omega)]
  exact ⟨_, rfl⟩
/-- behind a call, the tape changed -/
theorem gc_t {n : Nat} {N M' : Me} {Q : QD} {d : D} (hl : N.length = n) (c : Cl N) (hd : clsD n d = true) (ht : M'.take n = N) (h : Q d N) : gcQ n Q d M' := by
  subst hl
  exact .inr (.inl ⟨⟨hd, by rw [ht]; exact c⟩, by rw [ht]; exact h⟩)
theorem Tp.cl {ns : List Int} {m m' : MO} {L : Me} (h : Cl (m :: L)) (t : Tp ns m') : Cl (m' :: L) := by
  obtain ⟨a, b, c, rfl, _⟩ := t
  unfold Cl clsM at h ⊢
  simp only [List.all_cons, Bool.and_eq_true, List.length_cons] at h ⊢
  exact ⟨rfl, h.2⟩
theorem opt_s {α : Type} (a : α) (Q : α → Prop) : opt (some a) Q = Q a := (rfl)
/-! ### a body cut in two -/
def Ss.tk : Nat → Mp.Ss → Mp.Ss
  | 0, _ => .nil
  | _ + 1, .nil => .nil
  | n + 1, .cons s r => .cons s (Ss.tk n r)
def Ss.dp : Nat → Mp.Ss → Mp.Ss
  | 0, b => b
  | _ + 1, .nil => .nil
  | n + 1, .cons _ r => Ss.dp n r
theorem cut (C : Cn) (n : Nat) : ∀ (k : Nat) (b : Mp.Ss) (σ : Sg) (M : Me) (P : Post), wSs C (callN C n) (Ss.tk k b) σ M { P with nx := fun σ1 M1 => wSs C (callN C n) (Ss.dp k b) σ1 M1 P } → wSs C (callN C n) b σ M P
  | 0, b, σ, M, P, h => h
  | k + 1, .nil, σ, M, P, h => h
  | k + 1, .cons s r, σ, M, P, h => by
    rw [Ss.tk, wSs] at h
    rw [wSs]
    refine wS_mono (callN_mono C n) s σ M ?_ h
    exact ⟨fun σ1 M1 h1 => cut C n k r σ1 M1 P h1, fun _ _ h => h, fun _ _ h => h, fun _ _ h => h, fun _ _ _ h => h⟩
local macro_rules | `(tactic| walk_at "mt") => `(tactic| try simp only [ix_t0, ix_t1, ix_t2, ix_t3, st_t1, st_t2, st_t3, frz_scr, len_scr, abs_int, ix_scr, it_tup, it_fz, it_tl, it_str, isi_str, isi_tup, isi_int, isi_int_bool, asgO, Mp.wipes, Mp.wipe1, al_ref, al_tl, al_tup, zip0,
  wSs, wS, wE, wT, wEs, wEt, wO, wI_of, wI_enum, wI_zip, start_def, List.map_cons, List.map_nil, List.length_cons, List.length_nil, List.cons_append, List.nil_append, Nat.reduceAdd, Nat.reduceSub, List.replicate,
  get0, getS, set0, setS, ssets0, ssetsS, seq_tup, seq_fz, seq_tl, opt_s, Option.bind_some, Option.map_some, frz_int, frz_str, frz_tup, frz_ref, frz_tl, frz_fz, frz_non, frz_bl, cmp_eq_str, cmp_ne_str, cmp_eq_int, cmp_ne_int, cmp_is_non, cmp_isnot_non, cmp_lt, cmp_le, cmp_gt, cmp_ge, bin_add_int, bin_sub_int,
  ix_tup, ix_fz, ix_tl, pix0, pix1, pix2, pix3, pix4, tru_bl, isN_non, isN_bl, isN_int, isN_str, isN_tup, isN_fz, isN_tl, isN_ref, wBi_int_bl, wBi_int_int, wBi_len_tup, wBi_len_fz, wBi_len_tl, wBi_tuple_tl, wBi_tuple_fz, wBi_list_tup,
  frz_enc, frz_encP, br_true, br_false, decide_true, decide_false, Bool.not_true, Bool.not_false, reduceCtorEq, String.reduceEq, decide_eq_true_eq])
theorem mix_ok (M : Me) (z a k : Int) (hk : 0 < k) {Q : D → Prop} (q : ∀ w : Int, 0 ≤ w → w < k → Q (.int w)) : opt (bin M .mod (.int z) (.int 2147483647)) fun d =>
    opt (bin M .mul d (.int 48271)) fun d => opt (bin M .mul (.int a) (.int 7919)) fun d_1 => opt (bin M .add d d_1) fun d => opt (bin M .add d (.int 12345)) fun d => opt (bin M .mod d (.int 2147483629)) fun d =>
    opt (bin M .add (frz d) (.int 40692)) fun d_2 => opt (bin M .mul (frz d) d_2) fun d => opt (bin M .mod d (.int 2147483587)) fun d => opt (bin M .mul (frz d) (.int 16807)) fun d => opt (bin M .mod d (.int 2147483563)) fun d => opt (bin M .mod d (.int k)) fun d => Q d := by
  rw [bin_mod_int _ (by decide), opt_some, bin_mul_int _ (.inr (by decide)), opt_some, bin_mul_int _ (.inr (by decide)), opt_some, bin_add_int, opt_some, bin_add_int, opt_some, bin_mod_int _ (by decide), opt_some]
  have h1 : 0 ≤ (z % 2147483647 * 48271 + a * 7919 + 12345) % 2147483629 := Int.emod_nonneg _ (by decide)
  have h2 : (z % 2147483647 * 48271 + a * 7919 + 12345) % 2147483629 < 2147483629 := Int.emod_lt_of_pos _ (by decide)
  generalize (z % 2147483647 * 48271 + a * 7919 + 12345) % 2147483629 = y at h1 h2
  rw [frz_int, bin_add_int, opt_some, bin_mul_int _ (.inl ⟨by omega, by omega⟩), opt_some, bin_mod_int _ (by decide), opt_some, frz_int, bin_mul_int _ (.inr (by decide)), opt_some, bin_mod_int _ (by decide), opt_some, bin_mod_int _ hk, opt_some]
  exact q _ (Int.emod_nonneg _ (by omega)) (Int.emod_lt_of_pos _ hk)
theorem draw_ok {ns : List Int} {n : Nat} (hn : 1 ≤ n) {k : Int} (hk : 0 < k) (hk2 : k < 2 ^ 62) {m : MO} (hm : Tp ns m) {L : Me} {Q : QD} {X : QX} (q : ∀ r m', Tp ns m' → 0 ≤ r → r < k → Q (.int r) (m' :: L)) : callN cn n "_law_draw" [.ref 0, .int k] (m :: L) Q X := by
  obtain ⟨n, rfl⟩ : ∃ j, n = j + 1 := ⟨n - 1, by omega⟩
  obtain ⟨a, b, c, rfl, ha, hb, hc⟩ := hm
  refine run1 (fn := f__law_draw) rfl rfl ?_
  have tail : ∀ (a b c : Int) (o3 o4 o5 : Option D), 0 ≤ a → 0 ≤ b → 0 ≤ c → wSs cn (callN cn n) (Ss.dp 3 b__law_draw) [some (.ref 0), some (.int k), some (.scr ns), o3, o4, o5] (tpc ns a b c :: L) { nx := fun _ M' => gcQ (L.length + 1) Q .non M', rt := gcQ (L.length + 1) Q, bk := fun _ _ => False, ct := fun _ _ => False, ex := fun x _ M' => X x M' } := fun a b c o3 o4 o5 ha hb hc => by
    simp only [b__law_draw, Ss.dp]
    walk_at "mt"
    by_cases h0 : 0 < b
    · rw [decide_eq_true h0]
      walk_at "mt"
      rw [bin_mod_int _ hk]
      walk_at "mt"
      rw [bin_div_int _ ⟨hk, by omega⟩]
      walk_at "mt"
      exact gc_l (q _ _ ⟨a, b / k, c, rfl, ha, Int.ediv_nonneg hb (by omega), hc⟩ (Int.emod_nonneg _ (by omega)) (Int.emod_lt_of_pos _ hk))
    · rw [decide_eq_false h0]
      walk_at "mt"
      by_cases h1 : (0 : Int) < ns.length
      · rw [decide_eq_true h1]
        walk_at "mt"
        rw [bin_mod_int _ h1]
        walk_at "mt"
        obtain ⟨z, hz⟩ := pix_in (ns := ns) (i := a % (ns.length : Int)) (Int.emod_nonneg _ (by omega)) (Int.emod_lt_of_pos _ h1)
        rw [hz]
        walk_at "mt"
        refine mix_ok _ z a k hk fun w h0 h1 => ?_
        exact gc_l (q _ _ ⟨a, b, c, rfl, ha, hb, hc⟩ h0 h1)
      · rw [decide_eq_false h1]
        walk_at "mt"
        refine mix_ok _ 0 a k hk fun w h0 h1 => ?_
        exact gc_l (q _ _ ⟨a, b, c, rfl, ha, hb, hc⟩ h0 h1)
  refine cut _ _ 3 _ _ _ _ ?_
  simp only [f__law_draw]
  simp only [b__law_draw, Ss.tk]
  simp only [b__law_draw] at tail
  walk_at "mt"
  by_cases h0 : b = 0
  · rw [decide_eq_true h0]
    walk_at "mt"
    by_cases h1 : c < (ns.length : Int)
    · rw [decide_eq_true h1]
      walk_at "mt"
      obtain ⟨z, hz⟩ := pix_in hc h1
      rw [hz]
      walk_at "mt"
      rw [pow18]
      walk_at "mt"
      rw [bin_div_int _ ⟨by decide, by decide⟩]
      walk_at "mt"
      have hz0 : (0 : Int) ≤ if z < 0 then -z else z := by split <;> omega
      exact tail _ _ _ _ _ _ (by omega) (Int.ediv_nonneg hz0 (by decide)) (by omega)
    · rw [decide_eq_false h1]
      walk_at "mt"
      exact tail _ _ _ _ _ _ (by omega) hb hc
  · rw [decide_eq_false h0]
    walk_at "mt"
    exact tail _ _ _ _ _ _ (by omega) hb hc

/-! ### the generator: sums and rows -/
structure Kit where
  bs : List String
  ks : List String
  ls : List String
  ds : List String
  ps : List String
def Kit.dic (k : Kit) : List (D × D) := [(.str "boxes", strsF k.bs), (.str "locks", strsF k.ks), (.str "lanes", strsF k.ls), (.str "doors", strsF k.ds), (.str "pockets", strsF k.ps)]
structure Kit.ok (k : Kit) : Prop where
  b1 : 0 < k.bs.length
  b2 : k.bs.length ≤ 4
  k2 : k.ks.length ≤ 4
  l2 : k.ls.length ≤ 4
  d2 : k.ds.length ≤ 4
  p1 : 0 < k.ps.length
  p2 : k.ps.length ≤ 4
theorem br_ndec {p : Prop} [Decidable p] {A B : Prop} (h1 : ¬ p → A) (h2 : p → B) : br (!decide p) A B := by
  by_cases h : p
  · rw [decide_eq_true h]; exact h2 h
  · rw [decide_eq_false h]; exact h1 h
theorem ix_kit {k : Kit} {j : Nat} {L : Me} (hk : L[j]? = some (.dic k.dic)) (m : MO) (s : String) : ixOf (m :: L) (.ref (j + 1)) (.str s) = look k.dic (.str s) := ix_dic (M := m :: L) (by simpa using hk) s
theorem kit_b (k : Kit) : look k.dic (.str "boxes") = some (.fz (k.bs.map .str)) := (rfl)
theorem kit_k (k : Kit) : look k.dic (.str "locks") = some (.fz (k.ks.map .str)) := (rfl)
theorem kit_l (k : Kit) : look k.dic (.str "lanes") = some (.fz (k.ls.map .str)) := (rfl)
theorem kit_d (k : Kit) : look k.dic (.str "doors") = some (.fz (k.ds.map .str)) := (rfl)
theorem kit_p (k : Kit) : look k.dic (.str "pockets") = some (.fz (k.ps.map .str)) := (rfl)
theorem pix_strs {l : List String} {i : Int} (h : 0 ≤ i) (h2 : i < l.length) : ∃ s, s ∈ l ∧ pix (l.map D.str) i = some (.str s) := by
  obtain ⟨j, rfl⟩ : ∃ j : Nat, i = (j : Int) := ⟨i.toNat, by omega⟩
  rw [pix_nat, List.getElem?_map]
  have hj : j < l.length := by omega
  rw [List.getElem?_eq_getElem hj]
  exact ⟨_, List.getElem_mem hj, rfl⟩
theorem pocket_ok {ns : List Int} {n : Nat} (hn : 2 ≤ n) {m : MO} (hm : Tp ns m) {L : Me} {j : Nat} {k : Kit} (hk : L[j]? = some (.dic k.dic)) (ko : k.ok) {Q : QD} {X : QX}
    (q : ∀ s m', Tp ns m' → s ∈ k.ps → Q (.str s) (m' :: L)) : callN cn n "_law_pocket" [.ref 0, .ref (j + 1)] (m :: L) Q X := by
  obtain ⟨n, rfl⟩ : ∃ j, n = j + 1 := ⟨n - 1, by omega⟩
  have h1 := ko.p1
  have h2 := ko.p2
  refine run1 (fn := f__law_pocket) rfl rfl ?_
  simp only [f__law_pocket, b__law_pocket]
  walk_at "mt"
  simp only [ix_kit hk, kit_p]
  walk_at "mt"
  simp only [List.length_map]
  refine draw_ok (by omega) (by omega) (by omega) hm fun r m1 hm1 h3 h4 => ?_
  obtain ⟨s, hs, e⟩ := pix_strs h3 h4
  walk_at "mt"
  rw [e]
  exact gc_l (q s m1 hm1 hs)
theorem two_pick {α : Type} {a b : α} {p : Prop} [Decidable p] : pix [a, b] (if p then 1 else 0) = some (if p then b else a) := by
  by_cases h : p <;> simp only [h, if_true, if_false] <;> rfl
theorem sum_ok {ns : List Int} : ∀ (dp : Nat) {n : Nat} (hn : dp + 3 ≤ n) {m : MO} (hm : Tp ns m) {L : Me} {j : Nat} {k : Kit} (hk : L[j]? = some (.dic k.dic)) (ko : k.ok) {Q : QD} {X : QX}
    (q : ∀ (s : Su) m', Tp ns m' → s.ok → s.depth ≤ dp + 1 → Q s.enc (m' :: L)), callN cn n "_law_sum" [.ref 0, .ref (j + 1), .int dp] (m :: L) Q X := by
  intro dp
  induction dp with
  | zero =>
    intro n hn m hm L j k hk ko Q X q
    obtain ⟨n, rfl⟩ : ∃ j, n = j + 1 := ⟨n - 1, by omega⟩
    refine run1 (fn := f__law_sum) rfl rfl ?_
    simp only [f__law_sum, b__law_sum]
    walk_at "mt"
    refine draw_ok (by omega) (by decide) (by decide) hm fun r m1 hm1 h3 h4 => ?_
    walk_at "mt"
    rw [decide_eq_true (show ((0 : Nat) : Int) = 0 from rfl)]
    walk_at "mt"
    rw [bin_mod_int _ (by decide)]
    walk_at "mt"
    refine br_dec (fun h => ?_) (fun h => ?_)
    · refine pocket_ok (by omega) hm1 hk ko fun s m2 hm2 hs => ?_
      walk_at "mt"
      exact ⟨line9 (by simp), gc_l (q (.of s) m2 hm2 trivial (Nat.le_refl _))⟩
    · refine draw_ok (by omega) (by decide) (by decide) hm1 fun r1 m2 hm2 h5 h6 => ?_
      walk_at "mt"
      refine draw_ok (by omega) (by decide) (by decide) hm2 fun r2 m3 hm3 h7 h8 => ?_
      walk_at "mt"
      refine ⟨line9 (by simp), ?_⟩
      refine draw_ok (by omega) (by decide) (by decide) hm3 fun r3 m4 hm4 h9 h10 => ?_
      walk_at "mt"
      rw [two_pick]
      walk_at "mt"
      refine ⟨line9 (by simp), gc_l ?_⟩
      by_cases h : r3 = 0
      · simp only [h, if_true]
        exact q (.num r2) m4 hm4 ⟨h7, h8⟩ (Nat.le_refl _)
      · simp only [h, if_false]
        exact q (.num r1) m4 hm4 ⟨h5, by omega⟩ (Nat.le_refl _)
  | succ dp ih =>
    intro n hn m hm L j k hk ko Q X q
    obtain ⟨n, rfl⟩ : ∃ j, n = j + 1 := ⟨n - 1, by omega⟩
    have hdp : (((dp + 1 : Nat) : Int) - 1) = (dp : Int) := by omega
    refine run1 (fn := f__law_sum) rfl rfl ?_
    simp only [f__law_sum, b__law_sum]
    walk_at "mt"
    refine draw_ok (by omega) (by decide) (by decide) hm fun r m1 hm1 h3 h4 => ?_
    walk_at "mt"
    rw [decide_eq_false (show ¬ ((dp + 1 : Nat) : Int) = 0 by omega)]
    walk_at "mt"
    refine br_dec (fun h => ?_) (fun h => ?_)
    · rw [bin_mod_int _ (by decide)]
      walk_at "mt"
      refine br_dec (fun h => ?_) (fun h => ?_)
      · refine pocket_ok (by omega) hm1 hk ko fun s m2 hm2 hs => ?_
        walk_at "mt"
        exact ⟨line9 (by simp), gc_l (q (.of s) m2 hm2 trivial (by show 1 ≤ _; omega))⟩
      · refine draw_ok (by omega) (by decide) (by decide) hm1 fun r1 m2 hm2 h5 h6 => ?_
        walk_at "mt"
        refine draw_ok (by omega) (by decide) (by decide) hm2 fun r2 m3 hm3 h7 h8 => ?_
        walk_at "mt"
        refine ⟨line9 (by simp), ?_⟩
        refine draw_ok (by omega) (by decide) (by decide) hm3 fun r3 m4 hm4 h9 h10 => ?_
        walk_at "mt"
        rw [two_pick]
        walk_at "mt"
        refine ⟨line9 (by simp), gc_l ?_⟩
        by_cases h : r3 = 0
        · simp only [h, if_true]
          exact q (.num r2) m4 hm4 ⟨h7, h8⟩ (by show 1 ≤ _; omega)
        · simp only [h, if_false]
          exact q (.num r1) m4 hm4 ⟨h5, by omega⟩ (by show 1 ≤ _; omega)
    · refine br_dec (fun h => ?_) (fun h => ?_)
      · rw [hdp]
        refine ih (by omega) hm1 hk ko fun s m2 hm2 hs hd => ?_
        walk_at "mt"
        exact ⟨line9 (by simp), gc_l (q (.neg s) m2 hm2 hs (by show s.depth + 1 ≤ _; omega))⟩
      · refine ⟨line9 (by simp), ?_⟩
        refine draw_ok (by omega) (by decide) (by decide) hm1 fun r1 m2 hm2 h5 h6 => ?_
        walk_at "mt"
        obtain ⟨w, hw, e⟩ := pix_strs (l := ["add", "sub", "mul", "less", "same"]) h5 h6
        rw [show [D.str "add", .str "sub", .str "mul", .str "less", .str "same"] = ["add", "sub", "mul", "less", "same"].map D.str from rfl, e]
        walk_at "mt"
        rw [hdp]
        refine ih (by omega) hm2 hk ko fun s m3 hm3 hs hd => ?_
        walk_at "mt"
        refine ih (by omega) hm3 hk ko fun s2 m4 hm4 hs2 hd2 => ?_
        walk_at "mt"
        exact ⟨line9 (by simp), gc_l (q (.op w s s2) m4 hm4 ⟨hw, hs, hs2⟩ (by show max _ _ + 1 ≤ _; omega))⟩

def Kit.pg (k : Kit) : Pg := ⟨k.bs.map fun s => (s, 0), k.ks, k.ls, k.ds, []⟩
/-- a row that fits a kit, in a hand of n rows -/
def RwL (k : Kit) (n : Nat) (r : Rw) : Prop := r.ok k.pg n ∧ ∀ x ∈ r.pks, x ∈ k.ps
def RwN (k : Kit) (r : Rw) : Prop := ∀ n, RwL k n r
theorem kit_pg (k : Kit) : k.pg.boxes.map (·.1) = k.bs := by
  show (k.bs.map fun s => (s, (0 : Int))).map (·.1) = k.bs
  rw [List.map_map]
  exact List.map_id _
theorem RwL.mono {k : Kit} {n m : Nat} {r : Rw} (h : RwL k n r) (e : n ≤ m) : RwL k m r := by
  refine ⟨?_, h.2⟩
  have := h.1
  cases r with
  | leap g s => exact ⟨Nat.le_trans this.1 e, this.2⟩
  | _ => exact this
theorem su_fine {s : Su} {d : Nat} (h : s.ok) (hd : s.depth ≤ d + 1) (h4 : d + 1 ≤ 4) : s.fine := ⟨h, by omega⟩
theorem at_box_ok {ns : List Int} {n : Nat} (hn : 6 ≤ n) {m : MO} (hm : Tp ns m) {L : Me} {j : Nat} {k : Kit} (hk : L[j]? = some (.dic k.dic)) (ko : k.ok) {Q : QD} {X : QX}
    (q : ∀ r m', Tp ns m' → RwN k r → Q r.enc (m' :: L)) : callN cn n "_law_at_box" [.ref 0, .ref (j + 1)] (m :: L) Q X := by
  obtain ⟨n, rfl⟩ : ∃ j, n = j + 1 := ⟨n - 1, by omega⟩
  have h1 := ko.b1
  have h2 := ko.b2
  refine run1 (fn := f__law_at_box) rfl rfl ?_
  simp only [f__law_at_box, b__law_at_box]
  walk_at "mt"
  simp only [ix_kit hk, kit_b]
  walk_at "mt"
  simp only [List.length_map]
  refine draw_ok (by omega) (by omega) (by omega) hm fun r m1 hm1 h3 h4 => ?_
  obtain ⟨b, hb, e⟩ := pix_strs h3 h4
  walk_at "mt"
  rw [e]
  walk_at "mt"
  refine draw_ok (by omega) (by decide) (by decide) hm1 fun r1 m2 hm2 h5 h6 => ?_
  walk_at "mt"
  refine br_dec (fun h => ?_) (fun h => ?_)
  · refine pocket_ok (by omega) hm2 hk ko fun s m3 hm3 hs => ?_
    walk_at "mt"
    refine ⟨line9 (by simp), gc_l (q (.get s b) m3 hm3 fun n => ⟨?_, ?_⟩)⟩
    · show b ∈ k.pg.boxes.map (·.1)
      rw [kit_pg]; exact hb
    · intro x hx
      rw [List.mem_singleton.mp hx]; exact hs
  · have e2 : (D.int 2) = .int ((2 : Nat) : Int) := rfl
    rw [e2]
    refine sum_ok 2 (by omega) hm2 hk ko fun s m3 hm3 hs hd => ?_
    walk_at "mt"
    refine ⟨line9 (by simp), gc_l (q (.put b s) m3 hm3 fun n => ⟨⟨?_, su_fine hs hd (by omega)⟩, fun x hx => (by cases hx)⟩)⟩
    show b ∈ k.pg.boxes.map (·.1)
    rw [kit_pg]; exact hb
theorem cat_tl (M : Me) {a b : List D} (h : a.length + b.length ≤ line) : bin M .add (.tl a) (.tl b) = some (.tl (a ++ b)) := if_pos ⟨rfl, rfl, h⟩
theorem mul_tl (M : Me) {a : List D} (p : Prop) [Decidable p] (h : a.length ≤ line) : bin M .mul (.tl a) (.int (if p then 1 else 0)) = some (.tl (if p then a else [])) := by
  show (if notScr (.tl a) = true ∧ -(2 ^ 63) ≤ (if p then (1 : Int) else 0) ∧ (if p then (1 : Int) else 0) < 2 ^ 63 ∧ a.length * (if p then (1 : Int) else 0).toNat ≤ line then some (D.tl (List.replicate (if p then (1 : Int) else 0).toNat a).flatten) else none) = _
  by_cases hp : p
  · simp only [hp, if_true]
    rw [if_pos ⟨rfl, by decide, by decide, by simpa using h⟩]
    simp
  · simp only [hp, if_false]
    rw [if_pos ⟨rfl, by decide, by decide, by simp⟩]
    simp
theorem by_lock_ok {ns : List Int} {n : Nat} (hn : 7 ≤ n) {m : MO} (hm : Tp ns m) {L : Me} {j : Nat} {k : Kit} (hk : L[j]? = some (.dic k.dic)) (ko : k.ok) (h0 : 0 < k.ks.length) {Q : QD} {X : QX}
    (q : ∀ (rs : List Rw) m', Tp ns m' → (∀ r ∈ rs, RwN k r) → rs.length ≤ 4 → Q (.tl (rs.map Rw.enc)) (m' :: L)) : callN cn n "_law_by_lock" [.ref 0, .ref (j + 1)] (m :: L) Q X := by
  obtain ⟨n, rfl⟩ : ∃ j, n = j + 1 := ⟨n - 1, by omega⟩
  have h2 := ko.k2
  refine run1 (fn := f__law_by_lock) rfl rfl ?_
  simp only [f__law_by_lock, b__law_by_lock]
  walk_at "mt"
  simp only [ix_kit hk, kit_k]
  walk_at "mt"
  simp only [List.length_map]
  refine draw_ok (by omega) (by omega) (by omega) hm fun r m1 hm1 h3 h4 => ?_
  obtain ⟨b, hb, e⟩ := pix_strs h3 h4
  walk_at "mt"
  rw [e]
  walk_at "mt"
  refine ⟨line9 (by simp), line9 (by simp), ?_⟩
  refine wI_rng ?_
  walk_at "mt"
  refine draw_ok (by omega) (by decide) (by decide) hm1 fun r1 m2 hm2 h5 h6 => ?_
  refine ⟨r1.toNat, by rw [Int.toNat_of_nonneg h5], by omega, ?_⟩
  refine wLc_inv (fun r acc M => ∃ (m' : MO) (rs : List Rw), Tp ns m' ∧ M = m' :: L ∧ acc = rs.map Rw.enc ∧ (∀ x ∈ rs, RwN k x) ∧ acc.length + r.length ≤ 2) (fun _ _ _ _ => trivial) ?_ ?_ _ _ _ ⟨m2, [], hm2, rfl, rfl, fun _ h => (by cases h), by simp [rgN]; omega⟩
  · rintro x r acc M ⟨m', rs, g1, rfl, rfl, g2, g3⟩ R hs hno
    simp only [List.length_cons] at g3
    refine ⟨by rw [line_val]; omega, ?_⟩
    walk_at "mt"
    refine at_box_ok (by omega) g1 hk ko fun r0 m3 hm3 hr0 => ?_
    refine hs _ _ (by rw [line_val]; omega) ⟨m3, rs ++ [r0], hm3, rfl, by rw [frz_rw]; simp, ?_, by simp at g3 ⊢; omega⟩
    intro x hx
    rcases List.mem_append.mp hx with hx | hx
    · exact g2 x hx
    · rw [List.mem_singleton.mp hx]; exact hr0
  · rintro acc M ⟨m', rs, g1, rfl, rfl, g2, g3⟩
    have g4 : rs.length ≤ 2 := by simpa using g3
    walk_at "mt"
    rw [cat_tl _ (by simp; rw [line_val]; omega)]
    walk_at "mt"
    refine ⟨line9 (by simp), line9 (by simp), ?_⟩
    refine draw_ok (by omega) (by decide) (by decide) g1 fun r2 m3 hm3 h7 h8 => ?_
    walk_at "mt"
    rw [mul_tl _ _ (line9 (by simp))]
    walk_at "mt"
    have tk : RwN k (.take b) := fun n => ⟨hb, fun x hx => (by cases hx)⟩
    have fr : RwN k (.free b) := fun n => ⟨hb, fun x hx => (by cases hx)⟩
    have fin : ∀ zs : List Rw, zs = [] ∨ zs = [.free b] → opt (bin (m3 :: L) .add (.fz (.tup [.str "take", .str b] :: rs.map Rw.enc)) (.tl (zs.map Rw.enc))) fun d => gcQ (List.length L + 1) Q d (m3 :: L) := fun zs hz => by
      have hzl : zs.length ≤ 1 := by rcases hz with rfl | rfl <;> simp
      have : bin (m3 :: L) .add (.fz (.tup [.str "take", .str b] :: rs.map Rw.enc)) (.tl (zs.map Rw.enc)) = some (.tl ((.take b :: rs ++ zs).map Rw.enc)) := by
        show (if _ then _ else _) = _
        rw [if_pos ⟨rfl, rfl, by simp; rw [line_val]; omega⟩]
        simp [Rw.enc]
      rw [this]
      refine gc_l (q _ m3 hm3 ?_ (by simp; omega))
      intro x hx
      rcases List.mem_append.mp hx with hx | hx
      · rcases List.mem_cons.mp hx with rfl | hx
        · exact tk
        · exact g2 x hx
      · rcases hz with rfl | rfl
        · cases hx
        · rw [List.mem_singleton.mp hx]; exact fr
    by_cases hp : 0 < r2
    · simp only [hp, if_true]
      exact fin [.free b] (.inr rfl)
    · simp only [hp, if_false]
      exact fin [] (.inl rfl)
theorem ne_nil (M : Me) (l : List String) : cmp M .ne (.fz (l.map .str)) (.tl []) = some (!decide (l = [])) := by
  have : ∀ (k : Nat) (l : List String), plns k (l.map .str) = true := fun k l => by
    induction l with
    | nil => rfl
    | cons a r ih => exact ih
  show (if plns 59 (l.map .str) = true ∧ true = true then some (D.eqvs (l.map .str) []) else none).map not = _
  rw [if_pos ⟨this _ l, rfl⟩]
  cases l <;> rfl
theorem len_pos {l : List String} (h : ¬ l = []) : 0 < l.length := by
  cases l with
  | nil => exact absurd rfl h
  | cons _ _ => simp
theorem piece_ok {ns : List Int} {n : Nat} (hn : 8 ≤ n) {m : MO} (hm : Tp ns m) {L : Me} {j : Nat} {k : Kit} (hk : L[j]? = some (.dic k.dic)) (ko : k.ok) {Q : QD} {X : QX}
    (q : ∀ (rs : List Rw) m', Tp ns m' → (∀ r ∈ rs, RwN k r) → rs.length ≤ 4 → Q (.tl (rs.map Rw.enc)) (m' :: L)) : callN cn n "_law_piece" [.ref 0, .ref (j + 1)] (m :: L) Q X := by
  obtain ⟨n, rfl⟩ : ∃ j, n = j + 1 := ⟨n - 1, by omega⟩
  have hl2 := ko.l2
  have hd2 := ko.d2
  have q1 : ∀ (r : Rw) m', Tp ns m' → RwN k r → Q (.tl [r.enc]) (m' :: L) := fun r m' hm' hr => q [r] m' hm' (fun x hx => by rw [List.mem_singleton.mp hx]; exact hr) (by simp)
  have e1 : (D.int 1) = .int ((1 : Nat) : Int) := rfl
  have e2 : (D.int 2) = .int ((2 : Nat) : Int) := rfl
  refine run1 (fn := f__law_piece) rfl rfl ?_
  refine cut _ _ 2 _ _ _ _ ?_
  simp only [f__law_piece]
  have tail : ∀ (r : Int) (m1 : MO), Tp ns m1 → wSs cn (callN cn n) (Ss.dp 2 b__law_piece) [some (.ref 0), some (.ref (j + 1)), some (.int r), none, none] (m1 :: L) { nx := fun _ M' => gcQ (L.length + 1) Q .non M', rt := gcQ (L.length + 1) Q, bk := fun _ _ => False, ct := fun _ _ => False, ex := fun x _ M' => X x M' } := fun r m1 hm1 => by
    have tail2 : wSs cn (callN cn n) (Ss.dp 1 (Ss.dp 2 b__law_piece)) [some (.ref 0), some (.ref (j + 1)), some (.int r), none, none] (m1 :: L) { nx := fun _ M' => gcQ (L.length + 1) Q .non M', rt := gcQ (L.length + 1) Q, bk := fun _ _ => False, ct := fun _ _ => False, ex := fun x _ M' => X x M' } := by
      have tail3 : wSs cn (callN cn n) (Ss.dp 1 (Ss.dp 1 (Ss.dp 2 b__law_piece))) [some (.ref 0), some (.ref (j + 1)), some (.int r), none, none] (m1 :: L) { nx := fun _ M' => gcQ (L.length + 1) Q .non M', rt := gcQ (L.length + 1) Q, bk := fun _ _ => False, ct := fun _ _ => False, ex := fun x _ M' => X x M' } := by
        have tail4 : wSs cn (callN cn n) (Ss.dp 1 (Ss.dp 1 (Ss.dp 1 (Ss.dp 2 b__law_piece)))) [some (.ref 0), some (.ref (j + 1)), some (.int r), none, none] (m1 :: L) { nx := fun _ M' => gcQ (L.length + 1) Q .non M', rt := gcQ (L.length + 1) Q, bk := fun _ _ => False, ct := fun _ _ => False, ex := fun x _ M' => X x M' } := by
          simp only [b__law_piece, Ss.dp]
          walk_at "mt"
          refine br_dec (fun h => ?_) (fun h => ?_)
          · refine pocket_ok (by omega) hm1 hk ko fun s m3 hm3 hs => ?_
            walk_at "mt"
            exact ⟨line9 (by simp), line9 (by simp), gc_l (q1 (.clock s) m3 hm3 fun n => ⟨trivial, fun x hx => by rw [List.mem_singleton.mp hx]; exact hs⟩)⟩
          · refine br_dec (fun h => ?_) (fun h => ?_)
            · refine pocket_ok (by omega) hm1 hk ko fun s m3 hm3 hs => ?_
              walk_at "mt"
              refine ⟨line9 (by simp), ?_⟩
              refine draw_ok (by omega) (by decide) (by decide) hm3 fun r2 m4 hm4 h7 h8 => ?_
              have : r2 = 0 ∨ r2 = 1 ∨ r2 = 2 := by omega
              rcases this with rfl | rfl | rfl
              · walk_at "mt"
                exact ⟨line9 (by simp), line9 (by simp), gc_l (q1 (.lot s 2) m4 hm4 fun n => ⟨⟨by decide, by decide⟩, fun x hx => by rw [List.mem_singleton.mp hx]; exact hs⟩)⟩
              · walk_at "mt"
                exact ⟨line9 (by simp), line9 (by simp), gc_l (q1 (.lot s 3) m4 hm4 fun n => ⟨⟨by decide, by decide⟩, fun x hx => by rw [List.mem_singleton.mp hx]; exact hs⟩)⟩
              · walk_at "mt"
                exact ⟨line9 (by simp), line9 (by simp), gc_l (q1 (.lot s 1000) m4 hm4 fun n => ⟨⟨by decide, by decide⟩, fun x hx => by rw [List.mem_singleton.mp hx]; exact hs⟩)⟩
            · refine pocket_ok (by omega) hm1 hk ko fun s m3 hm3 hs => ?_
              walk_at "mt"
              rw [e2]
              refine sum_ok 2 (by omega) hm3 hk ko fun su m4 hm4 hsu hd => ?_
              walk_at "mt"
              exact ⟨line9 (by simp), line9 (by simp), gc_l (q1 (.lett s su) m4 hm4 fun n => ⟨su_fine hsu hd (by omega), fun x hx => by rw [List.mem_singleton.mp hx]; exact hs⟩)⟩
        refine cut _ _ 1 _ _ _ _ ?_
        generalize Ss.dp 1 (Ss.dp 1 (Ss.dp 1 (Ss.dp 2 b__law_piece))) = T at tail4 ⊢
        simp only [b__law_piece, Ss.dp, Ss.tk]
        walk_at "mt"
        refine br_dec (fun h => ?_) (fun h => ?_)
        · rw [ix_kit hk, kit_d]
          walk_at "mt"
          refine ⟨line9 (by simp), ?_⟩
          rw [ne_nil]
          walk_at "mt"
          refine br_ndec (fun h => ?_) (fun h => tail4)
          have h0 := len_pos h
          simp only [List.length_map]
          refine draw_ok (by omega) (by omega) (by omega) hm1 fun r1 m2 hm2 h5 h6 => ?_
          obtain ⟨b, hb, e⟩ := pix_strs h5 h6
          walk_at "mt"
          rw [e]
          walk_at "mt"
          rw [e1]
          refine sum_ok 1 (by omega) hm2 hk ko fun su m4 hm4 hsu hd => ?_
          walk_at "mt"
          refine ⟨line9 (by simp), ?_⟩
          refine pocket_ok (by omega) hm4 hk ko fun s m5 hm5 hs => ?_
          walk_at "mt"
          refine ⟨line9 (by simp), line9 (by simp), ?_⟩
          refine draw_ok (by omega) (by decide) (by decide) hm5 fun r2 m6 hm6 h7 h8 => ?_
          have : r2 = 0 ∨ r2 = 1 := by omega
          rcases this with rfl | rfl
          · walk_at "mt"
            exact ⟨line9 (by simp), gc_l (q1 (.say b su) m6 hm6 fun n => ⟨⟨hb, su_fine hsu hd (by omega)⟩, fun x hx => (by cases hx)⟩)⟩
          · walk_at "mt"
            exact ⟨line9 (by simp), gc_l (q1 (.hear s b) m6 hm6 fun n => ⟨hb, fun x hx => by rw [List.mem_singleton.mp hx]; exact hs⟩)⟩
        · exact tail4
      refine cut _ _ 1 _ _ _ _ ?_
      generalize Ss.dp 1 (Ss.dp 1 (Ss.dp 2 b__law_piece)) = T at tail3 ⊢
      simp only [b__law_piece, Ss.dp, Ss.tk]
      walk_at "mt"
      refine br_dec (fun h => ?_) (fun h => ?_)
      · rw [ix_kit hk, kit_l]
        walk_at "mt"
        refine ⟨line9 (by simp), ?_⟩
        rw [ne_nil]
        walk_at "mt"
        refine br_ndec (fun h => ?_) (fun h => tail3)
        have h0 := len_pos h
        simp only [List.length_map]
        refine draw_ok (by omega) (by omega) (by omega) hm1 fun r1 m2 hm2 h5 h6 => ?_
        obtain ⟨b, hb, e⟩ := pix_strs h5 h6
        walk_at "mt"
        rw [e]
        walk_at "mt"
        refine draw_ok (by omega) (by decide) (by decide) hm2 fun r2 m3 hm3 h7 h8 => ?_
        walk_at "mt"
        refine br_dec (fun h => ?_) (fun h => ?_)
        · rw [e1]
          refine sum_ok 1 (by omega) hm3 hk ko fun su m4 hm4 hsu hd => ?_
          walk_at "mt"
          exact ⟨line9 (by simp), line9 (by simp), gc_l (q1 (.send b su) m4 hm4 fun n => ⟨⟨hb, su_fine hsu hd (by omega)⟩, fun x hx => (by cases hx)⟩)⟩
        · refine pocket_ok (by omega) hm3 hk ko fun s m5 hm5 hs => ?_
          walk_at "mt"
          exact ⟨line9 (by simp), line9 (by simp), gc_l (q1 (.fetch s b) m5 hm5 fun n => ⟨hb, fun x hx => by rw [List.mem_singleton.mp hx]; exact hs⟩)⟩
      · exact tail3
    refine cut _ _ 1 _ _ _ _ ?_
    generalize Ss.dp 1 (Ss.dp 2 b__law_piece) = T at tail2 ⊢
    simp only [b__law_piece, Ss.dp, Ss.tk]
    walk_at "mt"
    refine br_dec (fun h => ?_) (fun h => ?_)
    · rw [ix_kit hk, kit_k]
      walk_at "mt"
      refine ⟨line9 (by simp), ?_⟩
      rw [ne_nil]
      walk_at "mt"
      refine br_ndec (fun h => ?_) (fun h => tail2)
      exact by_lock_ok (by omega) hm1 hk ko (len_pos h) fun rs m2 hm2 hr hl => gc_l (q rs m2 hm2 hr hl)
    · exact tail2
  generalize Ss.dp 2 b__law_piece = T at tail ⊢
  simp only [b__law_piece, Ss.tk]
  walk_at "mt"
  refine draw_ok (by omega) (by decide) (by decide) hm fun r m1 hm1 h3 h4 => ?_
  walk_at "mt"
  refine br_dec (fun h => ?_) (fun h => ?_)
  · refine at_box_ok (by omega) hm1 hk ko fun r0 m2 hm2 hr0 => ?_
    walk_at "mt"
    rw [frz_rw]
    exact ⟨line9 (by simp), gc_l (q1 _ _ hm2 hr0)⟩
  · exact tail r m1 hm1

/-! ### lists of the store -/
theorem lst_cons {m : MO} {N : Me} {i : Nat} {xs : List D} (h : N[i]? = some (.lst xs)) : lstAt (m :: N) (i + 1) = some xs := lst_at (M := m :: N) (by simpa using h)
theorem len_ref {M : Me} {i : Nat} {xs : List D} (h : lstAt M i = some xs) (Q : QD) : wBi M .len [.ref i] Q = Q (.int xs.length) M := by
  show opt ((match lstAt M i with | some xs => some xs.length | none => _).map fun (n : Nat) => D.int (n : Int)) _ = _
  rw [h]
  rfl
theorem tuple_ref {M : Me} {i : Nat} {xs : List D} (h : lstAt M i = some xs) (Q : QD) : wBi M .tuple [.ref i] Q = Q (.tup xs) M := by
  show opt ((lstAt M i).map D.tup) _ = _
  rw [h]
  rfl
theorem cat_ref {M : Me} {i : Nat} {xs b : List D} (h : lstAt M i = some xs) (hl : xs.length + b.length ≤ line) : bin M .add (.ref i) (.tl b) = some (.tl (xs ++ b)) := by
  show (lstAt M i).bind _ = _
  rw [h]
  exact if_pos ⟨rfl, rfl, hl⟩
theorem rc_insert {M : Me} {i : Nat} {xs : List D} (h : lstAt M i = some xs) : mtRc M .insert (.ref i) = true := by
  show (lstAt M i).isSome = true
  rw [h]; rfl
theorem rc_append {M : Me} {i : Nat} {xs : List D} (h : lstAt M i = some xs) : mtRc M .append (.ref i) = true := by
  show (lstAt M i).isSome = true
  rw [h]; rfl
theorem mt_insert {M : Me} {i : Nat} {xs : List D} (h : lstAt M i = some xs) {z : Int} {x : D} (h1 : xs.length < line) (h2 : 0 ≤ z) (h3 : z < 2 ^ 62) : mtOf M .insert (.ref i) [.int z, x] = some (.non, M.set i (.lst (xs.take z.toNat ++ [frz x] ++ xs.drop z.toNat))) := by
  show (lstAt M i).bind _ = _
  rw [h]
  exact if_pos ⟨h1, h2, h3⟩
theorem mt_append {M : Me} {i : Nat} {xs : List D} (h : lstAt M i = some xs) {x : D} (h1 : xs.length < line) : mtOf M .append (.ref i) [x] = some (.non, M.set i (.lst (xs ++ [frz x]))) := by
  show (lstAt M i).bind _ = _
  rw [h]
  exact if_pos h1
theorem take_get {N L : Me} {l j : Nat} {c : MO} (h : N.take l = L) (hk : L[j]? = some c) : N[j]? = some c := by
  rw [← h, List.getElem?_take] at hk
  split at hk
  · exact hk
  · cases hk
theorem take_app {N L G : Me} (h : N.take L.length = L) : (N ++ G).take L.length = L := by
  have hl : L.length ≤ N.length := by
    have := congrArg List.length h
    rw [List.length_take] at this
    omega
  rw [List.take_append_of_le_length hl, h]
theorem take_set {N L : Me} {i : Nat} {c : MO} (h : N.take L.length = L) (hi : L.length ≤ i) : (N.set i c).take L.length = L := by
  rw [List.take_set_of_le hi, h]
theorem get_lt {α : Type} {l : List α} {i : Nat} {x : α} (h : l[i]? = some x) : i < l.length := by
  rcases Nat.lt_or_ge i l.length with h1 | h1
  · exact h1
  · rw [List.getElem?_eq_none h1] at h; cases h
theorem take_len {N L : Me} (h : N.take L.length = L) : L.length ≤ N.length := by
  have := congrArg List.length h
  rw [List.length_take] at this
  omega
theorem get_last (N : Me) (c : MO) : (N ++ [c])[N.length]? = some c := by simp
theorem get_set {N : Me} {i : Nat} {c : MO} (h : i < N.length) : (N.set i c)[i]? = some c := by
  rw [List.getElem?_set_self h]
theorem cls_rws (n : Nat) (rs : List Rw) : clsDs n (rs.map Rw.enc) = true := cls_map _ _ _ fun r _ => by
  have su : ∀ s : Su, clsD n s.enc = true := fun s => by
    induction s with
    | num _ => rfl
    | of _ => rfl
    | neg s ih =>
      show clsDs n [.str "not", s.enc] = true
      simp only [clsDs, ih, Bool.and_true]; rfl
    | op w a b h1 h2 =>
      show clsDs n [.str w, a.enc, b.enc] = true
      simp only [clsDs, h1, h2, Bool.and_true]; rfl
  cases r <;> simp [Rw.enc, clsD, clsDs, su]
theorem rows_gen {ns : List Int} {n : Nat} (hn : 9 ≤ n) {m : MO} (hm : Tp ns m) {L : Me} {j : Nat} {k : Kit} (hk : L[j]? = some (.dic k.dic)) (ko : k.ok) (cl : Cl (m :: L)) {Q : QD} {X : QX}
    (q : ∀ (rs : List Rw) m', Tp ns m' → rs.length ≤ 22 → (∀ r ∈ rs, RwL k rs.length r) → Q (.tup (rs.map Rw.enc)) (m' :: L)) : callN cn n "_law_rows" [.ref 0, .ref (j + 1)] (m :: L) Q X := by
  obtain ⟨n, rfl⟩ : ∃ j, n = j + 1 := ⟨n - 1, by omega⟩
  have e1 : (D.int 1) = .int ((1 : Nat) : Int) := rfl
  refine run1 (fn := f__law_rows) rfl rfl ?_
  simp only [f__law_rows, b__law_rows]
  walk_at "mt"
  refine ⟨line9 (by simp), ?_⟩
  refine wI_rng ?_
  walk_at "mt"
  refine draw_ok (by omega) (by decide) (by decide) hm fun r m1 hm1 h3 h4 => ?_
  walk_at "mt"
  refine ⟨(1 + r).toNat, by rw [Int.toNat_of_nonneg (by omega)], by omega, ?_⟩
  refine wFor_inv (fun r σ M => ∃ (m' : MO) (N : Me) (i : Nat) (rs : List Rw) (o3 o4 : Option D), Tp ns m' ∧ M = m' :: N ∧ N.take L.length = L ∧ L.length ≤ i ∧ N[i]? = some (.lst (rs.map Rw.enc)) ∧ (∀ x ∈ rs, RwL k rs.length x) ∧ rs.length + 4 * r.length ≤ 20 ∧
    σ = [some (.ref 0), some (.ref (j + 1)), some (.ref (i + 1)), o3, o4]) (fun _ _ _ _ => trivial) ?step ?done _ _ _ ⟨m1, L ++ [.lst []], L.length, [], _, _, hm1, rfl, by simp, Nat.le_refl _, get_last _ _, fun _ h => (by cases h), by simp [rgN]; omega, rfl⟩
  case step =>
    rintro x r σ M ⟨m', N, i, rs, o3, o4, g1, rfl, g2, g3, g4, g5, g6, rfl⟩ P' hnx hrt hbk hct
    walk_at "mt"
    refine piece_ok (by omega) g1 (take_get g2 hk) ko fun rs2 m2 hm2 hr2 hl2 => ?_
    simp only [List.length_cons] at g6
    rw [cat_ref (lst_cons g4) (by simp only [List.length_map]; rw [line_val]; omega)]
    walk_at "mt"
    refine hnx _ _ ⟨m2, N ++ [.lst (rs.map Rw.enc ++ rs2.map Rw.enc)], N.length, rs ++ rs2, _, _, hm2, rfl, take_app g2, take_len g2, by rw [get_last, List.map_append], ?_, by rw [List.length_append]; omega, rfl⟩
    intro x hx
    rcases List.mem_append.mp hx with hx | hx
    · exact (g5 x hx).mono (by rw [List.length_append]; omega)
    · exact hr2 x hx _
  case done =>
    rintro σ M ⟨m', N, i, rs, o3, o4, g1, rfl, g2, g3, g4, g5, g6, rfl⟩
    have g6 : rs.length ≤ 20 := by simpa using g6
    walk_at "mt"
    refine wI_rng ?_
    walk_at "mt"
    refine draw_ok (by omega) (by decide) (by decide) g1 fun r2 m2 hm2 h5 h6 => ?_
    walk_at "mt"
    rw [bin_div_int _ ⟨by decide, by decide⟩]
    walk_at "mt"
    refine ⟨(r2 / 2).toNat, by rw [Int.toNat_of_nonneg (by omega)], by omega, ?_⟩
    refine wFor_inv (fun r σ M => ∃ (m' : MO) (N : Me) (i : Nat) (rs : List Rw) (o3 o4 : Option D), Tp ns m' ∧ M = m' :: N ∧ N.take L.length = L ∧ L.length ≤ i ∧ N[i]? = some (.lst (rs.map Rw.enc)) ∧ (∀ x ∈ rs, RwL k rs.length x) ∧ rs.length + r.length ≤ 22 ∧
      σ = [some (.ref 0), some (.ref (j + 1)), some (.ref (i + 1)), o3, o4]) (fun _ _ _ _ => trivial) ?step ?done _ _ _ ⟨m2, N, i, rs, _, _, hm2, rfl, g2, g3, g4, g5, by simp [rgN]; omega, rfl⟩
    case step =>
      rintro x r σ M ⟨m', N, i, rs, o3, o4, g1, rfl, g2, g3, g4, g5, g6, rfl⟩ P' hnx hrt hbk hct
      simp only [List.length_cons] at g6
      walk_at "mt"
      rw [len_ref (lst_cons g4)]
      walk_at "mt"
      simp only [List.length_map]
      refine draw_ok (by omega) (by omega) (by omega) g1 fun g m3 hm3 h7 h8 => ?_
      walk_at "mt"
      refine ⟨rc_insert (lst_cons g4), ?_⟩
      rw [len_ref (lst_cons g4)]
      walk_at "mt"
      simp only [List.length_map]
      refine draw_ok (by omega) (by omega) (by omega) hm3 fun z m4 hm4 h9 h10 => ?_
      walk_at "mt"
      rw [e1]
      refine sum_ok 1 (by omega) hm4 (take_get g2 hk) ko fun su m5 hm5 hsu hd => ?_
      walk_at "mt"
      refine ⟨line9 (by simp), ?_⟩
      rw [mt_insert (lst_cons g4) (by rw [List.length_map, line_val]; omega) h9 (by omega)]
      walk_at "mt"
      have hlen : (rs.take z.toNat ++ [Rw.leap g.toNat su] ++ rs.drop z.toNat).length = rs.length + 1 := by
        simp only [List.length_append, List.length_take, List.length_drop, List.length_singleton]
        omega
      refine hnx _ _ ⟨m5, N.set i (.lst ((rs.take z.toNat ++ [Rw.leap g.toNat su] ++ rs.drop z.toNat).map Rw.enc)), i, _, _, _, hm5, ?_, take_set g2 g3, g3, get_set (get_lt g4), ?_, by rw [hlen]; omega, rfl⟩
      · rw [List.set_cons_succ]
        have : Rw.enc (.leap g.toNat su) = .tup [.str "leap", .int g, su.enc] := by
          show D.tup [.str "leap", .int ((g.toNat : Nat) : Int), su.enc] = _
          rw [Int.toNat_of_nonneg h7]
        simp only [List.map_append, List.map_take, List.map_drop, List.map_cons, List.map_nil, this]
      · rw [hlen]
        intro x hx
        rcases List.mem_append.mp hx with hx | hx
        · rcases List.mem_append.mp hx with hx | hx
          · exact (g5 x (List.mem_of_mem_take hx)).mono (by omega)
          · rw [List.mem_singleton.mp hx]
            exact ⟨⟨by omega, su_fine hsu hd (by omega)⟩, fun x hx => (by cases hx)⟩
        · exact (g5 x (List.mem_of_mem_drop hx)).mono (by omega)
    case done =>
      rintro σ M ⟨m', N, i, rs, o3, o4, g1, rfl, g2, g3, g4, g5, g6, rfl⟩
      have g6 : rs.length ≤ 22 := by simpa using g6
      walk_at "mt"
      rw [tuple_ref (lst_cons g4)]
      refine gc_t (N := m' :: L) (by simp) (Tp.cl cl g1) (cls_rws _ rs) ?_ (q rs m' g1 g6 g5)
      show m' :: N.take L.length = _
      rw [g2]

/-! ### the generator: names, a program -/
def pool : List String := ["a", "ab", "abc", "b", "ba", "taker", "boxa", "sendx", "abcdefgh", "handy", "c", "lotb", "z", "freely", "gets", "putx", "getter", "sends", "abcd", "y", "ya", "lotus", "doors", "handle"]
instance (s : String) : Decidable (nm s) := inferInstanceAs (Decidable (_ ∧ _))
theorem pool_nm : ∀ s ∈ pool, nm s := by decide +kernel
theorem pool_nd : pool.Nodup := by decide +kernel
def nmAt (st sr : Nat) (k : Nat) : String := pool.getD ((st + sr * k) % 24) ""
theorem idx_nd : ∀ st : Fin 24, ∀ sr ∈ [1, 5, 7, 11], ((List.range 24).map fun k => (st.val + sr * k) % 24).Nodup := by decide +kernel
theorem nmAt_mem (st sr k : Nat) : nmAt st sr k ∈ pool := by
  unfold nmAt
  have h : (st + sr * k) % 24 < pool.length := Nat.mod_lt _ (by decide)
  rw [List.getD_eq_getElem?_getD, List.getElem?_eq_getElem h]
  exact List.getElem_mem h
theorem nd_inj {α : Type} {l : List α} (h : l.Nodup) {i j : Nat} {hi : i < l.length} {hj : j < l.length} (e : l[i] = l[j]) : i = j := by
  unfold List.Nodup at h
  rw [List.pairwise_iff_getElem] at h
  rcases Nat.lt_trichotomy i j with h1 | h1 | h1
  · exact absurd e (h i j hi hj h1)
  · exact h1
  · exact absurd e.symm (h j i hj hi h1)
theorem nmAt_inj {st sr : Nat} (h1 : st < 24) (h2 : sr ∈ [1, 5, 7, 11]) {a b : Nat} (ha : a < 24) (hb : b < 24) (e : nmAt st sr a = nmAt st sr b) : a = b := by
  have hA : (st + sr * a) % 24 < pool.length := Nat.mod_lt _ (by decide)
  have hB : (st + sr * b) % 24 < pool.length := Nat.mod_lt _ (by decide)
  unfold nmAt at e
  rw [List.getD_eq_getElem?_getD, List.getD_eq_getElem?_getD, List.getElem?_eq_getElem hA, List.getElem?_eq_getElem hB] at e
  have e2 : (st + sr * a) % 24 = (st + sr * b) % 24 := nd_inj pool_nd e
  have nd := idx_nd ⟨st, h1⟩ sr h2
  have hA2 : a < ((List.range 24).map fun k => (st + sr * k) % 24).length := by simpa using ha
  have hB2 : b < ((List.range 24).map fun k => (st + sr * k) % 24).length := by simpa using hb
  refine nd_inj nd (hi := hA2) (hj := hB2) ?_
  simpa using e2
theorem nmAt_nodup {st sr : Nat} (h1 : st < 24) (h2 : sr ∈ [1, 5, 7, 11]) {m : Nat} (hm : m ≤ 24) : ((List.range m).map (nmAt st sr)).Nodup := by
  unfold List.Nodup
  rw [List.pairwise_map, List.pairwise_iff_getElem]
  intro i j hi hj hij e
  simp only [List.length_range] at hi hj
  simp only [List.getElem_range] at e
  have := nmAt_inj h1 h2 (by omega) (by omega) e
  omega
theorem pool_cat (M : Me) : bin M .add (.fz [.str "a", .str "ab", .str "abc", .str "b", .str "ba", .str "taker", .str "boxa", .str "sendx", .str "abcdefgh", .str "handy", .str "c", .str "lotb", .str "z", .str "freely"]) (.tl [.str "gets", .str "putx", .str "getter", .str "sends", .str "abcd", .str "y", .str "ya", .str "lotus", .str "doors", .str "handle"]) = some (.tl (pool.map .str)) := by
  have h : ∀ a b : List D, a.length + b.length ≤ line → bin M .add (.fz a) (.tl b) = some (.tl (a ++ b)) := fun a b h => if_pos ⟨rfl, rfl, h⟩
  rw [h _ _ (by rw [line_val]; decide)]
  rfl
theorem names_ok {ns : List Int} {n : Nat} (hn : 2 ≤ n) {m : MO} (hm : Tp ns m) {L : Me} {c : Nat} (hc : c ≤ 20) {Q : QD} {X : QX}
    (q : ∀ (l : List String) m', Tp ns m' → l.length = c → l.Nodup → (∀ s ∈ l, nm s) → Q (.tl (l.map .str)) (m' :: L)) : callN cn n "_law_names" [.ref 0, .int c] (m :: L) Q X := by
  obtain ⟨n, rfl⟩ : ∃ j, n = j + 1 := ⟨n - 1, by omega⟩
  refine run1 (fn := f__law_names) rfl rfl ?_
  simp only [f__law_names, b__law_names]
  walk_at "mt"
  refine ⟨by rw [line_val]; decide, by rw [line_val]; decide, ?_⟩
  rw [pool_cat]
  walk_at "mt"
  refine draw_ok (by omega) (by decide) (by decide) hm fun st m1 hm1 h3 h4 => ?_
  walk_at "mt"
  refine ⟨line9 (by simp), ?_⟩
  refine draw_ok (by omega) (by decide) (by decide) hm1 fun z m2 hm2 h5 h6 => ?_
  obtain ⟨sr, esr, hsr⟩ : ∃ sr : Nat, pix [D.int 1, .int 5, .int 7, .int 11] z = some (.int sr) ∧ sr ∈ [1, 5, 7, 11] := by
    have : z = 0 ∨ z = 1 ∨ z = 2 ∨ z = 3 := by omega
    rcases this with rfl | rfl | rfl | rfl
    · exact ⟨1, rfl, by simp⟩
    · exact ⟨5, rfl, by simp⟩
    · exact ⟨7, rfl, by simp⟩
    · exact ⟨11, rfl, by simp⟩
  walk_at "mt"
  rw [esr]
  walk_at "mt"
  with_reducible refine wI_rng ?_
  walk_at "mt"
  refine ⟨c, rfl, by omega, ?_⟩
  have hsr4 : sr ≤ 11 := by
    simp only [List.mem_cons, List.not_mem_nil, or_false] at hsr
    omega
  refine wLc_map (fun d => match d with
    | .int k => .str (nmAt st.toNat sr k.toNat)
    | _ => .non) (ok_none _ _) _ _ (fun x hx R hR => ?_) (by simp [rgN]; rw [line_val]; omega) ?_
  · obtain ⟨k, hk, rfl⟩ := List.mem_map.mp hx
    have hk := List.mem_range.mp hk
    walk_at "mt"
    rw [bin_mul_int _ (.inl ⟨by omega, by omega⟩)]
    walk_at "mt"
    rw [bin_mod_int _ (by decide)]
    walk_at "mt"
    have e : (st + (sr : Int) * (k : Int)) % 24 = (((st.toNat + sr * k) % 24 : Nat) : Int) := by
      have : st = (st.toNat : Int) := by omega
      rw [this]
      simp
    have hlt : (st.toNat + sr * k) % 24 < pool.length := Nat.mod_lt _ (by decide)
    rw [e, pix_nat, List.getElem?_map, List.getElem?_eq_getElem hlt]
    walk_at "mt"
    have : nmAt st.toNat sr k = pool[(st.toNat + sr * k) % 24] := by
      unfold nmAt
      rw [List.getD_eq_getElem?_getD, List.getElem?_eq_getElem hlt]
      rfl
    simpa [this] using hR
  · have e : ([] ++ (rgN c).map fun x => frz (match x with
      | .int k => .str (nmAt st.toNat sr k.toNat)
      | _ => .non)) = ((List.range c).map (nmAt st.toNat sr)).map .str := by
      simp only [rgN, List.nil_append, List.map_map]
      refine List.map_congr_left fun k _ => ?_
      simp [frz]
    rw [e]
    refine gc_l (q _ m2 hm2 (by simp) (nmAt_nodup (by omega) hsr (by omega)) fun s hs => ?_)
    obtain ⟨k, _, rfl⟩ := List.mem_map.mp hs
    exact pool_nm _ (nmAt_mem _ _ _)

theorem sm_nat (M : Me) (as : List Nat) : sm M (as.map fun (a : Nat) => D.int (a : Int)) = some ((as.sum : Nat) : Int) := by
  induction as with
  | nil => rfl
  | cons a r ih =>
    show (sm M (r.map _)).map _ = _
    rw [ih]
    simp
theorem sum_ref {M : Me} {i : Nat} {as : List Nat} (h : lstAt M i = some (as.map fun (a : Nat) => D.int (a : Int))) (Q : QD) : wBi M .sum [.ref i] Q = Q (.int ((as.sum : Nat) : Int)) M := by
  show opt (((lstAt M i).bind (sm M)).map D.int) _ = _
  rw [h, Option.bind_some, sm_nat]
  rfl
theorem sum_tl (M : Me) (as : List Nat) (Q : QD) : wBi M .sum [.tl (as.map fun (a : Nat) => D.int (a : Int))] Q = Q (.int ((as.sum : Nat) : Int)) M := by
  show opt ((sm M (as.map fun (a : Nat) => D.int (a : Int))).map D.int) _ = _
  rw [sm_nat]
  rfl
theorem sl_ref {M : Me} {i : Nat} {xs : List D} (h : lstAt M i = some xs) (lo hi : Option Int) : slOf M (.ref i) lo hi = some (.tl (cutL xs lo hi)) := by
  show (lstAt M i).map _ = _
  rw [h]; rfl
theorem sl_fz (M : Me) (xs : List D) (lo hi : Option Int) : slOf M (.fz xs) lo hi = some (.tl (cutL xs lo hi)) := (rfl)
theorem ix_ref {M : Me} {i : Nat} {xs : List D} (h : lstAt M i = some xs) (k : Int) : ixOf M (.ref i) (.int k) = pix xs k := by
  show (match lstAt M i with | some xs => _ | none => _) = _
  rw [h]
  rfl
theorem cut_mid {α : Type} (xs : List α) {a b : Nat} (h : a ≤ b) (hb : b ≤ xs.length) : cutL xs (some (a : Int)) (some (b : Int)) = (xs.drop a).take (b - a) := by
  unfold cutL
  simp only [sEnd_nat, Nat.min_eq_left (show a ≤ xs.length by omega), Nat.min_eq_left hb]
local macro_rules | `(tactic| walk_at "mu") => `(tactic| try simp only [frz_prog, frz_sd, frz_seat, frz_optI, frz_tc, frz_rw, int_of, sl_tup, sl_fz, ix_t0, ix_t1, ix_t2, ix_t3, st_t1, st_t2, st_t3, frz_scr, len_scr, abs_int, ix_scr, it_tup, it_fz, it_tl, it_str, isi_str, isi_tup, isi_int, isi_int_bool, asgO, Mp.wipes, Mp.wipe1, al_ref, al_tl, al_tup, zip0,
  wSs, wS, wE, wT, wEs, wEt, wO, wI_of, wI_enum, wI_zip, start_def, List.map_cons, List.map_nil, List.length_cons, List.length_nil, List.cons_append, List.nil_append, Nat.reduceAdd, Nat.reduceSub, List.replicate,
  get0, getS, set0, setS, ssets0, ssetsS, seq_tup, seq_fz, seq_tl, opt_s, Option.bind_some, Option.map_some, frz_int, frz_str, frz_tup, frz_ref, frz_tl, frz_fz, frz_non, frz_bl, cmp_eq_str, cmp_ne_str, cmp_eq_int, cmp_ne_int, cmp_is_non, cmp_isnot_non, cmp_lt, cmp_le, cmp_gt, cmp_ge, bin_add_int, bin_sub_int,
  ix_tup, ix_fz, ix_tl, pix0, pix1, pix2, pix3, pix4, tru_bl, isN_non, isN_bl, isN_int, isN_str, isN_tup, isN_fz, isN_tl, isN_ref, wBi_int_bl, wBi_int_int, wBi_len_tup, wBi_len_fz, wBi_len_tl, wBi_tuple_tl, wBi_tuple_fz, wBi_list_tup,
  frz_enc, frz_encP, br_true, br_false, decide_true, decide_false, Bool.not_true, Bool.not_false, reduceCtorEq, String.reduceEq, decide_eq_true_eq])
def seg (l : List String) (as : List Nat) (k : Nat) : List String := (l.drop (as.take k).sum).take ((as.take (k + 1)).sum - (as.take k).sum)
theorem six1 {r : Int} (h1 : 0 ≤ r) (h2 : r < 6) : ∃ a : Nat, pix [D.int 1, .int 1, .int 1, .int 2, .int 2, .int 4] r = some (.int (a : Int)) ∧ 1 ≤ a ∧ a ≤ 4 := by
  have : r = 0 ∨ r = 1 ∨ r = 2 ∨ r = 3 ∨ r = 4 ∨ r = 5 := by omega
  rcases this with rfl | rfl | rfl | rfl | rfl | rfl
  · exact ⟨1, rfl, by omega, by omega⟩
  · exact ⟨1, rfl, by omega, by omega⟩
  · exact ⟨1, rfl, by omega, by omega⟩
  · exact ⟨2, rfl, by omega, by omega⟩
  · exact ⟨2, rfl, by omega, by omega⟩
  · exact ⟨4, rfl, by omega, by omega⟩
theorem six0 {r : Int} (h1 : 0 ≤ r) (h2 : r < 6) : ∃ a : Nat, pix [D.int 0, .int 1, .int 1, .int 1, .int 2, .int 4] r = some (.int (a : Int)) ∧ a ≤ 4 := by
  have : r = 0 ∨ r = 1 ∨ r = 2 ∨ r = 3 ∨ r = 4 ∨ r = 5 := by omega
  rcases this with rfl | rfl | rfl | rfl | rfl | rfl
  · exact ⟨0, rfl, by omega⟩
  · exact ⟨1, rfl, by omega⟩
  · exact ⟨1, rfl, by omega⟩
  · exact ⟨1, rfl, by omega⟩
  · exact ⟨2, rfl, by omega⟩
  · exact ⟨4, rfl, by omega⟩
theorem six2 {r : Int} (h1 : 0 ≤ r) (h2 : r < 6) : ∃ a : Nat, pix [D.int 1, .int 2, .int 2, .int 3, .int 3, .int 4] r = some (.int (a : Int)) ∧ 1 ≤ a ∧ a ≤ 4 := by
  have : r = 0 ∨ r = 1 ∨ r = 2 ∨ r = 3 ∨ r = 4 ∨ r = 5 := by omega
  rcases this with rfl | rfl | rfl | rfl | rfl | rfl
  · exact ⟨1, rfl, by omega, by omega⟩
  · exact ⟨2, rfl, by omega, by omega⟩
  · exact ⟨2, rfl, by omega, by omega⟩
  · exact ⟨3, rfl, by omega, by omega⟩
  · exact ⟨3, rfl, by omega, by omega⟩
  · exact ⟨4, rfl, by omega, by omega⟩
theorem segs_cat (l : List String) (a b c d e : Nat) (h : l.length = a + b + c + d + e) : seg l [a, b, c, d, e] 0 ++ seg l [a, b, c, d, e] 1 ++ seg l [a, b, c, d, e] 2 ++ seg l [a, b, c, d, e] 3 ++ seg l [a, b, c, d, e] 4 = l ∧
    (seg l [a, b, c, d, e] 0).length = a ∧ (seg l [a, b, c, d, e] 1).length = b ∧ (seg l [a, b, c, d, e] 2).length = c ∧ (seg l [a, b, c, d, e] 3).length = d ∧ (seg l [a, b, c, d, e] 4).length = e := by
  have e0 : seg l [a, b, c, d, e] 0 = l.take a := by simp [seg]
  have e1 : seg l [a, b, c, d, e] 1 = (l.drop a).take b := by simp [seg]
  have e2 : seg l [a, b, c, d, e] 2 = (l.drop (a + b)).take c := by
    simp only [seg, List.take_succ_cons, List.take_zero, List.sum_cons, List.sum_nil]
    congr 1 <;> first | omega | (congr 1; omega)
  have e3 : seg l [a, b, c, d, e] 3 = (l.drop (a + b + c)).take d := by
    simp only [seg, List.take_succ_cons, List.take_zero, List.sum_cons, List.sum_nil]
    congr 1 <;> first | omega | (congr 1; omega)
  have e4 : seg l [a, b, c, d, e] 4 = (l.drop (a + b + c + d)).take e := by
    simp only [seg, List.take_succ_cons, List.take_zero, List.sum_cons, List.sum_nil]
    congr 1 <;> first | omega | (congr 1; omega)
  rw [e0, e1, e2, e3, e4]
  refine ⟨?_, by rw [List.length_take]; omega, by rw [List.length_take, List.length_drop]; omega, by rw [List.length_take, List.length_drop]; omega, by rw [List.length_take, List.length_drop]; omega, by rw [List.length_take, List.length_drop]; omega⟩
  have s : ∀ x y : Nat, l.take x ++ (l.drop x).take y = l.take (x + y) := fun x y => by rw [List.take_add]
  rw [s, s, s, s]
  exact List.take_of_length_le (by omega)

abbrev nI (a : Nat) : D := .int (a : Int)
theorem cls_ints (n : Nat) (as : List Nat) : clsDs n (as.map nI) = true := cls_map _ _ _ fun _ _ => rfl
theorem Cl.cons_app {m : MO} {N : Me} (h : Cl (m :: N)) {c : MO} (hc : ∀ n, clsO n c = true) : Cl (m :: (N ++ [c])) := Cl.app (M := m :: N) h (hc _)
theorem first_ints {n : Nat} (P : Post) {ns : List Int} {m : MO} (hm : Tp ns m) {L : Me} (a0 : Nat) (ha : 1 ≤ a0 ∧ a0 ≤ 4) (o3 o4 o5 o6 o7 o8 : Option D) (hn : 1 ≤ n)
    (q : ∀ (as : List Nat) (m' : MO) (o2 : Option D), Tp ns m' → as.length = 5 → as[0]? = some a0 → (∃ e, as[4]? = some e ∧ 1 ≤ e) → (∀ a ∈ as, a ≤ 4) → P.nx [some (.ref 0), some (.ref (L.length + 1)), o2, o3, o4, o5, o6, o7, o8] (m' :: (L ++ [.lst (as.map nI)]))) :
    wSs cn (callN cn n) (Ss.tk 2 (Ss.dp 1 b__law_program)) [some (.ref 0), some (.ref (L.length + 1)), none, o3, o4, o5, o6, o7, o8] (m :: (L ++ [.lst [nI a0]])) P := by
  simp only [b__law_program, Ss.tk, Ss.dp]
  walk_at "mu"
  with_reducible refine wI_rng ?_
  walk_at "mu"
  refine ⟨3, rfl, by omega, ?_⟩
  refine wFor_inv (fun r σ M => ∃ (m' : MO) (as : List Nat) (o2 : Option D), Tp ns m' ∧ M = m' :: (L ++ [.lst (as.map nI)]) ∧ as.length + r.length = 4 ∧ as[0]? = some a0 ∧ (∀ a ∈ as, a ≤ 4) ∧
    σ = [some (.ref 0), some (.ref (L.length + 1)), o2, o3, o4, o5, o6, o7, o8]) (fun _ _ _ _ => trivial) ?step ?done _ _ _ ⟨m, [a0], _, hm, rfl, rfl, rfl, fun a h => by rw [List.mem_singleton.mp h]; omega, rfl⟩
  case step =>
    rintro x r σ M ⟨m', as, o2, g1, rfl, g2, g3, g4, rfl⟩ P' hnx hrt hbk hct
    simp only [List.length_cons] at g2
    walk_at "mu"
    refine ⟨rc_append (lst_cons (get_last L _)), line9 (by simp), ?_⟩
    refine draw_ok hn (by decide) (by decide) g1 fun r0 m1 hm1 h3 h4 => ?_
    obtain ⟨a, e, ha⟩ := six0 h3 h4
    walk_at "mu"
    rw [e]
    walk_at "mu"
    rw [mt_append (lst_cons (get_last L _)) (by rw [List.length_map, line_val]; omega)]
    walk_at "mu"
    refine hnx _ _ ⟨m1, as ++ [a], _, hm1, ?_, by simp; omega, ?_, ?_, rfl⟩
    · rw [List.set_cons_succ, List.set_append_right _ _ (Nat.le_refl _)]
      simp
    · rw [List.getElem?_append_left (get_lt g3), g3]
    · intro x hx
      rcases List.mem_append.mp hx with hx | hx
      · exact g4 x hx
      · rw [List.mem_singleton.mp hx]; exact ha
  case done =>
    rintro σ M ⟨m', as, o2, g1, rfl, g2, g3, g4, rfl⟩
    have g2 : as.length = 4 := by simpa using g2
    walk_at "mu"
    refine ⟨rc_append (lst_cons (get_last L _)), line9 (by simp), ?_⟩
    refine draw_ok hn (by decide) (by decide) g1 fun r0 m1 hm1 h3 h4 => ?_
    obtain ⟨a, e, ha1, ha⟩ := six2 h3 h4
    walk_at "mu"
    rw [e]
    walk_at "mu"
    rw [mt_append (lst_cons (get_last L _)) (by rw [List.length_map, line_val]; omega)]
    walk_at "mu"
    have e2 : (m1 :: (L ++ [MO.lst (as.map nI)])).set (L.length + 1) (.lst (as.map nI ++ [.int (a : Int)])) = m1 :: (L ++ [.lst ((as ++ [a]).map nI)]) := by
      rw [List.set_cons_succ, List.set_append_right _ _ (Nat.le_refl _)]
      simp
    rw [e2]
    refine q (as ++ [a]) m1 o2 hm1 (by simp [g2]) (by rw [List.getElem?_append_left (get_lt g3), g3]) ⟨a, by rw [← g2]; simp, ha1⟩ fun x hx => ?_
    rcases List.mem_append.mp hx with hx | hx
    · exact g4 x hx
    · rw [List.mem_singleton.mp hx]; exact ha
theorem at_two (L : Me) (a b : MO) : (L ++ [a] ++ [b])[L.length]? = some a := by simp
theorem at_two' (L : Me) (a b : MO) : (L ++ [a] ++ [b])[L.length + 1]? = some b := by simp
/-- names, cut by how many -/
theorem cut_names {n : Nat} (P : Post) {m : MO} {L : Me} {l : List String} {as : List Nat} (h5 : as.length = 5) (hl : l.length = as.sum) (h20 : as.sum ≤ 20) (o2 o5 o6 o7 o8 : Option D)
    (q : ∀ (o2 : Option D), P.nx [some (.ref 0), some (.ref (L.length + 1)), o2, some (.fz (l.map .str)), some (.ref (L.length + 2)), o5, o6, o7, o8] (m :: (L ++ [.lst (as.map nI)] ++ [.lst ((List.range 5).map fun k => .fz ((seg l as k).map .str))]))) :
    wSs cn (callN cn n) (Ss.tk 2 (Ss.dp 4 b__law_program)) [some (.ref 0), some (.ref (L.length + 1)), o2, some (.fz (l.map .str)), none, o5, o6, o7, o8] (m :: (L ++ [.lst (as.map nI)])) P := by
  simp only [b__law_program, Ss.tk, Ss.dp]
  walk_at "mu"
  refine ⟨line9 (by simp), ?_⟩
  with_reducible refine wI_rng ?_
  walk_at "mu"
  refine ⟨5, rfl, by omega, ?_⟩
  have hlen : (L ++ [MO.lst (as.map nI)]).length + 1 = L.length + 2 := by simp
  rw [hlen]
  refine wFor_inv (fun r σ M => ∃ (k : Nat) (o2 : Option D), k ≤ 5 ∧ r = (List.range' k (5 - k)).map (fun (i : Nat) => D.int (i : Int)) ∧ M = m :: (L ++ [.lst (as.map nI)] ++ [.lst ((List.range k).map fun k => .fz ((seg l as k).map .str))]) ∧
    σ = [some (.ref 0), some (.ref (L.length + 1)), o2, some (.fz (l.map .str)), some (.ref (L.length + 2)), o5, o6, o7, o8]) (fun _ _ _ _ => trivial) ?step ?done _ _ _ ⟨0, _, by omega, rfl, rfl, rfl⟩
  case step =>
    rintro x r σ M ⟨k, o2, hk, hr, rfl, rfl⟩ P' hnx hrt hbk hct
    obtain ⟨j, hj⟩ : ∃ j, 5 - k = j + 1 := by
      cases e : 5 - k with
      | zero => rw [e] at hr; cases hr
      | succ j => exact ⟨j, rfl⟩
    rw [hj, List.range'_succ, List.map_cons] at hr
    have hx := (List.cons.inj hr).1
    have hr2 := (List.cons.inj hr).2
    subst hx
    have hA : lstAt (m :: (L ++ [MO.lst (as.map nI)] ++ [.lst ((List.range k).map fun k => .fz ((seg l as k).map .str))])) (L.length + 1) = some (as.map nI) := lst_cons (at_two L _ _)
    have hB : lstAt (m :: (L ++ [MO.lst (as.map nI)] ++ [.lst ((List.range k).map fun k => .fz ((seg l as k).map .str))])) (L.length + 2) = some ((List.range k).map fun k => .fz ((seg l as k).map .str)) := lst_cons (at_two' L _ _)
    walk_at "mu"
    refine ⟨rc_append hB, ?_⟩
    rw [sl_ref hA]
    walk_at "mu"
    rw [cut_take, ← List.map_take, sum_tl]
    walk_at "mu"
    rw [sl_ref hA]
    walk_at "mu"
    have hk1 : ((k : Int) + 1) = ((k + 1 : Nat) : Int) := by omega
    rw [hk1, cut_take, ← List.map_take, sum_tl]
    walk_at "mu"
    have s1 : (as.take k).sum ≤ (as.take (k + 1)).sum := by
      rw [List.take_add_one, List.sum_append]
      omega
    have s2 : (as.take (k + 1)).sum ≤ as.sum := by
      conv => rhs; rw [← List.take_append_drop (k + 1) as, List.sum_append]
      omega
    rw [cut_mid _ s1 (by rw [List.length_map]; omega), mt_append hB (by simp; rw [line_val]; omega)]
    walk_at "mu"
    refine hnx _ _ ⟨k + 1, _, by omega, ?_, ?_, rfl⟩
    · rw [hr2]
      congr 2
      omega
    · rw [List.set_cons_succ]
      congr 1
      rw [List.set_append_right _ _ (by simp)]
      simp [List.range_succ, seg, List.map_take, List.map_drop, frz]
  case done =>
    rintro σ M ⟨k, o2, hk, hr, rfl, rfl⟩
    have : k = 5 := by
      have := congrArg List.length hr
      simp at this
      omega
    subst this
    walk_at "mu"
    exact q o2
theorem dp_dp : ∀ (b a : Nat) (s : Mp.Ss), Ss.dp a (Ss.dp b s) = Ss.dp (b + a) s
  | 0, a, s => by rw [Nat.zero_add]; rfl
  | b + 1, 0, .nil => rfl
  | b + 1, a + 1, .nil => by rw [Nat.succ_add]; rfl
  | b + 1, a, .cons x r => by rw [Nat.succ_add]; exact dp_dp b a r
theorem rws_pg {k : Kit} {p : Pg} (e1 : p.boxes.map (·.1) = k.bs) (e2 : p.locks = k.ks) (e3 : p.lanes = k.ls) (e4 : p.doors = k.ds) {n : Nat} {r : Rw} (h : RwL k n r) : r.ok p n ∧ ∀ x ∈ r.pks, x ∈ k.ps := by
  refine ⟨?_, h.2⟩
  have h1 := h.1
  cases r <;> simp only [Rw.ok, e1, e2, e3, e4, kit_pg] at h1 ⊢ <;> exact h1
theorem program_ok {ns : List Int} {n : Nat} (hn : 10 ≤ n) {m : MO} (hm : Tp ns m) {L : Me} (cl : Cl (m :: L)) {Q : QD} {X : QX}
    (q : ∀ (p : Pg) (K : List String) m', Tp ns m' → Wp p K → 1 ≤ p.boxes.length → Q p.enc (m' :: L)) : callN cn n "_law_program" [.ref 0] (m :: L) Q X := by
  obtain ⟨n, rfl⟩ : ∃ j, n = j + 1 := ⟨n - 1, by omega⟩
  refine run1 (fn := f__law_program) rfl rfl ?_
  refine cut _ _ 1 _ _ _ _ ?_
  simp only [f__law_program]
  generalize hT : Ss.dp 1 b__law_program = T
  simp only [b__law_program, Ss.tk]
  walk_at "mu"
  refine ⟨line9 (by simp), ?_⟩
  refine draw_ok (by omega) (by decide) (by decide) hm fun r m1 hm1 h3 h4 => ?_
  obtain ⟨a0, e, ha1, ha2⟩ := six1 h3 h4
  walk_at "mu"
  rw [e]
  walk_at "mu"
  refine ⟨line9 (by simp), ?_⟩
  subst hT
  refine cut _ _ 2 _ _ _ _ ?_
  refine first_ints _ hm1 a0 ⟨ha1, ha2⟩ _ _ _ _ _ _ (by omega) fun as m2 o2 hm2 h5 hs0 hs4 has => ?_
  have h20 : as.sum ≤ 20 := by
    match as, h5, has with
    | [a, b, c, d, f], _, has =>
      have ha := has a (by simp)
      have hb := has b (by simp)
      have hc := has c (by simp)
      have hd := has d (by simp)
      have hf := has f (by simp)
      simp only [List.sum_cons, List.sum_nil]
      omega
  simp only [dp_dp, Nat.reduceAdd]
  refine cut _ _ 1 _ _ _ _ ?_
  generalize hT : Ss.dp 1 (Ss.dp 3 b__law_program) = T
  simp only [b__law_program, Ss.tk, Ss.dp]
  walk_at "mu"
  rw [sum_ref (as := as) (lst_cons (get_last L _))]
  walk_at "mu"
  refine names_ok (by omega) hm2 (by omega) fun l m3 hm3 hl hnd hnm => ?_
  walk_at "mu"
  subst hT
  refine cut _ _ 2 _ _ _ _ ?_
  refine cut_names (as := as) _ h5 hl h20 _ _ _ _ _ fun o2 => ?_
  obtain ⟨a, b, c, d, f, rfl⟩ : ∃ a b c d f, as = [a, b, c, d, f] := by
    match as, h5 with
    | [a, b, c, d, f], _ => exact ⟨a, b, c, d, f, rfl⟩
  have ha := has a (by simp)
  have hb := has b (by simp)
  have hc := has c (by simp)
  have hd := has d (by simp)
  have hf := has f (by simp)
  have hf1 : 1 ≤ f := by
    obtain ⟨e, h1, h2⟩ := hs4
    cases h1
    exact h2
  have ha0 : a0 = a := by cases hs0; rfl
  subst ha0
  have hsum : [a0, b, c, d, f].sum = a0 + b + c + d + f := by simp; omega
  rw [hsum] at hl
  obtain ⟨sc, z0, z1, z2, z3, z4⟩ := segs_cat l a0 b c d f hl
  have eS : ((List.range 5).map fun k => D.fz ((seg l [a0, b, c, d, f] k).map .str)) = [.fz ((seg l [a0, b, c, d, f] 0).map .str), .fz ((seg l [a0, b, c, d, f] 1).map .str), .fz ((seg l [a0, b, c, d, f] 2).map .str), .fz ((seg l [a0, b, c, d, f] 3).map .str), .fz ((seg l [a0, b, c, d, f] 4).map .str)] := rfl
  rw [eS]
  generalize seg l [a0, b, c, d, f] 0 = s0 at *
  generalize seg l [a0, b, c, d, f] 1 = s1 at *
  generalize seg l [a0, b, c, d, f] 2 = s2 at *
  generalize seg l [a0, b, c, d, f] 3 = s3 at *
  generalize seg l [a0, b, c, d, f] 4 = s4 at *
  simp only [dp_dp, Nat.reduceAdd]
  simp only [b__law_program, Ss.dp]
  generalize hN : L ++ [MO.lst ([a0, b, c, d, f].map nI)] ++ [.lst [.fz (s0.map .str), .fz (s1.map .str), .fz (s2.map .str), .fz (s3.map .str), .fz (s4.map .str)]] = N
  have hNl : N.length = L.length + 2 := by rw [← hN]; simp
  have hNt : N.take L.length = L := by rw [← hN]; simp
  have hS : N[L.length + 1]? = some (.lst [.fz (s0.map .str), .fz (s1.map .str), .fz (s2.map .str), .fz (s3.map .str), .fz (s4.map .str)]) := by rw [← hN]; exact at_two' _ _ _
  have clN : ∀ m', Tp ns m' → Cl (m' :: N) := fun m' hm' => by
    rw [← hN]
    refine Cl.cons_app (Cl.cons_app (Tp.cl cl hm') fun n => ?_) fun n => ?_
    · exact cls_ints n [a0, b, c, d, f]
    · show clsDs n _ = true
      simp only [clsDs, clsD, cls_strs, Bool.and_self]
  walk_at "mu"
  simp only [ix_ref (lst_cons hS)]
  walk_at "mu"
  have dz : ∀ x y z w : D, puts [] ([D.str "boxes", .str "locks", .str "lanes", .str "doors"].zip [x, y, z, w]) = [(.str "boxes", x), (.str "locks", y), (.str "lanes", z), (.str "doors", w)] := fun _ _ _ _ => rfl
  refine ⟨trivial, ?_⟩
  rw [dz]
  walk_at "mu"
  simp only [List.length_map]
  refine draw_ok (by omega) (by omega) (by omega) hm3 fun r4 m4 hm4 h7 h8 => ?_
  obtain ⟨pn, hpn, e4⟩ := pix_strs h7 h8
  walk_at "mu"
  rw [e4]
  walk_at "mu"
  refine ⟨line9 (by simp), ?_⟩
  rw [hNl]
  have hD : ∀ (x : MO), (m4 :: (N ++ [x]))[L.length + 2 + 1]? = some x := fun x => by
    rw [List.getElem?_cons_succ, ← hNl]
    exact get_last N x
  rw [st_dic (hD _) _ _ (by rw [line_val]; simp)]
  walk_at "mu"
  have hset : ∀ x y : MO, (m4 :: (N ++ [x])).set (L.length + 2 + 1) y = m4 :: (N ++ [y]) := fun x y => by
    rw [List.set_cons_succ, ← hNl, List.set_append_right _ _ (Nat.le_refl _)]
    simp
  rw [hset]
  have hkit : put [(.str "boxes", .fz (s0.map .str)), (.str "locks", .fz (s1.map .str)), (.str "lanes", .fz (s2.map .str)), (.str "doors", .fz (s3.map .str))] (.str "pockets") (.fz [.str "p", .str "q", .str pn]) = Kit.dic ⟨s0, s1, s2, s3, ["p", "q", pn]⟩ := (rfl)
  rw [hkit]
  have ko : Kit.ok ⟨s0, s1, s2, s3, ["p", "q", pn]⟩ := ⟨by show 0 < s0.length; omega, by show s0.length ≤ 4; omega, by show s1.length ≤ 4; omega, by show s2.length ≤ 4; omega, by show s3.length ≤ 4; omega, by show 0 < 3; decide, by show 3 ≤ 4; decide⟩
  generalize hkk : Kit.mk s0 s1 s2 s3 ["p", "q", pn] = kk at ko
  have kd0 : kk.bs = s0 := by rw [← hkk]
  have kd1 : kk.ks = s1 := by rw [← hkk]
  have kd2 : kk.ls = s2 := by rw [← hkk]
  have kd3 : kk.ds = s3 := by rw [← hkk]
  have kps : kk.ps = ["p", "q", pn] := by rw [← hkk]
  have hkN : (N ++ [MO.dic kk.dic])[L.length + 2]? = some (.dic kk.dic) := by rw [← hNl]; exact get_last _ _
  have hS2 : (N ++ [MO.dic kk.dic])[L.length + 1]? = some (.lst [.fz (s0.map .str), .fz (s1.map .str), .fz (s2.map .str), .fz (s3.map .str), .fz (s4.map .str)]) := by
    rw [List.getElem?_append_left (by omega)]; exact hS
  have hNt2 : (N ++ [MO.dic kk.dic]).take L.length = L := take_app hNt
  have clN2 : ∀ m', Tp ns m' → Cl (m' :: (N ++ [MO.dic kk.dic])) := fun m' hm' => Cl.cons_app (clN m' hm') fun n => by
    simp only [clsO, Kit.dic, strsF, List.all_cons, List.all_nil, clsD, cls_strs, Bool.and_self]
  generalize N ++ [MO.dic kk.dic] = N3 at hkN hS2 hNt2 clN2
  simp only [ix_ref (lst_cons hS2)]
  walk_at "mu"
  refine wLc_inv (fun r acc M => ∃ (m' : MO) (ps : Pk) (rest : List String), Tp ns m' ∧ M = m' :: N3 ∧ r = rest.map .str ∧ acc = ps.map (fun p => .tup [.str p.1, .int p.2]) ∧ ps.map (·.1) ++ rest = s0 ∧ ps.ok) (fun _ _ _ _ => trivial) ?_ ?_ _ _ _ ⟨m4, [], s0, hm4, rfl, rfl, rfl, rfl, fun _ h => (by cases h)⟩
  · rintro x r acc M ⟨m', ps, rest, g1, rfl, g2, rfl, g3, g4⟩ R hs hno
    cases rest with
    | nil => cases g2
    | cons s rest =>
      cases g2
      have hl4 : ps.length < line := by
        have := congrArg List.length g3
        simp at this
        rw [line_val]; omega
      refine ⟨by simpa using hl4, ?_⟩
      walk_at "mu"
      refine draw_ok (by omega) (by decide) (by decide) g1 fun r5 m5 hm5 h9 h10 => ?_
      walk_at "mu"
      refine ⟨line9 (by simp), ?_⟩
      refine hs _ _ (by simpa using hl4) ⟨m5, ps ++ [(s, r5)], rest, hm5, rfl, rfl, by simp [frz], by simpa using g3, ?_⟩
      intro y hy
      rcases List.mem_append.mp hy with hy | hy
      · exact g4 y hy
      · rw [List.mem_singleton.mp hy]; exact ⟨h9, by show r5 < 1000; omega⟩
  · rintro acc M ⟨m', ps, rest, g1, rfl, g2, rfl, g3, g4⟩
    cases rest with
    | cons _ _ => cases g2
    | nil =>
      rw [List.append_nil] at g3
      walk_at "mu"
      simp only [ix_ref (lst_cons hS2)]
      walk_at "mu"
      refine wLc_inv (fun r acc M => ∃ (m' : MO) (hs : List (String × List Rw)) (rest : List String), Tp ns m' ∧ M = m' :: N3 ∧ r = rest.map .str ∧ acc = hs.map encH ∧ hs.map (·.1) ++ rest = s4 ∧ ∀ h ∈ hs, h.2.length ≤ 22 ∧ ∀ r ∈ h.2, RwL kk h.2.length r) (fun _ _ _ _ => trivial) ?_ ?_ _ _ _ ⟨m', [], s4, g1, rfl, rfl, rfl, rfl, fun _ h => (by cases h)⟩
      · rintro x r acc M ⟨m6, hs0, rest, k1, rfl, k2, rfl, k3, k4⟩ R hs hno
        cases rest with
        | nil => cases k2
        | cons s rest =>
          cases k2
          have hl4 : hs0.length < line := by
            have := congrArg List.length k3
            simp at this
            rw [line_val]; omega
          refine ⟨by simpa using hl4, ?_⟩
          walk_at "mu"
          refine rows_gen (by omega) k1 hkN ko (clN2 _ k1) fun rs m7 hm7 hrl hrs => ?_
          walk_at "mu"
          refine ⟨line9 (by simp), ?_⟩
          refine hs _ _ (by simpa using hl4) ⟨m7, hs0 ++ [(s, rs)], rest, hm7, rfl, rfl, by simp [frz, encH, encRs], by simpa using k3, ?_⟩
          intro y hy
          rcases List.mem_append.mp hy with hy | hy
          · exact k4 y hy
          · rw [List.mem_singleton.mp hy]; exact ⟨hrl, hrs⟩
      · rintro acc M ⟨m6, hs, rest, k1, rfl, k2, rfl, k3, k4⟩
        cases rest with
        | cons _ _ => cases k2
        | nil =>
          rw [List.append_nil] at k3
          walk_at "mu"
          simp only [ix_ref (lst_cons hS2)]
          walk_at "mu"
          simp only [ix_ref (lst_cons hS2)]
          walk_at "mu"
          simp only [ix_ref (lst_cons hS2)]
          walk_at "mu"
          refine ⟨line9 (by simp), ?_⟩
          have hpl : ps.length = a0 := by rw [← z0, ← g3, List.length_map]
          have hhl : hs.length = f := by rw [← z4, ← k3, List.length_map]
          have pg : Wp ⟨ps, s1, s2, s3, hs⟩ kk.ps := by
            have rr : ∀ h ∈ hs, ∀ r ∈ h.2, Rw.ok ⟨ps, s1, s2, s3, hs⟩ h.2.length r ∧ ∀ x ∈ r.pks, x ∈ kk.ps := fun h hh r hr => rws_pg (p := ⟨ps, s1, s2, s3, hs⟩) (by rw [kd0]; exact g3) (by rw [kd1]) (by rw [kd2]) (by rw [kd3]) ((k4 h hh).2 r hr)
            refine ⟨⟨?_, ?_, ?_, ?_, ?_, ?_, ?_, ?_, g4, ?_⟩, ?_, ?_⟩
            · intro s hs'
              simp only [Pg.names, g3, k3, sc] at hs'
              exact hnm s hs'
            · simp only [Pg.names, g3, k3, sc]
              exact hnd
            · show ps.length ≤ 4; omega
            · show s1.length ≤ 4; omega
            · show s2.length ≤ 4; omega
            · show s3.length ≤ 4; omega
            · show 1 ≤ hs.length; omega
            · show hs.length ≤ 4; omega
            · exact fun h hh => ⟨by have := (k4 h hh).1; omega, fun r hr => (rr h hh r hr).1⟩
            · rw [kps]; show 3 < 60; decide
            · exact fun h hh r hr => (rr h hh r hr).2
          refine gc_t (N := m6 :: L) (by simp) (Tp.cl cl k1) ?_ ?_ (q _ _ _ k1 pg (by show 1 ≤ ps.length; omega))
          · have eh : clsDs (L.length + 1) (hs.map encH) = true := cls_map _ _ _ fun h _ => by
              show clsDs _ [.str h.1, encRs h.2] = true
              simp only [clsDs, clsD, encRs, cls_rws, Bool.and_true]
            show clsDs _ [encP ps, .tup (s1.map .str), .tup (s2.map .str), .tup (s3.map .str), .tup (hs.map encH)] = true
            simp only [clsDs, clsD, cls_encP, cls_strs, eh, Bool.and_true]
          · show m6 :: N3.take L.length = _
            rw [hNt2]

/-! ### gifts and runs -/
theorem in_ch (M : Me) (s : String) : cmp M .isin (.str s) (.tup [.str "clock", .str "hear"]) = some (decide (s ∈ ["clock", "hear"])) := in_strs_t M ["clock", "hear"] s
theorem gift_ok {ns : List Int} {n : Nat} (hn : 8 ≤ n) {m : MO} (hm : Tp ns m) {L : Me} (cl : Cl (m :: L)) {p : Pg} {K : List String} {b : Nat} {sd : Sd} (hp : Wp p K) {i : Nat} {s : Seat} {h : String × List Rw} {t : Tc}
    (e : p.hands[i]? = some h) (es : sd.ss[i]? = some s) (hg : Go p sd i s h t) {Q : QD} {X : QX}
    (q : ∀ (g : Option Int) m', Tp ns m' → Gift t (optI g) → (∀ v, g = some v → rv v) → Q (optI g) (m' :: L)) : callN cn n "_law_gift" [.ref 0, p.enc, sd.enc, .int i] (m :: L) Q X := by
  obtain ⟨n, rfl⟩ : ∃ j, n = j + 1 := ⟨n - 1, by omega⟩
  obtain ⟨r, hr1, hr2⟩ := hg.rw_
  have hix : pix (sd.ss.map Seat.enc) (i : Int) = some s.enc := by rw [pix_nat, List.getElem?_map, es]; rfl
  refine run1 (fn := f__law_gift) rfl rfl ?_
  refine cut _ _ 1 _ _ _ _ ?_
  simp only [f__law_gift]
  generalize hT : Ss.dp 1 b__law_gift = T
  simp only [b__law_gift, Ss.tk]
  simp only [Sd.enc]
  walk_at "mu"
  rw [hix]
  walk_at "mu"
  refine hg.ev n (by omega) _ cl _ _ ?_
  rw [Tc.enc]
  walk_at "mu"
  subst hT
  have fin : ∀ (o : Option D), wSs cn (callN cn n) (Ss.dp 1 b__law_gift) [some (.ref 0), some p.enc, some sd.enc, some (.int i), some (.str t.kind), o, some t.val] (m :: L) { nx := fun _ M' => gcQ (L.length + 1) Q .non M', rt := gcQ (L.length + 1) Q, bk := fun _ _ => False, ct := fun _ _ => False, ex := fun x _ M' => X x M' } := fun o => by
    simp only [b__law_gift, Ss.dp]
    have asks : t.kind ∈ ["clock", "hear"] → t.kind ≠ "lot" → (∀ v, rv v → Gift t (.int v)) → wSs cn (callN cn n) (Ss.dp 1 b__law_gift) [some (.ref 0), some p.enc, some sd.enc, some (.int i), some (.str t.kind), o, some t.val] (m :: L) { nx := fun _ M' => gcQ (L.length + 1) Q .non M', rt := gcQ (L.length + 1) Q, bk := fun _ _ => False, ct := fun _ _ => False, ex := fun x _ M' => X x M' } := fun k1 k2 k3 => by
      simp only [b__law_gift, Ss.dp]
      walk_at "mu"
      rw [decide_eq_false k2]
      walk_at "mu"
      refine ⟨line9 (by simp), ?_⟩
      rw [in_ch, decide_eq_true k1]
      walk_at "mu"
      refine draw_ok (by omega) (by decide) (by decide) hm fun r1 m1 hm1 h1 h2 => ?_
      walk_at "mu"
      refine draw_ok (by omega) (by decide) (by decide) hm1 fun r2 m2 hm2 h3 h4 => ?_
      walk_at "mu"
      refine ⟨line9 (by simp), ?_⟩
      refine draw_ok (by omega) (by decide) (by decide) hm2 fun r3 m3 hm3 h5 h6 => ?_
      walk_at "mu"
      rw [two_pick]
      refine gc_l ?_
      by_cases h : r3 = 0
      · simp only [h, if_true]
        exact q (some r2) m3 hm3 (k3 _ ⟨h3, h4⟩) fun v hv => by cases hv; exact ⟨h3, h4⟩
      · simp only [h, if_false]
        exact q (some r1) m3 hm3 (k3 _ ⟨h1, by omega⟩) fun v hv => by cases hv; exact ⟨h1, by omega⟩
    have plain : t.kind ∉ ["clock", "hear"] → t.kind ≠ "lot" → Gift t .non → wSs cn (callN cn n) (Ss.dp 1 b__law_gift) [some (.ref 0), some p.enc, some sd.enc, some (.int i), some (.str t.kind), o, some t.val] (m :: L) { nx := fun _ M' => gcQ (L.length + 1) Q .non M', rt := gcQ (L.length + 1) Q, bk := fun _ _ => False, ct := fun _ _ => False, ex := fun x _ M' => X x M' } := fun k1 k2 k3 => by
      simp only [b__law_gift, Ss.dp]
      walk_at "mu"
      rw [decide_eq_false k2]
      walk_at "mu"
      refine ⟨line9 (by simp), ?_⟩
      rw [in_ch, decide_eq_false k1]
      walk_at "mu"
      exact gc_l (q none m hm k3 fun v hv => by cases hv)
    cases t with
    | lot m0 =>
      have h1 := hr2.1
      have h2 := hr2.2.1
      simp only [Tc.kind, Tc.val]
      walk_at "mu"
      refine draw_ok (by omega) h1 (by omega) hm fun r1 m1 hm1 h3 h4 => ?_
      exact gc_l (q (some r1) m1 hm1 ⟨r1, rfl, h3, h4⟩ fun v hv => by cases hv; exact ⟨h3, by omega⟩)
    | clock => exact asks (by simp [Tc.kind]) (by simp [Tc.kind]) fun v hv => ⟨v, rfl, hv⟩
    | hear _ => exact asks (by simp [Tc.kind]) (by simp [Tc.kind]) fun v hv => ⟨v, rfl, hv⟩
    | _ => exact plain (by simp [Tc.kind]) (by simp [Tc.kind]) rfl
  exact fin _
theorem Walk.snoc {p : Pg} {K : List String} {b : Nat} {sd sd1 : Sd} {run : List (Nat × Option Int)} {ls : List (Nat × Lk)} (w : Walk p K b sd run sd1 ls) {sd2 : Sd} {i : Nat} {g : Option Int} {l : Lk} :
    Step p K (b + run.length) sd1 i (optI g) sd2 l → i < p.hands.length → (∀ v, g = some v → rv v) → Walk p K b sd (run ++ [(i, g)]) sd2 (ls ++ [(i, l)]) := by
  induction w with
  | nil b sd =>
    intro h1 h2 h3
    exact .cons h1 h2 h3 (.nil _ _)
  | cons k1 k2 k3 k4 ih =>
    intro h1 h2 h3
    refine .cons k1 k2 k3 (ih ?_ h2 h3)
    rename_i b _ _ _ _ _ _ r _
    have : b + 1 + r.length = b + (r.length + 1) := by omega
    rw [this]
    exact h1
theorem ne_nil_i (M : Me) (l : List Nat) : cmp M .ne (.fz (l.map nI)) (.tl []) = some (!decide (l = [])) := by
  have : ∀ (k : Nat) (l : List Nat), plns k (l.map nI) = true := fun k l => by
    induction l with
    | nil => rfl
    | cons a r ih => exact ih
  show (if plns 59 (l.map nI) = true ∧ true = true then some (D.eqvs (l.map nI) []) else none).map not = _
  rw [if_pos ⟨this _ l, rfl⟩]
  cases l <;> rfl
theorem cls_sts (n : Nat) (run : List (Nat × Option Int)) : clsDs n (run.map stD) = true := cls_map _ _ _ fun r _ => by
  obtain ⟨i, g⟩ := r
  cases g <;> rfl
theorem run_ok {ns : List Int} {n : Nat} (hn : 12 ≤ n) {m : MO} (hm : Tp ns m) {L : Me} (cl : Cl (m :: L)) {p : Pg} {K : List String} {b : Nat} {sd : Sd} (hp : Wp p K) (hd : SdOk p K b sd) {c : Nat} (hc : b + c ≤ 90) {Q : QD} {X : QX}
    (q : ∀ (run : List (Nat × Option Int)) (sd2 : Sd) (ls : List (Nat × Lk)) m', Tp ns m' → Walk p K b sd run sd2 ls → SdOk p K (b + run.length) sd2 → run.length ≤ c → Q (.tup [.tup (run.map stD), sd2.enc]) (m' :: L)) :
    callN cn n "_law_run" [.ref 0, p.enc, sd.enc, .int c] (m :: L) Q X := by
  obtain ⟨n, rfl⟩ : ∃ j, n = j + 1 := ⟨n - 1, by omega⟩
  refine run1 (fn := f__law_run) rfl rfl ?_
  simp only [f__law_run, b__law_run]
  walk_at "mu"
  refine ⟨line9 (by simp), ?_⟩
  with_reducible refine wI_rng ?_
  walk_at "mu"
  refine ⟨c, rfl, by omega, ?_⟩
  refine wFor_inv (fun r σ M => ∃ (m' : MO) (run : List (Nat × Option Int)) (sd2 : Sd) (ls : List (Nat × Lk)) (o5 o6 o7 o8 : Option D), Tp ns m' ∧ M = m' :: (L ++ [.lst (run.map stD)]) ∧ Walk p K b sd run sd2 ls ∧ SdOk p K (b + run.length) sd2 ∧ run.length + r.length ≤ c ∧
    σ = [some (.ref 0), some p.enc, some sd2.enc, some (.int c), some (.ref (L.length + 1)), o5, o6, o7, o8]) (fun _ _ _ _ => trivial) ?step ?done _ _ _ ⟨m, [], sd, [], _, _, _, _, hm, rfl, .nil _ _, hd, by simp [rgN], rfl⟩
  case step =>
    rintro x r σ M ⟨m', run, sd2, ls, o5, o6, o7, o8, g1, rfl, g2, g3, g4, rfl⟩ P' hnx hrt hbk hct
    simp only [List.length_cons] at g4
    have clM : ∀ m', Tp ns m' → Cl (m' :: (L ++ [.lst (run.map stD)])) := fun m' hm' => Cl.cons_app (Tp.cl cl hm') fun n => cls_sts n run
    obtain ⟨f, hf⟩ := wd_ex hp g3
    walk_at "mu"
    refine can_go_ok hp hf n (by omega) _ (clM _ g1) _ _ ?_
    walk_at "mu"
    refine ⟨line9 (by simp), ?_⟩
    rw [ne_nil_i]
    walk_at "mu"
    refine br_ndec (fun h0 => ?_) (fun h0 => ?_)
    · simp only [List.length_map]
      have hlen : 0 < (mayL p f).length := by
        cases e : mayL p f with
        | nil => exact absurd e h0
        | cons _ _ => simp
      have hle : (mayL p f).length ≤ 4 := by
        have h1 := List.length_filter_le (fun i => isN (f i)) (List.range p.hands.length)
        have h2 := hp.ok.h4
        rw [List.length_range] at h1
        unfold mayL
        omega
      refine draw_ok (by omega) (by omega) (by omega) g1 fun r1 m1 hm1 h1 h2 => ?_
      obtain ⟨j, rfl⟩ : ∃ j : Nat, r1 = (j : Int) := ⟨r1.toNat, by omega⟩
      have hj : j < (mayL p f).length := by omega
      have hmem := List.getElem_mem hj
      have hpix : pix ((mayL p f).map nI) (j : Int) = some (.int ((mayL p f)[j] : Int)) := by rw [pix_nat, List.getElem?_map, List.getElem?_eq_getElem hj]; rfl
      generalize (mayL p f)[j] = i at hmem hpix
      have hi := List.mem_range.mp (List.mem_filter.mp hmem).1
      have hni := (List.mem_filter.mp hmem).2
      obtain ⟨w1, w2, w3⟩ := hf i hi
      have hn0 : f i = .non := isN_non_iff hni
      obtain ⟨h, s, t, k1, k2, k3⟩ := w3 hn0
      rw [hn0] at w1
      walk_at "mu"
      rw [hpix]
      walk_at "mu"
      refine gift_ok (b := b) (by omega) hm1 (clM _ hm1) hp k1 k2 k3 fun g m2 hm2 hg hgv => ?_
      obtain ⟨sd3, l, st⟩ := gone_ok hp (by omega) g3 k1 k2 w1 k3 hg
      walk_at "mu"
      refine ⟨rc_append (lst_cons (get_last L _)), line9 (by simp), ?_⟩
      rw [mt_append (lst_cons (get_last L _)) (by rw [List.length_map, line_val]; omega)]
      walk_at "mu"
      have e2 : (m2 :: (L ++ [MO.lst (run.map stD)])).set (L.length + 1) (.lst (run.map stD ++ [.tup [.int i, optI g]])) = m2 :: (L ++ [.lst ((run ++ [(i, g)]).map stD)]) := by
        rw [List.set_cons_succ, List.set_append_right _ _ (Nat.le_refl _)]
        simp [stD]
      rw [e2]
      have clM2 : Cl (m2 :: (L ++ [.lst ((run ++ [(i, g)]).map stD)])) := Cl.cons_app (Tp.cl cl hm2) fun n => cls_sts n _
      refine st.2.2 n (by omega) _ clM2 _ _ ?_
      walk_at "mu"
      refine hnx _ _ ⟨m2, run ++ [(i, g)], sd3, ls ++ [(i, l)], _, _, _, _, hm2, rfl, g2.snoc st hi hgv, ?_, by simp; omega, rfl⟩
      have := st.1
      rw [List.length_append, List.length_singleton, ← Nat.add_assoc]
      exact this
    · exact hnx _ _ ⟨m', run, sd2, ls, _, _, _, _, g1, rfl, g2, g3, by omega, rfl⟩
  case done =>
    rintro σ M ⟨m', run, sd2, ls, o5, o6, o7, o8, g1, rfl, g2, g3, g4, rfl⟩
    have g4 : run.length ≤ c := by simpa using g4
    walk_at "mu"
    rw [tuple_ref (lst_cons (get_last L _))]
    walk_at "mu"
    refine ⟨line9 (by simp), gc_t (N := m' :: L) (by simp) (Tp.cl cl g1) ?_ (by simp) (q run sd2 ls m' g1 g2 g3 g4)⟩
    show clsDs _ [.tup (run.map stD), sd2.enc] = true
    simp only [clsDs, clsD, cls_sts, cls_sd g3, Bool.and_true]

theorem world_ok {ns : List Int} {n : Nat} (hn : 13 ≤ n) {m : MO} (hm : Tp ns m) {L : Me} (cl : Cl (m :: L)) {Q : QD} {X : QX}
    (q : ∀ (p : Pg) (K : List String) (b : Nat) (sd sd2 : Sd) (run : List (Nat × Option Int)) (ls : List (Nat × Lk)) m', Tp ns m' → Wp p K → 1 ≤ p.boxes.length → b ≤ 6 → SdOk p K b sd → Walk p K b sd run sd2 ls → run.length ≤ 24 → Q (.tup [p.enc, sd.enc, .tup (run.map stD)]) (m' :: L)) :
    callN cn n "_law_world" [.ref 0] (m :: L) Q X := by
  obtain ⟨n, rfl⟩ : ∃ j, n = j + 1 := ⟨n - 1, by omega⟩
  refine run1 (fn := f__law_world) rfl rfl ?_
  refine cut _ _ 3 _ _ _ _ ?_
  simp only [f__law_world]
  generalize hT : Ss.dp 3 b__law_world = T
  simp only [b__law_world, Ss.tk]
  walk_at "mu"
  refine program_ok (by omega) hm cl fun p K m1 hm1 hp hb => ?_
  walk_at "mu"
  obtain ⟨sd0, hd0, ev0⟩ := first_stand_ok hp
  refine ev0 n (by omega) _ (Tp.cl cl hm1) _ _ ?_
  walk_at "mu"
  subst hT
  have fin : ∀ (b : Nat) (sd : Sd) (m2 : MO), b ≤ 6 → SdOk p K b sd → Tp ns m2 → wSs cn (callN cn n) (Ss.dp 3 b__law_world) [some (.ref 0), some p.enc, some sd.enc] (m2 :: L) { nx := fun _ M' => gcQ (L.length + 1) Q .non M', rt := gcQ (L.length + 1) Q, bk := fun _ _ => False, ct := fun _ _ => False, ex := fun x _ M' => X x M' } := fun b sd m2 hb6 hd hm2 => by
    simp only [b__law_world, Ss.dp]
    walk_at "mu"
    refine ⟨line9 (by simp), ?_⟩
    refine draw_ok (by omega) (by decide) (by decide) hm2 fun r1 m3 hm3 h1 h2 => ?_
    obtain ⟨c, e, hc⟩ : ∃ c : Nat, pix [D.int 3, .int 6, .int 9, .int 14, .int 24] r1 = some (.int (c : Int)) ∧ c ≤ 24 := by
      have : r1 = 0 ∨ r1 = 1 ∨ r1 = 2 ∨ r1 = 3 ∨ r1 = 4 := by omega
      rcases this with rfl | rfl | rfl | rfl | rfl
      · exact ⟨3, rfl, by omega⟩
      · exact ⟨6, rfl, by omega⟩
      · exact ⟨9, rfl, by omega⟩
      · exact ⟨14, rfl, by omega⟩
      · exact ⟨24, rfl, by omega⟩
    walk_at "mu"
    rw [e]
    walk_at "mu"
    refine run_ok (by omega) hm3 (Tp.cl cl hm3) hp hd (by omega) fun run sd2 ls m4 hm4 hw hd2 hrl => ?_
    walk_at "mu"
    exact ⟨line9 (by simp), gc_l (q p K b sd sd2 run ls m4 hm4 hp hb hb6 hd hw (by omega))⟩
  refine draw_ok (by omega) (by decide) (by decide) hm1 fun r1 m3 hm3 h1 h2 => ?_
  walk_at "mu"
  refine br_dec (fun h => ?_) (fun h => ?_)
  · refine draw_ok (by omega) (by decide) (by decide) hm3 fun r2 m4 hm4 h3 h4 => ?_
    walk_at "mu"
    obtain ⟨c, hc⟩ : ∃ c : Nat, 1 + r2 = (c : Int) := ⟨(1 + r2).toNat, by omega⟩
    rw [hc]
    refine run_ok (by omega) hm4 (Tp.cl cl hm4) hp hd0 (by omega) fun run sd2 ls m5 hm5 hw hd2 hrl => ?_
    walk_at "mu"
    exact fin (0 + run.length) sd2 m5 (by omega) hd2 hm5
  · exact fin 0 sd0 m3 (by omega) hd0 hm3
/-! ### texts by the law -/
theorem word_ok {o : Option Int} (h : ∀ v, o = some v → rv v) : Ev 1 "_law_word" [optI o] (.str (vT o)) := by
  refine Ev.intro (fn := f__law_word) rfl rfl fun n hn M c Q X q => ?_
  simp only [f__law_word, b__law_word]
  cases o with
  | none =>
    simp only [optI]
    walk_at "mu"
    exact gc_l q
  | some v =>
    simp only [optI]
    walk_at "mu"
    rw [wBi_str_int _ (h v rfl)]
    exact gc_l q
theorem join_ok (M : Me) (sep : String) (l : List String) (h : (l.map String.length).sum + l.length * sep.length ≤ line) : mtOf M .join (.str sep) [.tl (l.map .str)] = some (.str (joinS sep l), M) := by
  show ((Mp.strS (l.map D.str)).bind fun ys => if (ys.map String.length).sum + ys.length * sep.length ≤ line then some (D.str (joinS sep ys), M) else none) = _
  rw [strs_map, Option.bind_some, if_pos h]
theorem vT_len {o : Option Int} (h : ∀ v, o = some v → rv v) : (vT o).length ≤ 4 := by
  cases o with
  | none => show "-".length ≤ 4; decide
  | some v => exact ts_len (h v rfl)
theorem look_text_ok {l : Lk} (h : l.ok) : Ev 2 "_law_look_text" [l.enc] (.str (lkT l)) := by
  obtain ⟨kind, thing, val, mark⟩ := l
  obtain ⟨h1, h2, h3, _⟩ := h
  simp only at h1 h2 h3
  refine Ev.intro (fn := f__law_look_text) rfl rfl fun n hn M c Q X q => ?_
  simp only [f__law_look_text, b__law_look_text, Lk.enc]
  walk_at "mu"
  refine ⟨rfl, line9 (by simp), ?_⟩
  rw [two_pick]
  walk_at "mu"
  refine word_ok h3 n (by omega) M c _ _ ?_
  have e : ∀ th : String, th.length ≤ 8 → mtOf M .join (.str " ") [.tl [.str kind, .str th, .str (vT val)]] = some (.str (kind ++ " " ++ th ++ " " ++ vT val), M) := fun th ht => by
    have hv := vT_len h3
    have := join_ok M " " [kind, th, vT val] (by
      rw [line_val, show " ".length = 1 from rfl]
      simp only [List.map_cons, List.map_nil, List.sum_cons, List.sum_nil, List.length_cons, List.length_nil]
      omega)
    simp only [List.map_cons, List.map_nil] at this
    rw [this]
    simp only [joinS, String.append_assoc]
  walk_at "mu"
  refine ⟨line9 (by simp), ?_⟩
  by_cases h0 : thing = ""
  · simp only [h0, if_true]
    walk_at "mu"
    rw [e _ (by decide)]
    exact gc_l (by simpa [lkT, h0] using q)
  · simp only [h0, if_false]
    walk_at "mu"
    rw [e _ h2]
    exact gc_l (by simpa [lkT, h0] using q)

theorem ne_nil_ref {M : Me} {i : Nat} {l : List String} (h : lstAt M i = some (l.map .str)) : cmp M .ne (.ref i) (.tl []) = some (!decide (l = [])) := by
  have hv : vw M (.ref i) = .fz (l.map .str) := by
    show (match lstAt M i with | some xs => D.fz xs | none => _) = _
    rw [h]
  show (if pln 60 (vw M (.ref i)) = true ∧ true = true then some (D.eqv (vw M (.ref i)) (.fz [])) else none).map not = _
  rw [hv]
  exact ne_nil M l
theorem run_text_ok {p : Pg} (hp : p.ok) {run : List (Nat × Option Int)} (h : ∀ q ∈ run, q.1 < p.hands.length ∧ ∀ v, q.2 = some v → rv v) (hl : run.length ≤ 100) : Ev 1 "_law_run_text" [p.enc, .tup (run.map stD)] (.str (runT p run)) := by
  refine Ev.intro (fn := f__law_run_text) rfl rfl fun n hn' M c Q X q => ?_
  simp only [f__law_run_text, b__law_run_text]
  walk_at "mu"
  refine ⟨line9 (by simp), ?_⟩
  walk_at "mu"
  refine wFor_inv (fun r σ M' => ∃ (done rest : List (Nat × Option Int)) (o3 o4 : Option D), done ++ rest = run ∧ r = rest.map stD ∧ M' = M ++ [.lst ((done.map (spT p)).map .str)] ∧
    σ = [some p.enc, some (.tup (run.map stD)), some (.ref M.length), o3, o4]) (fun _ _ _ _ => trivial) ?step ?done _ _ _ ⟨[], run, _, _, rfl, rfl, rfl, rfl⟩
  case step =>
    rintro x r σ M' ⟨done, rest, o3, o4, g1, g2, rfl, rfl⟩ P' hnx hrt hbk hct
    cases rest with
    | nil => cases g2
    | cons a rest =>
      cases g2
      obtain ⟨i, g⟩ := a
      have hin := h (i, g) (by rw [← g1]; simp)
      have h1 := hin.1
      have h2 := hin.2
      simp only at h1 h2
      have e := List.getElem?_eq_getElem h1
      have hl' := hn_len hp i
      have hix : pix (p.hands.map encH) (i : Int) = some (.tup [.str (hn p i), encRs p.hands[i].2]) := by
        rw [pix_nat, List.getElem?_map, e]
        simp only [hn, e]
        rfl
      have hat : lstAt (M ++ [MO.lst ((done.map (spT p)).map .str)]) M.length = some ((done.map (spT p)).map .str) := lst_at (at0 M _ [])
      have hdl : done.length ≤ 100 := by
        have := congrArg List.length g1
        simp at this
        omega
      simp only [Pg.enc, stD]
      walk_at "mu"
      refine ⟨rc_append hat, ?_⟩
      rw [hix]
      walk_at "mu"
      have fin : ∀ s : String, s = spT p (i, g) → opt (mtOf (M ++ [MO.lst ((done.map (spT p)).map .str)]) .append (.ref M.length) [.str s]) (fun q => P'.nx [some p.enc, some (.tup (run.map stD)), some (.ref M.length), some (.int i), some (optI g)] q.2) := fun s hs => by
        rw [mt_append hat (by simp; rw [line_val]; omega), opt_s, set_last]
        refine hnx _ _ ⟨done ++ [(i, g)], rest, _, _, by rw [← g1]; simp, rfl, by simp [hs, frz], rfl⟩
      cases g with
      | none =>
        simp only [optI]
        walk_at "mu"
        rw [bin_add_str _ (by rw [line_val, show "".length = 0 from rfl]; omega)]
        walk_at "mu"
        have := fin (hn p i ++ "") (by simp [spT])
        simpa [optI, Pg.enc] using this
      | some v =>
        have hv := h2 v rfl
        have := ts_len hv
        simp only [optI]
        walk_at "mu"
        rw [wBi_str_int _ hv]
        walk_at "mu"
        rw [bin_add_str _ (by rw [line_val, show ":".length = 1 from rfl]; omega)]
        walk_at "mu"
        rw [bin_add_str _ (by rw [line_val, String.length_append, show ":".length = 1 from rfl]; omega)]
        walk_at "mu"
        have := fin (hn p i ++ (":" ++ toString v)) (by simp [spT, String.append_assoc])
        simpa [optI, Pg.enc] using this
  case done =>
    rintro σ M' ⟨done, rest, o3, o4, g1, g2, rfl, rfl⟩
    cases rest with
    | cons _ _ => cases g2
    | nil =>
      rw [List.append_nil] at g1
      subst g1
      have hat : lstAt (M ++ [MO.lst ((done.map (spT p)).map .str)]) M.length = some ((done.map (spT p)).map .str) := lst_at (at0 M _ [])
      walk_at "mu"
      refine ⟨line9 (by simp), ?_⟩
      rw [ne_nil_ref hat]
      walk_at "mu"
      have hgc : ∀ s : String, s = runT p done → gcQ M.length Q (.str s) (M ++ [MO.lst ((done.map (spT p)).map .str)]) := fun s hs => by
        rw [hs]
        exact gc_d c rfl (take_last M _) q
      refine br_ndec (fun h0 => ?_) (fun h0 => ?_)
      · have hj : mtOf (M ++ [MO.lst ((done.map (spT p)).map .str)]) .join (.str " ") [.ref M.length] = some (.str (joinS " " (done.map (spT p))), M ++ [MO.lst ((done.map (spT p)).map .str)]) := by
          show (((lstAt (M ++ [MO.lst ((done.map (spT p)).map .str)]) M.length).bind Mp.strS).bind fun ys => if (ys.map String.length).sum + ys.length * " ".length ≤ line then some (D.str (joinS " " ys), M ++ [MO.lst ((done.map (spT p)).map .str)]) else none) = _
          rw [hat, Option.bind_some, strs_map, Option.bind_some, if_pos]
          have h1 := sum_le (l := (done.map (spT p)).map String.length) (k := 20) fun x hx => by
            obtain ⟨s, hs, rfl⟩ := List.mem_map.mp hx
            obtain ⟨a, ha, rfl⟩ := List.mem_map.mp hs
            exact spT_len hp (h a ha).2
          simp only [List.length_map] at h1 ⊢
          rw [line_val, show " ".length = 1 from rfl]
          omega
        refine ⟨rfl, ?_⟩
        rw [hj]
        walk_at "mu"
        refine hgc _ ?_
        have : ¬ done = [] := fun e => h0 (by rw [e]; rfl)
        simp [runT, this]
      · refine hgc _ ?_
        have : done = [] := by simpa using h0
        simp [runT, this]
theorem in2 (M : Me) (a b s : String) : cmp M .isin (.str s) (.tup [.str a, .str b]) = some (decide (s ∈ [a, b])) := in_strs_t M [a, b] s
theorem in3 (M : Me) (a b d s : String) : cmp M .isin (.str s) (.tup [.str a, .str b, .str d]) = some (decide (s ∈ [a, b, d])) := in_strs_t M [a, b, d] s
theorem in4 (M : Me) (a b d e s : String) : cmp M .isin (.str s) (.tup [.str a, .str b, .str d, .str e]) = some (decide (s ∈ [a, b, d, e])) := in_strs_t M [a, b, d, e] s
theorem look_gen {ns : List Int} {n : Nat} (hn' : 2 ≤ n) {m : MO} (hm : Tp ns m) {L : Me} {p : Pg} (hp : p.ok) (hb : 1 ≤ p.boxes.length) {Q : QD} {X : QX}
    (q : ∀ (l : Lk) m', Tp ns m' → l.ok → Q l.enc (m' :: L)) : callN cn n "_law_look" [.ref 0, p.enc] (m :: L) Q X := by
  obtain ⟨n, rfl⟩ : ∃ j, n = j + 1 := ⟨n - 1, by omega⟩
  obtain ⟨bx, rest, hbx⟩ : ∃ b r, p.boxes = b :: r := by
    cases e : p.boxes with
    | nil => rw [e] at hb; simp at hb
    | cons b r => exact ⟨b, r, rfl⟩
  have hbn : bx.1.length ≤ 8 := nm_len hp (by simp only [Pg.names, hbx, List.map_cons]; simp)
  refine run1 (fn := f__law_look) rfl rfl ?_
  refine cut _ _ 5 _ _ _ _ ?_
  simp only [f__law_look]
  let P : Post := { nx := fun _ M' => gcQ (L.length + 1) Q .non M', rt := gcQ (L.length + 1) Q, bk := fun _ _ => False, ct := fun _ _ => False, ex := fun x _ M' => X x M' }
  have t8 : ∀ (m : MO) (o2 : Option D) (k th : String) (v : Option Int) (mk : D), Tp ns m → k.length ≤ 8 → th.length ≤ 8 → (∀ x, v = some x → rv x) → c0 mk → wSs cn (callN cn n) (Ss.dp 8 b__law_look) [some (.ref 0), some p.enc, o2, some (.str k), some (.str th), some (optI v), some mk] (m :: L) P := fun m o2 k th v mk hm hk hth hv hmk => by
    simp only [b__law_look, Ss.dp]
    have cf : c0 (frz mk) := c0_frz hmk
    walk_at "mu"
    refine ⟨line9 (by simp), ?_⟩
    rw [in3]
    walk_at "mu"
    refine br_dec (fun h => ?_) (fun h => ?_)
    · refine draw_ok (by omega) (by decide) (by decide) hm fun r1 m1 hm1 h1 h2 => ?_
      walk_at "mu"
      exact ⟨line9 (by simp), gc_l (q ⟨k, th, v, .int r1⟩ m1 hm1 ⟨hk, hth, hv, rfl⟩)⟩
    · exact ⟨line9 (by simp), gc_l (q ⟨k, th, v, frz mk⟩ m hm ⟨hk, hth, hv, cf⟩)⟩
  have t7 : ∀ (m : MO) (o2 : Option D) (k th : String) (v : Option Int) (mk : D), Tp ns m → k.length ≤ 8 → th.length ≤ 8 → (∀ x, v = some x → rv x) → c0 mk → wSs cn (callN cn n) (Ss.dp 7 b__law_look) [some (.ref 0), some p.enc, o2, some (.str k), some (.str th), some (optI v), some mk] (m :: L) P := fun m o2 k th v mk hm hk hth hv hmk => by
    refine cut _ _ 1 _ _ _ _ ?_
    rw [dp_dp]
    generalize hT : Ss.dp (7 + 1) b__law_look = T
    simp only [b__law_look, Ss.dp, Ss.tk]
    subst hT
    walk_at "mu"
    refine ⟨line9 (by simp), ?_⟩
    rw [in4]
    walk_at "mu"
    refine br_dec (fun h => ?_) (fun h => ?_)
    · exact t8 m o2 k th v .non hm hk hth hv rfl
    · exact t8 m o2 k th v mk hm hk hth hv hmk
  have t6 : ∀ (m : MO) (o2 : Option D) (k th : String) (v : Option Int) (mk : D), Tp ns m → k.length ≤ 8 → th.length ≤ 8 → (∀ x, v = some x → rv x) → c0 mk → wSs cn (callN cn n) (Ss.dp 6 b__law_look) [some (.ref 0), some p.enc, o2, some (.str k), some (.str th), some (optI v), some mk] (m :: L) P := fun m o2 k th v mk hm hk hth hv hmk => by
    refine cut _ _ 1 _ _ _ _ ?_
    rw [dp_dp]
    generalize hT : Ss.dp (6 + 1) b__law_look = T
    simp only [b__law_look, Ss.dp, Ss.tk]
    subst hT
    walk_at "mu"
    refine ⟨line9 (by simp), ?_⟩
    rw [in2]
    walk_at "mu"
    refine br_dec (fun h => ?_) (fun h => ?_)
    · exact t7 m o2 k th none mk hm hk hth (fun x hx => by cases hx) hmk
    · exact t7 m o2 k th v mk hm hk hth hv hmk
  have t5 : ∀ (m : MO) (o2 : Option D) (k th : String) (v : Option Int) (mk : D), Tp ns m → k.length ≤ 8 → th.length ≤ 8 → (∀ x, v = some x → rv x) → c0 mk → wSs cn (callN cn n) (Ss.dp 5 b__law_look) [some (.ref 0), some p.enc, o2, some (.str k), some (.str th), some (optI v), some mk] (m :: L) P := fun m o2 k th v mk hm hk hth hv hmk => by
    refine cut _ _ 1 _ _ _ _ ?_
    rw [dp_dp]
    generalize hT : Ss.dp (5 + 1) b__law_look = T
    simp only [b__law_look, Ss.dp, Ss.tk]
    subst hT
    walk_at "mu"
    refine ⟨line9 (by simp), ?_⟩
    rw [in2]
    walk_at "mu"
    refine br_dec (fun h => ?_) (fun h => ?_)
    · exact t6 m o2 k "" v mk hm hk (by decide) hv hmk
    · exact t6 m o2 k th v mk hm hk hth hv hmk
  generalize hT : Ss.dp 5 b__law_look = T at t5
  simp only [b__law_look, Ss.tk]
  simp only [Pg.enc, encP, hbx]
  walk_at "mu"
  refine ⟨by rw [line_val]; decide, ?_⟩
  refine draw_ok (by omega) (by decide) (by decide) hm fun r1 m1 hm1 h1 h2 => ?_
  obtain ⟨k, hk, ek⟩ := pix_strs (l := ["get", "put", "take", "free", "send", "fetch", "say", "clock", "lot", "hear"]) h1 h2
  have hk8 : k.length ≤ 8 := by
    have : ∀ s ∈ ["get", "put", "take", "free", "send", "fetch", "say", "clock", "lot", "hear"], s.length ≤ 8 := by decide
    exact this k hk
  simp only [List.map_cons, List.map_nil] at ek
  walk_at "mu"
  rw [ek]
  walk_at "mu"
  refine ⟨line9 (by simp), ?_⟩
  refine draw_ok (by omega) (by decide) (by decide) hm1 fun r2 m2 hm2 h3 h4 => ?_
  obtain ⟨th, hth, eth⟩ := pix_strs (l := [bx.1, "a", "z", "abcdefgh"]) h3 h4
  have ht8 : th.length ≤ 8 := by
    simp only [List.mem_cons, List.not_mem_nil, or_false] at hth
    rcases hth with rfl | rfl | rfl | rfl
    · exact hbn
    · decide
    · decide
    · decide
  simp only [List.map_cons, List.map_nil] at eth
  walk_at "mu"
  rw [eth]
  walk_at "mu"
  refine draw_ok (by omega) (by decide) (by decide) hm2 fun r3 m3 hm3 h5 h6 => ?_
  walk_at "mu"
  refine ⟨line9 (by simp), ?_⟩
  refine draw_ok (by omega) (by decide) (by decide) hm3 fun r4 m4 hm4 h7 h8 => ?_
  obtain ⟨v, ev, hv⟩ : ∃ v : Int, pix [D.int 0, .int 1, .int 999, .int r3] r4 = some (.int v) ∧ rv v := by
    have : r4 = 0 ∨ r4 = 1 ∨ r4 = 2 ∨ r4 = 3 := by omega
    rcases this with rfl | rfl | rfl | rfl
    · exact ⟨0, rfl, by decide, by decide⟩
    · exact ⟨1, rfl, by decide, by decide⟩
    · exact ⟨999, rfl, by decide, by decide⟩
    · exact ⟨r3, rfl, h5, by omega⟩
  walk_at "mu"
  rw [ev]
  walk_at "mu"
  refine ⟨line9 (by simp), line9 (by simp), ?_⟩
  refine draw_ok (by omega) (by decide) (by decide) hm4 fun r5 m5 hm5 h9 h10 => ?_
  obtain ⟨mk, emk, hmk⟩ : ∃ d : D, pix [D.non, .tup [.int 0, .int 3]] r5 = some d ∧ c0 d := by
    have : r5 = 0 ∨ r5 = 1 := by omega
    rcases this with rfl | rfl
    · exact ⟨.non, rfl, rfl⟩
    · exact ⟨_, rfl, rfl⟩
  walk_at "mu"
  rw [emk]
  walk_at "mu"
  have := t5 m5 (some (.fz (["get", "put", "take", "free", "send", "fetch", "say", "clock", "lot", "hear"].map .str))) k th (some v) (frz mk) hm5 hk8 ht8 (fun x hx => by cases hx; exact hv) (c0_frz hmk)
  simp only [Pg.enc, encP, hbx, List.map_cons, List.map_nil, optI] at this
  exact this

def PL : Post := { nx := fun _ M' => gcQ 0 (fun d _ => d = .bl true) .non M', rt := gcQ 0 (fun d _ => d = .bl true), bk := fun _ _ => False, ct := fun _ _ => False, ex := fun _ _ _ => False }
theorem law5 {ns : List Int} {n : Nat} (hn : 30 ≤ n) {p : Pg} {K : List String} {sd : Sd} {run : List (Nat × Option Int)} (hp : Wp p K) (hbx : 1 ≤ p.boxes.length) (g3 : ∀ q ∈ run, q.1 < p.hands.length ∧ ∀ v, q.2 = some v → rv v) (hrl : run.length ≤ 24) (cl : ∀ m', Tp ns m' → Cl (m' :: ([] : Me))) : ∀ (m : MO) (o5 o6 o7 o8 : Option D), Tp ns m → wSs cn (callN cn (n + 1)) (Ss.dp 5 b_law) [some (.scr ns), some (.ref 0), some p.enc, some sd.enc, some (.tup (run.map stD)), o5, o6, o7, o8, none, none] (m :: []) PL := by
  intro m o5 o6 o7 o8 hm
  simp only [b_law, Ss.dp]
  walk_at "mu"
  refine ⟨line9 (by simp), ?_⟩
  refine shown_run_ok hp.ok (run := []) (fun _ h => (by cases h)) (by simp) (n + 1) (by omega) _ (cl m hm) _ _ ?_
  have : runT p [] = "-" := rfl
  rw [this]
  walk_at "mu"
  exact .inl (by simp)
theorem law4 {ns : List Int} {n : Nat} (hn : 30 ≤ n) {p : Pg} {K : List String} {sd : Sd} {run : List (Nat × Option Int)} (hp : Wp p K) (hbx : 1 ≤ p.boxes.length) (g3 : ∀ q ∈ run, q.1 < p.hands.length ∧ ∀ v, q.2 = some v → rv v) (hrl : run.length ≤ 24) (cl : ∀ m', Tp ns m' → Cl (m' :: ([] : Me))) : ∀ (m : MO) (o5 o6 o7 o8 : Option D), Tp ns m → wSs cn (callN cn (n + 1)) (Ss.dp 4 b_law) [some (.scr ns), some (.ref 0), some p.enc, some sd.enc, some (.tup (run.map stD)), o5, o6, o7, o8, none, none] (m :: []) PL := by
  intro m o5 o6 o7 o8 hm
  with_reducible refine cut _ _ 1 _ _ _ _ ?_
  rw [dp_dp]
  generalize hT : Ss.dp (4 + 1) b_law = T
  simp only [b_law, Ss.dp, Ss.tk]
  subst hT
  walk_at "mu"
  with_reducible refine wI_rng ?_
  walk_at "mu"
  refine ⟨run.length + 1, by simp, by omega, ?_⟩
  refine wFor_inv (fun r σ M => ∃ (o7 o8 : Option D), M = [m] ∧ (∀ d ∈ r, ∃ k : Nat, d = .int k) ∧ σ = [some (.scr ns), some (.ref 0), some p.enc, some sd.enc, some (.tup (run.map stD)), o5, o6, o7, o8, none, none]) (fun _ _ _ _ => trivial) ?step ?done _ _ _ ⟨_, _, rfl, fun d hd => by
    obtain ⟨k, _, rfl⟩ := List.mem_map.mp hd
    exact ⟨k, rfl⟩, rfl⟩
  case step =>
    rintro x r σ M ⟨o7, o8, rfl, hx, rfl⟩ P' hnx hrt hbk hct
    obtain ⟨k, rfl⟩ := hx _ List.mem_cons_self
    have hsub : ∀ q ∈ run.take k, q.1 < p.hands.length ∧ ∀ v, q.2 = some v → rv v := fun q hq => g3 q (List.mem_of_mem_take hq)
    have hlen : (run.take k).length ≤ 100 := by rw [List.length_take]; omega
    walk_at "mu"
    rw [cut_take, ← List.map_take]
    refine shown_run_ok hp.ok hsub hlen (n + 1) (by omega) _ (cl m hm) _ _ ?_
    walk_at "mu"
    refine run_text_ok hp.ok hsub hlen (n + 1) (by omega) _ (cl m hm) _ _ ?_
    walk_at "mu"
    exact hnx _ _ ⟨_, _, rfl, fun d hd => hx d (List.mem_cons_of_mem _ hd), rfl⟩
  case done =>
    rintro σ M ⟨o7, o8, rfl, hx, rfl⟩
    exact law5 hn hp hbx g3 hrl cl m o5 o6 o7 o8 hm
theorem law3 {ns : List Int} {n : Nat} (hn : 30 ≤ n) {p : Pg} {K : List String} {sd : Sd} {run : List (Nat × Option Int)} (hp : Wp p K) (hbx : 1 ≤ p.boxes.length) (g3 : ∀ q ∈ run, q.1 < p.hands.length ∧ ∀ v, q.2 = some v → rv v) (hrl : run.length ≤ 24) (cl : ∀ m', Tp ns m' → Cl (m' :: ([] : Me))) {ls : List (Nat × Lk)} (g2 : ∀ q ∈ ls, q.2.ok) (g4 : ls.length = run.length) : ∀ (m : MO), Tp ns m → wSs cn (callN cn (n + 1)) (Ss.dp 3 b_law) [some (.scr ns), some (.ref 0), some p.enc, some sd.enc, some (.tup (run.map stD)), some (.fz (ls.map fun q => q.2.enc)), none, none, none, none, none] (m :: []) PL := by
  intro m hm
  with_reducible refine cut _ _ 1 _ _ _ _ ?_
  rw [dp_dp]
  generalize hT : Ss.dp (3 + 1) b_law = T
  simp only [b_law, Ss.dp, Ss.tk]
  subst hT
  walk_at "mu"
  with_reducible refine wI_rng ?_
  walk_at "mu"
  refine ⟨12, rfl, by omega, ?_⟩
  refine wLc_inv (fun r acc M => ∃ (m' : MO) (lks : List Lk), Tp ns m' ∧ M = [m'] ∧ acc = lks.map Lk.enc ∧ (∀ l ∈ lks, l.ok) ∧ lks.length + r.length ≤ 12) (fun _ _ _ _ => trivial) ?_ ?_ _ _ _ ⟨m, [], hm, rfl, rfl, fun _ h => (by cases h), by simp [rgN]⟩
  · rintro x r acc M ⟨m', lks, k1, rfl, rfl, k2, k3⟩ R hs hno
    simp only [List.length_cons] at k3
    have hl : (lks.map Lk.enc).length < line := by rw [List.length_map, line_val]; omega
    refine ⟨hl, ?_⟩
    walk_at "mu"
    refine look_gen (by omega) k1 hp.ok hbx fun l m2 hm2 hlo => ?_
    refine hs _ _ hl ⟨m2, lks ++ [l], hm2, rfl, by simp [frz, Lk.enc], ?_, by simp; omega⟩
    intro y hy
    rcases List.mem_append.mp hy with hy | hy
    · exact k2 y hy
    · rw [List.mem_singleton.mp hy]; exact hlo
  · rintro acc M ⟨m', lks, k1, rfl, rfl, k2, k3⟩
    have k3 : lks.length ≤ 12 := by simpa using k3
    walk_at "mu"
    have ecat : bin [m'] .add (.fz (ls.map fun q => q.2.enc)) (.tl (lks.map Lk.enc)) = some (.tl ((ls.map (·.2) ++ lks).map Lk.enc)) := by
      show (if _ then _ else _) = _
      rw [if_pos ⟨rfl, rfl, by simp; rw [line_val]; omega⟩]
      simp
    rw [ecat]
    walk_at "mu"
    refine wFor_inv (fun r σ M => ∃ (lks : List Lk) (o6 o8 : Option D), M = [m'] ∧ r = lks.map Lk.enc ∧ (∀ l ∈ lks, l.ok) ∧ σ = [some (.scr ns), some (.ref 0), some p.enc, some sd.enc, some (.tup (run.map stD)), some (.fz (ls.map fun q => q.2.enc)), o6, none, o8, none, none]) (fun _ _ _ _ => trivial) ?step ?done _ _ _ ⟨ls.map (·.2) ++ lks, _, _, rfl, rfl, fun l hl => by
      rcases List.mem_append.mp hl with hl | hl
      · obtain ⟨a, ha, rfl⟩ := List.mem_map.mp hl
        exact g2 a ha
      · exact k2 l hl, rfl⟩
    case step =>
      rintro x r σ M ⟨lks, o6, o8, rfl, h1, h2, rfl⟩ P' hnx hrt hbk hct
      cases lks with
      | nil => cases h1
      | cons l lks =>
        cases h1
        have hlo := h2 l List.mem_cons_self
        have hf : frz l.enc = l.enc := rfl
        walk_at "mu"
        simp only [hf]
        refine (shown_look_ok hlo) (n + 1) (by omega) _ (cl m' k1) _ _ ?_
        walk_at "mu"
        refine (look_text_ok hlo) (n + 1) (by omega) _ (cl m' k1) _ _ ?_
        walk_at "mu"
        exact hnx _ _ ⟨lks, _, _, rfl, rfl, fun l hl => h2 l (List.mem_cons_of_mem _ hl), rfl⟩
    case done =>
      rintro σ M ⟨lks, o6, o8, rfl, h1, h2, rfl⟩
      exact law4 hn hp hbx g3 hrl cl m' _ _ _ _ k1
theorem law_n (ns : List Int) {n : Nat} (hn : 30 ≤ n) : callN cn (n + 1 + 1) "law" [.scr ns] [] (fun d _ => d = .bl true) (fun _ _ => False) := by
  refine run1 (fn := f_law) rfl rfl ?_
  with_reducible refine cut _ _ 2 _ _ _ _ ?_
  simp only [f_law]
  generalize hT : Ss.dp 2 b_law = T
  simp only [b_law, Ss.tk]
  walk_at "mu"
  refine run1 (fn := f__law_tape) rfl rfl ?_
  simp only [f__law_tape, b__law_tape]
  walk_at "mu"
  refine ⟨line9 (by simp), ?_⟩
  walk_at "mu"
  refine gc_l ?_
  walk_at "mu"
  have tp0 : Tp ns (.lst [.scr ns, .int 0, .int 0, .int 0]) := ⟨0, 0, 0, rfl, by omega, by omega, by omega⟩
  refine world_ok (L := []) (by omega) tp0 (by show clsM 1 [_] = true; rfl) fun p K b sd sd2 run ls m1 hm1 hp hbx hb6 hd hw hrl => ?_
  walk_at "mu"
  subst hT
  obtain ⟨⟨b2, g1⟩, g2, g3, g4⟩ := hw.cls hd
  have cl : ∀ m', Tp ns m' → Cl (m' :: ([] : Me)) := fun m' hm' => Tp.cl (m := m1) (by
    obtain ⟨a, b, c, rfl, _⟩ := hm1
    rfl) hm'
  with_reducible refine cut _ _ 1 _ _ _ _ ?_
  rw [dp_dp]
  generalize hT : Ss.dp (2 + 1) b_law = T
  simp only [b_law, Ss.dp, Ss.tk]
  subst hT
  walk_at "mu"
  refine walked_ok hw hd (by omega) (n + 1) (by omega) _ (cl m1 hm1) _ _ ?_
  walk_at "mu"
  refine wLc_map (fun d => match d with
    | .tup [_, l] => frz l
    | _ => .non) (ok_none _ _) _ _ (fun x hx R hR => ?_) (by simp; rw [line_val]; omega) ?_
  · obtain ⟨k, hk, rfl⟩ := List.mem_map.mp hx
    simp only [tcD] at hR ⊢
    walk_at "mu"
    exact hR
  · walk_at "mu"
    have e : (ls.map tcD).map (fun x => frz (match x with
      | .tup [_, l] => frz l
      | _ => .non)) = ls.map fun q => q.2.enc := by
      rw [List.map_map]
      rfl
    rw [e]
    exact law3 hn hp hbx g3 hrl cl g2 g4 m1 hm1
theorem pure_law (ns : List Int) : callN cn 40 "law" [.scr ns] [] (fun d _ => d = .bl true) (fun _ _ => False) := law_n ns (n := 38) (by omega)

end K84
end

section
set_option linter.all false
set_option maxRecDepth 100000
set_option maxHeartbeats 0
namespace K84
open PySem PySem.Spec PyProof.Rows L2 Mp
abbrev prg : Program := PySem.Challenge.pw_leastrecord_k84_looks_and_runs_as_texts
def top (i : Nat) : Stmt := prg.main.body.getD i (.Pass ⟨0, 0, 0, 0⟩)
def gs : Gs := ⟨["shown_look", "shown_step", "listed", "shown_run", "is_name", "worth", "named_things", "names_by_sort", "number_of", "rows_of", "laid_in", "own_step", "rested", "first_seat", "touch_of", "seat_behind", "first_stand", "wait_of", "waits", "can_go", "is_whole", "takes_gift", "laid_at", "box_touched", "lock_touched", "lane_touched", "touched", "gone", "walked", "_law_tape", "_law_draw", "_law_names", "_law_pocket", "_law_sum", "_law_at_box", "_law_by_lock", "_law_piece", "_law_rows", "_law_program", "_law_gift", "_law_run", "_law_world", "_law_word", "_law_look_text", "_law_run_text", "_law_look", "law"], [], ["LETTERS", "MOST_LETTERS", "LANGUAGE", "ROUND", "SORTS", "MOST_OF_SORT", "MOST_OWN_ROWS", "GIVEN_IN", "TOLD_OUT", "VALUES", "ASKING", "MOST_STEPS"]⟩
def rows : List Mp.Row := [
  ⟨"shown_look", n_shown_look, top 1⟩,
  ⟨"shown_step", n_shown_step, top 2⟩,
  ⟨"listed", n_listed, top 3⟩,
  ⟨"shown_run", n_shown_run, top 4⟩,
  ⟨"is_name", n_is_name, top 13⟩,
  ⟨"worth", n_worth, top 16⟩,
  ⟨"named_things", n_named_things, top 20⟩,
  ⟨"names_by_sort", n_names_by_sort, top 21⟩,
  ⟨"number_of", n_number_of, top 22⟩,
  ⟨"rows_of", n_rows_of, top 23⟩,
  ⟨"laid_in", n_laid_in, top 28⟩,
  ⟨"own_step", n_own_step, top 29⟩,
  ⟨"rested", n_rested, top 30⟩,
  ⟨"first_seat", n_first_seat, top 31⟩,
  ⟨"touch_of", n_touch_of, top 32⟩,
  ⟨"seat_behind", n_seat_behind, top 33⟩,
  ⟨"first_stand", n_first_stand, top 35⟩,
  ⟨"wait_of", n_wait_of, top 36⟩,
  ⟨"waits", n_waits, top 37⟩,
  ⟨"can_go", n_can_go, top 38⟩,
  ⟨"is_whole", n_is_whole, top 42⟩,
  ⟨"takes_gift", n_takes_gift, top 43⟩,
  ⟨"laid_at", n_laid_at, top 44⟩,
  ⟨"box_touched", n_box_touched, top 45⟩,
  ⟨"lock_touched", n_lock_touched, top 46⟩,
  ⟨"lane_touched", n_lane_touched, top 47⟩,
  ⟨"touched", n_touched, top 48⟩,
  ⟨"gone", n_gone, top 49⟩,
  ⟨"walked", n_walked, top 52⟩,
  ⟨"_law_tape", n__law_tape, top 54⟩,
  ⟨"_law_draw", n__law_draw, top 55⟩,
  ⟨"_law_names", n__law_names, top 56⟩,
  ⟨"_law_pocket", n__law_pocket, top 57⟩,
  ⟨"_law_sum", n__law_sum, top 58⟩,
  ⟨"_law_at_box", n__law_at_box, top 59⟩,
  ⟨"_law_by_lock", n__law_by_lock, top 60⟩,
  ⟨"_law_piece", n__law_piece, top 61⟩,
  ⟨"_law_rows", n__law_rows, top 62⟩,
  ⟨"_law_program", n__law_program, top 63⟩,
  ⟨"_law_gift", n__law_gift, top 64⟩,
  ⟨"_law_run", n__law_run, top 65⟩,
  ⟨"_law_world", n__law_world, top 66⟩,
  ⟨"_law_word", n__law_word, top 67⟩,
  ⟨"_law_look_text", n__law_look_text, top 68⟩,
  ⟨"_law_run_text", n__law_run_text, top 69⟩,
  ⟨"_law_look", n__law_look, top 70⟩,
  ⟨"law", n_law, top 71⟩]
theorem rows_ok : rows.all (rowOk cn.T gs) = true := by kernel_rfl
def l1 : List PySem.Str := ["__name__", "shown_look", "shown_step", "listed", "shown_run", "LeastError", "NoGo", "NoRun", "LETTERS", "MOST_LETTERS", "LANGUAGE", "is_name", "ROUND", "worth", "SORTS", "MOST_OF_SORT", "named_things", "names_by_sort", "number_of", "rows_of", "MOST_OWN_ROWS", "GIVEN_IN", "TOLD_OUT", "laid_in", "own_step", "rested", "first_seat", "touch_of", "seat_behind", "first_stand"]
def l2 : List PySem.Str := ["wait_of", "waits", "can_go", "VALUES", "ASKING", "is_whole", "takes_gift", "laid_at", "box_touched", "lock_touched", "lane_touched", "touched", "gone", "MOST_STEPS", "walked", "_law_tape", "_law_draw", "_law_names", "_law_pocket", "_law_sum", "_law_at_box", "_law_by_lock", "_law_piece", "_law_rows", "_law_program", "_law_gift", "_law_run", "_law_world", "_law_word", "_law_look_text"]
def l3 : List PySem.Str := ["_law_run_text", "_law_look"]
def loose : List PySem.Str := l1 ++ l2 ++ l3
def co : CoL := gs.con.filterMap fun y => (tG y).map fun d => (y, d)
def fa : List He.Fa := fasOf_ rows
def fn : List He.DefD := fnsOf rows
abbrev Rr : PySem.W.OpenRow := PySem.W.OpenLaw.row PySem.Challenge.rw_leastrecord_k84_looks_and_runs_as_texts
abbrev hk : PySem.W.Hook := hookM 4 fa fn co
def ob (s : PySem.W.SharedT) : He.AlD := obsMG 4 fa fn co (HandSHeadRun.getT s)
theorem ob_eq (s : PySem.W.SharedT) : ob s = hk.obs s.abs := obsMG_eq (HandSHeadRun.getT_eq s)
theorem run (w : World) : HandSHeadRun.RunEq Rr (PySem.W.view Rr.prog [71]) hk ob 6000 loose w := by
  intro os
  kernel_rfl
end K84
end

set_option linter.all false
set_option maxRecDepth 100000
set_option maxHeartbeats 0
namespace K84
open PySem PySem.Spec PyProof.Rows L2 Mp
theorem hd : gs.defs = rows.map (·.f) := by decide +kernel
theorem hc : ∀ y ∈ gs.con, ∃ d, cn.G y = some d ∧ (y, d) ∈ co := by
  intro y hy
  have h : gs.con.all (fun y => (tG y).isSome) = true := by decide +kernel
  obtain ⟨d, e⟩ := Option.isSome_iff_exists.mp (List.all_eq_true.mp h y hy)
  exact ⟨d, e, List.mem_filterMap.mpr ⟨y, hy, by rw [e]; rfl⟩⟩
end K84
open PySem PySem.W PySem.Calls PyProof.Rows
theorem PySem.Challenge.cw_leastrecord_k84_looks_and_runs_as_texts_holds : PySem.Challenge.rw_leastrecord_k84_looks_and_runs_as_texts.Holds := by
  w_on; o_law
  refine HandSHeadRun.head_any (r := OpenLaw.row PySem.Challenge.rw_leastrecord_k84_looks_and_runs_as_texts) (q := view (OpenLaw.row PySem.Challenge.rw_leastrecord_k84_looks_and_runs_as_texts).prog [71]) (H := K84.hk) (ob := K84.ob) (M := 6000) (loose := K84.loose) (d := HandSHeadRun.topDef (OpenLaw.row PySem.Challenge.rw_leastrecord_k84_looks_and_runs_as_texts).prog 71) (kwd := []) K84.ob_eq
    (by kernel_rfl) (fun s => by kernel_rfl) K84.run (by kernel_rfl) (by kernel_rfl) (by kernel_rfl) (by rfl) (by first | assumption | decide +kernel) (by decide +kernel) ⟨rfl, rfl, rfl, rfl, rfl, by decide +kernel⟩ ?hw ?hc
  case hw => w_witness2
  case hc =>
    refine L2.walk_ofE (l := PySem.Challenge.rw_leastrecord_k84_looks_and_runs_as_texts) (n := 63) (k := 80) (x := "script") (CX := Mp.CXn) rfl (by decide) (by kernel_rfl) ⟨rfl, by decide, by decide⟩ ?F (fun _ _ _ _ z => z)
    intro w mg fa h Y G hmg0
    obtain ⟨K, KX, c⟩ := Y
    have hmg : mg (Mp.so "law") = some (.ref fa) := by
      have e : (HandSHeadRun.topDef (OpenLaw.row PySem.Challenge.rw_leastrecord_k84_looks_and_runs_as_texts).prog 71).name = (Mp.so "law" : PySem.Str) := by kernel_rfl
      rw [← e]
      exact hmg0
    obtain ⟨fd, sp, hb, hsp, hF⟩ := Mp.law_ok (P := (PySem.Challenge.rw_leastrecord_k84_looks_and_runs_as_texts).prog) (w := w) (n := 40) (x := "script") (arg := ((L2.defArgs (K84.top 71)).args.headD ⟨"script", none, default⟩)) (st := K84.top 71) KX G c K84.hd K84.hc (fun _ => rfl) K84.rows_ok ⟨K84.n_law, by exact List.mem_of_getElem? (i := 46) rfl⟩ (by kernel_rfl) (by kernel_rfl) hmg K84.pure_law
    exact ⟨K, fd, sp, KX, hb, fun H a ns hl _ hS => hsp H a ns hS, fun base _ _ => hF base⟩
