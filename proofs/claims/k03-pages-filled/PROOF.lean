import PyProof.Rows.All
import Wide.All
import OpenK.AllK
import Wide.FinOn
import HandS.ForMost
import HandS.TupAny
import HandS.TupMul
import HandS.Walk
import HandS.DictComp
import HandS.IsInst
import HandS.Defaults
import HandS.Deep
import HandS.Zip
import HandS.Rev
import HandS.Style
import HandS.More
import PyProof.Rows.StrItems
import PyProof.StrLawsTight
import KE.KDictPairs
import HandS.SetBool
import HandS.SetFor
import HandS.Strs
import HandS.Head0
import HandS.Head1
import HandS.Head2
import HandS.HeadEnd
import HandS.HeadHook1
import HandS.HeadHook2
import PySem.Challenge.RW_namesaloud_k03_pages_filled
set_option Elab.async false
set_option linter.all false
set_option maxRecDepth 100000
/-! PI1: plain data, values, cells, the small language, its interpreter. -/
namespace PI
open PySem

/-- a text: its code points -/
abbrev T := List Nat
/-- plain data -/
inductive D where
  | non
  | bl (b : Bool)
  | int (i : Int)
  | str (s : T)
  | tup (xs : List D)
  | lst (xs : List D)

mutual
/-- the same as the library's data -/
def D.py : D → PyData
  | .non => .none
  | .bl b => .bool b
  | .int i => .int i
  | .str s => .str ⟨s.toArray⟩
  | .tup xs => .tuple (D.pys xs)
  | .lst xs => .list (D.pys xs)
def D.pys : List D → List PyData
  | [] => []
  | x :: xs => D.py x :: D.pys xs
end
mutual
/-- Python's == -/
def D.eq : D → D → Bool
  | .non, y => match y with
    | .non => true
    | _ => false
  | .bl a, y => match y with
    | .bl b => a == b
    | .int j => decide ((if a then 1 else 0) = j)
    | _ => false
  | .int i, y => match y with
    | .bl b => decide (i = (if b then 1 else 0))
    | .int j => decide (i = j)
    | _ => false
  | .str a, y => match y with
    | .str b => decide (a = b)
    | _ => false
  | .tup xs, y => match y with
    | .tup ys => D.eqs xs ys
    | _ => false
  | .lst xs, y => match y with
    | .lst ys => D.eqs xs ys
    | _ => false
def D.eqs : List D → List D → Bool
  | [], ys => match ys with
    | [] => true
    | _ :: _ => false
  | x :: xs, ys => match ys with
    | [] => false
    | y :: ys => D.eq x y && D.eqs xs ys
end
mutual
def D.dep : D → Nat
  | .tup xs => D.deps xs + 1
  | .lst xs => D.deps xs + 1
  | _ => 0
def D.deps : List D → Nat
  | [] => 0
  | x :: xs => max (D.dep x) (D.deps xs)
end

/-- what a name may hold -/
inductive Val where
  | d (x : D)
  | l (n : Nat)
  | scr (ns : List Int)
  | dct (kvs : List (T × Val))
  | vt (xs : List Val)
  | vl (xs : List Val)
  | obj (c : Nat) (fs : List Val)
/-- a thing that may change -/
inductive Cell where
  | lst (xs : List Val)
  | dct (kvs : List (T × Val))
  | obj (c : Nat) (fs : List (Nat × Val))

abbrev Env := List (Option Val)
abbrev Store := List Cell
abbrev R (α : Type) := Option (α × Store)
def bnd {α β : Type} (m : R α) (f : α → Store → Option β) : Option β := match m with
  | some (a, S) => f a S
  | none => none
@[simp] theorem bnd_some {α β : Type} (a : α) (S : Store) (f : α → Store → Option β) : bnd (some (a, S)) f = f a S := rfl
@[simp] theorem bnd_none {α β : Type} (f : α → Store → Option β) : bnd none f = none := rfl

def look : Env → Nat → Option Val
  | [], _ => none
  | x :: xs, n => match n with
    | 0 => x
    | n + 1 => look xs n

inductive Op where
  | add | sub | mul | fdiv | mod | pow
inductive Cp where
  | eq | ne | lt | le | gt | ge | isin | notin
inductive Ty where
  | int | str | bool | tup | lst
  deriving DecidableEq
inductive B1 where
  | len | int | abs | tup | lst (m : Bool) | all | any | sorted | bool | lenset | sset
  deriving DecidableEq
inductive B2 where
  | min | max
  deriving DecidableEq
inductive Pat where
  | nm (i : Nat)
  | tp (ps : List Pat)

/-- an expression (also what a loop goes over: seq to vals); its flags m: makes a thing that may change -/
inductive E where
  | var (i : Nat)
  | glob (i : Nat) (d : D)
  | non
  | bl (b : Bool)
  | int (i : Int)
  | str (s : T)
  | tup (es : List E)
  | lst (m : Bool) (es : List E)
  | dct (m : Bool) (ks : List T) (es : List E)
  | bin (o : Op) (a b : E)
  | neg (a : E)
  | cmp (o : Cp) (a b : E)
  | isN (a : E)
  | notN (a : E)
  | chain (o o' : Cp) (a b c : E)
  | and (a b : E)
  | or (a b : E)
  | not (a : E)
  | ife (c a b : E)
  | idx (a b : E)
  | slice (m : Bool) (a lo hi : E)
  | call (f : Nat) (m : Bool) (es : List E)
  | b1 (b : B1) (a : E)
  | b2 (b : B2) (a c : E)
  | isi (a : E) (ts : List Ty)
  | comp (m : Bool) (p : Pat) (it c elt : E) (own : List Nat)
  | comp2 (m : Bool) (p : Pat) (it : E) (p2 : Pat) (it2 elt : E) (own own2 : List Nat)
  | join (a b : E)
  | split (a b : E)
  | upper (a : E)
  | get2 (a k d : E)
  | pop0 (a : E)
  | pop1 (a i : E)
  | cat (m : Bool) (a b : E)
  | eqL (ng : Bool) (a b : E)
  | isB (ng : Bool) (a : E) (b : Bool)
  | append (a e : E)
  | update (a e : E)
  | dictP (m : Bool) (a : E)
  | scomp (p : Pat) (it c elt : E) (own : List Nat)
  | seq (e : E)
  | rng1 (a : E)
  | rng2 (a b : E)
  | zip (a b : E)
  | enum (a : E)
  | items (a : E)
  | keys (a : E)
  | vals (a : E)
inductive St where
  | set (p : Pat) (e : E)
  | par (ps : List Nat) (es : List E)
  | setIdx (a i e : E)
  | ex (e : E)
  | ret (e : E)
  | ite (c : E) (a b : List St)
  | for_ (p : Pat) (it : E) (body : List St)
  | while_ (c : E) (body : List St)
  | brk
  | cnt
  | pass
  | raise

/-! ### what the operators do -/
def lim : Nat := 16777216
def cut {α : Type} (xs : List α) (lo hi : Option Int) : List α := (xs.drop (HT.sIx xs.length 0 lo)).take (HT.sIx xs.length xs.length hi - HT.sIx xs.length 0 lo)
/-- a op b of data -/
def opD : Op → D → D → Option D
  | .add, x, y => match x, y with
    | .int i, .int j => some (.int (i + j))
    | .str s, .str t => if s.length + t.length ≤ lim then some (.str (s ++ t)) else none
    | .tup xs, .tup ys => if xs.length + ys.length ≤ lim then some (.tup (xs ++ ys)) else none
    | .lst xs, .lst ys => if xs.length + ys.length ≤ lim then some (.lst (xs ++ ys)) else none
    | _, _ => none
  | .sub, x, y => match x, y with
    | .int i, .int j => some (.int (i - j))
    | _, _ => none
  | .mul, x, y => match x, y with
    | .int i, .int j => if (-(2 ^ 64) < i ∧ i < 2 ^ 64) ∨ (-(2 ^ 64) < j ∧ j < 2 ^ 64) then some (.int (i * j)) else none
    | .tup xs, .int k => if xs ≠ [] ∧ 2 ≤ k ∧ k ≤ 1000 ∧ xs.length ≤ 1000 then some (.tup (List.replicate k.toNat xs).flatten) else none
    | _, _ => none
  | .fdiv, x, y => match x, y with
    | .int i, .int j => if 0 < j ∧ j < 1073741824 then some (.int (i / j)) else none
    | _, _ => none
  | .mod, x, y => match x, y with
    | .int i, .int j => if 0 < j then some (.int (i % j)) else none
    | _, _ => none
  | .pow, x, y => match x, y with
    | .int i, .int j => if 0 ≤ j ∧ j ≤ 1000000 ∧ i.natAbs < 2 ^ 64 then some (.int (i ^ j.toNat)) else none
    | _, _ => none
def cmpD : Cp → D → D → Option Bool
  | .eq, x, y => if min x.dep y.dep ≤ 60 then some (D.eq x y) else none
  | .ne, x, y => if min x.dep y.dep ≤ 60 then some (!D.eq x y) else none
  | .lt, x, y => match x, y with
    | .int i, .int j => some (decide (i < j))
    | .str s, .str t => some (decide (s < t))
    | _, _ => none
  | .le, x, y => match x, y with
    | .int i, .int j => some (decide (i ≤ j))
    | .str s, .str t => some (!decide (t < s))
    | _, _ => none
  | .gt, x, y => match x, y with
    | .int i, .int j => some (decide (j < i))
    | .str s, .str t => some (decide (t < s))
    | _, _ => none
  | .ge, x, y => match x, y with
    | .int i, .int j => some (decide (j ≤ i))
    | .str s, .str t => some (!decide (s < t))
    | _, _ => none
  | .isin, x, y => match y with
    | .tup ys => if min (D.deps ys) x.dep ≤ 60 then some (ys.any fun z => D.eq z x) else none
    | .lst ys => if min (D.deps ys) x.dep ≤ 60 then some (ys.any fun z => D.eq z x) else none
    | .str t => match x with
      | .str [c] => some (decide (c ∈ t))
      | _ => none
    | _ => none
  | .notin, x, y => match y with
    | .tup ys => if min (D.deps ys) x.dep ≤ 60 then some (!ys.any fun z => D.eq z x) else none
    | .lst ys => if min (D.deps ys) x.dep ≤ 60 then some (!ys.any fun z => D.eq z x) else none
    | .str t => match x with
      | .str [c] => some (!decide (c ∈ t))
      | _ => none
    | _ => none
/-- the items of a thing that is walked or counted -/
def itemsD : D → Option (List D)
  | .tup xs => some xs
  | .lst xs => some xs
  | .str s => some (s.map fun c => .str [c])
  | _ => none
def tyD : D → Ty → Bool
  | .non, _ => false
  | .bl _, t => t == .bool || t == .int
  | .int _, t => t == .int
  | .str _, t => t == .str
  | .tup _, t => t == .tup
  | .lst _, t => t == .lst
def bools : List D → Option (List Bool)
  | [] => some []
  | x :: xs => match x with
    | .bl b => (bools xs).map (b :: ·)
    | _ => none
def texts : List D → Option (List T)
  | [] => some []
  | x :: xs => match x with
    | .str s => (texts xs).map (s :: ·)
    | _ => none
/-- all of them plain -/
def datas : List Val → Option (List D)
  | [] => some []
  | x :: xs => match x with
    | .d x => (datas xs).map (x :: ·)
    | _ => none
/-- the texts between the signs c -/
def splitAt1 (c : Nat) : T → List T
  | [] => [[]]
  | x :: xs => if x = c then [] :: splitAt1 c xs else match splitAt1 c xs with
    | [] => [[x]]
    | y :: ys => (x :: y) :: ys
def joinT (a : T) : List T → T
  | [] => []
  | [x] => x
  | x :: xs => x ++ a ++ joinT a xs

def lkp {α : Type} (k : T) : List (T × α) → Option α
  | [] => none
  | (j, v) :: r => if j = k then some v else lkp k r
def put {α : Type} (k : T) (v : α) (kvs : List (T × α)) : List (T × α) :=
  if (kvs.any fun p => decide (p.1 = k)) = true then kvs.map (fun p => if p.1 = k then (p.1, v) else p) else kvs ++ [(k, v)]

mutual
/-- a target takes a value -/
def bindP : Pat → Val → Env → Option Env
  | .nm i, v, ρ => some (ρ.set i (some v))
  | .tp ps, v, ρ => match v with
    | .d (.tup xs) => bindPs ps (xs.map .d) ρ
    | .vt xs => bindPs ps xs ρ
    | _ => none
def bindPs : List Pat → List Val → Env → Option Env
  | [], xs, ρ => match xs with
    | [] => some ρ
    | _ :: _ => none
  | p :: ps, xs, ρ => match xs with
    | [] => none
    | x :: xs => match bindP p x ρ with
      | some ρ' => bindPs ps xs ρ'
      | none => none
end
def wipe (ρ : Env) : List Nat → Env
  | [] => ρ
  | v :: vs => (wipe ρ vs).set v none

/-- the calls of a program's defs: the def's number, whether its answer is to be a thing that may change, the arguments -/
abbrev Calls := Nat → Bool → List Val → Store → R Val

/-- a new thing that may change, or a plain one -/
def mkL (m : Bool) (vs : List Val) (S : Store) : R Val := match m with
  | true => some (.l S.length, S ++ [.lst vs])
  | false => match datas vs with
    | some xs => some (.d (.lst xs), S)
    | none => some (.vl vs, S)
def mkT (vs : List Val) (S : Store) : R Val := match datas vs with
  | some xs => some (.d (.tup xs), S)
  | none => some (.vt vs, S)
def mkD (m : Bool) (kvs : List (T × Val)) (S : Store) : R Val := match m with
  | true => some (.l S.length, S ++ [.dct kvs])
  | false => some (.dct kvs, S)

/-- a subscript -/
def idxV (a b : Val) (S : Store) : Option Val := match a with
  | .d (.tup xs) => match b with
    | .d (.int i) => (L2.atI xs i).map .d
    | _ => none
  | .d (.lst xs) => match b with
    | .d (.int i) => (L2.atI xs i).map .d
    | _ => none
  | .d (.str s) => match b with
    | .d (.int i) => if s.length ≤ lim then (L2.atI s i).map fun c => .d (.str [c]) else none
    | _ => none
  | .scr ns => match b with
    | .d (.int i) => (L2.atI ns i).map fun n => .d (.int n)
    | _ => none
  | .dct kvs => match b with
    | .d (.str k) => lkp k kvs
    | _ => none
  | .vl xs => match b with
    | .d (.int i) => L2.atI xs i
    | _ => none
  | .l n => match S[n]? with
    | some (.lst xs) => match b with
      | .d (.int i) => L2.atI xs i
      | _ => none
    | some (.dct kvs) => match b with
      | .d (.str k) => lkp k kvs
      | _ => none
    | _ => none
  | _ => none
/-- an index that is left out or an int -/
def partE (e : E) (x : Val) : Option (Option Int) := match e with
  | .non => some none
  | _ => match x with
    | .d (.int i) => some (some i)
    | _ => none
/-- a slice -/
def sliceV (m : Bool) (a : Val) (lo hi : Option Int) (S : Store) : R Val := match a with
  | .d (.tup xs) => some (.d (.tup (cut xs lo hi)), S)
  | .d (.lst xs) => mkL m ((cut xs lo hi).map .d) S
  | .d (.str s) => if s.length ≤ lim then some (.d (.str (cut s lo hi)), S) else none
  | .vl xs => mkL m (cut xs lo hi) S
  | .l n => match S[n]? with
    | some (.lst xs) => mkL m (cut xs lo hi) S
    | _ => none
  | _ => none
/-- what len counts -/
def lenV (a : Val) (S : Store) : Option Nat := match a with
  | .d (.tup xs) => some xs.length
  | .d (.lst xs) => some xs.length
  | .d (.str s) => if s.length ≤ lim then some s.length else none
  | .scr ns => some ns.length
  | .dct kvs => some kvs.length
  | .vl xs => some xs.length
  | .l n => match S[n]? with
    | some (.lst xs) => some xs.length
    | some (.dct kvs) => some kvs.length
    | _ => none
  | _ => none
/-- the items of a list or tuple -/
def seqV (a : Val) (S : Store) : Option (List Val) := match a with
  | .d (.tup xs) => some (xs.map .d)
  | .d (.lst xs) => some (xs.map .d)
  | .vl xs => some xs
  | .vt xs => some xs
  | .l n => match S[n]? with
    | some (.lst xs) => some xs
    | _ => none
  | _ => none
def tyV (a : Val) (S : Store) (t : Ty) : Option Bool := match a with
  | .d x => some (tyD x t)
  | .l n => match S[n]? with
    | some (.lst _) => some (t == .lst)
    | _ => none
  | _ => none
def tyVs (a : Val) (S : Store) : List Ty → Option Bool
  | [] => some false
  | t :: ts => match tyV a S t with
    | some true => some true
    | some false => tyVs a S ts
    | none => none
def b2V (b : B2) (x y : Val) : Option Val := match x with
  | .d (.int i) => match y with
    | .d (.int j) => match b with
      | .min => some (.d (.int (if j < i then j else i)))
      | .max => some (.d (.int (if j > i then j else i)))
    | _ => none
  | _ => none
/-- the pairs of two lists -/
def zipD : List D → List D → List Val
  | [], _ => []
  | x :: xs, ys => match ys with
    | [] => []
    | y :: ys => .vt [.d x, .d y] :: zipD xs ys
def enumD : Nat → List D → List Val
  | _, [] => []
  | i, x :: xs => .vt [.d (.int i), .d x] :: enumD (i + 1) xs
def itemsV (kvs : List (T × Val)) : List Val := kvs.map fun p => .vt [.d (.str p.1), p.2]
def ranged (lo : Int) (n : Nat) : List Val := (List.range n).map fun k => .d (.int (lo + (k : Nat)))

mutual
/-- no thing that may change, but of the first n -/
def okv (n : Nat) : Val → Bool
  | .d _ => true
  | .l k => decide (k < n)
  | .scr _ => true
  | .dct kvs => okk n kvs
  | .vt xs => oks n xs
  | .vl xs => oks n xs
  | .obj _ fs => oks n fs
def oks (n : Nat) : List Val → Bool
  | [] => true
  | x :: xs => okv n x && oks n xs
def okk (n : Nat) : List (T × Val) → Bool
  | [] => true
  | (_, x) :: xs => okv n x && okk n xs
end
def okf (n : Nat) : List (Nat × Val) → Bool
  | [] => true
  | (_, x) :: xs => okv n x && okf n xs
def okc (n : Nat) : Cell → Bool
  | .lst xs => oks n xs
  | .dct kvs => okk n kvs
  | .obj _ fs => okf n fs
/-- plain data, or a list of them that may change -/
def dataV (a : Val) (S : Store) : Option D := match a with
  | .d x => some x
  | .l n => match S[n]? with
    | some (.lst vs) => (datas vs).map .lst
    | _ => none
  | _ => none
/-- a list's items -/
def listV (a : Val) (S : Store) : Option (List Val) := match a with
  | .d (.lst xs) => some (xs.map .d)
  | .vl xs => some xs
  | .l n => match S[n]? with
    | some (.lst xs) => some xs
    | _ => none
  | _ => none
/-- pairs of a text and a thing -/
def pairsD : List D → Option (List (T × Val))
  | [] => some []
  | x :: xs => match x with
    | .tup [.str k, v] => (pairsD xs).map ((k, .d v) :: ·)
    | _ => none
def isL (a : Val) (S : Store) : Bool := match a with
  | .l n => match S[n]? with
    | some (.lst _) => true
    | _ => false
  | _ => false
def isDc (a : Val) (S : Store) : Bool := match a with
  | .dct _ => true
  | .l n => match S[n]? with
    | some (.dct _) => true
    | _ => false
  | _ => false
def appV (a v : Val) (S : Store) : Option Store := match a with
  | .l n => if okv n v = true then match S[n]? with
    | some (.lst xs) => if xs.length < lim then some (S.set n (.lst (xs ++ [v]))) else none
    | _ => none else none
  | _ => none
def popV (a : Val) (i : Option Val) (S : Store) : R Val := match a with
  | .l n => match S[n]? with
    | some (.lst xs) => match i with
      | none => match xs[xs.length - 1]? with
        | some v => some (v, S.set n (.lst xs.dropLast))
        | none => none
      | some (.d (.int i)) => if 0 ≤ i ∧ i < 2 ^ 62 then match xs[i.toNat]? with
        | some v => some (v, S.set n (.lst (xs.eraseIdx i.toNat)))
        | none => none else none
      | _ => none
    | _ => none
  | _ => none
def putAll : List (T × Val) → List (T × Val) → List (T × Val)
  | kvs, [] => kvs
  | kvs, (k, v) :: r => putAll (put k v kvs) r
def updV (a b : Val) (S : Store) : Option Store := match a with
  | .l n => match b with
    | .dct more => if okk n more = true ∧ more.length < lim then match S[n]? with
      | some (.dct kvs) => if kvs.length + more.length < lim then some (S.set n (.dct (putAll kvs more))) else none
      | _ => none else none
    | _ => none
  | _ => none
/-- a dict of pairs, or a dict's copy -/
def dictV (m : Bool) (a : Val) (S : Store) : R Val := match a with
  | .d (.lst xs) => match pairsD xs with
    | some kvs => mkD m (putAll [] kvs) S
    | none => none
  | .d (.tup xs) => match pairsD xs with
    | some kvs => mkD m (putAll [] kvs) S
    | none => none
  | .dct kvs => mkD m kvs S
  | _ => none
/-- d.get(k, v) -/
def getV (a k v : Val) (S : Store) : Option Val := match k with
  | .d (.str k) => match a with
    | .dct kvs => some ((lkp k kvs).getD v)
    | .l n => match S[n]? with
      | some (.dct kvs) => some ((lkp k kvs).getD v)
      | _ => none
    | _ => none
  | _ => none
def keysV (a : Val) (S : Store) : Option (List Val) := match a with
  | .dct kvs => some (kvs.map fun p => .d (.str p.1))
  | .l n => match S[n]? with
    | some (.dct kvs) => some (kvs.map fun p => .d (.str p.1))
    | _ => none
  | _ => none
/-- put into its place -/
def insT (x : T) : List T → List T
  | [] => [x]
  | y :: ys => if x < y then x :: y :: ys else y :: insT x ys
def sortT : List T → List T
  | [] => []
  | x :: xs => insT x (sortT xs)
def dedupT : List T → List T
  | [] => []
  | x :: xs => if x ∈ dedupT xs then dedupT xs else x :: dedupT xs
/-- the texts that a list or dict holds -/
def textsL (a : Val) (S : Store) : Option (List T) := match a with
  | .d (.lst xs) => texts xs
  | .dct kvs => some (kvs.map (·.1))
  | .l n => match S[n]? with
    | some (.lst vs) => match datas vs with
      | some xs => texts xs
      | none => none
    | some (.dct kvs) => some (kvs.map (·.1))
    | _ => none
  | _ => none
/-- .. or a list or tuple -/
def textsV (a : Val) (S : Store) : Option (List T) := match a with
  | .d (.lst xs) => texts xs
  | .d (.tup xs) => texts xs
  | _ => none
def b1V (b : B1) (a : Val) (S : Store) : R Val := match b with
  | .len => match lenV a S with
    | some n => some (.d (.int (n : Nat)), S)
    | none => none
  | .int => match a with
    | .d (.int i) => some (a, S)
    | .d (.bl b) => some (.d (.int (if b then 1 else 0)), S)
    | _ => none
  | .abs => match a with
    | .d (.int i) => some (.d (.int (if i < 0 then -i else i)), S)
    | _ => none
  | .tup => match a with
    | .d (.tup _) => some (a, S)
    | .vt _ => some (a, S)
    | _ => match listV a S with
      | some vs => mkT vs S
      | none => none
  | .lst m => match seqV a S with
    | some vs => mkL m vs S
    | none => match keysV a S with
      | some vs => mkL m vs S
      | none => none
  | .all => match a with
    | .d (.lst xs) => (bools xs).map fun bs => (.d (.bl (bs.all id)), S)
    | _ => none
  | .any => match a with
    | .d (.lst xs) => (bools xs).map fun bs => (.d (.bl (bs.any id)), S)
    | _ => none
  | .sorted => match textsL a S with
    | some ts => if ts.length < 64 then some (.d (.lst ((sortT ts).map .str)), S) else none
    | none => none
  | .sset => match textsV a S with
    | some ts => if ts.length < 64 then some (.d (.lst ((sortT (dedupT ts)).map .str)), S) else none
    | none => none
  | .lenset => match textsV a S with
    | some ts => if ts.length < 1000 then some (.d (.int ((dedupT ts).length : Nat)), S) else none
    | none => none
  | _ => none
/-- the turns of a comprehension -/
def evLc (f : Val → Env → Store → R (List Val)) : List Val → Env → Store → R (List Val)
  | [], _, S => some ([], S)
  | x :: xs, ρ, S => bnd (f x ρ S) fun ys S => bnd (evLc f xs ρ S) fun zs S => some (ys ++ zs, S)
mutual
/-- an expression's value -/
def evE (C : Calls) : E → Env → Store → R Val
  | .var i, ρ, S => (look ρ i).map fun v => (v, S)
  | .glob _ d, _, S => some (.d d, S)
  | .non, _, S => some (.d .non, S)
  | .bl b, _, S => some (.d (.bl b), S)
  | .int i, _, S => some (.d (.int i), S)
  | .str s, _, S => some (.d (.str s), S)
  | .tup es, ρ, S => bnd (evEs C es ρ S) fun vs S => mkT vs S
  | .lst m es, ρ, S => bnd (evEs C es ρ S) fun vs S => mkL m vs S
  | .dct m ks es, ρ, S => bnd (evEs C es ρ S) fun vs S => mkD m (putAll [] (ks.zip vs)) S
  | .bin o a b, ρ, S => bnd (evE C a ρ S) fun x S => bnd (evE C b ρ S) fun y S => match x with
    | .d x => match y with
      | .d y => (opD o x y).map fun z => (.d z, S)
      | _ => none
    | _ => none
  | .neg a, ρ, S => bnd (evE C a ρ S) fun x S => match x with
    | .d (.int i) => some (.d (.int (-i)), S)
    | _ => none
  | .cmp o a b, ρ, S => bnd (evE C a ρ S) fun x S => bnd (evE C b ρ S) fun y S => match x with
    | .d x => match y with
      | .d y => (cmpD o x y).map fun z => (.d (.bl z), S)
      | _ => none
    | _ => none
  | .isN a, ρ, S => bnd (evE C a ρ S) fun x S => match x with
    | .d .non => some (.d (.bl true), S)
    | _ => some (.d (.bl false), S)
  | .notN a, ρ, S => bnd (evE C a ρ S) fun x S => match x with
    | .d .non => some (.d (.bl false), S)
    | _ => some (.d (.bl true), S)
  | .chain o o' a b c, ρ, S => bnd (evE C a ρ S) fun x S => bnd (evE C b ρ S) fun y S => match x with
    | .d x => match y with
      | .d y => match cmpD o x y with
        | some true => bnd (evE C c ρ S) fun z S => match z with
          | .d z => (cmpD o' y z).map fun r => (.d (.bl r), S)
          | _ => none
        | some false => some (.d (.bl false), S)
        | none => none
      | _ => none
    | _ => none
  | .and a b, ρ, S => bnd (evE C a ρ S) fun x S => match x with
    | .d (.bl true) => evE C b ρ S
    | .d (.bl false) => some (.d (.bl false), S)
    | _ => none
  | .or a b, ρ, S => bnd (evE C a ρ S) fun x S => match x with
    | .d (.bl true) => some (.d (.bl true), S)
    | .d (.bl false) => evE C b ρ S
    | _ => none
  | .not a, ρ, S => bnd (evE C a ρ S) fun x S => match x with
    | .d (.bl b) => some (.d (.bl !b), S)
    | _ => none
  | .ife c a b, ρ, S => bnd (evE C c ρ S) fun x S => match x with
    | .d (.bl true) => evE C a ρ S
    | .d (.bl false) => evE C b ρ S
    | _ => none
  | .idx a b, ρ, S => bnd (evE C a ρ S) fun x S => bnd (evE C b ρ S) fun y S => (idxV x y S).map fun v => (v, S)
  | .slice m a lo hi, ρ, S => bnd (evE C a ρ S) fun x S => bnd (evE C lo ρ S) fun l S => bnd (evE C hi ρ S) fun h S => match partE lo l with
    | some l => match partE hi h with
      | some h => sliceV m x l h S
      | none => none
    | none => none
  | .call f m es, ρ, S => bnd (evEs C es ρ S) fun vs S => C f m vs S
  | .b1 b a, ρ, S => bnd (evE C a ρ S) fun x S => b1V b x S
  | .b2 b a c, ρ, S => bnd (evE C a ρ S) fun x S => bnd (evE C c ρ S) fun y S => (b2V b x y).map fun v => (v, S)
  | .isi a ts, ρ, S => bnd (evE C a ρ S) fun x S => (tyVs x S ts).map fun b => (.d (.bl b), S)
  | .comp m p it c elt own, ρ, S => bnd (evI C it ρ S) fun xs S => bnd (evLc (fun v ρ S => match bindP p v ρ with
      | some ρ => bnd (evE C c ρ S) fun b S => match b with
        | .d (.bl true) => bnd (evE C elt ρ S) fun y S => some ([y], S)
        | .d (.bl false) => some ([], S)
        | _ => none
      | none => none) xs (wipe ρ own) S) fun vs S => mkL m vs S
  | .comp2 _ _ _ _ _ _ _ _, _, _ => none
  | .join a b, ρ, S => bnd (evE C a ρ S) fun x S => bnd (evE C b ρ S) fun y S => match x with
    | .d (.str s) => match y with
      | .d (.lst xs) => match texts xs with
        | some ts => if (ts.map List.length).sum + ts.length * s.length ≤ lim then some (.d (.str (joinT s ts)), S) else none
        | none => none
      | .d (.tup xs) => match texts xs with
        | some ts => if (ts.map List.length).sum + ts.length * s.length ≤ lim then some (.d (.str (joinT s ts)), S) else none
        | none => none
      | _ => none
    | _ => none
  | .split a b, ρ, S => bnd (evE C a ρ S) fun x S => bnd (evE C b ρ S) fun y S => match x with
    | .d (.str s) => match y with
      | .d (.str [c]) => if s.length + 2 ≤ lim then some (.d (.lst ((splitAt1 c s).map .str)), S) else none
      | _ => none
    | _ => none
  | .upper _, _, _ => none
  | .get2 a k d, ρ, S => bnd (evE C a ρ S) fun x S => if isDc x S = true then bnd (evE C k ρ S) fun y S => bnd (evE C d ρ S) fun z S => (getV x y z S).map fun v => (v, S) else none
  | .cat m a b, ρ, S => bnd (evE C a ρ S) fun x S => bnd (evE C b ρ S) fun y S => match listV x S with
    | some xs => match listV y S with
      | some ys => if xs.length + ys.length ≤ lim then mkL m (xs ++ ys) S else none
      | none => none
    | none => none
  | .eqL ng a b, ρ, S => bnd (evE C a ρ S) fun x S => bnd (evE C b ρ S) fun y S => match dataV x S with
    | some x => match dataV y S with
      | some y => if min x.dep y.dep ≤ 60 then some (.d (.bl (D.eq x y != ng)), S) else none
      | none => none
    | none => none
  | .isB ng a b, ρ, S => bnd (evE C a ρ S) fun x S => match x with
    | .d (.bl c) => some (.d (.bl ((c == b) != ng)), S)
    | _ => none
  | .append a e, ρ, S => bnd (evE C a ρ S) fun x S => if isL x S = true then bnd (evE C e ρ S) fun v S => (appV x v S).map fun S => (.d .non, S) else none
  | .update a e, ρ, S => bnd (evE C a ρ S) fun x S => if isDc x S = true then bnd (evE C e ρ S) fun v S => (updV x v S).map fun S => (.d .non, S) else none
  | .dictP m a, ρ, S => bnd (evE C a ρ S) fun x S => dictV m x S
  | .scomp p it c elt own, ρ, S => bnd (evI C it ρ S) fun xs S => bnd (evLc (fun v ρ S => match bindP p v ρ with
      | some ρ => bnd (evE C c ρ S) fun b S => match b with
        | .d (.bl true) => bnd (evE C elt ρ S) fun y S => some ([y], S)
        | .d (.bl false) => some ([], S)
        | _ => none
      | none => none) xs (wipe ρ own) S) fun vs S => match datas vs with
        | some xs => match texts xs with
          | some ts => if ts.length < 64 then some (.d (.lst ((sortT (dedupT ts)).map .str)), S) else none
          | none => none
        | none => none
  | .pop0 a, ρ, S => bnd (evE C a ρ S) fun x S => popV x none S
  | .pop1 a i, ρ, S => bnd (evE C a ρ S) fun x S => if isL x S = true then bnd (evE C i ρ S) fun y S => popV x (some y) S else none
  | _, _, _ => none
def evEs (C : Calls) : List E → Env → Store → R (List Val)
  | [], _, S => some ([], S)
  | e :: es, ρ, S => bnd (evE C e ρ S) fun v S => bnd (evEs C es ρ S) fun vs S => some (v :: vs, S)
/-- what a loop goes over, item by item -/
def evI (C : Calls) : E → Env → Store → R (List Val)
  | .seq a, ρ, S => bnd (evE C a ρ S) fun x S => match x with
    | .d (.tup xs) => some (xs.map .d, S)
    | .d (.lst xs) => some (xs.map .d, S)
    | .d (.str s) => if s.length ≤ lim then some (s.map fun c => .d (.str [c]), S) else none
    | .dct kvs => some (kvs.map fun p => .d (.str p.1), S)
    | _ => none
  | .rng1 a, ρ, S => bnd (evE C a ρ S) fun x S => match x with
    | .d (.int j) => if -(2 ^ 62) ≤ j ∧ j ≤ 16777216 then some (ranged 0 j.toNat, S) else none
    | _ => none
  | .rng2 a b, ρ, S => bnd (evE C a ρ S) fun x S => bnd (evE C b ρ S) fun y S => match x with
    | .d (.int i) => match y with
      | .d (.int j) => if -(2 ^ 60) ≤ i ∧ i < 2 ^ 60 ∧ -(2 ^ 60) ≤ j ∧ j ≤ i + 16777216 then some (ranged i (j - i).toNat, S) else none
      | _ => none
    | _ => none
  | .zip a b, ρ, S => bnd (evE C a ρ S) fun x S => bnd (evE C b ρ S) fun y S => match x with
    | .d (.tup xs) => match y with
      | .d (.tup ys) => some (zipD xs ys, S)
      | _ => none
    | .d (.lst xs) => match y with
      | .d (.lst ys) => some (zipD xs ys, S)
      | _ => none
    | _ => none
  | .enum a, ρ, S => bnd (evE C a ρ S) fun x S => match x with
    | .d (.lst xs) => some (enumD 0 xs, S)
    | _ => none
  | .items a, ρ, S => bnd (evE C a ρ S) fun x S => match x with
    | .dct kvs => some (itemsV kvs, S)
    | _ => none
  | .vals a, ρ, S => bnd (evE C a ρ S) fun x S => match x with
    | .dct kvs => some (kvs.map (·.2), S)
    | _ => none
  | _, _, _ => none
end

/-! ### statements -/
inductive Fl where
  | nx (ρ : Env) (S : Store)
  | ret (v : Val) (S : Store)
  | brk (ρ : Env) (S : Store)
  | cnt (ρ : Env) (S : Store)
/-- a loop over these -/
def evFor (bind : Val → Env → Option Env) (body : Env → Store → Option Fl) : List Val → Env → Store → Option Fl
  | [], ρ, S => some (.nx ρ S)
  | x :: xs, ρ, S => match bind x ρ with
    | some ρ => match body ρ S with
      | some (.nx ρ S) => evFor bind body xs ρ S
      | some (.cnt ρ S) => evFor bind body xs ρ S
      | some (.brk ρ S) => some (.nx ρ S)
      | some (.ret v S) => some (.ret v S)
      | none => none
    | none => none
def evWhile (test : Env → Store → R Val) (body : Env → Store → Option Fl) : Nat → Env → Store → Option Fl
  | 0, _, _ => none
  | n + 1, ρ, S => bnd (test ρ S) fun b S => match b with
    | .d (.bl true) => match body ρ S with
      | some (.nx ρ S) => evWhile test body n ρ S
      | some (.cnt ρ S) => evWhile test body n ρ S
      | some (.brk ρ S) => some (.nx ρ S)
      | some (.ret v S) => some (.ret v S)
      | none => none
    | .d (.bl false) => some (.nx ρ S)
    | _ => none
/-- an item of a thing takes a value -/
def setV (a i v : Val) (S : Store) : Option Store := match a with
  | .l n => if okv n v = true then match S[n]? with
    | some (.lst xs) => match i with
      | .d (.int i) => match L2.ixN xs.length i with
        | some j => some (S.set n (.lst (xs.set j v)))
        | none => none
      | _ => none
    | some (.dct kvs) => match i with
      | .d (.str k) => if kvs.length < lim then some (S.set n (.dct (put k v kvs))) else none
      | _ => none
    | _ => none else none
  | _ => none
def setAll : List Nat → List Val → Env → Option Env
  | [], vs, ρ => match vs with
    | [] => some ρ
    | _ :: _ => none
  | i :: is, vs, ρ => match vs with
    | [] => none
    | v :: vs => setAll is vs (ρ.set i (some v))
mutual
def evS (C : Calls) : St → Env → Store → Option Fl
  | .set p e, ρ, S => bnd (evE C e ρ S) fun v S => (bindP p v ρ).map fun ρ => .nx ρ S
  | .par ps es, ρ, S => bnd (evEs C es ρ S) fun vs S => (setAll ps vs ρ).map fun ρ => .nx ρ S
  | .setIdx a i e, ρ, S => bnd (evE C e ρ S) fun v S => bnd (evE C a ρ S) fun x S => bnd (evE C i ρ S) fun y S => (setV x y v S).map fun S => .nx ρ S
  | .ex e, ρ, S => bnd (evE C e ρ S) fun _ S => some (.nx ρ S)
  | .ret e, ρ, S => bnd (evE C e ρ S) fun v S => some (.ret v S)
  | .ite c a b, ρ, S => bnd (evE C c ρ S) fun x S => match x with
    | .d (.bl true) => evSs C a ρ S
    | .d (.bl false) => evSs C b ρ S
    | _ => none
  | .for_ p it body, ρ, S => bnd (evI C it ρ S) fun xs S => evFor (bindP p) (evSs C body) xs ρ S
  | .while_ c body, ρ, S => evWhile (evE C c) (evSs C body) 1000000 ρ S
  | .brk, ρ, S => some (.brk ρ S)
  | .cnt, ρ, S => some (.cnt ρ S)
  | .pass, ρ, S => some (.nx ρ S)
  | .raise, _, _ => none
def evSs (C : Calls) : List St → Env → Store → Option Fl
  | [], ρ, S => some (.nx ρ S)
  | s :: ss, ρ, S => match evS C s ρ S with
    | some (.nx ρ S) => evSs C ss ρ S
    | some (.ret v S) => some (.ret v S)
    | some (.brk ρ S) => some (.brk ρ S)
    | some (.cnt ρ S) => some (.cnt ρ S)
    | none => none
end

/-! ### defs -/
/-- a def: its parameters, the number of its names, its body -/
structure Fn where
  np : Nat
  n : Nat
  body : List St
def cellV : Cell → Option Val
  | .lst vs => match datas vs with
    | some xs => some (.d (.lst xs))
    | none => some (.vl vs)
  | .dct kvs => some (.dct kvs)
  | .obj _ _ => none
/-- what a def hands back: n things that may change stood at its call -/
def finish (n : Nat) (m : Bool) (v : Val) (S : Store) : R Val := match m with
  | true => match v with
    | .l k => if n ≤ k then match S[k]? with
      | some c => if okc n c = true then some (.l n, S.take n ++ [c]) else none
      | none => none else none
    | _ => none
  | false => match v with
    | .l k => if n ≤ k then match S[k]? with
      | some c => match cellV c with
        | some v => if okv n v = true then some (v, S.take n) else none
        | none => none
      | none => none else some (.l k, S.take n)
    | v => if okv n v = true then some (v, S.take n) else none
def start (fn : Fn) (args : List Val) : Env := args.map some ++ List.replicate (fn.n - args.length) none
def runFn (C : Calls) (fn : Fn) (m : Bool) (args : List Val) (S : Store) : R Val :=
  if args.length = fn.np then match evSs C fn.body (start fn args) S with
    | some (.ret v S') => finish S.length m v S'
    | some (.nx _ S') => finish S.length m (.d .non) S'
    | _ => none
  else none
/-- the calls, to a depth -/
def callF (Fs : List Fn) : Nat → Calls
  | 0 => fun _ _ _ _ => none
  | k + 1 => fun f m args S => match Fs[f]? with
    | some fn => runFn (callF Fs k) fn m args S
    | none => none
end PI
set_option Elab.async false
set_option linter.all false
set_option maxRecDepth 100000
set_option maxHeartbeats 1000000
/-! PI2: how data, values, cells stand in the abstract heap; what stays. -/
namespace PI
open PySem PySem.Spec PyProof.Rows L2

abbrev Ad := List Addr
def S' (s : T) : PySem.Str := ⟨s.toArray⟩
def okT (s : T) : Bool := s.all fun c => decide (c < 1114112)
/-- a tuple of that type alone, with no names of its own -/
def SqX (K : PySem.W.Frag) (H : Hp) (a : Addr) (xs : List V) : Prop :=
  (∃ o : Obj, o.dict = none ∧ H a = some (.frz o (.tup xs))) ∨
    ∃ (o : Obj) (its : Array Value) (n : Nat), K.lookup a = some o ∧ o.cls = .type "tuple" ∧ o.dict = none ∧ o.data = .seq its n ∧ its.size ≤ sizeLine ∧ Vals xs its.toList
theorem SqX.t {K : PySem.W.Frag} {H : Hp} {a : Addr} {xs : List V} (h : SqX K H a xs) : SqT K H a xs := by
  rcases h with ⟨o, _, h⟩ | ⟨o, its, n, h1, h2, _, h3, h4, h5⟩
  · exact .inl (.inr ⟨o, h⟩)
  · exact .inr ⟨o, its, n, h1, h2, h3, h4, h5⟩
section
variable (K : PySem.W.Frag) (H : Hp) (μ : Ad)
mutual
def RepD : D → V → Prop
  | .non, v => v = .non
  | .bl b, v => v = .bl b
  | .int i, v => v = .int i
  | .str s, v => v = .str (S' s) ∧ okT s = true
  | .tup xs, v => ∃ a ys, v = .ref a ∧ SqX K H a ys ∧ RepDs xs ys
  | .lst xs, v => ∃ a ys, v = .ref a ∧ H a = some (.lst ys) ∧ a ∉ μ ∧ RepDs xs ys
def RepDs : List D → List V → Prop
  | [], vs => vs = []
  | x :: xs, vs => ∃ v r, vs = v :: r ∧ RepD x v ∧ RepDs xs r
end
mutual
def RepV : Val → V → Prop
  | .d x, v => RepD K H μ x v
  | .l n, v => ∃ a, μ[n]? = some a ∧ v = .ref a
  | .scr ns, v => ∃ a, v = .ref a ∧ SqL K H a (ns.map V.int) ∧ (a ∉ μ ∨ ∀ H2, SqL K H2 a (ns.map V.int))
  | .dct kvs, v => ∃ a zs, v = .ref a ∧ Rd H a (.dK zs) ∧ a ∉ μ ∧ RepK kvs zs
  | .vt xs, v => ∃ a ys, v = .ref a ∧ SqT K H a ys ∧ RepVs xs ys
  | .vl xs, v => ∃ a ys, v = .ref a ∧ H a = some (.lst ys) ∧ a ∉ μ ∧ RepVs xs ys
  | .obj _ _, _ => False
def RepVs : List Val → List V → Prop
  | [], vs => vs = []
  | x :: xs, vs => ∃ v r, vs = v :: r ∧ RepV x v ∧ RepVs xs r
def RepK : List (T × Val) → List (Key × V) → Prop
  | [], zs => zs = []
  | (k, x) :: kvs, zs => ∃ v r, zs = (.inr (S' k), v) :: r ∧ okT k = true ∧ RepV x v ∧ RepK kvs r
end
def RepC : Cell → Addr → Prop
  | .lst xs, a => ∃ ys, H a = some (.lst ys) ∧ RepVs K H μ xs ys
  | .dct kvs, a => ∃ zs, H a = some (.dK zs) ∧ RepK K H μ kvs zs
  | .obj _ _, _ => False
end
/-- the store stands at the addresses μ -/
structure Wd (K : PySem.W.Frag) (H : Hp) (μ : Ad) (S : Store) : Prop where
  len : μ.length = S.length
  nd : μ.Nodup
  cell : ∀ (i : Nat) (c : Cell) (a : Addr), S[i]? = some c → μ[i]? = some a → RepC K H μ c a
  ok : ∀ (i : Nat) (c : Cell), S[i]? = some c → okc i c = true
/-- what stays: all but the things that may change -/
structure Gr (μ : Ad) (H : Hp) (μ' : Ad) (H' : Hp) : Prop where
  pre : μ <+: μ'
  tup : ∀ a ys, Rd H a (.tup ys) → Rd H' a (.tup ys)
  lst : ∀ a ys, H a = some (.lst ys) → a ∉ μ → H' a = some (.lst ys)
  flst : ∀ a o ys, H a = some (.frz o (.lst ys)) → H' a = some (.frz o (.lst ys))
  ftup : ∀ a o ys, H a = some (.frz o (.tup ys)) → H' a = some (.frz o (.tup ys))
  dk : ∀ a zs, Rd H a (.dK zs) → a ∉ μ → Rd H' a (.dK zs)
  new : ∀ a, a ∈ μ' → a ∉ μ → H a = none
  there : ∀ a o, H a = some o → ∃ o', H' a = some o'
section
variable {K : PySem.W.Frag} {H H' H2 : Hp} {μ μ' μ2 : Ad} {S S1 : Store}
theorem Gr.refl : Gr μ H μ H := ⟨⟨[], by simp⟩, fun _ _ h => h, fun _ _ h _ => h, fun _ _ _ h => h, fun _ _ _ h => h, fun _ _ h _ => h, fun _ h n => absurd h n, fun _ o h => ⟨o, h⟩⟩
theorem Gr.off (g : Gr μ H μ' H') {a : Addr} {o : HO} (h : H a = some o) (n : a ∉ μ) : a ∉ μ' := fun m => by
  rw [g.new a m n] at h
  cases h
theorem rd_some {a : Addr} {u : HO} (h : Rd H a u) : ∃ o, H a = some o := by
  rcases h with h | ⟨o, h⟩
  · exact ⟨_, h⟩
  · exact ⟨_, h⟩
theorem Gr.trans (a : Gr μ H μ' H') (b : Gr μ' H' μ2 H2) : Gr μ H μ2 H2 where
  pre := a.pre.trans b.pre
  tup := fun c ys h => b.tup c ys (a.tup c ys h)
  lst := fun c ys h n => b.lst c ys (a.lst c ys h n) (a.off h n)
  flst := fun c o ys h => b.flst c o ys (a.flst c o ys h)
  ftup := fun c o ys h => b.ftup c o ys (a.ftup c o ys h)
  dk := fun c zs h n => b.dk c zs (a.dk c zs h n) (by obtain ⟨o, e⟩ := rd_some h; exact a.off e n)
  new := fun c m n => by
    by_cases q : c ∈ μ'
    · exact a.new c q n
    · have h2 := b.new c m q
      cases h : H c with
      | none => rfl
      | some o =>
        obtain ⟨o', e⟩ := a.there c o h
        rw [h2] at e; cases e
  there := fun c o h => by
    obtain ⟨o', e⟩ := a.there c o h
    exact b.there c o' e
/-- a new thing -/
theorem Gr.fresh {p : Addr} {o : HO} (h : H p = none) : Gr μ H μ (upd H p o) where
  pre := ⟨[], by simp⟩
  tup := fun a ys r => by
    obtain ⟨u, e⟩ := rd_some r
    have n : a ≠ p := ne_of_none e h
    unfold Rd
    rw [upd_ne n]; exact r
  lst := fun a ys e _ => by rw [upd_ne (ne_of_none e h)]; exact e
  flst := fun a o ys e => by rw [upd_ne (ne_of_none e h)]; exact e
  ftup := fun a o ys e => by rw [upd_ne (ne_of_none e h)]; exact e
  dk := fun a ys r _ => by
    obtain ⟨u, e⟩ := rd_some r
    have n : a ≠ p := ne_of_none e h
    unfold Rd
    rw [upd_ne n]; exact r
  new := fun a m n => absurd m n
  there := fun a u e => ⟨u, by rw [upd_ne (ne_of_none e h)]; exact e⟩
/-- .. that may change -/
theorem Gr.alloc {p : Addr} {o : HO} (h : H p = none) : Gr μ H (μ ++ [p]) (upd H p o) where
  pre := ⟨[p], rfl⟩
  tup := (Gr.fresh (μ := μ) h).tup
  lst := (Gr.fresh (μ := μ) h).lst
  flst := (Gr.fresh (μ := μ) h).flst
  ftup := (Gr.fresh (μ := μ) h).ftup
  dk := (Gr.fresh (μ := μ) h).dk
  new := fun a m n => by
    rcases List.mem_append.mp m with m | m
    · exact absurd m n
    · rw [List.mem_singleton.mp m]; exact h
  there := (Gr.fresh (μ := μ) h).there
/-- a thing that may change has changed -/
def mutO : HO → Bool
  | .lst _ => true
  | .dK _ => true
  | _ => false
theorem Gr.write {a : Addr} {o u : HO} (h : H a = some o) (hm : mutO o = true) (m : a ∈ μ) : Gr μ H μ (upd H a u) where
  pre := ⟨[], by simp⟩
  tup := fun b ys r => by
    have n : b ≠ a := fun e => by
      subst e
      rcases r with r | ⟨o', r⟩ <;> (rw [h] at r; cases r; cases hm)
    unfold Rd
    rw [upd_ne n]; exact r
  lst := fun b ys e n => by rw [upd_ne (fun q => by subst q; exact n m)]; exact e
  flst := fun b o' ys e => by
    have n : b ≠ a := fun e' => by
      subst e'
      rw [h] at e; cases e; cases hm
    rw [upd_ne n]; exact e
  ftup := fun b o' ys e => by
    have n : b ≠ a := fun e' => by
      subst e'
      rw [h] at e; cases e; cases hm
    rw [upd_ne n]; exact e
  dk := fun b zs r n => by
    unfold Rd
    rw [upd_ne (fun q => by subst q; exact n m)]; exact r
  new := fun b m n => absurd m n
  there := fun b u e => by
    by_cases q : b = a
    · subst q; exact ⟨_, upd_same⟩
    · exact ⟨u, by rw [upd_ne q]; exact e⟩
/-- .. and no dict is locked or unlocked -/
structure Grow (μ : Ad) (H : Hp) (μ' : Ad) (H' : Hp) : Prop extends Gr μ H μ' H' where
  dk2 : ∀ a zs, H a = some (.dK zs) → a ∉ μ → H' a = some (.dK zs)
  fdk : ∀ a o zs, H a = some (.frz o (.dK zs)) → H' a = some (.frz o (.dK zs))
  ext : ∀ a φ, H a = some (.ext φ) → H' a = some (.ext φ)
theorem Grow.refl : Grow μ H μ H := ⟨Gr.refl, fun _ _ h _ => h, fun _ _ _ h => h, fun _ _ h => h⟩
theorem Grow.trans (a : Grow μ H μ' H') (b : Grow μ' H' μ2 H2) : Grow μ H μ2 H2 := ⟨a.toGr.trans b.toGr, fun c zs h n => b.dk2 c zs (a.dk2 c zs h n) (a.toGr.off h n), fun c o zs h => b.fdk c o zs (a.fdk c o zs h), fun c φ h => b.ext c φ (a.ext c φ h)⟩
theorem Grow.fresh {p : Addr} {o : HO} (h : H p = none) : Grow μ H μ (upd H p o) := ⟨Gr.fresh h, fun a zs e _ => by rw [upd_ne (ne_of_none e h)]; exact e, fun a o zs e => by rw [upd_ne (ne_of_none e h)]; exact e, fun a φ e => by rw [upd_ne (ne_of_none e h)]; exact e⟩
theorem Grow.alloc {p : Addr} {o : HO} (h : H p = none) : Grow μ H (μ ++ [p]) (upd H p o) := ⟨Gr.alloc h, fun a zs e _ => by rw [upd_ne (ne_of_none e h)]; exact e, fun a o zs e => by rw [upd_ne (ne_of_none e h)]; exact e, fun a φ e => by rw [upd_ne (ne_of_none e h)]; exact e⟩
theorem Grow.write {a : Addr} {o u : HO} (h : H a = some o) (hm : mutO o = true) (m : a ∈ μ) : Grow μ H μ (upd H a u) := ⟨Gr.write h hm m, fun b zs e n => by rw [upd_ne (fun q => by subst q; exact n m)]; exact e, fun b o' ys e => by
  have n : b ≠ a := fun e' => by
    subst e'
    rw [h] at e; cases e; cases hm
  rw [upd_ne n]; exact e, fun b φ e => by
  have n : b ≠ a := fun e' => by
    subst e'
    rw [h] at e; cases e; cases hm
  rw [upd_ne n]; exact e⟩
/-- a plain dict is locked -/
theorem Gr.lock {d : Addr} {o : Obj} {kvs : List (Key × V)} (h : H d = some (.dK kvs)) : Gr μ H μ (upd H d (.frz o (.dK kvs))) where
  pre := ⟨[], by simp⟩
  tup := fun b ys r => by
    have n : b ≠ d := fun e => by
      subst e
      rcases r with r | ⟨o', r⟩ <;> (rw [h] at r; cases r)
    unfold Rd
    rw [upd_ne n]; exact r
  lst := fun b ys e _ => by rw [upd_ne (fun q => by subst q; rw [h] at e; cases e)]; exact e
  flst := fun b o' ys e => by rw [upd_ne (fun q => by subst q; rw [h] at e; cases e)]; exact e
  ftup := fun b o' ys e => by rw [upd_ne (fun q => by subst q; rw [h] at e; cases e)]; exact e
  dk := fun b zs r _ => by
    by_cases n : b = d
    · subst n
      rcases r with r | ⟨o', r⟩
      · rw [h] at r; cases r; exact .inr ⟨o, upd_same⟩
      · rw [h] at r; cases r
    · unfold Rd
      rw [upd_ne n]; exact r
  new := fun b m n => absurd m n
  there := fun b u e => by
    by_cases q : b = d
    · subst q; exact ⟨_, upd_same⟩
    · exact ⟨u, by rw [upd_ne q]; exact e⟩
theorem Gr.unlock {d : Addr} {o : Obj} {kvs : List (Key × V)} (h : H d = some (.frz o (.dK kvs))) : Gr μ H μ (upd H d (.dK kvs)) where
  pre := ⟨[], by simp⟩
  tup := fun b ys r => by
    have n : b ≠ d := fun e => by
      subst e
      rcases r with r | ⟨o', r⟩ <;> (rw [h] at r; cases r)
    unfold Rd
    rw [upd_ne n]; exact r
  lst := fun b ys e _ => by rw [upd_ne (fun q => by subst q; rw [h] at e; cases e)]; exact e
  flst := fun b o' ys e => by rw [upd_ne (fun q => by subst q; rw [h] at e; cases e)]; exact e
  ftup := fun b o' ys e => by rw [upd_ne (fun q => by subst q; rw [h] at e; cases e)]; exact e
  dk := fun b zs r _ => by
    by_cases n : b = d
    · subst n
      rcases r with r | ⟨o', r⟩
      · rw [h] at r; cases r
      · rw [h] at r; cases r; exact .inl upd_same
    · unfold Rd
      rw [upd_ne n]; exact r
  new := fun b m n => absurd m n
  there := fun b u e => by
    by_cases q : b = d
    · subst q; exact ⟨_, upd_same⟩
    · exact ⟨u, by rw [upd_ne q]; exact e⟩
/-- from a dict's locking to its unlocking -/
theorem Grow.locked {d : Addr} {o : Obj} {kvs : List (Key × V)} (h : H d = some (.dK kvs)) (n : d ∉ μ) (g : Grow μ (upd H d (.frz o (.dK kvs))) μ' H') : H' d = some (.frz o (.dK kvs)) ∧ d ∉ μ' ∧ Grow μ H μ' (upd H' d (.dK kvs)) := by
  have e : H' d = some (.frz o (.dK kvs)) := g.fdk d o kvs upd_same
  have nd : d ∉ μ' := g.toGr.off (upd_same (H := H)) n
  refine ⟨e, nd, ((Gr.lock h).trans g.toGr).trans (Gr.unlock e), fun a zs q m => ?_, fun a o' zs q => ?_, fun a φ q => ?_⟩
  · by_cases z : a = d
    · subst z; rw [h] at q; cases q; exact upd_same
    · rw [upd_ne z]; exact g.dk2 a zs (by rw [upd_ne z]; exact q) m
  · have z : a ≠ d := fun z => by subst z; rw [h] at q; cases q
    rw [upd_ne z]; exact g.fdk a o' zs (by rw [upd_ne z]; exact q)
  · have z : a ≠ d := fun z => by subst z; rw [h] at q; cases q
    rw [upd_ne z]; exact g.ext a φ (by rw [upd_ne z]; exact q)
/-- a thing that no value leans on is something else -/
theorem Gr.over {d : Addr} {φ : Heap → Prop} {o : HO} (h : H d = some (.ext φ)) : Gr μ H μ (upd H d o) where
  pre := ⟨[], by simp⟩
  tup := fun b ys r => by
    have n : b ≠ d := fun e => by
      subst e
      rcases r with r | ⟨o', r⟩ <;> (rw [h] at r; cases r)
    unfold Rd
    rw [upd_ne n]; exact r
  lst := fun b ys e _ => by rw [upd_ne (fun q => by subst q; rw [h] at e; cases e)]; exact e
  flst := fun b o' ys e => by rw [upd_ne (fun q => by subst q; rw [h] at e; cases e)]; exact e
  ftup := fun b o' ys e => by rw [upd_ne (fun q => by subst q; rw [h] at e; cases e)]; exact e
  dk := fun b zs r _ => by
    have n : b ≠ d := fun e => by
      subst e
      rcases r with r | ⟨o', r⟩ <;> (rw [h] at r; cases r)
    unfold Rd
    rw [upd_ne n]; exact r
  new := fun b m n => absurd m n
  there := fun b u e => by
    by_cases q : b = d
    · subst q; exact ⟨_, upd_same⟩
    · exact ⟨u, by rw [upd_ne q]; exact e⟩
/-- since a time when it was not there -/
theorem Grow.since {d : Addr} {o : HO} (h : H d = none) (g : Grow μ H μ' H') : Grow μ H μ' (upd H' d o) := by
  have n : ∀ {a u}, H a = some u → a ≠ d := fun {a u} e => ne_of_none e h
  refine ⟨⟨g.pre, fun a ys r => ?_, fun a ys e m => ?_, fun a o' ys e => ?_, fun a o' ys e => ?_, fun a zs r m => ?_, g.new, fun a u e => ?_⟩, fun a zs e m => ?_, fun a o' zs e => ?_, fun a φ e => ?_⟩
  · obtain ⟨u, e⟩ := rd_some r
    have q := g.tup a ys r
    unfold Rd at q ⊢
    rw [upd_ne (n e)]; exact q
  · rw [upd_ne (n e)]; exact g.lst a ys e m
  · rw [upd_ne (n e)]; exact g.flst a o' ys e
  · rw [upd_ne (n e)]; exact g.ftup a o' ys e
  · obtain ⟨u, e⟩ := rd_some r
    have q := g.dk a zs r m
    unfold Rd at q ⊢
    rw [upd_ne (n e)]; exact q
  · rw [upd_ne (n e)]; exact g.there a u e
  · rw [upd_ne (n e)]; exact g.dk2 a zs e m
  · rw [upd_ne (n e)]; exact g.fdk a o' zs e
  · rw [upd_ne (n e)]; exact g.ext a φ e
/-- .. and now it is one of the things that may change -/
theorem Grow.adopt {d : Addr} (h : H d = none) (g : Grow μ H μ' H') : Grow μ H (μ' ++ [d]) H' :=
  ⟨⟨g.pre.trans ⟨[d], rfl⟩, g.tup, g.lst, g.flst, g.ftup, g.dk, fun a m n => by
    rcases List.mem_append.mp m with m | m
    · exact g.new a m n
    · rw [List.mem_singleton.mp m]; exact h, g.there⟩, g.dk2, g.fdk, g.ext⟩
/-- only the old things that may change -/
theorem Grow.back (g : Grow μ H μ' H') : Grow μ H μ H' := ⟨⟨⟨[], by simp⟩, g.tup, g.lst, g.flst, g.ftup, g.dk, fun a m n => absurd m n, g.there⟩, g.dk2, g.fdk, g.ext⟩
theorem Grow.last {d : Addr} (h : H d = none) (g : Grow μ H μ' H') : Grow μ H (μ ++ [d]) H' := g.back.adopt h
/-- what values lean on stays -/
structure Mv (μ : Ad) (H : Hp) (μ' : Ad) (H' : Hp) : Prop where
  pre : μ <+: μ'
  tup : ∀ a ys, Rd H a (.tup ys) → Rd H' a (.tup ys)
  lst : ∀ a ys, H a = some (.lst ys) → a ∉ μ → H' a = some (.lst ys)
  flst : ∀ a o ys, H a = some (.frz o (.lst ys)) → H' a = some (.frz o (.lst ys))
  ftup : ∀ a o ys, H a = some (.frz o (.tup ys)) → H' a = some (.frz o (.tup ys))
  dk : ∀ a zs, Rd H a (.dK zs) → a ∉ μ → Rd H' a (.dK zs)
  nof : ∀ a, a ∈ μ' → a ∉ μ → H a = none ∨ ∃ φ, H a = some (.ext φ)
theorem Mv.off (g : Mv μ H μ' H') {a : Addr} {u : HO} (h : Rd H a u) (hu : ∀ φ, u ≠ .ext φ) (n : a ∉ μ) : a ∉ μ' := fun m => by
  rcases g.nof a m n with e | ⟨φ, e⟩ <;> rcases h with h | ⟨o, h⟩ <;> (rw [e] at h; cases h)
  exact hu φ rfl
theorem Gr.mv (g : Gr μ H μ' H') : Mv μ H μ' H' := ⟨g.pre, g.tup, g.lst, g.flst, g.ftup, g.dk, fun a m n => .inl (g.new a m n)⟩
/-- a thing that no value leans on becomes one that may change -/
theorem Mv.adopt {d : Addr} {φ : Heap → Prop} {o : HO} (h : H d = some (.ext φ)) : Mv μ H (μ ++ [d]) (upd H d o) :=
  have g := Gr.over (μ := μ) (o := o) h
  ⟨⟨[d], rfl⟩, g.tup, g.lst, g.flst, g.ftup, g.dk, fun a m n => by
    rcases List.mem_append.mp m with m | m
    · exact absurd m n
    · rw [List.mem_singleton.mp m]; exact .inr ⟨φ, h⟩⟩
theorem Mv.sqT (g : Mv μ H μ' H') {a : Addr} {ys : List V} (h : SqT K H a ys) : SqT K H' a ys := by
  rcases h with h | h
  · exact .inl (g.tup a ys h)
  · exact .inr h
theorem Mv.sqX (g : Mv μ H μ' H') {a : Addr} {ys : List V} (h : SqX K H a ys) : SqX K H' a ys := by
  rcases h with ⟨o, h0, h⟩ | h
  · exact .inl ⟨o, h0, g.ftup a o ys h⟩
  · exact .inr h
theorem Mv.sqL (g : Mv μ H μ' H') {a : Addr} {ys : List V} (n : a ∉ μ) (h : SqL K H a ys) : SqL K H' a ys := by
  rcases h with (h | ⟨o, h⟩) | h
  · exact .inl (.inl (g.lst a ys h n))
  · exact .inl (.inr ⟨o, g.flst a o ys h⟩)
  · exact .inr h
mutual
theorem RepD.mv (g : Mv μ H μ' H') : ∀ (x : D) (v : V), RepD K H μ x v → RepD K H' μ' x v
  | .non, v, h => by unfold RepD at h ⊢; exact h
  | .bl b, v, h => by unfold RepD at h ⊢; exact h
  | .int i, v, h => by unfold RepD at h ⊢; exact h
  | .str s, v, h => by unfold RepD at h ⊢; exact h
  | .tup xs, v, h => by
    unfold RepD at h ⊢
    obtain ⟨a, ys, e, q, r⟩ := h
    exact ⟨a, ys, e, g.sqX q, RepDs.mv g xs ys r⟩
  | .lst xs, v, h => by
    unfold RepD at h ⊢
    obtain ⟨a, ys, e, q, n, r⟩ := h
    exact ⟨a, ys, e, g.lst a ys q n, g.off (.inl q) (fun _ z => nomatch z) n, RepDs.mv g xs ys r⟩
theorem RepDs.mv (g : Mv μ H μ' H') : ∀ (xs : List D) (vs : List V), RepDs K H μ xs vs → RepDs K H' μ' xs vs
  | [], v, h => by unfold RepDs at h ⊢; exact h
  | x :: xs, v, h => by
    unfold RepDs at h ⊢
    obtain ⟨w, r, e, q, t⟩ := h
    exact ⟨w, r, e, RepD.mv g x w q, RepDs.mv g xs r t⟩
end
mutual
theorem RepV.mv (g : Mv μ H μ' H') : ∀ (x : Val) (v : V), RepV K H μ x v → RepV K H' μ' x v
  | .d x, v, h => by unfold RepV at h ⊢; exact RepD.mv g x v h
  | .l n, v, h => by
    unfold RepV at h ⊢
    obtain ⟨a, e, q⟩ := h
    obtain ⟨t, et⟩ := g.pre
    have : n < μ.length := by
      by_cases hn : n < μ.length
      · exact hn
      · rw [List.getElem?_eq_none (by omega)] at e; cases e
    exact ⟨a, by rw [← et, List.getElem?_append_left this]; exact e, q⟩
  | .scr ns, v, h => by
    unfold RepV at h ⊢
    obtain ⟨a, e, q, n⟩ := h
    rcases n with n | n
    · refine ⟨a, e, g.sqL n q, ?_⟩
      rcases q with q | q
      · exact .inl (g.off q (fun _ z => nomatch z) n)
      · exact .inr fun _ => .inr q
    · exact ⟨a, e, n H', .inr n⟩
  | .dct kvs, v, h => by
    unfold RepV at h ⊢
    obtain ⟨a, zs, e, q, n, r⟩ := h
    exact ⟨a, zs, e, g.dk a zs q n, g.off q (fun _ z => nomatch z) n, RepK.mv g kvs zs r⟩
  | .vt xs, v, h => by
    unfold RepV at h ⊢
    obtain ⟨a, ys, e, q, r⟩ := h
    exact ⟨a, ys, e, g.sqT q, RepVs.mv g xs ys r⟩
  | .vl xs, v, h => by
    unfold RepV at h ⊢
    obtain ⟨a, ys, e, q, n, r⟩ := h
    exact ⟨a, ys, e, g.lst a ys q n, g.off (.inl q) (fun _ z => nomatch z) n, RepVs.mv g xs ys r⟩
  | .obj _ _, v, h => by unfold RepV at h ⊢; exact h
theorem RepVs.mv (g : Mv μ H μ' H') : ∀ (xs : List Val) (vs : List V), RepVs K H μ xs vs → RepVs K H' μ' xs vs
  | [], v, h => by unfold RepVs at h ⊢; exact h
  | x :: xs, v, h => by
    unfold RepVs at h ⊢
    obtain ⟨w, r, e, q, t⟩ := h
    exact ⟨w, r, e, RepV.mv g x w q, RepVs.mv g xs r t⟩
theorem RepK.mv (g : Mv μ H μ' H') : ∀ (xs : List (T × Val)) (vs : List (Key × V)), RepK K H μ xs vs → RepK K H' μ' xs vs
  | [], v, h => by unfold RepK at h ⊢; exact h
  | (k, x) :: xs, v, h => by
    unfold RepK at h ⊢
    obtain ⟨w, r, e, o, q, t⟩ := h
    exact ⟨w, r, e, o, RepV.mv g x w q, RepK.mv g xs r t⟩
end
theorem Gr.sqT (g : Gr μ H μ' H') {a : Addr} {ys : List V} (h : SqT K H a ys) : SqT K H' a ys := g.mv.sqT h
theorem Gr.sqL (g : Gr μ H μ' H') {a : Addr} {ys : List V} (n : a ∉ μ) (h : SqL K H a ys) : SqL K H' a ys := g.mv.sqL n h
theorem RepD.gr (g : Gr μ H μ' H') (x : D) (v : V) (h : RepD K H μ x v) : RepD K H' μ' x v := RepD.mv g.mv x v h
theorem RepDs.gr (g : Gr μ H μ' H') (x : List D) (v : List V) (h : RepDs K H μ x v) : RepDs K H' μ' x v := RepDs.mv g.mv x v h
theorem RepV.gr (g : Gr μ H μ' H') (x : Val) (v : V) (h : RepV K H μ x v) : RepV K H' μ' x v := RepV.mv g.mv x v h
theorem RepVs.gr (g : Gr μ H μ' H') (x : List Val) (v : List V) (h : RepVs K H μ x v) : RepVs K H' μ' x v := RepVs.mv g.mv x v h
theorem RepK.gr (g : Gr μ H μ' H') (x : List (T × Val)) (v : List (Key × V)) (h : RepK K H μ x v) : RepK K H' μ' x v := RepK.mv g.mv x v h
theorem RepD.grow (g : Grow μ H μ' H') (x : D) (v : V) (h : RepD K H μ x v) : RepD K H' μ' x v := RepD.gr g.toGr x v h
theorem RepDs.grow (g : Grow μ H μ' H') (x : List D) (v : List V) (h : RepDs K H μ x v) : RepDs K H' μ' x v := RepDs.gr g.toGr x v h
theorem RepV.grow (g : Grow μ H μ' H') (x : Val) (v : V) (h : RepV K H μ x v) : RepV K H' μ' x v := RepV.gr g.toGr x v h
theorem RepVs.grow (g : Grow μ H μ' H') (x : List Val) (v : List V) (h : RepVs K H μ x v) : RepVs K H' μ' x v := RepVs.gr g.toGr x v h
theorem RepK.grow (g : Grow μ H μ' H') (x : List (T × Val)) (v : List (Key × V)) (h : RepK K H μ x v) : RepK K H' μ' x v := RepK.gr g.toGr x v h
mutual
theorem okv_le {m n : Nat} (h : m ≤ n) : ∀ x : Val, okv m x = true → okv n x = true
  | .d _, _ => rfl
  | .l k, o => decide_eq_true (Nat.lt_of_lt_of_le (of_decide_eq_true o) h)
  | .scr _, _ => rfl
  | .dct kvs, o => okk_le h kvs o
  | .vt xs, o => oks_le h xs o
  | .vl xs, o => oks_le h xs o
  | .obj _ xs, o => oks_le h xs o
theorem oks_le {m n : Nat} (h : m ≤ n) : ∀ xs : List Val, oks m xs = true → oks n xs = true
  | [], _ => rfl
  | x :: xs, o => by
    obtain ⟨o1, o2⟩ := Bool.and_eq_true_iff.mp (show (okv m x && oks m xs) = true from o)
    show (okv n x && oks n xs) = true
    rw [okv_le h x o1, oks_le h xs o2]; rfl
theorem okk_le {m n : Nat} (h : m ≤ n) : ∀ xs : List (T × Val), okk m xs = true → okk n xs = true
  | [], _ => rfl
  | (_, x) :: xs, o => by
    obtain ⟨o1, o2⟩ := Bool.and_eq_true_iff.mp (show (okv m x && okk m xs) = true from o)
    show (okv n x && okk n xs) = true
    rw [okv_le h x o1, okk_le h xs o2]; rfl
end
theorem okf_le {m n : Nat} (h : m ≤ n) : ∀ xs : List (Nat × Val), okf m xs = true → okf n xs = true
  | [], _ => rfl
  | (_, x) :: xs, o => by
    obtain ⟨o1, o2⟩ := Bool.and_eq_true_iff.mp (show (okv m x && okf m xs) = true from o)
    show (okv n x && okf n xs) = true
    rw [okv_le h x o1, okf_le h xs o2]; rfl
theorem okc_le {m n : Nat} (h : m ≤ n) : ∀ c : Cell, okc m c = true → okc n c = true
  | .lst xs, o => oks_le h xs o
  | .dct xs, o => okk_le h xs o
  | .obj _ xs, o => okf_le h xs o
theorem RepVs.length : ∀ {xs : List Val} {vs : List V}, RepVs K H μ xs vs → vs.length = xs.length
  | [], vs, h => by unfold RepVs at h; subst h; rfl
  | x :: xs, vs, h => by
    unfold RepVs at h
    obtain ⟨w, r, rfl, _, t⟩ := h
    simp [RepVs.length t]
theorem RepDs.length : ∀ {xs : List D} {vs : List V}, RepDs K H μ xs vs → vs.length = xs.length
  | [], vs, h => by unfold RepDs at h; subst h; rfl
  | x :: xs, vs, h => by
    unfold RepDs at h
    obtain ⟨w, r, rfl, _, t⟩ := h
    simp [RepDs.length t]
theorem RepK.length : ∀ {xs : List (T × Val)} {vs : List (Key × V)}, RepK K H μ xs vs → vs.length = xs.length
  | [], vs, h => by unfold RepK at h; subst h; rfl
  | (k, x) :: xs, vs, h => by
    unfold RepK at h
    obtain ⟨w, r, rfl, _, _, t⟩ := h
    simp [RepK.length t]
theorem RepVs.get : ∀ {xs : List Val} {vs : List V} {i : Nat} {x : Val}, RepVs K H μ xs vs → xs[i]? = some x → ∃ v, vs[i]? = some v ∧ RepV K H μ x v
  | [], vs, i, x, h, e => by simp at e
  | y :: xs, vs, i, x, h, e => by
    unfold RepVs at h
    obtain ⟨w, r, rfl, q, t⟩ := h
    cases i with
    | zero =>
      simp at e; subst e
      exact ⟨w, by simp, q⟩
    | succ i =>
      obtain ⟨v, e1, e2⟩ := RepVs.get (i := i) t (by simpa using e)
      exact ⟨v, by simpa using e1, e2⟩
theorem RepDs.get : ∀ {xs : List D} {vs : List V} {i : Nat} {x : D}, RepDs K H μ xs vs → xs[i]? = some x → ∃ v, vs[i]? = some v ∧ RepD K H μ x v
  | [], vs, i, x, h, e => by simp at e
  | y :: xs, vs, i, x, h, e => by
    unfold RepDs at h
    obtain ⟨w, r, rfl, q, t⟩ := h
    cases i with
    | zero =>
      simp at e; subst e
      exact ⟨w, by simp, q⟩
    | succ i =>
      obtain ⟨v, e1, e2⟩ := RepDs.get (i := i) t (by simpa using e)
      exact ⟨v, by simpa using e1, e2⟩
theorem RepVs.append : ∀ {xs ys : List Val} {vs ws : List V}, RepVs K H μ xs vs → RepVs K H μ ys ws → RepVs K H μ (xs ++ ys) (vs ++ ws)
  | [], ys, vs, ws, h, q => by unfold RepVs at h; subst h; exact q
  | x :: xs, ys, vs, ws, h, q => by
    unfold RepVs at h
    obtain ⟨w, r, rfl, h1, t⟩ := h
    show RepVs K H μ (x :: (xs ++ ys)) (w :: (r ++ ws))
    unfold RepVs
    exact ⟨w, _, rfl, h1, RepVs.append t q⟩
theorem RepDs.append : ∀ {xs ys : List D} {vs ws : List V}, RepDs K H μ xs vs → RepDs K H μ ys ws → RepDs K H μ (xs ++ ys) (vs ++ ws)
  | [], ys, vs, ws, h, q => by unfold RepDs at h; subst h; exact q
  | x :: xs, ys, vs, ws, h, q => by
    unfold RepDs at h
    obtain ⟨w, r, rfl, h1, t⟩ := h
    show RepDs K H μ (x :: (xs ++ ys)) (w :: (r ++ ws))
    unfold RepDs
    exact ⟨w, _, rfl, h1, RepDs.append t q⟩
theorem RepVs.ds : ∀ {xs : List D} {vs : List V}, RepVs K H μ (xs.map .d) vs ↔ RepDs K H μ xs vs
  | [], vs => by
    show RepVs K H μ [] vs ↔ _
    unfold RepVs RepDs; exact Iff.rfl
  | x :: xs, vs => by
    show RepVs K H μ (.d x :: xs.map .d) vs ↔ _
    unfold RepVs RepDs RepV
    constructor
    · rintro ⟨w, r, e, q, t⟩; exact ⟨w, r, e, q, RepVs.ds.mp t⟩
    · rintro ⟨w, r, e, q, t⟩; exact ⟨w, r, e, q, RepVs.ds.mpr t⟩
theorem datas_eq : ∀ {vs : List Val} {xs : List D}, datas vs = some xs → vs = xs.map .d
  | [], xs, h => by simp [datas] at h; subst h; rfl
  | v :: vs, xs, h => by
    cases v with
    | d x =>
      simp only [datas, Option.map_eq_some_iff] at h
      obtain ⟨ys, e, rfl⟩ := h
      rw [datas_eq e]; rfl
    | _ => simp [datas] at h
@[simp] theorem datas_map : ∀ (xs : List D), datas (xs.map .d) = some xs
  | [] => rfl
  | x :: xs => by show (datas (xs.map .d)).map (x :: ·) = _; rw [datas_map xs]; rfl
mutual
theorem RepV.ok : ∀ (x : Val) (v : V), RepV K H μ x v → okv μ.length x = true
  | .d _, _, _ => rfl
  | .l n, v, h => by
    unfold RepV at h
    obtain ⟨a, e, _⟩ := h
    show decide (n < μ.length) = true
    by_cases hn : n < μ.length
    · exact decide_eq_true hn
    · rw [List.getElem?_eq_none (by omega)] at e; cases e
  | .scr _, _, _ => rfl
  | .dct kvs, v, h => by
    unfold RepV at h
    obtain ⟨a, zs, _, _, _, r⟩ := h
    exact RepK.ok kvs zs r
  | .vt xs, v, h => by
    unfold RepV at h
    obtain ⟨a, zs, _, _, r⟩ := h
    exact RepVs.ok xs zs r
  | .vl xs, v, h => by
    unfold RepV at h
    obtain ⟨a, zs, _, _, _, r⟩ := h
    exact RepVs.ok xs zs r
  | .obj _ _, v, h => by unfold RepV at h; exact h.elim
theorem RepVs.ok : ∀ (xs : List Val) (vs : List V), RepVs K H μ xs vs → oks μ.length xs = true
  | [], _, _ => rfl
  | x :: xs, v, h => by
    unfold RepVs at h
    obtain ⟨w, r, e, q, t⟩ := h
    show (okv μ.length x && oks μ.length xs) = true
    rw [RepV.ok x w q, RepVs.ok xs r t]; rfl
theorem RepK.ok : ∀ (xs : List (T × Val)) (vs : List (Key × V)), RepK K H μ xs vs → okk μ.length xs = true
  | [], _, _ => rfl
  | (k, x) :: xs, v, h => by
    unfold RepK at h
    obtain ⟨w, r, e, _, q, t⟩ := h
    show (okv μ.length x && okk μ.length xs) = true
    rw [RepV.ok x w q, RepK.ok xs r t]; rfl
end
mutual
theorem RepD.shrink (hs : ∀ a, a ∈ μ → a ∈ μ') : ∀ (x : D) (v : V), RepD K H μ' x v → RepD K H μ x v
  | .non, v, h => by unfold RepD at h ⊢; exact h
  | .bl b, v, h => by unfold RepD at h ⊢; exact h
  | .int i, v, h => by unfold RepD at h ⊢; exact h
  | .str s, v, h => by unfold RepD at h ⊢; exact h
  | .tup xs, v, h => by
    unfold RepD at h ⊢
    obtain ⟨a, ys, e, q, r⟩ := h
    exact ⟨a, ys, e, q, RepDs.shrink hs xs ys r⟩
  | .lst xs, v, h => by
    unfold RepD at h ⊢
    obtain ⟨a, ys, e, q, n, r⟩ := h
    exact ⟨a, ys, e, q, fun m => n (hs a m), RepDs.shrink hs xs ys r⟩
theorem RepDs.shrink (hs : ∀ a, a ∈ μ → a ∈ μ') : ∀ (xs : List D) (vs : List V), RepDs K H μ' xs vs → RepDs K H μ xs vs
  | [], v, h => by unfold RepDs at h ⊢; exact h
  | x :: xs, v, h => by
    unfold RepDs at h ⊢
    obtain ⟨w, r, e, q, t⟩ := h
    exact ⟨w, r, e, RepD.shrink hs x w q, RepDs.shrink hs xs r t⟩
end
mutual
/-- the values that know the first things alone -/
theorem RepV.shrink (hp : μ <+: μ') : ∀ (x : Val) (v : V), okv μ.length x = true → RepV K H μ' x v → RepV K H μ x v
  | .d x, v, _, h => by
    unfold RepV at h ⊢
    exact RepD.shrink (fun a m => hp.subset m) x v h
  | .l n, v, o, h => by
    unfold RepV at h ⊢
    obtain ⟨a, e, q⟩ := h
    have hn : n < μ.length := of_decide_eq_true o
    obtain ⟨t, et⟩ := hp
    exact ⟨a, by rw [← et, List.getElem?_append_left hn] at e; exact e, q⟩
  | .scr ns, v, _, h => by
    unfold RepV at h ⊢
    obtain ⟨a, e, q, n⟩ := h
    exact ⟨a, e, q, n.imp (fun n m => n (hp.subset m)) id⟩
  | .dct kvs, v, o, h => by
    unfold RepV at h ⊢
    obtain ⟨a, zs, e, q, n, r⟩ := h
    exact ⟨a, zs, e, q, fun m => n (hp.subset m), RepK.shrink hp kvs zs o r⟩
  | .vt xs, v, o, h => by
    unfold RepV at h ⊢
    obtain ⟨a, zs, e, q, r⟩ := h
    exact ⟨a, zs, e, q, RepVs.shrink hp xs zs o r⟩
  | .vl xs, v, o, h => by
    unfold RepV at h ⊢
    obtain ⟨a, zs, e, q, n, r⟩ := h
    exact ⟨a, zs, e, q, fun m => n (hp.subset m), RepVs.shrink hp xs zs o r⟩
  | .obj _ _, v, _, h => by unfold RepV at h ⊢; exact h
theorem RepVs.shrink (hp : μ <+: μ') : ∀ (xs : List Val) (vs : List V), oks μ.length xs = true → RepVs K H μ' xs vs → RepVs K H μ xs vs
  | [], v, _, h => by unfold RepVs at h ⊢; exact h
  | x :: xs, v, o, h => by
    unfold RepVs at h ⊢
    obtain ⟨w, r, e, q, t⟩ := h
    obtain ⟨o1, o2⟩ := Bool.and_eq_true_iff.mp (show (okv μ.length x && oks μ.length xs) = true from o)
    exact ⟨w, r, e, RepV.shrink hp x w o1 q, RepVs.shrink hp xs r o2 t⟩
theorem RepK.shrink (hp : μ <+: μ') : ∀ (xs : List (T × Val)) (vs : List (Key × V)), okk μ.length xs = true → RepK K H μ' xs vs → RepK K H μ xs vs
  | [], v, _, h => by unfold RepK at h ⊢; exact h
  | (k, x) :: xs, v, o, h => by
    unfold RepK at h ⊢
    obtain ⟨w, r, e, ok, q, t⟩ := h
    obtain ⟨o1, o2⟩ := Bool.and_eq_true_iff.mp (show (okv μ.length x && okk μ.length xs) = true from o)
    exact ⟨w, r, e, ok, RepV.shrink hp x w o1 q, RepK.shrink hp xs r o2 t⟩
end
theorem RepC.shrink (hp : μ <+: μ') : ∀ (c : Cell) (a : Addr), okc μ.length c = true → RepC K H μ' c a → RepC K H μ c a
  | .lst xs, a, o, h => by
    obtain ⟨ys, e, r⟩ := h
    exact ⟨ys, e, RepVs.shrink hp xs ys o r⟩
  | .dct xs, a, o, h => by
    obtain ⟨ys, e, r⟩ := h
    exact ⟨ys, e, RepK.shrink hp xs ys o r⟩
  | .obj _ _, a, _, h => h.elim
theorem RepC.mut : ∀ {c : Cell} {a : Addr}, RepC K H μ c a → ∃ o, H a = some o ∧ mutO o = true
  | .lst xs, a, h => by
    obtain ⟨ys, e, r⟩ := h
    exact ⟨_, e, rfl⟩
  | .dct xs, a, h => by
    obtain ⟨ys, e, r⟩ := h
    exact ⟨_, e, rfl⟩
  | .obj _ _, a, h => h.elim
theorem RepC.move (g : Gr μ H μ' H') : ∀ {c : Cell} {a : Addr}, H' a = H a → RepC K H μ c a → RepC K H' μ' c a
  | .lst xs, a, q, h => by
    obtain ⟨ys, e, r⟩ := h
    exact ⟨ys, q.trans e, RepVs.gr g xs ys r⟩
  | .dct xs, a, q, h => by
    obtain ⟨ys, e, r⟩ := h
    exact ⟨ys, q.trans e, RepK.gr g xs ys r⟩
  | .obj _ _, a, _, h => h.elim
theorem Wd.at (w : Wd K H μ S) {n : Nat} {c : Cell} (h : S[n]? = some c) : ∃ a, μ[n]? = some a ∧ RepC K H μ c a := by
  have hn : n < S.length := by
    by_cases hn : n < S.length
    · exact hn
    · rw [List.getElem?_eq_none (by omega)] at h; cases h
  have e : μ[n]? = some (μ[n]'(by rw [w.len]; exact hn)) := List.getElem?_eq_getElem _
  exact ⟨_, e, w.cell n c _ h e⟩
theorem Wd.tracked (w : Wd K H μ S) {a : Addr} (m : a ∈ μ) : ∃ o, H a = some o ∧ mutO o = true := by
  obtain ⟨n, hn, e⟩ := List.getElem_of_mem m
  have hS : n < S.length := by rw [← w.len]; exact hn
  exact (w.cell n S[n] a (List.getElem?_eq_getElem hS) (by rw [List.getElem?_eq_getElem hn, e])).mut
/-- new plain things -/
theorem Wd.keep (w : Wd K H μ S) (g : Gr μ H μ H') (h : ∀ a, a ∈ μ → H' a = H a) : Wd K H' μ S :=
  ⟨w.len, w.nd, fun i c a e1 e2 => (w.cell i c a e1 e2).move g (h a (List.mem_of_getElem? e2)), w.ok⟩
theorem Wd.fresh (w : Wd K H μ S) {p : Addr} {o : HO} (h : H p = none) : Wd K (upd H p o) μ S :=
  w.keep (Gr.fresh h) fun a m => by
    obtain ⟨u, e, _⟩ := w.tracked m
    rw [upd_ne (ne_of_none e h)]
theorem Wd.alloc (w : Wd K H μ S) {p : Addr} {o : HO} {c : Cell} (h : H p = none) (hc : RepC K (upd H p o) (μ ++ [p]) c p) (ho : okc S.length c = true) : Wd K (upd H p o) (μ ++ [p]) (S ++ [c]) where
  len := by simp [w.len]
  nd := by
    rw [List.nodup_append]
    refine ⟨w.nd, by simp, fun a m b hb => ?_⟩
    obtain ⟨u, e, _⟩ := w.tracked m
    rw [List.mem_singleton.mp hb]
    exact ne_of_none e h
  cell := fun i c' a e1 e2 => by
    by_cases hi : i < S.length
    · rw [List.getElem?_append_left hi] at e1
      rw [List.getElem?_append_left (by rw [w.len]; exact hi)] at e2
      have r := w.cell i c' a e1 e2
      obtain ⟨u, e, _⟩ := r.mut
      exact r.move (Gr.alloc h) (by rw [upd_ne (ne_of_none e h)])
    · have hi2 : i = S.length := by
        by_cases q : i = S.length
        · exact q
        · rw [List.getElem?_eq_none (by simp; omega)] at e1; cases e1
      subst hi2
      rw [List.getElem?_append_right (Nat.le_refl _)] at e1
      rw [List.getElem?_append_right (by rw [w.len]; exact Nat.le_refl _), w.len] at e2
      simp at e1 e2
      subst e1 e2
      exact hc
  ok := fun i c' e1 => by
    by_cases hi : i < S.length
    · rw [List.getElem?_append_left hi] at e1
      exact w.ok i c' e1
    · have hi2 : i = S.length := by
        by_cases q : i = S.length
        · exact q
        · rw [List.getElem?_eq_none (by simp; omega)] at e1; cases e1
      subst hi2
      rw [List.getElem?_append_right (Nat.le_refl _)] at e1
      simp at e1
      subst e1
      exact ho
theorem Wd.over (w : Wd K H μ S) {d : Addr} {φ : Heap → Prop} {o : HO} (h : H d = some (.ext φ)) : Wd K (upd H d o) μ S :=
  w.keep (Gr.over h) fun a m => upd_ne fun e => by
    obtain ⟨u, e', mu⟩ := w.tracked m
    rw [e, h] at e'; cases e'; cases mu
theorem RepC.mv (g : Mv μ H μ' H') : ∀ {c : Cell} {a : Addr}, H' a = H a → RepC K H μ c a → RepC K H' μ' c a
  | .lst xs, a, q, h => by
    obtain ⟨ys, e, r⟩ := h
    exact ⟨ys, q.trans e, RepVs.mv g xs ys r⟩
  | .dct xs, a, q, h => by
    obtain ⟨ys, e, r⟩ := h
    exact ⟨ys, q.trans e, RepK.mv g xs ys r⟩
  | .obj _ _, a, _, h => h.elim
theorem Wd.adopt (w : Wd K H μ S) {p : Addr} {φ : Heap → Prop} {o : HO} {c : Cell} (h : H p = some (.ext φ)) (hc : RepC K (upd H p o) (μ ++ [p]) c p) (ho : okc S.length c = true) : Wd K (upd H p o) (μ ++ [p]) (S ++ [c]) := by
  have np : p ∉ μ := fun m => by
    obtain ⟨u, e', mu⟩ := w.tracked m
    rw [h] at e'; cases e'; cases mu
  refine ⟨by simp [w.len], ?_, fun i c' a e1 e2 => ?_, fun i c' e1 => ?_⟩
  · rw [List.nodup_append]
    exact ⟨w.nd, by simp, fun a m b hb => by rw [List.mem_singleton.mp hb]; exact fun e => np (e ▸ m)⟩
  · by_cases hi : i < S.length
    · rw [List.getElem?_append_left hi] at e1
      rw [List.getElem?_append_left (by rw [w.len]; exact hi)] at e2
      exact (w.cell i c' a e1 e2).mv (Mv.adopt h) (upd_ne fun e => np (e ▸ List.mem_of_getElem? e2))
    · have hi2 : i = S.length := by
        by_cases q : i = S.length
        · exact q
        · rw [List.getElem?_eq_none (by simp; omega)] at e1; cases e1
      subst hi2
      rw [List.getElem?_append_right (Nat.le_refl _)] at e1
      rw [List.getElem?_append_right (by rw [w.len]; exact Nat.le_refl _), w.len] at e2
      simp at e1 e2
      subst e1 e2
      exact hc
  · by_cases hi : i < S.length
    · rw [List.getElem?_append_left hi] at e1
      exact w.ok i c' e1
    · have hi2 : i = S.length := by
        by_cases q : i = S.length
        · exact q
        · rw [List.getElem?_eq_none (by simp; omega)] at e1; cases e1
      subst hi2
      rw [List.getElem?_append_right (Nat.le_refl _)] at e1
      simp at e1
      subst e1
      exact ho
/-- a thing has changed -/
theorem Wd.write (w : Wd K H μ S) {n : Nat} {c0 c : Cell} {a : Addr} {o : HO} (hS : S[n]? = some c0) (hm : μ[n]? = some a) (hc : RepC K (upd H a o) μ c a) (ho : okc n c = true) :
    Wd K (upd H a o) μ (S.set n c) ∧ Grow μ H μ (upd H a o) := by
  obtain ⟨u, e, mu⟩ := (w.cell n c0 a hS hm).mut
  have g : Grow μ H μ (upd H a o) := Grow.write e mu (List.mem_of_getElem? hm)
  refine ⟨⟨by simp [w.len], w.nd, fun i c' b e1 e2 => ?_, fun i c' e1 => ?_⟩, g⟩
  · by_cases hi : i = n
    · subst hi
      rw [hm] at e2; cases e2
      rw [List.getElem?_set_self (by rw [← w.len]; exact (List.getElem?_eq_some_iff.mp hm).1)] at e1
      cases e1
      exact hc
    · rw [List.getElem?_set_ne (Ne.symm hi)] at e1
      refine (w.cell i c' b e1 e2).move g.toGr (upd_ne fun q => ?_)
      subst q
      obtain ⟨h1, h2⟩ := List.getElem?_eq_some_iff.mp hm
      obtain ⟨h3, h4⟩ := List.getElem?_eq_some_iff.mp e2
      exact hi ((List.getElem_inj w.nd).mp (h4.trans h2.symm))
  · by_cases hi : i = n
    · subst hi
      rw [List.getElem?_set_self (by rw [← w.len]; exact (List.getElem?_eq_some_iff.mp hm).1)] at e1
      cases e1
      exact ho
    · rw [List.getElem?_set_ne (Ne.symm hi)] at e1
      exact w.ok i c' e1
/-- what a def made and dropped -/
theorem Wd.take (w : Wd K H μ' S) {n : Nat} (hp : μ <+: μ') (hn : μ.length = n) (hS : n ≤ S.length) : Wd K H μ (S.take n) := by
  obtain ⟨t, et⟩ := hp
  refine ⟨by rw [List.length_take, hn]; omega, (by rw [← et] at w; exact (List.nodup_append.mp w.nd).1), fun i c a e1 e2 => ?_, fun i c e1 => ?_⟩
  · have hi : i < n := by
      rw [← hn]; exact (List.getElem?_eq_some_iff.mp e2).1
    rw [List.getElem?_take_of_lt hi] at e1
    have r := w.cell i c a e1 (by rw [← et, List.getElem?_append_left (by omega)]; exact e2)
    have o := w.ok i c e1
    exact RepC.shrink ⟨t, et⟩ c a (okc_le (by omega) c o) r
  · by_cases hi : i < n
    · rw [List.getElem?_take_of_lt hi] at e1
      exact w.ok i c e1
    · rw [List.getElem?_eq_none (by rw [List.length_take]; omega)] at e1; cases e1
end
end PI
set_option Elab.async false
set_option linter.all false
set_option maxRecDepth 100000
set_option maxHeartbeats 1000000
/-! PI3: the operators, by their rules. -/
namespace PI
open PySem PySem.Spec PyProof.Rows L2

section
variable {K : PySem.W.Frag} {H H' : Hp} {μ μ' : Ad} {S : Store} {v : V}
theorem repD_non : RepD K H μ .non v ↔ v = .non := by unfold RepD; exact Iff.rfl
theorem repD_bl {b : Bool} : RepD K H μ (.bl b) v ↔ v = .bl b := by unfold RepD; exact Iff.rfl
theorem repD_int {i : Int} : RepD K H μ (.int i) v ↔ v = .int i := by unfold RepD; exact Iff.rfl
theorem repD_str {s : T} : RepD K H μ (.str s) v ↔ v = .str (S' s) ∧ okT s = true := by unfold RepD; exact Iff.rfl
theorem repD_tup {xs : List D} : RepD K H μ (.tup xs) v ↔ ∃ a ys, v = .ref a ∧ SqX K H a ys ∧ RepDs K H μ xs ys := by unfold RepD; exact Iff.rfl
theorem repD_lst {xs : List D} : RepD K H μ (.lst xs) v ↔ ∃ a ys, v = .ref a ∧ H a = some (.lst ys) ∧ a ∉ μ ∧ RepDs K H μ xs ys := by unfold RepD; exact Iff.rfl
theorem repV_d {x : D} : RepV K H μ (.d x) v ↔ RepD K H μ x v := by unfold RepV; exact Iff.rfl
theorem repV_l {n : Nat} : RepV K H μ (.l n) v ↔ ∃ a, μ[n]? = some a ∧ v = .ref a := by unfold RepV; exact Iff.rfl
theorem repV_scr {ns : List Int} : RepV K H μ (.scr ns) v ↔ ∃ a, v = .ref a ∧ SqL K H a (ns.map V.int) ∧ (a ∉ μ ∨ ∀ H2, SqL K H2 a (ns.map V.int)) := by unfold RepV; exact Iff.rfl
theorem repV_dct {kvs : List (T × Val)} : RepV K H μ (.dct kvs) v ↔ ∃ a zs, v = .ref a ∧ Rd H a (.dK zs) ∧ a ∉ μ ∧ RepK K H μ kvs zs := by unfold RepV; exact Iff.rfl
theorem repV_vt {xs : List Val} : RepV K H μ (.vt xs) v ↔ ∃ a ys, v = .ref a ∧ SqT K H a ys ∧ RepVs K H μ xs ys := by unfold RepV; exact Iff.rfl
theorem repV_vl {xs : List Val} : RepV K H μ (.vl xs) v ↔ ∃ a ys, v = .ref a ∧ H a = some (.lst ys) ∧ a ∉ μ ∧ RepVs K H μ xs ys := by unfold RepV; exact Iff.rfl
theorem repVs_nil {vs : List V} : RepVs K H μ [] vs ↔ vs = [] := by unfold RepVs; exact Iff.rfl
theorem repVs_cons {x : Val} {xs : List Val} {vs : List V} : RepVs K H μ (x :: xs) vs ↔ ∃ w r, vs = w :: r ∧ RepV K H μ x w ∧ RepVs K H μ xs r := by
  constructor
  · intro h; unfold RepVs at h; exact h
  · intro h; unfold RepVs; exact h
theorem repDs_nil {vs : List V} : RepDs K H μ [] vs ↔ vs = [] := by unfold RepDs; exact Iff.rfl
theorem repDs_cons {x : D} {xs : List D} {vs : List V} : RepDs K H μ (x :: xs) vs ↔ ∃ w r, vs = w :: r ∧ RepD K H μ x w ∧ RepDs K H μ xs r := by
  constructor
  · intro h; unfold RepDs at h; exact h
  · intro h; unfold RepDs; exact h
theorem lim_eq : lim = sizeLine := by rw [PySem.sizeLine_eq]; rfl
theorem S'_length (s : T) : (S' s).length = s.length := by simp [S', PySem.Str.length]

/-- what follows gets the value, wherever it stands -/
def Pu (K : PySem.W.Frag) (H : Hp) (μ : Ad) (S : Store) (x : Val) (Q : VK) : Prop := ∀ v H' μ', Grow μ H μ' H' → Wd K H' μ' S → RepV K H' μ' x v → Q v H'
theorem Pu.here {x : Val} {Q : VK} (w : Wd K H μ S) (h : Pu K H μ S x Q) (r : RepV K H μ x v) : Q v H := h v H μ Grow.refl w r
theorem Pu.tup {xs : List Val} {ys : List V} {Q : VK} {z : Val} (w : Wd K H μ S) (h : Pu K H μ S z Q) (r : RepVs K H μ xs ys) (hz : z = .vt xs ∨ ∃ ds, xs = ds.map .d ∧ z = .d (.tup ds)) {p : Addr} {o : Obj} (ho : o.dict = none) (hp : H p = none) : Q (.ref p) (upd H p (.frz o (.tup ys))) := by
  have g : Grow μ H μ (upd H p (.frz o (.tup ys))) := Grow.fresh hp
  refine h _ _ μ g (w.fresh hp) ?_
  rcases hz with rfl | ⟨ds, rfl, rfl⟩
  · exact repV_vt.mpr ⟨p, ys, rfl, .inl (.inr ⟨o, upd_same⟩), RepVs.grow g _ _ r⟩
  · exact repV_d.mpr (repD_tup.mpr ⟨p, ys, rfl, .inl ⟨o, ho, upd_same⟩, RepVs.ds.mp (RepVs.grow g _ _ r)⟩)
theorem Wd.notin (w : Wd K H μ S) {p : Addr} (hp : H p = none) : p ∉ μ := fun m => by
  obtain ⟨o, e, _⟩ := w.tracked m
  rw [hp] at e; cases e
theorem Pu.lst {xs : List Val} {ys : List V} {Q : VK} {z : Val} (w : Wd K H μ S) (h : Pu K H μ S z Q) (r : RepVs K H μ xs ys) (hz : z = .vl xs ∨ ∃ ds, xs = ds.map .d ∧ z = .d (.lst ds)) {p : Addr} (hp : H p = none) : Q (.ref p) (upd H p (.lst ys)) := by
  have g : Grow μ H μ (upd H p (.lst ys)) := Grow.fresh hp
  refine h _ _ μ g (w.fresh hp) ?_
  rcases hz with rfl | ⟨ds, rfl, rfl⟩
  · exact repV_vl.mpr ⟨p, ys, rfl, upd_same, w.notin hp, RepVs.grow g _ _ r⟩
  · exact repV_d.mpr (repD_lst.mpr ⟨p, ys, rfl, upd_same, w.notin hp, RepVs.ds.mp (RepVs.grow g _ _ r)⟩)
/-- a new list, that may change or not -/
theorem Pu.mkL {m : Bool} {xs : List Val} {ys : List V} {Q : VK} {z : Val} {S1 : Store} (w : Wd K H μ S) (e : mkL m xs S = some (z, S1)) (h : Pu K H μ S1 z Q) (r : RepVs K H μ xs ys) {p : Addr} (hp : H p = none) : Q (.ref p) (upd H p (.lst ys)) := by
  unfold PI.mkL at e
  cases m with
  | true =>
    cases e
    have g : Grow μ H (μ ++ [p]) (upd H p (.lst ys)) := Grow.alloc hp
    refine h _ _ (μ ++ [p]) g (w.alloc hp ⟨ys, upd_same, RepVs.grow g _ _ r⟩ (by rw [← w.len]; exact RepVs.ok xs ys r)) ?_
    exact repV_l.mpr ⟨p, by rw [List.getElem?_append_right (by rw [w.len]; exact Nat.le_refl _), w.len]; simp, rfl⟩
  | false =>
    simp only at e
    cases hd : datas xs with
    | some ds =>
      rw [hd] at e; cases e
      exact Pu.lst w h r (.inr ⟨ds, datas_eq hd, rfl⟩) hp
    | none =>
      rw [hd] at e; cases e
      exact Pu.lst w h r (.inl rfl) hp
theorem Pu.mkT {xs : List Val} {ys : List V} {Q : VK} {z : Val} {S1 : Store} (w : Wd K H μ S) (e : mkT xs S = some (z, S1)) (h : Pu K H μ S1 z Q) (r : RepVs K H μ xs ys) {p : Addr} {o : Obj} (ho : o.dict = none) (hp : H p = none) : Q (.ref p) (upd H p (.frz o (.tup ys))) := by
  unfold PI.mkT at e
  cases hd : datas xs with
  | some ds =>
    rw [hd] at e; cases e
    exact Pu.tup w h r (.inr ⟨ds, datas_eq hd, rfl⟩) ho hp
  | none =>
    rw [hd] at e; cases e
    exact Pu.tup w h r (.inl rfl) ho hp
theorem okT_append {s t : T} (h1 : okT s = true) (h2 : okT t = true) : okT (s ++ t) = true := by
  unfold okT at *; rw [List.all_append, h1, h2]; rfl
theorem okT_sub {s t : T} (h : okT s = true) (hs : ∀ c, c ∈ t → c ∈ s) : okT t = true := by
  unfold okT at *
  rw [List.all_eq_true] at *
  exact fun c m => h c (hs c m)
end

/-! ### + - * // % ** -/
section
variable {X : Cx}
/-- what is done with a new tuple -/
def NewT (H : Hp) (ys : List V) (Q : VK) : Prop := ∀ (p : Addr) (o : Obj), o.dict = none → H p = none → Q (.ref p) (upd H p (.frz o (.tup ys)))
theorem laid_tup {X : Cx} {pins : List (Addr × Obj)} {σ : L2.St} {H : Hp} {s : Shared} {ys : List V} {us : List Value} {Q : VK} (I : Inv X pins σ H s) (r : Vals ys us) (z : ys.length ≤ sizeLine) (h : NewT H ys Q) :
    EP X pins σ Q (.ref s.heap.objs.size) { s with heap := s.heap.push { cls := .type "tuple", data := .seq us.toArray } } :=
  ⟨.ref s.heap.objs.size, _, I.laid (t' := s.toks) (o := .frz { cls := .type "tuple", data := .seq us.toArray } (.tup ys)) (fun b w e => Heap.get?_push_of_some _ e) (Nat.le_refl _)
    ⟨Heap.get?_push_size _ rfl, z, us, r, IsTup.new _ _⟩, rfl, h _ _ rfl I.fresh⟩
/-- t + u -/
def rCatX (K : PySem.W.Frag) : R2 := fun x y H Q => ∃ a b xs ys, x = .ref a ∧ y = .ref b ∧ SqT K H a xs ∧ SqT K H b ys ∧ xs.length + ys.length ≤ sizeLine ∧
  (xs = [] → Q (.ref b) H) ∧ (xs ≠ [] → ys = [] → Q (.ref a) H) ∧ (xs ≠ [] → ys ≠ [] → NewT H (xs ++ ys) Q)
theorem op_catX {X : Cx} : OpR X (binaryOp .Add) (rCatX X.K) := by
  intro pins s σ H x y v u Q I rx ry ⟨a, b, xs, ys, hx, hy, ha, hb, hz, q0, q1, q2⟩
  subst hx hy
  cases rx
  cases ry
  obtain ⟨us, ru, pu, zu⟩ := I.tuple ha
  obtain ⟨ws, rw', pw, zw⟩ := I.tuple hb
  by_cases e0 : xs = []
  · subst e0
    cases ru
    exact cat_tup0 pu pw ⟨.ref b, H, I, rfl, q0 rfl⟩
  · refine HT.cat_tup pu pw (fun z => e0 (ru.nil_iff.mp z)) (fun z => ⟨.ref a, H, I, rfl, q1 e0 (rw'.nil_iff.mp z)⟩) (fun z => ?_) (by rw [← ru.length, ← rw'.length]; exact hz)
    exact laid_tup I (ru.append rw') (by rw [List.length_append]; exact hz) (q2 e0 fun w => z (rw'.nil_iff.mpr w))
/-- t * k -/
def rRepX (K : PySem.W.Frag) : R2 := fun x y H Q => ∃ l k xs, x = .ref l ∧ y = .int k ∧ SqT K H l xs ∧ xs ≠ [] ∧ 2 ≤ k ∧ k ≤ 1000 ∧ xs.length ≤ 1000 ∧ NewT H (List.replicate k.toNat xs).flatten Q
theorem op_repX {X : Cx} : OpR X (binaryOp .Mult) (rRepX X.K) := by
  intro pins s σ H x y v u Q I rx ry ⟨l, k, xs, hx, hy, ht, hne, k2, k1000, hl, q⟩
  subst hx hy
  cases rx
  obtain ⟨tk, rfl⟩ := ry
  obtain ⟨us, r, ⟨ob, hob, hcls, n, hdat⟩, hsz⟩ := I.tuple ht
  obtain ⟨cls, dct, dat, sls⟩ := ob
  cases hcls
  cases hdat
  have lu : us.length = xs.length := r.length.symm
  have ne : us ≠ [] := fun e => hne (List.eq_nil_of_length_eq_zero (by rw [← lu, e]; rfl))
  have emp : us.toArray.isEmpty = false := by
    match us, ne with
    | _ :: _, _ => rfl
  have su : us.toArray.size = xs.length := by rw [List.size_toArray, lu]
  have many : k.toNat * xs.length ≤ 1000 * 1000 := Nat.mul_le_mul (by omega) hl
  have manyI : ((us.toArray.size : Nat) : Int) * k ≤ 1000000 := by
    rw [su]
    have := Int.mul_le_mul_of_nonneg_right (c := k) (show ((xs.length : Nat) : Int) ≤ 1000 by omega) (by omega)
    omega
  have lf : (List.replicate k.toNat us).flatten.length ≤ sizeLine := by
    rw [PyProof.Rows.lm_len_rep_flat, lu, sizeLine_eq]; omega
  have b0 : (decide (k < -(2 ^ 63)) || decide (k ≥ 2 ^ 63)) = false := by simp; omega
  have b1 : (us.toArray.isEmpty || k == 1) = false := by rw [emp]; simp; omega
  have b2 : (decide (k ≤ 0) || us.toArray.isEmpty) = false := by rw [emp]; simp; omega
  have b3 : Builtin.Tuple.tupleTooMany (((us.toArray.size : Nat) : Int) * k) = false := by
    unfold Builtin.Tuple.tupleTooMany
    rw [sizeLine_eq]
    exact decide_eq_false (by omega)
  have tint : ∀ s', Shared.TypeIs s' (.int k tk) "int" := fun s' => typeIs_int s' k tk
  refine wpAny_binaryOp_repeat_ref (T := "tuple") (U := "int") (by decide) ⟨_, hob, rfl⟩ tint noFill_tuple_mul PySem.F.fills_int_mul PySem.F.slot_int_rmul repeat_tuple PySem.F.slot_int_index.lookup ?_
  refine call_meets PySem.F.slot_int_rmul (tint s) PySem.F.entry_int_rmul (PySem.F.args_int_rmul_2 _ _) (int_rmul_tuple k tk l us.toArray n dct sls) ⟨hob, rfl, ⟨_, hob, rfl⟩, ?_⟩
  refine call_meets PySem.F.slot_tuple_mul ⟨_, hob, rfl⟩ PySem.F.entry_tuple_mul (PySem.F.args_tuple_mul_2 _ _) (tuple_mulW l us.toArray n dct sls k tk b0 b1 b2 (by omega) b3 (by rw [size_rep, List.size_toArray]; exact lf)) ⟨hob, ?_⟩
  rw [size_rep]
  exact laid_tup I (r.rep k.toNat) (by rw [PyProof.Rows.lm_len_rep_flat, sizeLine_eq]; omega) q
def rOp (K : PySem.W.Frag) : Op → R2
  | .add => fun x y H Q => ((rI0 fun i j => .int (i + j)) x y H Q ∨ ∃ i j, x = .str i ∧ y = .str j ∧ i.length + j.length ≤ sizeLine ∧ Q (.str (i ++ j)) H) ∨ (rCatX K x y H Q ∨ rCat x y H Q)
  | .sub => rI0 fun i j => .int (i - j)
  | .mul => fun x y H Q => rI CMul (fun i j => .int (i * j)) x y H Q ∨ rRepX K x y H Q
  | .fdiv => rI CDiv fun i j => .int (i / j)
  | .mod => rI (fun _ j => 0 < j) fun i j => .int (i % j)
  | .pow => rI CPow fun i j => .int (i ^ j.toNat)
def opOf : Op → Operator
  | .add => .Add
  | .sub => .Sub
  | .mul => .Mult
  | .fdiv => .FloorDiv
  | .mod => .Mod
  | .pow => .Pow
theorem rOp_ok (o : Op) : OpR X (binaryOp (opOf o)) (rOp X.K o) := by
  cases o with
  | add => exact (op_add.or op_add_str).or (op_catX.or op_cat)
  | sub => exact op_sub
  | mul => exact op_mul.or op_repX
  | fdiv => exact op_fdiv
  | mod => exact op_mod
  | pow => exact op_pow
variable {K : PySem.W.Frag} {H : Hp} {μ : Ad} {S : Store}
theorem S'_append (s t : T) : S' s ++ S' t = S' (s ++ t) := by
  show (⟨_⟩ : PySem.Str) = ⟨_⟩
  congr 1
  show s.toArray ++ t.toArray = _
  simp
theorem repDs_rep {xs : List D} {ys : List V} (r : RepDs K H μ xs ys) : ∀ k : Nat, RepDs K H μ (List.replicate k xs).flatten (List.replicate k ys).flatten
  | 0 => by simp [repDs_nil]
  | k + 1 => by
    rw [List.replicate_succ, List.replicate_succ, List.flatten_cons, List.flatten_cons]
    exact r.append (repDs_rep r k)
theorem opD_ok {o : Op} {x y z : D} {u w : V} {Q : VK} (W : Wd K H μ S) (e : opD o x y = some z) (rx : RepD K H μ x u) (ry : RepD K H μ y w) (h : Pu K H μ S (.d z) Q) : rOp K o u w H Q := by
  have fin : ∀ {v : V}, RepD K H μ z v → Q v H := fun r => h.here W (repV_d.mpr r)
  have nums : ∀ {i j : Int}, x = .int i → y = .int j → u = .int i ∧ w = .int j := fun {i j} e1 e2 => by
    subst e1 e2
    exact ⟨repD_int.mp rx, repD_int.mp ry⟩
  cases o with
  | add =>
    cases x <;> cases y <;> simp only [opD, reduceCtorEq] at e
    case int.int i j =>
      obtain ⟨rfl, rfl⟩ := nums rfl rfl
      cases e
      exact .inl (.inl ⟨i, j, rfl, rfl, fin (repD_int.mpr rfl)⟩)
    case str.str s t =>
      obtain ⟨rfl, o1⟩ := repD_str.mp rx
      obtain ⟨rfl, o2⟩ := repD_str.mp ry
      split at e
      · cases e
        refine .inl (.inr ⟨_, _, rfl, rfl, by rw [S'_length, S'_length, ← lim_eq]; assumption, ?_⟩)
        rw [S'_append]
        exact fin (repD_str.mpr ⟨rfl, okT_append o1 o2⟩)
      · cases e
    case tup.tup xs ys =>
      obtain ⟨a, vs, rfl, q1, r1⟩ := repD_tup.mp rx
      obtain ⟨b, ws, rfl, q2, r2⟩ := repD_tup.mp ry
      split at e
      · cases e
        rename_i hl
        refine .inr (.inl ⟨a, b, vs, ws, rfl, rfl, q1.t, q2.t, by rw [r1.length, r2.length, ← lim_eq]; exact hl, fun e1 => ?_, fun _ e2 => ?_, fun _ _ p o ho hp => ?_⟩)
        · refine fin (repD_tup.mpr ⟨b, ws, rfl, q2, ?_⟩)
          have : xs = [] := by
            have := r1.length; rw [e1] at this; exact List.eq_nil_of_length_eq_zero this.symm
          rw [this]; exact r2
        · refine fin (repD_tup.mpr ⟨a, vs, rfl, q1, ?_⟩)
          have : ys = [] := by
            have := r2.length; rw [e2] at this; exact List.eq_nil_of_length_eq_zero this.symm
          rw [this, List.append_nil]; exact r1
        · exact Pu.tup W h (RepVs.ds.mpr (r1.append r2)) (.inr ⟨_, rfl, rfl⟩) ho hp
      · cases e
    case lst.lst xs ys =>
      obtain ⟨a, vs, rfl, q1, n1, r1⟩ := repD_lst.mp rx
      obtain ⟨b, ws, rfl, q2, n2, r2⟩ := repD_lst.mp ry
      split at e
      · cases e
        rename_i hl
        exact .inr (.inr ⟨a, b, vs, ws, rfl, rfl, q1, q2, by rw [r1.length, r2.length, ← lim_eq]; exact hl, fun p hp => Pu.lst W h (RepVs.ds.mpr (r1.append r2)) (.inr ⟨_, rfl, rfl⟩) hp⟩)
      · cases e
  | sub =>
    cases x <;> cases y <;> simp only [opD, reduceCtorEq] at e
    obtain ⟨rfl, rfl⟩ := nums rfl rfl
    cases e
    exact ⟨_, _, rfl, rfl, fin (repD_int.mpr rfl)⟩
  | mul =>
    cases x <;> cases y <;> simp only [opD, reduceCtorEq] at e
    case int.int i j =>
      obtain ⟨rfl, rfl⟩ := nums rfl rfl
      split at e
      · cases e
        exact .inl ⟨_, _, rfl, rfl, by assumption, fin (repD_int.mpr rfl)⟩
      · cases e
    case tup.int xs k =>
      obtain ⟨a, vs, rfl, q1, r1⟩ := repD_tup.mp rx
      obtain rfl := repD_int.mp ry
      split at e
      · cases e
        rename_i hl
        obtain ⟨h1, h2, h3, h4⟩ := hl
        refine .inr ⟨a, k, vs, rfl, rfl, q1.t, fun z => h1 ?_, h2, h3, by rw [r1.length]; exact h4, fun p o ho hp => ?_⟩
        · have := r1.length; rw [z] at this; exact List.eq_nil_of_length_eq_zero this.symm
        · exact Pu.tup W h (RepVs.ds.mpr (repDs_rep r1 _)) (.inr ⟨_, rfl, rfl⟩) ho hp
      · cases e
  | fdiv =>
    cases x <;> cases y <;> simp only [opD, reduceCtorEq] at e
    obtain ⟨rfl, rfl⟩ := nums rfl rfl
    split at e
    · cases e
      exact ⟨_, _, rfl, rfl, by assumption, fin (repD_int.mpr rfl)⟩
    · cases e
  | mod =>
    cases x <;> cases y <;> simp only [opD, reduceCtorEq] at e
    obtain ⟨rfl, rfl⟩ := nums rfl rfl
    split at e
    · cases e
      exact ⟨_, _, rfl, rfl, by assumption, fin (repD_int.mpr rfl)⟩
    · cases e
  | pow =>
    cases x <;> cases y <;> simp only [opD, reduceCtorEq] at e
    obtain ⟨rfl, rfl⟩ := nums rfl rfl
    split at e
    · cases e
      exact ⟨_, _, rfl, rfl, by assumption, fin (repD_int.mpr rfl)⟩
    · cases e
end
end PI
set_option Elab.async false
set_option linter.all false
set_option maxRecDepth 100000
set_option maxHeartbeats 1000000
/-! PI4: comparisons, subscripts, slices, len, types. -/
namespace PI
open PySem PySem.Spec PyProof.Rows L2

/-! ### == -/
theorem S'_inj {s t : T} : S' s = S' t ↔ s = t := by
  constructor
  · intro h
    have : (S' s).cps.toList = (S' t).cps.toList := by rw [h]
    simpa [S'] using this
  · intro h; rw [h]
mutual
theorem D.eq_py : ∀ x y : D, PyData.eqv x.py y.py = D.eq x y
  | .non, y => by cases y <;> simp [D.py, D.eq, PyData.eqv]
  | .bl a, y => by cases y <;> simp [D.py, D.eq, PyData.eqv] <;> rw [Bool.beq_eq_decide_eq]
  | .int i, y => by cases y <;> simp [D.py, D.eq, PyData.eqv] <;> rw [Bool.beq_eq_decide_eq]
  | .str s, y => by
    cases y <;> simp only [D.py, D.eq, PyData.eqv]
    rename_i t
    show ((S' s) == (S' t)) = decide (s = t)
    rw [Bool.beq_eq_decide_eq]
    simp only [S'_inj]
  | .tup xs, y => by
    cases y <;> simp only [D.py, D.eq, PyData.eqv]
    exact D.eqs_py xs _
  | .lst xs, y => by
    cases y <;> simp only [D.py, D.eq, PyData.eqv]
    exact D.eqs_py xs _
theorem D.eqs_py : ∀ xs ys : List D, PyData.eqvAll (D.pys xs) (D.pys ys) = D.eqs xs ys
  | [], ys => by cases ys <;> simp [D.pys, D.eqs, PyData.eqvAll]
  | x :: xs, ys => by
    cases ys with
    | nil => simp [D.pys, D.eqs, PyData.eqvAll]
    | cons y ys =>
      simp only [D.pys, D.eqs, PyData.eqvAll]
      rw [D.eq_py x y, D.eqs_py xs ys]
end
mutual
theorem D.dep_py : ∀ x : D, x.py.depth = x.dep
  | .non => by simp [D.py, D.dep, PyData.depth]
  | .bl _ => by simp [D.py, D.dep, PyData.depth]
  | .int _ => by simp [D.py, D.dep, PyData.depth]
  | .str _ => by simp [D.py, D.dep, PyData.depth]
  | .tup xs => by simp only [D.py, D.dep, PyData.depth]; rw [D.deps_py xs]
  | .lst xs => by simp only [D.py, D.dep, PyData.depth]; rw [D.deps_py xs]
theorem D.deps_py : ∀ xs : List D, PyData.depthAll (D.pys xs) = D.deps xs
  | [] => by simp [D.pys, D.deps, PyData.depthAll]
  | x :: xs => by simp only [D.pys, D.deps, PyData.depthAll]; rw [D.dep_py x, D.deps_py xs]
end
section
variable {K : PySem.W.Frag} {H : Hp} {μ : Ad} {S : Store}
mutual
theorem RepD.dp : ∀ (x : D) (v : V), RepD K H μ x v → Dp K H v x.py ∧ x.py.canLay0 = true
  | .non, v, h => by rw [repD_non.mp h]; exact ⟨.non, by simp [D.py, PyData.canLay0]⟩
  | .bl b, v, h => by rw [repD_bl.mp h]; exact ⟨.bl b, by simp [D.py, PyData.canLay0]⟩
  | .int i, v, h => by rw [repD_int.mp h]; exact ⟨.int i, by simp [D.py, PyData.canLay0]⟩
  | .str s, v, h => by
    obtain ⟨e, o⟩ := repD_str.mp h
    rw [e]
    refine ⟨.str _, ?_⟩
    unfold okT at o
    simp only [D.py, PyData.canLay0, PyData.strOk]
    simpa using o
  | .tup xs, v, h => by
    obtain ⟨a, ys, rfl, q, r⟩ := repD_tup.mp h
    obtain ⟨r1, r2⟩ := RepDs.dp xs ys r
    exact ⟨.tup q.t r1, by simp only [D.py, PyData.canLay0]; exact r2⟩
  | .lst xs, v, h => by
    obtain ⟨a, ys, rfl, q, _, r⟩ := repD_lst.mp h
    obtain ⟨r1, r2⟩ := RepDs.dp xs ys r
    exact ⟨.lst (SqL.of q) r1, by simp only [D.py, PyData.canLay0]; exact r2⟩
theorem RepDs.dp : ∀ (xs : List D) (vs : List V), RepDs K H μ xs vs → DpAll K H vs (D.pys xs) ∧ PyData.canLayAll0 (D.pys xs) = true
  | [], v, h => by rw [repDs_nil.mp h]; exact ⟨.nil, by simp [D.pys, PyData.canLayAll0]⟩
  | x :: xs, v, h => by
    obtain ⟨w, r, rfl, q, t⟩ := repDs_cons.mp h
    obtain ⟨q1, q2⟩ := RepD.dp x w q
    obtain ⟨t1, t2⟩ := RepDs.dp xs r t
    exact ⟨.cons q1 t1, by simp only [D.pys, PyData.canLayAll0]; rw [q2, t2]; rfl⟩
end
end
section
variable {X : Cx}
def cpOf : Cp → CmpOp
  | .eq => .Eq
  | .ne => .NotEq
  | .lt => .Lt
  | .le => .LtE
  | .gt => .Gt
  | .ge => .GtE
  | .isin => .In
  | .notin => .NotIn
def rEq2 (K : PySem.W.Frag) (f : Bool → Bool) : R2 := fun x y H Q => ∃ d e, Dp K H x d ∧ Dp K H y e ∧ d.canLay0 = true ∧ e.canLay0 = true ∧ min d.depth e.depth ≤ 60 ∧ Q (.bl (f (PyData.eqv d e))) H
def rIn2 (K : PySem.W.Frag) (f : Bool → Bool) : R2 := fun x y H Q => ∃ d ds, Dp K H x d ∧ (Dp K H y (.list ds) ∨ Dp K H y (.tuple ds)) ∧ d.canLay0 = true ∧ PyData.canLayAll0 ds = true ∧ min (PyData.depthAll ds) d.depth ≤ 60 ∧ Q (.bl (f (ds.any fun z => PyData.eqv z d))) H
def rSign (f : Bool → Bool) : R2 := fun x y H Q => ∃ (c : Nat) (z : PySem.Str), x = .str ⟨#[c]⟩ ∧ y = .str z ∧ Q (.bl (f (decide (c ∈ z.cps.toList)))) H
def rStr2 (g : List Nat → List Nat → Bool) : R2 := fun x y H Q => ∃ i j, x = .str i ∧ y = .str j ∧ Q (.bl (g i.cps.toList j.cps.toList)) H
def rCp (K : PySem.W.Frag) : Cp → R2
  | .eq => rEq2 K fun b => b
  | .ne => rEq2 K fun b => !b
  | .lt => fun x y H Q => (rI0 fun i j => .bl (decide (i < j))) x y H Q ∨ rStr2 (fun s t => decide (s < t)) x y H Q
  | .le => fun x y H Q => (rI0 fun i j => .bl (decide (i ≤ j))) x y H Q ∨ rStr2 (fun s t => !decide (t < s)) x y H Q
  | .gt => fun x y H Q => (rI0 fun i j => .bl (decide (j < i))) x y H Q ∨ rStr2 (fun s t => decide (t < s)) x y H Q
  | .ge => fun x y H Q => (rI0 fun i j => .bl (decide (j ≤ i))) x y H Q ∨ rStr2 (fun s t => !decide (s < t)) x y H Q
  | .isin => fun x y H Q => rIn2 K (fun b => b) x y H Q ∨ rSign (fun b => b) x y H Q
  | .notin => fun x y H Q => rIn2 K (fun b => !b) x y H Q ∨ rSign (fun b => !b) x y H Q
theorem or_eq2 (hu : X.A.units + 64 < cLine) : OpR X (compareOp .Eq) (rEq2 X.K fun b => b) := by
  intro pins s σ H x y v u Q I rx ry h
  obtain ⟨d, e, hd, he, sd, se, hm, q⟩ := h
  obtain ⟨as, r1⟩ := Dp.reads I d x v hd rx
  obtain ⟨bs, r2⟩ := Dp.reads I e y u he ry
  exact SeqAt.compareEq_reads r1 r2 sd se (by omega) ⟨.bl _, H, I, rfl, q⟩
theorem or_ne2 (hu : X.A.units + 64 < cLine) : OpR X (compareOp .NotEq) (rEq2 X.K fun b => !b) := by
  intro pins s σ H x y v u Q I rx ry h
  obtain ⟨d, e, hd, he, sd, se, hm, q⟩ := h
  obtain ⟨as, r1⟩ := Dp.reads I d x v hd rx
  obtain ⟨bs, r2⟩ := Dp.reads I e y u he ry
  exact SeqAt.compareNe_reads r1 r2 sd se (by omega) ⟨.bl _, H, I, rfl, q⟩
theorem or_in2 (hu : X.A.units + 64 < cLine) : OpR X (compareOp .In) (rIn2 X.K fun b => b) := by
  intro pins s σ H x y v u Q I rx ry h
  obtain ⟨d, ds, hd, he, sd, se, hm, q⟩ := h
  obtain ⟨as, r1⟩ := Dp.reads I d x v hd rx
  rcases he with he | he
  · obtain ⟨bs, r2⟩ := Dp.reads I _ y u he ry
    exact SeqAt.in_list_reads r2 r1 se sd (by omega) ⟨.bl _, H, I, rfl, q⟩
  · obtain ⟨bs, r2⟩ := Dp.reads I _ y u he ry
    exact SeqAt.in_tuple_reads r2 r1 se sd (by omega) ⟨.bl _, H, I, rfl, q⟩
theorem or_notin2 (hu : X.A.units + 64 < cLine) : OpR X (compareOp .NotIn) (rIn2 X.K fun b => !b) := by
  intro pins s σ H x y v u Q I rx ry h
  obtain ⟨d, ds, hd, he, sd, se, hm, q⟩ := h
  obtain ⟨as, r1⟩ := Dp.reads I d x v hd rx
  rcases he with he | he
  · obtain ⟨bs, r2⟩ := Dp.reads I _ y u he ry
    exact SeqAt.notIn_list_reads r2 r1 se sd (by omega) ⟨.bl _, H, I, rfl, q⟩
  · obtain ⟨bs, r2⟩ := Dp.reads I _ y u he ry
    exact SeqAt.notIn_tuple_reads r2 r1 se sd (by omega) ⟨.bl _, H, I, rfl, q⟩
theorem rCp_ok (hu : X.A.units + 64 < cLine) (o : Cp) : OpR X (compareOp (cpOf o)) (rCp X.K o) := by
  cases o with
  | eq => exact or_eq2 hu
  | ne => exact or_ne2 hu
  | lt => exact op_lt.or op_lt_str
  | le => exact op_le.or op_le_str
  | gt => exact op_gt.or op_gt_str
  | ge => exact op_ge.or op_ge_str
  | isin => exact (or_in2 hu).or op_in_sign
  | notin => exact (or_notin2 hu).or op_notIn_sign
variable {K : PySem.W.Frag} {H : Hp} {μ : Ad} {S : Store}
theorem any_py (ys : List D) (x : D) : ((D.pys ys).any fun z => PyData.eqv z x.py) = ys.any fun z => D.eq z x := by
  induction ys with
  | nil => rfl
  | cons y ys ih =>
    show (PyData.eqv y.py x.py || (D.pys ys).any fun z => PyData.eqv z x.py) = (D.eq y x || ys.any fun z => D.eq z x)
    rw [ih, D.eq_py]
theorem cmpD_ok {o : Cp} {x y : D} {b : Bool} {u w : V} {Q : VK} (W : Wd K H μ S) (e : cmpD o x y = some b) (rx : RepD K H μ x u) (ry : RepD K H μ y w) (h : Q (.bl b) H) : rCp K o u w H Q := by
  have nums : ∀ {i j : Int}, x = .int i → y = .int j → u = .int i ∧ w = .int j := fun {i j} e1 e2 => by
    subst e1 e2
    exact ⟨repD_int.mp rx, repD_int.mp ry⟩
  have txts : ∀ {s t : T}, x = .str s → y = .str t → u = .str (S' s) ∧ w = .str (S' t) := fun {i j} e1 e2 => by
    subst e1 e2
    exact ⟨(repD_str.mp rx).1, (repD_str.mp ry).1⟩
  have eqs : ∀ (f : Bool → Bool), min x.dep y.dep ≤ 60 → b = f (D.eq x y) → rEq2 K f u w H Q := fun f hm hb => by
    obtain ⟨d1, c1⟩ := RepD.dp x u rx
    obtain ⟨d2, c2⟩ := RepD.dp y w ry
    exact ⟨_, _, d1, d2, c1, c2, by rw [D.dep_py, D.dep_py]; exact hm, by rw [D.eq_py, ← hb]; exact h⟩
  have ins : ∀ (f : Bool → Bool) (ys : List D), (y = .tup ys ∨ y = .lst ys) → min (D.deps ys) x.dep ≤ 60 → b = f (ys.any fun z => D.eq z x) → rIn2 K f u w H Q := fun f ys hy hm hb => by
    obtain ⟨d1, c1⟩ := RepD.dp x u rx
    obtain ⟨d2, c2⟩ := RepD.dp y w ry
    refine ⟨_, D.pys ys, d1, ?_, c1, ?_, by rw [D.dep_py, D.deps_py]; exact hm, by rw [any_py, ← hb]; exact h⟩
    · rcases hy with rfl | rfl
      · exact .inr (by simpa only [D.py] using d2)
      · exact .inl (by simpa only [D.py] using d2)
    · rcases hy with rfl | rfl
      · simpa only [D.py, PyData.canLay0] using c2
      · simpa only [D.py, PyData.canLay0] using c2
  have sign : ∀ (f : Bool → Bool) (c : Nat) (t : T), x = .str [c] → y = .str t → b = f (decide (c ∈ t)) → rSign f u w H Q := fun f c t e1 e2 hb => by
    obtain ⟨rfl, rfl⟩ := txts e1 e2
    refine ⟨c, S' t, rfl, rfl, ?_⟩
    have : (S' t).cps.toList = t := by simp [S']
    rw [this, ← hb]; exact h
  have cps : ∀ s : T, (S' s).cps.toList = s := fun s => by simp [S']
  cases o with
  | eq =>
    simp only [cmpD] at e
    split at e
    · cases e; exact eqs (fun b => b) (by assumption) rfl
    · cases e
  | ne =>
    simp only [cmpD] at e
    split at e
    · cases e; exact eqs (fun b => !b) (by assumption) rfl
    · cases e
  | lt =>
    cases x <;> cases y <;> simp only [cmpD, reduceCtorEq] at e <;> cases e
    · obtain ⟨rfl, rfl⟩ := nums rfl rfl; exact .inl ⟨_, _, rfl, rfl, h⟩
    · obtain ⟨rfl, rfl⟩ := txts rfl rfl; exact .inr ⟨_, _, rfl, rfl, by rw [cps, cps]; exact h⟩
  | le =>
    cases x <;> cases y <;> simp only [cmpD, reduceCtorEq] at e <;> cases e
    · obtain ⟨rfl, rfl⟩ := nums rfl rfl; exact .inl ⟨_, _, rfl, rfl, h⟩
    · obtain ⟨rfl, rfl⟩ := txts rfl rfl; exact .inr ⟨_, _, rfl, rfl, by rw [cps, cps]; exact h⟩
  | gt =>
    cases x <;> cases y <;> simp only [cmpD, reduceCtorEq] at e <;> cases e
    · obtain ⟨rfl, rfl⟩ := nums rfl rfl; exact .inl ⟨_, _, rfl, rfl, h⟩
    · obtain ⟨rfl, rfl⟩ := txts rfl rfl; exact .inr ⟨_, _, rfl, rfl, by rw [cps, cps]; exact h⟩
  | ge =>
    cases x <;> cases y <;> simp only [cmpD, reduceCtorEq] at e <;> cases e
    · obtain ⟨rfl, rfl⟩ := nums rfl rfl; exact .inl ⟨_, _, rfl, rfl, h⟩
    · obtain ⟨rfl, rfl⟩ := txts rfl rfl; exact .inr ⟨_, _, rfl, rfl, by rw [cps, cps]; exact h⟩
  | isin =>
    cases y <;> simp only [cmpD, reduceCtorEq] at e
    case str t =>
      split at e
      · cases e; exact .inr (sign (fun b => b) _ _ rfl rfl rfl)
      · cases e
    case tup ys =>
      split at e
      · cases e; exact .inl (ins (fun b => b) ys (.inl rfl) (by assumption) rfl)
      · cases e
    case lst ys =>
      split at e
      · cases e; exact .inl (ins (fun b => b) ys (.inr rfl) (by assumption) rfl)
      · cases e
  | notin =>
    cases y <;> simp only [cmpD, reduceCtorEq] at e
    case str t =>
      split at e
      · cases e; exact .inr (sign (fun b => !b) _ _ rfl rfl rfl)
      · cases e
    case tup ys =>
      split at e
      · cases e; exact .inl (ins (fun b => !b) ys (.inl rfl) (by assumption) rfl)
      · cases e
    case lst ys =>
      split at e
      · cases e; exact .inl (ins (fun b => !b) ys (.inr rfl) (by assumption) rfl)
      · cases e
end
end PI
set_option Elab.async false
set_option linter.all false
set_option maxRecDepth 100000
set_option maxHeartbeats 1000000
/-! PI5: readings; the context; names, displays, operators. -/
namespace PI
open PySem PySem.Spec PyProof.Rows L2

/-- the slots hold the names' values -/
def RepE (K : PySem.W.Frag) (H : Hp) (μ : Ad) (ρ : Env) (σ : L2.St) : Prop := ρ.length = σ.length ∧ ∀ (i : Nat) (x : Val), look ρ i = some x → ∃ v, σ[i]? = some (some v) ∧ RepV K H μ x v
theorem look_eq : ∀ {ρ : Env} {i : Nat} {x : Val}, look ρ i = some x ↔ ρ[i]? = some (some x)
  | [], i, x => by simp [look]
  | y :: ρ, 0, x => by simp [look]
  | y :: ρ, i + 1, x => by simp only [look, List.getElem?_cons_succ]; exact look_eq
section
variable {K : PySem.W.Frag} {H H' : Hp} {μ μ' : Ad} {S : Store} {ρ : Env} {σ : L2.St}
theorem RepE.gr (g : Gr μ H μ' H') (r : RepE K H μ ρ σ) : RepE K H' μ' ρ σ := ⟨r.1, fun i x e => by
  obtain ⟨v, e1, e2⟩ := r.2 i x e
  exact ⟨v, e1, RepV.gr g x v e2⟩⟩
theorem RepE.grow (g : Grow μ H μ' H') (r : RepE K H μ ρ σ) : RepE K H' μ' ρ σ := r.gr g.toGr
theorem RepE.set {x : Val} {v : V} (r : RepE K H μ ρ σ) (i : Nat) (h : RepV K H μ x v) : RepE K H μ (ρ.set i (some x)) (σ.set i (some v)) := by
  refine ⟨by simp [r.1], fun j y e => ?_⟩
  rw [look_eq] at e
  by_cases hj : i = j
  · subst hj
    have hl : i < ρ.length := by
      by_cases q : i < ρ.length
      · exact q
      · rw [List.getElem?_eq_none (by simpa using q)] at e; cases e
    rw [List.getElem?_set_self hl] at e
    cases e
    exact ⟨v, by rw [List.getElem?_set_self (by rw [← r.1]; exact hl)], h⟩
  · rw [List.getElem?_set_ne hj] at e
    obtain ⟨w, e1, e2⟩ := r.2 j y (look_eq.mpr e)
    exact ⟨w, by rw [List.getElem?_set_ne hj]; exact e1, e2⟩
theorem RepE.unset (r : RepE K H μ ρ σ) (i : Nat) : RepE K H μ (ρ.set i none) (σ.set i none) := by
  refine ⟨by simp [r.1], fun j y e => ?_⟩
  rw [look_eq] at e
  by_cases hj : i = j
  · subst hj
    by_cases hl : i < ρ.length
    · rw [List.getElem?_set_self hl] at e; cases e
    · rw [List.getElem?_eq_none (by simpa using hl)] at e; cases e
  · rw [List.getElem?_set_ne hj] at e
    obtain ⟨w, e1, e2⟩ := r.2 j y (look_eq.mpr e)
    exact ⟨w, by rw [List.getElem?_set_ne hj]; exact e1, e2⟩
theorem RepE.wipe (r : RepE K H μ ρ σ) : ∀ is : List Nat, RepE K H μ (PI.wipe ρ is) (L2.wipe σ is)
  | [] => r
  | i :: is => (RepE.wipe r is).unset i
end

/-! ### the readings -/
def tR (K : PySem.W.Frag) (f : Env → Store → R Val) : TE := fun σ H Q => ∃ μ ρ S x S', Wd K H μ S ∧ RepE K H μ ρ σ ∧ f ρ S = some (x, S') ∧ Pu K H μ S' x Q
def tRs (K : PySem.W.Frag) (f : Env → Store → R (List Val)) : TA := fun σ H Q => ∃ μ ρ S xs S', Wd K H μ S ∧ RepE K H μ ρ σ ∧ f ρ S = some (xs, S') ∧ ∀ vs H' μ', Grow μ H μ' H' → Wd K H' μ' S' → RepVs K H' μ' xs vs → Q vs H'
def tRb (K : PySem.W.Frag) (f : Env → Store → R Val) : TT := fun σ H Q => ∃ μ ρ S b S', Wd K H μ S ∧ RepE K H μ ρ σ ∧ f ρ S = some (.d (.bl b), S') ∧ ∀ H' μ', Grow μ H μ' H' → Wd K H' μ' S' → Q b H'
theorem PE.imp {X : Cx} {e : Expr} {t t' : TE} (h : PE X e t) (f : ∀ σ H Q, t' σ H Q → t σ H Q) : PE X e t' := ⟨fun pins s σ H Q I q => h.run pins s σ H Q I (f _ _ _ q)⟩
theorem PE.or {X : Cx} {e : Expr} {t t' : TE} (h : PE X e t) (h' : PE X e t') : PE X e (fun σ H Q => t σ H Q ∨ t' σ H Q) := ⟨fun pins s σ H Q I q => q.elim (h.run pins s σ H Q I) (h'.run pins s σ H Q I)⟩
theorem PT.imp {X : Cx} {e : Expr} {t t' : TT} (h : PT X e t) (f : ∀ σ H Q, t' σ H Q → t σ H Q) : PT X e t' := ⟨fun pins s σ H Q I q => h.run pins s σ H Q I (f _ _ _ q)⟩
theorem PW.imp {X : Cx} {e : Expr} {t t' : TT} (h : PW X e t) (f : ∀ σ H Q, t' σ H Q → t σ H Q) : PW X e t' := ⟨fun wh pins s σ H Q I q => h.run wh pins s σ H Q I (f _ _ _ q)⟩
theorem PA.imp {X : Cx} {e : List Expr} {t t' : TA} (h : PA X e t) (f : ∀ σ H Q, t' σ H Q → t σ H Q) : PA X e t' := ⟨fun pos pins s σ H Q I q => h.run pos pins s σ H Q I (f _ _ _ q)⟩
theorem Pu.grow {K : PySem.W.Frag} {H H' : Hp} {μ μ' : Ad} {S : Store} {x : Val} {Q : VK} (g : Grow μ H μ' H') (h : Pu K H μ S x Q) : Pu K H' μ' S x Q := fun v H2 μ2 g2 w r => h v H2 μ2 (g.trans g2) w r

/-- what is wanted of a def's call: the answer of the def's interpreter -/
def spI (K : PySem.W.Frag) (C : Calls) (f : Nat) : Sp := fun vs H Q _ => ∃ μ S args m x S', Wd K H μ S ∧ RepVs K H μ args vs ∧ C f m args S = some (x, S') ∧ Pu K H μ S' x Q

/-- what a matcher knows: the slots' names, the defs' names -/
structure Mc where
  N : List PySem.Str
  fns : List (Nat × PySem.Str)
  gls : List (Nat × (PySem.Str × D))
  bls : List PySem.Str
/-- the scope that runs; the names that may be stored -/
structure Sc where
  sc : Scope
  st : Scope
def visB (sc : Scope) (x : PySem.Str) : Bool := match sc.names.lookup x with
  | some .local => true
  | some .cell => true
  | some .free => true
  | _ => false
def glB (sc : Scope) (x : PySem.Str) : Bool := match sc.names.lookup x with
  | some .globalImplicit => true
  | _ => false
def stoB (sc : Scope) (x : PySem.Str) : Bool := match sc.names.lookup x with
  | some .local => true
  | some .cell => true
  | _ => false
def okNm (x : PySem.Str) : Bool := !(x == ("__debug__" : PySem.Str)) && !(x == ("__classdict__" : PySem.Str)) && !(x == ("__name__" : PySem.Str))

/-- a def of the table, as it stands -/
structure FnAt (X : Cx) (C : Calls) (k : Nat) (f : Nat) (name : PySem.Str) : Prop where
  ex : ∃ fa fd ps, X.mg name = some (.ref fa) ∧ PySem.W.keepIn X.K (.ref fa) = true ∧ FnOk X.prog X.w X.K X.mg X.base CX0 k fa fd ps (spI X.K C f) ∧ Binds X.K fd ps []
structure Ctx (F : Mc) (C : Calls) (k : Nat) (s : Sc) (X : Cx) : Prop where
  N : X.N = F.N
  nd : X.N.Nodup
  sc : X.env.scope = s.sc
  sto : ∀ x, stoB s.st x = true → Loc X.env.scope x ∧ (X.fn x = true ∨ X.env.scope.names.lookup x = some .local)
  calm : X.calm = true
  pass : PassesOwn (model X.prog X.w) X.A X.env X.xe
  room : Room k X.A
  fns : ∀ f name, F.fns.lookup f = some name → FnAt X C k f name
  blt : ∀ x ∈ F.bls, X.mg x = none
  gls : ∀ (i : Nat) (x : PySem.Str) (d : D), F.gls.lookup i = some (x, d) → ∃ u v, X.mg x = some u ∧ RelV v u ∧ ∀ H μ, RepD X.K H μ d v
section
variable {F : Mc} {C : Calls} {k : Nat} {s : Sc} {X : Cx}
theorem Ctx.vis (c : Ctx F C k s X) {x : PySem.Str} (h : visB s.sc x = true) : Vis X.env.scope x := by
  unfold visB at h
  unfold Vis
  rw [c.sc]
  split at h
  · exact .inl (by assumption)
  · exact .inr (.inl (by assumption))
  · exact .inr (.inr (by assumption))
  · cases h
theorem Ctx.gl (c : Ctx F C k s X) {x : PySem.Str} (h : glB s.sc x = true) : Gl X x := by
  unfold glB at h
  show X.env.scope.names.lookup x = some .globalImplicit
  rw [c.sc]
  split at h
  · assumption
  · cases h
theorem Ctx.hu (c : Ctx F C k s X) : X.A.units + 64 < cLine := c.room.units
theorem okNm_of {x : PySem.Str} (h : okNm x = true) : (x == ("__debug__" : PySem.Str)) = false ∧ (x == ("__classdict__" : PySem.Str)) = false ∧ x ≠ "__name__" := by
  unfold okNm at h
  simp only [Bool.and_eq_true, Bool.not_eq_true'] at h
  exact ⟨h.1.1, h.1.2, fun e => by rw [e] at h; simp at h⟩

/-- a name -/
theorem e_var (c : Ctx F C k s X) {i : Nat} {x : PySem.Str} {pos : Pos} (hN : F.N[i]? = some x) (hv : visB s.sc x = true) (ho : okNm x = true) : PE X (.Name x pos) (tR X.K (evE C (.var i))) := by
  obtain ⟨o1, o2, o3⟩ := okNm_of ho
  refine PE.imp (pe_var (by rw [c.N]; exact hN) (c.vis hv) o1 o2) fun σ H Q ⟨μ, ρ, S, v, S', w, re, e, q⟩ => ?_
  simp only [evE, Option.map_eq_some_iff] at e
  obtain ⟨v', e1, e2⟩ := e
  cases e2
  obtain ⟨u, e3, r⟩ := re.2 i _ e1
  exact ⟨u, e3, q.here w r⟩
theorem e_const {e : Expr} {v : V} {x : D} (h : PE X e (tC v)) (f : Env → Store → R Val) (hf : ∀ ρ S, f ρ S = some (.d x, S)) (hr : ∀ H μ, RepD X.K H μ x v) : PE X e (tR X.K f) :=
  PE.imp h fun σ H Q ⟨μ, ρ, S, v, S', w, re, e, q⟩ => by
    rw [hf] at e; cases e
    exact q.here w (repV_d.mpr (hr H μ))
theorem e_bin {fa fb : Env → Store → R Val} {a b : Expr} {o : Op} {pos : Pos} (ha : PE X a (tR X.K fa)) (hb : PE X b (tR X.K fb)) (f : Env → Store → R Val)
    (hf : ∀ ρ S z S', f ρ S = some (z, S') → ∃ x y S1 d, fa ρ S = some (.d x, S1) ∧ fb ρ S1 = some (.d y, S') ∧ opD o x y = some d ∧ z = .d d) : PE X (.BinOp a (opOf o) b pos) (tR X.K f) := by
  refine PE.imp (pe_op (rOp_ok o) ha hb) fun σ H Q ⟨μ, ρ, S, z, S', w, re, e, q⟩ => ?_
  obtain ⟨x, y, S1, d, e1, e2, e3, rfl⟩ := hf _ _ _ _ e
  refine ⟨μ, ρ, S, _, S1, w, re, e1, fun u H1 μ1 g1 w1 r1 => ⟨μ1, ρ, S1, _, S', w1, re.grow g1, e2, fun v H2 μ2 g2 w2 r2 => ?_⟩⟩
  exact opD_ok w2 e3 (repV_d.mp (RepV.grow g2 _ _ r1)) (repV_d.mp r2) (q.grow (g1.trans g2))
theorem bnd_eq {α β : Type} {m : R α} {f : α → Store → Option β} {b : β} (h : bnd m f = some b) : ∃ a S, m = some (a, S) ∧ f a S = some b := by
  unfold bnd at h
  cases m with
  | none => cases h
  | some p => exact ⟨p.1, p.2, rfl, h⟩
theorem ev_bin {a b : E} {o : Op} {ρ : Env} {S S' : Store} {z : Val} (h : evE C (.bin o a b) ρ S = some (z, S')) : ∃ x y S1 d, evE C a ρ S = some (.d x, S1) ∧ evE C b ρ S1 = some (.d y, S') ∧ opD o x y = some d ∧ z = .d d := by
  simp only [evE] at h
  obtain ⟨x, S1, e1, h⟩ := bnd_eq h
  obtain ⟨y, S2, e2, h⟩ := bnd_eq h
  cases x with
  | d x => cases y with
    | d y =>
      simp only [Option.map_eq_some_iff] at h
      obtain ⟨d, e3, e4⟩ := h
      cases e4
      exact ⟨x, y, S1, d, e1, e2, e3, rfl⟩
    | _ => cases h
  | _ => cases h
theorem e_cmp {fa fb : Env → Store → R Val} {a b : Expr} {o : Cp} {pos : Pos} (c : Ctx F C k s X) (ha : PE X a (tR X.K fa)) (hb : PE X b (tR X.K fb)) (hm : behindInMarks (cpOf o) b = false) (f : Env → Store → R Val)
    (hf : ∀ ρ S z S', f ρ S = some (z, S') → ∃ x y S1 d, fa ρ S = some (.d x, S1) ∧ fb ρ S1 = some (.d y, S') ∧ cmpD o x y = some d ∧ z = .d (.bl d)) :
    PE X (.Compare a [cpOf o] [b] pos) (tR X.K f) ∧ PT X (.Compare a [cpOf o] [b] pos) (tRb X.K f) := by
  constructor
  · refine PE.imp (pe_cmpR (rCp_ok c.hu o) ha hb hm) fun σ H Q ⟨μ, ρ, S, z, S', w, re, e, q⟩ => ?_
    obtain ⟨x, y, S1, d, e1, e2, e3, rfl⟩ := hf _ _ _ _ e
    refine ⟨μ, ρ, S, _, S1, w, re, e1, fun u H1 μ1 g1 w1 r1 => ⟨μ1, ρ, S1, _, S', w1, re.grow g1, e2, fun v H2 μ2 g2 w2 r2 => ?_⟩⟩
    exact cmpD_ok w2 e3 (repV_d.mp (RepV.grow g2 _ _ r1)) (repV_d.mp r2) ((q.grow (g1.trans g2)).here w2 (repV_d.mpr (repD_bl.mpr rfl)))
  · refine PT.imp (pt_cmpR (rCp_ok c.hu o) ha hb hm) fun σ H Q ⟨μ, ρ, S, z, S', w, re, e, q⟩ => ?_
    obtain ⟨x, y, S1, d, e1, e2, e3, e4⟩ := hf _ _ _ _ e
    cases e4
    refine ⟨μ, ρ, S, _, S1, w, re, e1, fun u H1 μ1 g1 w1 r1 => ⟨μ1, ρ, S1, _, S', w1, re.grow g1, e2, fun v H2 μ2 g2 w2 r2 => ?_⟩⟩
    exact cmpD_ok w2 e3 (repV_d.mp (RepV.grow g2 _ _ r1)) (repV_d.mp r2) ⟨_, rfl, q H2 μ2 (g1.trans g2) w2⟩
theorem ev_cmp {a b : E} {o : Cp} {ρ : Env} {S S' : Store} {z : Val} (h : evE C (.cmp o a b) ρ S = some (z, S')) : ∃ x y S1 d, evE C a ρ S = some (.d x, S1) ∧ evE C b ρ S1 = some (.d y, S') ∧ cmpD o x y = some d ∧ z = .d (.bl d) := by
  simp only [evE] at h
  obtain ⟨x, S1, e1, h⟩ := bnd_eq h
  obtain ⟨y, S2, e2, h⟩ := bnd_eq h
  cases x with
  | d x => cases y with
    | d y =>
      simp only [Option.map_eq_some_iff] at h
      obtain ⟨d, e3, e4⟩ := h
      cases e4
      exact ⟨x, y, S1, d, e1, e2, e3, rfl⟩
    | _ => cases h
  | _ => cases h
theorem e_chain {fa fb fc : Env → Store → R Val} {a b b2 : Expr} {o o' : Cp} {pos : Pos} (c : Ctx F C k s X) (ha : PE X a (tR X.K fa)) (hb : PE X b (tR X.K fb)) (hc : PE X b2 (tR X.K fc)) (hm : lastMarks [cpOf o, cpOf o'] [b, b2] = false) (f : Env → Store → R Val)
    (hf : ∀ ρ S z S', f ρ S = some (z, S') → ∃ x y S1 S2 d, fa ρ S = some (.d x, S1) ∧ fb ρ S1 = some (.d y, S2) ∧ cmpD o x y = some d ∧ (d = false → z = .d (.bl false) ∧ S' = S2) ∧ (d = true → ∃ u r, fc ρ S2 = some (.d u, S') ∧ cmpD o' y u = some r ∧ z = .d (.bl r))) :
    PE X (.Compare a [cpOf o, cpOf o'] [b, b2] pos) (tR X.K f) ∧ PT X (.Compare a [cpOf o, cpOf o'] [b, b2] pos) (tRb X.K f) := by
  constructor
  · refine PE.imp (pe_chain (rCp_ok c.hu o) (rCp_ok c.hu o') ha hb hc hm) fun σ H Q ⟨μ, ρ, S, z, S', w, re, e, q⟩ => ?_
    obtain ⟨x, y, S1, S2, d, e1, e2, e3, e4, e5⟩ := hf _ _ _ _ e
    refine ⟨μ, ρ, S, _, S1, w, re, e1, fun u H1 μ1 g1 w1 r1 => ⟨μ1, ρ, S1, _, S2, w1, re.grow g1, e2, fun v H2 μ2 g2 w2 r2 => ?_⟩⟩
    refine cmpD_ok w2 e3 (repV_d.mp (RepV.grow g2 _ _ r1)) (repV_d.mp r2) ⟨d, rfl, ?_⟩
    cases d with
    | false =>
      obtain ⟨rfl, rfl⟩ := e4 rfl
      exact iteF ((q.grow (g1.trans g2)).here w2 (repV_d.mpr (repD_bl.mpr rfl)))
    | true =>
      obtain ⟨u', r, e6, e7, rfl⟩ := e5 rfl
      refine iteT ⟨μ2, ρ, S2, _, S', w2, (re.grow g1).grow g2, e6, fun t H3 μ3 g3 w3 r3 => ?_⟩
      exact cmpD_ok w3 e7 (repV_d.mp (RepV.grow g3 _ _ r2)) (repV_d.mp r3) ((q.grow ((g1.trans g2).trans g3)).here w3 (repV_d.mpr (repD_bl.mpr rfl)))
  · refine PT.imp (pt_chain (rCp_ok c.hu o) (rCp_ok c.hu o') ha hb hc hm) fun σ H Q ⟨μ, ρ, S, z, S', w, re, e, q⟩ => ?_
    obtain ⟨x, y, S1, S2, d, e1, e2, e3, e4, e5⟩ := hf _ _ _ _ e
    refine ⟨μ, ρ, S, _, S1, w, re, e1, fun u H1 μ1 g1 w1 r1 => ⟨μ1, ρ, S1, _, S2, w1, re.grow g1, e2, fun v H2 μ2 g2 w2 r2 => ?_⟩⟩
    refine cmpD_ok w2 e3 (repV_d.mp (RepV.grow g2 _ _ r1)) (repV_d.mp r2) ⟨d, rfl, ?_⟩
    cases d with
    | false =>
      obtain ⟨e6, rfl⟩ := e4 rfl
      cases e6
      exact iteF ⟨_, rfl, q H2 μ2 (g1.trans g2) w2⟩
    | true =>
      obtain ⟨u', r, e6, e7, e8⟩ := e5 rfl
      cases e8
      refine iteT ⟨μ2, ρ, S2, _, S', w2, (re.grow g1).grow g2, e6, fun t H3 μ3 g3 w3 r3 => ?_⟩
      exact cmpD_ok w3 e7 (repV_d.mp (RepV.grow g3 _ _ r2)) (repV_d.mp r3) ⟨_, rfl, q H3 μ3 ((g1.trans g2).trans g3) w3⟩
theorem ev_chain {a b b2 : E} {o o' : Cp} {ρ : Env} {S S' : Store} {z : Val} (h : evE C (.chain o o' a b b2) ρ S = some (z, S')) :
    ∃ x y S1 S2 d, evE C a ρ S = some (.d x, S1) ∧ evE C b ρ S1 = some (.d y, S2) ∧ cmpD o x y = some d ∧ (d = false → z = .d (.bl false) ∧ S' = S2) ∧ (d = true → ∃ u r, evE C b2 ρ S2 = some (.d u, S') ∧ cmpD o' y u = some r ∧ z = .d (.bl r)) := by
  simp only [evE] at h
  obtain ⟨x, S1, e1, h⟩ := bnd_eq h
  obtain ⟨y, S2, e2, h⟩ := bnd_eq h
  cases x with
  | d x => cases y with
    | d y =>
      simp only at h
      cases hd : cmpD o x y with
      | none => rw [hd] at h; cases h
      | some d =>
        rw [hd] at h
        refine ⟨x, y, S1, S2, d, e1, e2, hd, fun e => ?_, fun e => ?_⟩
        · subst e
          simp only at h
          cases h; exact ⟨rfl, rfl⟩
        · subst e
          simp only at h
          obtain ⟨u, S3, e3, h⟩ := bnd_eq h
          cases u with
          | d u =>
            simp only [Option.map_eq_some_iff] at h
            obtain ⟨r, e4, e5⟩ := h
            cases e5
            exact ⟨u, r, e3, e4, rfl⟩
          | _ => cases h
    | _ => cases h
  | _ => cases h
end
end PI
set_option Elab.async false
set_option linter.all false
set_option maxRecDepth 100000
set_option maxHeartbeats 1000000
/-! PI6: and, or, not, if; subscripts, slices, displays, len, types, calls. -/
namespace PI
open PySem PySem.Spec PyProof.Rows L2
section
variable {F : Mc} {C : Calls} {k : Nat} {s : Sc} {X : Cx}

/-- an expression that is tested by its value -/
def plainT : Expr → Bool
  | .UnaryOp .Not _ _ => false
  | .BoolOp _ _ _ => false
  | .IfExp _ _ _ _ => false
  | .Compare _ _ _ _ => false
  | _ => true
theorem e_test {e : Expr} {f : Env → Store → R Val} (h : PE X e (tR X.K f)) (hp : plainT e = true) : PT X e (tRb X.K f) := by
  have he : ∀ whole, isTrue e X.env whole = (do let v ← whole; standAt e.pos; holding [v] (truthy v)) := by
    intro whole
    cases e with
    | UnaryOp o a p => cases o <;> first | rfl | cases hp
    | BoolOp => cases hp
    | IfExp => cases hp
    | Compare => cases hp
    | _ => rfl
  refine PT.imp (pt_val h he) fun σ H Q ⟨μ, ρ, S, b, S', w, re, e, q⟩ => ?_
  exact ⟨μ, ρ, S, _, S', w, re, e, fun v H' μ' g w' r => ⟨b, repD_bl.mp (repV_d.mp r), q H' μ' g w'⟩⟩

/-! ### and, or, not, if -/
theorem e_and {a b : Expr} {rest : List Expr} {pos : Pos} {fa fb : Env → Store → R Val} (ha : PE X a (tR X.K fa)) (hb : PE X (.BoolOp .And (b :: rest) pos) (tR X.K fb)) :
    PE X (.BoolOp .And (a :: b :: rest) pos) (tR X.K fun ρ S => bnd (fa ρ S) fun x S => match x with
    | .d (.bl true) => fb ρ S
    | .d (.bl false) => some (.d (.bl false), S)
    | _ => none) := by
  refine PE.imp (pe_and ha hb) fun σ H Q ⟨μ, ρ, S, z, S', w, re, e, q⟩ => ?_
  obtain ⟨x, S1, e1, e⟩ := bnd_eq e
  refine ⟨μ, ρ, S, x, S1, w, re, e1, fun u H1 μ1 g1 w1 r1 => ?_⟩
  split at e
  · exact ⟨true, repD_bl.mp (repV_d.mp r1), iteT ⟨μ1, ρ, S1, z, S', w1, re.grow g1, e, q.grow g1⟩⟩
  · cases e
    exact ⟨false, repD_bl.mp (repV_d.mp r1), iteF ((q.grow g1).here w1 (repV_d.mpr (repD_bl.mpr rfl)))⟩
  · cases e
theorem e_or {a b : Expr} {rest : List Expr} {pos : Pos} {fa fb : Env → Store → R Val} (ha : PE X a (tR X.K fa)) (hb : PE X (.BoolOp .Or (b :: rest) pos) (tR X.K fb)) :
    PE X (.BoolOp .Or (a :: b :: rest) pos) (tR X.K fun ρ S => bnd (fa ρ S) fun x S => match x with
    | .d (.bl true) => some (.d (.bl true), S)
    | .d (.bl false) => fb ρ S
    | _ => none) := by
  refine PE.imp (pe_or ha hb) fun σ H Q ⟨μ, ρ, S, z, S', w, re, e, q⟩ => ?_
  obtain ⟨x, S1, e1, e⟩ := bnd_eq e
  refine ⟨μ, ρ, S, x, S1, w, re, e1, fun u H1 μ1 g1 w1 r1 => ?_⟩
  split at e
  · cases e
    exact ⟨true, repD_bl.mp (repV_d.mp r1), iteT ((q.grow g1).here w1 (repV_d.mpr (repD_bl.mpr rfl)))⟩
  · exact ⟨false, repD_bl.mp (repV_d.mp r1), iteF ⟨μ1, ρ, S1, z, S', w1, re.grow g1, e, q.grow g1⟩⟩
  · cases e
theorem t_and {a b : Expr} {rest : List Expr} {pos : Pos} {fa fb : Env → Store → R Val} (ha : PT X a (tRb X.K fa)) (hb : PW X (.BoolOp .And (b :: rest) pos) (tRb X.K fb)) :
    PW X (.BoolOp .And (a :: b :: rest) pos) (tRb X.K fun ρ S => bnd (fa ρ S) fun x S => match x with
    | .d (.bl true) => fb ρ S
    | .d (.bl false) => some (.d (.bl false), S)
    | _ => none) := by
  refine PW.imp (pw_and ha hb) fun σ H Q ⟨μ, ρ, S, z, S', w, re, e, q⟩ => ?_
  obtain ⟨x, S1, e1, e⟩ := bnd_eq e
  split at e
  · exact ⟨μ, ρ, S, true, S1, w, re, e1, fun H1 μ1 g1 w1 => iteT ⟨μ1, ρ, S1, z, S', w1, re.grow g1, e, fun H2 μ2 g2 => q H2 μ2 (g1.trans g2)⟩⟩
  · cases e
    exact ⟨μ, ρ, S, false, _, w, re, e1, fun H1 μ1 g1 w1 => iteF (q H1 μ1 g1 w1)⟩
  · cases e
theorem t_or {a b : Expr} {rest : List Expr} {pos : Pos} {fa fb : Env → Store → R Val} (ha : PT X a (tRb X.K fa)) (hb : PW X (.BoolOp .Or (b :: rest) pos) (tRb X.K fb)) :
    PW X (.BoolOp .Or (a :: b :: rest) pos) (tRb X.K fun ρ S => bnd (fa ρ S) fun x S => match x with
    | .d (.bl true) => some (.d (.bl true), S)
    | .d (.bl false) => fb ρ S
    | _ => none) := by
  refine PW.imp (pw_or ha hb) fun σ H Q ⟨μ, ρ, S, z, S', w, re, e, q⟩ => ?_
  obtain ⟨x, S1, e1, e⟩ := bnd_eq e
  split at e
  · cases e
    exact ⟨μ, ρ, S, true, _, w, re, e1, fun H1 μ1 g1 w1 => iteT (q H1 μ1 g1 w1)⟩
  · exact ⟨μ, ρ, S, false, S1, w, re, e1, fun H1 μ1 g1 w1 => iteF ⟨μ1, ρ, S1, z, S', w1, re.grow g1, e, fun H2 μ2 g2 => q H2 μ2 (g1.trans g2)⟩⟩
  · cases e
theorem e_not {a : Expr} {pos : Pos} {fa : Env → Store → R Val} (ha : PE X a (tR X.K fa)) : PE X (.UnaryOp .Not a pos) (tR X.K fun ρ S => bnd (fa ρ S) fun x S => match x with
    | .d (.bl b) => some (.d (.bl !b), S)
    | _ => none) := by
  refine PE.imp (pe_not ha) fun σ H Q ⟨μ, ρ, S, z, S', w, re, e, q⟩ => ?_
  obtain ⟨x, S1, e1, e⟩ := bnd_eq e
  refine ⟨μ, ρ, S, x, S1, w, re, e1, fun u H1 μ1 g1 w1 r1 => ?_⟩
  split at e
  · cases e
    exact ⟨_, repD_bl.mp (repV_d.mp r1), (q.grow g1).here w1 (repV_d.mpr (repD_bl.mpr rfl))⟩
  · cases e
theorem t_not {a : Expr} {pos : Pos} {fa : Env → Store → R Val} (ha : PT X a (tRb X.K fa)) : PT X (.UnaryOp .Not a pos) (tRb X.K fun ρ S => bnd (fa ρ S) fun x S => match x with
    | .d (.bl b) => some (.d (.bl !b), S)
    | _ => none) := by
  refine PT.imp (pt_not ha) fun σ H Q ⟨μ, ρ, S, z, S', w, re, e, q⟩ => ?_
  obtain ⟨x, S1, e1, e⟩ := bnd_eq e
  split at e
  · cases e
    exact ⟨μ, ρ, S, _, _, w, re, e1, q⟩
  · cases e
theorem e_ife {c a b : Expr} {pos : Pos} {fc fa fb : Env → Store → R Val} (hc : PT X c (tRb X.K fc)) (ha : PE X a (tR X.K fa)) (hb : PE X b (tR X.K fb)) : PE X (.IfExp c a b pos) (tR X.K fun ρ S => bnd (fc ρ S) fun x S => match x with
    | .d (.bl true) => fa ρ S
    | .d (.bl false) => fb ρ S
    | _ => none) := by
  refine PE.imp (pe_ifExp hc ha hb) fun σ H Q ⟨μ, ρ, S, z, S', w, re, e, q⟩ => ?_
  obtain ⟨x, S1, e1, e⟩ := bnd_eq e
  split at e
  · exact ⟨μ, ρ, S, true, S1, w, re, e1, fun H1 μ1 g1 w1 => iteT ⟨μ1, ρ, S1, z, S', w1, re.grow g1, e, q.grow g1⟩⟩
  · exact ⟨μ, ρ, S, false, S1, w, re, e1, fun H1 μ1 g1 w1 => iteF ⟨μ1, ρ, S1, z, S', w1, re.grow g1, e, q.grow g1⟩⟩
  · cases e
theorem repV_non {K : PySem.W.Frag} {H : Hp} {μ : Ad} : ∀ {x : Val} {v : V}, RepV K H μ x v → (decide (v = V.non) = match x with | .d .non => true | _ => false)
  | .d x, v, r => by
    cases x with
    | non => rw [repD_non.mp (repV_d.mp r)]; rfl
    | bl b => rw [repD_bl.mp (repV_d.mp r)]; rfl
    | int i => rw [repD_int.mp (repV_d.mp r)]; rfl
    | str i => rw [(repD_str.mp (repV_d.mp r)).1]; rfl
    | tup i => obtain ⟨a, ys, rfl, _⟩ := repD_tup.mp (repV_d.mp r); rfl
    | lst i => obtain ⟨a, ys, rfl, _⟩ := repD_lst.mp (repV_d.mp r); rfl
  | .l n, v, r => by obtain ⟨a, _, rfl⟩ := repV_l.mp r; rfl
  | .scr ns, v, r => by obtain ⟨a, rfl, _⟩ := repV_scr.mp r; rfl
  | .dct ns, v, r => by obtain ⟨a, _, rfl, _⟩ := repV_dct.mp r; rfl
  | .vt ns, v, r => by obtain ⟨a, _, rfl, _⟩ := repV_vt.mp r; rfl
  | .vl ns, v, r => by obtain ⟨a, _, rfl, _⟩ := repV_vl.mp r; rfl
  | .obj _ _, v, r => by unfold RepV at r; exact r.elim
theorem e_isN {a : Expr} {j : Nat} {pos pos' : Pos} {fa : Env → Store → R Val} (ha : PE X a (tR X.K fa)) : PE X (.Compare a [.Is] [.Constant .none j pos'] pos) (tR X.K fun ρ S => bnd (fa ρ S) fun x S => match x with
    | .d .non => some (.d (.bl true), S)
    | _ => some (.d (.bl false), S)) ∧ PT X (.Compare a [.Is] [.Constant .none j pos'] pos) (tRb X.K fun ρ S => bnd (fa ρ S) fun x S => match x with
    | .d .non => some (.d (.bl true), S)
    | _ => some (.d (.bl false), S)) := by
  have key : ∀ {x : Val} {S S' : Store} {z : Val}, (match x with | .d .non => some (Val.d (.bl true), S) | _ => some (Val.d (.bl false), S)) = some (z, S') → z = .d (.bl (match x with | .d .non => true | _ => false)) ∧ S' = S := fun {x S S' z} e => by
    split at e <;> (cases e; exact ⟨rfl, rfl⟩)
  constructor
  · refine PE.imp (pe_cmp (pc_isN ha)) fun σ H Q ⟨μ, ρ, S, z, S', w, re, e, q⟩ => ?_
    obtain ⟨x, S1, e1, e⟩ := bnd_eq e
    obtain ⟨rfl, rfl⟩ := key e
    refine ⟨μ, ρ, S, x, _, w, re, e1, fun u H1 μ1 g1 w1 r1 => ?_⟩
    show Q (V.bl (decide (u = V.non))) H1
    rw [repV_non r1]
    exact (q.grow g1).here w1 (repV_d.mpr (repD_bl.mpr rfl))
  · refine PT.imp (pt_cmp (pc_isN ha)) fun σ H Q ⟨μ, ρ, S, z, S', w, re, e, q⟩ => ?_
    obtain ⟨x, S1, e1, e⟩ := bnd_eq e
    obtain ⟨e2, rfl⟩ := key e
    refine ⟨μ, ρ, S, x, _, w, re, e1, fun u H1 μ1 g1 w1 r1 => ?_⟩
    show ∃ c, V.bl (decide (u = V.non)) = V.bl c ∧ Q c H1
    rw [repV_non r1]
    injection e2 with e2; injection e2 with e2
    exact ⟨_, rfl, by rw [← e2]; exact q H1 μ1 g1 w1⟩
theorem e_notN {a : Expr} {j : Nat} {pos pos' : Pos} {fa : Env → Store → R Val} (ha : PE X a (tR X.K fa)) : PE X (.Compare a [.IsNot] [.Constant .none j pos'] pos) (tR X.K fun ρ S => bnd (fa ρ S) fun x S => match x with
    | .d .non => some (.d (.bl false), S)
    | _ => some (.d (.bl true), S)) ∧ PT X (.Compare a [.IsNot] [.Constant .none j pos'] pos) (tRb X.K fun ρ S => bnd (fa ρ S) fun x S => match x with
    | .d .non => some (.d (.bl false), S)
    | _ => some (.d (.bl true), S)) := by
  have key : ∀ {x : Val} {S S' : Store} {z : Val}, (match x with | .d .non => some (Val.d (.bl false), S) | _ => some (Val.d (.bl true), S)) = some (z, S') → z = .d (.bl (!match x with | .d .non => true | _ => false)) ∧ S' = S := fun {x S S' z} e => by
    split at e <;> (cases e; exact ⟨rfl, rfl⟩)
  constructor
  · refine PE.imp (pe_cmp (pc_notN ha)) fun σ H Q ⟨μ, ρ, S, z, S', w, re, e, q⟩ => ?_
    obtain ⟨x, S1, e1, e⟩ := bnd_eq e
    obtain ⟨rfl, rfl⟩ := key e
    refine ⟨μ, ρ, S, x, _, w, re, e1, fun u H1 μ1 g1 w1 r1 => ?_⟩
    show Q (V.bl (!decide (u = V.non))) H1
    rw [repV_non r1]
    exact (q.grow g1).here w1 (repV_d.mpr (repD_bl.mpr rfl))
  · refine PT.imp (pt_cmp (pc_notN ha)) fun σ H Q ⟨μ, ρ, S, z, S', w, re, e, q⟩ => ?_
    obtain ⟨x, S1, e1, e⟩ := bnd_eq e
    obtain ⟨e2, rfl⟩ := key e
    refine ⟨μ, ρ, S, x, _, w, re, e1, fun u H1 μ1 g1 w1 r1 => ?_⟩
    show ∃ c, V.bl (!decide (u = V.non)) = V.bl c ∧ Q c H1
    rw [repV_non r1]
    injection e2 with e2; injection e2 with e2
    exact ⟨_, rfl, by rw [← e2]; exact q H1 μ1 g1 w1⟩
theorem e_neg {a : Expr} {pos : Pos} {fa : Env → Store → R Val} (ha : PE X a (tR X.K fa)) : PE X (.UnaryOp .USub a pos) (tR X.K fun ρ S => bnd (fa ρ S) fun x S => match x with
    | .d (.int i) => some (.d (.int (-i)), S)
    | _ => none) := by
  refine PE.imp (pe_un un_neg ha) fun σ H Q ⟨μ, ρ, S, z, S', w, re, e, q⟩ => ?_
  obtain ⟨x, S1, e1, e⟩ := bnd_eq e
  refine ⟨μ, ρ, S, x, S1, w, re, e1, fun u H1 μ1 g1 w1 r1 => ?_⟩
  split at e
  · cases e
    exact ⟨_, repD_int.mp (repV_d.mp r1), (q.grow g1).here w1 (repV_d.mpr (repD_int.mpr rfl))⟩
  · cases e

/-! ### arguments, displays -/
theorem a_nil : PA X [] (tRs X.K fun _ S => some ([], S)) := PA.imp pa_nil fun σ H Q ⟨μ, ρ, S, z, S', w, re, e, q⟩ => by
  cases e
  exact q [] H μ Grow.refl w (repVs_nil.mpr rfl)
def notStar : Expr → Bool
  | .Starred _ _ => false
  | _ => true
theorem star_each {e : Expr} {es : List Expr} {env : PySem.Env} (h : notStar e = true) : starEach (e :: es) env = (false, eval e env) :: starEach es env := by
  cases e with
  | Starred => cases h
  | _ => rfl
theorem a_cons {e : Expr} {es : List Expr} {fa : Env → Store → R Val} {fs : Env → Store → R (List Val)} (ha : PE X e (tR X.K fa)) (hs : PA X es (tRs X.K fs)) (hn : notStar e = true) :
    PA X (e :: es) (tRs X.K fun ρ S => bnd (fa ρ S) fun v S => bnd (fs ρ S) fun vs S => some (v :: vs, S)) := by
  refine PA.imp (pa_cons ha hs (star_each hn)) fun σ H Q ⟨μ, ρ, S, z, S', w, re, e, q⟩ => ?_
  obtain ⟨x, S1, e1, e⟩ := bnd_eq e
  obtain ⟨xs, S2, e2, e⟩ := bnd_eq e
  cases e
  refine ⟨μ, ρ, S, x, S1, w, re, e1, fun u H1 μ1 g1 w1 r1 => ⟨μ1, ρ, S1, xs, _, w1, re.grow g1, e2, fun us H2 μ2 g2 w2 r2 => ?_⟩⟩
  exact q _ H2 μ2 (g1.trans g2) w2 (repVs_cons.mpr ⟨_, _, rfl, RepV.grow g2 _ _ r1, r2⟩)
/-- a display of a tuple -/
def tTupX (t : TA) : TE := fun σ H Q => t σ H fun xs H1 => xs.length ≤ sizeLine ∧ NewT H1 xs Q
theorem pe_tupX {es : List Expr} {x1 : Nat} {pos : Pos} {t : TA} (h : PA X es t) : PE X (.Tuple es x1 pos) (tTupX t) :=
  ⟨fun pins s σ H Q I q => wpAny_Tuple_spliced (thn (h.run pos pins s σ H _ I q) fun us s1 ⟨xs, H1, I1, r, z, q1⟩ => ⟨by rw [← r.length]; exact z, laid_tup I1 r z q1⟩)⟩
theorem e_tup {es : List Expr} {x1 : Nat} {pos : Pos} {fs : Env → Store → R (List Val)} (h : PA X es (tRs X.K fs)) (hl : ∀ ρ S vs S', fs ρ S = some (vs, S') → vs.length ≤ 1000) :
    PE X (.Tuple es x1 pos) (tR X.K fun ρ S => bnd (fs ρ S) fun vs S => mkT vs S) := by
  refine PE.imp (pe_tupX h) fun σ H Q ⟨μ, ρ, S, z, S', w, re, e, q⟩ => ?_
  obtain ⟨xs, S1, e1, e⟩ := bnd_eq e
  refine ⟨μ, ρ, S, xs, S1, w, re, e1, fun us H1 μ1 g1 w1 r1 => ⟨?_, fun p o ho hp => Pu.mkT w1 e (q.grow g1) r1 ho hp⟩⟩
  rw [r1.length]
  exact Nat.le_of_lt (small1000 (hl _ _ _ _ e1))
theorem e_lst {m : Bool} {es : List Expr} {pos : Pos} {fs : Env → Store → R (List Val)} (h : PA X es (tRs X.K fs)) (hl : ∀ ρ S vs S', fs ρ S = some (vs, S') → vs.length ≤ 1000) :
    PE X (.List es pos) (tR X.K fun ρ S => bnd (fs ρ S) fun vs S => mkL m vs S) := by
  refine PE.imp (pe_lst h) fun σ H Q ⟨μ, ρ, S, z, S', w, re, e, q⟩ => ?_
  obtain ⟨xs, S1, e1, e⟩ := bnd_eq e
  refine ⟨μ, ρ, S, xs, S1, w, re, e1, fun us H1 μ1 g1 w1 r1 => ⟨?_, fun p hp => Pu.mkL w1 e (q.grow g1) r1 hp⟩⟩
  rw [r1.length]
  exact Nat.le_of_lt (small1000 (hl _ _ _ _ e1))
theorem evEs_length : ∀ {es : List E} {ρ : Env} {S S' : Store} {vs : List Val}, evEs C es ρ S = some (vs, S') → vs.length = es.length
  | [], ρ, S, S', vs, h => by simp only [evEs] at h; cases h; rfl
  | e :: es, ρ, S, S', vs, h => by
    simp only [evEs] at h
    obtain ⟨x, S1, e1, h⟩ := bnd_eq h
    obtain ⟨xs, S2, e2, h⟩ := bnd_eq h
    cases h
    simp [evEs_length e2]

/-! ### subscripts, slices -/
def plainIx : Expr → Bool
  | .Slice _ _ _ _ => false
  | _ => true
theorem plain_ix {b : Expr} (h : plainIx b = true) : PlainIx b := by
  intro o i
  cases b with
  | Slice => cases h
  | _ => rfl
section
variable {K : PySem.W.Frag} {H H' : Hp} {μ μ' : Ad} {S : Store} {v w : V}
theorem RepDs.at {xs : List D} {ys : List V} (r : RepDs K H μ xs ys) {i : Int} {x : D} (h : atI xs i = some x) : ∃ v, atI ys i = some v ∧ RepD K H μ x v := by
  unfold atI at *
  rw [r.length]
  cases hi : ixN xs.length i with
  | none => rw [hi] at h; cases h
  | some j => rw [hi] at h; exact r.get h
theorem RepVs.at {xs : List Val} {ys : List V} (r : RepVs K H μ xs ys) {i : Int} {x : Val} (h : atI xs i = some x) : ∃ v, atI ys i = some v ∧ RepV K H μ x v := by
  unfold atI at *
  rw [r.length]
  cases hi : ixN xs.length i with
  | none => rw [hi] at h; cases h
  | some j => rw [hi] at h; exact r.get h
theorem atI_map {α β : Type} (f : α → β) (xs : List α) (i : Int) : atI (xs.map f) i = (atI xs i).map f := by
  unfold atI
  rw [List.length_map]
  cases ixN xs.length i with
  | none => rfl
  | some j => show (xs.map f)[j]? = (xs[j]?).map f; rw [List.getElem?_map]
theorem RepK.get : ∀ {kvs : List (T × Val)} {zs : List (Key × V)} {t : T} {x : Val}, RepK K H μ kvs zs → lkp t kvs = some x → ∃ v, valV zs (.inr (S' t)) = some v ∧ RepV K H μ x v
  | [], zs, t, x, r, h => by cases h
  | (j, y) :: kvs, zs, t, x, r, h => by
    unfold RepK at r
    obtain ⟨w, r', rfl, _, q, r⟩ := r
    simp only [lkp] at h
    split at h
    · cases h
      rename_i e
      subst e
      exact ⟨w, by rw [valV_pos rfl], q⟩
    · rename_i e
      rw [valV_neg (by intro z; exact e (S'_inj.mp (Sum.inr.inj z)))]
      exact RepK.get r h
theorem RepK.none : ∀ {kvs : List (T × Val)} {zs : List (Key × V)} {t : T}, RepK K H μ kvs zs → lkp t kvs = none → valV zs (.inr (S' t)) = none
  | [], zs, t, r, h => by unfold RepK at r; subst r; rfl
  | (j, y) :: kvs, zs, t, r, h => by
    unfold RepK at r
    obtain ⟨w, r', rfl, _, q, r⟩ := r
    simp only [lkp] at h
    split at h
    · cases h
    · rename_i e
      rw [valV_neg (by intro z; exact e (S'_inj.mp (Sum.inr.inj z)))]
      exact RepK.none r h
theorem idxV_ok {x y z : Val} {Q : VK} (W : Wd K H μ S) (e : idxV x y S = some z) (rx : RepV K H μ x v) (ry : RepV K H μ y w) (h : Pu K H μ S z Q) : ((∃ i, y = .d (.int i)) ∧ rIx K v w H Q) ∨ ((∃ t, y = .d (.str t)) ∧ ∃ a u, v = .ref a ∧ DGet H a w (some u) ∧ Q u H) := by
  have fin : ∀ {u : V}, RepV K H μ z u → Q u H := fun r => h.here W r
  have int : ∀ {i : Int}, y = .d (.int i) → w = .int i := fun {i} q => by subst q; exact repD_int.mp (repV_d.mp ry)
  unfold idxV at e
  split at e
  · rename_i xs
    split at e
    · rename_i i
      cases int rfl
      simp only [Option.map_eq_some_iff] at e
      obtain ⟨d, e1, rfl⟩ := e
      obtain ⟨a, ys, rfl, q, r⟩ := repD_tup.mp (repV_d.mp rx)
      obtain ⟨u, e2, r2⟩ := r.at e1
      exact .inl ⟨⟨_, rfl⟩, .inr (.inl ⟨a, ys, i, u, rfl, rfl, q.t, e2, fin (repV_d.mpr r2)⟩)⟩
    · cases e
  · rename_i xs
    split at e
    · rename_i i
      cases int rfl
      simp only [Option.map_eq_some_iff] at e
      obtain ⟨d, e1, rfl⟩ := e
      obtain ⟨a, ys, rfl, q, _, r⟩ := repD_lst.mp (repV_d.mp rx)
      obtain ⟨u, e2, r2⟩ := r.at e1
      exact .inl ⟨⟨_, rfl⟩, .inl ⟨a, ys, i, u, rfl, rfl, SqL.of q, e2, fin (repV_d.mpr r2)⟩⟩
    · cases e
  · rename_i t
    split at e
    · rename_i i
      cases int rfl
      split at e
      · simp only [Option.map_eq_some_iff] at e
        obtain ⟨d, e1, rfl⟩ := e
        obtain ⟨rfl, o⟩ := repD_str.mp (repV_d.mp rx)
        refine .inl ⟨⟨_, rfl⟩, .inr (.inr ⟨_, i, d, rfl, rfl, by rw [S'_length, ← lim_eq]; assumption, by rw [show (S' t).cps.toList = t by simp [S']]; exact e1, fin (repV_d.mpr (repD_str.mpr ⟨rfl, okT_sub o fun c m => ?_⟩))⟩)⟩
        rw [List.mem_singleton.mp m]
        unfold atI at e1
        cases hi : ixN t.length i with
        | none => rw [hi] at e1; cases e1
        | some j => rw [hi] at e1; exact List.mem_of_getElem? e1
      · cases e
    · cases e
  · rename_i ns
    split at e
    · rename_i i
      cases int rfl
      simp only [Option.map_eq_some_iff] at e
      obtain ⟨d, e1, rfl⟩ := e
      obtain ⟨a, rfl, q, _⟩ := repV_scr.mp rx
      exact .inl ⟨⟨_, rfl⟩, .inl ⟨a, _, i, .int d, rfl, rfl, q, by rw [atI_map, e1]; rfl, fin (repV_d.mpr (repD_int.mpr rfl))⟩⟩
    · cases e
  · rename_i kvs
    split at e
    · rename_i t
      obtain ⟨a, zs, rfl, q, _, r⟩ := repV_dct.mp rx
      obtain ⟨rfl, _⟩ := repD_str.mp (repV_d.mp ry)
      obtain ⟨u, e2, r2⟩ := r.get e
      exact .inr ⟨⟨_, rfl⟩, a, u, rfl, .inl ⟨zs, .inr (S' t), q, rfl, e2.symm⟩, fin r2⟩
    · cases e
  · rename_i xs
    split at e
    · rename_i i
      cases int rfl
      obtain ⟨a, ys, rfl, q, _, r⟩ := repV_vl.mp rx
      obtain ⟨u, e2, r2⟩ := r.at e
      exact .inl ⟨⟨_, rfl⟩, .inl ⟨a, ys, i, u, rfl, rfl, SqL.of q, e2, fin r2⟩⟩
    · cases e
  · rename_i n
    obtain ⟨a, e1, rfl⟩ := repV_l.mp rx
    split at e
    · rename_i xs hS
      obtain ⟨b, e2, ys, q, r⟩ := W.at hS
      rw [e1] at e2; cases e2
      split at e
      · rename_i i
        cases int rfl
        obtain ⟨u, e3, r2⟩ := r.at e
        exact .inl ⟨⟨_, rfl⟩, .inl ⟨a, ys, i, u, rfl, rfl, SqL.of q, e3, fin r2⟩⟩
      · cases e
    · rename_i kvs hS
      obtain ⟨b, e2, zs, q, r⟩ := W.at hS
      rw [e1] at e2; cases e2
      split at e
      · rename_i t
        obtain ⟨rfl, _⟩ := repD_str.mp (repV_d.mp ry)
        obtain ⟨u, e3, r2⟩ := r.get e
        exact .inr ⟨⟨_, rfl⟩, a, u, rfl, .inl ⟨zs, .inr (S' t), .inl q, rfl, e3.symm⟩, fin r2⟩
      · cases e
    · cases e
  · cases e
end
theorem e_idx {a b : Expr} {pos : Pos} {fa fb : Env → Store → R Val} (c : Ctx F C k s X) (ha : PE X a (tR X.K fa)) (hb : PE X b (tR X.K fb)) (hp : plainIx b = true) : PE X (.Subscript a b pos) (tR X.K fun ρ S => bnd (fa ρ S) fun x S => bnd (fb ρ S) fun y S => (idxV x y S).map fun v => (v, S)) := by
  have hu : X.A.units + 1 < cLine := by have := c.hu; omega
  have pl := plain_ix hp
  refine ⟨fun pins st σ H Q I ⟨μ, ρ, S, z, S', w, re, e, q⟩ => ?_⟩
  obtain ⟨x, S1, e1, e⟩ := bnd_eq e
  obtain ⟨y, S2, e2, e⟩ := bnd_eq e
  simp only [Option.map_eq_some_iff] at e
  obtain ⟨z', e3, e4⟩ := e
  cases e4
  have go : ∀ {t : TE}, PE X (.Subscript a b pos) t → t σ H Q → wpAny (model X.prog X.w) X.A (eval (.Subscript a b pos) X.env) (EP X pins σ Q) X.xe st := fun h ht => h.run pins st σ H Q I ht
  by_cases hd : ∃ t, y = .d (.str t)
  · refine go (pe_dget hu ha hb pl) ⟨μ, ρ, S, x, S1, w, re, e1, fun u H1 μ1 g1 w1 r1 => ⟨μ1, ρ, S1, y, _, w1, re.grow g1, e2, fun v H2 μ2 g2 w2 r2 => ?_⟩⟩
    rcases idxV_ok w2 e3 (RepV.grow g2 _ _ r1) r2 (q.grow (g1.trans g2)) with ⟨⟨i, h1⟩, _⟩ | ⟨_, h⟩
    · obtain ⟨t, h2⟩ := hd
      rw [h1] at h2; cases h2
    · exact h
  · refine go (pe_ix ix_seq ha hb pl) ⟨μ, ρ, S, x, S1, w, re, e1, fun u H1 μ1 g1 w1 r1 => ⟨μ1, ρ, S1, y, _, w1, re.grow g1, e2, fun v H2 μ2 g2 w2 r2 => ?_⟩⟩
    rcases idxV_ok w2 e3 (RepV.grow g2 _ _ r1) r2 (q.grow (g1.trans g2)) with ⟨_, h⟩ | ⟨h1, h⟩
    · exact h
    · exact absurd h1 hd
end
end PI
set_option Elab.async false
set_option linter.all false
set_option maxRecDepth 100000
set_option maxHeartbeats 1000000
/-! PI7: slices, len, types, calls; join; targets; what a loop goes over; comprehensions. -/
namespace PI
open PySem PySem.Spec PyProof.Rows L2
section
variable {F : Mc} {C : Calls} {k : Nat} {s : Sc} {X : Cx}
variable {K : PySem.W.Frag} {H H' : Hp} {μ μ' : Ad} {S : Store} {v w : V}

/-! ### slices -/
theorem RepVs.take : ∀ {xs : List Val} {ys : List V} (n : Nat), RepVs K H μ xs ys → RepVs K H μ (xs.take n) (ys.take n)
  | xs, ys, 0, r => by simp [repVs_nil]
  | [], ys, n + 1, r => by rw [repVs_nil.mp r]; simp [repVs_nil]
  | x :: xs, ys, n + 1, r => by
    obtain ⟨w, r', rfl, q, t⟩ := repVs_cons.mp r
    exact repVs_cons.mpr ⟨w, _, rfl, q, RepVs.take n t⟩
theorem RepVs.drop : ∀ {xs : List Val} {ys : List V} (n : Nat), RepVs K H μ xs ys → RepVs K H μ (xs.drop n) (ys.drop n)
  | xs, ys, 0, r => r
  | [], ys, n + 1, r => by rw [repVs_nil.mp r]; simp [repVs_nil]
  | x :: xs, ys, n + 1, r => by
    obtain ⟨w, r', rfl, q, t⟩ := repVs_cons.mp r
    exact RepVs.drop n t
theorem RepVs.cut {xs : List Val} {ys : List V} (r : RepVs K H μ xs ys) (lo hi : Option Int) : RepVs K H μ (PI.cut xs lo hi) (cutV ys lo hi) := by
  unfold PI.cut cutV
  rw [r.length]
  exact (r.drop _).take _
theorem cut_map {α β : Type} (f : α → β) (xs : List α) (lo hi : Option Int) : PI.cut (xs.map f) lo hi = (PI.cut xs lo hi).map f := by
  unfold PI.cut
  rw [List.length_map, List.map_take, List.map_drop]
theorem cut_mem {α : Type} {xs : List α} {lo hi : Option Int} {x : α} (h : x ∈ PI.cut xs lo hi) : x ∈ xs := by
  unfold PI.cut at h
  exact List.mem_of_mem_drop (List.mem_of_mem_take h)
theorem cut_whole {α : Type} {xs : List α} {lo hi : Option Int} (h1 : HT.sIx xs.length 0 lo = 0) (h2 : HT.sIx xs.length xs.length hi = xs.length) : PI.cut xs lo hi = xs := by
  unfold PI.cut
  rw [h1, h2]
  simp
/-- t[lo:hi] -/
def rSlX (K : PySem.W.Frag) : V → Option Int → Option Int → Hp → VK → Prop := fun x lo hi H Q => ∃ a xs, x = .ref a ∧ SqT K H a xs ∧
  (HT.sIx xs.length 0 lo = 0 ∧ HT.sIx xs.length xs.length hi = xs.length → Q (.ref a) H) ∧ (¬ (HT.sIx xs.length 0 lo = 0 ∧ HT.sIx xs.length xs.length hi = xs.length) → NewT H (cutV xs lo hi) Q)
theorem sl_tupX : SlR X (rSlX X.K) := by
  intro pins s σ H x v vl vu lo hi sl Q I rx hs pl pu ⟨a, xs, hx, ht, whole, part⟩
  subst hx
  cases rx
  obtain ⟨us, r, tu, zu⟩ := I.tuple ht
  have su : us.toArray.size = xs.length := by rw [List.size_toArray, r.length]
  refine ⟨"tuple", _, PyProof.Rows.slot_tuple_getitem.lookup, tu.typeIs, ?_⟩
  by_cases h : HT.sIx xs.length 0 lo = 0 ∧ HT.sIx xs.length xs.length hi = xs.length
  · exact getItem_tuple_whole tu hs pl pu (by rw [su]; exact h) ⟨.ref a, H, I, rfl, whole h⟩
  · refine HT.getItem_tuple_cut tu hs pl pu (by rw [su]; exact h) ?_ (by rw [su]; exact zu)
    rw [su]
    exact laid_tup I ((r.drop _).take _) (Nat.le_trans (cutV_length xs lo hi) zu) (part h)
/-- tuple(xs) -/
theorem call_tupleX : CallR X (.type "tuple") (fun xs H Q => ∃ p ys, xs = [.ref p] ∧ ((SqL X.K H p ys ∧ NewT H ys Q) ∨ (SqT X.K H p ys ∧ Q (.ref p) H))) := by
  intro pins s σ H xs us Q I r ⟨p, ys, hxs, h⟩
  subst hxs
  obtain ⟨u, rfl, rx⟩ := vals1 r
  cases rx
  rcases h with ⟨hl, q⟩ | ⟨ht, q⟩
  · obtain ⟨ws, rw', pl, zl⟩ := I.list hl
    have lw := rw'.length
    refine call_tuple_list pl.isList (fun h' kp => ?_) (by simp only [List.size_toArray]; omega)
    exact laid_tup (I.kept (t' := s.toks) kp) rw' zl q
  · obtain ⟨ws, rw', pt, zt⟩ := I.tuple ht
    exact call_tuple_same pt ⟨.ref p, H, I, rfl, q⟩
def rSl (K : PySem.W.Frag) : V → Option Int → Option Int → Hp → VK → Prop := fun x lo hi H Q => (rSlL K x lo hi H Q ∨ rSlX K x lo hi H Q) ∨ rSlS x lo hi H Q
theorem rSl_ok : SlR X (rSl X.K) := (sl_list.or sl_tupX).or sl_str
theorem sliceV_ok {m : Bool} {x z : Val} {lo hi : Option Int} {S1 : Store} {Q : VK} (W : Wd K H μ S) (e : sliceV m x lo hi S = some (z, S1)) (rx : RepV K H μ x v) (h : Pu K H μ S1 z Q) : rSl K v lo hi H Q := by
  unfold sliceV at e
  split at e
  · rename_i xs
    cases e
    obtain ⟨a, ys, rfl, q, r⟩ := repD_tup.mp (repV_d.mp rx)
    refine .inl (.inr ⟨a, ys, rfl, q.t, fun ⟨h1, h2⟩ => ?_, fun hn p o ho hp => ?_⟩)
    · rw [r.length] at h1 h2
      refine h.here W (repV_d.mpr (repD_tup.mpr ⟨a, ys, rfl, q, ?_⟩))
      rw [cut_whole h1 h2]
      exact r
    · refine Pu.tup W h (xs := (PI.cut xs lo hi).map .d) ?_ (.inr ⟨_, rfl, rfl⟩) ho hp
      rw [← cut_map]
      exact (RepVs.ds.mpr r).cut lo hi
  · rename_i xs
    obtain ⟨a, ys, rfl, q, _, r⟩ := repD_lst.mp (repV_d.mp rx)
    refine .inl (.inl ⟨a, ys, rfl, SqL.of q, fun p hp => Pu.mkL W e h ?_ hp⟩)
    rw [← cut_map]
    exact (RepVs.ds.mpr r).cut lo hi
  · rename_i t
    split at e
    · cases e
      obtain ⟨rfl, o⟩ := repD_str.mp (repV_d.mp rx)
      refine .inr ⟨_, rfl, by rw [S'_length, ← lim_eq]; assumption, ?_⟩
      have : cutS (S' t) lo hi = S' (PI.cut t lo hi) := by
        unfold cutS PI.cut
        rw [S'_length, show (S' t).cps.toList = t by simp [S']]
        rfl
      rw [this]
      exact h.here W (repV_d.mpr (repD_str.mpr ⟨rfl, okT_sub o fun c m => cut_mem m⟩))
    · cases e
  · rename_i xs
    obtain ⟨a, ys, rfl, q, _, r⟩ := repV_vl.mp rx
    exact .inl (.inl ⟨a, ys, rfl, SqL.of q, fun p hp => Pu.mkL W e h (r.cut lo hi) hp⟩)
  · rename_i n
    obtain ⟨a, e1, rfl⟩ := repV_l.mp rx
    split at e
    · rename_i xs hS
      obtain ⟨b, e2, ys, q, r⟩ := W.at hS
      rw [e1] at e2; cases e2
      exact .inl (.inl ⟨a, ys, rfl, SqL.of q, fun p hp => Pu.mkL W e h (r.cut lo hi) hp⟩)
    · cases e
  · cases e
/-- a part of a slice -/
def tRo (K : PySem.W.Frag) (f : Env → Store → R Val) (pf : Val → Option (Option Int)) : TO := fun σ H Q => ∃ μ ρ S x S' o, Wd K H μ S ∧ RepE K H μ ρ σ ∧ f ρ S = some (x, S') ∧ pf x = some o ∧ ∀ H' μ', Grow μ H μ' H' → Wd K H' μ' S' → Q o H'
theorem PO.imp {e : Option Expr} {t t' : TO} (h : PO X e t) (f : ∀ σ H Q, t' σ H Q → t σ H Q) : PO X e t' := ⟨fun pins s σ H Q I q => h.run pins s σ H Q I (f _ _ _ q)⟩
theorem o_none : PO X none (tRo X.K (fun _ S => some (.d .non, S)) (partE .non)) := PO.imp po_none fun σ H Q ⟨μ, ρ, S, x, S', o, w, re, e, e2, q⟩ => by
  cases e
  cases e2
  exact q H μ Grow.refl w
/-- a part that is written: an int -/
theorem o_some {e : Expr} {b : E} {f : Env → Store → R Val} (h : PE X e (tR X.K f)) (hb : ∀ x o, partE b x = some o → ∃ i, x = .d (.int i) ∧ o = some i) : PO X (some e) (tRo X.K f (partE b)) := by
  refine PO.imp (po_some h) fun σ H Q ⟨μ, ρ, S, x, S', o, w, re, e, e2, q⟩ => ?_
  obtain ⟨i, rfl, rfl⟩ := hb x o e2
  exact ⟨μ, ρ, S, _, S', w, re, e, fun u H1 μ1 g1 w1 r1 => ⟨_, repD_int.mp (repV_d.mp r1), q H1 μ1 g1 w1⟩⟩
theorem e_slice {m : Bool} {a : Expr} {lo hi : Option Expr} {pos p2 : Pos} {fa fl fh : Env → Store → R Val} {pl ph : Val → Option (Option Int)} (ha : PE X a (tR X.K fa)) (hl : PO X lo (tRo X.K fl pl)) (hh : PO X hi (tRo X.K fh ph)) :
    PE X (.Subscript a (.Slice lo hi none p2) pos) (tR X.K fun ρ S => bnd (fa ρ S) fun x S => bnd (fl ρ S) fun l S => bnd (fh ρ S) fun h S => match pl l with
    | some l => match ph h with
      | some h => sliceV m x l h S
      | none => none
    | none => none) := by
  refine PE.imp (pe_slice rSl_ok ha hl hh) fun σ H Q ⟨μ, ρ, S, z, S', w, re, e, q⟩ => ?_
  obtain ⟨x, S1, e1, e⟩ := bnd_eq e
  obtain ⟨l, S2, e2, e⟩ := bnd_eq e
  obtain ⟨h, S3, e3, e⟩ := bnd_eq e
  split at e
  · rename_i lo hlo
    split at e
    · rename_i hi hhi
      refine ⟨μ, ρ, S, x, S1, w, re, e1, fun u H1 μ1 g1 w1 r1 => ?_⟩
      refine ⟨μ1, ρ, S1, l, S2, lo, w1, re.grow g1, e2, hlo, fun H2 μ2 g2 w2 => ?_⟩
      refine ⟨μ2, ρ, S2, h, S3, hi, w2, (re.grow g1).grow g2, e3, hhi, fun H3 μ3 g3 w3 => ?_⟩
      exact sliceV_ok w3 e (RepV.grow (g2.trans g3) _ _ r1) (q.grow ((g1.trans g2).trans g3))
    · cases e
  · cases e
theorem tCB1 {r : List V → Hp → VK → Prop} {f : Env → Store → R Val} {g : Val → Store → R Val} (hr : ∀ {H μ S x v z S1 Q}, Wd X.K H μ S → g x S = some (z, S1) → RepV X.K H μ x v → Pu X.K H μ S1 z Q → r [v] H Q) :
    ∀ σ H Q, tR X.K (fun ρ S => bnd (f ρ S) g) σ H Q → tCB r (tRs X.K fun ρ S => bnd (f ρ S) fun v S => bnd ((fun _ S => some ([], S) : Env → Store → R (List Val)) ρ S) fun vs S => some (v :: vs, S)) σ H Q := fun σ H Q ⟨μ, ρ, S, z, S', w, re, e, q⟩ => by
  obtain ⟨x, S1, e1, e⟩ := bnd_eq e
  refine ⟨μ, ρ, S, [x], S1, w, re, by simp only [e1, bnd_some], fun vs H1 μ1 g1 w1 r1 => ?_⟩
  obtain ⟨u, r', rfl, r2, r3⟩ := repVs_cons.mp r1
  rw [repVs_nil.mp r3]
  exact hr w1 e r2 (q.grow g1)
theorem no_star {pos : Pos} {env : PySem.Env} : (backTo pos (starEach [] env)).any (·.1) = false := rfl
theorem no_star1 {e : Expr} {pos : Pos} {env : PySem.Env} (h : notStar e = true) : (backTo pos (starEach [e] env)).any (·.1) = false := by
  rw [star_each h]; rfl
/-- a built-in function of one argument -/
theorem e_fn1 {x : PySem.Str} {id : String} {p pos : Pos} {e : Expr} {r : List V → Hp → VK → Prop} {f : Env → Store → R Val} {g : Val → Store → R Val} (c : Ctx F C k s X) (hc : CallR X (.builtin id) r) (hg : glB s.sc x = true) (hm : X.mg x = none) (hv : bootBuiltins x = some (.builtin id)) (ho : okNm x = true) (hn : notStar e = true)
    (he : PE X e (tR X.K f)) (hr : ∀ {H μ S x v z S1 Q}, Wd X.K H μ S → g x S = some (z, S1) → RepV X.K H μ x v → Pu X.K H μ S1 z Q → r [v] H Q) : PE X (.Call (.Name x p) [e] [] pos) (tR X.K fun ρ S => bnd (f ρ S) g) := by
  obtain ⟨o1, o2, o3⟩ := okNm_of ho
  exact PE.imp (pe_callB hc (c.gl hg) hm hv (a_cons he a_nil hn) o3 o1 (star_each hn) no_star) (tCB1 hr)
theorem e_ty1 {x : PySem.Str} {T : String} {p pos : Pos} {e : Expr} {r : List V → Hp → VK → Prop} {f : Env → Store → R Val} {g : Val → Store → R Val} (c : Ctx F C k s X) (hc : CallR X (.type T) r) (hg : glB s.sc x = true) (hm : X.mg x = none) (hv : bootBuiltins x = some (.type T)) (ho : okNm x = true) (hn : notStar e = true)
    (he : PE X e (tR X.K f)) (hr : ∀ {H μ S x v z S1 Q}, Wd X.K H μ S → g x S = some (z, S1) → RepV X.K H μ x v → Pu X.K H μ S1 z Q → r [v] H Q) : PE X (.Call (.Name x p) [e] [] pos) (tR X.K fun ρ S => bnd (f ρ S) g) := by
  obtain ⟨o1, o2, o3⟩ := okNm_of ho
  exact PE.imp (pe_callTy hc (c.gl hg) hm hv (a_cons he a_nil hn) o3 o1 (star_each hn) no_star) (tCB1 hr)
def rLen2 (K : PySem.W.Frag) : List V → Hp → VK → Prop := fun xs H Q => (∃ x n, xs = [x] ∧ LenV K x H n ∧ Q (.int n) H) ∨ ∃ a kvs, xs = [V.ref a] ∧ Rd H a (.dK kvs) ∧ Q (.int kvs.length) H
theorem lenV_ok {x : Val} {n : Nat} {Q : VK} (W : Wd K H μ S) (e : lenV x S = some n) (rx : RepV K H μ x v) (h : Q (.int n) H) : rLen2 K [v] H Q := by
  unfold lenV at e
  split at e
  · rename_i xs
    cases e
    obtain ⟨a, ys, rfl, q, r⟩ := repD_tup.mp (repV_d.mp rx)
    exact .inl ⟨_, _, rfl, .inr ⟨ys, q.t, r.length.symm⟩, h⟩
  · rename_i xs
    cases e
    obtain ⟨a, ys, rfl, q, _, r⟩ := repD_lst.mp (repV_d.mp rx)
    exact .inl ⟨_, _, rfl, .inl ⟨ys, SqL.of q, r.length.symm⟩, h⟩
  · rename_i t
    split at e
    · cases e
      obtain ⟨rfl, o⟩ := repD_str.mp (repV_d.mp rx)
      exact .inl ⟨_, _, rfl, ⟨by rw [S'_length, ← lim_eq]; assumption, by rw [S'_length]⟩, h⟩
    · cases e
  · rename_i ns
    cases e
    obtain ⟨a, rfl, q, _⟩ := repV_scr.mp rx
    exact .inl ⟨_, _, rfl, .inl ⟨_, q, by simp⟩, h⟩
  · rename_i kvs
    cases e
    obtain ⟨a, zs, rfl, q, _, r⟩ := repV_dct.mp rx
    exact .inr ⟨a, zs, rfl, q, by rw [r.length]; exact h⟩
  · rename_i xs
    cases e
    obtain ⟨a, ys, rfl, q, _, r⟩ := repV_vl.mp rx
    exact .inl ⟨_, _, rfl, .inl ⟨ys, SqL.of q, r.length.symm⟩, h⟩
  · rename_i n
    obtain ⟨a, e1, rfl⟩ := repV_l.mp rx
    split at e
    · rename_i xs hS
      cases e
      obtain ⟨b, e2, ys, q, r⟩ := W.at hS
      rw [e1] at e2; cases e2
      exact .inl ⟨_, _, rfl, .inl ⟨ys, SqL.of q, r.length.symm⟩, h⟩
    · rename_i kvs hS
      cases e
      obtain ⟨b, e2, zs, q, r⟩ := W.at hS
      rw [e1] at e2; cases e2
      exact .inr ⟨a, zs, rfl, .inl q, by rw [r.length]; exact h⟩
    · cases e
  · cases e
/-- len of a dict, locked or not -/
theorem call_lenR : CallR X (.builtin "len") (fun xs H Q => ∃ a kvs, xs = [V.ref a] ∧ Rd H a (.dK kvs) ∧ Q (.int kvs.length) H) := by
  intro pins st σ H xs us Q I r h
  obtain ⟨a, kvs, rfl, q, h⟩ := h
  obtain ⟨u, rfl, ru⟩ := vals1 r
  cases ru
  exact d_len I q fun t s' I' => ⟨.int kvs.length, H, I', ⟨t, rfl⟩, h⟩
theorem len_ok : CallR X (.builtin "len") (rLen2 X.K) := call_len.or call_lenR
theorem texts_map : ∀ {xs : List D} {ts : List T}, texts xs = some ts → xs = ts.map .str
  | [], ts, h => by simp [texts] at h; subst h; rfl
  | x :: xs, ts, h => by
    cases x with
    | str t =>
      simp only [texts, Option.map_eq_some_iff] at h
      obtain ⟨r, e, rfl⟩ := h
      rw [texts_map e]; rfl
    | _ => simp [texts] at h
theorem bools_map : ∀ {xs : List D} {bs : List Bool}, bools xs = some bs → xs = bs.map .bl
  | [], ts, h => by simp [bools] at h; subst h; rfl
  | x :: xs, ts, h => by
    cases x with
    | bl t =>
      simp only [bools, Option.map_eq_some_iff] at h
      obtain ⟨r, e, rfl⟩ := h
      rw [bools_map e]; rfl
    | _ => simp [bools] at h
theorem repDs_bl : ∀ {bs : List Bool} {ys : List V}, RepDs K H μ (bs.map .bl) ys → ys = bs.map .bl
  | [], ys, h => repDs_nil.mp h
  | b :: bs, ys, h => by
    obtain ⟨w, r, rfl, q, t⟩ := repDs_cons.mp (show RepDs K H μ (.bl b :: bs.map .bl) ys from h)
    rw [repD_bl.mp q, repDs_bl t]; rfl
theorem repDs_str : ∀ {ts : List T} {ys : List V}, RepDs K H μ (ts.map .str) ys → ys = (ts.map S').map .str ∧ ∀ t ∈ ts, okT t = true
  | [], ys, h => ⟨repDs_nil.mp h, by simp⟩
  | b :: bs, ys, h => by
    obtain ⟨w, r, rfl, q, t⟩ := repDs_cons.mp (show RepDs K H μ (.str b :: bs.map .str) ys from h)
    obtain ⟨h1, h2⟩ := repD_str.mp q
    obtain ⟨h3, h4⟩ := repDs_str t
    rw [h1, h3]
    exact ⟨rfl, fun t m => (List.mem_cons.mp m).elim (fun e => e ▸ h2) (h4 t)⟩
theorem seqV_ok {x : Val} {xs : List Val} (W : Wd K H μ S) (e : seqV x S = some xs) (rx : RepV K H μ x v) : ∃ a ys, v = .ref a ∧ RepVs K H μ xs ys ∧ (SqL K H a ys ∨ (SqT K H a ys ∧ (x = .vt xs ∨ ∃ ds, xs = ds.map .d ∧ x = .d (.tup ds)))) := by
  unfold seqV at e
  split at e
  · cases e
    obtain ⟨a, ys, rfl, q, r⟩ := repD_tup.mp (repV_d.mp rx)
    exact ⟨a, ys, rfl, RepVs.ds.mpr r, .inr ⟨q.t, .inr ⟨_, rfl, rfl⟩⟩⟩
  · cases e
    obtain ⟨a, ys, rfl, q, _, r⟩ := repD_lst.mp (repV_d.mp rx)
    exact ⟨a, ys, rfl, RepVs.ds.mpr r, .inl (SqL.of q)⟩
  · cases e
    obtain ⟨a, ys, rfl, q, _, r⟩ := repV_vl.mp rx
    exact ⟨a, ys, rfl, r, .inl (SqL.of q)⟩
  · cases e
    obtain ⟨a, ys, rfl, q, r⟩ := repV_vt.mp rx
    exact ⟨a, ys, rfl, r, .inr ⟨q, .inl rfl⟩⟩
  · rename_i n
    obtain ⟨a, e1, rfl⟩ := repV_l.mp rx
    split at e
    · rename_i xs hS
      cases e
      obtain ⟨b, e2, ys, q, r⟩ := W.at hS
      rw [e1] at e2; cases e2
      exact ⟨a, ys, rfl, r, .inl (SqL.of q)⟩
    · cases e
  · cases e
theorem b1_len {x z : Val} {S1 : Store} {Q : VK} (W : Wd K H μ S) (e : b1V .len x S = some (z, S1)) (rx : RepV K H μ x v) (h : Pu K H μ S1 z Q) : rLen2 K [v] H Q := by
  simp only [b1V] at e
  split at e
  · rename_i n e1
    cases e
    exact lenV_ok W e1 rx (h.here W (repV_d.mpr (repD_int.mpr rfl)))
  · cases e
theorem b1_int {x z : Val} {S1 : Store} {Q : VK} (W : Wd K H μ S) (e : b1V .int x S = some (z, S1)) (rx : RepV K H μ x v) (h : Pu K H μ S1 z Q) : (∃ i, [v] = [.int i] ∧ Q (.int i) H) ∨ ∃ k, [v] = [.bl k] ∧ Q (.int (if k then 1 else 0)) H := by
  simp only [b1V] at e
  split at e
  · cases e
    rw [repD_int.mp (repV_d.mp rx)]
    exact .inl ⟨_, rfl, h.here W (repV_d.mpr (repD_int.mpr rfl))⟩
  · cases e
    rw [repD_bl.mp (repV_d.mp rx)]
    exact .inr ⟨_, rfl, h.here W (repV_d.mpr (repD_int.mpr rfl))⟩
  · cases e
theorem b1_abs {x z : Val} {S1 : Store} {Q : VK} (W : Wd K H μ S) (e : b1V .abs x S = some (z, S1)) (rx : RepV K H μ x v) (h : Pu K H μ S1 z Q) : ∃ i, [v] = [.int i] ∧ Q (.int (if i < 0 then -i else i)) H := by
  simp only [b1V] at e
  split at e
  · cases e
    rw [repD_int.mp (repV_d.mp rx)]
    exact ⟨_, rfl, h.here W (repV_d.mpr (repD_int.mpr rfl))⟩
  · cases e
theorem listL_ok {x : Val} {xs : List Val} (W : Wd K H μ S) (e : listV x S = some xs) (rx : RepV K H μ x v) : ∃ a ys, v = .ref a ∧ RepVs K H μ xs ys ∧ SqL K H a ys := by
  unfold listV at e
  split at e
  · cases e
    obtain ⟨a, ys, rfl, q, _, r⟩ := repD_lst.mp (repV_d.mp rx)
    exact ⟨a, ys, rfl, RepVs.ds.mpr r, SqL.of q⟩
  · cases e
    obtain ⟨a, ys, rfl, q, _, r⟩ := repV_vl.mp rx
    exact ⟨a, ys, rfl, r, SqL.of q⟩
  · split at e
    · rename_i hS
      cases e
      obtain ⟨a, e1, rfl⟩ := repV_l.mp rx
      obtain ⟨b, e2, ys, q, r⟩ := W.at hS
      rw [e1] at e2; cases e2
      exact ⟨a, ys, rfl, r, SqL.of q⟩
    · cases e
  · cases e
theorem b1_tup {x z : Val} {S1 : Store} {Q : VK} (W : Wd K H μ S) (e : b1V .tup x S = some (z, S1)) (rx : RepV K H μ x v) (h : Pu K H μ S1 z Q) :
    ∃ p ys, [v] = [.ref p] ∧ ((SqL K H p ys ∧ NewT H ys Q) ∨ (SqT K H p ys ∧ Q (.ref p) H)) := by
  simp only [b1V] at e
  split at e
  · cases e
    obtain ⟨a, ys, rfl, q, _⟩ := repD_tup.mp (repV_d.mp rx)
    exact ⟨a, ys, rfl, .inr ⟨q.t, h.here W rx⟩⟩
  · cases e
    obtain ⟨a, ys, rfl, q, _⟩ := repV_vt.mp rx
    exact ⟨a, ys, rfl, .inr ⟨q, h.here W rx⟩⟩
  · split at e
    · rename_i vs hs
      obtain ⟨a, ys, rfl, r, q⟩ := listL_ok W hs rx
      exact ⟨a, ys, rfl, .inl ⟨q, fun l o ho hl => Pu.mkT W e h r ho hl⟩⟩
    · cases e
theorem keysV_ok {x : Val} {xs : List Val} (W : Wd K H μ S) (e : keysV x S = some xs) (rx : RepV K H μ x v) : ∃ a zs, v = .ref a ∧ Rd H a (.dK zs) ∧ RepVs K H μ xs (zs.map fun kv => kV kv.1) := by
  have go : ∀ {kvs : List (T × Val)} {zs : List (Key × V)}, RepK K H μ kvs zs → RepVs K H μ (kvs.map fun p => .d (.str p.1)) (zs.map fun kv => kV kv.1) := by
    intro kvs
    induction kvs with
    | nil => intro zs r; unfold RepK at r; subst r; exact repVs_nil.mpr rfl
    | cons p kvs ih =>
      intro zs r
      obtain ⟨j, y⟩ := p
      unfold RepK at r
      obtain ⟨w, r', rfl, o, _, r⟩ := r
      exact repVs_cons.mpr ⟨_, _, rfl, repV_d.mpr (repD_str.mpr ⟨rfl, o⟩), ih r⟩
  unfold keysV at e
  split at e
  · cases e
    obtain ⟨a, zs, rfl, q, _, r⟩ := repV_dct.mp rx
    exact ⟨a, zs, rfl, q, go r⟩
  · rename_i n
    split at e
    · rename_i kvs hS
      cases e
      obtain ⟨a, e1, rfl⟩ := repV_l.mp rx
      obtain ⟨b, e2, zs, q, r⟩ := W.at hS
      rw [e1] at e2; cases e2
      exact ⟨a, zs, rfl, .inl q, go r⟩
    · cases e
  · cases e
theorem b1_lst {m : Bool} {x z : Val} {S1 : Store} {Q : VK} (W : Wd K H μ S) (e : b1V (.lst m) x S = some (z, S1)) (rx : RepV K H μ x v) (h : Pu K H μ S1 z Q) :
    (∃ p ys, [v] = [.ref p] ∧ (SqL K H p ys ∨ SqT K H p ys) ∧ ∀ l, H l = none → Q (.ref l) (upd H l (.lst ys))) ∨
    ∃ (a : Addr) (kvs : List (Key × V)), [v] = [.ref a] ∧ Rd H a (.dK kvs) ∧ ∀ p, H p = none → Q (.ref p) (upd H p (.lst (kvs.map fun kv => kV kv.1))) := by
  simp only [b1V] at e
  split at e
  · rename_i vs hs
    obtain ⟨a, ys, rfl, r, q⟩ := seqV_ok W hs rx
    exact .inl ⟨a, ys, rfl, q.imp id (·.1), fun l hl => Pu.mkL W e h r hl⟩
  · split at e
    · rename_i vs hs
      obtain ⟨a, zs, rfl, q, r⟩ := keysV_ok W hs rx
      exact .inr ⟨a, zs, rfl, q, fun l hl => Pu.mkL W e h r hl⟩
    · cases e
theorem b1_all {x z : Val} {S1 : Store} {Q : VK} (W : Wd K H μ S) (e : b1V .all x S = some (z, S1)) (rx : RepV K H μ x v) (h : Pu K H μ S1 z Q) : rAll K [v] H Q := by
  simp only [b1V] at e
  split at e
  · simp only [Option.map_eq_some_iff] at e
    obtain ⟨bs, e1, e2⟩ := e
    cases e2
    have := bools_map e1
    subst this
    obtain ⟨a, ys, rfl, q, _, r⟩ := repD_lst.mp (repV_d.mp rx)
    have := repDs_bl r
    subst this
    exact ⟨a, bs, rfl, SqL.of q, h.here W (repV_d.mpr (repD_bl.mpr rfl))⟩
  · cases e
theorem b1_any {x z : Val} {S1 : Store} {Q : VK} (W : Wd K H μ S) (e : b1V .any x S = some (z, S1)) (rx : RepV K H μ x v) (h : Pu K H μ S1 z Q) : rAny K [v] H Q := by
  simp only [b1V] at e
  split at e
  · simp only [Option.map_eq_some_iff] at e
    obtain ⟨bs, e1, e2⟩ := e
    cases e2
    have := bools_map e1
    subst this
    obtain ⟨a, ys, rfl, q, _, r⟩ := repD_lst.mp (repV_d.mp rx)
    have := repDs_bl r
    subst this
    exact ⟨a, bs, rfl, SqL.of q, h.here W (repV_d.mpr (repD_bl.mpr rfl))⟩
  · cases e
/-- two arguments: min, max of ints -/
theorem e_fn2 {b : B2} {x : PySem.Str} {id : String} {p pos : Pos} {e e2 : Expr} {r : List V → Hp → VK → Prop} {f f2 : Env → Store → R Val} (c : Ctx F C k s X) (hc : CallR X (.builtin id) r) (hg : glB s.sc x = true) (hm : X.mg x = none) (hv : bootBuiltins x = some (.builtin id)) (ho : okNm x = true) (hn : notStar e = true) (hn2 : notStar e2 = true)
    (he : PE X e (tR X.K f)) (he2 : PE X e2 (tR X.K f2)) (hr : ∀ {i j : Int} {z : Val} {H Q}, b2V b (.d (.int i)) (.d (.int j)) = some z → (∀ v, RepV X.K H [] z v → Q v H) → r [.int i, .int j] H Q) :
    PE X (.Call (.Name x p) [e, e2] [] pos) (tR X.K fun ρ S => bnd (f ρ S) fun x S => bnd (f2 ρ S) fun y S => (b2V b x y).map fun v => (v, S)) := by
  obtain ⟨o1, o2, o3⟩ := okNm_of ho
  refine PE.imp (pe_callB hc (c.gl hg) hm hv (a_cons he (a_cons he2 a_nil hn2) hn) o3 o1 (star_each hn) (no_star1 hn2)) fun σ H Q ⟨μ, ρ, S, z, S', w, re, e, q⟩ => ?_
  obtain ⟨x, S1, e1, e⟩ := bnd_eq e
  obtain ⟨y, S2, e2, e⟩ := bnd_eq e
  simp only [Option.map_eq_some_iff] at e
  obtain ⟨z', e3, e4⟩ := e
  cases e4
  refine ⟨μ, ρ, S, [x, y], _, w, re, (show bnd (f ρ S) (fun v S => bnd (bnd (f2 ρ S) fun v S => bnd (some ([], S)) fun vs S => some (v :: vs, S)) fun vs S => some (v :: vs, S)) = _ by rw [e1]; show bnd (bnd (f2 ρ S1) _) _ = _; rw [e2]; rfl), fun vs H1 μ1 g1 w1 r1 => ?_⟩
  obtain ⟨u1, r', rfl, q1, r1⟩ := repVs_cons.mp r1
  obtain ⟨u2, r', rfl, q2, r1⟩ := repVs_cons.mp r1
  rw [repVs_nil.mp r1]
  unfold b2V at e3
  split at e3
  · split at e3
    · rw [repD_int.mp (repV_d.mp q1), repD_int.mp (repV_d.mp q2)]
      have hz : ∃ i, z = .d (.int i) := by cases b <;> (cases e3; exact ⟨_, rfl⟩)
      obtain ⟨i, rfl⟩ := hz
      exact hr e3 fun v rv => (q.grow g1).here w1 (repV_d.mpr (repD_int.mpr (repD_int.mp (repV_d.mp rv))))
    · cases e3
  · cases e3

theorem no_stars {es : List Expr} {pos : Pos} {env : PySem.Env} (h : es.all notStar = true) : (backTo pos (starEach es env)).any (·.1) = false := by
  induction es with
  | nil => rfl
  | cons e es ih =>
    have h2 := (Bool.and_eq_true_iff.mp (show (notStar e && es.all notStar) = true from h))
    rw [star_each h2.1]
    exact ih h2.2
/-! ### a def's call -/
theorem e_call {f : Nat} {m : Bool} {x : PySem.Str} {p pos : Pos} {es : List Expr} {fs : Env → Store → R (List Val)} (c : Ctx F C k s X) (hf : F.fns.lookup f = some x) (hg : glB s.sc x = true) (ho : okNm x = true) (ha : PA X es (tRs X.K fs)) (hs : es.all notStar = true) (hne : es ≠ []) :
    PE X (.Call (.Name x p) es [] pos) (tR X.K fun ρ S => bnd (fs ρ S) fun vs S => C f m vs S) := by
  obtain ⟨o1, o2, o3⟩ := okNm_of ho
  obtain ⟨fa, fd, ps, h1, h2, h3, h4⟩ := (c.fns f x hf).ex
  have fin : ∀ σ H Q, tR X.K (fun ρ S => bnd (fs ρ S) fun vs S => C f m vs S) σ H Q → tCall (spI X.K C f) [] E0 (tRs X.K fs) σ H Q := fun σ H Q ⟨μ, ρ, S, z, S', w, re, e, q⟩ => by
    obtain ⟨xs, S1, e1, e⟩ := bnd_eq e
    refine ⟨μ, ρ, S, xs, S1, w, re, e1, fun vs H1 μ1 g1 w1 r1 => ?_⟩
    show spI X.K C f (vs ++ []) H1 Q E0
    rw [List.append_nil]
    exact ⟨μ1, S1, xs, m, z, S', w1, r1, e, q.grow g1⟩
  cases es with
  | nil => exact absurd rfl hne
  | cons e es =>
    have hs2 := (Bool.and_eq_true_iff.mp (show (notStar e && es.all notStar) = true from hs))
    exact PE.imp (pe_call h3 c.room (c.gl hg) h1 h2 h4 .nil pass0 ha o1 (star_each hs2.1) (no_stars hs2.2)) fin
theorem e_call0 {f : Nat} {m : Bool} {x : PySem.Str} {p pos : Pos} (c : Ctx F C k s X) (hf : F.fns.lookup f = some x) (hg : glB s.sc x = true) (ho : okNm x = true) :
    PE X (.Call (.Name x p) [] [] pos) (tR X.K fun ρ S => C f m [] S) := by
  obtain ⟨o1, o2, o3⟩ := okNm_of ho
  obtain ⟨fa, fd, ps, h1, h2, h3, h4⟩ := (c.fns f x hf).ex
  refine PE.imp (pe_call0 h3 c.room (c.gl hg) h1 h2 h4 .nil pass0 o1) fun σ H Q ⟨μ, ρ, S, z, S', w, re, e, q⟩ => ?_
  exact ⟨μ, S, [], m, z, S', w, repVs_nil.mpr rfl, e, q⟩

/-! ### isinstance -/
def tyName : Ty → PySem.Str
  | .int => "int"
  | .str => "str"
  | .bool => "bool"
  | .tup => "tuple"
  | .lst => "list"
def tyN : Ty → String
  | .int => "int"
  | .str => "str"
  | .bool => "bool"
  | .tup => "tuple"
  | .lst => "list"
def dTy : D → String
  | .non => "NoneType"
  | .bl _ => "bool"
  | .int _ => "int"
  | .str _ => "str"
  | .tup _ => "tuple"
  | .lst _ => "list"
theorem RepD.tyx : ∀ {x : D} {v : V}, RepD K H μ x v → TyX K H v (.type (dTy x))
  | .non, v, r => by rw [repD_non.mp r]; exact .base .non
  | .bl b, v, r => by rw [repD_bl.mp r]; exact .base (.bl b)
  | .int b, v, r => by rw [repD_int.mp r]; exact .base (.int b)
  | .str b, v, r => by rw [(repD_str.mp r).1]; exact .base (.str _)
  | .tup xs, v, r => by
    obtain ⟨a, ys, rfl, q, _⟩ := repD_tup.mp r
    rcases q.t with (q | ⟨o, q⟩) | ⟨o, its, n, q, c, _⟩
    · exact .base (.tup q)
    · exact .fTuple q
    · exact .kTuple q c
  | .lst xs, v, r => by
    obtain ⟨a, ys, rfl, q, _⟩ := repD_lst.mp r
    exact .base (.lst q)
theorem kit_all (a : Ty) (x : D) : kitB (dTy x) (tyN a) = some (tyD x a) := by
  cases x <;> cases a <;> first | (simp only [dTy, tyN, tyD]; decide +kernel) | skip
theorem tyV_ok {x : Val} {t : Ty} {b : Bool} (W : Wd K H μ S) (e : tyV x S t = some b) (rx : RepV K H μ x v) : ∃ A : String, TyX K H v (.type A) ∧ ((A = "list" ∧ ∀ t b, tyV x S t = some b → b = (t == .lst)) ∨ ∃ d, x = .d d ∧ A = dTy d) := by
  unfold tyV at e
  split at e
  · exact ⟨_, RepD.tyx (repV_d.mp rx), .inr ⟨_, rfl, rfl⟩⟩
  · rename_i n
    obtain ⟨a, e1, rfl⟩ := repV_l.mp rx
    split at e
    · rename_i xs hS
      obtain ⟨c, e2, ys, q, r⟩ := W.at hS
      rw [e1] at e2; cases e2
      exact ⟨"list", .base (.lst q), .inl ⟨rfl, fun t b h => by simp only [tyV, hS] at h; cases h; rfl⟩⟩
    · cases e
  · cases e
theorem kit_list : ∀ a : Ty, kitB "list" (tyN a) = some (a == .lst) := by
  intro a
  cases a <;> decide +kernel
theorem tyVs_kit {x : Val} {A : String} (h : (A = "list" ∧ ∀ t b, tyV x S t = some b → b = (t == .lst)) ∨ ∃ d, x = .d d ∧ A = dTy d) : ∀ {ts : List Ty} {b : Bool}, tyVs x S ts = some b → PySem.W.kitAny K (.type A) (ts.map fun t => .type (tyN t)) = some b
  | [], b, e => by simp only [tyVs] at e; cases e; rfl
  | t :: ts, b, e => by
    simp only [tyVs] at e
    have key : ∀ b1, tyV x S t = some b1 → PySem.W.kitOne K (.type A) (.type (tyN t)) = some b1 := fun b1 h1 => by
      rcases h with ⟨rfl, h⟩ | ⟨d, rfl, rfl⟩
      · rw [h t b1 h1]; exact kit_ty (kit_list t)
      · simp only [tyV] at h1; cases h1; exact kit_ty (kit_all t d)
    split at e
    · rename_i h1
      cases e
      exact kitAny_cons (key _ h1) (fun z => nomatch z) fun _ => rfl
    · rename_i h1
      exact kitAny_cons (key _ h1) (fun _ => tyVs_kit h e) fun z => nomatch z
    · cases e
theorem tyVs_some {x : Val} : ∀ {ts : List Ty} {b : Bool}, ts ≠ [] → tyVs x S ts = some b → ∃ t b', tyV x S t = some b'
  | [], b, h, _ => absurd rfl h
  | t :: ts, b, _, e => by
    simp only [tyVs] at e
    split at e
    · exact ⟨t, _, by assumption⟩
    · exact ⟨t, _, by assumption⟩
    · cases e
theorem e_ty (c : Ctx F C k s X) (t : Ty) {p2 : Pos} (hg2 : glB s.sc (tyName t) = true) (hm2 : X.mg (tyName t) = none) : PE X (.Name (tyName t) p2) (tC (.ty (tyN t))) := by
  cases t with
  | int => exact pe_bltn (c.gl hg2) hm2 (u := .type "int") (by decide +kernel) rfl
  | str => exact pe_bltn (c.gl hg2) hm2 (u := .type "str") (by decide +kernel) rfl
  | bool => exact pe_bltn (c.gl hg2) hm2 (u := .type "bool") (by decide +kernel) rfl
  | tup => exact pe_bltn (c.gl hg2) hm2 (u := .type "tuple") (by decide +kernel) rfl
  | lst => exact pe_bltn (c.gl hg2) hm2 (u := .type "list") (by decide +kernel) rfl
theorem kit_one {K : PySem.W.Frag} {t u : Value} {b : Bool} (h : PySem.W.kitAny K t [u] = some b) : PySem.W.kitOne K t u = some b := by
  unfold PySem.W.kitAny at h
  split at h
  · cases h; assumption
  · unfold PySem.W.kitAny at h
    cases h; assumption
  · cases h
theorem tys_paired : ∀ ts : List Ty, Paired ClsV (ts.map fun t => V.ty (tyN t)) (ts.map fun t => Value.type (tyN t))
  | [] => .nil
  | t :: ts => .cons (.ty _) (tys_paired ts)
/-- isinstance(x, T) -/
theorem e_isi1 {p p2 pos : Pos} {e : Expr} {t : Ty} {f : Env → Store → R Val} (c : Ctx F C k s X) (hg : glB s.sc "isinstance" = true) (hm : X.mg "isinstance" = none) (hn : notStar e = true) (he : PE X e (tR X.K f))
    (hg2 : glB s.sc (tyName t) = true) (hm2 : X.mg (tyName t) = none) :
    PE X (.Call (.Name "isinstance" p) [e, .Name (tyName t) p2] [] pos) (tR X.K fun ρ S => bnd (f ρ S) fun x S => (tyVs x S [t]).map fun b => (.d (.bl b), S)) := by
  refine PE.imp (pe_callB call_isi (c.gl hg) hm (by decide +kernel) (pa_cons he (pa_cons (e_ty c t hg2 hm2) pa_nil rfl) (star_each hn)) (by decide) (by decide) (star_each hn) rfl) fun σ H Q ⟨μ, ρ, S, z, S', w, re, e, q⟩ => ?_
  obtain ⟨x, S1, e1, e⟩ := bnd_eq e
  simp only [Option.map_eq_some_iff] at e
  obtain ⟨b, e2, e3⟩ := e
  cases e3
  refine ⟨μ, ρ, S, x, _, w, re, e1, fun u H1 μ1 g1 w1 r1 => ?_⟩
  obtain ⟨t', b', h1⟩ := tyVs_some (List.cons_ne_nil _ _) e2
  obtain ⟨A, h2, h3⟩ := tyV_ok w1 h1 r1
  exact ⟨u, .ty (tyN t), .type A, .type (tyN t), b, rfl, .ty _, h2, kit_one (tyVs_kit h3 e2), (q.grow g1).here w1 (repV_d.mpr (repD_bl.mpr rfl))⟩
/-- the names of types -/
inductive TyNms (X : Cx) (s : Sc) : List Ty → List Expr → Prop
  | nil : TyNms X s [] []
  | cons {t : Ty} {ts : List Ty} {p : Pos} {es : List Expr} (hg : glB s.sc (tyName t) = true) (hm : X.mg (tyName t) = none) (r : TyNms X s ts es) : TyNms X s (t :: ts) (.Name (tyName t) p :: es)
theorem a_tys (c : Ctx F C k s X) : ∀ {ts : List Ty} {es : List Expr}, TyNms X s ts es → PA X es (fun σ H Q => Q (ts.map fun t => .ty (tyN t)) H)
  | _, _, .nil => PA.imp pa_nil fun _ _ _ h => h
  | _, _, .cons hg hm r => PA.imp (pa_cons (e_ty c _ hg hm) (a_tys c r) rfl) fun _ _ _ h => h
theorem e_isiT {p p2 pos : Pos} {e : Expr} {k2 : Nat} {ts : List Ty} {es : List Expr} {f : Env → Store → R Val} (c : Ctx F C k s X) (hg : glB s.sc "isinstance" = true) (hm : X.mg "isinstance" = none) (hn : notStar e = true) (he : PE X e (tR X.K f))
    (ht : TyNms X s ts es) (hl : ts.length ≤ 1000) (h0 : ts ≠ []) :
    PE X (.Call (.Name "isinstance" p) [e, .Tuple es k2 p2] [] pos) (tR X.K fun ρ S => bnd (f ρ S) fun x S => (tyVs x S ts).map fun b => (.d (.bl b), S)) := by
  refine PE.imp (pe_callB call_isiT (c.gl hg) hm (by decide +kernel) (pa_cons he (pa_cons (pe_tup (a_tys c ht)) pa_nil rfl) (star_each hn)) (by decide) (by decide) (star_each hn) rfl) fun σ H Q ⟨μ, ρ, S, z, S', w, re, e, q⟩ => ?_
  obtain ⟨x, S1, e1, e⟩ := bnd_eq e
  simp only [Option.map_eq_some_iff] at e
  obtain ⟨b, e2, e3⟩ := e
  cases e3
  refine ⟨μ, ρ, S, x, _, w, re, e1, fun u H1 μ1 g1 w1 r1 => ⟨by rw [List.length_map]; exact Nat.le_of_lt (small1000 hl), fun tp htp => ?_⟩⟩
  have g2 : Grow μ1 H1 μ1 (upd H1 tp (.tup (ts.map fun t => .ty (tyN t)))) := Grow.fresh htp
  have w2 := w1.fresh (o := .tup (ts.map fun t => .ty (tyN t))) htp
  have r2 := RepV.grow g2 _ _ r1
  obtain ⟨t', b', h1⟩ := tyVs_some h0 e2
  obtain ⟨A, h2, h3⟩ := tyV_ok w2 h1 r2
  refine ⟨u, tp, _, .type A, ts.map fun t => .type (tyN t), b, rfl, upd_same, tys_paired ts, h2, tyVs_kit h3 e2, (q.grow (g1.trans g2)).here w2 (repV_d.mpr (repD_bl.mpr rfl))⟩
end
end PI
set_option Elab.async false
set_option linter.all false
set_option maxRecDepth 100000
set_option maxHeartbeats 1000000
/-! PI8: join; targets; what a loop goes over; for, comprehensions. -/
namespace PI
open PySem PySem.Spec PyProof.Rows L2
section
variable {F : Mc} {C : Calls} {k : Nat} {s : Sc} {X : Cx}
variable {K : PySem.W.Frag} {H H' : Hp} {μ μ' : Ad} {S : Store} {v w : V}

/-! ### methods -/
def baseB : Expr → Bool
  | .Call (.Name _ _) [] [] _ => false
  | _ => true
theorem base_ok {o : Expr} {m : PySem.Str} {env : PySem.Env} (h : baseB o = true) : attributeBase o m env (eval o env) = eval o env := by
  unfold attributeBase
  split
  · cases h
  · rfl
theorem joinT_S' (a : T) : ∀ ts : List T, PySem.Str.join (S' a) (ts.map S') = S' (joinT a ts)
  | [] => rfl
  | [x] => rfl
  | x :: y :: r => by
    show S' x ++ S' a ++ PySem.Str.join (S' a) ((y :: r).map S') = S' (x ++ a ++ joinT a (y :: r))
    rw [joinT_S' a (y :: r), S'_append, S'_append]
theorem joinT_ok {a : T} (ha : okT a = true) : ∀ {ts : List T}, (∀ t ∈ ts, okT t = true) → okT (joinT a ts) = true
  | [], _ => rfl
  | [x], h => h x (by simp)
  | x :: y :: r, h => by
    show okT (x ++ a ++ joinT a (y :: r)) = true
    exact okT_append (okT_append (h x (by simp)) ha) (joinT_ok ha fun t m => h t (by simp at m ⊢; exact .inr m))
theorem e_join {o e : Expr} {apos pos : Pos} {fo fe : Env → Store → R Val} (ho : PE X o (tR X.K fo)) (he : PE X e (tR X.K fe)) (hb : baseB o = true) (hn : notStar e = true) (hl : (apos.endLine == pos.line) = true) :
    PE X (.Call (.Attribute o "join" apos) [e] [] pos) (tR X.K fun ρ S => bnd (fo ρ S) fun x S => bnd (fe ρ S) fun y S => match x with
    | .d (.str s) => match y with
      | .d (.lst xs) => match texts xs with
        | some ts => if (ts.map List.length).sum + ts.length * s.length ≤ lim then some (.d (.str (joinT s ts)), S) else none
        | none => none
      | .d (.tup xs) => match texts xs with
        | some ts => if (ts.map List.length).sum + ts.length * s.length ≤ lim then some (.d (.str (joinT s ts)), S) else none
        | none => none
      | _ => none
    | _ => none) := by
  refine PE.imp (pe_join ho he (star_each hn) (base_ok hb) hl) fun σ H Q ⟨μ, ρ, S, z, S', w, re, e, q⟩ => ?_
  obtain ⟨x, S1, e1, e⟩ := bnd_eq e
  obtain ⟨y, S2, e2, e⟩ := bnd_eq e
  obtain ⟨sx, rfl⟩ : ∃ sx, x = .d (.str sx) := by
    cases x with
    | d dx => cases dx with
      | str sx => exact ⟨_, rfl⟩
      | _ => cases e
    | _ => cases e
  simp only at e
  · refine ⟨μ, ρ, S, _, S1, w, re, e1, fun u H1 μ1 g1 w1 r1 => ?_⟩
    obtain ⟨hu, ok⟩ := repD_str.mp (repV_d.mp r1)
    refine ⟨⟨_, hu⟩, μ1, ρ, S1, y, S2, w1, re.grow g1, e2, fun t H2 μ2 g2 w2 r2 => ?_⟩
    have fin : ∀ {a : Addr} {ys : List V} {xs : List D} {ts : List T}, t = .ref a → (SqL X.K H2 a ys ∨ SqT X.K H2 a ys) → RepDs X.K H2 μ2 xs ys → texts xs = some ts →
        (if (ts.map List.length).sum + ts.length * sx.length ≤ lim then some (Val.d (.str (joinT sx ts)), S2) else none) = some (z, S') →
        ∃ a p, ∃ ys : List PySem.Str, u = .str a ∧ [t] = [.ref p] ∧ (SqL X.K H2 p (ys.map V.str) ∨ SqT X.K H2 p (ys.map V.str)) ∧ (ys.map (·.length)).sum + ys.length * a.length ≤ 16777216 ∧ Q (.str (Txt.join a ys)) H2 := fun {a ys xs ts} ht hs r ht2 e => by
      have := texts_map ht2
      subst this
      obtain ⟨hy, oks⟩ := repDs_str r
      subst hy
      split at e
      · rename_i hlim
        cases e
        refine ⟨_, a, ts.map PI.S', hu, by rw [ht], hs, ?_, ?_⟩
        · rw [List.map_map, List.length_map, S'_length]
          have : (ts.map ((fun x : PySem.Str => x.length) ∘ PI.S')) = ts.map List.length := List.map_congr_left fun t _ => S'_length t
          rw [this]
          exact hlim
        · have : Txt.join (PI.S' sx) (ts.map PI.S') = PI.S' (joinT sx ts) := by
            unfold Txt.join
            rw [StrLaws.glued_eq_join, joinT_S']
          rw [this]
          exact (q.grow (g1.trans g2)).here w2 (repV_d.mpr (repD_str.mpr ⟨rfl, joinT_ok ok oks⟩))
      · cases e
    split at e
    · rename_i xs
      obtain ⟨a, ys, ht, hq, _, r⟩ := repD_lst.mp (repV_d.mp r2)
      split at e
      · exact fin ht (.inl (SqL.of hq)) r (by assumption) e
      · cases e
    · rename_i xs
      obtain ⟨a, ys, ht, hq, r⟩ := repD_tup.mp (repV_d.mp r2)
      have hq := hq.t
      split at e
      · exact fin ht (.inr hq) r (by assumption) e
      · cases e
    · cases e

/-! ### targets -/
mutual
def Pat.ixs : Pat → List Nat
  | .nm i => [i]
  | .tp ps => Pat.ixss ps
def Pat.ixss : List Pat → List Nat
  | [] => []
  | p :: ps => Pat.ixs p ++ Pat.ixss ps
end
/-- all other slots are as they were -/
def Same (is : List Nat) (σ σ' : L2.St) : Prop := σ'.length = σ.length ∧ ∀ i : Nat, i ∉ is → σ'[i]? = σ[i]?
theorem Same.refl {is : List Nat} {σ : L2.St} : Same is σ σ := ⟨rfl, fun _ _ => rfl⟩
theorem Same.trans {is js : List Nat} {σ σ' σ2 : L2.St} (a : Same is σ σ') (b : Same js σ' σ2) : Same (is ++ js) σ σ2 := ⟨b.1.trans a.1, fun i h => by
  simp only [List.mem_append, not_or] at h
  exact (b.2 i h.2).trans (a.2 i h.1)⟩
theorem Same.set {i : Nat} {v : Option V} {σ : L2.St} : Same [i] σ (σ.set i v) := ⟨by simp, fun j h => by
  rw [List.getElem?_set_ne (fun e => h (by simp [e]))]⟩
theorem wipe_get {is : List Nat} {σ : L2.St} {i : Nat} : i ∉ is → (L2.wipe σ is)[i]? = σ[i]? := by
  induction is with
  | nil => intro _; rfl
  | cons v vs ih =>
    intro h
    simp only [List.mem_cons, not_or] at h
    unfold L2.wipe
    rw [List.getElem?_set_ne (Ne.symm h.1)]
    exact ih h.2
theorem wipe_in {is : List Nat} {σ : L2.St} {i : Nat} : i ∈ is → i < σ.length → (L2.wipe σ is)[i]? = some none := by
  induction is with
  | nil => intro h; cases h
  | cons v vs ih =>
    intro h hl
    unfold L2.wipe
    by_cases e : v = i
    · subst e
      rw [List.getElem?_set_self (by rw [L2.wipe_length]; exact hl)]
    · rw [List.getElem?_set_ne e]
      rcases List.mem_cons.mp h with h | h
      · exact absurd h.symm e
      · exact ih h hl
theorem Same.wipe {is js : List Nat} {σ σ' : L2.St} (h : Same is σ σ') (hs : ∀ i ∈ is, i ∈ js) : L2.wipe σ' js = L2.wipe σ js := by
  apply List.ext_getElem?
  intro i
  by_cases m : i ∈ js
  · by_cases hl : i < σ.length
    · rw [wipe_in m hl, wipe_in m (by rw [h.1]; exact hl)]
    · rw [List.getElem?_eq_none (by rw [L2.wipe_length, h.1]; omega), List.getElem?_eq_none (by rw [L2.wipe_length]; omega)]
  · rw [wipe_get m, wipe_get m]
    exact h.2 i fun q => m (hs i q)
def gP (K : PySem.W.Frag) (p : Pat) : TG := fun v σ H Q => ∃ μ ρ S x ρ', Wd K H μ S ∧ RepE K H μ ρ σ ∧ RepV K H μ x v ∧ bindP p x ρ = some ρ' ∧ ∀ σ', Same p.ixs σ σ' → RepE K H μ ρ' σ' → Q σ' H
def gPs (K : PySem.W.Frag) (ps : List Pat) : TGs := fun vs σ H Q => ∃ μ ρ S xs ρ', Wd K H μ S ∧ RepE K H μ ρ σ ∧ RepVs K H μ xs vs ∧ bindPs ps xs ρ = some ρ' ∧ ∀ σ', Same (Pat.ixss ps) σ σ' → RepE K H μ ρ' σ' → Q σ' H
theorem PG.imp {e : Expr} {t t' : TG} (h : PG X e t) (f : ∀ v σ H Q, t' v σ H Q → t v σ H Q) : PG X e t' := ⟨fun pins s σ H v u Q I r q => h.run pins s σ H v u Q I r (f _ _ _ _ q)⟩
theorem PGs.imp {e : List Expr} {t t' : TGs} (h : PGs X e t) (f : ∀ v σ H Q, t' v σ H Q → t v σ H Q) : PGs X e t' := ⟨fun pins s σ H v u Q I r q => h.run pins s σ H v u Q I r (f _ _ _ _ q)⟩
theorem assign_each {e : Expr} {es : List Expr} {env : PySem.Env} (h : notStar e = true) : assignEach (e :: es) env = (false, assign e env) :: assignEach es env := by
  cases e with
  | Starred => cases h
  | _ => rfl
mutual
/-- a target, as it is written -/
def mP (F : Mc) (s : Sc) : Pat → Expr → Bool
  | .nm i, e => match e with
    | .Name x _ => (F.N[i]? == some x) && stoB s.st x
    | _ => false
  | .tp ps, e => match e with
    | .Tuple es _ _ => mPs F s ps es
    | _ => false
def mPs (F : Mc) (s : Sc) : List Pat → List Expr → Bool
  | [], es => match es with
    | [] => true
    | _ :: _ => false
  | p :: ps, es => match es with
    | [] => false
    | e :: es => mP F s p e && mPs F s ps es
end
theorem mP_star {p : Pat} {e : Expr} (h : mP F s p e = true) : notStar e = true := by
  cases p <;> cases e <;> first | rfl | (simp [mP] at h)
theorem mPs_star : ∀ {ps : List Pat} {es : List Expr} {env : PySem.Env}, mPs F s ps es = true → (assignEach es env).length = ps.length ∧ (assignEach es env).findIdx? (·.1) = none
  | [], [], env, _ => ⟨rfl, rfl⟩
  | [], _ :: _, env, h => by simp [mPs] at h
  | _ :: _, [], env, h => by simp [mPs] at h
  | p :: ps, e :: es, env, h => by
    simp only [mPs, Bool.and_eq_true] at h
    rw [assign_each (mP_star h.1)]
    obtain ⟨h1, h2⟩ := mPs_star (env := env) h.2
    refine ⟨by simp [h1], ?_⟩
    rw [List.findIdx?_cons]
    simp [h2]
theorem bindPs_len : ∀ {ps : List Pat} {xs : List Val} {ρ ρ' : Env}, bindPs ps xs ρ = some ρ' → xs.length = ps.length
  | [], [], _, _, _ => rfl
  | [], _ :: _, _, _, h => by simp [bindPs] at h
  | _ :: _, [], _, _, h => by simp [bindPs] at h
  | p :: ps, x :: xs, ρ, ρ', h => by
    simp only [bindPs] at h
    split at h
    · simp [bindPs_len h]
    · cases h
mutual
theorem p_ok (c : Ctx F C k s X) : ∀ (p : Pat) (e : Expr), mP F s p e = true → PG X e (gP X.K p)
  | .nm i, e, h => by
    cases e with
    | Name x pos =>
      simp only [mP, Bool.and_eq_true, beq_iff_eq] at h
      obtain ⟨h1, h2⟩ := c.sto x h.2
      refine PG.imp (pg_name c.nd (by rw [c.N]; exact h.1) h1 h2) fun v σ H Q ⟨μ, ρ, S, x, ρ', w, re, rx, e, q⟩ => ?_
      simp only [bindP] at e
      cases e
      exact q _ Same.set (re.set i rx)
    | _ => simp [mP] at h
  | .tp ps, e, h => by
    cases e with
    | Tuple es kk pos =>
      simp only [mP] at h
      obtain ⟨h1, h2⟩ := mPs_star (env := X.env) h
      refine PG.imp (pg_tup c.calm (ps_ok c ps es h) h1 h2) fun v σ H Q ⟨μ, ρ, S, x, ρ', w, re, rx, e, q⟩ => ?_
      simp only [bindP] at e
      split at e
      · obtain ⟨a, ys, rfl, hq, r⟩ := repD_tup.mp (repV_d.mp rx)
        have hq := hq.t
        have r2 := RepVs.ds.mpr r
        exact ⟨a, ys, rfl, hq, by rw [r2.length]; exact bindPs_len e, μ, ρ, S, _, ρ', w, re, r2, e, q⟩
      · obtain ⟨a, ys, rfl, hq, r⟩ := repV_vt.mp rx
        exact ⟨a, ys, rfl, hq, by rw [r.length]; exact bindPs_len e, μ, ρ, S, _, ρ', w, re, r, e, q⟩
      · cases e
    | _ => simp [mP] at h
theorem ps_ok (c : Ctx F C k s X) : ∀ (ps : List Pat) (es : List Expr), mPs F s ps es = true → PGs X es (gPs X.K ps)
  | [], [], h => PGs.imp pgs_nil fun v σ H Q ⟨μ, ρ, S, x, ρ', w, re, rx, e, q⟩ => by
    have hl := bindPs_len e
    have : x = [] := List.eq_nil_of_length_eq_zero hl
    subst this
    simp only [bindPs] at e
    cases e
    exact ⟨repVs_nil.mp rx, q σ Same.refl re⟩
  | [], _ :: _, h => by simp [mPs] at h
  | _ :: _, [], h => by simp [mPs] at h
  | p :: ps, e :: es, h => by
    simp only [mPs, Bool.and_eq_true] at h
    refine PGs.imp (pgs_cons (p_ok c p e h.1) (ps_ok c ps es h.2) (by rw [assign_each (mP_star h.1)]; rfl)) fun v σ H Q ⟨μ, ρ, S, xs, ρ', w, re, rx, e, q⟩ => ?_
    cases xs with
    | nil => simp [bindPs] at e
    | cons x xs =>
      simp only [bindPs] at e
      split at e
      · rename_i ρ1 e1
        obtain ⟨u, r, rfl, q1, q2⟩ := repVs_cons.mp rx
        exact ⟨u, r, rfl, μ, ρ, S, x, ρ1, w, re, q1, e1, fun σ' sm re' => ⟨μ, ρ1, S, xs, ρ', w, re', q2, e, fun σ2 sm2 => q σ2 (sm.trans sm2)⟩⟩
      · cases e
end

/-! ### what a loop goes over -/
/-- the items come one by one -/
structure Yl (K : PySem.W.Frag) (μ : Ad) (H : Hp) (xs : List Val) (J : It) : Prop where
  ex : ∃ (n : Nat) (G : Hp → Prop) (Y : Nat → Hp → V → Hp → Prop), Walk J n G Y ∧ n = xs.length ∧ G H ∧ (∀ H2 μ2, Grow μ H μ2 H2 → G H2) ∧
    (∀ (i : Nat) (v : V) (H2 : Hp) (μ2 : Ad) (S2 : Store) (H3 : Hp), i < n → Grow μ H μ2 H2 → Wd K H2 μ2 S2 → Y i H2 v H3 → ∃ y, xs[i]? = some y ∧ Grow μ2 H2 μ2 H3 ∧ Wd K H3 μ2 S2 ∧ RepV K H3 μ2 y v) ∧
    ∀ (i : Nat) (v : V) (H2 H3 : Hp) (d : Addr) (o u : HO), H2 d = some u → Y i H2 v H3 → H3 d = some u ∧ Y i (upd H2 d o) v (upd H3 d o)
/-- a dict that is locked meanwhile -/
abbrev Lk := Option (Addr × Obj × List (Key × V))
def LkAt (X : Cx) (μ : Ad) (H1 H : Hp) : Lk → Prop
  | none => H = H1
  | some (d, o, kvs) => H1 d = some (.dK kvs) ∧ d ∉ μ ∧ (∀ o' u', X.H_0 d ≠ some (.frz o' u')) ∧ H = upd H1 d (.frz o (.dK kvs))
def unL (H : Hp) : Lk → Hp
  | none => H
  | some (d, _, kvs) => upd H d (.dK kvs)
def tIt (X : Cx) (f : Env → Store → R (List Val)) (R' : Lk → It → Hp → Prop) : L2.St → Hp → Prop := fun σ H => ∃ μ ρ S xs S', Wd X.K H μ S ∧ RepE X.K H μ ρ σ ∧ f ρ S = some (xs, S') ∧
  ∀ J H1 μ1 H2 lk, Grow μ H μ1 H1 → Wd X.K H1 μ1 S' → LkAt X μ1 H1 H2 lk → Yl X.K μ1 H2 xs J → R' lk J H2
end
end PI
set_option Elab.async false
set_option linter.all false
set_option maxRecDepth 100000
set_option maxHeartbeats 1000000
/-! PI9: what a loop goes over. -/
namespace PI
open PySem PySem.Spec PyProof.Rows L2 RZ
section
variable {F : Mc} {C : Calls} {k : Nat} {s : Sc} {X : Cx}
variable {K : PySem.W.Frag} {H H' : Hp} {μ μ' : Ad} {S : Store} {v w : V}
/-- a loop's things, by their interpreter -/
def wI (X : Cx) (f : Env → Store → R (List Val)) : L2.TI := fun σ H R => ∃ μ ρ S xs S', Wd X.K H μ S ∧ RepE X.K H μ ρ σ ∧ f ρ S = some (xs, S') ∧
  ∀ J H1 μ1 H2 lk, Grow μ H μ1 H1 → Wd X.K H1 μ1 S' → LkAt X μ1 H1 H2 lk → Yl X.K μ1 H2 xs J → xs.length ≤ lim → R J H2
/-- no thing is too long -/
def Szd (K : PySem.W.Frag) (H : Hp) : Prop := (∀ a ys, SqL K H a ys → ys.length ≤ lim) ∧ (∀ a ys, SqT K H a ys → ys.length ≤ lim) ∧ (∀ a zs, Rd H a (.dK zs) → zs.length ≤ lim)
theorem szd_of {pins : List (Addr × Obj)} {σ : L2.St} {H : Hp} {s : Shared} (I : Inv X pins σ H s) : Szd X.K H :=
  ⟨fun a ys h => by obtain ⟨_, _, _, z⟩ := I.list h; rw [lim_eq]; exact z, fun a ys h => by obtain ⟨_, _, _, z⟩ := I.tuple h; rw [lim_eq]; exact z, fun a zs h => by
    obtain ⟨z, _⟩ := h.ok I.hok
    rw [lim_eq]; exact z⟩
theorem pi_szd {tg e : Expr} {t : L2.TI} (h : L2.PI X tg e t) : L2.PI X tg e (fun σ H R => t σ H fun J H1 => Szd X.K H1 → R J H1) := ⟨fun pins s σ H R I q =>
  thn (h.run pins s σ H _ I q) fun v s1 h1 => thn h1 fun itv s2 ⟨it, fp, tn, J, H2, e, I2, r⟩ => ⟨it, fp, tn, J, H2, e, I2, r.1, r.2.1, r.2.2.1, r.2.2.2 (szd_of I2)⟩⟩
theorem pe_szd {e : Expr} {t : TE} (h : PE X e t) : PE X e (fun σ H Q => t σ H fun v H1 => Szd X.K H1 → Q v H1) := ⟨fun pins s σ H Q I q =>
  thn (h.run pins s σ H _ I q) fun v s1 ⟨x, H1, I1, r, q⟩ => ⟨x, H1, I1, r, q (szd_of I1)⟩⟩
theorem pi_imp {tg e : Expr} {t t' : L2.TI} (h : L2.PI X tg e t) (f : ∀ σ H R, t' σ H R → t σ H R) : L2.PI X tg e t' := ⟨fun pins s σ H Q I q => h.run pins s σ H Q I (f _ _ _ q)⟩
theorem pi_or {tg e : Expr} {t t' : L2.TI} (h : L2.PI X tg e t) (h' : L2.PI X tg e t') : L2.PI X tg e (fun σ H Q => t σ H Q ∨ t' σ H Q) := ⟨fun pins s σ H Q I q => q.elim (h.run pins s σ H Q I) (h'.run pins s σ H Q I)⟩
theorem yl_list {a : Addr} {xs : List Val} {ys : List V} (hq : SqL K H a ys) (hs : ∀ H2 μ2, Grow μ H μ2 H2 → SqL K H2 a ys) (r : RepVs K H μ xs ys) : Yl K μ H xs (Itl K a) :=
  ⟨⟨_, _, _, walk_list (xs := ys), r.length, hq, hs, fun i v H2 μ2 S2 H3 hi g w y => by
    obtain ⟨rfl, y⟩ := y
    have hi2 : i < xs.length := by rw [← r.length]; exact hi
    obtain ⟨u, e1, e2⟩ := (RepVs.grow g _ _ r).get (List.getElem?_eq_getElem hi2)
    rw [y] at e1; cases e1
    exact ⟨_, List.getElem?_eq_getElem hi2, Grow.refl, w, e2⟩, fun i v H2 H3 d o u h y => by obtain ⟨rfl, y⟩ := y; exact ⟨h, rfl, y⟩⟩⟩
theorem yl_tup {a : Addr} {xs : List Val} {ys : List V} (hq : SqT K H a ys) (r : RepVs K H μ xs ys) : Yl K μ H xs (Itt K a) :=
  ⟨⟨_, _, _, walk_tup (xs := ys), r.length, hq, fun H2 μ2 g => g.toGr.sqT hq, fun i v H2 μ2 S2 H3 hi g w y => by
    obtain ⟨rfl, y⟩ := y
    have hi2 : i < xs.length := by rw [← r.length]; exact hi
    obtain ⟨u, e1, e2⟩ := (RepVs.grow g _ _ r).get (List.getElem?_eq_getElem hi2)
    rw [y] at e1; cases e1
    exact ⟨_, List.getElem?_eq_getElem hi2, Grow.refl, w, e2⟩, fun i v H2 H3 d o u h y => by obtain ⟨rfl, y⟩ := y; exact ⟨h, rfl, y⟩⟩⟩
theorem yl_rng {lo : Int} {n : Nat} : Yl K μ H (ranged lo n) (Itr lo n) :=
  ⟨⟨_, _, _, walk_range, by simp [ranged], trivial, fun _ _ _ => trivial, fun i v H2 μ2 S2 H3 hi g w y => by
    obtain ⟨rfl, rfl⟩ := y
    exact ⟨.d (.int (lo + i)), by simp [ranged, hi], Grow.refl, w, repV_d.mpr (repD_int.mpr rfl)⟩, fun i v H2 H3 d o u h y => by obtain ⟨rfl, y⟩ := y; exact ⟨h, rfl, y⟩⟩⟩
theorem yl_str {t : T} (o : okT t = true) : Yl K μ H (t.map fun c => .d (.str [c])) (Its (S' t)) :=
  ⟨⟨_, _, _, walk_str, by simp [S'], trivial, fun _ _ _ => trivial, fun i v H2 μ2 S2 H3 hi g w y => by
    obtain ⟨rfl, c, hc, rfl⟩ := y
    have hc2 : t[i]? = some c := by simpa [S'] using hc
    refine ⟨.d (.str [c]), by simp [hc2], Grow.refl, w, repV_d.mpr (repD_str.mpr ⟨rfl, okT_sub o fun d m => ?_⟩)⟩
    rw [List.mem_singleton.mp m]
    exact List.mem_of_getElem? hc2, fun i v H2 H3 d o u h y => by obtain ⟨rfl, y⟩ := y; exact ⟨h, rfl, y⟩⟩⟩
theorem i_rng1 {tg a : Expr} {p pos : Pos} {f : Env → Store → R Val} (c : Ctx F C k s X) (hg : glB s.sc "range" = true) (hm : X.mg "range" = none) (ha : PE X a (tR X.K f)) (hn : notStar a = true) : L2.PI X tg (.Call (.Name "range" p) [a] [] pos) (wI X fun ρ S => bnd (f ρ S) fun x S => match x with
    | .d (.int j) => if -(2 ^ 62) ≤ j ∧ j ≤ 16777216 then some (ranged 0 j.toNat, S) else none
    | _ => none) := by
  refine pi_imp (pi_szd <| pi_range1 (tg := tg) (c.gl hg) hm (a_cons ha a_nil hn) (star_each hn)) fun σ H R ⟨μ, ρ, S, xs, S', w, re, e, q⟩ => ?_
  obtain ⟨x, S1, e1, e⟩ := bnd_eq e
  split at e
  · split at e
    · rename_i hb
      cases e
      refine ⟨μ, ρ, S, [_], _, w, re, (show bnd (f ρ S) _ = _ by rw [e1]; rfl), fun vs H1 μ1 g1 w1 r1 => ?_⟩
      obtain ⟨u, r', rfl, r2, r3⟩ := repVs_cons.mp r1
      rw [repVs_nil.mp r3, repD_int.mp (repV_d.mp r2)]
      exact ⟨_, rfl, hb.1, by omega, fun z => q _ H1 μ1 H1 none g1 w1 rfl yl_rng (by simp only [ranged, List.length_map, List.length_range, lim]; omega)⟩
    · cases e
  · cases e
theorem i_rng2 {tg a b : Expr} {p pos : Pos} {f f2 : Env → Store → R Val} (c : Ctx F C k s X) (hg : glB s.sc "range" = true) (hm : X.mg "range" = none) (ha : PE X a (tR X.K f)) (hb : PE X b (tR X.K f2)) (hn : notStar a = true) (hn2 : notStar b = true) : L2.PI X tg (.Call (.Name "range" p) [a, b] [] pos) (wI X fun ρ S => bnd (f ρ S) fun x S => bnd (f2 ρ S) fun y S => match x with
    | .d (.int i) => match y with
      | .d (.int j) => if -(2 ^ 60) ≤ i ∧ i < 2 ^ 60 ∧ -(2 ^ 60) ≤ j ∧ j ≤ i + 16777216 then some (ranged i (j - i).toNat, S) else none
      | _ => none
    | _ => none) := by
  refine pi_imp (pi_szd <| pi_range2 (tg := tg) (c.gl hg) hm (a_cons ha (a_cons hb a_nil hn2) hn) (by rw [star_each hn, star_each hn2]; rfl) (star_each hn2)) fun σ H R ⟨μ, ρ, S, xs, S', w, re, e, q⟩ => ?_
  obtain ⟨x, S1, e1, e⟩ := bnd_eq e
  obtain ⟨y, S2, e2, e⟩ := bnd_eq e
  split at e
  · split at e
    · split at e
      · rename_i hb
        cases e
        refine ⟨μ, ρ, S, [_, _], _, w, re, (show bnd (f ρ S) (fun v S => bnd (bnd (f2 ρ S) fun v S => bnd (some ([], S)) fun vs S => some (v :: vs, S)) fun vs S => some (v :: vs, S)) = _ by rw [e1]; show bnd (bnd (f2 ρ S1) _) _ = _; rw [e2]; rfl), fun vs H1 μ1 g1 w1 r1 => ?_⟩
        obtain ⟨u, r', rfl, r2, r3⟩ := repVs_cons.mp r1
        obtain ⟨u', r', rfl, r4, r3⟩ := repVs_cons.mp r3
        rw [repVs_nil.mp r3, repD_int.mp (repV_d.mp r2), repD_int.mp (repV_d.mp r4)]
        exact ⟨_, _, rfl, by omega, fun z => q _ H1 μ1 H1 none g1 w1 rfl yl_rng (by simp only [ranged, List.length_map, List.length_range, lim]; omega)⟩
      · cases e
    · cases e
  · cases e
theorem zipD_get : ∀ {xs ys : List D} {i : Nat} {x y : D}, xs[i]? = some x → ys[i]? = some y → (zipD xs ys)[i]? = some (.vt [.d x, .d y])
  | [], _, i, x, y, h, _ => by simp at h
  | _ :: _, [], i, x, y, _, h => by simp at h
  | a :: xs, b :: ys, 0, x, y, h1, h2 => by
    simp at h1 h2; subst h1 h2
    simp [zipD]
  | a :: xs, b :: ys, i + 1, x, y, h1, h2 => by
    simp only [zipD, List.getElem?_cons_succ]
    exact zipD_get (by simpa using h1) (by simpa using h2)
theorem zipD_length : ∀ (xs ys : List D), (zipD xs ys).length = min xs.length ys.length
  | [], _ => by simp [zipD]
  | _ :: _, [] => by simp [zipD]
  | a :: xs, b :: ys => by simp [zipD, zipD_length xs ys]
/-- a new pair each turn -/
theorem yl_pair {J : It} {n : Nat} {G : Hp → Prop} {fx fy : Nat → Option V} {xs : List Val} (hw : Walk J n G (YPair fx fy)) (hn : n = xs.length) (hG : G H) (hst : ∀ H2 μ2, Grow μ H μ2 H2 → G H2)
    (hy : ∀ (i : Nat) (x y : V), i < n → fx i = some x → fy i = some y → ∃ a b, xs[i]? = some (.vt [a, b]) ∧ RepV K H μ a x ∧ RepV K H μ b y) : Yl K μ H xs J :=
  ⟨⟨n, G, _, hw, hn, hG, hst, fun i v H2 μ2 S2 H3 hi g w y => by
    obtain ⟨T, x, y, rfl, hT, rfl, e1, e2⟩ := y
    obtain ⟨a, b, h1, h2, h3⟩ := hy i x y hi e1 e2
    have g2 : Grow μ2 H2 μ2 (upd H2 T (.tup [x, y])) := Grow.fresh hT
    refine ⟨_, h1, g2, w.fresh hT, repV_vt.mpr ⟨T, [x, y], rfl, .inl (.inl upd_same), ?_⟩⟩
    exact repVs_cons.mpr ⟨_, _, rfl, RepV.grow (g.trans g2) _ _ h2, repVs_cons.mpr ⟨_, _, rfl, RepV.grow (g.trans g2) _ _ h3, repVs_nil.mpr rfl⟩⟩, fun i v H2 H3 d o u h y => by
    obtain ⟨T, x, y, rfl, hT, rfl, e1, e2⟩ := y
    have n : d ≠ T := ne_of_none h hT
    refine ⟨by rw [upd_ne n]; exact h, T, x, y, rfl, by rw [upd_ne (Ne.symm n)]; exact hT, ?_, e1, e2⟩
    funext b
    unfold upd
    by_cases h1 : b = d
    · subst h1; simp [n]
    · simp [h1]⟩⟩
theorem yl_zipT {a b : Addr} {xs ys : List D} {us ws : List V} (h1 : SqT K H a us) (h2 : SqT K H b ws) (r1 : RepDs K H μ xs us) (r2 : RepDs K H μ ys ws) : Yl K μ H (zipD xs ys) (ItzT K a b) := by
  have hw : Walk (ItzT K a b) (min us.length ws.length) (fun H => SqT K H a us ∧ SqT K H b ws) (YPair (fun i => us[i]?) (fun i => ws[i]?)) := by
    refine ⟨fun i _ hi q => ?_, fun _ q => ⟨us, ws, q.1, q.2, by omega⟩, fun i H v H' _ q y => ?_⟩
    · have h1 : i < us.length := by omega
      have h2 : i < ws.length := by omega
      exact ⟨us, ws, us[i], ws[i], q.1, q.2, by simp [h1], by simp [h2]⟩
    · obtain ⟨T, x, z, h1, h2, h3, h4, h5⟩ := y
      exact ⟨T, x, z, h1, h2, h3, h4 us q.1, h5 ws q.2⟩
  refine yl_pair hw (by rw [zipD_length, r1.length, r2.length]) ⟨h1, h2⟩ (fun H2 μ2 g => ⟨g.toGr.sqT h1, g.toGr.sqT h2⟩) fun i x y hi e1 e2 => ?_
  have i1 : i < xs.length := by rw [← r1.length]; omega
  have i2 : i < ys.length := by rw [← r2.length]; omega
  obtain ⟨u, q1, q2⟩ := r1.get (List.getElem?_eq_getElem i1)
  obtain ⟨w, q3, q4⟩ := r2.get (List.getElem?_eq_getElem i2)
  rw [q1] at e1; cases e1
  rw [q3] at e2; cases e2
  exact ⟨_, _, zipD_get (List.getElem?_eq_getElem i1) (List.getElem?_eq_getElem i2), repV_d.mpr q2, repV_d.mpr q4⟩
theorem yl_zipL {a b : Addr} {xs ys : List D} {us ws : List V} (h1 : H a = some (.lst us)) (h2 : H b = some (.lst ws)) (n1 : a ∉ μ) (n2 : b ∉ μ) (r1 : RepDs K H μ xs us) (r2 : RepDs K H μ ys ws) : Yl K μ H (zipD xs ys) (Itz K a b) := by
  refine yl_pair (walk_zip (xs := us) (ys := ws) rfl) (by rw [zipD_length, r1.length, r2.length]) ⟨SqL.of h1, SqL.of h2⟩ (fun H2 μ2 g => ⟨SqL.of (g.lst a us h1 n1), SqL.of (g.lst b ws h2 n2)⟩) fun i x y hi e1 e2 => ?_
  have i1 : i < xs.length := by rw [← r1.length]; omega
  have i2 : i < ys.length := by rw [← r2.length]; omega
  obtain ⟨u, q1, q2⟩ := r1.get (List.getElem?_eq_getElem i1)
  obtain ⟨w, q3, q4⟩ := r2.get (List.getElem?_eq_getElem i2)
  rw [q1] at e1; cases e1
  rw [q3] at e2; cases e2
  exact ⟨_, _, zipD_get (List.getElem?_eq_getElem i1) (List.getElem?_eq_getElem i2), repV_d.mpr q2, repV_d.mpr q4⟩
theorem i_zip {elts : List Expr} {kk : Nat} {tpos : Pos} {a b : Expr} {p pos : Pos} {f f2 : Env → Store → R Val} (c : Ctx F C k s X) (hg : glB s.sc "zip" = true) (hm : X.mg "zip" = none) (ha : PE X a (tR X.K f)) (hb : PE X b (tR X.K f2)) (hn : notStar a = true) (hn2 : notStar b = true) : L2.PI X (.Tuple elts kk tpos) (.Call (.Name "zip" p) [a, b] [] pos) (wI X fun ρ S => bnd (f ρ S) fun x S => bnd (f2 ρ S) fun y S => match x with
    | .d (.tup xs) => match y with
      | .d (.tup ys) => some (zipD xs ys, S)
      | _ => none
    | .d (.lst xs) => match y with
      | .d (.lst ys) => some (zipD xs ys, S)
      | _ => none
    | _ => none) := by
  refine pi_imp (pi_szd <| pi_zipA (c.gl hg) hm (a_cons ha (a_cons hb a_nil hn2) hn) (star_each hn) (no_star1 hn2)) fun σ H R ⟨μ, ρ, S, xs, S', w, re, e, q⟩ => ?_
  obtain ⟨x, S1, e1, e⟩ := bnd_eq e
  obtain ⟨y, S2, e2, e⟩ := bnd_eq e
  refine ⟨μ, ρ, S, [x, y], S2, w, re, (show bnd (f ρ S) (fun v S => bnd (bnd (f2 ρ S) fun v S => bnd (some ([], S)) fun vs S => some (v :: vs, S)) fun vs S => some (v :: vs, S)) = _ by rw [e1]; show bnd (bnd (f2 ρ S1) _) _ = _; rw [e2]; rfl), fun vs H1 μ1 g1 w1 r1 => ?_⟩
  obtain ⟨u, r', rfl, r2, r3⟩ := repVs_cons.mp r1
  obtain ⟨u', r', rfl, r4, r3⟩ := repVs_cons.mp r3
  rw [repVs_nil.mp r3]
  split at e
  · split at e
    · cases e
      obtain ⟨a, ys, rfl, q1, t1⟩ := repD_tup.mp (repV_d.mp r2)
      obtain ⟨b, zs, rfl, q2, t2⟩ := repD_tup.mp (repV_d.mp r4)
      have q1 := q1.t
      have q2 := q2.t
      exact ⟨a, b, ys, zs, rfl, .inr ⟨q1, q2, fun z => q _ H1 μ1 H1 none g1 w1 rfl (yl_zipT q1 q2 t1 t2) (by rw [zipD_length, ← t1.length]; exact Nat.le_trans (Nat.min_le_left _ _) (z.2.1 _ _ q1))⟩⟩
    · cases e
  · split at e
    · cases e
      obtain ⟨a, ys, rfl, q1, n1, t1⟩ := repD_lst.mp (repV_d.mp r2)
      obtain ⟨b, zs, rfl, q2, n2, t2⟩ := repD_lst.mp (repV_d.mp r4)
      exact ⟨a, b, ys, zs, rfl, .inl ⟨SqL.of q1, SqL.of q2, fun z => q _ H1 μ1 H1 none g1 w1 rfl (yl_zipL q1 q2 n1 n2 t1 t2) (by rw [zipD_length, ← t1.length]; exact Nat.le_trans (Nat.min_le_left _ _) (z.1 _ _ (SqL.of q1)))⟩⟩
    · cases e
  · cases e
theorem enumD_get : ∀ {n : Nat} {xs : List D} {i : Nat} {x : D}, xs[i]? = some x → (enumD n xs)[i]? = some (.vt [.d (.int ((n + i : Nat))), .d x])
  | _, [], i, x, h => by simp at h
  | n, a :: xs, 0, x, h1 => by
    simp at h1; subst h1
    simp [enumD]
  | n, a :: xs, i + 1, x, h1 => by
    simp only [enumD, List.getElem?_cons_succ]
    rw [enumD_get (by simpa using h1)]
    congr 5
    omega
theorem enumD_length : ∀ (n : Nat) (xs : List D), (enumD n xs).length = xs.length
  | _, [] => rfl
  | n, a :: xs => by simp [enumD, enumD_length (n + 1) xs]
theorem i_enum {elts : List Expr} {kk : Nat} {tpos : Pos} {a : Expr} {p pos : Pos} {f : Env → Store → R Val} (c : Ctx F C k s X) (hg : glB s.sc "enumerate" = true) (hm : X.mg "enumerate" = none) (ha : PE X a (tR X.K f)) (hn : notStar a = true) : L2.PI X (.Tuple elts kk tpos) (.Call (.Name "enumerate" p) [a] [] pos) (wI X fun ρ S => bnd (f ρ S) fun x S => match x with
    | .d (.lst xs) => some (enumD 0 xs, S)
    | _ => none) := by
  refine pi_imp (pi_szd <| pi_enum (c.gl hg) hm (a_cons ha a_nil hn) (star_each hn)) fun σ H R ⟨μ, ρ, S, xs, S', w, re, e, q⟩ => ?_
  obtain ⟨x, S1, e1, e⟩ := bnd_eq e
  refine ⟨μ, ρ, S, [x], S1, w, re, (show bnd (f ρ S) _ = _ by rw [e1]; rfl), fun vs H1 μ1 g1 w1 r1 => ?_⟩
  obtain ⟨u, r', rfl, r2, r3⟩ := repVs_cons.mp r1
  rw [repVs_nil.mp r3]
  split at e
  · rename_i ds
    cases e
    obtain ⟨a, ys, rfl, q1, n1, t1⟩ := repD_lst.mp (repV_d.mp r2)
    refine ⟨a, ys, rfl, SqL.of q1, fun z => q _ H1 μ1 H1 none g1 w1 rfl ?_ (by rw [enumD_length, ← t1.length]; exact z.1 _ _ (SqL.of q1))⟩
    refine yl_pair (walk_enum (xs := ys)) (by rw [enumD_length, t1.length]) (SqL.of q1) (fun H2 μ2 g => SqL.of (g.lst a ys q1 n1)) fun i x y hi e1 e2 => ?_
    have i1 : i < ds.length := by rw [← t1.length]; exact hi
    obtain ⟨w, q3, q4⟩ := t1.get (List.getElem?_eq_getElem i1)
    rw [q3] at e2; cases e2
    cases e1
    refine ⟨_, _, enumD_get (List.getElem?_eq_getElem i1), repV_d.mpr (repD_int.mpr ?_), repV_d.mpr q4⟩
    congr 1
    omega
  · cases e
/-- an expression's dict, locked behind it -/
theorem pe_locked {e : Expr} {t : TE} (h : PE X e t) : PE X e (fun σ H Q => t σ H fun v H1 => Q v H1 ∨ ∃ d u, v = .ref d ∧ H1 d = some u ∧ Mut (some u) ∧ ∀ o, (∀ o' u', X.H_0 d ≠ some (.frz o' u')) → Q v (upd H1 d (.frz o u))) := by
  refine ⟨fun pins st σ H Q I hw => ?_⟩
  refine thn (h.run pins st σ H _ I hw) fun v s1 ⟨x, H1, I1, r1, q⟩ => ?_
  rcases q with q | ⟨d, u, rfl, hd, mu, q⟩
  · exact ⟨x, H1, I1, r1, q⟩
  · obtain ⟨o, I2⟩ := I1.lock hd mu
    exact ⟨.ref d, _, I2, r1, q o (I1.nofrz hd mu)⟩
theorem RepK.kV : ∀ {kvs : List (T × Val)} {zs : List (Key × V)} {i : Nat} {k : T} {x : Val}, RepK K H μ kvs zs → kvs[i]? = some (k, x) → ∃ v, zs[i]? = some (.inr (S' k), v) ∧ okT k = true ∧ RepV K H μ x v
  | [], zs, i, k, x, r, h => by simp at h
  | (j, y) :: kvs, zs, i, k, x, r, h => by
    unfold RepK at r
    obtain ⟨w, r', rfl, o, q, r⟩ := r
    cases i with
    | zero =>
      simp at h
      obtain ⟨rfl, rfl⟩ := h
      exact ⟨w, by simp, o, q⟩
    | succ i =>
      obtain ⟨v, h1, h2⟩ := RepK.kV (i := i) r (by simpa using h)
      exact ⟨v, by simpa using h1, h2⟩
theorem yl_keys {d : Addr} {o : Obj} {zs : List (Key × V)} {kvs : List (T × Val)} (hd : H d = some (.frz o (.dK zs))) (r : RepK K H μ kvs zs) : Yl K μ H (kvs.map fun p => .d (.str p.1)) (Itk d o zs) :=
  ⟨⟨_, _, _, walk_keys, by rw [List.length_map, r.length], hd, fun H3 μ3 g => g.fdk d o zs hd, fun i v H2 μ2 S2 H3 hi g w y => by
    obtain ⟨rfl, k, v', hk, rfl⟩ := y
    have i1 : i < kvs.length := by rw [← r.length]; exact hi
    obtain ⟨p, hp⟩ : ∃ p, kvs[i]? = some p := ⟨_, List.getElem?_eq_getElem i1⟩
    obtain ⟨v2, q1, q2, q3⟩ := RepK.kV r (show kvs[i]? = some (p.1, p.2) from hp)
    rw [hk] at q1
    cases q1
    exact ⟨.d (.str p.1), by simp [hp], Grow.refl, w, repV_d.mpr (repD_str.mpr ⟨rfl, q2⟩)⟩, fun i v H2 H3 d o u h y => by obtain ⟨rfl, y⟩ := y; exact ⟨h, rfl, y⟩⟩⟩
theorem yl_vals {d : Addr} {o : Obj} {zs : List (Key × V)} {kvs : List (T × Val)} (hd : H d = some (.frz o (.dK zs))) (r : RepK K H μ kvs zs) : Yl K μ H (kvs.map (·.2)) (Itd d o zs) :=
  ⟨⟨_, _, _, walk_values, by rw [List.length_map, r.length], hd, fun H3 μ3 g => g.fdk d o zs hd, fun i v H2 μ2 S2 H3 hi g w y => by
    obtain ⟨rfl, k, hk⟩ := y
    have i1 : i < kvs.length := by rw [← r.length]; exact hi
    obtain ⟨p, hp⟩ : ∃ p, kvs[i]? = some p := ⟨_, List.getElem?_eq_getElem i1⟩
    obtain ⟨v2, q1, q2, q3⟩ := RepK.kV r (show kvs[i]? = some (p.1, p.2) from hp)
    rw [hk] at q1
    cases q1
    exact ⟨p.2, by simp [hp], Grow.refl, w, RepV.grow g _ _ q3⟩, fun i v H2 H3 d o u h y => by obtain ⟨rfl, y⟩ := y; exact ⟨h, rfl, y⟩⟩⟩
theorem i_seq {tg e : Expr} {f : Env → Store → R Val} (h : PE X e (tR X.K f)) : L2.PI X tg e (wI X fun ρ S => bnd (f ρ S) fun x S => match x with
    | .d (.tup xs) => some (xs.map .d, S)
    | .d (.lst xs) => some (xs.map .d, S)
    | .d (.str s) => if s.length ≤ lim then some (s.map fun c => .d (.str [c]), S) else none
    | .dct kvs => some (kvs.map fun p => .d (.str p.1), S)
    | _ => none) := by
  refine pi_imp (pi_szd <| pi_or (pi_tup (tg := tg) h) (pi_or (pi_list (tg := tg) h) (pi_or (pi_str (tg := tg) h) (pi_keys (tg := tg) (pe_locked h))))) fun σ H R ⟨μ, ρ, S, xs, S', w, re, e, q⟩ => ?_
  obtain ⟨x, S1, e1, e⟩ := bnd_eq e
  split at e
  · cases e
    refine .inl ⟨μ, ρ, S, _, _, w, re, e1, fun u H1 μ1 g1 w1 r1 => ?_⟩
    obtain ⟨a, ys, hu, hq, r⟩ := repD_tup.mp (repV_d.mp r1)
    have hq := hq.t
    exact ⟨a, hu, ⟨ys, hq⟩, fun z => q _ H1 μ1 H1 none g1 w1 rfl (yl_tup hq (RepVs.ds.mpr r)) (by rw [List.length_map, ← r.length]; exact z.2.1 _ _ hq)⟩
  · cases e
    refine .inr (.inl ⟨μ, ρ, S, _, _, w, re, e1, fun u H1 μ1 g1 w1 r1 => ?_⟩)
    obtain ⟨a, ys, hu, hq, hn, r⟩ := repD_lst.mp (repV_d.mp r1)
    exact ⟨a, hu, ⟨ys, SqL.of hq⟩, fun z => q _ H1 μ1 H1 none g1 w1 rfl (yl_list (SqL.of hq) (fun H2 μ2 g => SqL.of (g.lst a ys hq hn)) (RepVs.ds.mpr r)) (by rw [List.length_map, ← r.length]; exact z.1 _ _ (SqL.of hq))⟩
  · split at e
    · rename_i hz
      cases e
      refine .inr (.inr (.inl ⟨μ, ρ, S, _, _, w, re, e1, fun u H1 μ1 g1 w1 r1 => ?_⟩))
      obtain ⟨hu, o⟩ := repD_str.mp (repV_d.mp r1)
      exact ⟨_, hu, fun z => q _ H1 μ1 H1 none g1 w1 rfl (yl_str o) (by rw [List.length_map]; exact hz)⟩
    · cases e
  · rename_i kvs
    cases e
    refine .inr (.inr (.inr ⟨μ, ρ, S, _, _, w, re, e1, fun u H1 μ1 g1 w1 r1 => ?_⟩))
    obtain ⟨d, zs, rfl, hr, hn, r⟩ := repV_dct.mp r1
    rcases hr with hr | ⟨o, hr⟩
    · refine .inr ⟨d, _, rfl, hr, trivial, fun o h0 => ⟨d, o, rfl, .inl ⟨zs, upd_same, fun z => ?_⟩⟩⟩
      exact q _ H1 μ1 _ (some (d, o, zs)) g1 w1 ⟨hr, hn, h0, rfl⟩ (yl_keys upd_same (RepK.gr (Gr.lock hr) _ _ r)) (by rw [List.length_map, ← r.length]; exact z.2.2 d zs (.inr ⟨o, upd_same⟩))
    · exact .inl ⟨d, o, rfl, .inl ⟨zs, hr, fun z => q _ H1 μ1 H1 none g1 w1 rfl (yl_keys hr r) (by rw [List.length_map, ← r.length]; exact z.2.2 d zs (.inr ⟨o, hr⟩))⟩⟩
  · cases e
/-- d.values() -/
theorem i_vals {tg : Expr} {a : Expr} {apos pos : Pos} {f : Env → Store → R Val} (ha : PE X a (tR X.K f)) (hb : baseB a = true) (hl : (apos.endLine == pos.line) = true) : L2.PI X tg (.Call (.Attribute a "values" apos) [] [] pos) (wI X fun ρ S => bnd (f ρ S) fun x S => match x with
    | .dct kvs => some (kvs.map (·.2), S)
    | _ => none) := by
  refine pi_imp (pi_szd <| pi_values (pe_locked ha) (base_ok hb) hl) fun σ H R ⟨μ, ρ, S, xs, S', w, re, e, q⟩ => ?_
  obtain ⟨x, S1, e1, e⟩ := bnd_eq e
  refine ⟨μ, ρ, S, x, S1, w, re, e1, fun u H1 μ1 g1 w1 r1 => ?_⟩
  split at e
  · rename_i kvs
    cases e
    obtain ⟨d, zs, rfl, hr, hn, r⟩ := repV_dct.mp r1
    rcases hr with hr | ⟨o, hr⟩
    · refine .inr ⟨d, _, rfl, hr, trivial, fun o h0 => ⟨d, o, zs, rfl, upd_same, fun z => ?_⟩⟩
      exact q _ H1 μ1 _ (some (d, o, zs)) g1 w1 ⟨hr, hn, h0, rfl⟩ (yl_vals upd_same (RepK.gr (Gr.lock hr) _ _ r)) (by rw [List.length_map, ← r.length]; exact z.2.2 d zs (.inr ⟨o, upd_same⟩))
    · exact .inl ⟨d, o, zs, rfl, hr, fun z => q _ H1 μ1 H1 none g1 w1 rfl (yl_vals hr r) (by rw [List.length_map, ← r.length]; exact z.2.2 d zs (.inr ⟨o, hr⟩))⟩
  · cases e
/-- d.items() -/
theorem i_items {elts : List Expr} {kk : Nat} {tpos : Pos} {a : Expr} {apos pos : Pos} {f : Env → Store → R Val} (ha : PE X a (tR X.K f)) (hb : baseB a = true) (hl : (apos.endLine == pos.line) = true) : L2.PI X (.Tuple elts kk tpos) (.Call (.Attribute a "items" apos) [] [] pos) (wI X fun ρ S => bnd (f ρ S) fun x S => match x with
    | .dct kvs => some (itemsV kvs, S)
    | _ => none) := by
  refine pi_imp (pi_szd <| pi_items (pe_locked ha) (base_ok hb) hl) fun σ H R ⟨μ, ρ, S, xs, S', w, re, e, q⟩ => ?_
  obtain ⟨x, S1, e1, e⟩ := bnd_eq e
  refine ⟨μ, ρ, S, x, S1, w, re, e1, fun u H1 μ1 g1 w1 r1 => ?_⟩
  split at e
  · rename_i kvs
    cases e
    obtain ⟨d, zs, rfl, hr, hn, r⟩ := repV_dct.mp r1
    have l1 : (itemsV kvs).length = kvs.length := by simp [itemsV]
    have key : ∀ {H2 : Hp} {o : Obj}, H2 d = some (.frz o (.dK zs)) → RepK X.K H2 μ1 kvs zs → Yl X.K μ1 H2 (itemsV kvs) (Iti d o zs) := fun {H2 o} hd r => by
      refine yl_pair (walk_items (kvs := zs) (o := o)) (by rw [l1, r.length]) hd (fun H3 μ3 g => g.fdk d o zs hd) fun i x y hi e1 e2 => ?_
      have i1 : i < kvs.length := by rw [← r.length]; exact hi
      obtain ⟨p, hp⟩ : ∃ p, kvs[i]? = some p := ⟨_, List.getElem?_eq_getElem i1⟩
      obtain ⟨v, q1, q2, q3⟩ := RepK.kV r (show kvs[i]? = some (p.1, p.2) from hp)
      rw [q1] at e1 e2
      cases e1; cases e2
      exact ⟨.d (.str p.1), p.2, by simp [itemsV, hp], repV_d.mpr (repD_str.mpr ⟨rfl, q2⟩), q3⟩
    rcases hr with hr | ⟨o, hr⟩
    · refine .inr ⟨d, _, rfl, hr, trivial, fun o h0 => ⟨d, o, zs, rfl, upd_same, ?_⟩⟩
      exact fun z => q _ H1 μ1 _ (some (d, o, zs)) g1 w1 ⟨hr, hn, h0, rfl⟩ (key upd_same (RepK.gr (Gr.lock hr) _ _ r)) (by rw [l1, ← r.length]; exact z.2.2 d zs (.inr ⟨o, upd_same⟩))
    · exact .inl ⟨d, o, zs, rfl, hr, fun z => q _ H1 μ1 H1 none g1 w1 rfl (key hr r) (by rw [l1, ← r.length]; exact z.2.2 d zs (.inr ⟨o, hr⟩))⟩
  · cases e
end
end PI
set_option Elab.async false
set_option linter.all false
set_option maxRecDepth 100000
set_option maxHeartbeats 1000000
/-! PI10: statements: loops, branches. -/
namespace PI
open PySem PySem.Spec PyProof.Rows L2 RZ
section
variable {F : Mc} {C : Calls} {k : Nat} {s : Sc} {X : Cx}
variable {K : PySem.W.Frag} {H H' : Hp} {μ μ' : Ad} {S : Store} {v w : V}

/-! ### a lock taken off behind a statement, an expression -/
/-- q holds, or it holds when a lock is off -/
def Off (X : Cx) (q : Hp → Prop) (H : Hp) : Prop := q H ∨ ∃ d o u, H d = some (.frz o u) ∧ (∀ o' u', X.H_0 d ≠ some (.frz o' u')) ∧ q (upd H d u)
def offD (X : Cx) (D : Ends) : Ends := ⟨fun σ => Off X (D.nx σ), fun v => Off X (D.rt v), fun σ => Off X (D.bk σ), fun σ => Off X (D.ct σ)⟩
theorem Off.inv {pins : List (Addr × Obj)} {σ : L2.St} {H : Hp} {s : Shared} {q : Hp → Prop} (I : Inv X pins σ H s) (h : Off X q H) : ∃ H', Inv X pins σ H' s ∧ q H' := by
  rcases h with h | ⟨d, o, u, h1, h2, h3⟩
  · exact ⟨H, I, h⟩
  · exact ⟨_, I.unlock h1 h2, h3⟩
theorem ps_off {st : Stmt} {t : TS} (h : PS X st t) : PS X st (fun D σ H => t (offD X D) σ H) := by
  refine ⟨fun pins s σ H D I hw => thn (h.run pins s σ H (offD X D) I hw) fun f s1 q => ?_⟩
  cases f with
  | next => obtain ⟨σ', H', I', q⟩ := q; obtain ⟨H2, I2, q2⟩ := Off.inv I' q; exact ⟨σ', H2, I2, q2⟩
  | brk => obtain ⟨σ', H', I', q⟩ := q; obtain ⟨H2, I2, q2⟩ := Off.inv I' q; exact ⟨σ', H2, I2, q2⟩
  | cont => obtain ⟨σ', H', I', q⟩ := q; obtain ⟨H2, I2, q2⟩ := Off.inv I' q; exact ⟨σ', H2, I2, q2⟩
  | ret u => obtain ⟨v, σ', H', I', r, q⟩ := q; obtain ⟨H2, I2, q2⟩ := Off.inv I' q; exact ⟨v, σ', H2, I2, r, q2⟩
theorem pe_off {e : Expr} {t : TE} (h : PE X e t) : PE X e (fun σ H Q => t σ H fun v => Off X (Q v)) := by
  refine ⟨fun pins s σ H Q I hw => thn (h.run pins s σ H _ I hw) fun u s1 ⟨v, H1, I1, r, q⟩ => ?_⟩
  obtain ⟨H2, I2, q2⟩ := Off.inv I1 q
  exact ⟨v, H2, I2, r, q2⟩
/-- the store stands in a locked heap as well -/
theorem LkAt.wd {H1 H2 : Hp} {lk : Lk} (h : LkAt X μ H1 H2 lk) (w : Wd K H1 μ S) : Wd K H2 μ S ∧ Gr μ H1 μ H2 := by
  cases lk with
  | none => cases (show H2 = H1 from h); exact ⟨w, Gr.refl⟩
  | some p =>
    obtain ⟨d, o, kvs⟩ := p
    obtain ⟨h1, h2, h3, rfl⟩ := h
    have g : Gr μ H1 μ (upd H1 d (.frz o (.dK kvs))) := Gr.lock h1
    exact ⟨w.keep g fun a m => upd_ne fun e => h2 (e ▸ m), g⟩
/-- behind the loop: the lock comes off -/
theorem LkAt.off {H1 H2 H3 : Hp} {lk : Lk} {q : Hp → Prop} (h : LkAt X μ H1 H2 lk) (g : Grow μ H2 μ' H3) (w : Wd K H3 μ' S) (hq : ∀ H4, Grow μ H1 μ' H4 → Wd K H4 μ' S → Gr μ' H3 μ' H4 → (∀ a φ, H3 a = some (.ext φ) → H4 a = some (.ext φ)) → q H4) : Off X q H3 := by
  cases lk with
  | none => cases (show H2 = H1 from h); exact .inl (hq H3 g w Gr.refl fun _ _ e => e)
  | some p =>
    obtain ⟨d, o, kvs⟩ := p
    obtain ⟨h1, h2, h3, rfl⟩ := h
    obtain ⟨g1, g2, g3⟩ := Grow.locked h1 h2 g
    have gu : Gr μ' H3 μ' (upd H3 d (.dK kvs)) := Gr.unlock g1
    exact .inr ⟨d, o, _, g1, h3, hq _ g3 (w.keep gu fun a m => upd_ne fun e => g2 (e ▸ m)) gu fun a φ e => by rw [upd_ne (fun z => by subst z; rw [g1] at e; cases e)]; exact e⟩

/-! ### the reading of a statement -/
def PuF (K : PySem.W.Frag) (H : Hp) (μ : Ad) (fl : Fl) (D : Ends) : Prop := match fl with
  | .nx ρ S => ∀ σ' H' μ', Grow μ H μ' H' → Wd K H' μ' S → RepE K H' μ' ρ σ' → D.nx σ' H'
  | .ret v S => ∀ v' H' μ', Grow μ H μ' H' → Wd K H' μ' S → RepV K H' μ' v v' → D.rt v' H'
  | .brk ρ S => ∀ σ' H' μ', Grow μ H μ' H' → Wd K H' μ' S → RepE K H' μ' ρ σ' → D.bk σ' H'
  | .cnt ρ S => ∀ σ' H' μ', Grow μ H μ' H' → Wd K H' μ' S → RepE K H' μ' ρ σ' → D.ct σ' H'
def tS (K : PySem.W.Frag) (f : Env → Store → Option Fl) : TS := fun D σ H => ∃ μ ρ S fl, Wd K H μ S ∧ RepE K H μ ρ σ ∧ f ρ S = some fl ∧ PuF K H μ fl D
theorem PuF.grow {fl : Fl} {D : Ends} (g : Grow μ H μ' H') (h : PuF K H μ fl D) : PuF K H' μ' fl D := by
  cases fl with
  | nx ρ S => exact fun σ' H2 μ2 g2 => h σ' H2 μ2 (g.trans g2)
  | ret v S => exact fun σ' H2 μ2 g2 => h σ' H2 μ2 (g.trans g2)
  | brk ρ S => exact fun σ' H2 μ2 g2 => h σ' H2 μ2 (g.trans g2)
  | cnt ρ S => exact fun σ' H2 μ2 g2 => h σ' H2 μ2 (g.trans g2)
theorem PS.imp {st : Stmt} {t t' : TS} (h : PS X st t) (f : ∀ D σ H, t' D σ H → t D σ H) : PS X st t' := ⟨fun pins s σ H D I q => h.run pins s σ H D I (f _ _ _ q)⟩
theorem PSs.imp {st : List Stmt} {t t' : TS} (h : PSs X st t) (f : ∀ D σ H, t' D σ H → t D σ H) : PSs X st t' := ⟨fun pins s σ H D I q => h.run pins s σ H D I (f _ _ _ q)⟩

/-! ### for -/
theorem s_for {tg iter : Expr} {body : List Stmt} {pos : Pos} {p : Pat} {fi : Env → Store → R (List Val)} {fb : Env → Store → Option Fl} (c : Ctx F C k s X)
    (hi : L2.PI X tg iter (wI X fi)) (hg : PG X tg (gP X.K p)) (hb : PSs X body (tS X.K fb)) (hs : ∀ x, foldedSetIterable iter X.env x = pure x) :
    PS X (.For tg iter body [] pos) (tS X.K fun ρ S => bnd (fi ρ S) fun xs S => evFor (bindP p) fb xs ρ S) := by
  refine PS.imp (ps_off (ps_for c.pass c.calm hi hg hb hs)) fun D σ H ⟨μ, ρ, S, fl, w, re, e, q⟩ => ?_
  obtain ⟨xs, S1, e1, e⟩ := bnd_eq e
  refine ⟨μ, ρ, S, xs, S1, w, re, e1, fun J H1 μ1 H2 lk g1 w1 hlk yl _ => ?_⟩
  obtain ⟨n, G, Y, hw, hn, hG, hst, hy, _⟩ := yl.ex
  obtain ⟨w2, gl⟩ := hlk.wd w1
  refine for_it hw (fun i σ3 H3 => ∃ μ3 ρ3 S3, Grow μ1 H2 μ3 H3 ∧ Wd X.K H3 μ3 S3 ∧ RepE X.K H3 μ3 ρ3 σ3 ∧ evFor (bindP p) fb (xs.drop i) ρ3 S3 = some fl)
    ⟨μ1, ρ, S1, Grow.refl, w2, (re.grow g1).gr gl, by simpa using e⟩ (fun i σ3 H3 _ ⟨μ3, ρ3, S3, g3, _⟩ => hst H3 μ3 g3) ?_ ?_
  · rintro i x σ3 H3 H4 hi ⟨μ3, ρ3, S3, g3, w3, re3, e3⟩ hY
    obtain ⟨y, hxs, g4, w4, ry⟩ := hy i x H3 μ3 S3 H4 hi g3 w3 hY
    obtain ⟨hlt, hxy⟩ := List.getElem?_eq_some_iff.mp hxs
    rw [List.drop_eq_getElem_cons hlt, hxy] at e3
    simp only [evFor] at e3
    split at e3
    · rename_i ρ4 eb
      refine ⟨μ3, ρ3, S3, y, ρ4, w4, re3.grow g4, ry, eb, fun σ' _ re' => ?_⟩
      split at e3
      · rename_i ρ5 S5 ef
        refine ⟨μ3, ρ4, S3, _, w4, re', ef, fun σ6 H6 μ6 g6 w6 re6 => ⟨μ6, ρ5, S5, g3.trans (g4.trans g6), w6, re6, e3⟩⟩
      · rename_i ρ5 S5 ef
        refine ⟨μ3, ρ4, S3, _, w4, re', ef, fun σ6 H6 μ6 g6 w6 re6 => ⟨μ6, ρ5, S5, g3.trans (g4.trans g6), w6, re6, e3⟩⟩
      · rename_i ρ5 S5 ef
        cases e3
        refine ⟨μ3, ρ4, S3, _, w4, re', ef, fun σ6 H6 μ6 g6 w6 re6 => ?_⟩
        exact hlk.off (g3.trans (g4.trans g6)) w6 fun H7 g7 w7 gu _ => q σ6 H7 μ6 (g1.trans g7) w7 (re6.gr gu)
      · rename_i v5 S5 ef
        cases e3
        refine ⟨μ3, ρ4, S3, _, w4, re', ef, fun v6 H6 μ6 g6 w6 re6 => ?_⟩
        exact hlk.off (g3.trans (g4.trans g6)) w6 fun H7 g7 w7 gu _ => q v6 H7 μ6 (g1.trans g7) w7 (RepV.gr gu _ _ re6)
      · cases e3
    · cases e3
  · rintro σ3 H3 ⟨μ3, ρ3, S3, g3, w3, re3, e3⟩
    rw [hn, List.drop_length] at e3
    cases e3
    exact hlk.off g3 w3 fun H7 g7 w7 gu _ => q σ3 H7 μ3 (g1.trans g7) w7 (re3.gr gu)
theorem s_while {t : Expr} {body : List Stmt} {pos : Pos} {ft : Env → Store → R Val} {fb : Env → Store → Option Fl} (c : Ctx F C k s X)
    (ht : PT X t (tRb X.K ft)) (hb : PSs X body (tS X.K fb)) (n : Nat) :
    PS X (.While t body [] pos) (tS X.K (evWhile ft fb n)) := by
  refine PS.imp (ps_while c.pass ht hb) fun D σ H ⟨μ, ρ, S, fl, w, re, e, q⟩ => ?_
  refine ⟨fun m σ3 H3 => ∃ μ3 ρ3 S3, Grow μ H μ3 H3 ∧ Wd X.K H3 μ3 S3 ∧ RepE X.K H3 μ3 ρ3 σ3 ∧ evWhile ft fb m ρ3 S3 = some fl, ⟨n, μ, ρ, S, Grow.refl, w, re, e⟩, ?_⟩
  rintro m σ3 H3 ⟨μ3, ρ3, S3, g3, w3, re3, e3⟩
  cases m with
  | zero => simp [evWhile] at e3
  | succ m =>
    simp only [evWhile] at e3
    obtain ⟨b, S4, e4, e3⟩ := bnd_eq e3
    split at e3
    · refine ⟨μ3, ρ3, S3, true, S4, w3, re3, e4, fun H5 μ5 g5 w5 => iteT ?_⟩
      refine ⟨fun σ' H' => ∃ μ' ρ' S', Grow μ H μ' H' ∧ Wd X.K H' μ' S' ∧ RepE X.K H' μ' ρ' σ' ∧ evWhile ft fb m ρ' S' = some fl, fun σ' H' h => ⟨m, Nat.lt_succ_self m, h⟩, ?_⟩
      split at e3
      · rename_i ρ6 S6 e6
        exact ⟨μ5, ρ3, S4, _, w5, re3.grow g5, e6, fun σ7 H7 μ7 g7 w7 re7 => ⟨μ7, ρ6, S6, g3.trans (g5.trans g7), w7, re7, e3⟩⟩
      · rename_i ρ6 S6 e6
        exact ⟨μ5, ρ3, S4, _, w5, re3.grow g5, e6, fun σ7 H7 μ7 g7 w7 re7 => ⟨μ7, ρ6, S6, g3.trans (g5.trans g7), w7, re7, e3⟩⟩
      · rename_i ρ6 S6 e6
        cases e3
        exact ⟨μ5, ρ3, S4, _, w5, re3.grow g5, e6, fun σ7 H7 μ7 g7 w7 re7 => q σ7 H7 μ7 (g3.trans (g5.trans g7)) w7 re7⟩
      · rename_i v6 S6 e6
        cases e3
        exact ⟨μ5, ρ3, S4, _, w5, re3.grow g5, e6, fun σ7 H7 μ7 g7 w7 re7 => q σ7 H7 μ7 (g3.trans (g5.trans g7)) w7 re7⟩
      · cases e3
    · cases e3
      exact ⟨μ3, ρ3, S3, false, S4, w3, re3, e4, fun H5 μ5 g5 w5 => iteF (q σ3 H5 μ5 (g3.trans g5) w5 (re3.grow g5))⟩
    · cases e3
theorem s_if {t : Expr} {a b : List Stmt} {pos : Pos} {ft : Env → Store → R Val} {fa fb : Env → Store → Option Fl} (ht : PT X t (tRb X.K ft)) (ha : PSs X a (tS X.K fa)) (hb : PSs X b (tS X.K fb)) :
    PS X (.If t a b pos) (tS X.K fun ρ S => bnd (ft ρ S) fun x S => match x with
    | .d (.bl true) => fa ρ S
    | .d (.bl false) => fb ρ S
    | _ => none) := by
  refine PS.imp (ps_if ht ha hb) fun D σ H ⟨μ, ρ, S, fl, w, re, e, q⟩ => ?_
  obtain ⟨x, S1, e1, e⟩ := bnd_eq e
  split at e
  · exact ⟨μ, ρ, S, true, S1, w, re, e1, fun H1 μ1 g1 w1 => iteT ⟨μ1, ρ, S1, fl, w1, re.grow g1, e, q.grow g1⟩⟩
  · exact ⟨μ, ρ, S, false, S1, w, re, e1, fun H1 μ1 g1 w1 => iteF ⟨μ1, ρ, S1, fl, w1, re.grow g1, e, q.grow g1⟩⟩
  · cases e
theorem s_ret {e : Expr} {pos : Pos} {f : Env → Store → R Val} (h : PE X e (tR X.K f)) : PS X (.Return (some e) pos) (tS X.K fun ρ S => bnd (f ρ S) fun v S => some (.ret v S)) :=
  PS.imp (ps_ret h) fun D σ H ⟨μ, ρ, S, fl, w, re, e, q⟩ => by
    obtain ⟨x, S1, e1, e⟩ := bnd_eq e
    cases e
    exact ⟨μ, ρ, S, x, S1, w, re, e1, fun v H1 μ1 g1 w1 r1 => q v H1 μ1 g1 w1 r1⟩
theorem s_retN {pos : Pos} : PS X (.Return none pos) (tS X.K fun ρ S => bnd (some (Val.d .non, S)) fun v S => some (.ret v S)) :=
  PS.imp ps_retN fun D σ H ⟨μ, ρ, S, fl, w, re, e, q⟩ => by
    cases e
    exact q _ H μ Grow.refl w (repV_d.mpr (repD_non.mpr rfl))
theorem s_expr {e : Expr} {pos : Pos} {f : Env → Store → R Val} (h : PE X e (tR X.K f)) (hs : swapsWith e none pos.line X.env = pure false) : PS X (.Expr e pos) (tS X.K fun ρ S => bnd (f ρ S) fun _ S => some (.nx ρ S)) :=
  PS.imp (ps_expr h hs) fun D σ H ⟨μ, ρ, S, fl, w, re, e, q⟩ => by
    obtain ⟨x, S1, e1, e⟩ := bnd_eq e
    cases e
    exact ⟨μ, ρ, S, x, S1, w, re, e1, fun v H1 μ1 g1 w1 r1 => q σ H1 μ1 g1 w1 (re.grow g1)⟩
theorem s_asg {tg e : Expr} {pos : Pos} {p : Pat} {f : Env → Store → R Val} (h : PE X e (tR X.K f)) (hg : PG X tg (gP X.K p)) (hs : swapsWithSole [tg] e pos.line X.env = pure false) (hw : swappedStores [tg] e X.env = pure none) (hn : notStar tg = true) :
    PS X (.Assign [tg] e pos) (tS X.K fun ρ S => bnd (f ρ S) fun v S => (bindP p v ρ).map fun ρ => .nx ρ S) :=
  PS.imp (ps_asg h hg hs hw (by rw [assign_each hn]; rfl)) fun D σ H ⟨μ, ρ, S, fl, w, re, e, q⟩ => by
    obtain ⟨x, S1, e1, e⟩ := bnd_eq e
    simp only [Option.map_eq_some_iff] at e
    obtain ⟨ρ', e2, e3⟩ := e
    cases e3
    exact ⟨μ, ρ, S, x, S1, w, re, e1, fun v H1 μ1 g1 w1 r1 => ⟨μ1, ρ, S1, x, ρ', w1, re.grow g1, r1, e2, fun σ' _ re' => q σ' H1 μ1 g1 w1 re'⟩⟩
theorem ss_nil : PSs X [] (tS X.K fun ρ S => some (.nx ρ S)) :=
  PSs.imp pss_nil fun D σ H ⟨μ, ρ, S, fl, w, re, e, q⟩ => by
    cases e
    exact q σ H μ Grow.refl w re
theorem ss_cons {st : Stmt} {r : List Stmt} {f g : Env → Store → Option Fl} (h : PS X st (tS X.K f)) (h2 : PSs X r (tS X.K g)) : PSs X (st :: r) (tS X.K fun ρ S => match f ρ S with
    | some (.nx ρ S) => g ρ S
    | some (.ret v S) => some (.ret v S)
    | some (.brk ρ S) => some (.brk ρ S)
    | some (.cnt ρ S) => some (.cnt ρ S)
    | none => none) :=
  PSs.imp (pss_cons h h2) fun D σ H ⟨μ, ρ, S, fl, w, re, e, q⟩ => by
    dsimp only at e
    split at e
    · rename_i ρ1 S1 e1
      exact ⟨μ, ρ, S, _, w, re, e1, fun σ' H1 μ1 g1 w1 re1 => ⟨μ1, ρ1, S1, fl, w1, re1, e, q.grow g1⟩⟩
    · rename_i e1; cases e
      exact ⟨μ, ρ, S, _, w, re, e1, fun v' H1 μ1 g1 w1 re1 => q v' H1 μ1 g1 w1 re1⟩
    · rename_i e1; cases e
      exact ⟨μ, ρ, S, _, w, re, e1, fun v' H1 μ1 g1 w1 re1 => q v' H1 μ1 g1 w1 re1⟩
    · rename_i e1; cases e
      exact ⟨μ, ρ, S, _, w, re, e1, fun v' H1 μ1 g1 w1 re1 => q v' H1 μ1 g1 w1 re1⟩
    · cases e
theorem s_brk {pos : Pos} : PS X (.Break pos) (tS X.K fun ρ S => some (.brk ρ S)) :=
  PS.imp ps_break fun D σ H ⟨μ, ρ, S, fl, w, re, e, q⟩ => by
    cases e
    exact q σ H μ Grow.refl w re
theorem s_cnt {pos : Pos} : PS X (.Continue pos) (tS X.K fun ρ S => some (.cnt ρ S)) :=
  PS.imp ps_continue fun D σ H ⟨μ, ρ, S, fl, w, re, e, q⟩ => by
    cases e
    exact q σ H μ Grow.refl w re
theorem s_pass {pos : Pos} : PS X (.Pass pos) (tS X.K fun ρ S => some (.nx ρ S)) :=
  PS.imp ps_pass fun D σ H ⟨μ, ρ, S, fl, w, re, e, q⟩ => by
    cases e
    exact q σ H μ Grow.refl w re
theorem s_never {st : Stmt} : PS X st (tS X.K fun _ _ => none) := PS.imp ps_never fun D σ H ⟨μ, ρ, S, fl, w, re, e, q⟩ => by cases e
end
end PI
set_option Elab.async false
set_option linter.all false
set_option maxRecDepth 100000
set_option maxHeartbeats 1000000
/-! PI11: a thing in the making is hidden; list comprehensions, dict displays. -/
namespace PI
open PySem PySem.Spec PyProof.Rows L2 RZ
section
variable {F : Mc} {C : Calls} {k : Nat} {s : Sc} {X : Cx}
variable {K : PySem.W.Frag} {H H' : Hp} {μ μ' : Ad} {S : Store} {v w : V}

/-! ### hiding -/
def hid : HO → Bool
  | .lst _ => true
  | .dK _ => true
  | _ => false
theorem hid_in {pins : List (Addr × Obj)} {σ : L2.St} {H : Hp} {s : Shared} {d : Addr} {u : HO} (I : Inv X pins σ H s) (h : H d = some u) (hu : hid u = true) : ∃ φ : Heap → Prop, Inv X pins σ (upd H d (.ext φ)) s ∧
    ∀ (pins' : List (Addr × Obj)) (σ' : L2.St) (H' : Hp) (s' : Shared), Inv X pins' σ' H' s' → H' d = some (.ext φ) → Inv X pins' σ' (upd H' d u) s' := by
  have x := I.hok d u h
  have mu : Mut (H d) := by rw [h]; cases u <;> first | trivial | cases hu
  obtain ⟨od, e⟩ : ∃ od, s.heap.get? d = some od := by
    cases u with
    | lst xs => obtain ⟨_, _, _, _, e⟩ := x; exact ⟨_, e⟩
    | dK kvs => obtain ⟨_, _, _, _, o, _, _, e, _⟩ := x; exact ⟨o, e⟩
    | _ => cases hu
  refine ⟨fun h => h.get? d = some od, I.write (x := d) (e := d) (t' := s.toks) (h' := s.heap) mu (.inl rfl) (fun b v _ q => q) ⟨od, e⟩ ⟨e, ⟨od, e⟩, fun h1 h2 e1 q => q od e1⟩, fun pins' σ' H' s' I' h' => ?_⟩
  obtain ⟨e', _⟩ := I'.hok d _ h'
  refine I'.write (x := d) (e := d) (t' := s'.toks) (h' := s'.heap) (by rw [h']; trivial) (.inl rfl) (fun b v _ q => q) ⟨od, e'⟩ ?_
  cases u with
  | lst xs =>
    obtain ⟨z, its, n, r, e2⟩ := x
    refine ⟨z, its, n, r, ?_⟩
    rw [e] at e2
    rw [e', e2]
  | dK kvs =>
    obtain ⟨z, hs, vs, r, o, es, ep, e2, q⟩ := x
    rw [e] at e2
    cases e2
    exact ⟨z, hs, vs, r, _, es, ep, e', q⟩
  | _ => cases hu
theorem pe_hide {e : Expr} {t : TE} (h : PE X e t) : PE X e (fun σ H Q => ∃ d u, H d = some u ∧ hid u = true ∧ ∀ φ, t σ (upd H d (.ext φ)) fun v H' => H' d = some (.ext φ) ∧ Q v (upd H' d u)) := by
  refine ⟨fun pins s σ H Q I ⟨d, u, hd, hu, hw⟩ => ?_⟩
  obtain ⟨φ, I1, bk⟩ := hid_in I hd hu
  refine thn (h.run pins s σ _ _ I1 (hw φ)) fun v s1 ⟨x, H1, I2, r, e2, q⟩ => ?_
  exact ⟨x, _, bk _ _ _ _ I2 e2, r, q⟩
theorem pt_hide {e : Expr} {t : TT} (h : PT X e t) : PT X e (fun σ H Q => ∃ d u, H d = some u ∧ hid u = true ∧ ∀ φ, t σ (upd H d (.ext φ)) fun b H' => H' d = some (.ext φ) ∧ Q b (upd H' d u)) := by
  refine ⟨fun pins s σ H Q I ⟨d, u, hd, hu, hw⟩ => ?_⟩
  obtain ⟨φ, I1, bk⟩ := hid_in I hd hu
  refine thn (h.run pins s σ _ _ I1 (hw φ)) fun v s1 ⟨H1, I2, e2, q⟩ => ?_
  exact ⟨_, bk _ _ _ _ I2 e2, q⟩
theorem pg_hide {e : Expr} {t : TG} (h : PG X e t) : PG X e (fun v σ H Q => ∃ d u, H d = some u ∧ hid u = true ∧ ∀ φ, t v σ (upd H d (.ext φ)) fun σ' H' => H' d = some (.ext φ) ∧ Q σ' (upd H' d u)) := by
  refine ⟨fun pins s σ H v u0 Q I r ⟨d, u, hd, hu, hw⟩ => ?_⟩
  obtain ⟨φ, I1, bk⟩ := hid_in I hd hu
  refine thn (h.run pins s σ _ v u0 _ I1 r (hw φ)) fun _ s1 ⟨σ1, H1, I2, e2, q⟩ => ?_
  exact ⟨σ1, _, bk _ _ _ _ I2 e2, q⟩
theorem pi_hide {tg e : Expr} {t : L2.TI} (h : L2.PI X tg e t) : L2.PI X tg e (fun σ H R => t σ H R) := h

/-! ### the block of a comprehension -/
theorem lookup_map2 {f : PySem.Str × NameKind → PySem.Str × NameKind} (hf : ∀ p, (f p).1 = p.1) {x : PySem.Str} {kd : NameKind} : ∀ {ns : List (PySem.Str × NameKind)}, ns.lookup x = some kd → (ns.map f).lookup x = some (f (x, kd)).2
  | [], h => by cases h
  | (n, k') :: r, h => by
    rw [List.map_cons]
    have e1 : f (n, k') = (n, (f (n, k')).2) := Prod.ext (hf _) rfl
    rw [e1]
    cases e : x == n with
    | true =>
      rw [List.lookup_cons, e] at h ⊢
      have e' : x = n := by simpa using e
      subst e'
      cases h
      rfl
    | false =>
      rw [List.lookup_cons, e] at h ⊢
      exact lookup_map2 hf h
theorem relS_lookup {scope sc : Scope} {x : PySem.Str} {kd : NameKind} (h : scope.names.lookup x = some kd) : (relS scope sc).names.lookup x = some (if (kd == .free && sc.kind == .function && sc.names.lookup x == some .cell) then .cell else kd) := by
  have := lookup_map2 (f := fun p => if (p.2 == .free && sc.kind == .function && sc.names.lookup p.1 == some .cell) then (p.1, .cell) else (p.1, p.2)) (fun p => by split <;> rfl) h
  refine Eq.trans this ?_
  dsimp only
  split <;> rfl
theorem relS_lookup_local {scope sc : Scope} {x : PySem.Str} (h : scope.names.lookup x = some .local) : (relS scope sc).names.lookup x = some .local := by
  rw [relS_lookup h]; rfl
theorem relS_lookup_cell {scope sc : Scope} {x : PySem.Str} (h : scope.names.lookup x = some .cell) : (relS scope sc).names.lookup x = some .cell := by
  rw [relS_lookup h]; rfl
theorem Ctx.blk (c : Ctx F C k s X) (s0 : Shared) (H0 : Hp) (scope : Scope) (C0 : Addr) (cl : List (PySem.Str × Addr)) (fp : List Addr) : Ctx F C k ⟨relS scope s.sc, scope⟩ (X.blk s0 H0 scope (compEnvC scope cl C0 X.env) fp) where
  N := c.N
  nd := c.nd
  sc := by
    show relabel scope X.env = relS scope s.sc
    rw [← c.sc]
    rfl
  sto := fun x h => by
    unfold stoB at h
    show Loc (relabel scope X.env) x ∧ ((scope.names.lookup x == some .cell) = true ∨ (relabel scope X.env).names.lookup x = some .local)
    split at h
    · rename_i e
      have := relS_lookup_local (sc := X.env.scope) e
      exact ⟨.inl this, .inr this⟩
    · rename_i e
      have := relS_lookup_cell (sc := X.env.scope) e
      exact ⟨.inr this, .inl (by rw [e]; rfl)⟩
    · cases h
  calm := c.calm
  pass := PassesOwn.never
  room := c.room
  fns := fun f name h => ⟨(c.fns f name h).ex⟩
  blt := c.blt
  gls := c.gls
end
end PI
set_option Elab.async false
set_option linter.all false
set_option maxRecDepth 100000
set_option maxHeartbeats 1000000
/-! PI12: list comprehensions. -/
namespace PI
open PySem PySem.Spec PyProof.Rows L2 RZ
theorem upd_eq {H : Hp} {d : Addr} {u : HO} (h : H d = some u) : upd H d u = H := by
  funext b
  unfold upd
  split
  · rename_i e; rw [e]; exact h.symm
  · rfl
/-- a list in the making -/
structure Hs (K : PySem.W.Frag) (μ : Ad) (H0 : Hp) (d : Addr) (acc : List V) (vs : List Val) (H : Hp) (μ' : Ad) (S : Store) : Prop where
  none : H0 d = none
  at_ : H d = some (.lst acc)
  ex : ∃ φ, Grow μ H0 μ' (upd H d (.ext φ)) ∧ Wd K (upd H d (.ext φ)) μ' S ∧ RepVs K (upd H d (.ext φ)) μ' vs acc
section
variable {K : PySem.W.Frag} {H H' H0 H1 : Hp} {μ μ' μ2 : Ad} {S S' : Store} {d : Addr} {acc : List V} {vs : List Val}
theorem Hs.any (h : Hs K μ H0 d acc vs H μ' S) (φ : Heap → Prop) : Grow μ H0 μ' (upd H d (.ext φ)) ∧ Wd K (upd H d (.ext φ)) μ' S ∧ RepVs K (upd H d (.ext φ)) μ' vs acc := by
  obtain ⟨φ0, g, w, r⟩ := h.ex
  have e : upd H d (.ext φ) = upd (upd H d (.ext φ0)) d (.ext φ) := upd_upd.symm
  rw [e]
  exact ⟨g.since h.none, w.over upd_same, RepVs.gr (Gr.over upd_same) _ _ r⟩
theorem Hs.start (w : Wd K H0 μ S) (h : H0 d = Option.none) : Hs K μ H0 d [] [] (upd H0 d (.lst [])) μ S :=
  ⟨h, upd_same, fun _ => True, by rw [upd_upd]; exact Grow.fresh h, by rw [upd_upd]; exact w.fresh h, repVs_nil.mpr rfl⟩
/-- behind a hidden step -/
theorem Hs.step (h : Hs K μ H0 d acc vs H μ' S) {φ : Heap → Prop} (g : Grow μ' (upd H d (.ext φ)) μ2 H') (w : Wd K H' μ2 S') : Hs K μ H0 d acc vs (upd H' d (.lst acc)) μ2 S' := by
  obtain ⟨g0, w0, r0⟩ := h.any φ
  have e : H' d = some (.ext φ) := g.ext d φ upd_same
  have e2 : upd (upd H' d (.lst acc)) d (.ext φ) = H' := by rw [upd_upd, upd_eq e]
  exact ⟨h.none, upd_same, φ, by rw [e2]; exact g0.trans g, by rw [e2]; exact w, by rw [e2]; exact RepVs.grow g _ _ r0⟩
/-- one more -/
theorem Hs.push (h : Hs K μ H0 d acc vs H μ' S) {φ : Heap → Prop} {x : Val} {v : V} (g : Grow μ' (upd H d (.ext φ)) μ2 H') (w : Wd K H' μ2 S') (r : RepV K H' μ2 x v) :
    Hs K μ H0 d (acc ++ [v]) (vs ++ [x]) (upd H' d (.lst (acc ++ [v]))) μ2 S' := by
  obtain ⟨g0, w0, r0⟩ := h.any φ
  have e : H' d = some (.ext φ) := g.ext d φ upd_same
  have e2 : upd (upd H' d (.lst (acc ++ [v]))) d (.ext φ) = H' := by rw [upd_upd, upd_eq e]
  refine ⟨h.none, upd_same, φ, by rw [e2]; exact g0.trans g, by rw [e2]; exact w, ?_⟩
  rw [e2]
  exact (RepVs.grow g _ _ r0).append (repVs_cons.mpr ⟨v, [], rfl, r, repVs_nil.mpr rfl⟩)
theorem Hs.grow (h : Hs K μ H0 d acc vs H μ' S) : Grow μ H0 μ' H := by
  obtain ⟨g, w, r⟩ := h.any fun _ => True
  have := g.since (o := .lst acc) h.none
  rw [upd_upd, upd_eq h.at_] at this
  exact this
theorem Hs.fin {m : Bool} {z : Val} (h : Hs K μ H0 d acc vs H μ' S) (e : mkL m vs S = some (z, S')) : ∃ μ2, Grow μ H0 μ2 H ∧ Wd K H μ2 S' ∧ RepV K H μ2 z (.ref d) := by
  obtain ⟨g, w, r⟩ := h.any fun _ => True
  have hH : upd (upd H d (.ext fun _ => True)) d (.lst acc) = H := by rw [upd_upd, upd_eq h.at_]
  have gn : Grow μ H0 μ' H := by have := g.since (o := .lst acc) h.none; rw [hH] at this; exact this
  have wn : Wd K H μ' S := by have := w.over (o := .lst acc) upd_same; rw [hH] at this; exact this
  have rn : RepVs K H μ' vs acc := by have := RepVs.gr (Gr.over (μ := μ') (o := .lst acc) upd_same) _ _ r; rw [hH] at this; exact this
  have nd : d ∉ μ' := fun m => by
    obtain ⟨u, e', mu⟩ := w.tracked m
    rw [upd_same] at e'; cases e'; cases mu
  unfold PI.mkL at e
  cases m with
  | true =>
    cases e
    refine ⟨μ' ++ [d], gn.adopt h.none, ?_, repV_l.mpr ⟨d, by rw [List.getElem?_append_right (by rw [w.len]; exact Nat.le_refl _), w.len]; simp, rfl⟩⟩
    have := w.adopt (o := .lst acc) (c := .lst vs) upd_same ⟨acc, upd_same, RepVs.mv (Mv.adopt upd_same) _ _ r⟩ (by rw [← w.len]; exact RepVs.ok _ _ r)
    rw [hH] at this
    exact this
  | false =>
    simp only at e
    cases hd : datas vs with
    | some ds =>
      rw [hd] at e; cases e
      exact ⟨μ', gn, wn, repV_d.mpr (repD_lst.mpr ⟨d, acc, rfl, h.at_, nd, RepVs.ds.mp (by rw [← datas_eq hd]; exact rn)⟩)⟩
    | none =>
      rw [hd] at e; cases e
      exact ⟨μ', gn, wn, repV_vl.mpr ⟨d, acc, rfl, h.at_, nd, rn⟩⟩
end
section
variable {F : Mc} {C : Calls} {k : Nat} {s : Sc} {X : Cx}
/-- hidden readings -/
def hT (t : TT) : TT := fun σ H Q => ∃ d u, H d = some u ∧ hid u = true ∧ ∀ φ, t σ (upd H d (.ext φ)) fun b H' => H' d = some (.ext φ) ∧ Q b (upd H' d u)
def hE (t : TE) : TE := fun σ H Q => ∃ d u, H d = some u ∧ hid u = true ∧ ∀ φ, t σ (upd H d (.ext φ)) fun v H' => H' d = some (.ext φ) ∧ Q v (upd H' d u)
def hG (t : TG) : TG := fun v σ H Q => ∃ d u, H d = some u ∧ hid u = true ∧ ∀ φ, t v σ (upd H d (.ext φ)) fun σ' H' => H' d = some (.ext φ) ∧ Q σ' (upd H' d u)
theorem ts_nil : PTs X [] (hT (tRb X.K fun _ S => some (.d (.bl true), S))) := ⟨fun pins s σ H Q I ⟨d, u, hd, hu, h⟩ => by
  obtain ⟨φ, I1, bk⟩ := hid_in I hd hu
  obtain ⟨μ, ρ, S, b, S', w, re, e, q⟩ := h φ
  cases e
  obtain ⟨e2, q⟩ := q _ _ Grow.refl w
  refine wpAny_tests_nil ⟨_, bk _ _ _ _ I1 e2, q⟩⟩
theorem ts_one {e : Expr} {f : Env → Store → R Val} (h : PT X e (tRb X.K f)) : PTs X [e] (hT (tRb X.K f)) := pts_one (pt_hide h)
def turnLc (p : Pat) (ft : Env → Store → R Val) (fe : Env → Store → R (List Val)) : Val → Env → Store → R (List Val) := fun v ρ S => match bindP p v ρ with
  | some ρ => bnd (ft ρ S) fun b S => match b with
    | .d (.bl true) => fe ρ S
    | .d (.bl false) => some ([], S)
    | _ => none
  | none => none
def one (fe : Env → Store → R Val) : Env → Store → R (List Val) := fun ρ S => bnd (fe ρ S) fun y S => some ([y], S)
theorem wipe_wipe {σ : L2.St} {is : List Nat} : L2.wipe (L2.wipe σ is) is = L2.wipe σ is :=
  Same.wipe (is := is) ⟨L2.wipe_length _ _, fun i h => wipe_get h⟩ fun i h => h
section
variable {elt tg iter : Expr} {ifs : List Expr} {scope : Scope} {own : List (PySem.Str × Nat)} {pos : Pos} {p : Pat} {fi : Env → Store → R (List Val)} {ft fe : Env → Store → R Val} {m : Bool}
/-- the reading of a comprehension's rule, from the interpreter's -/
theorem lc_read (hp : ∀ i ∈ p.ixs, i ∈ own.map (·.2)) {σ : L2.St} {H : Hp} {Q : VK}
    (h : tR X.K (fun ρ S => bnd (fi ρ S) fun xs S => bnd (evLc (turnLc p ft (one fe)) xs (PI.wipe ρ (own.map (·.2))) S) fun vs S => mkL m vs S) σ H Q) :
    tLc (wI X fi) (hG (gP X.K p)) (hT (tRb X.K ft)) (hE (tR X.K fe)) (own.map (·.2)) σ H (fun v => Off X (Q v)) := by
  obtain ⟨μ, ρ, S, z, S', w, re, e, q⟩ := h
  obtain ⟨xs, S1, e1, e⟩ := bnd_eq e
  obtain ⟨vsA, S2, e2, e⟩ := bnd_eq e
  refine ⟨μ, ρ, S, xs, S1, w, re, e1, fun J H1 μ1 H2 lk g1 w1 hlk yl hz => ?_⟩
  obtain ⟨n, G, Y, hw, hn, hG0, hst, hy, hmv⟩ := yl.ex
  obtain ⟨w2, gl⟩ := hlk.wd w1
  have re2 : RepE X.K H2 μ1 (PI.wipe ρ (own.map (·.2))) (L2.wipe σ (own.map (·.2))) := ((re.grow g1).gr gl).wipe _
  intro D hD
  refine lc_it (g := hG (gP X.K p)) (tt := hT (tRb X.K ft)) (te := hE (tR X.K fe)) (vs := own.map (·.2)) (σ := σ) (Qd := fun H => Off X (Q (.ref D)) H) hw (fun i H3 => ∃ acc vs μ3 S3 rest, Hs X.K μ1 H2 D acc vs H3 μ3 S3 ∧ acc.length ≤ i ∧ evLc (turnLc p ft (one fe)) (xs.drop i) (PI.wipe ρ (own.map (·.2))) S3 = some (rest, S2) ∧ vsA = vs ++ rest)
    ⟨[], [], μ1, S1, vsA, Hs.start w2 hD, Nat.le_refl _, by simpa using e2, rfl⟩ (fun i H3 _ ⟨acc, vs, μ3, S3, rest, h, _, _, _⟩ => hst _ _ h.grow) ?_ ?_
  · rintro i x H3 H4 hi ⟨acc, vs, μ3, S3, rest, hs, hl, e3, rfl⟩ hY
    obtain ⟨φ0, g3, w3, r3⟩ := hs.ex
    obtain ⟨h4, hY⟩ := hmv i x H3 H4 D (.ext φ0) _ hs.at_ hY
    obtain ⟨y, hxs, g4, w4, ry⟩ := hy i x _ μ3 S3 _ hi g3 w3 hY
    have hs4 : Hs X.K μ1 H2 D acc vs H4 μ3 S3 := by
      have := hs.step (φ := φ0) g4 w4
      rw [upd_upd, upd_eq h4] at this
      exact this
    obtain ⟨hlt, hxy⟩ := List.getElem?_eq_some_iff.mp hxs
    rw [List.drop_eq_getElem_cons hlt, hxy] at e3
    simp only [evLc] at e3
    obtain ⟨ys, S5, e5, e3⟩ := bnd_eq e3
    obtain ⟨zs, S6, e6, e3⟩ := bnd_eq e3
    cases e3
    unfold turnLc at e5
    split at e5
    · rename_i ρ1 eb
      obtain ⟨b, S7, e7, e5⟩ := bnd_eq e5
      refine ⟨D, _, hs4.at_, rfl, fun φ => ?_⟩
      obtain ⟨g8, w8, r8⟩ := hs4.any φ
      have ry8 : RepV X.K (upd H4 D (.ext φ)) μ3 y x := by
        have := RepV.gr (Gr.over (μ := μ3) (o := .ext φ) upd_same) _ _ ry
        rw [upd_upd] at this
        exact this
      refine ⟨μ3, _, S3, y, ρ1, w8, re2.grow g8, ry8, eb, fun σ9 sm re9 => ⟨upd_same, ?_⟩⟩
      rw [upd_upd, upd_eq hs4.at_]
      refine ⟨(sm.wipe hp).trans wipe_wipe, ?_⟩
      refine ⟨D, _, hs4.at_, rfl, fun φ2 => ?_⟩
      obtain ⟨g10, w10, r10⟩ := hs4.any φ2
      have re10 : RepE X.K (upd H4 D (.ext φ2)) μ3 ρ1 σ9 := by
        have := re9.gr (Gr.over (μ := μ3) (o := .ext φ2) upd_same)
        rw [upd_upd] at this
        exact this
      split at e5
      · obtain ⟨y', S8, e8, e5⟩ := bnd_eq (show bnd (fe ρ1 S7) _ = _ from e5)
        cases e5
        refine ⟨μ3, ρ1, S3, true, S7, w10, re10, e7, fun H11 μ11 g11 w11 => ⟨g11.ext D φ2 upd_same, iteT ?_⟩⟩
        have hs11 := hs4.step g11 w11
        refine ⟨D, _, upd_same, rfl, fun φ3 => ?_⟩
        obtain ⟨g12, w12, r12⟩ := hs11.any φ3
        have re12 : RepE X.K (upd (upd H11 D (.lst acc)) D (.ext φ3)) μ11 ρ1 σ9 := by
          rw [upd_upd]
          exact (re10.grow g11).gr (Gr.over (g11.ext D φ2 upd_same))
        refine ⟨μ11, ρ1, S7, y', S5, w12, re12, e8, fun v H13 μ13 g13 w13 r13 => ⟨g13.ext D φ3 upd_same, acc, upd_same, ?_, ?_⟩⟩
        · rw [← lim_eq]; omega
        · rw [upd_upd]
          exact ⟨_, _, μ13, S5, zs, hs11.push g13 w13 r13, by simp; omega, e6, by simp⟩
      · cases e5
        refine ⟨μ3, ρ1, S3, false, S5, w10, re10, e7, fun H11 μ11 g11 w11 => ⟨g11.ext D φ2 upd_same, iteF ?_⟩⟩
        exact ⟨acc, vs, μ11, S5, zs, hs4.step g11 w11, by omega, e6, by simp⟩
      · cases e5
    · cases e5
  · rintro H3 ⟨acc, vs, μ3, S3, rest, hs, hl, e3, ev⟩
    rw [hn, List.drop_length] at e3
    cases e3
    rw [List.append_nil] at ev
    subst ev
    obtain ⟨μ4, g4, w4, r4⟩ := hs.fin e
    exact hlk.off g4 w4 fun H4 g5 w5 gu _ => q _ H4 μ4 (g1.trans g5) w5 (RepV.gr gu _ _ r4)
end
end
end PI
set_option Elab.async false
set_option linter.all false
set_option maxRecDepth 100000
set_option maxHeartbeats 1000000
/-! PI13: list comprehensions as values and behind an =. -/
namespace PI
open PySem PySem.Spec PyProof.Rows L2 RZ
section
variable {F : Mc} {C : Calls} {k : Nat} {s : Sc} {X : Cx}
variable {elt tg iter : Expr} {ifs : List Expr} {scope : Scope} {own : List (PySem.Str × Nat)} {pos : Pos} {p : Pat} {fi : Env → Store → R (List Val)} {ft fe : Env → Store → R Val} {m : Bool}
def lcF (fi : Env → Store → R (List Val)) (p : Pat) (ft fe : Env → Store → R Val) (m : Bool) (own : List Nat) : Env → Store → R Val := fun ρ S => bnd (fi ρ S) fun xs S => bnd (evLc (turnLc p ft (one fe)) xs (PI.wipe ρ own) S) fun vs S => mkL m vs S
theorem e_lc (c : Ctx F C k s X) (hi : L2.PI X tg iter (wI X fi)) (ok : BlkOk X.N X.env.scope scope own) (hp : ∀ i ∈ p.ixs, i ∈ own.map (·.2))
    (hg : ∀ (s0 : Shared) (H0 : Hp) (C0 : Addr) (cl : List (PySem.Str × Addr)) (fp : List Addr), PG (X.blk s0 H0 scope (compEnvC scope cl C0 X.env) fp) tg (gP X.K p))
    (ht : ∀ (s0 : Shared) (H0 : Hp) (C0 : Addr) (cl : List (PySem.Str × Addr)) (fp : List Addr), PTs (X.blk s0 H0 scope (compEnvC scope cl C0 X.env) fp) ifs (hT (tRb X.K ft)))
    (he : ∀ (s0 : Shared) (H0 : Hp) (C0 : Addr) (cl : List (PySem.Str × Addr)) (fp : List Addr), PE (X.blk s0 H0 scope (compEnvC scope cl C0 X.env) fp) elt (tR X.K fe))
    (hs : ∀ x, foldedSetIterable iter X.env x = pure x) : PE X (.ListComp elt [⟨tg, iter, ifs, 0⟩] scope pos) (tR X.K (lcF fi p ft fe m (own.map (·.2)))) :=
  PE.imp (pe_off (pe_lc c.calm c.nd hi ok (fun s0 H0 C0 cl fp => pg_hide (hg s0 H0 C0 cl fp)) ht (fun s0 H0 C0 cl fp => pe_hide (he s0 H0 C0 cl fp)) hs)) fun σ H Q h => lc_read hp h
theorem s_lc (c : Ctx F C k s X) {i : Nat} {y : PySem.Str} {py spos : Pos} (hy : F.N[i]? = some y) (hyl : s.sc.names.lookup y = some .local) (hk : (s.sc.kind == .function) = true) (hline : (py.line == pos.line) = true)
    (hown : (scope.names.any fun (n, k) => n == y && (k == .local || k == .cell)) = false)
    (hi : L2.PI X tg iter (wI X fi)) (ok : BlkOk X.N X.env.scope scope own) (hp : ∀ i ∈ p.ixs, i ∈ own.map (·.2))
    (hg : ∀ (s0 : Shared) (H0 : Hp) (C0 : Addr) (cl : List (PySem.Str × Addr)) (fp : List Addr), PG (X.blk s0 H0 scope (compEnvC scope cl C0 X.env) fp) tg (gP X.K p))
    (ht : ∀ (s0 : Shared) (H0 : Hp) (C0 : Addr) (cl : List (PySem.Str × Addr)) (fp : List Addr), PTs (X.blk s0 H0 scope (compEnvC scope cl C0 X.env) fp) ifs (hT (tRb X.K ft)))
    (he : ∀ (s0 : Shared) (H0 : Hp) (C0 : Addr) (cl : List (PySem.Str × Addr)) (fp : List Addr), PE (X.blk s0 H0 scope (compEnvC scope cl C0 X.env) fp) elt (tR X.K fe))
    (hs : ∀ x, foldedSetIterable iter X.env x = pure x) : PS X (.Assign [.Name y py] (.ListComp elt [⟨tg, iter, ifs, 0⟩] scope pos) spos)
      (tS X.K fun ρ S => bnd (lcF fi p ft fe m (own.map (·.2)) ρ S) fun v S => (bindP (.nm i) v ρ).map fun ρ => .nx ρ S) := by
  refine PS.imp (ps_off (ps_setLc c.calm c.nd (by rw [c.N]; exact hy) (by rw [c.sc]; exact hyl) (sw_true (by rw [c.sc]; simpa using hk) (by rw [c.sc]; exact hyl) hline hown) hi ok (fun s0 H0 C0 cl fp => pg_hide (hg s0 H0 C0 cl fp)) ht (fun s0 H0 C0 cl fp => pe_hide (he s0 H0 C0 cl fp)) hs)) fun D σ H ⟨μ, ρ, S, fl, w, re, e, q⟩ => ?_
  obtain ⟨v, S1, e1, e⟩ := bnd_eq e
  simp only [bindP, Option.map_some] at e
  cases e
  refine lc_read (m := m) (p := p) (fi := fi) (ft := ft) (fe := fe) (own := own) (Q := fun x H1 => D.nx (σ.set i (some x)) H1) hp ⟨μ, ρ, S, v, S1, w, re, e1, fun u H1 μ1 g1 w1 r1 => ?_⟩
  exact q _ H1 μ1 g1 w1 ((re.grow g1).set i r1)
end
end PI
set_option Elab.async false
set_option linter.all false
set_option maxRecDepth 100000
set_option maxHeartbeats 1000000
/-! PI14: what stands on both sides of an =. -/
namespace PI
open PySem PySem.Spec PyProof.Rows L2 RZ
section
variable {F : Mc} {C : Calls} {k : Nat} {s : Sc} {X : Cx}
/-- the scope of the comprehension that e is -/
def compScope : Expr → Option Scope
  | .ListComp _ _ s _ => some s
  | .SetComp _ _ s _ => some s
  | .DictComp _ _ _ s _ => some s
  | _ => none
def swB (sc : Scope) (e : Expr) (t : Option Expr) : Bool := match compScope e with
  | none => false
  | some scope => match t with
    | none => true
    | some (.Name t pos) => sc.names.lookup t == some .local && pos.line == e.pos.line && !(scope.names.any fun (n, k) => n == t && (k == .local || k == .cell))
    | some _ => false
theorem sw_no {env : PySem.Env} {e : Expr} {t : Option Expr} {line : Nat} (hk : env.scope.kind = .function) (h : swB env.scope e t = false) : swapsWith e t line env = pure false := by
  have hb : env.blockKind = .function := by unfold Env.blockKind; rw [hk]; rfl
  unfold swB at h
  unfold swapsWith
  cases e with
  | ListComp elt gs scope pos =>
    cases t with
    | none => cases h
    | some t =>
      cases t with
      | Name x px =>
        simp only [compScope] at h
        have hx : env.kindOf x = env.scope.names.lookup x := rfl
        simp only [hb, hx]
        simp only [Bool.and_eq_false_iff, Bool.not_eq_false'] at h
        rcases h with (h | h) | h
        · simp [h]
        · simp [h]
        · simp [h]
      | _ => rfl
  | SetComp elt gs scope pos =>
    cases t with
    | none => cases h
    | some t =>
      cases t with
      | Name x px =>
        simp only [compScope] at h
        have hx : env.kindOf x = env.scope.names.lookup x := rfl
        simp only [hb, hx]
        simp only [Bool.and_eq_false_iff, Bool.not_eq_false'] at h
        rcases h with (h | h) | h
        · simp [h]
        · simp [h]
        · simp [h]
      | _ => rfl
  | DictComp a b gs scope pos =>
    cases t with
    | none => cases h
    | some t =>
      cases t with
      | Name x px =>
        simp only [compScope] at h
        have hx : env.kindOf x = env.scope.names.lookup x := rfl
        simp only [hb, hx]
        simp only [Bool.and_eq_false_iff, Bool.not_eq_false'] at h
        rcases h with (h | h) | h
        · simp [h]
        · simp [h]
        · simp [h]
      | _ => rfl
  | _ => rfl
def isStar : Expr → Bool
  | .Starred .. => true
  | _ => false
def nmL (sc : Scope) (line : Nat) : Expr → Option PySem.Str
  | .Name id pos => if sc.names.lookup id == some .local && pos.line == line then some id else none
  | _ => none
def nmsL (sc : Scope) (ts : List Expr) : List PySem.Str := ts.filterMap (nmL sc ((ts.head?.map (·.pos.line)).getD 0))
/-- the stores of ts = vs go one by one -/
def swN (sc : Scope) (ts vs : List Expr) : Bool :=
  !(ts.length == 2 || ts.length == 3) || vs.length != ts.length || vs.any isStar || (nmsL sc ts).length != ts.length || (nmsL sc ts).eraseDups.length != (nmsL sc ts).length || vs.all (foldedForSure 8)
/-- .. from the right, each its value -/
def swY (sc : Scope) (ts vs : List Expr) : Bool :=
  (ts.length == 2 || ts.length == 3) && vs.length == ts.length && !vs.any isStar && (nmsL sc ts).length == ts.length && (nmsL sc ts).eraseDups.length == (nmsL sc ts).length && !vs.all (foldedForSure 8) && !vs.all (constantsAlone 8)
theorem sw_body {env : PySem.Env} {ts vs : List Expr} {k k2 : Nat} {p p2 : Pos} (hk : env.scope.kind = .function) : swappedStores [.Tuple ts k p] (.Tuple vs k2 p2) env = (do
  if !(ts.length == 2 || ts.length == 3) || vs.length != ts.length || ScopeKind.function != ScopeKind.function then return none
  if vs.any isStar then return none
  if (nmsL env.scope ts).length != ts.length || (nmsL env.scope ts).eraseDups.length != (nmsL env.scope ts).length then return none
  if vs.all (foldedForSure 8) then return none
  if vs.all (constantsAlone 8) then unsupported "assign.tuple-of-constant-expressions:order-of-the-stores"
  return some (nmsL env.scope ts)) := by
  have hb : env.blockKind = .function := by unfold Env.blockKind; rw [hk]; rfl
  have hst : (fun e : Expr => match e with | .Starred .. => true | _ => false) = isStar := by
    funext e; cases e <;> rfl
  unfold swappedStores
  simp only [hb]
  rfl
theorem sw_none {env : PySem.Env} {ts vs : List Expr} {k k2 : Nat} {p p2 : Pos} (hk : env.scope.kind = .function) (h : swN env.scope ts vs = true) : swappedStores [.Tuple ts k p] (.Tuple vs k2 p2) env = pure none := by
  rw [sw_body hk]
  unfold swN at h
  have hf : (ScopeKind.function != ScopeKind.function) = false := rfl
  rw [hf, Bool.or_false]
  generalize (!(ts.length == 2 || ts.length == 3) || vs.length != ts.length) = b1 at h ⊢
  generalize vs.any isStar = b2 at h ⊢
  generalize hb3 : ((nmsL env.scope ts).length != ts.length || (nmsL env.scope ts).eraseDups.length != (nmsL env.scope ts).length) = b3
  have h' : (b1 || b2 || b3 || vs.all (foldedForSure 8)) = true := by rw [← hb3, ← h]; simp only [Bool.or_assoc]
  generalize vs.all (foldedForSure 8) = b4 at h' ⊢
  cases b1 with
  | true => rfl
  | false => cases b2 with
    | true => rfl
    | false => cases b3 with
      | true => rfl
      | false => cases b4 with
        | true => rfl
        | false => cases h'
theorem sw_some {env : PySem.Env} {ts vs : List Expr} {k k2 : Nat} {p p2 : Pos} (hk : env.scope.kind = .function) (h : swY env.scope ts vs = true) : swappedStores [.Tuple ts k p] (.Tuple vs k2 p2) env = pure (some (nmsL env.scope ts)) := by
  rw [sw_body hk]
  unfold swY at h
  simp only [Bool.and_eq_true, Bool.not_eq_true'] at h
  obtain ⟨⟨⟨⟨⟨⟨h1, h2⟩, h3⟩, h4⟩, h5⟩, h6⟩, h7⟩ := h
  have e2 : (vs.length != ts.length) = false := by simpa [bne] using h2
  have e4 : ((nmsL env.scope ts).length != ts.length) = false := by simpa [bne] using h4
  have e5 : ((nmsL env.scope ts).eraseDups.length != (nmsL env.scope ts).length) = false := by simpa [bne] using h5
  rw [h1, e2, h3, e4, e5, h6, h7]
  rfl
def isTup : Expr → Bool
  | .Tuple .. => true
  | _ => false
def isTupL : Expr → Bool
  | .Tuple .. => true
  | .List .. => true
  | _ => false
theorem sw_plain {env : PySem.Env} {t e : Expr} (h : isTupL t = false ∨ isTup e = false) : swappedStores [t] e env = pure none := by
  rcases h with h | h
  · cases t <;> first | rfl | cases h
  · cases e <;> first | (cases t <;> rfl) | cases h
/-- the stores of t = e are plain -/
def asgB (sc : Scope) (t e : Expr) : Bool := !swB sc e (some t) && (match t with
  | .Tuple ts _ _ => match e with
    | .Tuple vs _ _ => swN sc ts vs
    | _ => true
  | .Name _ _ => true
  | _ => false)
theorem asg_ok {env : PySem.Env} {t e : Expr} {line : Nat} (hk : env.scope.kind = .function) (h : asgB env.scope t e = true) : swapsWithSole [t] e line env = pure false ∧ swappedStores [t] e env = pure none := by
  unfold asgB at h
  simp only [Bool.and_eq_true, Bool.not_eq_true'] at h
  refine ⟨sw_no hk h.1, ?_⟩
  cases t with
  | Tuple ts k p =>
    cases e with
    | Tuple vs k2 p2 => exact sw_none hk h.2
    | _ => exact sw_plain (.inr rfl)
  | Name x p => exact sw_plain (.inl rfl)
  | _ => cases h.2
end
end PI
set_option Elab.async false
set_option linter.all false
set_option maxRecDepth 100000
set_option maxHeartbeats 1000000
/-! PI15: methods, stores of items, dicts. -/
namespace PI
open PySem PySem.Spec PyProof.Rows L2 RZ
section
variable {F : Mc} {C : Calls} {k : Nat} {s : Sc} {X : Cx}
variable {K : PySem.W.Frag} {H H' : Hp} {μ μ' : Ad} {S S' : Store} {v w : V}
variable {apos pos : Pos}

theorem few1 {e : Expr} {env : PySem.Env} {cpos : Pos} (h : notStar e = true) : ((backTo cpos (starEach [e] env)).all (fun x => !x.1) && (backToKw cpos (keywordEach [] env)).all (fun x => x.1.isSome)
      && decide (([e] : List Expr).length + ([] : List Keyword).length + (if ([] : List Keyword).isEmpty then 0 else 1) < 30)) = true := by
  rw [star_each h]; rfl
theorem few2 {e f : Expr} {env : PySem.Env} {cpos : Pos} (h : notStar e = true) (h2 : notStar f = true) : ((backTo cpos (starEach [e, f] env)).all (fun x => !x.1) && (backToKw cpos (keywordEach [] env)).all (fun x => x.1.isSome)
      && decide (([e, f] : List Expr).length + ([] : List Keyword).length + (if ([] : List Keyword).isEmpty then 0 else 1) < 30)) = true := by
  rw [star_each h, star_each h2]; rfl
theorem trees1 {e : Expr} {env : PySem.Env} {cpos : Pos} (h : notStar e = true) : backTo cpos (starEach [e] env) = [(false, eval e env)] := by
  rw [star_each h]; rfl
theorem plain1 {es : List Expr} {env : PySem.Env} {cpos : Pos} (h : es.all notStar = true) : (backTo cpos (starEach es env)).any (·.1) = false := no_stars h

/-- a tracked list -/
theorem l_at {n : Nat} {xs : List Val} (W : Wd K H μ S) (hS : S[n]? = some (.lst xs)) (r : RepV K H μ (.l n) v) : ∃ a ys, μ[n]? = some a ∧ v = .ref a ∧ H a = some (.lst ys) ∧ RepVs K H μ xs ys := by
  obtain ⟨a, e1, rfl⟩ := repV_l.mp r
  obtain ⟨b, e2, ys, q, t⟩ := W.at hS
  rw [e1] at e2; cases e2
  exact ⟨a, ys, e1, rfl, q, t⟩
theorem d_at {n : Nat} {kvs : List (T × Val)} (W : Wd K H μ S) (hS : S[n]? = some (.dct kvs)) (r : RepV K H μ (.l n) v) : ∃ a zs, μ[n]? = some a ∧ v = .ref a ∧ H a = some (.dK zs) ∧ RepK K H μ kvs zs := by
  obtain ⟨a, e1, rfl⟩ := repV_l.mp r
  obtain ⟨b, e2, ys, q, t⟩ := W.at hS
  rw [e1] at e2; cases e2
  exact ⟨a, ys, e1, rfl, q, t⟩
theorem okv_of {n : Nat} {x : Val} (h : okv n x = true) : oks n [x] = true := by
  show (okv n x && oks n []) = true
  rw [h]; rfl
theorem oks_append {n : Nat} : ∀ {xs ys : List Val}, oks n xs = true → oks n ys = true → oks n (xs ++ ys) = true
  | [], ys, _, h => h
  | x :: xs, ys, h, h2 => by
    obtain ⟨h3, h4⟩ := Bool.and_eq_true_iff.mp (show (okv n x && oks n xs) = true from h)
    show (okv n x && oks n (xs ++ ys)) = true
    rw [h3, oks_append h4 h2]; rfl
theorem oks_mem {n : Nat} : ∀ {xs : List Val}, oks n xs = true ↔ ∀ x ∈ xs, okv n x = true
  | [] => by simp [oks]
  | x :: xs => by
    show (okv n x && oks n xs) = true ↔ _
    rw [Bool.and_eq_true, oks_mem (xs := xs)]
    simp
theorem tyL {a : Addr} {ys : List V} (h : H a = some (.lst ys)) : L2.tyV K "list" (.ref a) H := .inl ⟨rfl, ys, SqL.of h⟩
theorem isL_at {x : Val} (W : Wd K H μ S) (h : isL x S = true) (r : RepV K H μ x v) : ∃ n a ys, x = .l n ∧ μ[n]? = some a ∧ v = .ref a ∧ H a = some (.lst ys) := by
  unfold isL at h
  split at h
  · rename_i n
    split at h
    · rename_i xs hS
      obtain ⟨a, ys, h1, h2, h3, _⟩ := l_at W hS r
      exact ⟨n, a, ys, rfl, h1, h2, h3⟩
    · cases h
  · cases h
theorem isDc_at {x : Val} (W : Wd K H μ S) (h : isDc x S = true) (r : RepV K H μ x v) : ∃ a zs, v = .ref a ∧ Rd H a (.dK zs) := by
  unfold isDc at h
  split at h
  · obtain ⟨a, zs, rfl, q, _⟩ := repV_dct.mp r
    exact ⟨a, zs, rfl, q⟩
  · rename_i n
    split at h
    · rename_i xs hS
      obtain ⟨a, ys, h1, h2, h3, _⟩ := d_at W hS r
      exact ⟨a, ys, h2, .inl h3⟩
    · cases h
  · cases h
/-- xs.append(v) -/
theorem e_append {o e : Expr} {fo fe : Env → Store → R Val} (ho : PE X o (tR X.K fo)) (he : PE X e (tR X.K fe)) (hb : baseB o = true) (hn : notStar e = true) (hl : (apos.endLine == pos.line) = true) :
    PE X (.Call (.Attribute o "append" apos) [e] [] pos) (tR X.K fun ρ S => bnd (fo ρ S) fun x S => if isL x S = true then bnd (fe ρ S) fun v S => (appV x v S).map fun S => (.d .non, S) else none) := by
  refine PE.imp (pe_bm F.plainAttrs_list F.slot_list_append F.type_list_append mt_append ho (a_cons he a_nil hn) (base_ok hb) (few1 hn) hl (star_each hn) (no_stars rfl)) fun σ H Q ⟨μ, ρ, S, z, S', w, re, e, q⟩ => ?_
  obtain ⟨x, S1, e1, e⟩ := bnd_eq e
  split at e
  case isFalse => cases e
  rename_i hL
  obtain ⟨y, S2, e2, e⟩ := bnd_eq e
  simp only [Option.map_eq_some_iff] at e
  obtain ⟨S3, e3, e4⟩ := e
  cases e4
  refine ⟨μ, ρ, S, _, S1, w, re, e1, fun u H1 μ1 g1 w1 r1 => ?_⟩
  obtain ⟨n0, a, ys0, hx, hm, rfl, hH1⟩ := isL_at w1 hL r1
  subst hx
  refine ⟨tyL hH1, μ1, ρ, S1, [y], S2, w1, re.grow g1, (show bnd (fe ρ S1) _ = _ by rw [e2]; rfl), fun us H2 μ2 g2 w2 r2 => ?_⟩
  obtain ⟨u2, r', rfl, q2, r3⟩ := repVs_cons.mp r2
  rw [repVs_nil.mp r3]
  simp only [appV] at e3
  split at e3
  · rename_i ok
    split at e3
    · rename_i xs hS
      split at e3
      · rename_i hz
        cases e3
        obtain ⟨a', ys, hm2, ha', hq, rx⟩ := l_at w2 hS (RepV.grow g2 _ _ r1)
        cases ha'
        refine ⟨a, ys, u2, rfl, rfl, hq, ?_, ?_⟩
        · rw [rx.length, ← lim_eq]; exact hz
        · have gw : Grow μ2 H2 μ2 (upd H2 a (.lst (ys ++ [u2]))) := Grow.write hq rfl (List.mem_of_getElem? hm2)
          obtain ⟨w3, g3⟩ := w2.write (o := .lst (ys ++ [u2])) (c := .lst (xs ++ [y])) hS hm2 ⟨_, upd_same, (RepVs.grow gw _ _ rx).append (repVs_cons.mpr ⟨_, _, rfl, RepV.grow gw _ _ q2, repVs_nil.mpr rfl⟩)⟩ (oks_append (w2.ok _ _ hS) (okv_of ok))
          exact q _ _ μ2 ((g1.trans g2).trans g3) w3 (repV_d.mpr (repD_non.mpr rfl))
      · cases e3
    · cases e3
  · cases e3
theorem RepVs.set : ∀ {xs : List Val} {vs : List V} {i : Nat} {x : Val} {u : V}, RepVs K H μ xs vs → RepV K H μ x u → RepVs K H μ (xs.set i x) (vs.set i u)
  | [], vs, i, x, u, r, _ => by rw [repVs_nil.mp r]; exact repVs_nil.mpr rfl
  | y :: xs, vs, 0, x, u, r, h => by
    obtain ⟨w, r', rfl, q, t⟩ := repVs_cons.mp r
    exact repVs_cons.mpr ⟨_, _, rfl, h, t⟩
  | y :: xs, vs, i + 1, x, u, r, h => by
    obtain ⟨w, r', rfl, q, t⟩ := repVs_cons.mp r
    exact repVs_cons.mpr ⟨_, _, rfl, q, RepVs.set t h⟩
theorem RepVs.erase : ∀ {xs : List Val} {vs : List V} {i : Nat}, RepVs K H μ xs vs → RepVs K H μ (xs.eraseIdx i) (vs.eraseIdx i)
  | [], vs, i, r => by rw [repVs_nil.mp r]; exact repVs_nil.mpr rfl
  | y :: xs, vs, 0, r => by
    obtain ⟨w, r', rfl, q, t⟩ := repVs_cons.mp r
    exact t
  | y :: xs, vs, i + 1, r => by
    obtain ⟨w, r', rfl, q, t⟩ := repVs_cons.mp r
    exact repVs_cons.mpr ⟨_, _, rfl, q, RepVs.erase t⟩
theorem RepVs.dropLast : ∀ {xs : List Val} {vs : List V}, RepVs K H μ xs vs → RepVs K H μ xs.dropLast vs.dropLast
  | [], vs, r => by rw [repVs_nil.mp r]; exact repVs_nil.mpr rfl
  | [y], vs, r => by
    obtain ⟨w, r', rfl, q, t⟩ := repVs_cons.mp r
    rw [repVs_nil.mp t]; exact repVs_nil.mpr rfl
  | y :: y2 :: xs, vs, r => by
    obtain ⟨w, r', rfl, q, t⟩ := repVs_cons.mp r
    obtain ⟨w2, r2, rfl, q2, t2⟩ := repVs_cons.mp t
    exact repVs_cons.mpr ⟨w, _, rfl, q, RepVs.dropLast (xs := y2 :: xs) t⟩
theorem oks_sub {n : Nat} {xs ys : List Val} (h : oks n xs = true) (hs : ∀ y ∈ ys, y ∈ xs) : oks n ys = true := oks_mem.mpr fun y m => oks_mem.mp h y (hs y m)
/-- a pop's answer, from the list as it stands -/
theorem popV_ok {n : Nat} {i : Option Val} {z : Val} {S1 : Store} {Q : VK} {a : Addr} (W : Wd K H μ S) (hm : μ[n]? = some a) (e : popV (.l n) i S = some (z, S1)) (h : Pu K H μ S1 z Q) : ∃ xs ys, H a = some (.lst ys) ∧ RepVs K H μ xs ys ∧
    ((i = none ∧ ∃ y, ys[ys.length - 1]? = some y ∧ Q y (upd H a (.lst ys.dropLast))) ∨ ∃ j : Int, i = some (.d (.int j)) ∧ 0 ≤ j ∧ j < 2 ^ 62 ∧ ∃ y, ys[j.toNat]? = some y ∧ Q y (upd H a (.lst (ys.eraseIdx j.toNat)))) := by
  simp only [popV] at e
  split at e
  · rename_i xs hS
    obtain ⟨a', ys, hm2, ha', hq, rx⟩ := l_at W hS (repV_l.mpr ⟨a, hm, rfl⟩)
    cases ha'
    have fin : ∀ (xs' : List Val) (ys' : List V) (x : Val) (y : V), (∀ H2, Grow μ H μ H2 → RepVs K H2 μ xs' ys') → (∀ x ∈ xs', x ∈ xs) → RepV K H μ x y → z = x → S1 = S.set n (.lst xs') → Q y (upd H a (.lst ys')) := fun xs' ys' x y r1 hs ry hz hS1 => by
      have gw : Grow μ H μ (upd H a (.lst ys')) := Grow.write hq rfl (List.mem_of_getElem? hm)
      obtain ⟨w3, g3⟩ := W.write (o := .lst ys') (c := .lst xs') hS hm ⟨_, upd_same, r1 _ gw⟩ (oks_sub (W.ok n _ hS) hs)
      subst hz hS1
      exact h _ _ μ g3 w3 (RepV.grow gw _ _ ry)
    refine ⟨xs, ys, hq, rx, ?_⟩
    split at e
    · split at e
      · rename_i x hx
        cases e
        obtain ⟨y, h1, h2⟩ := rx.get hx
        rw [← rx.length] at h1
        exact .inl ⟨rfl, y, h1, fin _ _ _ y (fun H2 g => (RepVs.grow g _ _ rx).dropLast) (fun x m => List.dropLast_subset _ m) h2 rfl rfl⟩
      · cases e
    · rename_i j
      split at e
      · rename_i hj
        split at e
        · rename_i x hx
          cases e
          obtain ⟨y, h1, h2⟩ := rx.get hx
          exact .inr ⟨j, rfl, hj.1, hj.2, y, h1, fin _ _ _ y (fun H2 g => (RepVs.grow g _ _ rx).erase) (fun x m => List.eraseIdx_subset m) h2 rfl rfl⟩
        · cases e
      · cases e
    · cases e
  · cases e
/-- xs.pop(), xs.pop(i) -/
theorem e_pop0 {o : Expr} {fo : Env → Store → R Val} (ho : PE X o (tR X.K fo)) (hb : baseB o = true) (hl : (apos.endLine == pos.line) = true) :
    PE X (.Call (.Attribute o "pop" apos) [] [] pos) (tR X.K fun ρ S => bnd (fo ρ S) fun x S => popV x none S) := by
  refine PE.imp (pe_bm0 F.plainAttrs_list F.slot_list_pop F.type_list_pop mt_pop ho (base_ok hb) hl) fun σ H Q ⟨μ, ρ, S, z, S', w, re, e, q⟩ => ?_
  obtain ⟨x, S1, e1, e⟩ := bnd_eq e
  refine ⟨μ, ρ, S, _, S1, w, re, e1, fun u H1 μ1 g1 w1 r1 => ?_⟩
  cases x with
  | l n =>
    obtain ⟨a, hm, rfl⟩ := repV_l.mp r1
    obtain ⟨xs, ys, hq, rx, h⟩ := popV_ok w1 hm e (q.grow g1)
    refine ⟨tyL hq, ?_⟩
    rcases h with ⟨_, y, h1, h2⟩ | ⟨j, h0, _⟩
    · exact ⟨a, ys, y, rfl, rfl, hq, h1, h2⟩
    · cases h0
  | _ => cases e
theorem e_pop1 {o e : Expr} {fo fe : Env → Store → R Val} (ho : PE X o (tR X.K fo)) (he : PE X e (tR X.K fe)) (hb : baseB o = true) (hn : notStar e = true) (hl : (apos.endLine == pos.line) = true) :
    PE X (.Call (.Attribute o "pop" apos) [e] [] pos) (tR X.K fun ρ S => bnd (fo ρ S) fun x S => if isL x S = true then bnd (fe ρ S) fun y S => popV x (some y) S else none) := by
  refine PE.imp (pe_bm F.plainAttrs_list F.slot_list_pop F.type_list_pop mt_popAt ho (a_cons he a_nil hn) (base_ok hb) (few1 hn) hl (star_each hn) (no_stars rfl)) fun σ H Q ⟨μ, ρ, S, z, S', w, re, e, q⟩ => ?_
  obtain ⟨x, S1, e1, e⟩ := bnd_eq e
  split at e
  case isFalse => cases e
  rename_i hL
  obtain ⟨y, S2, e2, e⟩ := bnd_eq e
  refine ⟨μ, ρ, S, _, S1, w, re, e1, fun u H1 μ1 g1 w1 r1 => ?_⟩
  obtain ⟨n, a, ys0, rfl, hm, rfl, hH1⟩ := isL_at w1 hL r1
  refine ⟨tyL hH1, μ1, ρ, S1, [y], S2, w1, re.grow g1, (show bnd (fe ρ S1) _ = _ by rw [e2]; rfl), fun us H2 μ2 g2 w2 r2 => ?_⟩
  obtain ⟨u2, r', rfl, q2, r3⟩ := repVs_cons.mp r2
  rw [repVs_nil.mp r3]
  obtain ⟨a', hm2, ha'⟩ := repV_l.mp (RepV.grow g2 _ _ r1)
  cases ha'
  obtain ⟨xs, ys, hq, rx, h⟩ := popV_ok w2 hm2 e ((q.grow g1).grow g2)
  rcases h with ⟨h0, _⟩ | ⟨j, h0, h1, h2, y', h3, h4⟩
  · cases h0
  · cases h0
    rw [repD_int.mp (repV_d.mp q2)]
    have hlt := (List.getElem?_eq_some_iff.mp h3).1
    refine ⟨a, ys, j, j.toNat, y', rfl, rfl, hq, by omega, by omega, ?_, h3, h4⟩
    unfold seqIndex?
    simp only [show ¬ j < 0 by omega, if_false]
    rw [if_pos]
    simp
    omega
end
end PI
set_option Elab.async false
set_option linter.all false
set_option maxRecDepth 100000
set_option maxHeartbeats 1000000
/-! PI16: stores of items, dicts, pairs of names. -/
namespace PI
open PySem PySem.Spec PyProof.Rows L2 RZ
section
variable {F : Mc} {C : Calls} {k : Nat} {s : Sc} {X : Cx}
variable {K : PySem.W.Frag} {H H' : Hp} {μ μ' : Ad} {S S' : Store} {v w : V}
variable {apos pos : Pos}

/-! ### dicts as they stand -/
theorem RepK.any : ∀ {kvs : List (T × Val)} {zs : List (Key × V)} (t : T), RepK K H μ kvs zs → (zs.any fun kv => decide (kv.1 = .inr (PI.S' t))) = kvs.any fun p => decide (p.1 = t)
  | [], zs, t, r => by unfold RepK at r; subst r; rfl
  | (j, y) :: kvs, zs, t, r => by
    unfold RepK at r
    obtain ⟨w, r', rfl, _, q, r⟩ := r
    rw [List.any_cons, List.any_cons, RepK.any t r]
    congr 1
    by_cases e : j = t
    · subst e; simp
    · have : ¬ (Sum.inr (PI.S' j) : Key) = .inr (PI.S' t) := fun z => e (S'_inj.mp (Sum.inr.inj z))
      simp [e, this]
theorem RepK.append : ∀ {kvs more : List (T × Val)} {zs ws : List (Key × V)}, RepK K H μ kvs zs → RepK K H μ more ws → RepK K H μ (kvs ++ more) (zs ++ ws)
  | [], more, zs, ws, r, q => by unfold RepK at r; subst r; exact q
  | (j, y) :: kvs, more, zs, ws, r, q => by
    unfold RepK at r
    obtain ⟨w, r', rfl, o, p, r⟩ := r
    show RepK K H μ ((j, y) :: (kvs ++ more)) _
    unfold RepK
    exact ⟨w, r' ++ ws, rfl, o, p, RepK.append r q⟩
theorem RepK.cons {kvs : List (T × Val)} {zs : List (Key × V)} {t : T} {x : Val} {v : V} (o : okT t = true) (q : RepV K H μ x v) (r : RepK K H μ kvs zs) : RepK K H μ ((t, x) :: kvs) ((.inr (PI.S' t), v) :: zs) := by
  unfold RepK
  exact ⟨v, zs, rfl, o, q, r⟩
theorem RepK.nil : RepK K H μ [] [] := by unfold RepK; rfl
theorem RepK.map {t : T} {x : Val} {v : V} (q : RepV K H μ x v) : ∀ {kvs : List (T × Val)} {zs : List (Key × V)}, RepK K H μ kvs zs →
    RepK K H μ (kvs.map fun p => if p.1 = t then (p.1, x) else p) (zs.map fun kv => if kv.1 = .inr (PI.S' t) then (kv.1, v) else kv)
  | [], zs, r => by unfold RepK at r; subst r; exact RepK.nil
  | (j, y) :: kvs, zs, r => by
    unfold RepK at r
    obtain ⟨w, r', rfl, o, p, r⟩ := r
    by_cases e : j = t
    · subst e
      simp only [List.map_cons, if_true]
      exact RepK.cons o q (RepK.map q r)
    · have : ¬ (Sum.inr (PI.S' j) : Key) = .inr (PI.S' t) := fun z => e (S'_inj.mp (Sum.inr.inj z))
      simp only [List.map_cons, if_neg e, if_neg this]
      exact RepK.cons o p (RepK.map q r)
theorem RepK.put {t : T} {x : Val} {v : V} {kvs : List (T × Val)} {zs : List (Key × V)} (r : RepK K H μ kvs zs) (o : okT t = true) (q : RepV K H μ x v) : RepK K H μ (put t x kvs) (putK zs (.inr (PI.S' t)) v) := by
  unfold PI.put putK
  rw [r.any t]
  split
  · exact RepK.map q r
  · exact r.append (RepK.cons o q RepK.nil)
theorem RepK.putAll : ∀ {more kvs : List (T × Val)} {zs ws : List (Key × V)}, RepK K H μ kvs zs → RepK K H μ more ws → RepK K H μ (putAll kvs more) (mergeK zs ws)
  | [], kvs, zs, ws, r, q => by unfold RepK at q; subst q; exact r
  | (j, y) :: more, kvs, zs, ws, r, q => by
    unfold RepK at q
    obtain ⟨w, r', rfl, o, p, q⟩ := q
    show RepK K H μ (PI.putAll (PI.put j y kvs) more) (mergeK (putK zs (.inr (PI.S' j)) w) r')
    exact RepK.putAll (r.put o p) q
theorem okk_mem {n : Nat} : ∀ {xs : List (T × Val)}, okk n xs = true ↔ ∀ p ∈ xs, okv n p.2 = true
  | [] => by simp [okk]
  | (j, x) :: xs => by
    show (okv n x && okk n xs) = true ↔ _
    rw [Bool.and_eq_true, okk_mem (xs := xs)]
    simp
theorem okk_put {n : Nat} {t : T} {x : Val} {kvs : List (T × Val)} (h : okk n kvs = true) (hx : okv n x = true) : okk n (put t x kvs) = true := by
  rw [okk_mem] at h ⊢
  unfold PI.put
  split
  · intro p m
    obtain ⟨q, hq, e⟩ := List.mem_map.mp m
    split at e
    · rw [← e]; exact hx
    · rw [← e]; exact h q hq
  · intro p m
    rcases List.mem_append.mp m with m | m
    · exact h p m
    · rw [List.mem_singleton.mp m]; exact hx
theorem okk_putAll {n : Nat} : ∀ {more kvs : List (T × Val)}, okk n kvs = true → okk n more = true → okk n (putAll kvs more) = true
  | [], kvs, h, _ => h
  | (j, y) :: more, kvs, h, h2 => by
    obtain ⟨h3, h4⟩ := Bool.and_eq_true_iff.mp (show (okv n y && okk n more) = true from h2)
    exact okk_putAll (more := more) (okk_put h h3) h4
/-- a dict, that may change or not -/
theorem Pu.mkD {m : Bool} {kvs : List (T × Val)} {zs : List (Key × V)} {Q : VK} {z : Val} {S1 : Store} (W : Wd K H μ S) (e : mkD m kvs S = some (z, S1)) (h : Pu K H μ S1 z Q) (r : RepK K H μ kvs zs) {p : Addr} (hp : H p = none) : Q (.ref p) (upd H p (.dK zs)) := by
  unfold PI.mkD at e
  cases m with
  | true =>
    cases e
    have g : Grow μ H (μ ++ [p]) (upd H p (.dK zs)) := Grow.alloc hp
    refine h _ _ (μ ++ [p]) g (W.alloc hp ⟨zs, upd_same, RepK.grow g _ _ r⟩ (by rw [← W.len]; exact RepK.ok _ _ r)) ?_
    exact repV_l.mpr ⟨p, by rw [List.getElem?_append_right (by rw [W.len]; exact Nat.le_refl _), W.len]; simp, rfl⟩
  | false =>
    cases e
    have g : Grow μ H μ (upd H p (.dK zs)) := Grow.fresh hp
    exact h _ _ μ g (W.fresh hp) (repV_dct.mpr ⟨p, zs, rfl, .inl upd_same, W.notin hp, RepK.grow g _ _ r⟩)

/-! ### o[i] = v -/
def rSetD : L2.TSet := fun o i v H Q => ∃ a H', o = .ref a ∧ DPut H a i v H' ∧ Q H'
theorem set_dict (hu : X.A.units + 1 < cLine) : PSet X rSetD := by
  intro pins s σ H o i v ov iv u Q I ro ri rv h
  obtain ⟨a, H', rfl, g, q⟩ := h
  cases ro
  exact d_setItem hu I g ri rv fun s' I' => ⟨H', I', q⟩
theorem PSet.or {t t' : L2.TSet} (h : PSet X t) (h' : PSet X t') : PSet X fun o i v H Q => t o i v H Q ∨ t' o i v H Q := fun pins s σ H o i v ov iv u Q I ro ri rv hw =>
  hw.elim (h pins s σ H o i v ov iv u Q I ro ri rv) (h' pins s σ H o i v ov iv u Q I ro ri rv)
theorem setV_ok {x i z : Val} {S1 : Store} {o j u : V} {Q : Hp → Prop} (W : Wd K H μ S) (e : setV x i z S = some S1) (ro : RepV K H μ x o) (ri : RepV K H μ i j) (rz : RepV K H μ z u) (h : ∀ H2, Grow μ H μ H2 → Wd K H2 μ S1 → Q H2) :
    rSetL o j u H Q ∨ rSetD o j u H Q := by
  unfold setV at e
  split at e
  · rename_i n
    split at e
    · rename_i ok
      split at e
      · rename_i xs hS
        obtain ⟨a, ys, hm, rfl, hq, rx⟩ := l_at W hS ro
        split at e
        · rename_i i
          split at e
          · rename_i j' hj
            cases e
            rw [repD_int.mp (repV_d.mp ri)]
            refine .inl ⟨a, ys, i, j', rfl, rfl, hq, by rw [rx.length]; exact hj, ?_⟩
            have gw : Grow μ H μ (upd H a (.lst (ys.set j' u))) := Grow.write hq rfl (List.mem_of_getElem? hm)
            obtain ⟨w3, g3⟩ := W.write (o := .lst (ys.set j' u)) (c := .lst (xs.set j' z)) hS hm ⟨_, upd_same, (RepVs.grow gw _ _ rx).set (RepV.grow gw _ _ rz)⟩
              (oks_mem.mpr fun y m => (List.mem_or_eq_of_mem_set m).elim (oks_mem.mp (W.ok n _ hS) y) (fun e => e ▸ ok))
            exact h _ g3 w3
          · cases e
        · cases e
      · rename_i kvs hS
        obtain ⟨a, zs, hm, rfl, hq, rx⟩ := d_at W hS ro
        split at e
        · rename_i t
          split at e
          · rename_i hz
            cases e
            obtain ⟨rfl, okt⟩ := repD_str.mp (repV_d.mp ri)
            refine .inr ⟨a, _, rfl, DPut.k (k := .inr (PI.S' t)) hq (by rw [rx.length, ← lim_eq]; exact hz), ?_⟩
            have gw : Grow μ H μ (upd H a (.dK (putK zs (.inr (PI.S' t)) u))) := Grow.write hq rfl (List.mem_of_getElem? hm)
            obtain ⟨w3, g3⟩ := W.write (o := .dK (putK zs (.inr (PI.S' t)) u)) (c := .dct (put t z kvs)) hS hm ⟨_, upd_same, (RepK.grow gw _ _ rx).put okt (RepV.grow gw _ _ rz)⟩ (okk_put (W.ok n _ hS) ok)
            exact h _ g3 w3
          · cases e
        · cases e
      · cases e
    · cases e
  · cases e
theorem s_setIdx {a i e : Expr} {pos' : Pos} {fa fi fe : Env → Store → R Val} (c : Ctx F C k s X) (ha : PE X a (tR X.K fa)) (hi : PE X i (tR X.K fi)) (he : PE X e (tR X.K fe)) (hix : plainIx i = true) (hk : (s.sc.kind == .function) = true) :
    PS X (.Assign [.Subscript a i pos'] e pos) (tS X.K fun ρ S => bnd (fe ρ S) fun v S => bnd (fa ρ S) fun x S => bnd (fi ρ S) fun y S => (setV x y v S).map fun S => .nx ρ S) := by
  have hk2 : X.env.scope.kind = .function := by rw [c.sc]; simpa using hk
  have hu : X.A.units + 1 < cLine := by have := c.hu; omega
  refine PS.imp (ps_asg he (pg_sub ha hi (PSet.or set_list (set_dict hu)) (by cases i <;> first | (intro _; rfl) | cases hix)) (show swapsWith e (some (.Subscript a i pos')) pos.line X.env = pure false from sw_no hk2 (by unfold swB; cases compScope e <;> rfl)) (sw_plain (.inl rfl)) rfl) fun D σ H ⟨μ, ρ, S, fl, w, re, e, q⟩ => ?_
  obtain ⟨v, S1, e1, e⟩ := bnd_eq e
  obtain ⟨x, S2, e2, e⟩ := bnd_eq e
  obtain ⟨y, S3, e3, e⟩ := bnd_eq e
  simp only [Option.map_eq_some_iff] at e
  obtain ⟨S4, e4, e5⟩ := e
  cases e5
  refine ⟨μ, ρ, S, v, S1, w, re, e1, fun u H1 μ1 g1 w1 r1 => ⟨μ1, ρ, S1, x, S2, w1, re.grow g1, e2, fun o H2 μ2 g2 w2 r2 => ⟨μ2, ρ, S2, y, S3, w2, (re.grow g1).grow g2, e3, fun j H3 μ3 g3 w3 r3 => ?_⟩⟩⟩
  exact setV_ok w3 e4 (RepV.grow g3 _ _ r2) r3 (RepV.grow (g2.trans g3) _ _ r1) fun H4 g4 w4 => q σ H4 μ3 (((g1.trans g2).trans g3).trans g4) w4 ((((re.grow g1).grow g2).grow g3).grow g4)

/-! ### a, b = x, y -/
theorem s_par2 {i j : Nat} {x y : PySem.Str} {a b : Expr} {fs : Env → Store → R (List Val)} {px py pt pt2 : Pos} {kt k2 : Nat} (c : Ctx F C k s X) (hi : F.N[i]? = some x) (hj : F.N[j]? = some y) (hij : i ≠ j) (hx : s.sc.names.lookup x = some .local) (hy : s.sc.names.lookup y = some .local)
    (ha : PA X [a, b] (tRs X.K fs)) (hk : (s.sc.kind == .function) = true) (hY : swY s.sc [.Name x px, .Name y py] [a, b] = true) (hn : nmsL s.sc [.Name x px, .Name y py] = [x, y]) :
    PS X (.Assign [.Tuple [.Name x px, .Name y py] kt pt] (.Tuple [a, b] k2 pt2) pos) (tS X.K fun ρ S => bnd (fs ρ S) fun vs S => (setAll [i, j] vs ρ).map fun ρ => .nx ρ S) := by
  have hk2 : X.env.scope.kind = .function := by rw [c.sc]; simpa using hk
  refine PS.imp (ps_par c.calm c.nd (by rw [c.N]; exact hi) (by rw [c.N]; exact hj) hij (by rw [c.sc]; exact hx) (by rw [c.sc]; exact hy) ha (by rw [sw_some hk2 (by rw [c.sc]; exact hY), c.sc, hn]) rfl) fun D σ H ⟨μ, ρ, S, fl, w, re, e, q⟩ => ?_
  obtain ⟨vs, S1, e1, e⟩ := bnd_eq e
  simp only [Option.map_eq_some_iff] at e
  obtain ⟨ρ', e2, e3⟩ := e
  cases e3
  refine ⟨μ, ρ, S, vs, S1, w, re, e1, fun us H1 μ1 g1 w1 r1 => ?_⟩
  match vs, e2 with
  | [v1, v2], e2 =>
    simp only [setAll] at e2
    cases e2
    obtain ⟨u1, r', rfl, q1, r1⟩ := repVs_cons.mp r1
    obtain ⟨u2, r', rfl, q2, r1⟩ := repVs_cons.mp r1
    rw [repVs_nil.mp r1]
    exact ⟨u1, u2, rfl, q _ H1 μ1 g1 w1 (((re.grow g1).set i q1).set j q2)⟩
  | [], e2 => simp [setAll] at e2
  | [_], e2 => simp [setAll] at e2
  | _ :: _ :: _ :: _, e2 => simp [setAll] at e2
theorem s_par3 {i j l : Nat} {x y z : PySem.Str} {a b d : Expr} {fs : Env → Store → R (List Val)} {px py pz pt pt2 : Pos} {kt k2 : Nat} (c : Ctx F C k s X) (hi : F.N[i]? = some x) (hj : F.N[j]? = some y) (hl : F.N[l]? = some z) (hij : i ≠ j) (hil : i ≠ l) (hjl : j ≠ l)
    (hx : s.sc.names.lookup x = some .local) (hy : s.sc.names.lookup y = some .local) (hz : s.sc.names.lookup z = some .local)
    (ha : PA X [a, b, d] (tRs X.K fs)) (hk : (s.sc.kind == .function) = true) (hY : swY s.sc [.Name x px, .Name y py, .Name z pz] [a, b, d] = true) (hn : nmsL s.sc [.Name x px, .Name y py, .Name z pz] = [x, y, z]) :
    PS X (.Assign [.Tuple [.Name x px, .Name y py, .Name z pz] kt pt] (.Tuple [a, b, d] k2 pt2) pos) (tS X.K fun ρ S => bnd (fs ρ S) fun vs S => (setAll [i, j, l] vs ρ).map fun ρ => .nx ρ S) := by
  have hk2 : X.env.scope.kind = .function := by rw [c.sc]; simpa using hk
  refine PS.imp (ps_par3 c.calm c.nd (by rw [c.N]; exact hi) (by rw [c.N]; exact hj) (by rw [c.N]; exact hl) hij hil hjl (by rw [c.sc]; exact hx) (by rw [c.sc]; exact hy) (by rw [c.sc]; exact hz) ha (by rw [sw_some hk2 (by rw [c.sc]; exact hY), c.sc, hn]) rfl) fun D σ H ⟨μ, ρ, S, fl, w, re, e, q⟩ => ?_
  obtain ⟨vs, S1, e1, e⟩ := bnd_eq e
  simp only [Option.map_eq_some_iff] at e
  obtain ⟨ρ', e2, e3⟩ := e
  cases e3
  refine ⟨μ, ρ, S, vs, S1, w, re, e1, fun us H1 μ1 g1 w1 r1 => ?_⟩
  match vs, e2 with
  | [v1, v2, v3], e2 =>
    simp only [setAll] at e2
    cases e2
    obtain ⟨u1, r', rfl, q1, r1⟩ := repVs_cons.mp r1
    obtain ⟨u2, r', rfl, q2, r1⟩ := repVs_cons.mp r1
    obtain ⟨u3, r', rfl, q3, r1⟩ := repVs_cons.mp r1
    rw [repVs_nil.mp r1]
    exact ⟨u1, u2, u3, rfl, q _ H1 μ1 g1 w1 ((((re.grow g1).set i q1).set j q2).set l q3)⟩
  | [], e2 => simp [setAll] at e2
  | [_], e2 => simp [setAll] at e2
  | [_, _], e2 => simp [setAll] at e2
  | _ :: _ :: _ :: _ :: _, e2 => simp [setAll] at e2
end
end PI
set_option Elab.async false
set_option linter.all false
set_option maxRecDepth 100000
set_option maxHeartbeats 1000000
/-! PI17: dict displays and methods, lists joined, is, sorted. -/
namespace PI
open PySem PySem.Spec PyProof.Rows L2 RZ
section
variable {F : Mc} {C : Calls} {k : Nat} {s : Sc} {X : Cx}
variable {K : PySem.W.Frag} {H H' H0 : Hp} {μ μ' μ2 : Ad} {S S' : Store} {v w : V}
variable {apos pos : Pos}

/-! ### d.get(k, x) -/
theorem getV_ok {x y z r : Val} {o j u : V} {Q : VK} (W : Wd K H μ S) (e : getV x y z S = some r) (ro : RepV K H μ x o) (rj : RepV K H μ y j) (rz : RepV K H μ z u) (h : ∀ v, RepV K H μ r v → Q v H) : ∃ a, o = .ref a ∧ ∃ ov, DGet H a j ov ∧ Q (ov.getD u) H := by
  have go : ∀ {a : Addr} {zs : List (Key × V)} {kvs : List (T × Val)} {t : T}, Rd H a (.dK zs) → RepK K H μ kvs zs → j = .str (PI.S' t) → r = (lkp t kvs).getD z → ∃ ov, DGet H a j ov ∧ Q (ov.getD u) H := fun {a zs kvs t} hr rk hj hr2 => by
    refine ⟨valV zs (.inr (PI.S' t)), .inl ⟨zs, .inr (PI.S' t), hr, hj, rfl⟩, ?_⟩
    cases hl : lkp t kvs with
    | some x' =>
      obtain ⟨v', e1, q⟩ := RepK.get rk hl
      rw [e1]
      rw [hl] at hr2
      subst hr2
      exact h _ q
    | none =>
      rw [RepK.none rk hl]
      rw [hl] at hr2
      subst hr2
      exact h _ rz
  unfold getV at e
  split at e
  · rename_i t
    obtain ⟨hj, _⟩ := repD_str.mp (repV_d.mp rj)
    split at e
    · cases e
      obtain ⟨a, zs, rfl, q, _, rk⟩ := repV_dct.mp ro
      exact ⟨a, rfl, go q rk hj rfl⟩
    · split at e
      · rename_i hS
        cases e
        obtain ⟨a, zs, _, rfl, q, rk⟩ := d_at W hS ro
        exact ⟨a, rfl, go (.inl q) rk hj rfl⟩
      · cases e
    · cases e
  · cases e
theorem e_get2 {o e f : Expr} {fo fe ff : Env → Store → R Val} (c : Ctx F C k s X) (ho : PE X o (tR X.K fo)) (he : PE X e (tR X.K fe)) (hf : PE X f (tR X.K ff)) (hb : baseB o = true) (hn : notStar e = true) (hn2 : notStar f = true) (hl : (apos.endLine == pos.line) = true) :
    PE X (.Call (.Attribute o "get" apos) [e, f] [] pos) (tR X.K fun ρ S => bnd (fo ρ S) fun x S => if isDc x S = true then bnd (fe ρ S) fun y S => bnd (ff ρ S) fun z S => (getV x y z S).map fun v => (v, S) else none) := by
  refine PE.imp (pe_dget2 (by have := c.hu; omega) ho he hf ⟨base_ok hb, few2 hn hn2, hl, by rw [star_each hn, star_each hn2]; rfl⟩) fun σ H Q ⟨μ, ρ, S, z, S', w, re, e, q⟩ => ?_
  obtain ⟨x, S1, e1, e⟩ := bnd_eq e
  split at e
  case isFalse => cases e
  rename_i hL
  obtain ⟨y, S2, e2, e⟩ := bnd_eq e
  obtain ⟨d, S3, e3, e⟩ := bnd_eq e
  simp only [Option.map_eq_some_iff] at e
  obtain ⟨z', e4, e5⟩ := e
  cases e5
  refine ⟨μ, ρ, S, x, S1, w, re, e1, fun u H1 μ1 g1 w1 r1 => ?_⟩
  obtain ⟨a, zs, rfl, hr⟩ := isDc_at w1 hL r1
  refine ⟨a, rfl, .inl ⟨zs, hr⟩, μ1, ρ, S1, y, S2, w1, re.grow g1, e2, fun j H2 μ2 g2 w2 r2 => ⟨μ2, ρ, S2, d, _, w2, (re.grow g1).grow g2, e3, fun u3 H3 μ3 g3 w3 r3 => ?_⟩⟩
  obtain ⟨a', ha, h⟩ := getV_ok w3 e4 (RepV.grow (g2.trans g3) _ _ r1) (RepV.grow g3 _ _ r2) r3 (Q := Q) fun v rv => (q.grow ((g1.trans g2).trans g3)).here w3 rv
  cases ha
  exact h

/-! ### d.update(e) -/
def rUpdate : V → List V → Hp → VK → Prop := fun x xs H Q => ∃ d o kvs more, x = .ref d ∧ xs = [.ref o] ∧ H d = some (.dK kvs) ∧ Rd H o (.dK more) ∧ d ≠ o ∧ kvs.length + more.length ≤ sizeLine ∧ Q .non (upd H d (.dK (mergeK kvs more)))
theorem mt_update : MtR X "dict.update" rUpdate := by
  intro pins s σ H x xs v us Q I rx rxs h
  obtain ⟨d, o, kvs, more, rfl, rfl, hd, ho, hne, hz, q⟩ := h
  cases rx
  obtain ⟨u, rfl, ru⟩ := rxs.one
  cases ru
  obtain ⟨z, hm, vs, rel, dd⟩ := dk_of I.hok hd
  obtain ⟨z2, hm2, vs2, rel2, dd2⟩ := dk_rd I.hok ho
  refine call_meetsIn PySem.F.slot_dict_update dd.typeIs PySem.F.entry_dict_update (PySem.F.args_dict_update_2 _ _) (meets_dict_update (mixKind X.prog X.w) d o hne hm2) ⟨vs, vs2, dd, dd2, by rw [← rel.length, ← rel2.length]; exact hz, fun h' dd' _ hs => ?_⟩
  have he : ∃ q, h'.get? d = some q := let ⟨q, _, _, hq, _⟩ := dd'; ⟨q, hq⟩
  exact ⟨.non, _, d_write I (t' := s.toks) (by rw [hd]; exact True.intro) hs he (dk_new (Nat.le_trans (length_mergeK more kvs) hz) hm (KV.merge rel2 rel) dd'), rfl, q⟩
theorem e_update {o e : Expr} {fo fe : Env → Store → R Val} (ho : PE X o (tR X.K fo)) (he : PE X e (tR X.K fe)) (hb : baseB o = true) (hn : notStar e = true) (hl : (apos.endLine == pos.line) = true) :
    PE X (.Call (.Attribute o "update" apos) [e] [] pos) (tR X.K fun ρ S => bnd (fo ρ S) fun x S => if isDc x S = true then bnd (fe ρ S) fun v S => (updV x v S).map fun S => (.d .non, S) else none) := by
  refine PE.imp (pe_bm F.plainAttrs_dict F.slot_dict_update F.type_dict_update mt_update ho (a_cons he a_nil hn) (base_ok hb) (few1 hn) hl (star_each hn) (no_stars rfl)) fun σ H Q ⟨μ, ρ, S, z, S', w, re, e, q⟩ => ?_
  obtain ⟨x, S1, e1, e⟩ := bnd_eq e
  split at e
  case isFalse => cases e
  rename_i hL
  obtain ⟨y, S2, e2, e⟩ := bnd_eq e
  simp only [Option.map_eq_some_iff] at e
  obtain ⟨S3, e3, e4⟩ := e
  cases e4
  refine ⟨μ, ρ, S, _, S1, w, re, e1, fun u H1 μ1 g1 w1 r1 => ?_⟩
  unfold updV at e3
  split at e3
  · rename_i n
    split at e3
    · rename_i more
      split at e3
      · rename_i ok
        split at e3
        · rename_i kvs hS
          split at e3
          · rename_i hz
            cases e3
            obtain ⟨a, hm, rfl⟩ := repV_l.mp r1
            have hty : L2.tyV X.K "dict" (.ref a) H1 := by
              unfold isDc at hL
              simp only at hL
              split at hL
              · rename_i kvs0 hS0
                obtain ⟨a', zs, hm', ha, hq, _⟩ := d_at w1 hS0 r1
                cases ha
                exact .inr (.inr (.inl ⟨rfl, .inl ⟨zs, hq⟩⟩))
              · cases hL
            refine ⟨hty, μ1, ρ, S1, [_], S2, w1, re.grow g1, (show bnd (fe ρ S1) _ = _ by rw [e2]; rfl), fun us H2 μ2 g2 w2 r2 => ?_⟩
            obtain ⟨u2, r', rfl, q2, r3⟩ := repVs_cons.mp r2
            rw [repVs_nil.mp r3]
            obtain ⟨a', zs, hm2, ha, hq, rk⟩ := d_at w2 hS (RepV.grow g2 _ _ r1)
            cases ha
            obtain ⟨b, ws, rfl, hr, hb, rk2⟩ := repV_dct.mp q2
            have hne : a ≠ b := fun e => hb (e ▸ List.mem_of_getElem? hm2)
            refine ⟨a, b, zs, ws, rfl, rfl, hq, hr, hne, ?_, ?_⟩
            · rw [rk.length, rk2.length, ← lim_eq]; exact Nat.le_of_lt hz
            · have gw : Grow μ2 H2 μ2 (upd H2 a (.dK (mergeK zs ws))) := Grow.write hq rfl (List.mem_of_getElem? hm2)
              obtain ⟨w3, g3⟩ := w2.write (o := .dK (mergeK zs ws)) (c := .dct (putAll kvs more)) hS hm2 ⟨_, upd_same, (RepK.grow gw _ _ rk).putAll (RepK.grow gw _ _ rk2)⟩ (okk_putAll (w2.ok n _ hS) ok.1)
              exact q _ _ μ2 ((g1.trans g2).trans g3) w3 (repV_d.mpr (repD_non.mpr rfl))
          · cases e3
        · cases e3
      · cases e3
    · cases e3
  · cases e3

/-! ### xs + ys, with lists that may change -/
theorem listV_ok {x : Val} {xs : List Val} (W : Wd K H μ S) (e : listV x S = some xs) (rx : RepV K H μ x v) : ∃ a ys, v = .ref a ∧ RepVs K H μ xs ys ∧ H a = some (.lst ys) := by
  unfold listV at e
  split at e
  · cases e
    obtain ⟨a, ys, rfl, q, _, r⟩ := repD_lst.mp (repV_d.mp rx)
    exact ⟨a, ys, rfl, RepVs.ds.mpr r, q⟩
  · cases e
    obtain ⟨a, ys, rfl, q, _, r⟩ := repV_vl.mp rx
    exact ⟨a, ys, rfl, r, q⟩
  · split at e
    · rename_i hS
      cases e
      obtain ⟨a, ys, _, rfl, q, r⟩ := l_at W hS rx
      exact ⟨a, ys, rfl, r, q⟩
    · cases e
  · cases e
theorem e_cat {m : Bool} {a b : Expr} {fa fb : Env → Store → R Val} (ha : PE X a (tR X.K fa)) (hb : PE X b (tR X.K fb)) :
    PE X (.BinOp a .Add b pos) (tR X.K fun ρ S => bnd (fa ρ S) fun x S => bnd (fb ρ S) fun y S => match listV x S with
    | some xs => match listV y S with
      | some ys => if xs.length + ys.length ≤ lim then mkL m (xs ++ ys) S else none
      | none => none
    | none => none) := by
  refine PE.imp (pe_op op_cat ha hb) fun σ H Q ⟨μ, ρ, S, z, S', w, re, e, q⟩ => ?_
  obtain ⟨x, S1, e1, e⟩ := bnd_eq e
  obtain ⟨y, S2, e2, e⟩ := bnd_eq e
  refine ⟨μ, ρ, S, x, S1, w, re, e1, fun u H1 μ1 g1 w1 r1 => ⟨μ1, ρ, S1, y, S2, w1, re.grow g1, e2, fun u2 H2 μ2 g2 w2 r2 => ?_⟩⟩
  split at e
  · rename_i xs hx
    split at e
    · rename_i ys hy
      split at e
      · rename_i hz
        obtain ⟨a, us, rfl, r3, q3⟩ := listV_ok w2 hx (RepV.grow g2 _ _ r1)
        obtain ⟨b, vs, rfl, r4, q4⟩ := listV_ok w2 hy r2
        refine ⟨a, b, us, vs, rfl, rfl, q3, q4, ?_, fun p hp => Pu.mkL w2 e (q.grow (g1.trans g2)) (r3.append r4) hp⟩
        rw [r3.length, r4.length, ← lim_eq]; exact hz
      · cases e
    · cases e
  · cases e

/-! ### == with lists that may change -/
theorem dataV_dp {x : Val} {d : D} (W : Wd K H μ S) (e : dataV x S = some d) (rx : RepV K H μ x v) : Dp K H v d.py ∧ d.py.canLay0 = true := by
  unfold dataV at e
  split at e
  · cases e
    exact RepD.dp _ _ (repV_d.mp rx)
  · split at e
    · rename_i hS
      simp only [Option.map_eq_some_iff] at e
      obtain ⟨ds, e1, rfl⟩ := e
      obtain ⟨a, ys, _, rfl, q, r⟩ := l_at W hS rx
      rw [datas_eq e1] at r
      obtain ⟨r1, r2⟩ := RepDs.dp _ _ (RepVs.ds.mp r)
      exact ⟨.lst (SqL.of q) r1, by simp only [D.py, PyData.canLay0]; exact r2⟩
    · cases e
  · cases e
def eqOp (ng : Bool) : CmpOp := if ng then .NotEq else .Eq
theorem e_eqL {ng : Bool} {a b : Expr} {fa fb : Env → Store → R Val} (c : Ctx F C k s X) (ha : PE X a (tR X.K fa)) (hb : PE X b (tR X.K fb)) (hm : behindInMarks (eqOp ng) b = false) (f : Env → Store → R Val)
    (hf : f = fun ρ S => bnd (fa ρ S) fun x S => bnd (fb ρ S) fun y S => match dataV x S with
    | some x => match dataV y S with
      | some y => if min x.dep y.dep ≤ 60 then some (.d (.bl (D.eq x y != ng)), S) else none
      | none => none
    | none => none) :
    PE X (.Compare a [eqOp ng] [b] pos) (tR X.K f) ∧ PT X (.Compare a [eqOp ng] [b] pos) (tRb X.K f) := by
  have hop : OpR X (compareOp (eqOp ng)) (rEq2 X.K fun b => b != ng) := by
    cases ng with
    | false => exact (show (fun b : Bool => b != false) = fun b => b from by funext b; cases b <;> rfl) ▸ or_eq2 c.hu
    | true => exact (show (fun b : Bool => b != true) = fun b => !b from by funext b; cases b <;> rfl) ▸ or_ne2 c.hu
  have key : ∀ {ρ : Env} {S S' : Store} {z : Val}, f ρ S = some (z, S') → ∃ x S1 y d1 d2, fa ρ S = some (x, S1) ∧ fb ρ S1 = some (y, S') ∧ dataV x S' = some d1 ∧ dataV y S' = some d2 ∧ min d1.dep d2.dep ≤ 60 ∧ z = .d (.bl (D.eq d1 d2 != ng)) := fun {ρ S S' z} e => by
    rw [hf] at e
    obtain ⟨x, S1, e1, e⟩ := bnd_eq e
    obtain ⟨y, S2, e2, e⟩ := bnd_eq e
    split at e
    · rename_i d1 h1
      split at e
      · rename_i d2 h2
        split at e
        · rename_i hz
          cases e
          exact ⟨x, S1, y, d1, d2, e1, e2, h1, h2, hz, rfl⟩
        · cases e
      · cases e
    · cases e
  constructor
  · refine PE.imp (pe_cmpR hop ha hb hm) fun σ H Q ⟨μ, ρ, S, z, S', w, re, e, q⟩ => ?_
    obtain ⟨x, S1, y, d1, d2, e1, e2, h1, h2, hz, rfl⟩ := key e
    refine ⟨μ, ρ, S, _, S1, w, re, e1, fun u H1 μ1 g1 w1 r1 => ⟨μ1, ρ, S1, _, S', w1, re.grow g1, e2, fun v H2 μ2 g2 w2 r2 => ?_⟩⟩
    obtain ⟨p1, c1⟩ := dataV_dp w2 h1 (RepV.grow g2 _ _ r1)
    obtain ⟨p2, c2⟩ := dataV_dp w2 h2 r2
    exact ⟨_, _, p1, p2, c1, c2, by rw [D.dep_py, D.dep_py]; exact hz, by rw [D.eq_py]; exact (q.grow (g1.trans g2)).here w2 (repV_d.mpr (repD_bl.mpr rfl))⟩
  · refine PT.imp (pt_cmpR hop ha hb hm) fun σ H Q ⟨μ, ρ, S, z, S', w, re, e, q⟩ => ?_
    obtain ⟨x, S1, y, d1, d2, e1, e2, h1, h2, hz, e4⟩ := key e
    cases e4
    refine ⟨μ, ρ, S, _, S1, w, re, e1, fun u H1 μ1 g1 w1 r1 => ⟨μ1, ρ, S1, _, S', w1, re.grow g1, e2, fun v H2 μ2 g2 w2 r2 => ?_⟩⟩
    obtain ⟨p1, c1⟩ := dataV_dp w2 h1 (RepV.grow g2 _ _ r1)
    obtain ⟨p2, c2⟩ := dataV_dp w2 h2 r2
    exact ⟨_, _, p1, p2, c1, c2, by rw [D.dep_py, D.dep_py]; exact hz, by rw [D.eq_py]; exact ⟨_, rfl, q H2 μ2 (g1.trans g2) w2⟩⟩
end
end PI
set_option Elab.async false
set_option linter.all false
set_option maxRecDepth 100000
set_option maxHeartbeats 1000000
/-! PI18: texts sorted, texts split. -/
namespace PI
open PySem PySem.Spec PyProof.Rows L2 RZ

/-! ### the order of texts -/
theorem lt_cons {a b : Nat} {x y : T} : (a :: x < b :: y) ↔ a < b ∨ (a = b ∧ x < y) := List.cons_lt_cons_iff
theorem nil_lt {x : T} : ([] < x) ↔ x ≠ [] := by cases x <;> simp
theorem not_lt_nil {x : T} : ¬ x < [] := by simp
theorem ltCps_eq : ∀ x y : T, ltCps x y = decide (x < y)
  | [], [] => by simp [ltCps]
  | [], b :: y => by simp [ltCps]
  | a :: x, [] => by simp [ltCps]
  | a :: x, b :: y => by
    rw [show decide (a :: x < b :: y) = decide (a < b ∨ (a = b ∧ x < y)) from decide_eq_decide.mpr lt_cons]
    simp only [ltCps]
    by_cases h : a = b
    · subst h; simp [ltCps_eq x y]
    · simp [h]
theorem lt_irr (x : T) : ¬ x < x := List.lt_irrefl x
theorem lt_tr {x y z : T} : x < y → y < z → x < z := List.lt_trans
theorem lt_tot {x y : T} (h : ¬ x < y) (h2 : x ≠ y) : y < x := by
  rcases List.le_iff_lt_or_eq.mp (List.not_lt.mp h) with h | h
  · exact h
  · exact absurd h.symm h2
theorem le_tr {x y z : T} (h : ¬ y < x) (h2 : ¬ z < y) : ¬ z < x := fun h3 => by
  by_cases e : x = y
  · subst e; exact h2 h3
  · by_cases e2 : y = z
    · subst e2; exact h h3
    · exact lt_irr _ (lt_tr (lt_tr h3 (lt_tot h (Ne.symm e))) (lt_tot h2 (Ne.symm e2)))
/-- each is at most the next ones -/
def Up (xs : List T) : Prop := xs.Pairwise fun a b => ¬ b < a
theorem insT_perm (x : T) : ∀ ys : List T, (insT x ys).Perm (x :: ys)
  | [] => List.Perm.refl _
  | y :: ys => by
    unfold insT
    split
    · exact List.Perm.refl _
    · exact ((insT_perm x ys).cons y).trans (List.Perm.swap x y ys)
theorem sortT_perm : ∀ xs : List T, (sortT xs).Perm xs
  | [] => List.Perm.refl _
  | x :: xs => (insT_perm x _).trans ((sortT_perm xs).cons x)
theorem insT_up (x : T) : ∀ ys : List T, Up ys → Up (insT x ys)
  | [], _ => by simp [insT, Up]
  | y :: ys, h => by
    have h' := List.pairwise_cons.mp h
    unfold insT
    split
    · rename_i hx
      refine List.pairwise_cons.mpr ⟨fun b m => ?_, h⟩
      rcases List.mem_cons.mp m with m | m
      · rw [m]; exact fun q => lt_irr _ (lt_tr q hx)
      · exact fun q => h'.1 b m (lt_tr q hx)
    · rename_i hx
      refine List.pairwise_cons.mpr ⟨fun b m => ?_, insT_up x ys h'.2⟩
      rcases List.mem_cons.mp ((insT_perm x ys).mem_iff.mp m) with m | m
      · rw [m]; exact hx
      · exact h'.1 b m
theorem sortT_up : ∀ xs : List T, Up (sortT xs)
  | [] => List.Pairwise.nil
  | x :: xs => insT_up x _ (sortT_up xs)
theorem up_unique : ∀ {xs ys : List T}, Up xs → Up ys → xs.Perm ys → xs = ys
  | [], ys, _, _, p => (List.Perm.nil_eq p)
  | x :: xs, [], _, _, p => absurd p.length_eq (by simp)
  | x :: xs, y :: ys, h1, h2, p => by
    have a := List.pairwise_cons.mp h1
    have b := List.pairwise_cons.mp h2
    have e : x = y := by
      by_cases e : x = y
      · exact e
      · have m1 : y ∈ xs := by
          have := p.mem_iff.mpr (List.mem_cons_self (a := y) (l := ys))
          rcases List.mem_cons.mp this with z | z
          · exact absurd z.symm e
          · exact z
        have m2 : x ∈ ys := by
          have := p.mem_iff.mp (List.mem_cons_self (a := x) (l := xs))
          rcases List.mem_cons.mp this with z | z
          · exact absurd z e
          · exact z
        exact absurd (lt_tot (a.1 y m1) (Ne.symm e)) (b.1 x m2)
    subst e
    rw [up_unique a.2 b.2 ((List.perm_cons x).mp p)]
theorem S'_cps (t : T) : (S' t).cps.toList = t := by simp [S']
theorem cps_S' (z : PySem.Str) : S' z.cps.toList = z := by simp [S']
theorem rising_up : ∀ {xs : List T} {p : T}, risingS (S' p) (xs.map S') = true → Up (p :: xs)
  | [], p, _ => by simp [Up]
  | x :: xs, p, h => by
    simp only [List.map_cons, risingS, Bool.and_eq_true, Bool.not_eq_true', S'_cps, ltCps_eq, decide_eq_false_iff_not] at h
    have r := rising_up h.2
    refine List.pairwise_cons.mpr ⟨fun b m => ?_, r⟩
    rcases List.mem_cons.mp m with m | m
    · rw [m]; exact h.1
    · exact le_tr h.1 ((List.pairwise_cons.mp r).1 b m)
theorem sorted_eq {xs : List T} {ys : List PySem.Str} (p : ys.Perm (xs.map S')) (h : sortedS ys = true) : ys = (sortT xs).map S' := by
  have e : ys = (ys.map fun z => z.cps.toList).map S' := by
    rw [List.map_map]
    conv => lhs; rw [← List.map_id ys]
    exact List.map_congr_left fun z _ => (cps_S' z).symm
  have p2 : (ys.map fun z => z.cps.toList).Perm xs := by
    have := p.map fun z : PySem.Str => z.cps.toList
    rw [List.map_map] at this
    have e2 : (xs.map ((fun z : PySem.Str => z.cps.toList) ∘ S')) = xs := by
      conv => rhs; rw [← List.map_id xs]
      exact List.map_congr_left fun t _ => S'_cps t
    rw [e2] at this
    exact this
  have up : Up (ys.map fun z => z.cps.toList) := by
    generalize hz : (ys.map fun z => z.cps.toList) = zs at e
    rw [e] at h
    cases zs with
    | nil => exact List.Pairwise.nil
    | cons z zs => exact rising_up h
  rw [e, up_unique up (sortT_up xs) (p2.trans (sortT_perm xs).symm)]

/-! ### x.split(c) -/
theorem splitAt1_free {c : Nat} : ∀ {p : T}, c ∉ p → splitAt1 c p = [p]
  | [], _ => rfl
  | x :: p, h => by
    simp only [List.mem_cons, not_or] at h
    simp only [splitAt1]
    rw [if_neg (Ne.symm h.1), splitAt1_free h.2]
theorem splitAt1_app {c : Nat} {w : T} : ∀ {p : T}, c ∉ p → splitAt1 c (p ++ c :: w) = p :: splitAt1 c w
  | [], _ => by simp [splitAt1]
  | x :: p, h => by
    simp only [List.mem_cons, not_or] at h
    rw [List.cons_append]
    simp only [splitAt1]
    rw [if_neg (Ne.symm h.1), splitAt1_app h.2]
theorem splitAt1_join {c : Nat} : ∀ {ps : List T}, ps ≠ [] → (∀ p ∈ ps, c ∉ p) → splitAt1 c (joinT [c] ps) = ps
  | [], h, _ => absurd rfl h
  | [p], _, h => splitAt1_free (h p (by simp))
  | p :: q :: r, _, h => by
    show splitAt1 c (p ++ [c] ++ joinT [c] (q :: r)) = _
    rw [List.append_assoc, List.singleton_append, splitAt1_app (h p (by simp)), splitAt1_join (by simp) fun x m => h x (List.mem_cons_of_mem _ m)]
theorem split_eq (t : T) (c : Nat) : Txt.split (S' t) ⟨#[c]⟩ = (splitAt1 c t).map S' := by
  have e : Txt.split (S' t) ⟨#[c]⟩ = ((Txt.split (S' t) ⟨#[c]⟩).map fun z => z.cps.toList).map S' := by
    rw [List.map_map]
    conv => lhs; rw [← List.map_id (Txt.split (S' t) ⟨#[c]⟩)]
    exact List.map_congr_left fun z _ => (cps_S' z).symm
  have h1 := StrLaws.join_split (S' t) ⟨#[c]⟩
  have h2 := StrLaws.split_free (S' t) c
  have h3 := split_pos (S' t) ⟨#[c]⟩
  generalize hz : ((Txt.split (S' t) ⟨#[c]⟩).map fun z => z.cps.toList) = zs at e
  have hne : zs ≠ [] := fun q => by
    rw [e, q] at h3
    simp at h3
  rw [e] at h1 h2
  have hc : (⟨#[c]⟩ : PySem.Str) = S' [c] := rfl
  rw [hc, joinT_S'] at h1
  have h1' := congrArg (fun z : PySem.Str => z.cps.toList) h1
  simp only [S'_cps] at h1'
  rw [e, ← h1', splitAt1_join hne fun p m => ?_]
  have := h2 (S' p) (List.mem_map.mpr ⟨p, m, rfl⟩)
  rw [S'_cps] at this
  exact this
end PI
set_option Elab.async false
set_option linter.all false
set_option maxRecDepth 100000
set_option maxHeartbeats 1000000
/-! PI19: sorted, split, is True, dict displays, dict(..). -/
namespace PI
open PySem PySem.Spec PyProof.Rows L2 RZ
section
variable {F : Mc} {C : Calls} {k : Nat} {s : Sc} {X : Cx}
variable {K : PySem.W.Frag} {H H' H0 : Hp} {μ μ' μ2 : Ad} {S S' : Store} {v w : V}
variable {apos pos : Pos}

/-! ### sorted(xs), sorted(d) -/
theorem texts_ok {xs : List D} {ts : List T} {ys : List V} (e : texts xs = some ts) (r : RepDs K H μ xs ys) : ys = (ts.map PI.S').map .str ∧ ∀ t ∈ ts, okT t = true := by
  rw [texts_map e] at r
  exact repDs_str r
theorem RepK.keys : ∀ {kvs : List (T × Val)} {zs : List (Key × V)}, RepK K H μ kvs zs → zs.map (·.1) = (kvs.map fun p => PI.S' p.1).map Sum.inr ∧ ∀ t ∈ kvs.map (·.1), okT t = true
  | [], zs, r => by unfold RepK at r; subst r; simp
  | (j, y) :: kvs, zs, r => by
    unfold RepK at r
    obtain ⟨w, r', rfl, o, _, r⟩ := r
    obtain ⟨h1, h2⟩ := RepK.keys r
    refine ⟨by simp only [List.map_cons, h1], fun t m => ?_⟩
    rcases List.mem_cons.mp m with m | m
    · rw [m]; exact o
    · exact h2 t m
/-- how a value's texts stand -/
theorem textsV_ok {x : Val} {ts : List T} (W : Wd K H μ S) (e : textsV x S = some ts) (rx : RepV K H μ x v) : ∃ a, v = .ref a ∧ (∀ t ∈ ts, okT t = true) ∧
    (SqL K H a ((ts.map PI.S').map .str) ∨ SqT K H a ((ts.map PI.S').map .str)) := by
  unfold textsV at e
  split at e
  · obtain ⟨a, ys, rfl, q, _, r⟩ := repD_lst.mp (repV_d.mp rx)
    obtain ⟨rfl, o⟩ := texts_ok e r
    exact ⟨a, rfl, o, .inl (SqL.of q)⟩
  · obtain ⟨a, ys, rfl, q, r⟩ := repD_tup.mp (repV_d.mp rx)
    obtain ⟨rfl, o⟩ := texts_ok e r
    exact ⟨a, rfl, o, .inr q.t⟩
  · cases e
theorem textsL_ok {x : Val} {ts : List T} (W : Wd K H μ S) (e : textsL x S = some ts) (rx : RepV K H μ x v) : ∃ a, v = .ref a ∧ (∀ t ∈ ts, okT t = true) ∧
    (SqL K H a ((ts.map PI.S').map .str) ∨ ∃ zs, Rd H a (.dK zs) ∧ zs.map (·.1) = (ts.map PI.S').map Sum.inr) := by
  unfold textsL at e
  split at e
  · obtain ⟨a, ys, rfl, q, _, r⟩ := repD_lst.mp (repV_d.mp rx)
    obtain ⟨rfl, o⟩ := texts_ok e r
    exact ⟨a, rfl, o, .inl (SqL.of q)⟩
  · cases e
    obtain ⟨a, zs, rfl, q, _, r⟩ := repV_dct.mp rx
    obtain ⟨h1, h2⟩ := r.keys
    exact ⟨a, rfl, h2, .inr ⟨zs, q, by rw [h1, List.map_map, List.map_map, List.map_map]; rfl⟩⟩
  · split at e
    · rename_i hS
      obtain ⟨a, ys, _, rfl, q, r⟩ := l_at W hS rx
      split at e
      · rename_i ds hd
        rw [datas_eq hd] at r
        obtain ⟨rfl, o⟩ := texts_ok e (RepVs.ds.mp r)
        exact ⟨a, rfl, o, .inl (SqL.of q)⟩
      · cases e
    · rename_i hS
      cases e
      obtain ⟨a, zs, _, rfl, q, r⟩ := d_at W hS rx
      obtain ⟨h1, h2⟩ := r.keys
      exact ⟨a, rfl, h2, .inr ⟨zs, .inl q, by rw [h1, List.map_map, List.map_map, List.map_map]; rfl⟩⟩
    · cases e
  · cases e
theorem repDs_of_str : ∀ {ts : List T}, (∀ t ∈ ts, okT t = true) → RepDs K H μ (ts.map .str) ((ts.map PI.S').map .str)
  | [], _ => repDs_nil.mpr rfl
  | t :: ts, h => repDs_cons.mpr ⟨_, _, rfl, repD_str.mpr ⟨rfl, h t (by simp)⟩, repDs_of_str fun x m => h x (List.mem_cons_of_mem _ m)⟩
/-- a new list of texts -/
theorem Pu.strs {ts : List T} {Q : VK} (W : Wd K H μ S) (h : Pu K H μ S (.d (.lst (ts.map .str))) Q) (o : ∀ t ∈ ts, okT t = true) {p : Addr} (hp : H p = none) : Q (.ref p) (upd H p (.lst ((ts.map PI.S').map V.str))) :=
  Pu.lst W h (RepVs.ds.mpr (repDs_of_str o)) (.inr ⟨_, rfl, rfl⟩) hp
def rSortX (K : PySem.W.Frag) : List V → Hp → VK → Prop := fun xs H Q => rSortedS K xs H Q ∨ ∃ (a : Addr) (kvs : List (Key × V)) (ks : List PySem.Str), xs = [.ref a] ∧ Rd H a (.dK kvs) ∧ kvs.map (·.1) = ks.map Sum.inr ∧ ks.length < 64 ∧
    ∀ ys p, ys.Perm ks → sortedS ys = true → H p = none → Q (.ref p) (upd H p (.lst (ys.map V.str)))
theorem cr_sortX (hc : X.calm = true) : CallR X (.builtin "sorted") (rSortX X.K) := CallR.or cr_sortedS (call_sortedD hc)
theorem b1_sorted {x z : Val} {S1 : Store} {Q : VK} (W : Wd K H μ S) (e : b1V .sorted x S = some (z, S1)) (rx : RepV K H μ x v) (h : Pu K H μ S1 z Q) : rSortX K [v] H Q := by
  simp only [b1V] at e
  split at e
  · rename_i ts ht
    split at e
    · rename_i hl
      cases e
      obtain ⟨a, rfl, o, hq⟩ := textsL_ok W ht rx
      have fin : ∀ (ys : List PySem.Str) (p : Addr), ys.Perm (ts.map PI.S') → sortedS ys = true → H p = none → Q (.ref p) (upd H p (.lst (ys.map V.str))) := fun ys p h1 h2 hp => by
        rw [sorted_eq h1 h2]
        exact Pu.strs W h (fun t m => o t ((sortT_perm ts).mem_iff.mp m)) hp
      rcases hq with hq | ⟨zs, hq, hk⟩
      · exact .inl ⟨a, ts.map PI.S', rfl, hq, by rw [List.length_map]; exact hl, fin⟩
      · exact .inr ⟨a, zs, ts.map PI.S', rfl, hq, hk, by rw [List.length_map]; exact hl, fin⟩
    · cases e
  · cases e

/-! ### x.split(c) -/
theorem okT_mem {t : T} : okT t = true ↔ ∀ c ∈ t, c < 1114112 := by
  unfold okT
  simp
theorem splitAt1_mem {c : Nat} : ∀ {t p : T} {x : Nat}, p ∈ splitAt1 c t → x ∈ p → x ∈ t
  | [], p, x, hp, hx => by
    simp only [splitAt1, List.mem_singleton] at hp
    subst hp; exact hx
  | y :: t, p, x, hp, hx => by
    simp only [splitAt1] at hp
    split at hp
    · rcases List.mem_cons.mp hp with hp | hp
      · subst hp; cases hx
      · exact List.mem_cons_of_mem _ (splitAt1_mem hp hx)
    · split at hp
      · rename_i h0
        rcases List.mem_singleton.mp hp with rfl
        rcases List.mem_singleton.mp hx with rfl
        exact List.mem_cons_self
      · rename_i q qs hq
        rcases List.mem_cons.mp hp with hp | hp
        · subst hp
          rcases List.mem_cons.mp hx with hx | hx
          · subst hx; exact List.mem_cons_self
          · exact List.mem_cons_of_mem _ (splitAt1_mem (by rw [hq]; exact List.mem_cons_self) hx)
        · exact List.mem_cons_of_mem _ (splitAt1_mem (by rw [hq]; exact List.mem_cons_of_mem _ hp) hx)
theorem e_split {o e : Expr} {fo fe : Env → Store → R Val} (ho : PE X o (tR X.K fo)) (he : PE X e (tR X.K fe)) (hb : baseB o = true) (hn : notStar e = true) (hl : (apos.endLine == pos.line) = true) :
    PE X (.Call (.Attribute o "split" apos) [e] [] pos) (tR X.K fun ρ S => bnd (fo ρ S) fun x S => bnd (fe ρ S) fun y S => match x with
    | .d (.str s) => match y with
      | .d (.str [c]) => if s.length + 2 ≤ lim then some (.d (.lst ((splitAt1 c s).map .str)), S) else none
      | _ => none
    | _ => none) := by
  refine PE.imp (pe_m1 F.slot_str_split F.type_str_split mt_split ho he (star_each hn) (base_ok hb) hl) fun σ H Q ⟨μ, ρ, S, z, S', w, re, e, q⟩ => ?_
  obtain ⟨x, S1, e1, e⟩ := bnd_eq e
  obtain ⟨y, S2, e2, e⟩ := bnd_eq e
  split at e
  · rename_i t
    split at e
    · rename_i c
      split at e
      · rename_i hz
        cases e
        refine ⟨μ, ρ, S, _, S1, w, re, e1, fun u H1 μ1 g1 w1 r1 => ?_⟩
        obtain ⟨rfl, o1⟩ := repD_str.mp (repV_d.mp r1)
        refine ⟨⟨_, rfl⟩, μ1, ρ, S1, _, _, w1, re.grow g1, e2, fun u2 H2 μ2 g2 w2 r2 => ?_⟩
        obtain ⟨rfl, o2⟩ := repD_str.mp (repV_d.mp r2)
        refine ⟨_, _, rfl, rfl, rfl, by rw [S'_length, ← lim_eq]; exact hz, ?_⟩
        intro p hp
        rw [show PI.S' [c] = (⟨#[c]⟩ : PySem.Str) from rfl, split_eq]
        exact Pu.strs w2 (q.grow (g1.trans g2)) (fun p m => okT_mem.mpr fun x hx => okT_mem.mp o1 x (splitAt1_mem m hx)) hp
      · cases e
    · cases e
  · cases e

/-! ### x is True -/
def isOp (ng : Bool) : CmpOp := if ng then .IsNot else .Is
theorem e_isB {ng b : Bool} {a : Expr} {j pos' : _} {fa : Env → Store → R Val} (ha : PE X a (tR X.K fa)) (f : Env → Store → R Val)
    (hf : f = fun ρ S => bnd (fa ρ S) fun x S => match x with
    | .d (.bl c) => some (.d (.bl ((c == b) != ng)), S)
    | _ => none) :
    PE X (.Compare a [isOp ng] [.Constant (.bool b) j pos'] pos) (tR X.K f) ∧ PT X (.Compare a [isOp ng] [.Constant (.bool b) j pos'] pos) (tRb X.K f) := by
  have hop : OpR X (compareOp (isOp ng)) (fun x y H Q => ∃ c d : Bool, x = .bl c ∧ y = .bl d ∧ Q (.bl ((c == d) != ng)) H) := by
    intro pins s σ H x y v u Q I rx ry ⟨c, d, hx, hy, q⟩
    cases ng with
    | false => exact op_isBl pins s σ H x y v u Q I rx ry ⟨c, d, hx, hy, by rw [show decide (c = d) = ((c == d) != false) by cases c <;> cases d <;> rfl]; exact q⟩
    | true => exact op_notBl pins s σ H x y v u Q I rx ry ⟨c, d, hx, hy, by rw [show (!decide (c = d)) = ((c == d) != true) by cases c <;> cases d <;> rfl]; exact q⟩
  have hm : behindInMarks (isOp ng) (.Constant (.bool b) j pos') = false := by cases ng <;> rfl
  have key : ∀ {ρ : Env} {S S' : Store} {z : Val}, f ρ S = some (z, S') → ∃ c, fa ρ S = some (.d (.bl c), S') ∧ z = .d (.bl ((c == b) != ng)) := fun {ρ S S' z} e => by
    rw [hf] at e
    obtain ⟨x, S1, e1, e⟩ := bnd_eq e
    split at e
    · cases e; exact ⟨_, e1, rfl⟩
    · cases e
  constructor
  · refine PE.imp (pe_cmpR hop ha pe_bl hm) fun σ H Q ⟨μ, ρ, S, z, S', w, re, e, q⟩ => ?_
    obtain ⟨c, e1, rfl⟩ := key e
    refine ⟨μ, ρ, S, _, S', w, re, e1, fun u H1 μ1 g1 w1 r1 => ?_⟩
    exact ⟨c, b, repD_bl.mp (repV_d.mp r1), rfl, (q.grow g1).here w1 (repV_d.mpr (repD_bl.mpr rfl))⟩
  · refine PT.imp (pt_cmpR hop ha pe_bl hm) fun σ H Q ⟨μ, ρ, S, z, S', w, re, e, q⟩ => ?_
    obtain ⟨c, e1, e2⟩ := key e
    cases e2
    refine ⟨μ, ρ, S, _, S', w, re, e1, fun u H1 μ1 g1 w1 r1 => ?_⟩
    exact ⟨c, b, repD_bl.mp (repV_d.mp r1), rfl, _, rfl, q H1 μ1 g1 w1⟩
end
end PI
set_option Elab.async false
set_option linter.all false
set_option maxRecDepth 100000
set_option maxHeartbeats 1000000
/-! PI20: dict displays, dict(..). -/
namespace PI
open PySem PySem.Spec PyProof.Rows L2 RZ
/-- a thing u in the making, with what is kept for it -/
structure Hu (K : PySem.W.Frag) (μ : Ad) (H0 : Hp) (d : Addr) (u : HO) (vs : List Val) (ws : List V) (H : Hp) (μ' : Ad) (S : Store) : Prop where
  none : H0 d = none
  at_ : H d = some u
  ex : ∃ φ, Grow μ H0 μ' (upd H d (.ext φ)) ∧ Wd K (upd H d (.ext φ)) μ' S ∧ RepVs K (upd H d (.ext φ)) μ' vs ws
section
variable {K : PySem.W.Frag} {H H' H0 H1 : Hp} {μ μ' μ2 : Ad} {S S' : Store} {d : Addr} {u : HO} {ws : List V} {vs : List Val}
theorem Hu.any (h : Hu K μ H0 d u vs ws H μ' S) (φ : Heap → Prop) : Grow μ H0 μ' (upd H d (.ext φ)) ∧ Wd K (upd H d (.ext φ)) μ' S ∧ RepVs K (upd H d (.ext φ)) μ' vs ws := by
  obtain ⟨φ0, g, w, r⟩ := h.ex
  have e : upd H d (.ext φ) = upd (upd H d (.ext φ0)) d (.ext φ) := upd_upd.symm
  rw [e]
  exact ⟨g.since h.none, w.over upd_same, RepVs.gr (Gr.over upd_same) _ _ r⟩
theorem Hu.start (w : Wd K H0 μ S) (h : H0 d = Option.none) : Hu K μ H0 d u [] [] (upd H0 d u) μ S :=
  ⟨h, upd_same, fun _ => True, by rw [upd_upd]; exact Grow.fresh h, by rw [upd_upd]; exact w.fresh h, repVs_nil.mpr rfl⟩
theorem Hu.push (h : Hu K μ H0 d u vs ws H μ' S) {φ : Heap → Prop} {x : Val} {v : V} (g : Grow μ' (upd H d (.ext φ)) μ2 H') (w : Wd K H' μ2 S') (r : RepV K H' μ2 x v) :
    Hu K μ H0 d u (vs ++ [x]) (ws ++ [v]) (upd H' d u) μ2 S' := by
  obtain ⟨g0, w0, r0⟩ := h.any φ
  have e : H' d = some (.ext φ) := g.ext d φ upd_same
  have e2 : upd (upd H' d u) d (.ext φ) = H' := by rw [upd_upd, upd_eq e]
  refine ⟨h.none, upd_same, φ, by rw [e2]; exact g0.trans g, by rw [e2]; exact w, ?_⟩
  rw [e2]
  exact (RepVs.grow g _ _ r0).append (repVs_cons.mpr ⟨v, [], rfl, r, repVs_nil.mpr rfl⟩)
/-- keys and values -/
def zipK (ks : List T) (ws : List V) : List (Key × V) := (ks.zip ws).map fun p => (.inr (PI.S' p.1), p.2)
theorem zipK_cons (k : T) (ks : List T) (w : V) (ws : List V) : zipK (k :: ks) (w :: ws) = (.inr (PI.S' k), w) :: zipK ks ws := rfl
theorem repK_zip : ∀ {ks : List T} {vs : List Val} {ws : List V}, ks.all okT = true → RepVs K H μ vs ws → RepK K H μ (ks.zip vs) (zipK ks ws)
  | [], vs, ws, _, _ => by simp only [List.zip_nil_left, zipK, List.map_nil]; exact RepK.nil
  | k :: ks, [], ws, _, r => by rw [repVs_nil.mp r]; simp only [List.zip_nil_right, zipK, List.map_nil]; exact RepK.nil
  | k :: ks, x :: vs, ws, o, r => by
    obtain ⟨w, r', rfl, q, t⟩ := repVs_cons.mp r
    obtain ⟨o1, o2⟩ := Bool.and_eq_true_iff.mp (show (okT k && ks.all okT) = true from o)
    rw [zipK_cons]
    exact RepK.cons o1 q (repK_zip o2 t)
theorem Hu.finD {m : Bool} {z : Val} {kvs : List (T × Val)} {zs : List (Key × V)} (h : Hu K μ H0 d u vs ws H μ' S) (e : mkD m kvs S = some (z, S')) (hk : ∀ {H μ}, RepVs K H μ vs ws → RepK K H μ kvs zs) :
    ∃ μ2, Grow μ H0 μ2 (upd H d (.dK zs)) ∧ Wd K (upd H d (.dK zs)) μ2 S' ∧ RepV K (upd H d (.dK zs)) μ2 z (.ref d) := by
  obtain ⟨g, w, r⟩ := h.any fun _ => True
  have hH : upd (upd H d (.ext fun _ => True)) d (.dK zs) = upd H d (.dK zs) := upd_upd
  have gn : Grow μ H0 μ' (upd H d (.dK zs)) := by have := g.since (o := .dK zs) h.none; rw [hH] at this; exact this
  have wn : Wd K (upd H d (.dK zs)) μ' S := by have := w.over (o := .dK zs) upd_same; rw [hH] at this; exact this
  have rn : RepVs K (upd H d (.dK zs)) μ' vs ws := by have := RepVs.gr (Gr.over (μ := μ') (o := .dK zs) upd_same) _ _ r; rw [hH] at this; exact this
  have nd : d ∉ μ' := fun m => by
    obtain ⟨u, e', mu⟩ := w.tracked m
    rw [upd_same] at e'; cases e'; cases mu
  unfold PI.mkD at e
  cases m with
  | true =>
    cases e
    refine ⟨μ' ++ [d], gn.adopt h.none, ?_, repV_l.mpr ⟨d, by rw [List.getElem?_append_right (by rw [w.len]; exact Nat.le_refl _), w.len]; simp, rfl⟩⟩
    have := w.adopt (o := .dK zs) (c := .dct kvs) upd_same ⟨zs, upd_same, hk (RepVs.mv (Mv.adopt upd_same) _ _ r)⟩ (by rw [← w.len]; exact RepK.ok _ _ (hk r))
    rw [hH] at this
    exact this
  | false =>
    cases e
    exact ⟨μ', gn, wn, repV_dct.mpr ⟨d, zs, rfl, .inl upd_same, nd, hk rn⟩⟩
end
section
variable {F : Mc} {C : Calls} {k : Nat} {s : Sc} {X : Cx}
variable {K : PySem.W.Frag} {H H' H0 : Hp} {μ μ' μ2 : Ad} {S S' : Store} {v w : V}
variable {apos pos : Pos}
/-- a display's keys and values -/
inductive Dsp (X : Cx) (pos : Pos) : List (Option Expr) → List Expr → List T → (Env → Store → R (List Val)) → Prop
  | nil : Dsp X pos [] [] [] (fun _ S => some ([], S))
  | cons {t : T} {j : _} {p : Pos} {e : Expr} {f : Env → Store → R Val} {keys es ts fs} (he : PE X e (tR X.K f)) (r : Dsp X pos keys es ts fs) :
      Dsp X pos (some (.Constant (.str (PI.S' t)) j p) :: keys) (e :: es) (t :: ts) (fun ρ S => bnd (f ρ S) fun v S => bnd (fs ρ S) fun vs S => some (v :: vs, S))
theorem dsp_len {keys es ts fs} (h : Dsp X pos keys es ts fs) : keys.length = ts.length ∧ es.length = ts.length ∧ keys.all (·.isSome) = true := by
  induction h with
  | nil => exact ⟨rfl, rfl, rfl⟩
  | cons he r ih => exact ⟨by simp [ih.1], by simp [ih.2.1], by simp [ih.2.2]⟩
theorem dsp_pps {keys es ts fs} (h : Dsp X pos keys es ts fs) : ∃ trs : List (TE × TE), PPs X pos keys es trs ∧ ∀ (σ : L2.St) (d : Addr) (H0 H : Hp) (μ0 μ : Ad) (ρ : Env) (S S' : Store) (vs0 vs : List Val) (ws0 : List V) (Q : List (V × V) → Hp → Prop),
    Hu X.K μ0 H0 d (.dK []) vs0 ws0 H μ S → RepE X.K H0 μ0 ρ σ → fs ρ S = some (vs, S') →
    (∀ ws H' μ', Hu X.K μ0 H0 d (.dK []) (vs0 ++ vs) (ws0 ++ ws) H' μ' S' → ws.length = ts.length → Q ((zipK ts ws).map fun kv => (kV kv.1, kv.2)) H') → tPairs trs σ H Q := by
  induction h with
  | nil => exact ⟨[], pps_nil, fun σ d H0 H μ0 μ ρ S S' vs0 vs ws0 Q hu re e q => by
      cases e
      exact q [] H μ (by rw [List.append_nil, List.append_nil]; exact hu) rfl⟩
  | @cons t j p e f keys es ts fs he r ih =>
    obtain ⟨trs, hp, key⟩ := ih
    refine ⟨(tC (.str (PI.S' t)), hE (tR X.K f)) :: trs, pps_cons pe_str (pe_hide he) hp, fun σ d H0 H μ0 μ ρ S S' vs0 vs ws0 Q hu re e q => ?_⟩
    obtain ⟨x, S1, e1, e⟩ := bnd_eq e
    obtain ⟨xs, S2, e2, e⟩ := bnd_eq e
    cases e
    refine ⟨d, _, hu.at_, rfl, fun φ => ?_⟩
    obtain ⟨g1, w1, r1⟩ := hu.any φ
    refine ⟨μ, ρ, S, x, S1, w1, re.grow g1, e1, fun u H2 μ2 g2 w2 r2 => ⟨g2.ext d φ upd_same, ?_⟩⟩
    refine key σ d H0 _ μ0 μ2 ρ S1 S' (vs0 ++ [x]) xs (ws0 ++ [u]) _ (hu.push g2 w2 r2) re e2 fun ws H' μ' hu' hl => ?_
    have := q (u :: ws) H' μ' (by rw [← List.append_cons, ← List.append_cons] at hu'; exact hu') (by simp [hl])
    exact this
theorem e_dct {m : Bool} {keys : List (Option Expr)} {es : List Expr} {ts : List T} {fs : Env → Store → R (List Val)} (h : Dsp X pos keys es ts fs) (h0 : ts ≠ []) (h15 : ts.length ≤ 15) (ho : ts.all okT = true) :
    PE X (.Dict keys es pos) (tR X.K fun ρ S => bnd (fs ρ S) fun vs S => mkD m (putAll [] (ts.zip vs)) S) := by
  obtain ⟨l1, l2, l3⟩ := dsp_len h
  obtain ⟨trs, hp, key⟩ := dsp_pps h
  refine PE.imp (pe_disp hp l3 (by rw [l1, l2]) (fun e => h0 (List.eq_nil_of_length_eq_zero (by rw [← l1, e]; rfl))) (by rw [l1]; exact h15)) fun σ H Q ⟨μ, ρ, S, z, S', w, re, e, q⟩ => ?_
  obtain ⟨vs, S1, e1, e⟩ := bnd_eq e
  intro p hp
  refine key σ p H (upd H p (.dK [])) μ μ ρ S S1 [] vs [] _ (Hu.start w hp) re e1 fun ws H' μ' hu hl => ?_
  rw [List.nil_append, List.nil_append] at hu
  refine ⟨hu.at_, zipK ts ws, rfl, ?_, ?_⟩
  · unfold zipK
    rw [List.length_map, List.length_zip, hl]
    omega
  · obtain ⟨μ2, g2, w2, r2⟩ := hu.finD (zs := mergeK [] (zipK ts ws)) e fun r => RepK.nil.putAll (repK_zip ho r)
    exact q _ _ μ2 g2 w2 r2
theorem e_dct0 {m : Bool} : PE X (.Dict [] [] pos) (tR X.K fun ρ S => mkD m [] S) :=
  PE.imp pe_dnewK fun σ H Q ⟨μ, ρ, S, z, S', w, re, e, q⟩ => fun p hp => Pu.mkD w e q RepK.nil hp

/-! ### dict(..) -/
theorem pairsD_ok : ∀ {xs : List D} {kvs : List (T × Val)} {ys : List V}, pairsD xs = some kvs → RepDs K H μ xs ys → ∃ (ps : List Addr) (zs : List (Key × V)), ys = ps.map V.ref ∧ Paired (fun p kv => SqT K H p [kV kv.1, kv.2]) ps zs ∧ RepK K H μ kvs zs
  | [], kvs, ys, e, r => by
    simp only [pairsD] at e
    cases e
    exact ⟨[], [], repDs_nil.mp r, .nil, RepK.nil⟩
  | x :: xs, kvs, ys, e, r => by
    obtain ⟨w, r', rfl, q, t⟩ := repDs_cons.mp r
    simp only [pairsD] at e
    split at e
    · rename_i k v
      simp only [Option.map_eq_some_iff] at e
      obtain ⟨kvs', e1, rfl⟩ := e
      obtain ⟨ps, zs, rfl, hp, rk⟩ := pairsD_ok e1 t
      obtain ⟨a, us, rfl, hq, ru⟩ := repD_tup.mp q
      obtain ⟨u1, us1, rfl, q1, ru⟩ := repDs_cons.mp ru
      obtain ⟨u2, us2, rfl, q2, ru⟩ := repDs_cons.mp ru
      rw [repDs_nil.mp ru] at hq
      obtain ⟨rfl, o⟩ := repD_str.mp q1
      exact ⟨a :: ps, (.inr (PI.S' k), u2) :: zs, rfl, .cons hq.t hp, RepK.cons o (repV_d.mpr q2) rk⟩
    · cases e
/-- the pairs as they stand in the heap -/
theorem pairs_at {pins : List (Addr × Obj)} {σ : L2.St} {H : Hp} {s : Shared} (I : Inv X pins σ H s) : ∀ {ps : List Addr} {zs : List (Key × V)}, Paired (fun p kv => SqT X.K H p [kV kv.1, kv.2]) ps zs →
    ∃ (prs : List (Key × Value)) (us : List (Value × Value)), KV zs prs ∧ prs.length = ps.length ∧ us.length = ps.length ∧ ∀ (j : Nat) (k v : Value), us[j]? = some (k, v) → ∃ b kk, ps[j]? = some b ∧ s.heap.IsTuple b #[k, v] ∧ prs[j]? = some (kk, v) ∧ keyIs kk k = true
  | _, _, .nil => ⟨[], [], .nil, rfl, rfl, fun j k v e => by simp at e⟩
  | _, _, .cons (a := p) (b := kv) h t => by
    obtain ⟨prs, us, r, l1, l2, hp⟩ := pairs_at I t
    obtain ⟨its, rv, ht, _⟩ := I.tuple h
    obtain ⟨u, y, rfl, ru, ry⟩ := vals2 rv
    refine ⟨(kv.1, y) :: prs, (u, y) :: us, .cons ⟨rfl, ry⟩ r, by simp [l1], by simp [l2], fun j k v e => ?_⟩
    cases j with
    | zero =>
      simp only [List.getElem?_cons_zero, Option.some.injEq, Prod.mk.injEq] at e
      obtain ⟨rfl, rfl⟩ := e
      exact ⟨p, kv.1, rfl, ht, rfl, kV_is (P := X.prog) (w := X.w) ru⟩
    | succ j =>
      obtain ⟨b, kk, h1, h2, h3, h4⟩ := hp j k v (by simpa using e)
      exact ⟨b, kk, by simpa using h1, h2, by simpa using h3, h4⟩
theorem exact_at {pins : List (Addr × Obj)} {σ : L2.St} {H : Hp} {s : Shared} {a : Addr} {xs : List V} (I : Inv X pins σ H s) (h : SqX X.K H a xs) : ∃ its : List Value, Vals xs its ∧ PlainSeq "tuple" s.heap a its.toArray ∧ xs.length ≤ sizeLine := by
  rcases h with ⟨o, hd, h⟩ | ⟨o, its, n, h1, h2, h3, h4, h5, h6⟩
  · obtain ⟨e, z, us, r, o', e', hc, n, hdat⟩ := I.hok a _ h
    rw [e] at e'; cases e'
    exact ⟨us, r, ⟨o, n, e, hc, hd, hdat⟩, z⟩
  · refine ⟨its.toList, h6, ⟨o, n, I.kIn a o h1, h2, h3, by simpa using h4⟩, ?_⟩
    have e := h6.length
    simp only [Array.length_toList] at e
    omega
/-- dict(t) of a tuple of pairs -/
def rDictT (K : PySem.W.Frag) : List V → Hp → VK → Prop := fun xs H Q => ∃ (a : Addr) (ps : List Addr) (zs : List (Key × V)), xs = [.ref a] ∧ SqX K H a (ps.map V.ref) ∧ Paired (fun p kv => SqT K H p [kV kv.1, kv.2]) ps zs ∧
  ∀ p, H p = none → Q (.ref p) (upd H p (.dK (mergeK [] zs)))
theorem call_dictT (hcalm : X.calm = true) : CallR X (.type "dict") (rDictT X.K) := by
  intro pins s σ H xs us Q I r ⟨a, ps, zs, hxs, hq, hp, q⟩
  subst hxs
  obtain ⟨u, rfl, rx⟩ := vals1 r
  cases rx
  obtain ⟨its, rv, pl, hz⟩ := exact_at I hq
  have ei := refs_at rv
  subst ei
  rw [List.length_map] at hz
  obtain ⟨prs, us, rel, l1, l2, hpr⟩ := pairs_at I hp
  have ok : PlainSeq "tuple" s.heap a (ps.map Value.ref).toArray ∧ PairItems s.heap (ps.map Value.ref).toArray (fun j => ps[j]?.getD 0) us := by
    refine ⟨pl, by simp [l2], fun j k v e => ?_⟩
    obtain ⟨b, kk, h1, h2, h3, h4⟩ := hpr j k v e
    exact ⟨by simp [h1], by simp only [h1]; exact .inl h2⟩
  refine call_dict_pairs (knd := mixKind X.prog X.w) (kvs := prs) (PairArg.tuple a _ _ us) (I.ok.hd hcalm) ok ⟨by rw [l1, l2], fun i key v e => ?_⟩ (by rw [l2]; exact hz) fun h' tk hd' hk => ?_
  · obtain ⟨b, kk, h1, h2, h3, h4⟩ := hpr i key v e
    exact ⟨kk, h3, h4⟩
  · have hm : (s.heap.objs.size == sysModules) = false := beq_eq_false_iff_ne.mpr (Nat.ne_of_gt I.big)
    have hlen : (mergeK [] zs).length ≤ sizeLine := by
      refine Nat.le_trans (length_mergeK zs []) ?_
      rw [List.length_nil, Nat.zero_add, rel.length, l1]
      exact hz
    exact ⟨.ref s.heap.objs.size, _, I.laid (o := .dK (mergeK [] zs)) (t' := tk) (fun b o e => hk b o (fun m => nomatch m) e) (Nat.le_refl _) ⟨hlen, hm, merged [] prs, KV.merge rel .nil, hd'⟩, rfl, q _ I.fresh⟩
def rDictX (K : PySem.W.Frag) : List V → Hp → VK → Prop := fun xs H Q => (∃ (a : Addr) (ps : List Addr) (kvs : List (Key × V)), xs = [.ref a] ∧ SqL K H a (ps.map V.ref) ∧ Paired (fun p kv => SqT K H p [kV kv.1, kv.2]) ps kvs ∧
    ∀ p, H p = none → Q (.ref p) (upd H p (.dK (mergeK [] kvs)))) ∨ rDictT K xs H Q ∨ ∃ (a : Addr) (kvs : List (Key × V)), xs = [.ref a] ∧ Rd H a (.dK kvs) ∧ ∀ p, H p = none → Q (.ref p) (upd H p (.dK kvs))
theorem cr_dictX (hc : X.calm = true) : CallR X (.type "dict") (rDictX X.K) := (call_dictP hc).or ((call_dictT hc).or call_dictD)
theorem dictV_ok {m : Bool} {x z : Val} {S1 : Store} {Q : VK} (W : Wd K H μ S) (e : dictV m x S = some (z, S1)) (rx : RepV K H μ x v) (h : Pu K H μ S1 z Q) : rDictX K [v] H Q := by
  unfold dictV at e
  split at e
  · split at e
    · rename_i kvs hk
      obtain ⟨a, ys, rfl, q, _, r⟩ := repD_lst.mp (repV_d.mp rx)
      obtain ⟨ps, zs, rfl, hp, rk⟩ := pairsD_ok hk r
      exact .inl ⟨a, ps, zs, rfl, SqL.of q, hp, fun p hp => Pu.mkD W e h (RepK.nil.putAll rk) hp⟩
    · cases e
  · split at e
    · rename_i kvs hk
      obtain ⟨a, ys, rfl, q, r⟩ := repD_tup.mp (repV_d.mp rx)
      obtain ⟨ps, zs, rfl, hp, rk⟩ := pairsD_ok hk r
      exact .inr (.inl ⟨a, ps, zs, rfl, q, hp, fun p hp => Pu.mkD W e h (RepK.nil.putAll rk) hp⟩)
    · cases e
  · obtain ⟨a, zs, rfl, q, _, r⟩ := repV_dct.mp rx
    exact .inr (.inr ⟨a, zs, rfl, q, fun p hp => Pu.mkD W e h r hp⟩)
  · cases e
end
end PI
set_option Elab.async false
set_option linter.all false
set_option maxRecDepth 100000
set_option maxHeartbeats 3200000
/-! PI21: sets of texts, as they stand. -/
namespace PI
open PySem PySem.Spec PyProof.Rows L2 RZ
/-- the text of an entry -/
def entT (e : Int × Value) : PySem.Str := match e.2 with
  | .str z _ => z
  | _ => Str.empty
def IsT (w : World) (e : Int × Value) : Prop := ∃ z t, e.2 = Value.str z t ∧ e.1 = hashStr w z
/-- l: the members, each once, in no order -/
def SetX (w : World) (h : Heap) (a : Addr) (l : List PySem.Str) : Prop := l.Nodup ∧
  ∃ o es ep tb, h.get? a = some o ∧ o.ExactSet ∧ o.data = .set es ep tb ∧ (∀ e ∈ es.toList, IsT w e) ∧ (es.toList.map entT).Perm l ∧ es.size < scanBound ∧ tb.fits es.size = true ∧ Ris tb.place.toList ∧ (w.params.followText "set-order" = true ∨ tb.led = true)
/-- one more, if it is new -/
def addN (l : List PySem.Str) (z : PySem.Str) : List PySem.Str := if z ∈ l then l else z :: l
theorem addN_len (l : List PySem.Str) (z : PySem.Str) : (addN l z).length ≤ l.length + 1 := by unfold addN; split <;> simp
section
variable {P : Program} {w : World} {h h' : Heap} {a : Addr} {l : List PySem.Str}
theorem SetX.keep (R : SetX w h a l) (k : ∀ o, h.get? a = some o → h'.get? a = some o) : SetX w h' a l := by
  obtain ⟨nd, o, es, ep, tb, ho, r⟩ := R
  exact ⟨nd, o, es, ep, tb, k o ho, r⟩
theorem SetX.some (R : SetX w h a l) : ∃ o, h.get? a = some o := let ⟨_, o, _, _, _, ho, _⟩ := R; ⟨o, ho⟩
theorem isT_is {e : Int × Value} (g : IsT w e) (z : PySem.Str) : (strKind P w).is z e.2 = true ↔ entT e = z := by
  obtain ⟨y, t, e1, _⟩ := g
  unfold entT
  rw [e1]
  show Value.isStrOf z (.str y t) = true ↔ y = z
  simp only [Value.isStrOf, beq_iff_eq]
theorem isT_elems {es : List (Int × Value)} (g : ∀ e ∈ es, IsT w e) : ElemsOf (strKind P w) es := fun e he => by
  obtain ⟨z, t, e1, e2⟩ := g e he
  exact ⟨⟨z, (isT_is (g e he) z).mpr (by unfold entT; rw [e1]), e2⟩, by rw [e1]; rfl⟩
def newObjT (w : World) : Obj := { cls := .type "set", dict := none, data := .set #[] 0 (.fresh 0 0 (!w.params.followText "set-order")) }
theorem setX_empty (ho : h.get? a = some (newObjT w)) : SetX w h a [] :=
  ⟨List.nodup_nil, _, #[], 0, _, ho, ⟨rfl, rfl, rfl⟩, rfl, fun e m => by simp at m, by simp, by decide, rfl, List.Pairwise.nil, by
    cases hf : w.params.followText "set-order"
    · exact .inr rfl
    · exact .inl rfl⟩
theorem setX_of {o : Obj} {es : Array (Int × Value)} {ep : Nat} {tb : SetTable} (nd : l.Nodup) (ho : h.get? a = some o) (hx : o.ExactSet) (hd : o.data = .set es ep tb) (g : ∀ e ∈ es.toList, IsT w e) (pm : (es.toList.map entT).Perm l) (hb : es.size < scanBound) (hf : tb.fits es.size = true) (hr : Ris tb.place.toList)
    (hl : w.params.followText "set-order" = true ∨ tb.led = true) : SetX w h a l := ⟨nd, o, es, ep, tb, ho, hx, hd, g, pm, hb, hf, hr, hl⟩
end
section
variable {P : Program} {w : World} {A : Around} {E : Value → Shared → Prop} {s : Shared} {a : Addr} {l : List PySem.Str}
/-- the end of an add: the table is stored, and laid anew where it is too full -/
theorem setX_store {gv : Bool → Sem Unit} (hg : ∀ (b : Bool) (s1 : Shared) (Q' : Unit → Shared → Prop), Q' () s1 → wpAny (model P w) A (gv b) Q' E s1)
    {o : Obj} {es : Array (Int × Value)} {ep : Nat} {tb : SetTable} (ho : s.heap.get? a = some o) (hx : o.ExactSet) (hd : o.data = .set es ep tb)
    {es1 : Array (Int × Value)} {tb2 : SetTable} (nd : l.Nodup) (g : ∀ e ∈ es1.toList, IsT w e) (pm : (es1.toList.map entT).Perm l) (hb : es1.size < scanBound) (hf : tb2.fits es1.size = true) (hr : Ris tb2.place.toList)
    (hl : w.params.followText "set-order" = true ∨ tb2.led = true) {dm : Bool} {Q : Option Bool → Shared → Prop} (hQ : ∀ h', Heap.SameBut a s.heap h' → SetX w h' a l → Q (some true) { s with heap := h' }) :
    wpAny (model P w) A (do
        storeSet a es1 tb2
        if (!dm && tb2.tooFull) = true then do
            gv (relayAll tb2 es1 (SetTable.grown es1.size)).2.2
            storeSet a (relayAll tb2 es1 (SetTable.grown es1.size)).1 (relayAll tb2 es1 (SetTable.grown es1.size)).2.1
            pure (some true)
          else pure (some true)) Q E s := by
  have o1 := store_at (es' := es1) (t' := tb2) ho hd
  have sb := Heap.SameBut.update s.heap a (Obj.putSet es1 tb2)
  refine wpAny_bind (wpAny_storeSet_of ho hd ?_ (fits_of_scanBound hb))
  split
  · have p2 := relayAll_perm tb2 es1 (SetTable.grown es1.size)
    have f2 := relayAll_fits tb2 es1 (SetTable.grown es1.size)
    have r2 := relayAll_ris tb2 es1 (SetTable.grown es1.size)
    have l2 := relayAll_led tb2 es1 (SetTable.grown es1.size)
    generalize relayAll tb2 es1 (SetTable.grown es1.size) = Y at p2 f2 r2 l2 ⊢
    obtain ⟨es2, tb3, gave⟩ := Y
    dsimp only at p2 f2 r2 l2 ⊢
    have n2 : es2.size = es1.size := by rw [← Array.length_toList, p2.length_eq, Array.length_toList]
    have b2 : es2.size < scanBound := n2 ▸ hb
    refine wpAny_bind (hg _ _ _ (wpAny_bind (wpAny_storeSet_of o1 rfl ?_ (fits_of_scanBound b2))))
    have o2 := store_at (es' := es2) (t' := tb3) o1 rfl
    exact wpAny_pure (hQ _ (sb.trans (Heap.SameBut.update _ a _)) (setX_of nd o2 hx rfl (fun e m => g e (p2.mem_iff.mp m)) ((p2.map entT).trans pm) b2 f2 r2 (hl.imp id fun z => by rw [l2]; exact z)))
  · exact wpAny_pure (hQ _ sb (setX_of nd o1 hx rfl g pm hb hf hr hl))
/-- a text is added -/
theorem setX_add {z : PySem.Str} {t : Tok} {Q : Bool → Shared → Prop} (R : SetX w s.heap a l) (room : l.length + 1 < scanBound)
    (hQ : ∀ h' b, Heap.SameBut a s.heap h' → SetX w h' a (addN l z) → Q b { s with heap := h' }) : wpAny (model P w) A (setAddHashed a (.str z t) ((strKind P w).hash z)) Q E s := by
  obtain ⟨nd, o, es, ep, tb, ho, hx, hd, g, pm, hb, hf, hr, hl⟩ := id R
  have kz : (strKind P w).is z (.str z t) = true := strKind_is _ _ _ _
  have sc : (Value.str z t).scannable = true := rfl
  have el : ElemsOf (strKind P w) es.toList := isT_elems g
  unfold setAddHashed setAddHashedIn
  refine wpAny_holding (wpAny_bind (wpAny_setState_of ho hd hf ?_))
  dsimp only
  rw [byScan_of sc hb el]
  simp only [↓reduceIte]
  unfold setAddByScan
  refine wpAny_bind (wpAny_bind (wpAny_rule (wpAny_bind (wpAny_setScan_of kz ho hd hf el ?_))))
  have gave : ∀ (b : Bool) {s1 : Shared} {Q' : Unit → Shared → Prop}, Q' () s1 → wpAny (model P w) A (match b with | true => rule "set.scan.the-table-gave-way" | false => pure ()) Q' E s1 :=
    fun b s1 Q' q => by cases b <;> first | exact wpAny_pure q | exact wpAny_rule q
  cases fi : List.findIdx? (fun e => (strKind P w).is z e.2) es.toList with
  | some j =>
    obtain ⟨hj, pj, _⟩ := List.findIdx?_eq_some_iff_getElem.mp fi
    have hz : z ∈ l := pm.mem_iff.mp (List.mem_map.mpr ⟨es.toList[j], List.getElem_mem hj, (isT_is (P := P) (g _ (List.getElem_mem hj)) z).mp pj⟩)
    refine wpAny_pure (wpAny_pure ?_)
    exact hQ s.heap _ (Heap.SameBut.refl a s.heap) (by unfold addN; rw [if_pos hz]; exact R)
  | none =>
    have hz : z ∉ l := fun m => by
      obtain ⟨e, he, q⟩ := List.mem_map.mp (pm.mem_iff.mpr m)
      have := List.findIdx?_eq_none_iff.mp fi e he
      rw [(isT_is (P := P) (g e he) z).mpr q] at this
      cases this
    have p1 := layNew_perm tb es ((strKind P w).hash z) (.str z t)
    have f1 := layNew_fits tb es ((strKind P w).hash z) (.str z t)
    have r1 := layNew_ris tb es ((strKind P w).hash z) (.str z t) hr
    have l1 := layNew_led tb es ((strKind P w).hash z) (.str z t)
    dsimp only
    generalize layNew tb es ((strKind P w).hash z) (.str z t) = Y at p1 f1 r1 l1 ⊢
    obtain ⟨es1, tb1, dm, gv⟩ := Y
    dsimp only at p1 f1 r1 l1 ⊢
    rw [Array.toList_push] at p1
    have pc : es1.toList.Perm (((strKind P w).hash z, Value.str z t) :: es.toList) := p1.trans (List.perm_append_singleton _ _)
    have pk : (es1.toList.map entT).Perm (addN l z) := by
      unfold addN
      rw [if_neg hz]
      exact (pc.map entT).trans (pm.cons z)
    have nd1 : (addN l z).Nodup := by
      unfold addN
      rw [if_neg hz]
      exact List.nodup_cons.mpr ⟨hz, nd⟩
    have g1 : ∀ e ∈ es1.toList, IsT w e := fun e m => by
      rcases List.mem_cons.mp (pc.mem_iff.mp m) with q | q
      · rw [q]; exact ⟨z, t, rfl, rfl⟩
      · exact g e q
    have n1 : es1.size = l.length + 1 := by
      have := pk.length_eq
      unfold addN at this
      rw [if_neg hz, List.length_map, Array.length_toList] at this
      exact this
    have b1 : es1.size < scanBound := n1 ▸ room
    have led : w.params.followText "set-order" = true ∨ tb1.led = true := hl.imp id fun q => by rw [l1]; exact q
    refine wpAny_bind (gave _ ?_)
    split
    · refine wpAny_bind ?_
      rw [hashByValue_scannable 8 sc]
      refine wpAny_pure ?_
      refine setX_store (fun b s1 Q' q => gave b q) ho hx hd nd1 g1 pk b1 ?_ ?_ ?_ fun h' sb r => ?_
      · first | (split <;> first | exact f1 | exact SetTable.fits_plain_off f1) | exact f1
      · first | (split <;> exact r1) | exact r1
      · first | (split <;> exact led) | exact led
      · dsimp only
        exact wpAny_pure (hQ h' _ sb r)
    · refine wpAny_bind (wpAny_pure ?_)
      simp only [↓reduceIte]
      refine setX_store (fun b s1 Q' q => gave b q) ho hx hd nd1 g1 pk b1 f1 r1 led fun h' sb r => ?_
      dsimp only
      exact wpAny_pure (hQ h' _ sb r)
end
end PI
set_option Elab.async false
set_option linter.all false
set_option maxRecDepth 100000
set_option maxHeartbeats 3200000
/-! PI22: set(xs) of texts; sorted, len of such a set. -/
namespace PI
open PySem PySem.Spec PyProof.Rows L2 RZ
/-- the texts of xs, each once -/
def dedupS : List PySem.Str → List PySem.Str → List PySem.Str
  | l, [] => l
  | l, z :: r => dedupS (addN l z) r
theorem dedupS_snoc : ∀ (r l : List PySem.Str) (z : PySem.Str), dedupS l (r ++ [z]) = addN (dedupS l r) z
  | [], l, z => rfl
  | y :: r, l, z => dedupS_snoc r (addN l y) z
theorem dedupS_len : ∀ (r l : List PySem.Str), (dedupS l r).length ≤ l.length + r.length
  | [], l => Nat.le_refl _
  | y :: r, l => by
    have := dedupS_len r (addN l y)
    have := addN_len l y
    show (dedupS (addN l y) r).length ≤ l.length + (r.length + 1)
    omega
section
variable {P : Program} {w : World} {A : Around} {E : Value → Shared → Prop} {s : Shared}
/-- the loop that takes an iterator's texts into a set -/
theorem setX_loop {I : Addr} {fp wr : List Addr} {G : Array GenState → Array GenState → Prop} {n : Nat} {Pv : Nat → Value → Prop} {St : Nat → Shared → Prop} {R : Result → Shared → Prop}
    (W : WalksS P w A.in1 I fp wr G n Pv St) (d : Addr) (hd : d ∉ fp) (zs : List PySem.Str) (hn : n = zs.length) (hb : zs.length + 1 < scanBound) (hv : ∀ i v, Pv i v → ∃ z t, zs[i]? = some z ∧ v = .str z t) :
    ∀ (m i : Nat) (s : Shared), n - i = m → i ≤ n → St i s → SetX w s.heap d (dedupS [] (zs.take i)) →
      (∀ s', Moved (d :: wr) G s s' → SetX w s'.heap d (dedupS [] zs) → R (.ok (.ret .none)) s') → codeAny (model P w) A (.builtin "set.update.loop" ⟨[.ref d, .ref I], []⟩) R s := by
  have off : d ∉ wr := fun h => hd (W.sub _ h)
  have sub : ∀ b ∈ wr, b ∈ d :: wr := fun b m => List.mem_cons_of_mem _ m
  intro m
  induction m with
  | zero =>
    intro i s hm hi st R0 fin
    obtain rfl : i = n := by omega
    refine codeAny_builtin F.entry_set_update_loop ?_
    rw [Around.under_plainId F.plain_set_update_loop _]
    show wpAny _ A.in1 (pyNext (.ref I) >>= _) _ _ s
    refine wpAny_bind (W.done s _ _ st fun s' mv => ?_)
    rw [List.take_of_length_le (Nat.le_of_eq hn.symm)] at R0
    exact wpAny_pure (fin s' (mv.mono sub) (R0.keep fun o e => mv.heap d o off e))
  | succ m ih =>
    intro i s hm hi st R0 fin
    have lt : i < n := by omega
    refine codeAny_builtin F.entry_set_update_loop ?_
    rw [Around.under_plainId F.plain_set_update_loop _]
    show wpAny _ A.in1 (pyNext (.ref I) >>= _) _ _ s
    refine wpAny_bind (W.item i s _ _ lt st fun v s' hP st' mv => ?_)
    obtain ⟨z, t, hz, rfl⟩ := hv i v hP
    have R1 : SetX w s'.heap d (dedupS [] (zs.take i)) := R0.keep fun o e => mv.heap d o off e
    show wpAny _ A.in1 (holding [Value.str z t] (setAdd d (.str z t)) >>= _) _ _ s'
    refine wpAny_bind (wpAny_holding ?_)
    unfold setAdd
    refine wpAny_holding (wpAny_bind ((strKind P w).pyHash (k := z) (strKind_is _ _ _ _) ?_))
    have room : (dedupS [] (zs.take i)).length + 1 < scanBound := by
      have := dedupS_len (zs.take i) []
      simp only [List.length_nil, List.length_take, Nat.zero_add] at this
      omega
    refine setX_add (s := { s' with toks := s'.toks + 1 }) R1 room fun h' b sb R2 => ?_
    have R3 : SetX w h' d (dedupS [] (zs.take (i + 1))) := by
      rw [List.take_add_one, hz]
      show SetX w h' d (dedupS [] (zs.take i ++ [z]))
      rw [dedupS_snoc]
      exact R2
    refine wpAny_pure ⟨plainId_quiet F.plain_set_update_loop _, ih (i + 1) _ (by omega) lt (W.frame _ s' _ _ st' (Nat.le_succ _) fun b hb o e => ?_) R3 fun s2 mv2 R4 => ?_⟩
    · exact (sb.2 b fun q => hd (q ▸ hb)).trans e
    · refine fin s2 (Moved.trans W.gtrans ((mv.mono sub).then_heap (Nat.le_succ _) fun b o hb e => ?_) mv2) R4
      exact (sb.2 b fun q => hb (q ▸ List.mem_cons_self)).trans e
/-- the new set's object -/
theorem code_newT (a : Value) {Q : Value → Shared → Prop} (h : Q (.ref s.heap.objs.size) { s with heap := s.heap.push (newObjT w) }) :
    codeAny (model P w) A (.call (.builtin "set.__new__") ⟨[.type "set", a], []⟩) (wants Q E) s := code_set_led1 a h
theorem strs_get {vs : List Value} {zs : List PySem.Str} (r : StrsAre vs zs) {i : Nat} {v : Value} (hv : vs[i]? = some v) : ∃ z t, zs[i]? = some z ∧ v = .str z t := by
  induction r generalizing i with
  | nil => simp at hv
  | cons z t r ih =>
    cases i with
    | zero => simp at hv; exact ⟨z, t, rfl, hv.symm⟩
    | succ i => simpa using ih (by simpa using hv)
theorem strs_len {vs : List Value} {zs : List PySem.Str} (r : StrsAre vs zs) : vs.length = zs.length := by
  induction r with
  | nil => rfl
  | cons z t r ih => simp [ih]
theorem call_setX_list {l : Addr} {items : Array Value} (zs : List PySem.Str) {Q : Value → Shared → Prop} (hh : A.handled = none) (hl : s.heap.IsList l items) (hi : StrsAre items.toList zs) (hb : zs.length + 1 < scanBound)
    (h : ∀ (h' : Heap) (tk : Nat), SetX w h' s.heap.objs.size (dedupS [] zs) → (∀ b o, s.heap.get? b = some o → h'.get? b = some o) → Q (.ref s.heap.objs.size) { s with heap := h', toks := tk }) :
    wpAny (model P w) A (call (.type "set") [.ref l]) Q E s := by
  have size : items.size = zs.length := by rw [← strs_len hi, Array.length_toList]
  obtain ⟨c, tl, hmro⟩ := F.called_set.mro
  have made := F.called_set.made
  have subs := F.called_set.sub
  have nt := F.called_set.notType
  have cc := F.called_set.canCreate
  have ck := F.typeCall_set_1 (.ref l)
  refine wpAny_call (codeAny_of_tree ?_)
  show wpAny _ _ (callAny (.type "set") _) _ _ _
  refine wpAny_pure ⟨Code.quiet_builtin _ (by decide +kernel), codeAny_builtin F.entry_type_call ?_⟩
  rw [Around.under_plain (weight_type_call_type "set" [.ref l] []) rfl]
  repeat (any_goals (first | assumption | wp_step))
  refine codeAny_mono (code_newT (.ref l) (E := E) (Q := fun ob s1 => ob = .ref s.heap.objs.size ∧ s1 = { s with heap := s.heap.push (newObjT w) }) ⟨rfl, rfl⟩) fun r s1 hr => ?_
  cases r with
  | error e => exact hr
  | ok fl =>
    cases fl with
    | ret ob =>
      obtain ⟨rfl, rfl⟩ := hr
      have oS : (s.heap.push (newObjT w)).get? s.heap.objs.size = some (newObjT w) := Heap.get?_push_size _ rfl
      have oT : Shared.TypeIs { s with heap := s.heap.push (newObjT w) } (.ref s.heap.objs.size) "set" := ⟨_, oS, rfl⟩
      have look := F.called_set.init.lookup
      have bind := F.called_set.init.bind (.ref s.heap.objs.size)
      repeat (any_goals (first | assumption | wp_step))
      refine codeAny_mono (codeAny_call_builtin (R := wants (fun r s2 => r = .none ∧ ∃ h' tk, s2 = { s with heap := h', toks := tk } ∧ SetX w h' s.heap.objs.size (dedupS [] zs) ∧ ∀ b o, s.heap.get? b = some o → h'.get? b = some o) E)
        F.called_set.init.plain F.entry_set_init (check_set_init_1 oT ?_)) fun r2 s2 hr2 => ?_
      · obtain ⟨⟨cls, dct, dat, sls⟩, hol, hcl, nl, hdl⟩ := hl
        cases hcl
        cases hdl
        have hl1 : (s.heap.push (newObjT w)).IsList l items := ⟨_, Heap.get?_push_of_some _ hol, rfl, nl, rfl⟩
        have hl2 : (s.heap.push (newObjT w)).get? l = some { cls := .type "list", dict := dct, data := .seq items nl, slots := sls } := Heap.get?_push_of_some _ hol
        have no1 := F.sub_list_set
        have no2 := F.sub_list_frozenset
        have no3 : (Value.type "list" == Value.type "dict") = false := by decide
        unfold Builtin.«set.__init__» noKeywords Builtin.Frozenset.updateFrom
        generalize hPI : pyIter = PI
        wp_walk
        subst hPI
        refine wpAny_pyIter_list hl1 (wpAny_bind (wpAny_runValue ?_))
        have below : l < s.heap.objs.size := Heap.lt_size hol
        have hh3 : A.in1.in1.in1.handled = none := by simp [hh]
        have zp : (s.heap.push (newObjT w)).objs.size = s.heap.objs.size + 1 := Heap.size_push ..
        have neI : l ≠ (s.heap.push (newObjT w)).objs.size := by rw [zp]; exact Nat.ne_of_lt (Nat.lt_succ_of_lt below)
        refine setX_loop ((Walks.list hh3 _ l neI items).toS) s.heap.objs.size ?_ zs size hb (fun i v hv => strs_get hi (by rw [Array.getElem?_toList]; exact hv)) (items.size - 0) 0 _ (by omega) (Nat.zero_le _)
          ⟨⟨_, Heap.get?_push_size _ rfl, rfl, rfl⟩, hl1.push _⟩ ?_ ?_
        · rw [zp]
          simp only [List.mem_cons, List.not_mem_nil, or_false, not_or]
          exact ⟨Nat.ne_of_lt (Nat.lt_succ_self _), Nat.ne_of_gt below⟩
        · exact setX_empty (Heap.get?_push_of_some _ oS)
        · intro s' mv R'
          obtain ⟨h', g', d', tk', os'⟩ := s'
          cases (show g' = s.gens from mv.gens)
          cases (show d' = s.drawn from mv.drawn)
          cases (show os' = s.os from mv.os)
          refine wpAny_pure (wpAny_pure ⟨rfl, h', tk', rfl, R', fun b o e => ?_⟩)
          have hb0 : b < s.heap.objs.size := Heap.lt_size e
          refine mv.heap b o ?_ (Heap.get?_push_of_some _ (Heap.get?_push_of_some _ e))
          rw [zp]
          simp only [List.mem_cons, List.not_mem_nil, or_false, not_or]
          exact ⟨Nat.ne_of_lt hb0, Nat.ne_of_lt (Nat.lt_succ_of_lt hb0)⟩
      · cases r2 with
        | error e => exact hr2
        | ok f2 =>
          cases f2 with
          | ret r =>
            obtain ⟨rfl, h', tk, rfl, R', kp⟩ := hr2
            repeat (any_goals (first | assumption | wp_step))
            exact h _ _ R' kp
          | _ => exact hr2.elim
    | _ => exact hr.elim
theorem call_setX_tuple {l : Addr} {items : Array Value} (zs : List PySem.Str) {Q : Value → Shared → Prop} (hh : A.handled = none) (hl : s.heap.IsTuple l items) (hi : StrsAre items.toList zs) (hb : zs.length + 1 < scanBound)
    (h : ∀ (h' : Heap) (tk : Nat), SetX w h' s.heap.objs.size (dedupS [] zs) → (∀ b o, s.heap.get? b = some o → h'.get? b = some o) → Q (.ref s.heap.objs.size) { s with heap := h', toks := tk }) :
    wpAny (model P w) A (call (.type "set") [.ref l]) Q E s := by
  have size : items.size = zs.length := by rw [← strs_len hi, Array.length_toList]
  obtain ⟨c, tl, hmro⟩ := F.called_set.mro
  have made := F.called_set.made
  have subs := F.called_set.sub
  have nt := F.called_set.notType
  have cc := F.called_set.canCreate
  have ck := F.typeCall_set_1 (.ref l)
  refine wpAny_call (codeAny_of_tree ?_)
  show wpAny _ _ (callAny (.type "set") _) _ _ _
  refine wpAny_pure ⟨Code.quiet_builtin _ (by decide +kernel), codeAny_builtin F.entry_type_call ?_⟩
  rw [Around.under_plain (weight_type_call_type "set" [.ref l] []) rfl]
  repeat (any_goals (first | assumption | wp_step))
  refine codeAny_mono (code_newT (.ref l) (E := E) (Q := fun ob s1 => ob = .ref s.heap.objs.size ∧ s1 = { s with heap := s.heap.push (newObjT w) }) ⟨rfl, rfl⟩) fun r s1 hr => ?_
  cases r with
  | error e => exact hr
  | ok fl =>
    cases fl with
    | ret ob =>
      obtain ⟨rfl, rfl⟩ := hr
      have oS : (s.heap.push (newObjT w)).get? s.heap.objs.size = some (newObjT w) := Heap.get?_push_size _ rfl
      have oT : Shared.TypeIs { s with heap := s.heap.push (newObjT w) } (.ref s.heap.objs.size) "set" := ⟨_, oS, rfl⟩
      have look := F.called_set.init.lookup
      have bind := F.called_set.init.bind (.ref s.heap.objs.size)
      repeat (any_goals (first | assumption | wp_step))
      refine codeAny_mono (codeAny_call_builtin (R := wants (fun r s2 => r = .none ∧ ∃ h' tk, s2 = { s with heap := h', toks := tk } ∧ SetX w h' s.heap.objs.size (dedupS [] zs) ∧ ∀ b o, s.heap.get? b = some o → h'.get? b = some o) E)
        F.called_set.init.plain F.entry_set_init (check_set_init_1 oT ?_)) fun r2 s2 hr2 => ?_
      · obtain ⟨⟨cls, dct, dat, sls⟩, hol, hcl, nl, hdl⟩ := hl
        cases hcl
        cases hdl
        have hl1 : (s.heap.push (newObjT w)).IsTuple l items := ⟨_, Heap.get?_push_of_some _ hol, rfl, nl, rfl⟩
        have hl2 : (s.heap.push (newObjT w)).get? l = some { cls := .type "tuple", dict := dct, data := .seq items nl, slots := sls } := Heap.get?_push_of_some _ hol
        have no1 := F.sub_tuple_set
        have no2 := F.sub_tuple_frozenset
        have no3 : (Value.type "tuple" == Value.type "dict") = false := by decide
        unfold Builtin.«set.__init__» noKeywords Builtin.Frozenset.updateFrom
        generalize hPI : pyIter = PI
        wp_walk
        subst hPI
        refine wpAny_pyIter_tuple hl1 (wpAny_bind (wpAny_runValue ?_))
        have below : l < s.heap.objs.size := Heap.lt_size hol
        have hh3 : A.in1.in1.in1.handled = none := by simp [hh]
        have zp : (s.heap.push (newObjT w)).objs.size = s.heap.objs.size + 1 := Heap.size_push ..
        have neI : l ≠ (s.heap.push (newObjT w)).objs.size := by rw [zp]; exact Nat.ne_of_lt (Nat.lt_succ_of_lt below)
        refine setX_loop ((Walks.tuple hh3 _ l neI items).toS) s.heap.objs.size ?_ zs size hb (fun i v hv => strs_get hi (by rw [Array.getElem?_toList]; exact hv)) (items.size - 0) 0 _ (by omega) (Nat.zero_le _)
          ⟨⟨_, Heap.get?_push_size _ rfl, rfl, rfl⟩, hl1.push _⟩ ?_ ?_
        · rw [zp]
          simp only [List.mem_cons, List.not_mem_nil, or_false, not_or]
          exact ⟨Nat.ne_of_lt (Nat.lt_succ_self _), Nat.ne_of_gt below⟩
        · exact setX_empty (Heap.get?_push_of_some _ oS)
        · intro s' mv R'
          obtain ⟨h', g', d', tk', os'⟩ := s'
          cases (show g' = s.gens from mv.gens)
          cases (show d' = s.drawn from mv.drawn)
          cases (show os' = s.os from mv.os)
          refine wpAny_pure (wpAny_pure ⟨rfl, h', tk', rfl, R', fun b o e => ?_⟩)
          have hb0 : b < s.heap.objs.size := Heap.lt_size e
          refine mv.heap b o ?_ (Heap.get?_push_of_some _ (Heap.get?_push_of_some _ e))
          rw [zp]
          simp only [List.mem_cons, List.not_mem_nil, or_false, not_or]
          exact ⟨Nat.ne_of_lt hb0, Nat.ne_of_lt (Nat.lt_succ_of_lt hb0)⟩
      · cases r2 with
        | error e => exact hr2
        | ok f2 =>
          cases f2 with
          | ret r =>
            obtain ⟨rfl, h', tk, rfl, R', kp⟩ := hr2
            repeat (any_goals (first | assumption | wp_step))
            exact h _ _ R' kp
          | _ => exact hr2.elim
    | _ => exact hr.elim
/-- sorted(such a set) -/
theorem sortedX {a : Addr} {l : List PySem.Str} {Q : Value → Shared → Prop} (R : SetX w s.heap a l) (hh : A.handled = none) (h64 : l.length < 64)
    (hQ : ∀ s' p (out : Array Value) (c : Nat) (ys : List PySem.Str), (∀ b o, s.heap.get? b = some o → s'.heap.get? b = some o) → s'.gens = s.gens → s'.os = s.os → s.heap.objs.size ≤ p →
      s'.heap.get? p = some (seqObj "list" out c) → StrsAre out.toList ys → ys.Perm l → sortedS ys = true → Q (.ref p) s') :
    wpAny (model P w) A (call (.builtin "sorted") [.ref a]) Q E s := by
  obtain ⟨nd, o, es, ep, tb, ho, hx, hd, g, pm, hb, hf, hr, hl⟩ := R
  refine Calls.call_function_entry kind_sorted plain_sorted entry_sorted (args_sorted1 _) ?_
  unfold Builtin.«sorted»
  refine wpAny_bind (m := checkCount "sorted" 1 1 _) (wpAny_pure ?_)
  refine wpAny_bind (collect_set (A := A.in1) hh ⟨o, ho, hx.1, hd⟩ hf hb hr hl fun s1 vs k1 hz g1 o1 pv => ?_)
  have are : ∀ (vs : List Value) (es : List (Int × Value)), (∀ v ∈ vs, ∃ e ∈ es, v = e.2) → (∀ e ∈ es, IsT w e) → StrsAre vs (vs.map fun v => entT (0, v)) := by
    intro vs
    induction vs with
    | nil => intro _ _ _; exact .nil
    | cons v vs ih =>
      intro es h1 h2
      obtain ⟨e, me, rfl⟩ := h1 v List.mem_cons_self
      obtain ⟨z, t, e2, _⟩ := h2 e me
      have : entT (0, e.2) = z := by unfold entT; simp only [e2]
      rw [List.map_cons, this, e2]
      exact .cons z t (ih es (fun u hu => h1 u (List.mem_cons_of_mem _ hu)) h2)
  have hS : StrsAre vs (vs.map fun v => entT (0, v)) := are vs es.toList (fun v m => by
    obtain ⟨e, me, q⟩ := List.mem_map.mp (pv.mem_iff.mp m)
    exact ⟨e, me, q.symm⟩) g
  have pl : (vs.map fun v => entT (0, v)).Perm l := by
    have q := pv.map fun v => entT (0, v)
    rw [List.map_map] at q
    exact q.trans pm
  have nl : vs.length = l.length := by rw [← pl.length_eq, List.length_map]
  refine wpAny_bind (wpAny_newList ?_ (by rw [nl, sizeLine_eq]; omega))
  have oL : (s1.heap.push (seqObj "list" vs.toArray 0)).get? s1.heap.objs.size = some (seqObj "list" vs.toArray 0) := Heap.get?_push_size _ rfl
  have oT : Shared.TypeIs { s1 with heap := s1.heap.push (seqObj "list" vs.toArray 0) } (.ref s1.heap.objs.size) "list" := ⟨_, oL, rfl⟩
  refine wpAny_bind (wpAny_holding (wpAny_call_entry PyProof.Rows.slot_list_sort oT PyProof.Rows.entry_list_sort ?_ (PyProof.Rows.args_list_sort _)))
  refine list_sort_treeK strKind_oneLt oL hS.keysOf (fun v1 v2 rest e => keyKind_strs (by rw [← e]; exact hS)) (by rw [nl]; exact h64) fun st' hp hs => ⟨_, rfl, ?_⟩
  obtain ⟨ys, q1, q2, q3⟩ := sorted_out_str hS hp hs
  obtain ⟨c, hc⟩ := PyProof.Rows.sortedHeap_at (vs := vs) (out := (arrOf st').map (·.2)) oL
  refine wpAny_pure ⟨_, rfl, hQ _ s1.heap.objs.size _ c ys (fun b u e => ?_) g1 o1 hz hc q1 (q2.trans pl) q3⟩
  have q := k1 b u e
  have hb := Heap.lt_size q
  show (sortedHeap (s1.heap.push (seqObj "list" vs.toArray 0)) s1.heap.objs.size vs _).get? b = some u
  rw [PyProof.Rows.sortedHeap_old (Nat.ne_of_lt hb) (by rw [size_push']; exact Nat.lt_succ_of_lt hb)]
  exact Heap.get?_push_of_some _ q
end
end PI
set_option Elab.async false
set_option linter.all false
set_option maxRecDepth 100000
set_option maxHeartbeats 1000000
/-! PI23: sorted(set(xs)), len(set(xs)). -/
namespace PI
open PySem PySem.Spec PyProof.Rows L2 RZ
def SetO (w : World) (a : Addr) (l : List PySem.Str) : HO := .ext fun h => SetX w h a l
section
variable {X : Cx} {K : PySem.W.Frag} {H H' H0 : Hp} {μ μ' μ2 : Ad} {S S' : Store} {v w : V}
theorem setO_ok {P : Program} {w : World} {H : Hp} {h : Heap} {a : Addr} {l : List PySem.Str} (R : SetX w h a l) : ObjOk P w H h a (PI.SetO w a l) := ⟨R, R.some, fun _ _ r k => r.keep k⟩
theorem setO_at {pins : List (Addr × Obj)} {σ : L2.St} {H : Hp} {s : Shared} {a : Addr} {l : List PySem.Str} (I : Inv X pins σ H s) (h : H a = some (PI.SetO X.w a l)) : SetX X.w s.heap a l := (I.hok a _ h).1
/-- set(xs) -/
def rSetX (X : Cx) : List V → Hp → VK → Prop := fun xs H Q => ∃ (a : Addr) (zs : List PySem.Str), xs = [.ref a] ∧ (SqL X.K H a (zs.map V.str) ∨ SqT X.K H a (zs.map V.str)) ∧ zs.length < 1000 ∧
  ∀ p, H p = none → Q (.ref p) (upd H p (PI.SetO X.w p (dedupS [] zs)))
theorem vals_strs : ∀ {zs : List PySem.Str} {us : List Value}, Vals (zs.map V.str) us → StrsAre us zs
  | [], _, .nil => .nil
  | z :: zs, _, .cons r t => by
    obtain ⟨k, rfl⟩ := r
    exact .cons z k (vals_strs t)
theorem cr_setX (hc : X.calm = true) : CallR X (.type "set") (rSetX X) := by
  intro pins s σ H xs us Q I r ⟨a, zs, hxs, hq, hz, q⟩
  subst hxs
  obtain ⟨u, rfl, rx⟩ := vals1 r
  cases rx
  have fin : ∀ (h' : Heap) (tk : Nat), SetX X.w h' s.heap.objs.size (dedupS [] zs) → (∀ b o, s.heap.get? b = some o → h'.get? b = some o) → EP X pins σ Q (.ref s.heap.objs.size) { s with heap := h', toks := tk } := fun h' tk R k =>
    ⟨.ref s.heap.objs.size, _, I.laid (t' := tk) (o := PI.SetO X.w s.heap.objs.size (dedupS [] zs)) (fun b o e => k b o e) (Nat.le_refl _) (setO_ok R), rfl, q _ I.fresh⟩
  rcases hq with hq | hq
  · obtain ⟨its, rv, pl, _⟩ := I.list hq
    exact call_setX_list zs (I.ok.hd hc) pl.isList (by simpa using vals_strs rv) (by unfold scanBound; omega) fin
  · obtain ⟨its, rv, pl, _⟩ := I.tuple hq
    exact call_setX_tuple zs (I.ok.hd hc) pl (by simpa using vals_strs rv) (by unfold scanBound; omega) fin
/-- sorted(such a set), len(such a set) -/
def rSortedO (w : World) : List V → Hp → VK → Prop := fun xs H Q => ∃ (a : Addr) (l : List PySem.Str), xs = [.ref a] ∧ H a = some (PI.SetO w a l) ∧ l.length < 64 ∧
  ∀ (ys : List PySem.Str) (p : Addr), ys.Perm l → sortedS ys = true → H p = none → Q (.ref p) (upd H p (.lst (ys.map V.str)))
theorem cr_sortedO (hc : X.calm = true) : CallR X (.builtin "sorted") (rSortedO X.w) := by
  intro pins s σ H xs us Q I r ⟨a, l, hxs, hq, h64, q⟩
  subst hxs
  obtain ⟨u, rfl, rx⟩ := vals1 r
  cases rx
  refine sortedX (setO_at I hq) (I.ok.hd hc) h64 fun s' p out c ys k g o hp hg hs pm so => ?_
  have hlen : (ys.map V.str).length ≤ sizeLine := by rw [List.length_map, pm.length_eq, sizeLine_eq]; omega
  have hn : H p = none := I.hok.fresh hp
  have J : Inv X pins σ (upd H p (.lst (ys.map V.str))) { s with heap := s'.heap, gens := s'.gens, drawn := s'.drawn, toks := s'.toks } :=
    I.call (ch := []) (Un.laid k hp hn) (I.hok.laid k hp ⟨hlen, out.toList, c, vals_of_strs hs, hg⟩) (by rw [g]; exact I.bare) (fun _ z => nomatch z)
  have e : s' = { s with heap := s'.heap, gens := s'.gens, drawn := s'.drawn, toks := s'.toks } := by
    obtain ⟨_, _, _, _, os'⟩ := s'
    cases (show os' = s.os from o)
    rfl
  rw [e]
  exact ⟨.ref p, _, J, rfl, q ys p pm so hn⟩
def rLenO (w : World) : List V → Hp → VK → Prop := fun xs H Q => ∃ (a : Addr) (l : List PySem.Str), xs = [.ref a] ∧ H a = some (PI.SetO w a l) ∧ Q (.int l.length) H
theorem cr_lenO : CallR X (.builtin "len") (rLenO X.w) := by
  intro pins s σ H xs us Q I r ⟨a, l, hxs, hq, q⟩
  subst hxs
  obtain ⟨u, rfl, rx⟩ := vals1 r
  cases rx
  obtain ⟨nd, o, es, ep, tb, ho, hx, hd, g, pm, hb, hf, hr, hl⟩ := setO_at I hq
  have n : es.size = l.length := by rw [← pm.length_eq, List.length_map, Array.length_toList]
  exact call_len_set ho hx hd hf (by unfold scanBound at hb; omega) ⟨.int l.length, H, I.tok _, ⟨_, by rw [n]⟩, q⟩
end

/-! ### the members in plain terms -/
theorem addN_S (l : List T) (z : T) : addN (l.map S') (S' z) = (if z ∈ l then l else z :: l).map S' := by
  unfold addN
  have : S' z ∈ l.map S' ↔ z ∈ l := by
    constructor
    · intro h
      obtain ⟨y, m, e⟩ := List.mem_map.mp h
      rw [← S'_inj.mp e]; exact m
    · intro h
      exact List.mem_map.mpr ⟨z, h, rfl⟩
  by_cases h : z ∈ l
  · rw [if_pos (this.mpr h), if_pos h]
  · rw [if_neg (fun q => h (this.mp q)), if_neg h]; rfl
def dedupP : List T → List T → List T
  | l, [] => l
  | l, z :: r => dedupP (if z ∈ l then l else z :: l) r
theorem dedupS_S : ∀ (r l : List T), dedupS (l.map S') (r.map S') = (dedupP l r).map S'
  | [], l => rfl
  | z :: r, l => by
    show dedupS (addN (l.map S') (S' z)) (r.map S') = _
    rw [addN_S]
    exact dedupS_S r _
theorem dedupP_mem : ∀ (r l : List T) (x : T), x ∈ dedupP l r ↔ x ∈ l ∨ x ∈ r
  | [], l, x => by simp [dedupP]
  | z :: r, l, x => by
    unfold dedupP
    rw [dedupP_mem r _ x]
    split
    · rename_i h
      simp only [List.mem_cons]
      constructor
      · rintro (h1 | h1)
        · exact .inl h1
        · exact .inr (.inr h1)
      · rintro (h1 | h1 | h1)
        · exact .inl h1
        · subst h1; exact .inl h
        · exact .inr h1
    · simp only [List.mem_cons]
      constructor
      · rintro ((h1 | h1) | h1)
        · exact .inr (.inl h1)
        · exact .inl h1
        · exact .inr (.inr h1)
      · rintro (h1 | h1 | h1)
        · exact .inl (.inr h1)
        · exact .inl (.inl h1)
        · exact .inr h1
theorem dedupP_nodup : ∀ (r l : List T), l.Nodup → (dedupP l r).Nodup
  | [], l, h => h
  | z :: r, l, h => by
    unfold dedupP
    split
    · exact dedupP_nodup r l h
    · rename_i hz
      exact dedupP_nodup r _ (List.nodup_cons.mpr ⟨hz, h⟩)
theorem dedupT_mem : ∀ (r : List T) (x : T), x ∈ dedupT r ↔ x ∈ r
  | [], x => by simp [dedupT]
  | z :: r, x => by
    unfold dedupT
    split
    · rename_i h
      rw [dedupT_mem r x, List.mem_cons]
      constructor
      · exact .inr
      · rintro (h1 | h1)
        · subst h1; exact (dedupT_mem r x).mp h
        · exact h1
    · rw [List.mem_cons, dedupT_mem r x, List.mem_cons]
theorem dedupT_nodup : ∀ r : List T, (dedupT r).Nodup
  | [] => List.nodup_nil
  | z :: r => by
    unfold dedupT
    split
    · exact dedupT_nodup r
    · rename_i h
      exact List.nodup_cons.mpr ⟨h, dedupT_nodup r⟩
theorem dedup_perm (r : List T) : (dedupP [] r).Perm (dedupT r) := by
  refine (List.perm_ext_iff_of_nodup (dedupP_nodup r [] List.nodup_nil) (dedupT_nodup r)).mpr fun x => ?_
  rw [dedupP_mem, dedupT_mem]
  simp
theorem sortT_perm_eq {xs ys : List T} (p : xs.Perm ys) : sortT xs = sortT ys :=
  up_unique (sortT_up xs) (sortT_up ys) ((sortT_perm xs).trans (p.trans (sortT_perm ys).symm))
theorem dedupP_len : ∀ (r l : List T), (dedupP l r).length ≤ l.length + r.length
  | [], l => Nat.le_refl _
  | z :: r, l => by
    have := dedupP_len r (if z ∈ l then l else z :: l)
    unfold dedupP
    split at this <;> split <;> simp_all <;> omega
section
variable {F : Mc} {C : Calls} {k : Nat} {s : Sc} {X : Cx}
variable {K : PySem.W.Frag} {H H' H0 : Hp} {μ μ' μ2 : Ad} {S S' : Store} {v w : V}
theorem SetO.keep {K : PySem.W.Frag} {H H' : Hp} {μ μ' : Ad} {a : Addr} {w : World} {l : List PySem.Str} (g : Grow μ H μ' H') (h : H a = some (PI.SetO w a l)) : H' a = some (PI.SetO w a l) := g.ext a _ h
/-- set(e) of texts, by the interpreter's answer for e -/
theorem pe_setX {p pos : Pos} {e : Expr} {f : Env → Store → R Val} (c : Ctx F C k s X) (hg : glB s.sc "set" = true) (hm : X.mg "set" = none) (hn : notStar e = true) (he : PE X e (tR X.K f)) :
    PE X (.Call (.Name "set" p) [e] [] pos) (fun σ H Q => ∃ μ ρ S x S' ts, Wd X.K H μ S ∧ RepE X.K H μ ρ σ ∧ f ρ S = some (x, S') ∧ textsV x S' = some ts ∧ ts.length < 1000 ∧
      ∀ a H' μ', Grow μ H μ' H' → Wd X.K H' μ' S' → (∀ t ∈ ts, okT t = true) → H' a = some (PI.SetO X.w a ((dedupP [] ts).map PI.S')) → Q (.ref a) H') := by
  refine PE.imp (pe_callTy (cr_setX c.calm) (c.gl hg) hm (by decide +kernel) (a_cons he a_nil hn) (by decide) (by decide) (star_each hn) no_star) fun σ H Q ⟨μ, ρ, S, x, S', ts, w, re, e1, e2, hl, q⟩ => ?_
  refine ⟨μ, ρ, S, [x], S', w, re, (show bnd (f ρ S) _ = _ by rw [e1]; rfl), fun us H1 μ1 g1 w1 r1 => ?_⟩
  obtain ⟨u, r', rfl, q1, r1⟩ := repVs_cons.mp r1
  rw [repVs_nil.mp r1]
  obtain ⟨a, rfl, o, hq⟩ := textsV_ok w1 e2 q1
  refine ⟨a, ts.map PI.S', rfl, hq, by rw [List.length_map]; exact hl, fun p hp => ?_⟩
  refine q p _ μ1 (g1.trans (Grow.fresh hp)) (w1.fresh hp) o ?_
  rw [upd_same]
  exact congrArg (fun l => some (PI.SetO X.w p l)) (dedupS_S ts [])
theorem pe_sortO {p pos : Pos} {e : Expr} {t : TE} (c : Ctx F C k s X) (hg : glB s.sc "sorted" = true) (hm : X.mg "sorted" = none) (hn : notStar e = true) (he : PE X e t) :
    PE X (.Call (.Name "sorted" p) [e] [] pos) (fun σ H Q => t σ H fun v H1 => rSortedO X.w [v] H1 Q) :=
  PE.imp (pe_callB (cr_sortedO c.calm) (c.gl hg) hm (by decide +kernel) (pa_cons he pa_nil (star_each hn)) (by decide) (by decide) (star_each hn) no_star) fun σ H Q h => h
theorem pe_lenO {p pos : Pos} {e : Expr} {t : TE} (c : Ctx F C k s X) (hg : glB s.sc "len" = true) (hm : X.mg "len" = none) (hn : notStar e = true) (he : PE X e t) :
    PE X (.Call (.Name "len" p) [e] [] pos) (fun σ H Q => t σ H fun v H1 => rLenO X.w [v] H1 Q) :=
  PE.imp (pe_callB cr_lenO (c.gl hg) hm (by decide +kernel) (pa_cons he pa_nil (star_each hn)) (by decide) (by decide) (star_each hn) no_star) fun σ H Q h => h
/-- a sorted set's list is the data's -/
theorem sort_fin {ts l : List T} {ys : List PySem.Str} (pl : l.Perm (dedupT ts)) (h1 : ys.Perm (l.map PI.S')) (h2 : sortedS ys = true) : ys = (sortT (dedupT ts)).map PI.S' := by
  rw [sorted_eq h1 h2, sortT_perm_eq pl]
theorem e_sset {p p2 pos pos2 : Pos} {e : Expr} {f : Env → Store → R Val} (c : Ctx F C k s X) (hg : glB s.sc "sorted" = true) (hm : X.mg "sorted" = none) (hg2 : glB s.sc "set" = true) (hm2 : X.mg "set" = none) (hn : notStar e = true) (he : PE X e (tR X.K f)) :
    PE X (.Call (.Name "sorted" p) [.Call (.Name "set" p2) [e] [] pos2] [] pos) (tR X.K fun ρ S => bnd (f ρ S) fun x S => b1V .sset x S) := by
  refine PE.imp (pe_sortO c hg hm rfl (pe_setX c hg2 hm2 hn he)) fun σ H Q ⟨μ, ρ, S, z, S', w, re, e, q⟩ => ?_
  obtain ⟨x, S1, e1, e⟩ := bnd_eq e
  simp only [b1V] at e
  split at e
  · rename_i ts ht
    split at e
    · rename_i hl
      cases e
      refine ⟨μ, ρ, S, x, _, ts, w, re, e1, ht, by omega, fun a H1 μ1 g1 w1 o ha => ⟨a, _, rfl, ha, ?_, fun ys p hy hs hp => ?_⟩⟩
      · rw [List.length_map, (dedup_perm ts).length_eq, ← (dedup_perm ts).length_eq]
        have := dedupP_len ts []
        simp only [List.length_nil, Nat.zero_add] at this
        omega
      · rw [sort_fin (dedup_perm ts) hy hs]
        exact Pu.strs w1 (q.grow g1) (fun t m => o t ((dedupT_mem ts t).mp ((sortT_perm _).mem_iff.mp m))) hp
    · cases e
  · cases e
theorem e_lenset {p p2 pos pos2 : Pos} {e : Expr} {f : Env → Store → R Val} (c : Ctx F C k s X) (hg : glB s.sc "len" = true) (hm : X.mg "len" = none) (hg2 : glB s.sc "set" = true) (hm2 : X.mg "set" = none) (hn : notStar e = true) (he : PE X e (tR X.K f)) :
    PE X (.Call (.Name "len" p) [.Call (.Name "set" p2) [e] [] pos2] [] pos) (tR X.K fun ρ S => bnd (f ρ S) fun x S => b1V .lenset x S) := by
  refine PE.imp (pe_lenO c hg hm rfl (pe_setX c hg2 hm2 hn he)) fun σ H Q ⟨μ, ρ, S, z, S', w, re, e, q⟩ => ?_
  obtain ⟨x, S1, e1, e⟩ := bnd_eq e
  simp only [b1V] at e
  split at e
  · rename_i ts ht
    split at e
    · rename_i hl
      cases e
      refine ⟨μ, ρ, S, x, _, ts, w, re, e1, ht, hl, fun a H1 μ1 g1 w1 o ha => ⟨a, _, rfl, ha, ?_⟩⟩
      rw [List.length_map, (dedup_perm ts).length_eq]
      exact (q.grow g1).here w1 (repV_d.mpr (repD_int.mpr rfl))
    · cases e
  · cases e
end
end PI
set_option Elab.async false
set_option linter.all false
set_option maxRecDepth 100000
set_option maxHeartbeats 1000000
/-! PI24: sorted({.. for ..}). -/
namespace PI
open PySem PySem.Spec PyProof.Rows L2 RZ
section
variable {P : Program} {w : World} {A : Around} {E : Value → Shared → Prop} {s : Shared} {a : Addr} {l : List PySem.Str}
theorem setX_type (R : SetX w s.heap a l) : s.TypeIs (.ref a) "set" := by
  obtain ⟨nd, o, es, ep, tb, ho, hx, _⟩ := R
  exact ⟨o, ho, hx.1⟩
theorem setX_addM {z : PySem.Str} {t : Tok} {Q : Value → Shared → Prop} (R : SetX w s.heap a l) (room : l.length + 1 < scanBound)
    (hQ : ∀ h', Heap.SameBut a s.heap h' → SetX w h' a (addN l z) → Q .none { s with heap := h', toks := s.toks + 1 }) : wpAny (model P w) A (PySem.call (.builtin "set.add") [.ref a, .str z t]) Q E s := by
  refine wpAny_call_entry F.slot_set_add (setX_type R) F.entry_set_add ?_ (F.args_set_add_2 _ _)
  unfold Builtin.«set.add» Builtin.Frozenset.oneOther
  simp only [List.isEmpty_nil, bind_assoc]
  unfold Builtin.Frozenset.addrOf setAdd
  refine wpAny_bind (wpAny_pure ?_)
  try dsimp only
  refine wpAny_bind (wpAny_pure ?_)
  try dsimp only
  refine wpAny_bind (wpAny_holding (wpAny_bind ((strKind P w).pyHash (k := z) (strKind_is _ _ _ _) ?_)))
  refine setX_add (s := { s with toks := s.toks + 1 }) R room fun h' b sb R' => ?_
  exact wpAny_pure ⟨_, rfl, hQ h' sb R'⟩
end
section
variable {X : Cx}
theorem addT_ok {pins : List (Addr × Obj)} {σ : L2.St} {H : Hp} {s : Shared} {E : Value → Shared → Prop} {d : Addr} {l : List PySem.Str} {z : PySem.Str} {u : Value} {Q : Value → Shared → Prop} (I : Inv X pins σ H s) (hd : H d = some (PI.SetO X.w d l)) (room : l.length + 1 < scanBound) (ru : RelV (.str z) u)
    (h : ∀ s', Inv X pins σ (upd H d (PI.SetO X.w d (addN l z))) s' → Q .none s') : wpAny (model X.prog X.w) X.A (PySem.call (.builtin "set.add") [.ref d, u]) Q E s := by
  obtain ⟨t, rfl⟩ := ru
  refine setX_addM (setO_at I hd) room fun h' sb R' => ?_
  exact h _ (I.write (e := d) (t' := s.toks + 1) (by rw [hd]; trivial) (.inl rfl) (fun b u hb hu => (sb.2 b hb).trans hu) R'.some (setO_ok R'))
/-- {elt for target in iter if ..}, elt a text: d the new set -/
def tScX (w : World) (wi : L2.TI) (g : TG) (tt : TT) (te : TE) (vs : List Nat) : TE := fun σ H Q => wi σ H fun J H1 => ∀ d, H1 d = none → ∃ W : Nat → Nat → Hp → Prop, (∃ m, W 0 m (upd H1 d (PI.SetO w d []))) ∧ ∀ i m H, W i m H →
  (J.stop i H ∧ Q (.ref d) H) ∨ (J.go i H ∧ ∃ N : Hp → Prop, (∀ H', N H' → ∃ m', m' < m ∧ W (i + 1) m' H') ∧ ∀ x H', J.yld i H x H' → g x (L2.wipe σ vs) H' fun σ2 H2 => L2.wipe σ2 vs = L2.wipe σ vs ∧ tt σ2 H2 fun b H3 =>
    if b = true then te σ2 H3 fun y H4 => ∃ z l, y = .str z ∧ H4 d = some (PI.SetO w d l) ∧ l.length + 1 < scanBound ∧ N (upd H4 d (PI.SetO w d (addN l z))) else N H3)
theorem pe_scX {elt tg iter : Expr} {ifs : List Expr} {scope : Scope} {own : List (PySem.Str × Nat)} {pos : Pos} {wi : L2.TI} {g : TG} {tt : TT} {te : TE} (hc : X.calm = true) (hN : X.N.Nodup) (hi : L2.PI X tg iter wi) (ok : BlkOk X.N X.env.scope scope own)
    (hg : ∀ (s0 : Shared) (H0 : Hp) (C0 : Addr) (cl : List (PySem.Str × Addr)) (fp : List Addr), PG (X.blk s0 H0 scope (compEnvC scope cl C0 X.env) fp) tg g)
    (ht : ∀ (s0 : Shared) (H0 : Hp) (C0 : Addr) (cl : List (PySem.Str × Addr)) (fp : List Addr), PTs (X.blk s0 H0 scope (compEnvC scope cl C0 X.env) fp) ifs tt)
    (he : ∀ (s0 : Shared) (H0 : Hp) (C0 : Addr) (cl : List (PySem.Str × Addr)) (fp : List Addr), PE (X.blk s0 H0 scope (compEnvC scope cl C0 X.env) fp) elt te)
    (hs : ∀ x, foldedSetIterable iter X.env x = pure x) : PE X (.SetComp elt [⟨tg, iter, ifs, 0⟩] scope pos) (tScX X.w wi g tt te (own.map (·.2))) := by
  refine ⟨fun pins s σ H Q I h => ?_⟩
  rw [PpSet.eval_SetComp]
  have clo : ∀ y ∈ scope.names, y.2 = .free → ∃ c, X.env.cells.lookup y.1 = some c := fun y hy e => (ok.free y hy e).elim (fun k => I.ok.has _ (.inl k)) fun k => I.ok.has _ (.inr k)
  refine wpAny_comprehension_free (use := none) rfl hs (closure_ok clo) ok.kind (fun y hy e => by rw [ok.uniq y hy, e]) (thn (hi.run pins s σ H _ I h) fun _ s1 h1 => thn h1 fun _ s2 h2 => ?_)
  obtain ⟨it, fp, tn, J, H2, rfl, I2, T, st2, f2, q⟩ := h2
  refine PpSet.newSet_ok (newEnv_comp ?_)
  generalize hd : s2.heap.objs.size = d
  have hn : H2 d = none := I2.hok.fresh (Nat.le_of_eq hd)
  obtain ⟨W, ⟨m0, w0⟩, turn⟩ := q d hn
  have keepN : ∀ b o, s2.heap.get? b = some o → (s2.heap.push (newObjT X.w)).get? b = some o := fun b o e => Heap.get?_push_of_some _ e
  have I3 : Inv X pins σ (upd H2 d (PI.SetO X.w d [])) { s2 with heap := s2.heap.push (newObjT X.w) } := by
    refine I2.laid (t' := s2.toks) keepN (Nat.le_of_eq hd) (setO_ok (setX_empty ?_))
    rw [← hd]
    exact Heap.get?_push_size _ rfl
  have lts : ∀ b ∈ fp, b < s2.heap.objs.size := fun b m => let ⟨_, e, _⟩ := T.obj _ _ st2 b m; Heap.lt_size e
  change codeAny _ _ (.compStart (.SetComp elt [⟨tg, iter, ifs, 0⟩] scope pos) 0 (.ref it) (.ref d) (compEnvC scope (cellsFrom ((s2.heap.push (newObjT X.w)).objs.size + 1) scope.names (cloFrom X.env.cells scope.names [])) (s2.heap.push (newObjT X.w)).objs.size X.env))
    (compPost (model X.prog X.w) X.A X.xe none _ (.ref d) (s2.heap.push (newObjT X.w)).objs.size) { s2 with heap := pushCells ((s2.heap.push (newObjT X.w)).push { cls := .type "dict", data := .dict #[] }) scope.names }
  generalize h3 : ({ s2 with heap := s2.heap.push (newObjT X.w) } : Shared) = s3 at I3
  have e3 : s3.heap = s2.heap.push (newObjT X.w) := by rw [← h3]
  have e4 : ({ s2 with heap := pushCells ((s2.heap.push (newObjT X.w)).push { cls := .type "dict", data := .dict #[] }) scope.names } : Shared) = { s3 with heap := pushCells (s3.heap.push { cls := .type "dict", data := .dict #[] }) scope.names } := by rw [← h3]
  rw [e4, ← e3]
  have f3 : ∀ b ∈ fp, FpOk X pins (upd H2 d (PI.SetO X.w d [])) b ∧ b < s3.heap.objs.size := fun b m =>
    ⟨⟨(upd_ne (by rw [← hd]; exact Nat.ne_of_lt (lts b m))).trans (f2 b m).1, (f2 b m).2⟩, by rw [e3, Heap.size_push]; exact Nat.lt_succ_of_lt (lts b m)⟩
  have st3 : tn 0 s3.heap := T.keep _ _ _ st2 fun b _ o e => by rw [e3]; exact keepN b o e
  have I4 := block_start I3 ok hN f3
  have pg := hg s3 (upd H2 d (PI.SetO X.w d [])) s3.heap.objs.size (cellsFrom (s3.heap.objs.size + 1) scope.names (cloFrom X.env.cells scope.names [])) fp
  have pt := ht s3 (upd H2 d (PI.SetO X.w d [])) s3.heap.objs.size (cellsFrom (s3.heap.objs.size + 1) scope.names (cloFrom X.env.cells scope.names [])) fp
  have pe := he s3 (upd H2 d (PI.SetO X.w d [])) s3.heap.objs.size (cellsFrom (s3.heap.objs.size + 1) scope.names (cloFrom X.env.cells scope.names [])) fp
  generalize hce : compEnvC scope (cellsFrom (s3.heap.objs.size + 1) scope.names (cloFrom X.env.cells scope.names [])) s3.heap.objs.size X.env = ce at I4 pg pt pe ⊢
  have loc : ce.locals = s3.heap.objs.size := by rw [← hce]; rfl
  have off3 : ∀ b ∈ fp, (upd H2 d (PI.SetO X.w d [])) b = none := fun b m => (f3 b m).1.1
  generalize hH3 : upd H2 d (PI.SetO X.w d []) = H3 at I3 I4 pg pt pe w0 off3 f3
  generalize hs4 : ({ s3 with heap := pushCells (s3.heap.push { cls := .type "dict", data := .dict #[] }) scope.names } : Shared) = s4 at I4 ⊢
  have st4 : tn 0 s4.heap := T.keep _ _ _ st3 fun b _ o e => by rw [← hs4]; exact pushCells_keeps _ _ _ _ (Heap.get?_push_of_some _ e)
  have fpok : ∀ {σ' : L2.St} {H' : Hp} {s' : Shared}, Inv (X.blk s3 H3 scope ce fp) [] σ' H' s' → (∀ b ∈ fp, H' b = none) → ∀ b ∈ fp, FpOk (X.blk s3 H3 scope ce fp) [] H' b := fun {_ _ _} J' off b m =>
    ⟨off b m, (J'.ok.exf b m).1, J'.ok.exfs b m, .inl m, fun x c e => (J'.ok.exf b m).2 x c e, fun p hp => by simp at hp⟩
  have loop : codeAny (model X.prog X.w) X.A (.compLoop (.SetComp elt [⟨tg, iter, ifs, 0⟩] scope pos) 0 (.ref it) (.ref d) ce) (compPost (model X.prog X.w) X.A X.xe none (EP X pins σ Q) (.ref d) s3.heap.objs.size) s4 := by
    refine PpSet.compLoopS_any (fun n s' => ∃ i H', Inv (X.blk s3 H3 scope ce fp) [] (L2.wipe σ (own.map (·.2))) H' s' ∧ tn i s'.heap ∧ (∀ b ∈ fp, H' b = none) ∧ W i n H') ?_ m0 ⟨0, H3, I4, st4, off3, w0⟩
    rintro n s5 ⟨i, H5, I5, st5, off5, w5⟩
    rcases turn i n H5 w5 with ⟨stop, qq⟩ | ⟨go, N, hNx, step⟩
    · refine thnF (T.done (X.blk s3 H3 scope ce fp) rfl rfl rfl hc i [] s5 _ H5 (fun _ _ => False) I5 (fpok I5 off5) st5 stop) fun r s6 ⟨hr, I6⟩ => ?_
      subst hr
      have I7 : Inv X pins σ H5 s6 := I3.call' (ch := fp) I6.os I6.base I6.hok I6.bare fun b m => ⟨(f3 b m).1.2.2.2.1, (f3 b m).1.2.1, (f3 b m).1.2.2.2.2.1, (f3 b m).1.2.2.2.2.2⟩
      have nC : H5 s3.heap.objs.size = none := loc ▸ (show H5 ce.locals = none from I6.free)
      obtain ⟨m, ns, _⟩ := I6.loc
      have ns : s6.heap.Ns ce.locals m := ns
      rw [loc] at ns
      obtain ⟨g0, g1, g2, g3, g4, g5⟩ := I3.fpOk (b := s3.heap.objs.size) (Nat.le_refl _) nC
      exact ⟨m, ns, fun h'' sb => ⟨.ref d, H5, I7.turned (t' := s6.toks) (fun b o hb e => (sb.2 b hb).trans e) g0 g1 g3 g4 g5, rfl, qq⟩⟩
    · refine thnF (T.item (X.blk s3 H3 scope ce fp) rfl rfl rfl hc i [] s5 _ H5 (fun _ _ => False) I5 (fpok I5 off5) st5 go) fun r s6 ⟨u, hr, h6⟩ => ?_
      subst hr
      refine thnF h6 fun _ s7 ⟨x, H7, I7, r7, y7, st7, off7⟩ => ?_
      have I7' := I7.pinned (fpok I7 off7) (T.obj _ _ st7)
      refine thnF (pg.run _ s7 _ H7 x u _ I7' r7 (step x H7 y7)) fun _ s8 ⟨σ8, H8, I8, hw8, q8⟩ => thnF (pt.run _ s8 σ8 H8 _ I8 q8) fun b s9 ⟨H9, I9, q9⟩ => ?_
      have again : ∀ {s' : Shared} {H' : Hp}, Inv (X.blk s3 H3 scope ce fp) ([] ++ pinsAt fp s7.heap) σ8 H' s' → N H' → ∃ m, m < n ∧ ∃ i H', Inv (X.blk s3 H3 scope ce fp) [] (L2.wipe σ (own.map (·.2))) H' s' ∧ tn i s'.heap ∧ (∀ b ∈ fp, H' b = none) ∧ W i m H' := fun {s' H'} J' nx => by
        obtain ⟨m', lt, w'⟩ := hNx H' nx
        have pin : ∀ b ∈ fp, ∀ o, s7.heap.get? b = some o → s'.heap.get? b = some o ∧ H' b = none := fun b hb o e => by
          have z := J'.pin (b, o) (List.mem_append_right _ (List.mem_append_right _ (mem_pinsAt hb e)))
          exact ⟨z.1, z.2.1⟩
        refine ⟨m', lt, i + 1, H', (J'.unpinned (pins := [])).weak (by rw [← hw8, L2.wipe_length]) (fun j v e => (wipe_some (by rw [hw8]; exact e)).1), T.keep _ _ _ st7 fun b hb o e => (pin b hb o e).1, fun b hb => ?_, w'⟩
        obtain ⟨o, e, _⟩ := T.obj _ _ st7 b hb
        exact (pin b hb o e).2
      cases b with
      | false => exact again I9 (show N H9 from q9)
      | true =>
        refine thnF (pe.run _ s9 σ8 H9 _ I9 q9) fun v s10 ⟨yv, H10, I10, r10, z, l, ey, hD, room, nx⟩ => ?_
        subst ey
        exact addT_ok (X := X.blk s3 H3 scope ce fp) I10 hD room r10 fun s11 I11 => again I11 nx
  exact PpSet.codeAny_compStart_set loop (T.self X.A 0 _ _ _ st4 loop)
end
end PI
set_option Elab.async false
set_option linter.all false
set_option maxRecDepth 100000
set_option maxHeartbeats 1000000
/-! PI25: sorted({.. for ..}), by the interpreter. -/
namespace PI
open PySem PySem.Spec PyProof.Rows L2 RZ
theorem dedupP_snoc : ∀ (r l : List T) (z : T), dedupP l (r ++ [z]) = if z ∈ dedupP l r then dedupP l r else z :: dedupP l r
  | [], l, z => rfl
  | y :: r, l, z => dedupP_snoc r _ z
theorem dedupP_push (ts : List T) (z : T) : (dedupP [] (ts ++ [z])).map S' = addN ((dedupP [] ts).map S') (S' z) := by
  rw [dedupP_snoc, addN_S]
section
variable {X : Cx} {J : It} {n : Nat} {G : Hp → Prop} {Y : Nat → Hp → V → Hp → Prop}
/-- a set comprehension over a walk -/
theorem sc_it (w : Walk J n G Y) {wd : World} {g : TG} {tt : TT} {te : TE} {vs : List Nat} {σ : L2.St} {H1 : Hp} {d : Addr} {Qd : Hp → Prop} (Pv : Nat → Hp → Prop) (h0 : Pv 0 (upd H1 d (PI.SetO wd d []))) (hG : ∀ i H, i ≤ n → Pv i H → G H)
    (hs : ∀ i x H H', i < n → Pv i H → Y i H x H' → g x (L2.wipe σ vs) H' fun σ2 H2 => L2.wipe σ2 vs = L2.wipe σ vs ∧ tt σ2 H2 fun b H3 =>
      if b = true then te σ2 H3 fun y H4 => ∃ z l, y = .str z ∧ H4 d = some (PI.SetO wd d l) ∧ l.length + 1 < scanBound ∧ Pv (i + 1) (upd H4 d (PI.SetO wd d (addN l z))) else Pv (i + 1) H3) (he : ∀ H, Pv n H → Qd H) :
    ∃ W : Nat → Nat → Hp → Prop, (∃ m, W 0 m (upd H1 d (PI.SetO wd d []))) ∧ ∀ i m H, W i m H →
      (J.stop i H ∧ Qd H) ∨ (J.go i H ∧ ∃ N : Hp → Prop, (∀ H', N H' → ∃ m', m' < m ∧ W (i + 1) m' H') ∧ ∀ x H', J.yld i H x H' → g x (L2.wipe σ vs) H' fun σ2 H2 => L2.wipe σ2 vs = L2.wipe σ vs ∧ tt σ2 H2 fun b H3 =>
        if b = true then te σ2 H3 fun y H4 => ∃ z l, y = .str z ∧ H4 d = some (PI.SetO wd d l) ∧ l.length + 1 < scanBound ∧ N (upd H4 d (PI.SetO wd d (addN l z))) else N H3) := by
  refine ⟨fun i m H => m = n - i ∧ i ≤ n ∧ Pv i H, ⟨n, (Nat.sub_zero n).symm, Nat.zero_le _, h0⟩, fun i m H ⟨hm, hi, p⟩ => ?_⟩
  subst hm
  have q := hG i H hi p
  rcases Nat.lt_or_eq_of_le hi with lt | eq
  · refine .inr ⟨w.goes i H lt q, Pv (i + 1), fun H' p' => ⟨n - (i + 1), by omega, rfl, lt, p'⟩, fun x H' y => ?_⟩
    exact hs i x H H' lt p (w.yields i H x H' lt q y)
  · subst eq
    exact .inl ⟨w.stops H q, he H p⟩
end
section
variable {F : Mc} {C : Calls} {k : Nat} {s : Sc} {X : Cx}
variable {elt tg iter : Expr} {ifs : List Expr} {scope : Scope} {own : List (PySem.Str × Nat)} {pos : Pos} {p : Pat} {fi : Env → Store → R (List Val)} {ft fe : Env → Store → R Val}
/-- texts, as values -/
def tv (ts : List T) : List Val := ts.map fun t => .d (.str t)
theorem e_scX (c : Ctx F C k s X) (hi : L2.PI X tg iter (wI X fi)) (ok : BlkOk X.N X.env.scope scope own) (hp : ∀ i ∈ p.ixs, i ∈ own.map (·.2))
    (hg : ∀ (s0 : Shared) (H0 : Hp) (C0 : Addr) (cl : List (PySem.Str × Addr)) (fp : List Addr), PG (X.blk s0 H0 scope (compEnvC scope cl C0 X.env) fp) tg (gP X.K p))
    (ht : ∀ (s0 : Shared) (H0 : Hp) (C0 : Addr) (cl : List (PySem.Str × Addr)) (fp : List Addr), PTs (X.blk s0 H0 scope (compEnvC scope cl C0 X.env) fp) ifs (tRb X.K ft))
    (he : ∀ (s0 : Shared) (H0 : Hp) (C0 : Addr) (cl : List (PySem.Str × Addr)) (fp : List Addr), PE (X.blk s0 H0 scope (compEnvC scope cl C0 X.env) fp) elt (tR X.K fe))
    (hs : ∀ x, foldedSetIterable iter X.env x = pure x) : PE X (.SetComp elt [⟨tg, iter, ifs, 0⟩] scope pos) (fun σ H Q => ∃ μ ρ S ts S', Wd X.K H μ S ∧ RepE X.K H μ ρ σ ∧
      (bnd (fi ρ S) fun xs S => evLc (turnLc p ft (one fe)) xs (PI.wipe ρ (own.map (·.2))) S) = some (tv ts, S') ∧ ts.length < 1000 ∧
      ∀ a H' μ', Grow μ H μ' H' → Wd X.K H' μ' S' → (∀ t ∈ ts, okT t = true) → H' a = some (PI.SetO X.w a ((dedupP [] ts).map PI.S')) → Q (.ref a) H') := by
  refine PE.imp (pe_off (pe_scX c.calm c.nd hi ok hg ht he hs)) fun σ H Q ⟨μ, ρ, S, ts, S', w, re, e, hl, q⟩ => ?_
  obtain ⟨xs, S1, e1, e2⟩ := bnd_eq e
  refine ⟨μ, ρ, S, xs, S1, w, re, e1, fun J H1 μ1 H2 lk g1 w1 hlk yl hz => ?_⟩
  obtain ⟨n, G, Y, hw, hn, hG0, hst, hy, hmv⟩ := yl.ex
  obtain ⟨w2, gl⟩ := hlk.wd w1
  have re2 : RepE X.K H2 μ1 (PI.wipe ρ (own.map (·.2))) (L2.wipe σ (own.map (·.2))) := ((re.grow g1).gr gl).wipe _
  intro d hd
  refine sc_it (g := gP X.K p) (tt := tRb X.K ft) (te := tR X.K fe) (vs := own.map (·.2)) (σ := σ) (Qd := fun H => Off X (Q (.ref d)) H) hw
    (fun i H3 => ∃ us μ3 S3 rest, Grow μ1 H2 μ3 H3 ∧ Wd X.K H3 μ3 S3 ∧ H3 d = some (PI.SetO X.w d ((dedupP [] us).map PI.S')) ∧ (∀ t ∈ us, okT t = true) ∧ evLc (turnLc p ft (one fe)) (xs.drop i) (PI.wipe ρ (own.map (·.2))) S3 = some (rest, S') ∧ tv ts = tv us ++ rest)
    ⟨[], μ1, S1, tv ts, Grow.fresh hd, w2.fresh hd, upd_same, fun t m => by simp at m, by simpa using e2, rfl⟩ (fun i H3 _ ⟨us, μ3, S3, rest, g, _⟩ => hst _ _ g) ?_ ?_
  · rintro i x H3 H4 hi ⟨us, μ3, S3, rest, g3, w3, h3, hok, e3, hts⟩ hY
    obtain ⟨y, hxs, g4, w4, ry⟩ := hy i x H3 μ3 S3 H4 hi g3 w3 hY
    have h4 : H4 d = some (PI.SetO X.w d ((dedupP [] us).map PI.S')) := g4.ext d _ h3
    have g34 := g3.trans g4
    obtain ⟨hlt, hxy⟩ := List.getElem?_eq_some_iff.mp hxs
    rw [List.drop_eq_getElem_cons hlt, hxy] at e3
    simp only [evLc] at e3
    obtain ⟨ys, S5, e5, e3⟩ := bnd_eq e3
    obtain ⟨zs, S6, e6, e3⟩ := bnd_eq e3
    cases e3
    unfold turnLc at e5
    split at e5
    · rename_i ρ1 eb
      obtain ⟨b, S7, e7, e5⟩ := bnd_eq e5
      refine ⟨μ3, _, S3, y, ρ1, w4, re2.grow g34, ry, eb, fun σ9 sm re9 => ⟨(sm.wipe hp).trans wipe_wipe, ?_⟩⟩
      split at e5
      · obtain ⟨y', S8, e8, e5⟩ := bnd_eq (show bnd (fe ρ1 S7) _ = _ from e5)
        cases e5
        refine ⟨μ3, ρ1, S3, true, S7, w4, re9, e7, fun H11 μ11 g11 w11 => iteT ?_⟩
        refine ⟨μ11, ρ1, S7, y', S5, w11, re9.grow g11, e8, fun v H13 μ13 g13 w13 r13 => ?_⟩
        have h13 := g13.ext d _ (g11.ext d _ h4)
        have hy' : ∃ t, y' = .d (.str t) ∧ tv ts = tv (us ++ [t]) ++ zs := by
          have hm : y' ∈ tv ts := by rw [hts]; simp
          obtain ⟨t, _, ht⟩ := List.mem_map.mp hm
          refine ⟨t, ht.symm, ?_⟩
          rw [hts, ← ht]
          simp [tv]
        obtain ⟨t, rfl, hts'⟩ := hy'
        obtain ⟨rfl, ot⟩ := repD_str.mp (repV_d.mp r13)
        have hul : us.length < ts.length := by
          have := congrArg List.length hts'
          simp only [tv, List.length_map, List.length_append, List.length_cons, List.length_nil] at this
          omega
        refine ⟨PI.S' t, _, rfl, h13, ?_, us ++ [t], μ13, S5, zs, ?_, ?_, ?_, ?_, e6, hts'⟩
        · have := dedupP_len us []
          simp only [List.length_nil, Nat.zero_add] at this
          rw [List.length_map]
          unfold scanBound
          omega
        · exact ((g34.trans g11).trans g13).since hd
        · exact w13.over h13
        · rw [upd_same, dedupP_push]
        · intro t' m
          rcases List.mem_append.mp m with m | m
          · exact hok t' m
          · rw [List.mem_singleton.mp m]; exact ot
      · cases e5
        refine ⟨μ3, ρ1, S3, false, S5, w4, re9, e7, fun H11 μ11 g11 w11 => iteF ?_⟩
        exact ⟨us, μ11, S5, zs, g34.trans g11, w11, g11.ext d _ h4, hok, e6, by simpa using hts⟩
      · cases e5
    · cases e5
  · rintro H3 ⟨us, μ3, S3, rest, g3, w3, h3, hok, e3, hts⟩
    rw [hn, List.drop_length] at e3
    cases e3
    rw [List.append_nil] at hts
    have hu : ts = us := by
      have inj : ∀ {a b : List T}, tv a = tv b → a = b := fun {a b} h => by
        unfold tv at h
        exact (List.map_inj_right (fun x y e => by injection e with e; injection e)).mp h
      exact inj hts
    subst hu
    refine hlk.off g3 w3 fun H4 g5 w5 gu ex => q d H4 μ3 (g1.trans g5) w5 hok (ex d _ h3)
theorem ts_nil0 : PTs X [] (tRb X.K fun _ S => some (.d (.bl true), S)) := ⟨fun pins s σ H Q I ⟨μ, ρ, S, b, S', w, re, e, q⟩ => by
  cases e
  exact wpAny_tests_nil ⟨_, I, q _ _ Grow.refl w⟩⟩
theorem e_sortSc {sp spos : Pos} (c : Ctx F C k s X) (hgs : glB s.sc "sorted" = true) (hms : X.mg "sorted" = none) (hi : L2.PI X tg iter (wI X fi)) (ok : BlkOk X.N X.env.scope scope own) (hp : ∀ i ∈ p.ixs, i ∈ own.map (·.2))
    (hg : ∀ (s0 : Shared) (H0 : Hp) (C0 : Addr) (cl : List (PySem.Str × Addr)) (fp : List Addr), PG (X.blk s0 H0 scope (compEnvC scope cl C0 X.env) fp) tg (gP X.K p))
    (ht : ∀ (s0 : Shared) (H0 : Hp) (C0 : Addr) (cl : List (PySem.Str × Addr)) (fp : List Addr), PTs (X.blk s0 H0 scope (compEnvC scope cl C0 X.env) fp) ifs (tRb X.K ft))
    (he : ∀ (s0 : Shared) (H0 : Hp) (C0 : Addr) (cl : List (PySem.Str × Addr)) (fp : List Addr), PE (X.blk s0 H0 scope (compEnvC scope cl C0 X.env) fp) elt (tR X.K fe))
    (hs : ∀ x, foldedSetIterable iter X.env x = pure x) : PE X (.Call (.Name "sorted" sp) [.SetComp elt [⟨tg, iter, ifs, 0⟩] scope pos] [] spos)
      (tR X.K fun ρ S => bnd (fi ρ S) fun xs S => bnd (evLc (turnLc p ft (one fe)) xs (PI.wipe ρ (own.map (·.2))) S) fun vs S => match datas vs with
        | some xs => match texts xs with
          | some ts => if ts.length < 64 then some (.d (.lst ((sortT (dedupT ts)).map .str)), S) else none
          | none => none
        | none => none) := by
  refine PE.imp (pe_sortO c hgs hms rfl (e_scX c hi ok hp hg ht he hs)) fun σ H Q ⟨μ, ρ, S, z, S', w, re, e, q⟩ => ?_
  obtain ⟨xs, S1, e1, e⟩ := bnd_eq e
  obtain ⟨vs, S2, e2, e⟩ := bnd_eq e
  split at e
  · rename_i ds hd
    split at e
    · rename_i ts ht
      split at e
      · rename_i hl
        cases e
        have hv : vs = tv ts := by
          rw [datas_eq hd, texts_map ht, List.map_map]; rfl
        subst hv
        refine ⟨μ, ρ, S, ts, _, w, re, (by rw [e1]; exact e2), by omega, fun a H1 μ1 g1 w1 o ha => ⟨a, _, rfl, ha, ?_, fun ys p hy hs hp => ?_⟩⟩
        · rw [List.length_map]
          have := dedupP_len ts []
          simp only [List.length_nil, Nat.zero_add] at this
          omega
        · rw [sort_fin (dedup_perm ts) hy hs]
          exact Pu.strs w1 (q.grow g1) (fun t m => o t ((dedupT_mem ts t).mp ((sortT_perm _).mem_iff.mp m))) hp
      · cases e
    · cases e
  · cases e
end
end PI
set_option Elab.async false
set_option linter.all false
set_option maxRecDepth 100000
set_option maxHeartbeats 1000000
/-! PI26: the matcher: this AST is what this text says. -/
namespace PI
open PySem PySem.Spec PyProof.Rows L2 RZ
mutual
def D.same : D → D → Bool
  | .non, y => match y with
    | .non => true
    | _ => false
  | .bl a, y => match y with
    | .bl b => a == b
    | _ => false
  | .int a, y => match y with
    | .int b => decide (a = b)
    | _ => false
  | .str a, y => match y with
    | .str b => decide (a = b)
    | _ => false
  | .tup a, y => match y with
    | .tup b => D.sames a b
    | _ => false
  | .lst a, y => match y with
    | .lst b => D.sames a b
    | _ => false
def D.sames : List D → List D → Bool
  | [], ys => match ys with
    | [] => true
    | _ :: _ => false
  | x :: xs, ys => match ys with
    | [] => false
    | y :: ys => D.same x y && D.sames xs ys
end
mutual
theorem D.same_eq : ∀ x y : D, D.same x y = true → x = y
  | .non, y, h => by cases y <;> simp_all [D.same]
  | .bl a, y, h => by cases y <;> simp_all [D.same]
  | .int a, y, h => by cases y <;> simp_all [D.same]
  | .str a, y, h => by cases y <;> simp_all [D.same]
  | .tup a, y, h => by
    cases y with
    | tup b => rw [D.sames_eq a b (by simpa [D.same] using h)]
    | _ => simp [D.same] at h
  | .lst a, y, h => by
    cases y with
    | lst b => rw [D.sames_eq a b (by simpa [D.same] using h)]
    | _ => simp [D.same] at h
theorem D.sames_eq : ∀ xs ys : List D, D.sames xs ys = true → xs = ys
  | [], ys, h => by cases ys <;> simp_all [D.sames]
  | x :: xs, ys, h => by
    cases ys with
    | nil => simp [D.sames] at h
    | cons y ys =>
      simp only [D.sames, Bool.and_eq_true] at h
      rw [D.same_eq x y h.1, D.sames_eq xs ys h.2]
end
def opIs : Op → Operator → Bool
  | .add, o => match o with
    | .Add => true
    | _ => false
  | .sub, o => match o with
    | .Sub => true
    | _ => false
  | .mul, o => match o with
    | .Mult => true
    | _ => false
  | .fdiv, o => match o with
    | .FloorDiv => true
    | _ => false
  | .mod, o => match o with
    | .Mod => true
    | _ => false
  | .pow, o => match o with
    | .Pow => true
    | _ => false
theorem opIs_eq {o : Op} {p : Operator} (h : opIs o p = true) : p = opOf o := by
  cases o <;> cases p <;> first | rfl | cases h
def cpIs : Cp → CmpOp → Bool
  | .eq, o => match o with
    | .Eq => true
    | _ => false
  | .ne, o => match o with
    | .NotEq => true
    | _ => false
  | .lt, o => match o with
    | .Lt => true
    | _ => false
  | .le, o => match o with
    | .LtE => true
    | _ => false
  | .gt, o => match o with
    | .Gt => true
    | _ => false
  | .ge, o => match o with
    | .GtE => true
    | _ => false
  | .isin, o => match o with
    | .In => true
    | _ => false
  | .notin, o => match o with
    | .NotIn => true
    | _ => false
theorem cpIs_eq {o : Cp} {p : CmpOp} (h : cpIs o p = true) : p = cpOf o := by
  cases o <;> cases p <;> first | rfl | cases h
/-- a built-in's name, free to mean the built-in -/
def okB (F : Mc) (s : Sc) (x : PySem.Str) : Bool := glB s.sc x && F.bls.contains x
def b1Nm : B1 → PySem.Str
  | .len => "len"
  | .int => "int"
  | .abs => "abs"
  | .tup => "tuple"
  | .lst _ => "list"
  | .all => "all"
  | .any => "any"
  | .sorted => "sorted"
  | .bool => "bool"
  | .lenset => "len"
  | .sset => "sorted"
def b2Nm : B2 → PySem.Str
  | .min => "min"
  | .max => "max"
def notSet : Expr → Bool
  | .Set _ _ _ => false
  | _ => true
def mTys (F : Mc) (s : Sc) : List Ty → List Expr → Bool
  | [], es => match es with
    | [] => true
    | _ :: _ => false
  | t :: ts, es => match es with
    | [] => false
    | e :: es => (match e with
      | .Name x _ => x == tyName t && okB F s x
      | _ => false) && mTys F s ts es
def ownL (F : Mc) (own : List Nat) : List (PySem.Str × Nat) := own.filterMap fun i => (F.N[i]?).map fun x => (x, i)
/-- what a comprehension's block asks -/
def mBlk (F : Mc) (s : Sc) (scope : Scope) (own : List Nat) (p : Pat) : Bool := blkC F.N s.sc scope (ownL F own) && decide ((ownL F own).map (·.2) = own) && p.ixs.all fun i => own.contains i
/-- an expression that may stand as a test -/
def tstB : Expr → Bool
  | .IfExp _ _ _ _ => false
  | _ => true
def isNon : E → Bool
  | .non => true
  | _ => false
mutual
def mE (F : Mc) : E → Sc → Expr → Bool
  | .var i, s, e => match e with
    | .Name x _ => (F.N[i]? == some x) && visB s.sc x && okNm x
    | _ => false
  | .glob i d, s, e => match e with
    | .Name x _ => (match F.gls.lookup i with
      | some p => p.1 == x && D.same p.2 d
      | none => false) && glB s.sc x && okNm x
    | _ => false
  | .non, _, e => match e with
    | .Constant .none _ _ => true
    | _ => false
  | .bl b, _, e => match e with
    | .Constant (.bool c) _ _ => b == c
    | _ => false
  | .int i, _, e => match e with
    | .Constant (.int j) _ _ => decide (i = j)
    | _ => false
  | .str t, _, e => match e with
    | .Constant (.str z) _ _ => z == S' t && okT t
    | _ => false
  | .tup as, s, e => match e with
    | .Tuple es _ _ => mEs F as s es && es.all notStar && decide (as.length ≤ 1000)
    | _ => false
  | .lst _ as, s, e => match e with
    | .List es _ => mEs F as s es && es.all notStar && decide (as.length ≤ 1000)
    | _ => false
  | .dct _ ks as, s, e => match e with
    | .Dict keys es _ => mDs F as ks s keys es && decide (ks.length ≤ 15) && ks.all okT
    | _ => false
  | .bin o a b, s, e => match e with
    | .BinOp x op y _ => opIs o op && mE F a s x && mE F b s y
    | _ => false
  | .cat _ a b, s, e => match e with
    | .BinOp x op y _ => opIs .add op && mE F a s x && mE F b s y
    | _ => false
  | .neg a, s, e => match e with
    | .UnaryOp .USub x _ => mE F a s x
    | _ => false
  | .cmp o a b, s, e => match e with
    | .Compare x [op] [y] _ => cpIs o op && mE F a s x && mE F b s y && !behindInMarks op y
    | _ => false
  | .eqL ng a b, s, e => match e with
    | .Compare x [op] [y] _ => cpIs (if ng then .ne else .eq) op && mE F a s x && mE F b s y && !behindInMarks op y
    | _ => false
  | .isN a, s, e => match e with
    | .Compare x [.Is] [.Constant .none _ _] _ => mE F a s x
    | _ => false
  | .notN a, s, e => match e with
    | .Compare x [.IsNot] [.Constant .none _ _] _ => mE F a s x
    | _ => false
  | .isB ng a b, s, e => match e with
    | .Compare x [op] [.Constant (.bool c) _ _] _ => (match op with
      | .Is => !ng
      | .IsNot => ng
      | _ => false) && b == c && mE F a s x
    | _ => false
  | .chain o o' a b c, s, e => match e with
    | .Compare x [op, op'] [y, z] _ => cpIs o op && cpIs o' op' && mE F a s x && mE F b s y && mE F c s z && !lastMarks [op, op'] [y, z]
    | _ => false
  | .and a b, s, e => match e with
    | .BoolOp .And (x :: y :: r) p => mE F a s x && tstB x && (match r with
      | [] => mE F b s y && tstB y
      | _ :: _ => mE F b s (.BoolOp .And (y :: r) p))
    | _ => false
  | .or a b, s, e => match e with
    | .BoolOp .Or (x :: y :: r) p => mE F a s x && tstB x && (match r with
      | [] => mE F b s y && tstB y
      | _ :: _ => mE F b s (.BoolOp .Or (y :: r) p))
    | _ => false
  | .not a, s, e => match e with
    | .UnaryOp .Not x _ => mE F a s x && tstB x
    | _ => false
  | .ife c a b, s, e => match e with
    | .IfExp x y z _ => mE F c s x && mE F a s y && mE F b s z && tstB x
    | _ => false
  | .idx a b, s, e => match e with
    | .Subscript x y _ => mE F a s x && mE F b s y && plainIx y
    | _ => false
  | .slice _ a lo hi, s, e => match e with
    | .Subscript x (.Slice l h none _) _ => mE F a s x && (match l with
      | none => isNon lo
      | some l => !isNon lo && mE F lo s l) && (match h with
      | none => isNon hi
      | some h => !isNon hi && mE F hi s h)
    | _ => false
  | .call f _ as, s, e => match e with
    | .Call (.Name x _) es [] _ => (F.fns.lookup f == some x) && glB s.sc x && okNm x && mEs F as s es && es.all notStar
    | _ => false
  | .b1 b a, s, e => match e with
    | .Call (.Name x _) [y] [] _ => x == b1Nm b && okB F s x && notStar y && (match b with
      | .sset => (match y with
        | .Call (.Name x2 _) [y2] [] _ => x2 == ("set" : PySem.Str) && okB F s x2 && notStar y2 && mE F a s y2
        | _ => false)
      | .lenset => (match y with
        | .Call (.Name x2 _) [y2] [] _ => x2 == ("set" : PySem.Str) && okB F s x2 && notStar y2 && mE F a s y2
        | _ => false)
      | .bool => false
      | _ => mE F a s y)
    | _ => false
  | .b2 b a c, s, e => match e with
    | .Call (.Name x _) [y, z] [] _ => x == b2Nm b && okB F s x && notStar y && notStar z && mE F a s y && mE F c s z
    | _ => false
  | .isi a ts, s, e => match e with
    | .Call (.Name x _) [y, t] [] _ => x == ("isinstance" : PySem.Str) && okB F s x && notStar y && mE F a s y && (match t with
      | .Name x2 _ => (match ts with
        | [t1] => x2 == tyName t1 && okB F s x2
        | _ => false)
      | .Tuple es _ _ => mTys F s ts es && decide (ts.length ≤ 1000) && decide (ts ≠ [])
      | _ => false)
    | _ => false
  | .comp _ p it c elt own, s, e => match e with
    | .ListComp el [⟨tg, iter, ifs, 0⟩] scope _ => mBlk F s scope own p && mI F it s tg iter && notSet iter && mP F ⟨relS scope s.sc, scope⟩ p tg && (match ifs with
      | [] => (match c with
        | .bl true => true
        | _ => false)
      | [x] => mE F c ⟨relS scope s.sc, scope⟩ x && tstB x
      | _ => false) && mE F elt ⟨relS scope s.sc, scope⟩ el
    | _ => false
  | .scomp p it c elt own, s, e => match e with
    | .Call (.Name x _) [.SetComp el [⟨tg, iter, ifs, 0⟩] scope _] [] _ => x == ("sorted" : PySem.Str) && okB F s x && mBlk F s scope own p && mI F it s tg iter && notSet iter && mP F ⟨relS scope s.sc, scope⟩ p tg && (match ifs with
      | [] => (match c with
        | .bl true => true
        | _ => false)
      | [x] => mE F c ⟨relS scope s.sc, scope⟩ x && tstB x
      | _ => false) && mE F elt ⟨relS scope s.sc, scope⟩ el
    | _ => false
  | .join a b, s, e => match e with
    | .Call (.Attribute x m ap) [y] [] p => m == ("join" : PySem.Str) && mE F a s x && mE F b s y && baseB x && notStar y && (ap.endLine == p.line)
    | _ => false
  | .split a b, s, e => match e with
    | .Call (.Attribute x m ap) [y] [] p => m == ("split" : PySem.Str) && mE F a s x && mE F b s y && baseB x && notStar y && (ap.endLine == p.line)
    | _ => false
  | .append a b, s, e => match e with
    | .Call (.Attribute x m ap) [y] [] p => m == ("append" : PySem.Str) && mE F a s x && mE F b s y && baseB x && notStar y && (ap.endLine == p.line)
    | _ => false
  | .update a b, s, e => match e with
    | .Call (.Attribute x m ap) [y] [] p => m == ("update" : PySem.Str) && mE F a s x && mE F b s y && baseB x && notStar y && (ap.endLine == p.line)
    | _ => false
  | .pop1 a b, s, e => match e with
    | .Call (.Attribute x m ap) [y] [] p => m == ("pop" : PySem.Str) && mE F a s x && mE F b s y && baseB x && notStar y && (ap.endLine == p.line)
    | _ => false
  | .pop0 a, s, e => match e with
    | .Call (.Attribute x m ap) [] [] p => m == ("pop" : PySem.Str) && mE F a s x && baseB x && (ap.endLine == p.line)
    | _ => false
  | .get2 a b d, s, e => match e with
    | .Call (.Attribute x m ap) [y, z] [] p => m == ("get" : PySem.Str) && mE F a s x && mE F b s y && mE F d s z && baseB x && notStar y && notStar z && (ap.endLine == p.line)
    | _ => false
  | .dictP _ a, s, e => match e with
    | .Call (.Name x _) [y] [] _ => x == ("dict" : PySem.Str) && okB F s x && notStar y && mE F a s y
    | _ => false
  | _, _, _ => false
def mEs (F : Mc) : List E → Sc → List Expr → Bool
  | [], _, es => match es with
    | [] => true
    | _ :: _ => false
  | a :: as, s, es => match es with
    | [] => false
    | e :: es => mE F a s e && mEs F as s es
def mDs (F : Mc) : List E → List T → Sc → List (Option Expr) → List Expr → Bool
  | [], ks, _, keys, es => match ks with
    | [] => (match keys with
      | [] => (match es with
        | [] => true
        | _ :: _ => false)
      | _ :: _ => false)
    | _ :: _ => false
  | a :: as, ks, s, keys, es => match ks with
    | [] => false
    | k :: ks => match keys with
      | some (.Constant (.str z) _ _) :: keys => (match es with
        | [] => false
        | e :: es => z == S' k && mE F a s e && mDs F as ks s keys es)
      | _ => false
def mI (F : Mc) : E → Sc → Expr → Expr → Bool
  | .seq a, s, _, e => mE F a s e
  | .rng1 a, s, _, e => match e with
    | .Call (.Name x _) [y] [] _ => x == ("range" : PySem.Str) && okB F s x && notStar y && mE F a s y
    | _ => false
  | .rng2 a b, s, _, e => match e with
    | .Call (.Name x _) [y, z] [] _ => x == ("range" : PySem.Str) && okB F s x && notStar y && notStar z && mE F a s y && mE F b s z
    | _ => false
  | .zip a b, s, tg, e => match tg with
    | .Tuple _ _ _ => (match e with
      | .Call (.Name x _) [y, z] [] _ => x == ("zip" : PySem.Str) && okB F s x && notStar y && notStar z && mE F a s y && mE F b s z
      | _ => false)
    | _ => false
  | .enum a, s, tg, e => match tg with
    | .Tuple _ _ _ => (match e with
      | .Call (.Name x _) [y] [] _ => x == ("enumerate" : PySem.Str) && okB F s x && notStar y && mE F a s y
      | _ => false)
    | _ => false
  | .items a, s, tg, e => match tg with
    | .Tuple _ _ _ => (match e with
      | .Call (.Attribute x m ap) [] [] p => m == ("items" : PySem.Str) && mE F a s x && baseB x && (ap.endLine == p.line)
      | _ => false)
    | _ => false
  | .vals a, s, _, e => match e with
    | .Call (.Attribute x m ap) [] [] p => m == ("values" : PySem.Str) && mE F a s x && baseB x && (ap.endLine == p.line)
    | _ => false
  | _, _, _, _ => false
end
end PI
set_option Elab.async false
set_option linter.all false
set_option maxRecDepth 100000
set_option maxHeartbeats 4000000
/-! PI27: what the matcher takes does what the interpreter says. -/
namespace PI
open PySem PySem.Spec PyProof.Rows L2 RZ
structure Ok (X : Cx) (x : Expr) (f : Env → Store → R Val) : Prop where
  pe : PE X x (tR X.K f)
  pt : tstB x = true → PT X x (tRb X.K f)
  pw : ∀ op es pos, x = .BoolOp op es pos → PW X x (tRb X.K f)
section
variable {F : Mc} {C : Calls} {k : Nat} {s : Sc} {X : Cx}
theorem Ok.cong {x : Expr} {f g : Env → Store → R Val} (h : Ok X x f) (e : ∀ ρ S, g ρ S = f ρ S) : Ok X x g := by
  have : g = f := by funext ρ S; exact e ρ S
  rw [this]; exact h
theorem Ok.plain {x : Expr} {f : Env → Store → R Val} (h : PE X x (tR X.K f)) (hp : plainT x = true) : Ok X x f :=
  ⟨h, fun _ => e_test h hp, fun op es pos e => by subst e; cases hp⟩
theorem Ok.cmp {x : Expr} {ops : List CmpOp} {ys : List Expr} {pos : Pos} {f : Env → Store → R Val} (h : PE X (.Compare x ops ys pos) (tR X.K f) ∧ PT X (.Compare x ops ys pos) (tRb X.K f)) : Ok X (.Compare x ops ys pos) f :=
  ⟨h.1, fun _ => h.2, fun op es pos e => by cases e⟩
theorem okB_g {x : PySem.Str} (h : okB F s x = true) : glB s.sc x = true := by
  unfold okB at h
  simp only [Bool.and_eq_true] at h
  exact h.1
theorem okB_m (c : Ctx F C k s X) {x : PySem.Str} (h : okB F s x = true) (_hb : (bootBuiltins x).isSome = true) : X.mg x = none := by
  unfold okB at h
  simp only [Bool.and_eq_true, List.contains_eq_mem, decide_eq_true_eq] at h
  exact c.blt x h.2
theorem glob_ok (c : Ctx F C k s X) {i : Nat} {d : D} {x : PySem.Str} {p : PySem.Str × D} {pos : Pos} (h : F.gls.lookup i = some p) (hx : p.1 = x) (hd : p.2 = d) (hg : glB s.sc x = true) (ho : okNm x = true) : PE X (.Name x pos) (tR X.K fun _ S => some (.d d, S)) := by
  obtain ⟨y, d'⟩ := p
  cases hx
  cases hd
  obtain ⟨u, v, h1, h2, h3⟩ := c.gls i _ _ h
  exact e_const (pe_glob (c.gl hg) h1 h2 (okNm_of ho).1) _ (fun _ _ => rfl) h3
theorem tys_ok (c : Ctx F C k s X) : ∀ (ts : List Ty) (es : List Expr), mTys F s ts es = true → TyNms X s ts es
  | [], [], _ => .nil
  | [], _ :: _, h => by simp [mTys] at h
  | _ :: _, [], h => by simp [mTys] at h
  | t :: ts, e :: es, h => by
    simp only [mTys, Bool.and_eq_true] at h
    obtain ⟨h1, h2⟩ := h
    split at h1
    · rename_i x p
      simp only [Bool.and_eq_true, beq_iff_eq] at h1
      obtain ⟨rfl, hb⟩ := h1
      exact .cons (okB_g hb) (okB_m c hb (by cases t <;> decide +kernel)) (tys_ok c ts es h2)
    · cases h1
theorem partE_int {b : E} (h : isNon b = false) (x : Val) (o : Option Int) (e : partE b x = some o) : ∃ i, x = .d (.int i) ∧ o = some i := by
  cases b <;> first | (cases h; done) | (simp only [partE] at e; split at e <;> first | (cases e; exact ⟨_, rfl, rfl⟩) | cases e)
theorem notSet_ok {e : Expr} {env : PySem.Env} (h : notSet e = true) : ∀ x, foldedSetIterable e env x = pure x := by
  intro x
  cases e <;> first | rfl | cases h
theorem blk_ok {scope : Scope} {own : List Nat} {p : Pat} (h : mBlk F s scope own p = true) : BlkOk F.N s.sc scope (ownL F own) ∧ (ownL F own).map (·.2) = own ∧ ∀ i ∈ p.ixs, i ∈ (ownL F own).map (·.2) := by
  unfold mBlk at h
  simp only [Bool.and_eq_true, decide_eq_true_eq, List.all_eq_true, List.contains_eq_mem] at h
  obtain ⟨⟨h1, h2⟩, h3⟩ := h
  exact ⟨blkOk_by h1, h2, fun i m => by rw [h2]; simpa using h3 i m⟩
end
variable {F : Mc} {C : Calls} {k : Nat}
mutual
theorem mE_ok : ∀ (e : E) (s : Sc) (X : Cx) (x : Expr), Ctx F C k s X → mE F e s x = true → Ok X x (evE C e)
  | .var i, s, X, x, c, h => by
    cases x with
    | Name y pos =>
      simp only [mE, Bool.and_eq_true, beq_iff_eq] at h
      exact .plain (e_var c h.1.1 h.1.2 h.2) rfl
    | _ => simp [mE] at h
  | .glob i d, s, X, x, c, h => by
    cases x with
    | Name y pos =>
      simp only [mE, Bool.and_eq_true] at h
      obtain ⟨⟨h1, h2⟩, h3⟩ := h
      split at h1
      · rename_i p hp
        simp only [Bool.and_eq_true, beq_iff_eq] at h1
        exact .plain (glob_ok c hp h1.1 (D.same_eq _ _ h1.2) h2 h3) rfl
      · cases h1
    | _ => simp [mE] at h
  | .non, s, X, x, c, h => by
    unfold mE at h
    split at h
    · exact .plain (e_const pe_non _ (fun _ _ => rfl) fun _ _ => repD_non.mpr rfl) rfl
    · cases h
  | .bl b, s, X, x, c, h => by
    unfold mE at h
    split at h
    · simp only [beq_iff_eq] at h
      subst h
      exact .plain (e_const pe_bl _ (fun _ _ => rfl) fun _ _ => repD_bl.mpr rfl) rfl
    · cases h
  | .int i, s, X, x, c, h => by
    unfold mE at h
    split at h
    · simp only [decide_eq_true_eq] at h
      subst h
      exact .plain (e_const pe_int _ (fun _ _ => rfl) fun _ _ => repD_int.mpr rfl) rfl
    · cases h
  | .str t, s, X, x, c, h => by
    unfold mE at h
    split at h
    · simp only [Bool.and_eq_true, beq_iff_eq] at h
      obtain ⟨rfl, o⟩ := h
      exact .plain (e_const pe_str _ (fun _ _ => rfl) fun _ _ => repD_str.mpr ⟨rfl, o⟩) rfl
    · cases h
  | .tup as, s, X, x, c, h => by
    unfold mE at h
    split at h
    · simp only [Bool.and_eq_true, decide_eq_true_eq] at h
      refine (Ok.plain (e_tup (mEs_ok as s X _ c h.1.1 h.1.2) fun ρ S vs S' e => by rw [evEs_length e]; exact h.2) rfl).cong fun ρ S => ?_
      simp only [evE] <;> rfl
    · cases h
  | .lst m as, s, X, x, c, h => by
    unfold mE at h
    split at h
    · simp only [Bool.and_eq_true, decide_eq_true_eq] at h
      refine (Ok.plain (e_lst (m := m) (mEs_ok as s X _ c h.1.1 h.1.2) fun ρ S vs S' e => by rw [evEs_length e]; exact h.2) rfl).cong fun ρ S => ?_
      simp only [evE] <;> rfl
    · cases h
  | .dct m ks as, s, X, x, c, h => by
    unfold mE at h
    split at h
    · rename_i keys es pos
      simp only [Bool.and_eq_true, decide_eq_true_eq] at h
      have d := mDs_ok as ks s X keys es pos c h.1.1
      by_cases h0 : ks = []
      · subst h0
        have l := dsp_len d
        have k0 : keys = [] := List.eq_nil_of_length_eq_zero l.1
        have e0 : es = [] := List.eq_nil_of_length_eq_zero l.2.1
        subst k0 e0
        refine (Ok.plain (e_dct0 (m := m)) rfl).cong fun ρ S => ?_
        cases as with
        | nil => simp only [evE, evEs, bnd_some, List.zip_nil_left, putAll]
        | cons a as => simp [mDs] at h
      · refine (Ok.plain (e_dct (m := m) d h0 h.1.2 h.2) rfl).cong fun ρ S => ?_
        simp only [evE] <;> rfl
    · cases h
  | .bin o a b, s, X, x, c, h => by
    unfold mE at h
    split at h
    · simp only [Bool.and_eq_true] at h
      rw [opIs_eq h.1.1]
      exact .plain (e_bin (mE_ok a s X _ c h.1.2).pe (mE_ok b s X _ c h.2).pe _ fun ρ S z S' e => ev_bin e) rfl
    · cases h
  | .cat m a b, s, X, x, c, h => by
    unfold mE at h
    split at h
    · simp only [Bool.and_eq_true] at h
      rw [opIs_eq h.1.1]
      refine (Ok.plain (e_cat (m := m) (mE_ok a s X _ c h.1.2).pe (mE_ok b s X _ c h.2).pe) rfl).cong fun ρ S => ?_
      simp only [evE] <;> rfl
    · cases h
  | .neg a, s, X, x, c, h => by
    unfold mE at h
    split at h
    · refine (Ok.plain (e_neg (mE_ok a s X _ c h).pe) rfl).cong fun ρ S => ?_
      simp only [evE] <;> rfl
    · cases h
  | .cmp o a b, s, X, x, c, h => by
    unfold mE at h
    split at h
    · simp only [Bool.and_eq_true, Bool.not_eq_true'] at h
      have hop := cpIs_eq h.1.1.1
      subst hop
      exact .cmp (e_cmp c (mE_ok a s X _ c h.1.1.2).pe (mE_ok b s X _ c h.1.2).pe h.2 _ fun ρ S z S' e => ev_cmp e)
    · cases h
  | .eqL ng a b, s, X, x, c, h => by
    unfold mE at h
    split at h
    · simp only [Bool.and_eq_true, Bool.not_eq_true'] at h
      have hop := cpIs_eq h.1.1.1
      have h2 : cpOf (if ng = true then Cp.ne else Cp.eq) = eqOp ng := by cases ng <;> rfl
      rw [h2] at hop
      subst hop
      refine .cmp (e_eqL (ng := ng) c (mE_ok a s X _ c h.1.1.2).pe (mE_ok b s X _ c h.1.2).pe h.2 _ ?_)
      funext ρ S
      simp only [evE] <;> rfl
    · cases h
  | .isN a, s, X, x, c, h => by
    unfold mE at h
    split at h
    · refine (Ok.cmp (e_isN (mE_ok a s X _ c h).pe)).cong fun ρ S => ?_
      simp only [evE] <;> rfl
    · cases h
  | .notN a, s, X, x, c, h => by
    unfold mE at h
    split at h
    · refine (Ok.cmp (e_notN (mE_ok a s X _ c h).pe)).cong fun ρ S => ?_
      simp only [evE] <;> rfl
    · cases h
  | .isB ng a b, s, X, x, c, h => by
    unfold mE at h
    split at h
    · rename_i x op cc j p pos
      simp only [Bool.and_eq_true, beq_iff_eq] at h
      obtain ⟨⟨h1, rfl⟩, h3⟩ := h
      have hop : op = isOp ng := by
        cases op <;> simp at h1 <;> (subst h1; rfl)
      subst hop
      refine .cmp (e_isB (ng := ng) (b := b) (mE_ok a s X _ c h3).pe _ ?_)
      funext ρ S
      simp only [evE] <;> rfl
    · cases h
  | .chain o o' a b d, s, X, x, c, h => by
    unfold mE at h
    split at h
    · simp only [Bool.and_eq_true, Bool.not_eq_true'] at h
      have hop := cpIs_eq h.1.1.1.1.1
      have hop' := cpIs_eq h.1.1.1.1.2
      subst hop hop'
      exact .cmp (e_chain c (mE_ok a s X _ c h.1.1.1.2).pe (mE_ok b s X _ c h.1.1.2).pe (mE_ok d s X _ c h.1.2).pe h.2 _ fun ρ S z S' e => ev_chain e)
    · cases h
  | .and a b, s, X, x, c, h => by
    unfold mE at h
    split at h
    · rename_i x y r p
      simp only [Bool.and_eq_true] at h
      obtain ⟨⟨h1, t1⟩, h2⟩ := h
      have ha := mE_ok a s X _ c h1
      have hb : PE X (.BoolOp .And (y :: r) p) (tR X.K (evE C b)) ∧ PW X (.BoolOp .And (y :: r) p) (tRb X.K (evE C b)) := by
        split at h2
        · simp only [Bool.and_eq_true] at h2
          have hb := mE_ok b s X _ c h2.1
          exact ⟨pe_one hb.pe, pw_and1 (hb.pt h2.2)⟩
        · have hb := mE_ok b s X _ c h2
          exact ⟨hb.pe, hb.pw _ _ _ rfl⟩
      have w := t_and (ha.pt t1) hb.2
      refine Ok.cong (f := fun ρ S => bnd (evE C a ρ S) fun x S => match x with
        | .d (.bl true) => evE C b ρ S
        | .d (.bl false) => some (.d (.bl false), S)
        | _ => none) ⟨e_and ha.pe hb.1, fun _ => w.pt, fun op es pos e => by cases e; exact w⟩ fun ρ S => ?_
      simp only [evE] <;> rfl
    · cases h
  | .or a b, s, X, x, c, h => by
    unfold mE at h
    split at h
    · rename_i x y r p
      simp only [Bool.and_eq_true] at h
      obtain ⟨⟨h1, t1⟩, h2⟩ := h
      have ha := mE_ok a s X _ c h1
      have hb : PE X (.BoolOp .Or (y :: r) p) (tR X.K (evE C b)) ∧ PW X (.BoolOp .Or (y :: r) p) (tRb X.K (evE C b)) := by
        split at h2
        · simp only [Bool.and_eq_true] at h2
          have hb := mE_ok b s X _ c h2.1
          exact ⟨pe_one hb.pe, pw_or1 (hb.pt h2.2)⟩
        · have hb := mE_ok b s X _ c h2
          exact ⟨hb.pe, hb.pw _ _ _ rfl⟩
      have w := t_or (ha.pt t1) hb.2
      refine Ok.cong (f := fun ρ S => bnd (evE C a ρ S) fun x S => match x with
        | .d (.bl true) => some (.d (.bl true), S)
        | .d (.bl false) => evE C b ρ S
        | _ => none) ⟨e_or ha.pe hb.1, fun _ => w.pt, fun op es pos e => by cases e; exact w⟩ fun ρ S => ?_
      simp only [evE] <;> rfl
    · cases h
  | .not a, s, X, x, c, h => by
    unfold mE at h
    split at h
    · simp only [Bool.and_eq_true] at h
      have ha := mE_ok a s X _ c h.1
      refine Ok.cong (f := fun ρ S => bnd (evE C a ρ S) fun x S => match x with
        | .d (.bl b) => some (.d (.bl !b), S)
        | _ => none) ⟨e_not ha.pe, fun _ => t_not (ha.pt h.2), fun op es pos e => by cases e⟩ fun ρ S => ?_
      simp only [evE] <;> rfl
    · cases h
  | .ife d a b, s, X, x, c, h => by
    unfold mE at h
    split at h
    · simp only [Bool.and_eq_true] at h
      refine Ok.cong (f := fun ρ S => bnd (evE C d ρ S) fun x S => match x with
        | .d (.bl true) => evE C a ρ S
        | .d (.bl false) => evE C b ρ S
        | _ => none) ⟨e_ife ((mE_ok d s X _ c h.1.1.1).pt h.2) (mE_ok a s X _ c h.1.1.2).pe (mE_ok b s X _ c h.1.2).pe, fun t => by simp [tstB] at t, fun op es pos e => by cases e⟩ fun ρ S => ?_
      simp only [evE] <;> rfl
    · cases h
  | .idx a b, s, X, x, c, h => by
    unfold mE at h
    split at h
    · simp only [Bool.and_eq_true] at h
      refine (Ok.plain (e_idx c (mE_ok a s X _ c h.1.1).pe (mE_ok b s X _ c h.1.2).pe h.2) rfl).cong fun ρ S => ?_
      simp only [evE] <;> rfl
    · cases h
  | .slice m a lo hi, s, X, x, c, h => by
    unfold mE at h
    split at h
    · rename_i x l u p pos
      simp only [Bool.and_eq_true] at h
      obtain ⟨⟨h1, h2⟩, h3⟩ := h
      have part : ∀ (b : E) (l : Option Expr), (∀ y, l = some y → isNon b = false → mE F b s y = true → Ok X y (evE C b)) → (match l with
          | none => isNon b
          | some l => !isNon b && mE F b s l) = true → PO X l (tRo X.K (evE C b) (partE b)) := fun b l ih hl => by
        cases l with
        | none =>
          cases b <;> first | (cases hl; done) | skip
          have e : evE C .non = fun _ S => some (.d .non, S) := by funext ρ S; simp only [evE]
          rw [e]
          exact o_none
        | some y =>
          simp only [Bool.and_eq_true, Bool.not_eq_true'] at hl
          exact o_some (ih y rfl hl.1 hl.2).pe (partE_int hl.1)
      refine (Ok.plain (e_slice (m := m) (mE_ok a s X _ c h1).pe (part lo l (fun y _ _ hy => mE_ok lo s X y c hy) h2) (part hi u (fun y _ _ hy => mE_ok hi s X y c hy) h3)) rfl).cong fun ρ S => ?_
      simp only [evE] <;> rfl
    · cases h
  | .call f m as, s, X, x, c, h => by
    unfold mE at h
    split at h
    · simp only [Bool.and_eq_true, beq_iff_eq] at h
      obtain ⟨⟨⟨⟨h1, h2⟩, h3⟩, h4⟩, h5⟩ := h
      cases as with
      | nil =>
        rename_i y p es pos
        cases es with
        | nil =>
          refine (Ok.plain (e_call0 (m := m) c h1 h2 h3) rfl).cong fun ρ S => ?_
          simp only [evE, evEs, bnd_some]
        | cons e es => simp [mEs] at h4
      | cons a as =>
        rename_i y p es pos
        cases es with
        | nil => simp [mEs] at h4
        | cons e es =>
          refine (Ok.plain (e_call (m := m) c h1 h2 h3 (mEs_ok (a :: as) s X (e :: es) c h4 h5) h5 (List.cons_ne_nil _ _)) rfl).cong fun ρ S => ?_
          simp only [evE] <;> rfl
    · cases h
  | .b1 b a, s, X, x, c, h => by
    unfold mE at h
    split at h
    · rename_i y p z pos
      simp only [Bool.and_eq_true, beq_iff_eq] at h
      obtain ⟨⟨⟨rfl, hb⟩, hn⟩, h⟩ := h
      have fin : ∀ {x : Expr}, plainT x = true → PE X x (tR X.K fun ρ S => bnd (evE C a ρ S) fun x S => b1V b x S) → Ok X x (evE C (.b1 b a)) := fun hp h => (Ok.plain h hp).cong fun ρ S => by simp only [evE]
      have m := fun hv => okB_m c hb hv
      have g := okB_g hb
      cases b with
      | len => exact fin rfl (e_fn1 c len_ok g (m (by decide +kernel)) (by decide +kernel) (by decide +kernel) hn (mE_ok a s X _ c h).pe b1_len)
      | int => exact fin rfl (e_ty1 c call_int1 g (m (by decide +kernel)) (by decide +kernel) (by decide +kernel) hn (mE_ok a s X _ c h).pe b1_int)
      | abs => exact fin rfl (e_fn1 c call_abs g (m (by decide +kernel)) (by decide +kernel) (by decide +kernel) hn (mE_ok a s X _ c h).pe b1_abs)
      | tup => exact fin rfl (e_ty1 c call_tupleX g (m (by decide +kernel)) (by decide +kernel) (by decide +kernel) hn (mE_ok a s X _ c h).pe b1_tup)
      | lst m' => exact fin rfl (e_ty1 c (call_list_of.or (call_listD c.calm)) g (m (by show (bootBuiltins "list").isSome = true; decide +kernel)) (by show bootBuiltins "list" = _; decide +kernel) (by show okNm "list" = true; decide +kernel) hn (mE_ok a s X _ c h).pe b1_lst)
      | all => exact fin rfl (e_fn1 c (cr_all c.calm) g (m (by decide +kernel)) (by decide +kernel) (by decide +kernel) hn (mE_ok a s X _ c h).pe b1_all)
      | any => exact fin rfl (e_fn1 c (cr_any c.calm) g (m (by decide +kernel)) (by decide +kernel) (by decide +kernel) hn (mE_ok a s X _ c h).pe b1_any)
      | sorted => exact fin rfl (e_fn1 c (cr_sortX c.calm) g (m (by decide +kernel)) (by decide +kernel) (by decide +kernel) hn (mE_ok a s X _ c h).pe b1_sorted)
      | bool => cases h
      | lenset =>
        simp only at h
        split at h
        · simp only [Bool.and_eq_true, beq_iff_eq] at h
          obtain ⟨⟨⟨rfl, hb2⟩, hn2⟩, h⟩ := h
          exact fin rfl (e_lenset c g (m (by decide +kernel)) (okB_g hb2) (okB_m c hb2 (by decide +kernel)) hn2 (mE_ok a s X _ c h).pe)
        · cases h
      | sset =>
        simp only at h
        split at h
        · simp only [Bool.and_eq_true, beq_iff_eq] at h
          obtain ⟨⟨⟨rfl, hb2⟩, hn2⟩, h⟩ := h
          exact fin rfl (e_sset c g (m (by decide +kernel)) (okB_g hb2) (okB_m c hb2 (by decide +kernel)) hn2 (mE_ok a s X _ c h).pe)
        · cases h
    · cases h
  | .b2 b a d, s, X, x, c, h => by
    unfold mE at h
    split at h
    · simp only [Bool.and_eq_true, beq_iff_eq] at h
      obtain ⟨⟨⟨⟨⟨rfl, hb⟩, n1⟩, n2⟩, h1⟩, h2⟩ := h
      refine (Ok.plain (x := _) (f := fun ρ S => bnd (evE C a ρ S) fun x S => bnd (evE C d ρ S) fun y S => (b2V b x y).map fun v => (v, S)) ?_ rfl).cong fun ρ S => by simp only [evE]
      cases b with
      | min => exact e_fn2 c (call_min2 c.calm) (okB_g hb) (okB_m c hb (by decide +kernel)) (by decide +kernel) (by decide +kernel) n1 n2 (mE_ok a s X _ c h1).pe (mE_ok d s X _ c h2).pe fun {i j z H Q} e hq => (by simp only [b2V] at e; cases e; exact ⟨i, j, rfl, hq _ (repV_d.mpr (repD_int.mpr rfl))⟩)
      | max => exact e_fn2 c (call_max2 c.calm) (okB_g hb) (okB_m c hb (by decide +kernel)) (by decide +kernel) (by decide +kernel) n1 n2 (mE_ok a s X _ c h1).pe (mE_ok d s X _ c h2).pe fun {i j z H Q} e hq => (by simp only [b2V] at e; cases e; exact ⟨i, j, rfl, hq _ (repV_d.mpr (repD_int.mpr rfl))⟩)
    · cases h
  | .isi a ts, s, X, x, c, h => by
    unfold mE at h
    split at h
    · simp only [Bool.and_eq_true, beq_iff_eq] at h
      obtain ⟨⟨⟨⟨rfl, hb⟩, hn⟩, h1⟩, h2⟩ := h
      have ha := (mE_ok a s X _ c h1).pe
      have fin : ∀ {x : Expr}, plainT x = true → PE X x (tR X.K fun ρ S => bnd (evE C a ρ S) fun x S => (tyVs x S ts).map fun b => (.d (.bl b), S)) → Ok X x (evE C (.isi a ts)) := fun hp h => (Ok.plain h hp).cong fun ρ S => by simp only [evE]
      split at h2
      · split at h2
        · simp only [Bool.and_eq_true, beq_iff_eq] at h2
          obtain ⟨rfl, hb2⟩ := h2
          rename_i t1
          exact fin rfl (e_isi1 c (okB_g hb) (okB_m c hb (by decide +kernel)) hn ha (okB_g hb2) (okB_m c hb2 (by cases t1 <;> decide +kernel)))
        · cases h2
      · simp only [Bool.and_eq_true, decide_eq_true_eq] at h2
        obtain ⟨⟨h3, h4⟩, h5⟩ := h2
        exact fin rfl (e_isiT c (okB_g hb) (okB_m c hb (by decide +kernel)) hn ha (tys_ok c _ _ h3) h4 h5)
      · cases h2
    · cases h
  | .comp m p it d elt own, s, X, x, c, h => by
    unfold mE at h
    split at h
    · rename_i el tg iter ifs scope pos
      simp only [Bool.and_eq_true] at h
      obtain ⟨⟨⟨⟨⟨h1, h2⟩, h3⟩, h4⟩, h5⟩, h6⟩ := h
      obtain ⟨b1, b2, b3⟩ := blk_ok h1
      rw [← c.sc, ← c.N] at b1
      refine (Ok.plain (e_lc (m := m) (ft := evE C d) c (mI_ok it s X tg iter c h2) b1 b3 (fun s0 H0 C0 cl fp => p_ok (c.blk s0 H0 scope C0 cl fp) p tg h4) (fun s0 H0 C0 cl fp => ?_) (fun s0 H0 C0 cl fp => (mE_ok elt _ _ _ (c.blk s0 H0 scope C0 cl fp) h6).pe) (notSet_ok h3)) rfl).cong fun ρ S => ?_
      · split at h5
        · split at h5
          · have e : evE C (.bl true) = fun _ S => some (.d (.bl true), S) := by funext ρ S; simp only [evE]
            rw [e]
            exact ts_nil
          · cases h5
        · simp only [Bool.and_eq_true] at h5
          exact ts_one ((mE_ok d _ _ _ (c.blk s0 H0 scope C0 cl fp) h5.1).pt h5.2)
        · cases h5
      · simp only [evE]
        rw [b2]
        rfl
    · cases h
  | .scomp p it d elt own, s, X, x, c, h => by
    unfold mE at h
    split at h
    · rename_i y sp el tg iter ifs scope pos spos
      simp only [Bool.and_eq_true, beq_iff_eq] at h
      obtain ⟨⟨⟨⟨⟨⟨⟨rfl, hb⟩, h1⟩, h2⟩, h3⟩, h4⟩, h5⟩, h6⟩ := h
      obtain ⟨b1, b2, b3⟩ := blk_ok h1
      rw [← c.sc, ← c.N] at b1
      refine (Ok.plain (e_sortSc (ft := evE C d) c (okB_g hb) (okB_m c hb (by decide +kernel)) (mI_ok it s X tg iter c h2) b1 b3 (fun s0 H0 C0 cl fp => p_ok (c.blk s0 H0 scope C0 cl fp) p tg h4) (fun s0 H0 C0 cl fp => ?_) (fun s0 H0 C0 cl fp => (mE_ok elt _ _ _ (c.blk s0 H0 scope C0 cl fp) h6).pe) (notSet_ok h3)) rfl).cong fun ρ S => ?_
      · split at h5
        · split at h5
          · have e : evE C (.bl true) = fun _ S => some (.d (.bl true), S) := by funext ρ S; simp only [evE]
            rw [e]
            exact ts_nil0
          · cases h5
        · simp only [Bool.and_eq_true] at h5
          exact pts_one ((mE_ok d _ _ _ (c.blk s0 H0 scope C0 cl fp) h5.1).pt h5.2)
        · cases h5
      · simp only [evE]
        rw [b2]
        rfl
    · cases h
  | .join a b, s, X, x, c, h => by
    unfold mE at h
    split at h
    · simp only [Bool.and_eq_true, beq_iff_eq] at h
      obtain ⟨⟨⟨⟨⟨rfl, h1⟩, h2⟩, h3⟩, h4⟩, h5⟩ := h
      refine (Ok.plain (e_join (mE_ok a s X _ c h1).pe (mE_ok b s X _ c h2).pe h3 h4 (by simpa using h5)) rfl).cong fun ρ S => ?_
      simp only [evE] <;> rfl
    · cases h
  | .split a b, s, X, x, c, h => by
    unfold mE at h
    split at h
    · simp only [Bool.and_eq_true, beq_iff_eq] at h
      obtain ⟨⟨⟨⟨⟨rfl, h1⟩, h2⟩, h3⟩, h4⟩, h5⟩ := h
      refine (Ok.plain (e_split (mE_ok a s X _ c h1).pe (mE_ok b s X _ c h2).pe h3 h4 (by simpa using h5)) rfl).cong fun ρ S => ?_
      simp only [evE] <;> rfl
    · cases h
  | .append a b, s, X, x, c, h => by
    unfold mE at h
    split at h
    · simp only [Bool.and_eq_true, beq_iff_eq] at h
      obtain ⟨⟨⟨⟨⟨rfl, h1⟩, h2⟩, h3⟩, h4⟩, h5⟩ := h
      refine (Ok.plain (e_append (mE_ok a s X _ c h1).pe (mE_ok b s X _ c h2).pe h3 h4 (by simpa using h5)) rfl).cong fun ρ S => ?_
      simp only [evE] <;> rfl
    · cases h
  | .update a b, s, X, x, c, h => by
    unfold mE at h
    split at h
    · simp only [Bool.and_eq_true, beq_iff_eq] at h
      obtain ⟨⟨⟨⟨⟨rfl, h1⟩, h2⟩, h3⟩, h4⟩, h5⟩ := h
      refine (Ok.plain (e_update (mE_ok a s X _ c h1).pe (mE_ok b s X _ c h2).pe h3 h4 (by simpa using h5)) rfl).cong fun ρ S => ?_
      simp only [evE] <;> rfl
    · cases h
  | .pop1 a b, s, X, x, c, h => by
    unfold mE at h
    split at h
    · simp only [Bool.and_eq_true, beq_iff_eq] at h
      obtain ⟨⟨⟨⟨⟨rfl, h1⟩, h2⟩, h3⟩, h4⟩, h5⟩ := h
      refine (Ok.plain (e_pop1 (mE_ok a s X _ c h1).pe (mE_ok b s X _ c h2).pe h3 h4 (by simpa using h5)) rfl).cong fun ρ S => ?_
      simp only [evE] <;> rfl
    · cases h
  | .pop0 a, s, X, x, c, h => by
    unfold mE at h
    split at h
    · simp only [Bool.and_eq_true, beq_iff_eq] at h
      obtain ⟨⟨⟨rfl, h1⟩, h3⟩, h5⟩ := h
      refine (Ok.plain (e_pop0 (mE_ok a s X _ c h1).pe h3 (by simpa using h5)) rfl).cong fun ρ S => ?_
      simp only [evE] <;> rfl
    · cases h
  | .get2 a b d, s, X, x, c, h => by
    unfold mE at h
    split at h
    · simp only [Bool.and_eq_true, beq_iff_eq] at h
      obtain ⟨⟨⟨⟨⟨⟨⟨rfl, h1⟩, h2⟩, h3⟩, h4⟩, h5⟩, h6⟩, h7⟩ := h
      refine (Ok.plain (e_get2 c (mE_ok a s X _ c h1).pe (mE_ok b s X _ c h2).pe (mE_ok d s X _ c h3).pe h4 h5 h6 (by simpa using h7)) rfl).cong fun ρ S => ?_
      simp only [evE] <;> rfl
    · cases h
  | .dictP m a, s, X, x, c, h => by
    unfold mE at h
    split at h
    · simp only [Bool.and_eq_true, beq_iff_eq] at h
      obtain ⟨⟨⟨rfl, hb⟩, hn⟩, h1⟩ := h
      refine (Ok.plain (e_ty1 (g := fun x S => dictV m x S) c (cr_dictX c.calm) (okB_g hb) (okB_m c hb (by decide +kernel)) (by decide +kernel) (by decide +kernel) hn (mE_ok a s X _ c h1).pe dictV_ok) rfl).cong fun ρ S => ?_
      simp only [evE] <;> rfl
    · cases h
  | .comp2 _ _ _ _ _ _ _ _, s, X, x, c, h => by simp [mE] at h
  | .upper _, s, X, x, c, h => by simp [mE] at h
  | .seq _, s, X, x, c, h => by simp [mE] at h
  | .rng1 _, s, X, x, c, h => by simp [mE] at h
  | .rng2 _ _, s, X, x, c, h => by simp [mE] at h
  | .zip _ _, s, X, x, c, h => by simp [mE] at h
  | .enum _, s, X, x, c, h => by simp [mE] at h
  | .items _, s, X, x, c, h => by simp [mE] at h
  | .keys _, s, X, x, c, h => by simp [mE] at h
  | .vals _, s, X, x, c, h => by simp [mE] at h
theorem mEs_ok : ∀ (as : List E) (s : Sc) (X : Cx) (es : List Expr), Ctx F C k s X → mEs F as s es = true → es.all notStar = true → PA X es (tRs X.K (evEs C as))
  | [], s, X, es, c, h, hn => by
    cases es with
    | nil => exact PA.imp a_nil fun σ H Q q => by simpa only [evEs] using q
    | cons e es => simp [mEs] at h
  | a :: as, s, X, es, c, h, hn => by
    cases es with
    | nil => simp [mEs] at h
    | cons e es =>
      simp only [mEs, Bool.and_eq_true] at h
      have hn2 := Bool.and_eq_true_iff.mp (show (notStar e && es.all notStar) = true from hn)
      exact PA.imp (a_cons (mE_ok a s X e c h.1).pe (mEs_ok as s X es c h.2 hn2.2) hn2.1) fun σ H Q q => by simpa only [evEs] using q
theorem mDs_ok : ∀ (as : List E) (ks : List T) (s : Sc) (X : Cx) (keys : List (Option Expr)) (es : List Expr) (pos : Pos), Ctx F C k s X → mDs F as ks s keys es = true → Dsp X pos keys es ks (evEs C as)
  | [], ks, s, X, keys, es, pos, c, h => by
    unfold mDs at h
    split at h
    · split at h
      · split at h
        · have : evEs C [] = fun _ S => some ([], S) := by funext ρ S; simp only [evEs]
          rw [this]
          exact .nil
        · cases h
      · cases h
    · cases h
  | a :: as, ks, s, X, keys, es, pos, c, h => by
    unfold mDs at h
    split at h
    · cases h
    · split at h
      · split at h
        · cases h
        · simp only [Bool.and_eq_true, beq_iff_eq] at h
          obtain ⟨⟨rfl, h1⟩, h2⟩ := h
          have : evEs C (a :: as) = fun ρ S => bnd (evE C a ρ S) fun v S => bnd (evEs C as ρ S) fun vs S => some (v :: vs, S) := by funext ρ S; simp only [evEs]
          rw [this]
          exact .cons (mE_ok a s X _ c h1).pe (mDs_ok as _ s X _ _ pos c h2)
      · cases h
theorem mI_ok : ∀ (e : E) (s : Sc) (X : Cx) (tg x : Expr), Ctx F C k s X → mI F e s tg x = true → L2.PI X tg x (wI X (evI C e))
  | .seq a, s, X, tg, x, c, h => by
    have e : evI C (.seq a) = fun ρ S => bnd (evE C a ρ S) fun x S => match x with
      | .d (.tup xs) => some (xs.map .d, S)
      | .d (.lst xs) => some (xs.map .d, S)
      | .d (.str s) => if s.length ≤ lim then some (s.map fun c => .d (.str [c]), S) else none
      | .dct kvs => some (kvs.map fun p => .d (.str p.1), S)
      | _ => none := by funext ρ S; simp only [evI] <;> rfl
    rw [e]
    exact i_seq (mE_ok a s X x c (by simpa only [mI] using h)).pe
  | .rng1 a, s, X, tg, x, c, h => by
    unfold mI at h
    split at h
    · simp only [Bool.and_eq_true, beq_iff_eq] at h
      obtain ⟨⟨⟨rfl, hb⟩, hn⟩, h1⟩ := h
      have e : evI C (.rng1 a) = fun ρ S => bnd (evE C a ρ S) fun x S => match x with
        | .d (.int j) => if -(2 ^ 62) ≤ j ∧ j ≤ 16777216 then some (ranged 0 j.toNat, S) else none
        | _ => none := by funext ρ S; simp only [evI] <;> rfl
      rw [e]
      exact i_rng1 c (okB_g hb) (okB_m c hb (by decide +kernel)) (mE_ok a s X _ c h1).pe hn
    · cases h
  | .rng2 a b, s, X, tg, x, c, h => by
    unfold mI at h
    split at h
    · simp only [Bool.and_eq_true, beq_iff_eq] at h
      obtain ⟨⟨⟨⟨⟨rfl, hb⟩, hn⟩, hn2⟩, h1⟩, h2⟩ := h
      have e : evI C (.rng2 a b) = fun ρ S => bnd (evE C a ρ S) fun x S => bnd (evE C b ρ S) fun y S => match x with
        | .d (.int i) => match y with
          | .d (.int j) => if -(2 ^ 60) ≤ i ∧ i < 2 ^ 60 ∧ -(2 ^ 60) ≤ j ∧ j ≤ i + 16777216 then some (ranged i (j - i).toNat, S) else none
          | _ => none
        | _ => none := by funext ρ S; simp only [evI] <;> rfl
      rw [e]
      exact i_rng2 c (okB_g hb) (okB_m c hb (by decide +kernel)) (mE_ok a s X _ c h1).pe (mE_ok b s X _ c h2).pe hn hn2
    · cases h
  | .zip a b, s, X, tg, x, c, h => by
    unfold mI at h
    split at h
    · split at h
      · simp only [Bool.and_eq_true, beq_iff_eq] at h
        obtain ⟨⟨⟨⟨⟨rfl, hb⟩, hn⟩, hn2⟩, h1⟩, h2⟩ := h
        have e : evI C (.zip a b) = fun ρ S => bnd (evE C a ρ S) fun x S => bnd (evE C b ρ S) fun y S => match x with
          | .d (.tup xs) => match y with
            | .d (.tup ys) => some (zipD xs ys, S)
            | _ => none
          | .d (.lst xs) => match y with
            | .d (.lst ys) => some (zipD xs ys, S)
            | _ => none
          | _ => none := by funext ρ S; simp only [evI] <;> rfl
        rw [e]
        exact i_zip c (okB_g hb) (okB_m c hb (by decide +kernel)) (mE_ok a s X _ c h1).pe (mE_ok b s X _ c h2).pe hn hn2
      · cases h
    · cases h
  | .enum a, s, X, tg, x, c, h => by
    unfold mI at h
    split at h
    · split at h
      · simp only [Bool.and_eq_true, beq_iff_eq] at h
        obtain ⟨⟨⟨rfl, hb⟩, hn⟩, h1⟩ := h
        have e : evI C (.enum a) = fun ρ S => bnd (evE C a ρ S) fun x S => match x with
          | .d (.lst xs) => some (enumD 0 xs, S)
          | _ => none := by funext ρ S; simp only [evI] <;> rfl
        rw [e]
        exact i_enum c (okB_g hb) (okB_m c hb (by decide +kernel)) (mE_ok a s X _ c h1).pe hn
      · cases h
    · cases h
  | .items a, s, X, tg, x, c, h => by
    unfold mI at h
    split at h
    · split at h
      · simp only [Bool.and_eq_true, beq_iff_eq] at h
        obtain ⟨⟨⟨rfl, h1⟩, h3⟩, h5⟩ := h
        have e : evI C (.items a) = fun ρ S => bnd (evE C a ρ S) fun x S => match x with
          | .dct kvs => some (itemsV kvs, S)
          | _ => none := by funext ρ S; simp only [evI] <;> rfl
        rw [e]
        exact i_items (mE_ok a s X _ c h1).pe h3 (by simpa using h5)
      · cases h
    · cases h
  | .vals a, s, X, tg, x, c, h => by
    unfold mI at h
    split at h
    · simp only [Bool.and_eq_true, beq_iff_eq] at h
      obtain ⟨⟨⟨rfl, h1⟩, h3⟩, h5⟩ := h
      have e : evI C (.vals a) = fun ρ S => bnd (evE C a ρ S) fun x S => match x with
        | .dct kvs => some (kvs.map (·.2), S)
        | _ => none := by funext ρ S; simp only [evI] <;> rfl
      rw [e]
      exact i_vals (mE_ok a s X _ c h1).pe h3 (by simpa using h5)
    · cases h
  | .var _, s, X, tg, x, c, h => by simp [mI] at h
  | .glob _ _, s, X, tg, x, c, h => by simp [mI] at h
  | .non, s, X, tg, x, c, h => by simp [mI] at h
  | .bl _, s, X, tg, x, c, h => by simp [mI] at h
  | .int _, s, X, tg, x, c, h => by simp [mI] at h
  | .str _, s, X, tg, x, c, h => by simp [mI] at h
  | .tup _, s, X, tg, x, c, h => by simp [mI] at h
  | .lst _ _, s, X, tg, x, c, h => by simp [mI] at h
  | .dct _ _ _, s, X, tg, x, c, h => by simp [mI] at h
  | .bin _ _ _, s, X, tg, x, c, h => by simp [mI] at h
  | .cat _ _ _, s, X, tg, x, c, h => by simp [mI] at h
  | .neg _, s, X, tg, x, c, h => by simp [mI] at h
  | .cmp _ _ _, s, X, tg, x, c, h => by simp [mI] at h
  | .eqL _ _ _, s, X, tg, x, c, h => by simp [mI] at h
  | .isN _, s, X, tg, x, c, h => by simp [mI] at h
  | .notN _, s, X, tg, x, c, h => by simp [mI] at h
  | .isB _ _ _, s, X, tg, x, c, h => by simp [mI] at h
  | .chain _ _ _ _ _, s, X, tg, x, c, h => by simp [mI] at h
  | .and _ _, s, X, tg, x, c, h => by simp [mI] at h
  | .or _ _, s, X, tg, x, c, h => by simp [mI] at h
  | .not _, s, X, tg, x, c, h => by simp [mI] at h
  | .ife _ _ _, s, X, tg, x, c, h => by simp [mI] at h
  | .idx _ _, s, X, tg, x, c, h => by simp [mI] at h
  | .slice _ _ _ _, s, X, tg, x, c, h => by simp [mI] at h
  | .call _ _ _, s, X, tg, x, c, h => by simp [mI] at h
  | .b1 _ _, s, X, tg, x, c, h => by simp [mI] at h
  | .b2 _ _ _, s, X, tg, x, c, h => by simp [mI] at h
  | .isi _ _, s, X, tg, x, c, h => by simp [mI] at h
  | .comp _ _ _ _ _ _, s, X, tg, x, c, h => by simp [mI] at h
  | .scomp _ _ _ _ _, s, X, tg, x, c, h => by simp [mI] at h
  | .comp2 _ _ _ _ _ _ _ _, s, X, tg, x, c, h => by simp [mI] at h
  | .join _ _, s, X, tg, x, c, h => by simp [mI] at h
  | .split _ _, s, X, tg, x, c, h => by simp [mI] at h
  | .upper _, s, X, tg, x, c, h => by simp [mI] at h
  | .get2 _ _ _, s, X, tg, x, c, h => by simp [mI] at h
  | .pop0 _, s, X, tg, x, c, h => by simp [mI] at h
  | .pop1 _ _, s, X, tg, x, c, h => by simp [mI] at h
  | .append _ _, s, X, tg, x, c, h => by simp [mI] at h
  | .update _ _, s, X, tg, x, c, h => by simp [mI] at h
  | .dictP _ _, s, X, tg, x, c, h => by simp [mI] at h
  | .keys _, s, X, tg, x, c, h => by simp [mI] at h
end
end PI
set_option Elab.async false
set_option linter.all false
set_option maxRecDepth 100000
set_option maxHeartbeats 4000000
/-! PI28: the matcher of statements. -/
namespace PI
open PySem PySem.Spec PyProof.Rows L2 RZ
def isFn (s : Sc) : Bool := match s.sc.kind with
  | .function => true
  | _ => false
def locB (s : Sc) (x : PySem.Str) : Bool := match s.sc.names.lookup x with
  | some .local => true
  | _ => false
theorem isFn_k {s : Sc} (h : isFn s = true) : (s.sc.kind == .function) = true := by
  unfold isFn at h
  split at h
  · rename_i e; rw [e]; rfl
  · cases h
theorem isFn_e {s : Sc} (h : isFn s = true) : s.sc.kind = .function := by
  unfold isFn at h
  split at h
  · assumption
  · cases h
theorem locB_l {s : Sc} {x : PySem.Str} (h : locB s x = true) : s.sc.names.lookup x = some .local := by
  unfold locB at h
  split at h
  · assumption
  · cases h
/-- name = [.. for ..] on one line -/
def mSetLc (F : Mc) (s : Sc) (p : Pat) (e : E) (tg x : Expr) : Bool := match p with
  | .nm i => match tg with
    | .Name y py => match e with
      | .comp _ p it c elt own => match x with
        | .ListComp el [⟨tg, iter, ifs, 0⟩] scope pos => (F.N[i]? == some y) && locB s y && (py.line == pos.line) && !(scope.names.any fun (n, k) => n == y && (k == .local || k == .cell)) &&
          mBlk F s scope own p && mI F it s tg iter && notSet iter && mP F ⟨relS scope s.sc, scope⟩ p tg && (match ifs with
            | [] => (match c with
              | .bl true => true
              | _ => false)
            | [x] => mE F c ⟨relS scope s.sc, scope⟩ x && tstB x
            | _ => false) && mE F elt ⟨relS scope s.sc, scope⟩ el
        | _ => false
      | _ => false
    | _ => false
  | _ => false
def mPar (F : Mc) (s : Sc) (is : List Nat) (ts es : List Expr) : Bool := match is with
  | [i, j] => match ts with
    | [.Name x px, .Name y py] => match es with
      | [_, _] => (F.N[i]? == some x) && (F.N[j]? == some y) && i != j && locB s x && locB s y && swY s.sc [.Name x px, .Name y py] es && decide (nmsL s.sc [.Name x px, .Name y py] = [x, y])
      | _ => false
    | _ => false
  | [i, j, l] => match ts with
    | [.Name x px, .Name y py, .Name z pz] => match es with
      | [_, _, _] => (F.N[i]? == some x) && (F.N[j]? == some y) && (F.N[l]? == some z) && i != j && i != l && j != l && locB s x && locB s y && locB s z && swY s.sc [.Name x px, .Name y py, .Name z pz] es && decide (nmsL s.sc [.Name x px, .Name y py, .Name z pz] = [x, y, z])
      | _ => false
    | _ => false
  | _ => false
mutual
def mS (F : Mc) : St → Sc → Stmt → Bool
  | .set p e, s, st => match st with
    | .Assign [tg] x _ => isFn s && (mSetLc F s p e tg x || (mE F e s x && mP F s p tg && asgB s.sc tg x))
    | _ => false
  | .par is es, s, st => match st with
    | .Assign [.Tuple ts _ _] (.Tuple xs _ _) _ => isFn s && mPar F s is ts xs && mEs F es s xs && xs.all notStar
    | _ => false
  | .setIdx a i e, s, st => match st with
    | .Assign [.Subscript x y _] z _ => isFn s && mE F a s x && mE F i s y && mE F e s z && plainIx y
    | _ => false
  | .ex e, s, st => match st with
    | .Expr x _ => isFn s && mE F e s x && !swB s.sc x none
    | _ => false
  | .ret e, s, st => match st with
    | .Return (some x) _ => mE F e s x
    | .Return none _ => isNon e
    | _ => false
  | .ite c a b, s, st => match st with
    | .If x ys zs _ => mE F c s x && tstB x && mSs F a s ys && mSs F b s zs
    | _ => false
  | .for_ p it b, s, st => match st with
    | .For tg x ys [] _ => mI F it s tg x && notSet x && mP F s p tg && mSs F b s ys
    | _ => false
  | .while_ c b, s, st => match st with
    | .While x ys [] _ => mE F c s x && tstB x && mSs F b s ys
    | _ => false
  | .brk, _, st => match st with
    | .Break _ => true
    | _ => false
  | .cnt, _, st => match st with
    | .Continue _ => true
    | _ => false
  | .pass, _, st => match st with
    | .Pass _ => true
    | _ => false
  | .raise, _, _ => true
def mSs (F : Mc) : List St → Sc → List Stmt → Bool
  | [], _, ss => match ss with
    | [] => true
    | _ :: _ => false
  | a :: as, s, ss => match ss with
    | [] => false
    | x :: xs => mS F a s x && mSs F as s xs
end
variable {F : Mc} {C : Calls} {k : Nat}
theorem setLc_ok {p : Pat} {e : E} {s : Sc} {X : Cx} {tg x : Expr} {pos : Pos} (c : Ctx F C k s X) (hk : isFn s = true) (h : mSetLc F s p e tg x = true) :
    PS X (.Assign [tg] x pos) (tS X.K fun ρ S => bnd (evE C e ρ S) fun v S => (bindP p v ρ).map fun ρ => .nx ρ S) := by
  unfold mSetLc at h
  split at h
  · rename_i i
    split at h
    · rename_i y py
      split at h
      · rename_i m p it d elt own
        split at h
        · rename_i el tg iter ifs scope cpos
          simp only [Bool.and_eq_true, beq_iff_eq, Bool.not_eq_true'] at h
          obtain ⟨⟨⟨⟨⟨⟨⟨⟨⟨hN, hl⟩, hline⟩, hown⟩, h1⟩, h2⟩, h3⟩, h4⟩, h5⟩, h6⟩ := h
          obtain ⟨b1, b2, b3⟩ := blk_ok h1
          rw [← c.sc, ← c.N] at b1
          have ht : ∀ (s0 : Shared) (H0 : Hp) (C0 : Addr) (cl : List (PySem.Str × Addr)) (fp : List Addr), PTs (X.blk s0 H0 scope (compEnvC scope cl C0 X.env) fp) ifs (hT (tRb X.K (evE C d))) := fun s0 H0 C0 cl fp => by
            split at h5
            · split at h5
              · have e : evE C (.bl true) = fun _ S => some (.d (.bl true), S) := by funext ρ S; simp only [evE]
                rw [e]
                exact ts_nil
              · cases h5
            · simp only [Bool.and_eq_true] at h5
              exact ts_one ((mE_ok d _ _ _ (c.blk s0 H0 scope C0 cl fp) h5.1).pt h5.2)
            · cases h5
          have := s_lc (spos := pos) (m := m) (ft := evE C d) (fe := evE C elt) c hN (locB_l hl) (isFn_k hk) (by simpa using hline) hown (mI_ok it s X tg iter c h2) b1 b3 (fun s0 H0 C0 cl fp => p_ok (c.blk s0 H0 scope C0 cl fp) p tg h4) ht (fun s0 H0 C0 cl fp => (mE_ok elt _ _ _ (c.blk s0 H0 scope C0 cl fp) h6).pe) (notSet_ok h3)
          have e : evE C (.comp m p it d elt own) = lcF (evI C it) p (evE C d) (evE C elt) m (List.map (fun x => x.snd) (ownL F own)) := by
            funext ρ S
            simp only [evE]
            rw [b2]
            rfl
          rw [e]
          exact this
        · cases h
      · cases h
    · cases h
  · cases h
mutual
theorem mS_ok : ∀ (a : St) (s : Sc) (X : Cx) (st : Stmt), Ctx F C k s X → mS F a s st = true → PS X st (tS X.K (evS C a))
  | .set p e, s, X, st, c, h => by
    have ev : evS C (.set p e) = fun ρ S => bnd (evE C e ρ S) fun v S => (bindP p v ρ).map fun ρ => .nx ρ S := by funext ρ S; simp only [evS]
    rw [ev]
    unfold mS at h
    split at h
    · simp only [Bool.and_eq_true, Bool.or_eq_true] at h
      obtain ⟨hk, h | h⟩ := h
      · exact setLc_ok c hk h
      · have hk2 : X.env.scope.kind = .function := by rw [c.sc]; exact isFn_e hk
        obtain ⟨a1, a2⟩ := asg_ok hk2 (by rw [c.sc]; exact h.2)
        exact s_asg (mE_ok e s X _ c h.1.1).pe (p_ok c p _ h.1.2) a1 a2 (mP_star h.1.2)
    · cases h
  | .par is es, s, X, st, c, h => by
    have ev : evS C (.par is es) = fun ρ S => bnd (evEs C es ρ S) fun vs S => (setAll is vs ρ).map fun ρ => .nx ρ S := by funext ρ S; simp only [evS]
    rw [ev]
    unfold mS at h
    split at h
    · simp only [Bool.and_eq_true] at h
      obtain ⟨⟨⟨hk, h1⟩, h2⟩, h3⟩ := h
      unfold mPar at h1
      split at h1
      · split at h1
        · split at h1
          · simp only [Bool.and_eq_true, beq_iff_eq, bne_iff_ne, decide_eq_true_eq] at h1
            obtain ⟨⟨⟨⟨⟨⟨q1, q2⟩, q3⟩, q4⟩, q5⟩, q6⟩, q7⟩ := h1
            exact s_par2 c q1 q2 q3 (locB_l q4) (locB_l q5) (mEs_ok es s X _ c h2 h3) (isFn_k hk) q6 q7
          · cases h1
        · cases h1
      · split at h1
        · split at h1
          · simp only [Bool.and_eq_true, beq_iff_eq, bne_iff_ne, decide_eq_true_eq] at h1
            obtain ⟨⟨⟨⟨⟨⟨⟨⟨⟨⟨q1, q2⟩, q3⟩, q4⟩, q5⟩, q6⟩, q7⟩, q8⟩, q9⟩, q10⟩, q11⟩ := h1
            exact s_par3 c q1 q2 q3 q4 q5 q6 (locB_l q7) (locB_l q8) (locB_l q9) (mEs_ok es s X _ c h2 h3) (isFn_k hk) q10 q11
          · cases h1
        · cases h1
      · cases h1
    · cases h
  | .setIdx a i e, s, X, st, c, h => by
    have ev : evS C (.setIdx a i e) = fun ρ S => bnd (evE C e ρ S) fun v S => bnd (evE C a ρ S) fun x S => bnd (evE C i ρ S) fun y S => (setV x y v S).map fun S => .nx ρ S := by funext ρ S; simp only [evS]
    rw [ev]
    unfold mS at h
    split at h
    · simp only [Bool.and_eq_true] at h
      obtain ⟨⟨⟨⟨hk, h1⟩, h2⟩, h3⟩, h4⟩ := h
      exact s_setIdx c (mE_ok a s X _ c h1).pe (mE_ok i s X _ c h2).pe (mE_ok e s X _ c h3).pe h4 (isFn_k hk)
    · cases h
  | .ex e, s, X, st, c, h => by
    have ev : evS C (.ex e) = fun ρ S => bnd (evE C e ρ S) fun _ S => some (.nx ρ S) := by funext ρ S; simp only [evS]
    rw [ev]
    unfold mS at h
    split at h
    · simp only [Bool.and_eq_true, Bool.not_eq_true'] at h
      have hk2 : X.env.scope.kind = .function := by rw [c.sc]; exact isFn_e h.1.1
      exact s_expr (mE_ok e s X _ c h.1.2).pe (sw_no hk2 (by rw [c.sc]; exact h.2))
    · cases h
  | .ret e, s, X, st, c, h => by
    have ev : evS C (.ret e) = fun ρ S => bnd (evE C e ρ S) fun v S => some (.ret v S) := by funext ρ S; simp only [evS]
    rw [ev]
    unfold mS at h
    split at h
    · exact s_ret (mE_ok e s X _ c h).pe
    · have : e = .non := by cases e <;> first | rfl | cases h
      subst this
      have e2 : evE C .non = fun _ S => some (.d .non, S) := by funext ρ S; simp only [evE]
      rw [e2]
      exact s_retN
    · cases h
  | .ite d a b, s, X, st, c, h => by
    have ev : evS C (.ite d a b) = fun ρ S => bnd (evE C d ρ S) fun x S => match x with
      | .d (.bl true) => evSs C a ρ S
      | .d (.bl false) => evSs C b ρ S
      | _ => none := by funext ρ S; simp only [evS] <;> rfl
    rw [ev]
    unfold mS at h
    split at h
    · simp only [Bool.and_eq_true] at h
      exact s_if ((mE_ok d s X _ c h.1.1.1).pt h.1.1.2) (mSs_ok a s X _ c h.1.2) (mSs_ok b s X _ c h.2)
    · cases h
  | .for_ p it b, s, X, st, c, h => by
    have ev : evS C (.for_ p it b) = fun ρ S => bnd (evI C it ρ S) fun xs S => evFor (bindP p) (evSs C b) xs ρ S := by funext ρ S; simp only [evS]
    rw [ev]
    unfold mS at h
    split at h
    · simp only [Bool.and_eq_true] at h
      exact s_for c (mI_ok it s X _ _ c h.1.1.1) (p_ok c p _ h.1.2) (mSs_ok b s X _ c h.2) (notSet_ok h.1.1.2)
    · cases h
  | .while_ d b, s, X, st, c, h => by
    have ev : evS C (.while_ d b) = evWhile (evE C d) (evSs C b) 1000000 := by funext ρ S; simp only [evS]
    rw [ev]
    unfold mS at h
    split at h
    · simp only [Bool.and_eq_true] at h
      exact s_while c ((mE_ok d s X _ c h.1.1).pt h.1.2) (mSs_ok b s X _ c h.2) _
    · cases h
  | .brk, s, X, st, c, h => by
    have ev : evS C .brk = fun ρ S => some (.brk ρ S) := by funext ρ S; simp only [evS]
    rw [ev]
    unfold mS at h
    split at h
    · exact s_brk
    · cases h
  | .cnt, s, X, st, c, h => by
    have ev : evS C .cnt = fun ρ S => some (.cnt ρ S) := by funext ρ S; simp only [evS]
    rw [ev]
    unfold mS at h
    split at h
    · exact s_cnt
    · cases h
  | .pass, s, X, st, c, h => by
    have ev : evS C .pass = fun ρ S => some (.nx ρ S) := by funext ρ S; simp only [evS]
    rw [ev]
    unfold mS at h
    split at h
    · exact s_pass
    · cases h
  | .raise, s, X, st, c, h => by
    have ev : evS C .raise = fun _ _ => none := by funext ρ S; simp only [evS]
    rw [ev]
    exact s_never
theorem mSs_ok : ∀ (as : List St) (s : Sc) (X : Cx) (ss : List Stmt), Ctx F C k s X → mSs F as s ss = true → PSs X ss (tS X.K (evSs C as))
  | [], s, X, ss, c, h => by
    have ev : evSs C [] = fun ρ S => some (.nx ρ S) := by funext ρ S; simp only [evSs]
    rw [ev]
    cases ss with
    | nil => exact ss_nil
    | cons x xs => simp [mSs] at h
  | a :: as, s, X, ss, c, h => by
    have ev : evSs C (a :: as) = fun ρ S => match evS C a ρ S with
      | some (.nx ρ S) => evSs C as ρ S
      | some (.ret v S) => some (.ret v S)
      | some (.brk ρ S) => some (.brk ρ S)
      | some (.cnt ρ S) => some (.cnt ρ S)
      | none => none := by funext ρ S; simp only [evSs] <;> rfl
    rw [ev]
    cases ss with
    | nil => simp [mSs] at h
    | cons x xs =>
      simp only [mSs, Bool.and_eq_true] at h
      exact ss_cons (mS_ok a s X x c h.1) (mSs_ok as s X xs c h.2)
end
end PI
set_option Elab.async false
set_option linter.all false
set_option maxRecDepth 100000
set_option maxHeartbeats 4000000
/-! PI29: what a def hands back; a law's defs, by the level of calls. -/
namespace PI
open PySem PySem.Spec PyProof.Rows L2 RZ
section
variable {K : PySem.W.Frag} {H H' : Hp} {μ μ' μ2 : Ad} {S S' : Store} {n : Nat}
/-- fewer things that may change, the first n where they stood -/
structure Sub (n : Nat) (μ μ' : Ad) : Prop where
  at_ : ∀ i, i < n → ∀ a, μ[i]? = some a → μ'[i]? = some a
  mem : ∀ b, b ∈ μ' → b ∈ μ
mutual
theorem RepV.sub (h : Sub n μ μ') : ∀ (x : Val) (v : V), okv n x = true → RepV K H μ x v → RepV K H μ' x v
  | .d x, v, _, r => by
    unfold RepV at r ⊢
    exact RepD.shrink h.mem x v r
  | .l i, v, o, r => by
    unfold RepV at r ⊢
    obtain ⟨a, e, q⟩ := r
    exact ⟨a, h.at_ i (of_decide_eq_true o) a e, q⟩
  | .scr ns, v, _, r => by
    unfold RepV at r ⊢
    obtain ⟨a, e, q, m⟩ := r
    exact ⟨a, e, q, m.imp (fun m q => m (h.mem a q)) id⟩
  | .dct kvs, v, o, r => by
    unfold RepV at r ⊢
    obtain ⟨a, zs, e, q, m, t⟩ := r
    exact ⟨a, zs, e, q, fun z => m (h.mem a z), RepK.sub h kvs zs o t⟩
  | .vt xs, v, o, r => by
    unfold RepV at r ⊢
    obtain ⟨a, zs, e, q, t⟩ := r
    exact ⟨a, zs, e, q, RepVs.sub h xs zs o t⟩
  | .vl xs, v, o, r => by
    unfold RepV at r ⊢
    obtain ⟨a, zs, e, q, m, t⟩ := r
    exact ⟨a, zs, e, q, fun z => m (h.mem a z), RepVs.sub h xs zs o t⟩
  | .obj _ _, v, _, r => by unfold RepV at r ⊢; exact r
theorem RepVs.sub (h : Sub n μ μ') : ∀ (xs : List Val) (vs : List V), oks n xs = true → RepVs K H μ xs vs → RepVs K H μ' xs vs
  | [], v, _, r => by unfold RepVs at r ⊢; exact r
  | x :: xs, v, o, r => by
    unfold RepVs at r ⊢
    obtain ⟨w, rr, e, q, t⟩ := r
    obtain ⟨o1, o2⟩ := Bool.and_eq_true_iff.mp (show (okv n x && oks n xs) = true from o)
    exact ⟨w, rr, e, RepV.sub h x w o1 q, RepVs.sub h xs rr o2 t⟩
theorem RepK.sub (h : Sub n μ μ') : ∀ (xs : List (T × Val)) (vs : List (Key × V)), okk n xs = true → RepK K H μ xs vs → RepK K H μ' xs vs
  | [], v, _, r => by unfold RepK at r ⊢; exact r
  | (k, x) :: xs, v, o, r => by
    unfold RepK at r ⊢
    obtain ⟨w, rr, e, ok, q, t⟩ := r
    obtain ⟨o1, o2⟩ := Bool.and_eq_true_iff.mp (show (okv n x && okk n xs) = true from o)
    exact ⟨w, rr, e, ok, RepV.sub h x w o1 q, RepK.sub h xs rr o2 t⟩
end
theorem RepC.sub (h : Sub n μ μ') : ∀ {c : Cell} {a : Addr}, okc n c = true → RepC K H μ c a → RepC K H μ' c a
  | .lst xs, a, o, ⟨ys, e, r⟩ => ⟨ys, e, RepVs.sub h xs ys o r⟩
  | .dct xs, a, o, ⟨ys, e, r⟩ => ⟨ys, e, RepK.sub h xs ys o r⟩
  | .obj _ _, a, _, r => r.elim
theorem sub_pre (hp : μ <+: μ') (hn : n ≤ μ.length) : Sub n μ' μ := by
  obtain ⟨t, rfl⟩ := hp
  exact ⟨fun i hi a e => by rw [List.getElem?_append_left (by omega)] at e; exact e, fun b m => List.mem_append_left _ m⟩
/-- the first n things and one more -/
theorem Wd.pick (w : Wd K H μ' S) (hp : μ <+: μ') (hn : μ.length = n) {i : Nat} {c : Cell} {a : Addr} (hi : n ≤ i) (hS : S[i]? = some c) (ha : μ'[i]? = some a) (hc : okc n c = true) : Wd K H (μ ++ [a]) (S.take n ++ [c]) ∧ a ∉ μ := by
  obtain ⟨t, et⟩ := id hp
  have hiS : i < S.length := (List.getElem?_eq_some_iff.mp hS).1
  have na : a ∉ μ := fun m => by
    obtain ⟨j, hj, ej⟩ := List.getElem_of_mem m
    have e1 : μ'[j]? = some a := by rw [← et, List.getElem?_append_left hj, List.getElem?_eq_getElem hj, ej]
    obtain ⟨h1, h2⟩ := List.getElem?_eq_some_iff.mp e1
    obtain ⟨h3, h4⟩ := List.getElem?_eq_some_iff.mp ha
    have := (List.getElem_inj w.nd).mp (h2.trans h4.symm)
    omega
  have am : a ∈ μ' := List.mem_of_getElem? ha
  have sb : Sub n μ' (μ ++ [a]) := by
    refine ⟨fun j hj b e => ?_, fun b m => ?_⟩
    · rw [← et, List.getElem?_append_left (by omega)] at e
      rw [List.getElem?_append_left (by omega)]; exact e
    · rcases List.mem_append.mp m with m | m
      · exact hp.subset m
      · rw [List.mem_singleton.mp m]; exact am
  refine ⟨⟨?_, ?_, fun j c' b e1 e2 => ?_, fun j c' e1 => ?_⟩, na⟩
  · rw [List.length_append, List.length_append, List.length_take]
    simp only [List.length_cons, List.length_nil]
    omega
  · rw [List.nodup_append]
    have nd := w.nd
    rw [← et] at nd
    exact ⟨(List.nodup_append.mp nd).1, by simp, fun x m y m' => by rw [List.mem_singleton.mp m']; exact fun e => na (e ▸ m)⟩
  · by_cases hj : j < n
    · rw [List.getElem?_append_left (by rw [List.length_take]; omega), List.getElem?_take_of_lt hj] at e1
      rw [List.getElem?_append_left (by omega)] at e2
      have r := w.cell j c' b e1 (by rw [← et, List.getElem?_append_left (by omega)]; exact e2)
      exact RepC.sub sb (okc_le (by omega) c' (w.ok j c' e1)) r
    · have hj2 : j = n := by
        by_cases q : j = n
        · exact q
        · rw [List.getElem?_eq_none (by simp only [List.length_append, List.length_take, List.length_cons, List.length_nil]; omega)] at e1; cases e1
      subst hj2
      rw [List.getElem?_append_right (by rw [List.length_take]; omega)] at e1
      rw [List.getElem?_append_right (by omega)] at e2
      have z1 : j - (S.take j).length = 0 := by rw [List.length_take]; omega
      have z2 : j - μ.length = 0 := by omega
      rw [z1] at e1
      rw [z2] at e2
      simp at e1 e2
      subst e1 e2
      exact RepC.sub sb hc (w.cell i c a hS ha)
  · by_cases hj : j < n
    · rw [List.getElem?_append_left (by rw [List.length_take]; omega), List.getElem?_take_of_lt hj] at e1
      exact w.ok j c' e1
    · have hj2 : j = n := by
        by_cases q : j = n
        · exact q
        · rw [List.getElem?_eq_none (by simp only [List.length_append, List.length_take, List.length_cons, List.length_nil]; omega)] at e1; cases e1
      subst hj2
      rw [List.getElem?_append_right (by rw [List.length_take]; omega)] at e1
      have z1 : j - (S.take j).length = 0 := by rw [List.length_take]; omega
      rw [z1] at e1
      simp at e1
      subst e1
      exact hc
/-- what a def hands back, in terms of what stood at its call -/
theorem finish_ok {m : Bool} {x z : Val} {S2 : Store} {v : V} (w : Wd K H' μ' S') (g : Grow μ H μ' H') (hn : μ.length = n) (hS : n ≤ S'.length) (r : RepV K H' μ' x v) (e : finish n m x S' = some (z, S2)) :
    ∃ μ2, Grow μ H μ2 H' ∧ Wd K H' μ2 S2 ∧ RepV K H' μ2 z v := by
  have plain : ∀ {x : Val}, okv n x = true → RepV K H' μ' x v → ∃ μ2, Grow μ H μ2 H' ∧ Wd K H' μ2 (S'.take n) ∧ RepV K H' μ2 x v := fun o r =>
    ⟨μ, g.back, w.take g.pre hn hS, RepV.shrink g.pre _ v (by rw [hn]; exact o) r⟩
  unfold finish at e
  cases m with
  | true =>
    simp only at e
    split at e
    · rename_i i
      split at e
      · rename_i hi
        split at e
        · rename_i c hc
          split at e
          · rename_i ok
            cases e
            obtain ⟨a, ha, rfl⟩ := repV_l.mp r
            obtain ⟨w2, na⟩ := w.pick g.pre hn hi hc ha ok
            exact ⟨μ ++ [a], g.last (g.new a (List.mem_of_getElem? ha) na), w2, repV_l.mpr ⟨a, by rw [List.getElem?_append_right (by omega), hn]; simp, rfl⟩⟩
          · cases e
        · cases e
      · cases e
    · cases e
  | false =>
    simp only at e
    split at e
    · rename_i i
      split at e
      · rename_i hi
        split at e
        · rename_i c hc
          split at e
          · rename_i y hy
            split at e
            · rename_i ok
              cases e
              obtain ⟨a, ha, rfl⟩ := repV_l.mp r
              have am : a ∈ μ' := List.mem_of_getElem? ha
              have na : a ∉ μ := fun q => by
                obtain ⟨t, et⟩ := g.pre
                obtain ⟨j, hj, ej⟩ := List.getElem_of_mem q
                have e1 : μ'[j]? = some a := by rw [← et, List.getElem?_append_left hj, List.getElem?_eq_getElem hj, ej]
                obtain ⟨h1, h2⟩ := List.getElem?_eq_some_iff.mp e1
                obtain ⟨h3, h4⟩ := List.getElem?_eq_some_iff.mp ha
                have := (List.getElem_inj w.nd).mp (h2.trans h4.symm)
                omega
              have rc := w.cell i c a hc ha
              refine ⟨μ, g.back, w.take g.pre hn hS, ?_⟩
              unfold cellV at hy
              split at hy
              · rename_i vs
                obtain ⟨ys, e1, rv⟩ := rc
                split at hy
                · rename_i xs hd
                  cases hy
                  rw [datas_eq hd] at rv
                  exact repV_d.mpr (repD_lst.mpr ⟨a, ys, rfl, e1, na, RepDs.shrink (fun b m => g.pre.subset m) _ _ (RepVs.ds.mp rv)⟩)
                · cases hy
                  exact repV_vl.mpr ⟨a, ys, rfl, e1, na, RepVs.shrink g.pre _ _ (by rw [hn]; exact ok) rv⟩
              · cases hy
                obtain ⟨zs, e1, rk⟩ := rc
                exact repV_dct.mpr ⟨a, zs, rfl, .inl e1, na, RepK.shrink g.pre _ _ (by rw [hn]; exact ok) rk⟩
              · cases hy
            · cases e
          · cases e
        · cases e
      · rename_i hi
        cases e
        exact plain (decide_eq_true (by omega)) r
    · split at e
      · rename_i ok
        cases e
        exact plain ok r
      · cases e
end

/-! ### a def -/
/-- a law's def: what the text says of it, its AST -/
structure Def where
  name : PySem.Str
  ps : List PySem.Str
  N : List PySem.Str
  fn : Fn
/-- the shared part of a matcher's knowledge -/
structure Sh where
  fns : List (Nat × PySem.Str)
  gls : List (Nat × (PySem.Str × D))
  bls : List PySem.Str
def Sh.mc (h : Sh) (d : Def) : Mc := ⟨d.N, h.fns, h.gls, h.bls⟩
def scopeC (N ps : List PySem.Str) (sc : Scope) : Bool :=
  (match sc.kind with
    | .function => true
    | _ => false) && !sc.isCoroutine && !sc.isGenerator && decide N.Nodup && decide (N.take ps.length = ps) && (ps.all fun x => match sc.names.lookup x with
    | some .local => true
    | some .cell => true
    | _ => false) && sc.names.all fun y => match y.2 with
    | .free => false
    | _ => true
theorem scopeC_ok {N ps : List PySem.Str} {sc : Scope} (h : scopeC N ps sc = true) : FnScope N ps sc := by
  unfold scopeC at h
  simp only [Bool.and_eq_true, Bool.not_eq_true', decide_eq_true_eq, List.all_eq_true] at h
  obtain ⟨⟨⟨⟨⟨⟨h1, h2⟩, h3⟩, h4⟩, h5⟩, h6⟩, h7⟩ := h
  refine ⟨?_, h2, h3, h4, h5, fun x m => ?_, fun y m e => ?_⟩
  · split at h1
    · assumption
    · cases h1
  · have := h6 x m
    split at this
    · exact .inl (by assumption)
    · exact .inr (by assumption)
    · cases this
  · have := h7 y m
    rw [e] at this
    cases this
/-- a def's text is what its AST says -/
def mDef (h : Sh) (d : Def) (body : List Stmt) (scope : Scope) : Bool :=
  scopeC d.N d.ps scope && decide (d.fn.np = d.ps.length) && decide (d.fn.n = d.N.length) && mSs (h.mc d) d.fn.body ⟨scope, scope⟩ body
theorem sto_ok {sc : Scope} {x : PySem.Str} (h : stoB sc x = true) : Loc sc x := by
  unfold stoB at h
  split at h
  · exact .inl (by assumption)
  · exact .inr (by assumption)
  · cases h
section
variable {P : Program} {w : World} {K : PySem.W.Frag} {mg : PySem.Str → Option Value} {base : Heap}
/-- what is known of the law's module -/
structure Env1 (P : Program) (w : World) (K : PySem.W.Frag) (mg : PySem.Str → Option Value) (base : Heap) (h : Sh) : Prop where
  blt : ∀ x ∈ h.bls, mg x = none
  gls : ∀ (i : Nat) (x : PySem.Str) (d : D), h.gls.lookup i = some (x, d) → ∃ u v, mg x = some u ∧ RelV v u ∧ ∀ H μ, RepD K H μ d v
/-- all defs keep their promise to a level -/
def AllOk (P : Program) (w : World) (K : PySem.W.Frag) (mg : PySem.Str → Option Value) (base : Heap) (h : Sh) (Fs : List Fn) (k : Nat) : Prop :=
  ∀ (f : Nat) (name : PySem.Str), h.fns.lookup f = some name → ∃ fa fd ps, mg name = some (.ref fa) ∧ PySem.W.keepIn K (.ref fa) = true ∧ FnOk P w K mg base CX0 k fa fd ps (spI K (callF Fs k) f) ∧ Binds K fd ps []
theorem start_ok {H : Hp} {μ : Ad} {args : List Val} {vs : List V} {N : List PySem.Str} {fn : Fn} (r : RepVs K H μ args vs) (hn : fn.n = N.length) : RepE K H μ (PI.start fn args) (L2.start N vs) := by
  unfold PI.start L2.start
  have hl := r.length
  refine ⟨by simp [hn, hl], fun i x e => ?_⟩
  rw [look_eq] at e
  by_cases hi : i < args.length
  · rw [List.getElem?_append_left (by simpa using hi), List.getElem?_map] at e
    simp only [Option.map_eq_some_iff] at e
    obtain ⟨y, e1, e2⟩ := e
    cases e2
    obtain ⟨v, e3, rv⟩ := r.get e1
    exact ⟨v, by rw [List.getElem?_append_left (by simpa [hl] using hi), List.getElem?_map, e3]; rfl, rv⟩
  · rw [List.getElem?_append_right (by simpa using hi)] at e
    rw [List.getElem?_replicate] at e
    split at e <;> cases e
theorem def_ok {h : Sh} {Fs : List Fn} {k f : Nat} {d : Def} {x qual : PySem.Str} {params : Arguments} {body : List Stmt} {scope : Scope} {dvs : List V} {kws : List (PySem.Str × V)} {fa : Addr} {fd : FuncData} (E1 : Env1 P w K mg base h) (A : AllOk P w K mg base h Fs k)
    (F : FunD K x qual params body scope dvs kws fa fd) (hf : Fs[f]? = some d.fn) (hm : mDef h d body scope = true) : FnOk P w K mg base CX0 (k + 1) fa fd d.ps (spI K (callF Fs (k + 1)) f) := by
  unfold mDef at hm
  simp only [Bool.and_eq_true, decide_eq_true_eq] at hm
  obtain ⟨⟨⟨h1, h2⟩, h3⟩, h4⟩ := hm
  have S := scopeC_ok h1
  have run : ∀ {m args S0 r}, callF Fs (k + 1) f m args S0 = some r → runFn (callF Fs k) d.fn m args S0 = some r := fun e => by
    simp only [callF, hf] at e
    exact e
  refine F.ok S (fun vs H Q _ ⟨μ, S0, args, m, z, S1, w0, r, e, q⟩ => ?_) fun cdv A0 outer s H vs Q E hr ⟨μ, S0, args, m, z, S1, w0, r, e, q⟩ => ?_
  · have := run e
    unfold runFn at this
    split at this
    · rename_i hl
      rw [r.length, hl, h2]
    · cases this
  · have e' := run e
    unfold runFn at e'
    split at e'
    · rename_i hl
      have c : Ctx (h.mc d) (callF Fs k) k ⟨scope, scope⟩ (cxOf CX0 P w K mg base d.N qual scope fa cdv A0 outer s H E).nox := {
        N := rfl
        nd := S.nd
        sc := rfl
        sto := fun y hy => ⟨sto_ok hy, .inl rfl⟩
        calm := rfl
        pass := PassesOwn.never
        room := hr
        fns := fun g name hg => ⟨A g name hg⟩
        blt := E1.blt
        gls := E1.gls }
      refine ⟨_, (mSs_ok d.fn.body ⟨scope, scope⟩ _ body c h4).nox, ?_⟩
      have fin : ∀ (fl : Fl) (x : Val) (S' : Store) (v' : V) (H' : Hp) (μ' : Ad), finish S0.length m x S' = some (z, S1) → Grow μ H μ' H' → Wd K H' μ' S' → RepV K H' μ' x v' → Q v' H' := fun fl x S' v' H' μ' ef g w' r' => by
        obtain ⟨μ2, g2, w2, r2⟩ := finish_ok w' g w0.len (by rw [← w0.len, ← w'.len]; exact g.pre.length_le) r' ef
        exact q v' H' μ2 g2 w2 r2
      split at e'
      · rename_i v S' ev
        exact ⟨μ, _, S0, _, w0, start_ok r h3, ev, fun v' H' μ' g w' r' => fin (.ret v S') v S' v' H' μ' e' g w' r'⟩
      · rename_i ρ' S' ev
        exact ⟨μ, _, S0, _, w0, start_ok r h3, ev, fun σ' H' μ' g w' r' => fin (.nx ρ' S') (.d .non) S' .non H' μ' e' g w' (repV_d.mpr (repD_non.mpr rfl))⟩
      · cases e'
    · cases e'
end
end PI
set_option Elab.async false
set_option linter.all false
set_option maxRecDepth 100000
set_option maxHeartbeats 4000000
/-! PI30: how arguments bind; all defs of a law, to every level. -/
namespace PI
open PySem PySem.Spec PyProof.Rows L2 RZ
/-- parameters with nothing but names -/
def plainP (params : Arguments) (ps : List PySem.Str) : Bool :=
  params.posonlyargs.isEmpty && params.kwonlyargs.isEmpty && params.vararg.isNone && params.kwarg.isNone && decide (params.args.map (·.arg) = ps) && decide ps.Nodup
theorem zip_lookup {ps : List PySem.Str} {us : List Value} (hl : us.length = ps.length) : ∀ x ∈ ps, ((ps.zip us).lookup x).isSome = true := by
  induction ps generalizing us with
  | nil => intro x m; cases m
  | cons p ps ih =>
    cases us with
    | nil => simp at hl
    | cons u us =>
      intro x m
      rw [List.zip_cons_cons, List.lookup_cons]
      cases e : x == p with
      | true => rfl
      | false =>
        rcases List.mem_cons.mp m with m | m
        · rw [m] at e; simp at e
        · exact ih (by simpa using hl) x m
theorem zip_pick {ps : List PySem.Str} {us : List Value} (hl : us.length = ps.length) (nd : ps.Nodup) : (ps.filterMap fun n => ((ps.zip us).lookup n).map fun v => (n, v)) = ps.zip us := by
  have key : ∀ (qs : List PySem.Str) (vs : List Value), vs.length = qs.length → qs.Nodup → ∀ pre : List (PySem.Str × Value), (∀ x ∈ qs, pre.lookup x = none) → (qs.filterMap fun n => ((pre ++ qs.zip vs).lookup n).map fun v => (n, v)) = qs.zip vs := by
    intro qs
    induction qs with
    | nil => intro vs _ _ pre _; rfl
    | cons q qs ih =>
      intro vs hv nd pre hp
      cases vs with
      | nil => simp at hv
      | cons v vs =>
        obtain ⟨n1, n2⟩ := List.nodup_cons.mp nd
        have h1 : (pre ++ (q :: qs).zip (v :: vs)).lookup q = some v := by
          rw [List.zip_cons_cons]
          have : ∀ (l : List (PySem.Str × Value)) (r : List (PySem.Str × Value)), l.lookup q = none → (l ++ r).lookup q = r.lookup q := by
            intro l r
            induction l with
            | nil => intro _; rfl
            | cons a l ihl =>
              intro h
              rw [List.lookup_cons] at h
              rw [List.cons_append, List.lookup_cons]
              split at h
              · cases h
              · exact ihl h
          rw [this _ _ (hp q List.mem_cons_self), List.lookup_cons]
          simp
        rw [List.filterMap_cons, h1]
        have e : pre ++ (q :: qs).zip (v :: vs) = (pre ++ [(q, v)]) ++ qs.zip vs := by simp
        rw [e, ih vs (by simpa using hv) n2 (pre ++ [(q, v)]) fun x m => ?_]
        · rfl
        · have hx := hp x (List.mem_cons_of_mem _ m)
          have hne : (x == q) = false := by
            by_cases e : x = q
            · subst e; exact absurd m n1
            · simpa using e
          have : ∀ l : List (PySem.Str × Value), l.lookup x = none → (l ++ [(q, v)]).lookup x = none := by
            intro l
            induction l with
            | nil => intro _; rw [List.nil_append, List.lookup_cons, hne]; rfl
            | cons a l ihl =>
              intro h
              rw [List.lookup_cons] at h
              rw [List.cons_append, List.lookup_cons]
              split at h
              · cases h
              · exact ihl h
          exact this pre hx
  exact key ps us hl nd [] fun x _ => rfl
theorem bind_plain {x qual : PySem.Str} {params : Arguments} {body : List Stmt} {scope : Scope} {kV doc pm cdv ct : Value} {an : Option Addr} {us : List Value} {ps : List PySem.Str} (hp : plainP params ps = true) (hl : us.length = ps.length) :
    bindArgs (PySem.W.fnOf x qual params body scope .none kV doc pm an cdv ct) ⟨us, []⟩ = pure (ps.zip us) := by
  obtain ⟨po, ar, va, ko, kd, kw, df⟩ := params
  unfold plainP at hp
  simp only [Bool.and_eq_true, List.isEmpty_iff, Option.isNone_iff_eq_none, decide_eq_true_eq] at hp
  obtain ⟨⟨⟨⟨⟨rfl, rfl⟩, rfl⟩, rfl⟩, he⟩, nd⟩ := hp
  have hps : ([] : List Arg).map (·.arg) ++ ar.map (·.arg) = ps := he
  have miss : (ps.filter fun n => ((ps.zip us).lookup n).isNone) = [] := by
    rw [List.filter_eq_nil_iff]
    intro y m
    have := zip_lookup hl y m
    cases h : (ps.zip us).lookup y with
    | none => rw [h] at this; cases this
    | some v => simp
  unfold bindArgs
  simp only [PySem.W.fnOf]
  rw [show ([] : List Arg).map (·.arg) ++ ar.map (·.arg) = ps from he]
  have hs : seqItems? Value.none = pure none := by rfl
  have hlt : ¬ (us.length > ps.length) := by omega
  rw [hs]
  simp only [List.map_nil, List.forIn_nil, pure_bind, Option.getD_none, List.drop_nil, List.length_nil, Nat.sub_zero, List.take_length, miss, List.isEmpty_nil, Bool.not_true, Bool.false_eq_true, if_false, List.zip_nil_right, List.append_nil, hlt, decide_false, Bool.false_and, false_and, Nat.zero_sub, zip_pick hl nd]
/-- what is known of a law's defs behind its top -/
def Facts (K : PySem.W.Frag) (mg : PySem.Str → Option Value) (h : Sh) (ds : List Def) : Prop :=
  ∀ (f : Nat) (name : PySem.Str), h.fns.lookup f = some name → ∃ (d : Def) (qual : PySem.Str) (params : Arguments) (body : List Stmt) (scope : Scope) (kws : List (PySem.Str × V)) (fa : Addr) (fd : FuncData),
    ds[f]? = some d ∧ mg name = some (.ref fa) ∧ FunD K name qual params body scope [] kws fa fd ∧ plainP params d.ps = true ∧ mDef h d body scope = true
theorem all_ok {P : Program} {w : World} {K : PySem.W.Frag} {mg : PySem.Str → Option Value} {base : Heap} {h : Sh} {ds : List Def} (E1 : Env1 P w K mg base h) (fc : Facts K mg h ds) : ∀ k, AllOk P w K mg base h (ds.map (·.fn)) k := by
  intro k
  induction k with
  | zero =>
    intro f name hf
    obtain ⟨d, qual, params, body, scope, kws, fa, fd, h1, h2, h3, h4, h5⟩ := fc f name hf
    refine ⟨fa, fd, d.ps, h2, h3.kp, ⟨?_, ?_⟩, h3.bindsN fun _ _ _ _ _ _ us hl => bind_plain h4 hl⟩
    · rintro vs H Q _ ⟨μ, S0, args, m, z, S1, w0, r, e, q⟩
      cases e
    · rintro A outer s H args us vs Q E hr e0 hb r ⟨μ, S0, args', m, z, S1, w0, r', e, q⟩
      cases e
  | succ k ih =>
    intro f name hf
    obtain ⟨d, qual, params, body, scope, kws, fa, fd, h1, h2, h3, h4, h5⟩ := fc f name hf
    exact ⟨fa, fd, d.ps, h2, h3.kp, def_ok E1 ih h3 (by rw [List.getElem?_map, h1]; rfl) h5, h3.bindsN fun _ _ _ _ _ _ us hl => bind_plain h4 hl⟩
end PI
set_option Elab.async false
set_option linter.all false
set_option maxRecDepth 100000
set_option maxHeartbeats 4000000
/-! PI31: the head: names, defs, constants by a Hook; from there to Env1, Facts and the law's promise. -/
namespace PI
open PySem PySem.Spec PyProof.Rows L2 RZ
section
variable (K : PySem.W.Frag)
mutual
/-- a datum as the frozen part has it -/
def dB : D → Value → Bool
  | .non, u => (match u with
    | .none => true
    | _ => false)
  | .bl b, u => (match u with
    | .bool c => b == c
    | _ => false)
  | .int i, u => (match u with
    | .int j _ => decide (i = j)
    | _ => false)
  | .str s, u => (match u with
    | .str y _ => decide (S' s = y) && okT s
    | _ => false)
  | .tup xs, u => (match u with
    | .ref a => (match K.lookup a with
      | some ⟨.type c, none, .seq its _, _⟩ => decide (c = "tuple") && (decide (its.size ≤ sizeLine) && dsB xs its.toList)
      | _ => false)
    | _ => false)
  | .lst _, _ => false
def dsB : List D → List Value → Bool
  | [], us => us.isEmpty
  | d :: ds, us => (match us with
    | u :: us => dB d u && dsB ds us
    | [] => false)
end
end
mutual
theorem dB_ok {K : PySem.W.Frag} : ∀ (d : D) (u : Value), dB K d u = true → ∃ v, RelV v u ∧ ∀ H μ, RepD K H μ d v
  | .non, u, h => by
    unfold dB at h
    split at h
    · exact ⟨.non, rfl, fun H μ => by unfold RepD; rfl⟩
    · cases h
  | .bl b, u, h => by
    unfold dB at h
    split at h
    · rename_i c
      have e : b = c := eq_of_beq h
      exact ⟨.bl b, by rw [e]; rfl, fun H μ => by unfold RepD; rfl⟩
    · cases h
  | .int i, u, h => by
    unfold dB at h
    split at h
    · rename_i j t
      have e : i = j := of_decide_eq_true h
      exact ⟨.int i, ⟨t, by rw [e]⟩, fun H μ => by unfold RepD; rfl⟩
    · cases h
  | .str s, u, h => by
    unfold dB at h
    split at h
    · rename_i y t
      obtain ⟨h1, h2⟩ := Bool.and_eq_true_iff.mp h
      have e : S' s = y := of_decide_eq_true h1
      exact ⟨.str (S' s), ⟨t, by rw [e]⟩, fun H μ => by unfold RepD; exact ⟨rfl, h2⟩⟩
    · cases h
  | .tup xs, u, h => by
    unfold dB at h
    split at h
    · rename_i a
      split at h
      · rename_i c its n sl q
        obtain ⟨h1, h2⟩ := Bool.and_eq_true_iff.mp h
        obtain ⟨h3, h4⟩ := Bool.and_eq_true_iff.mp h2
        obtain ⟨vs, r, p⟩ := dsB_ok xs its.toList h4
        exact ⟨.ref a, rfl, fun H μ => by unfold RepD; exact ⟨a, vs, rfl, .inr ⟨_, its, n, q, congrArg Value.type (of_decide_eq_true h1), rfl, rfl, of_decide_eq_true h3, r⟩, p H μ⟩⟩
      · cases h
    · cases h
  | .lst _, u, h => by unfold dB at h; cases h
theorem dsB_ok {K : PySem.W.Frag} : ∀ (ds : List D) (us : List Value), dsB K ds us = true → ∃ vs, Vals vs us ∧ ∀ H μ, RepDs K H μ ds vs
  | [], us, h => by
    unfold dsB at h
    rw [List.isEmpty_iff.mp h]
    exact ⟨[], .nil, fun H μ => by unfold RepDs; rfl⟩
  | d :: ds, us, h => by
    unfold dsB at h
    split at h
    · rename_i u us
      obtain ⟨h1, h2⟩ := Bool.and_eq_true_iff.mp h
      obtain ⟨v, r1, p1⟩ := dB_ok d u h1
      obtain ⟨vs, r2, p2⟩ := dsB_ok ds us h2
      exact ⟨v :: vs, .cons r1 r2, fun H μ => by unfold RepDs; exact ⟨v, vs, rfl, p1 H μ, p2 H μ⟩⟩
    · cases h
end
/-! ### the Hook -/
/-- a row of a law's table: the AST, the text -/
structure LRow where
  ix : Nat
  d : Def
  st : Stmt
def LRow.dd (r : LRow) : He.DefD := ⟨(r.d.name, none), r.d.name, r.d.name, defArgs r.st, defBody r.st, defScope r.st, [], []⟩
def glK (K : PySem.W.Frag) (p : Nat × (PySem.Str × D)) : Bool := match PySem.W.nsIn K mainGlobals p.2.1 with
  | some (some u) => dB K p.2.2 u
  | _ => false
def obsP (fa : List He.Fa) (fn : List He.DefD) (gl : List (Nat × (PySem.Str × D))) (K : PySem.W.Frag) : He.AlD := (((fa.all fun f => f.ok K) && fn.all fun d => d.ok K) && gl.all (glK K), fn.map fun d => He.fnW K d.at_)
def SaysP (fa : List He.Fa) (fn : List He.DefD) (gl : List (Nat × (PySem.Str × D))) (K : PySem.W.Frag) : Prop := obsP fa fn gl K = He.valD fn
def obsPG (n : Nat) (fa : List He.Fa) (fn : List He.DefD) (gl : List (Nat × (PySem.Str × D))) (g : Addr → Option Obj) : He.AlD := obsP fa fn gl (He.frG g (He.asD g n))
def hookP (n : Nat) (fa : List He.Fa) (fn : List He.DefD) (gl : List (Nat × (PySem.Str × D))) : PySem.W.Hook where
  α := He.AlD
  obs := fun s => obsPG n fa fn gl s.heap.get?
  val := fun _ => He.valD fn
  says := fun _ h => ∃ K : PySem.W.Frag, K.In h ∧ SaysP fa fn gl K
  of := fun _ _ e => ⟨_, He.frG_in, e⟩
  keeps := fun _ _ _ ⟨K, hK, c⟩ k => ⟨K, PySem.W.Frag.In.keeps hK k, c⟩
theorem obsPG_eq {n : Nat} {fa : List He.Fa} {fn : List He.DefD} {gl : List (Nat × (PySem.Str × D))} {g : Addr → Option Obj} {s : Shared} (h : ∀ a, g a = s.heap.get? a) : obsPG n fa fn gl g = (hookP n fa fn gl).obs s := by
  have e : g = s.heap.get? := funext h
  rw [e] <;> rfl
section
variable {fa : List He.Fa} {fn : List He.DefD} {gl : List (Nat × (PySem.Str × D))} {K : PySem.W.Frag}
theorem SaysP.d (c : SaysP fa fn gl K) : He.SaysD fa fn K := by
  have c1 : (((fa.all fun f => f.ok K) && fn.all fun d => d.ok K) && gl.all (glK K)) = true := congrArg (fun z : He.AlD => z.1) c
  have c2 : fn.map (fun d => He.fnW K d.at_) = fn.map He.DefD.val := congrArg (fun z : He.AlD => z.2) c
  unfold He.SaysD He.obsD He.valD
  rw [(Bool.and_eq_true_iff.mp c1).1, c2]
theorem SaysP.con (c : SaysP fa fn gl K) {p : Nat × (PySem.Str × D)} (m : p ∈ gl) : glK K p = true := by
  have c1 : (((fa.all fun f => f.ok K) && fn.all fun d => d.ok K) && gl.all (glK K)) = true := congrArg (fun z : He.AlD => z.1) c
  exact List.all_eq_true.mp (Bool.and_eq_true_iff.mp c1).2 p m
end
/-- a law's table -/
structure LTab where
  rows : List LRow
  gls : List (Nat × (PySem.Str × D))
  bls : List PySem.Str
def LTab.sh (t : LTab) : Sh := ⟨t.rows.map fun r => (r.ix, r.d.name), t.gls, t.bls⟩
def LTab.fa (t : LTab) : List He.Fa := (t.rows.map fun r => He.Fa.glo r.d.name) ++ t.bls.map He.Fa.free
def LTab.fn (t : LTab) : List He.DefD := t.rows.map LRow.dd
theorem lookup_in {α : Type} {i : Nat} {x : α} : ∀ {l : List (Nat × α)}, l.lookup i = some x → (i, x) ∈ l
  | [], h => by cases h
  | (j, y) :: r, h => by
    rw [List.lookup_cons] at h
    split at h
    · rename_i e
      cases h
      rw [eq_of_beq e]
      exact List.mem_cons_self
    · exact List.mem_cons_of_mem _ (lookup_in h)
/-- what is checked of a row: its text by its AST; the AST is the table's -/
def LRow.Good (h : Sh) (ds : List Def) (r : LRow) : Prop := ds[r.ix]? = some r.d ∧ (plainP (defArgs r.st) r.d.ps && mDef h r.d (defBody r.st) (defScope r.st)) = true
section
variable {t : LTab} {P : Program} {w : World} {K : PySem.W.Frag} {h : Heap} {mg : PySem.Str → Option Value}
theorem fact_of (c : He.SaysD t.fa t.fn K) {f : He.Fa} (m : f ∈ t.fa) : f.ok K = true := by
  obtain ⟨i, hi, e⟩ := List.mem_iff_getElem.mp m
  exact c.fact i (f := f) (by rw [List.getElem?_eq_getElem hi, e])
theorem env_of (X : K.In h) (G : h.Ns mainGlobals mg) (c : SaysP t.fa t.fn t.gls K) (base : Heap) : Env1 P w K mg base t.sh where
  blt := fun x m => He.free_ok X G (fact_of c.d (List.mem_append_right _ (List.mem_map.mpr ⟨x, m, rfl⟩)))
  gls := fun i x d e => by
    have := c.con (lookup_in e)
    unfold glK at this
    split at this
    · rename_i u q
      obtain ⟨v, r, p⟩ := dB_ok d u this
      exact ⟨u, v, PySem.W.mg_of X G q, r, p⟩
    · cases this
theorem facts_of {ds : List Def} (X : K.In h) (G : h.Ns mainGlobals mg) (c : SaysP t.fa t.fn t.gls K) (hm : ∀ r ∈ t.rows, r.Good t.sh ds) : Facts K mg t.sh ds := fun f name e => by
  obtain ⟨r, mr, er⟩ := List.mem_map.mp (lookup_in (show (t.rows.map fun r => (r.ix, r.d.name)).lookup f = some name from e))
  cases er
  obtain ⟨i, hi, ei⟩ := List.mem_iff_getElem.mp mr
  obtain ⟨fd, F⟩ := c.d.def_ i (d := r.dd) (by unfold LTab.fn; rw [List.getElem?_map, List.getElem?_eq_getElem hi, ei]; rfl)
  obtain ⟨h0, h1⟩ := hm r mr
  obtain ⟨h1, h2⟩ := Bool.and_eq_true_iff.mp h1
  exact ⟨r.d, _, _, _, _, _, _, fd, h0, He.glo_ok X G (fact_of c.d (List.mem_append_left _ (List.mem_map.mpr ⟨r, mr, rfl⟩))), F, h1, h2⟩
/-- the law keeps its promise -/
theorem law_of {ds : List Def} {k i : Nat} {r : LRow} {fa : Addr} (X : K.In h) (G : h.Ns mainGlobals mg) (c : SaysP t.fa t.fn t.gls K) (hm : ∀ r ∈ t.rows, r.Good t.sh ds)
    (hr : t.rows[i]? = some r) (hp : r.d.ps = [("script" : PySem.Str)]) (hfa : mg r.d.name = some (.ref fa)) :
    ∃ fd : FuncData, (∀ (s : Shared) (u : Value), BindsTo s fd ⟨[u], []⟩ [("script", u)]) ∧ ∀ base : Heap, FnOk P w K mg base CX0 (k + 1) fa fd ["script"] (spI K (callF (ds.map (·.fn)) (k + 1)) r.ix) := by
  have mr := List.mem_of_getElem? hr
  obtain ⟨fd, F⟩ := c.d.def_ i (d := r.dd) (by unfold LTab.fn; rw [List.getElem?_map, hr]; rfl)
  have e := hfa.symm.trans (He.glo_ok X G (fact_of c.d (List.mem_append_left _ (List.mem_map.mpr ⟨r, mr, rfl⟩))))
  obtain ⟨h0, h1⟩ := hm r mr
  obtain ⟨h1, h2⟩ := Bool.and_eq_true_iff.mp h1
  have b := FunD.bindsA (ps := [("script" : PySem.Str)]) F fun _ _ _ _ _ _ us hl => bind_plain (by rw [← hp]; exact h1) hl
  have ea : fa = He.fAd K r.dd.at_ := by
    injection e with e
    injection e with e
  refine ⟨fd, fun s u => b s [u] rfl, fun base => ?_⟩
  have E1 : Env1 P w K mg base t.sh := env_of X G c base
  have A := all_ok E1 (facts_of X G c hm) k
  have := def_ok (f := r.ix) E1 A F (by rw [List.getElem?_map, h0]; rfl) h2
  rw [hp] at this
  rw [ea]
  exact this
/-- what the law's interpreter answers is what the law answers -/
theorem sp_of {C : Calls} {i : Nat} {H : Hp} {a : Addr} {ns : List Int} (hS : SqL K H a (ns.map V.int)) (e : C i false [.scr ns] [] = some (.d (.bl true), [])) : spI K C i [.ref a] H (fun v _ => v = .bl true) fun _ _ _ => False :=
  ⟨[], [], [.scr ns], false, _, [], ⟨rfl, .nil, fun j c b q => by simp at q, fun j c q => by simp at q⟩, by
    unfold RepVs
    refine ⟨.ref a, [], rfl, ?_, by unfold RepVs; rfl⟩
    unfold RepV
    exact ⟨a, rfl, hS, .inl (by simp)⟩, e, fun v H2 μ2 g w2 r => by
    have := repV_d.mp r
    exact repD_bl.mp this⟩
end
end PI
set_option Elab.async false
set_option linter.all false
set_option maxRecDepth 100000
set_option maxHeartbeats 0
namespace LW
open PySem PySem.Spec PyProof.Rows L2 PI
def g_KINDS : D := (.tup [(.str [98, 117, 116, 116, 111, 110]), (.str [108, 105, 110, 107]), (.str [104, 101, 97, 100, 105, 110, 103]), (.str [102, 105, 101, 108, 100]), (.str [105, 109, 97, 103, 101]), (.str [103, 114, 111, 117, 112])])
def g_LETTERS : D := (.str [97, 98, 99, 100, 101, 102, 103, 104, 105, 106, 107, 108, 109, 110, 111, 112, 113, 114, 115, 116, 117, 118, 119, 120, 121, 122])
def g_MOST_IDS : D := (.int 8)
def g_MOST_CONTROLS : D := (.int 8)
def d_is_id_c0 : PI.E := (.comp false (.nm 1) (.seq (.var 0)) (.bl true) (.cmp .isin (.var 1) (.glob 1 g_LETTERS)) [1])
def d_is_id : Def := ⟨"is_id", ["value"], ["value", "letter"], ⟨1, 2, [(.ite (.or (.not (.isi (.var 0) [.str])) (.not (.chain .le .le (.int 1) (.b1 .len (.var 0)) (.int 8)))) [(.ret (.bl false))] []), (.ret (.b1 .all d_is_id_c0))]⟩⟩
def d_is_text : Def := ⟨"is_text", ["value"], ["value"], ⟨1, 1, [(.ret (.and (.isi (.var 0) [.str]) (.cmp .le (.b1 .len (.var 0)) (.int 60))))]⟩⟩
def d_is_piece : Def := ⟨"is_piece", ["value"], ["value"], ⟨1, 1, [(.ite (.isi (.var 0) [.tup]) [(.ret (.and (.cmp .eq (.b1 .len (.var 0)) (.int 2)) (.and (.cmp .eq (.idx (.var 0) (.int 0)) (.str [104, 111, 108, 101])) (.call 0 false [(.idx (.var 0) (.int 1))]))))] []), (.ret (.call 1 false [(.var 0)]))]⟩⟩
def d_is_flag : Def := ⟨"is_flag", ["value"], ["value"], ⟨1, 1, [(.ite (.isi (.var 0) [.tup]) [(.ret (.and (.cmp .eq (.b1 .len (.var 0)) (.int 2)) (.and (.cmp .eq (.idx (.var 0) (.int 0)) (.str [111, 102, 102])) (.call 0 false [(.idx (.var 0) (.int 1))]))))] []), (.ret (.isi (.var 0) [.bool]))]⟩⟩
def d_is_references_c0 : PI.E := (.comp false (.nm 1) (.seq (.var 0)) (.bl true) (.call 0 false [(.var 1)]) [1])
def d_is_references : Def := ⟨"is_references", ["value"], ["value", "ident"], ⟨1, 2, [(.ite (.or (.not (.isi (.var 0) [.tup])) (.cmp .gt (.b1 .len (.var 0)) (.int 4))) [(.ret (.bl false))] []), (.ret (.b1 .all d_is_references_c0))]⟩⟩
def d_is_box : Def := ⟨"is_box", ["item"], ["item"], ⟨1, 1, [(.ret (.and (.isi (.var 0) [.tup]) (.cmp .eq (.b1 .len (.var 0)) (.int 7))))]⟩⟩
def d_fits_box_l0 : List PI.St := [(.ite (.and (.notN (.var 2)) (.not (.call 2 false [(.var 2)]))) [(.ret (.bl false))] [])]
def d_fits_box_c0 : PI.E := (.comp false (.nm 10) (.seq (.var 9)) (.bl true) (.call 2 false [(.var 10)]) [10])
def d_fits_box : Def := ⟨"fits_box", ["value", "depth"], ["value", "depth", "piece", "ident", "kind", "hidden", "label", "by", "tip", "inside", "item"], ⟨2, 11, [(.ite (.or (.cmp .gt (.var 1) (.int 5)) (.not (.call 5 false [(.var 0)]))) [(.ret (.bl false))] []), (.set (.tp [(.nm 3), (.nm 4), (.nm 5), (.nm 6), (.nm 7), (.nm 8), (.nm 9)]) (.var 0)), (.ite (.or (.not (.call 0 false [(.var 3)])) (.or (.not (.isi (.var 4) [.str])) (.or (.cmp .notin (.var 4) (.glob 0 g_KINDS)) (.not (.call 3 false [(.var 5)]))))) [(.ret (.bl false))] []), (.for_ (.nm 2) (.seq (.tup [(.var 6), (.var 8)])) d_fits_box_l0), (.ite (.or (.not (.call 4 false [(.var 7)])) (.not (.call 7 false [(.var 9), (.bin .add (.var 1) (.int 1))]))) [(.ret (.bl false))] []), (.ite (.cmp .eq (.var 4) (.str [105, 109, 97, 103, 101])) [(.ret (.cmp .eq (.var 9) (.tup [])))] []), (.ret (.or (.cmp .ne (.var 4) (.str [102, 105, 101, 108, 100])) (.b1 .all d_fits_box_c0)))]⟩⟩
def d_fits_items_c0 : PI.E := (.comp false (.nm 2) (.seq (.var 0)) (.bl true) (.or (.call 2 false [(.var 2)]) (.call 6 false [(.var 2), (.var 1)])) [2])
def d_fits_items : Def := ⟨"fits_items", ["value", "depth"], ["value", "depth", "item"], ⟨2, 3, [(.ite (.or (.not (.isi (.var 0) [.tup])) (.cmp .gt (.b1 .len (.var 0)) (.int 6))) [(.ret (.bl false))] []), (.ret (.b1 .all d_fits_items_c0))]⟩⟩
def d_listed_l0 : List PI.St := [(.ite (.call 5 false [(.var 3)]) [(.set (.nm 2) (.bin .add (.bin .add (.var 2) (.lst false [(.tup [(.var 1), (.var 3)])])) (.call 8 false [(.idx (.var 3) (.int 6)), (.bin .add (.var 1) (.int 1))])))] [])]
def d_listed : Def := ⟨"listed", ["items", "depth"], ["items", "depth", "found", "item"], ⟨2, 4, [(.set (.nm 2) (.lst false [])), (.for_ (.nm 3) (.seq (.var 0)) d_listed_l0), (.ret (.var 2))]⟩⟩
def d_holes_in_l0 : List PI.St := [(.set (.nm 1) (.bin .add (.bin .add (.var 1) (.lst false [(.idx (.var 3) (.int 3)), (.idx (.var 3) (.int 5))])) (.b1 (.lst false) (.idx (.var 3) (.int 6)))))]
def d_holes_in_c0 : PI.E := (.scomp (.nm 4) (.seq (.var 1)) (.and (.isi (.var 4) [.tup]) (.cmp .eq (.b1 .len (.var 4)) (.int 2))) (.idx (.var 4) (.int 1)) [4])
def d_holes_in : Def := ⟨"holes_in", ["page"], ["page", "pieces", "depth", "box", "piece"], ⟨1, 5, [(.set (.nm 1) (.b1 (.lst false) (.var 0))), (.for_ (.tp [(.nm 2), (.nm 3)]) (.seq (.call 8 false [(.var 0), (.int 1)])) d_holes_in_l0), (.ret (.b1 .tup d_holes_in_c0))]⟩⟩
def d_switches_in_c0 : PI.E := (.scomp (.tp [(.nm 1), (.nm 2)]) (.seq (.call 8 false [(.var 0), (.int 1)])) (.isi (.idx (.var 2) (.int 2)) [.tup]) (.idx (.idx (.var 2) (.int 2)) (.int 1)) [1, 2])
def d_switches_in : Def := ⟨"switches_in", ["page"], ["page", "depth", "box"], ⟨1, 3, [(.ret (.b1 .tup d_switches_in_c0))]⟩⟩
def d_is_page_c0 : PI.E := (.comp false (.tp [(.nm 2), (.nm 3)]) (.seq (.call 8 false [(.var 0), (.int 1)])) (.bl true) (.idx (.var 3) (.int 0)) [2, 3])
def d_is_page : Def := ⟨"is_page", ["value"], ["value", "idents", "depth", "box"], ⟨1, 4, [(.ite (.not (.call 7 false [(.var 0), (.int 1)])) [(.ret (.bl false))] []), (.set (.nm 1) d_is_page_c0), (.ite (.or (.cmp .gt (.b1 .len (.var 1)) (.int 16)) (.cmp .lt (.b1 .lenset (.var 1)) (.b1 .len (.var 1)))) [(.ret (.bl false))] []), (.ret (.and (.cmp .le (.b1 .len (.call 9 false [(.var 0)])) (.int 5)) (.cmp .le (.b1 .len (.call 10 false [(.var 0)])) (.int 3))))]⟩⟩
def d__law_source_i0 : PI.St := (.ite (.cmp .lt (.var 1) (.b1 .len (.var 0))) [(.set (.nm 2) (.b1 .abs (.b1 .int (.idx (.var 0) (.var 1)))))] [])
def d__law_source : Def := ⟨"_law_source", ["script", "k"], ["script", "k", "cell"], ⟨2, 3, [(.set (.nm 2) (.int 0)), d__law_source_i0, (.ite (.cmp .lt (.var 2) (.bin .pow (.int 10) (.int 18))) [(.ret (.lst true [(.int 0), (.bin .add (.int 1) (.bin .mod (.b1 .int (.bin .add (.bin .mul (.var 2) (.int 7919)) (.bin .mul (.int 104729) (.var 1)))) (.int 2147483646)))]))] []), (.ret (.lst true [(.var 2), (.bin .add (.int 1) (.bin .mod (.b1 .int (.bin .add (.var 2) (.var 1))) (.int 2147483646)))]))]⟩⟩
def d__law_draw : Def := ⟨"_law_draw", ["source", "many"], ["source", "many", "found"], ⟨2, 3, [(.ite (.cmp .gt (.idx (.var 0) (.int 0)) (.int 0)) [(.set (.nm 2) (.bin .mod (.b1 .int (.idx (.var 0) (.int 0))) (.var 1))), (.setIdx (.var 0) (.int 0) (.bin .fdiv (.idx (.var 0) (.int 0)) (.var 1))), (.ret (.var 2))] []), (.setIdx (.var 0) (.int 1) (.bin .mod (.b1 .int (.bin .mul (.idx (.var 0) (.int 1)) (.int 48271))) (.int 2147483647))), (.ret (.bin .mod (.b1 .int (.bin .fdiv (.bin .mod (.b1 .int (.bin .mul (.idx (.var 0) (.int 1)) (.idx (.var 0) (.int 1)))) (.int 2147483629)) (.int 64))) (.var 1)))]⟩⟩
def d__law_of : Def := ⟨"_law_of", ["source", "items"], ["source", "items"], ⟨2, 2, [(.ret (.idx (.var 1) (.call 13 false [(.var 0), (.b1 .len (.var 1))])))]⟩⟩
def d__law_ids_c0 : PI.E := (.comp false (.nm 8) (.rng1 (.call 13 false [(.var 0), (.int 8)])) (.bl true) (.call 14 false [(.var 0), (.var 2)]) [8])
def d__law_ids_c1 : PI.E := (.comp false (.nm 7) (.rng1 (.var 1)) (.bl true) (.bin .add (.bin .add (.slice false (.var 3) .non (.var 5)) (.idx (.var 2) (.bin .mod (.b1 .int (.bin .add (.var 6) (.bin .mul (.var 4) (.var 7)))) (.int 26)))) (.slice false (.var 3) (.var 5) .non)) [7])
def d__law_ids : Def := ⟨"_law_ids", ["source", "many"], ["source", "many", "letters", "stem", "step", "at", "first", "k", "turn"], ⟨2, 9, [(.set (.nm 2) (.str [97, 98, 99, 100, 101, 102, 103, 104, 105, 106, 107, 108, 109, 110, 111, 112, 113, 114, 115, 116, 117, 118, 119, 120, 121, 122])), (.set (.nm 3) (.join (.str []) d__law_ids_c0)), (.set (.tp [(.nm 5), (.nm 6)]) (.tup [(.call 13 false [(.var 0), (.bin .add (.b1 .len (.var 3)) (.int 1))]), (.call 13 false [(.var 0), (.int 26)])])), (.set (.nm 4) (.call 14 false [(.var 0), (.lst false [(.int 1), (.int 3), (.int 5), (.int 7), (.int 9), (.int 11), (.int 15), (.int 17)])])), (.ret d__law_ids_c1)]⟩⟩
def d__law_word_c0 : PI.E := (.comp false (.nm 2) (.rng1 (.bin .add (.int 1) (.call 13 false [(.var 0), (.int 4)]))) (.bl true) (.call 14 false [(.var 0), (.var 1)]) [2])
def d__law_word : Def := ⟨"_law_word", ["source"], ["source", "signs", "turn"], ⟨1, 3, [(.ite (.cmp .gt (.call 13 false [(.var 0), (.int 4)]) (.int 0)) [(.ret (.call 14 false [(.var 0), (.lst false [(.str [115, 97, 118, 101]), (.str [111, 112, 101, 110]), (.str [97, 108, 108]), (.str [120]), (.str [83, 97, 118, 101]), (.str [97, 45, 98]), (.str [49]), (.str [104, 111, 108, 101]), (.str [105, 110, 115, 105, 100, 101]), (.str [110, 111, 119])])]))] []), (.set (.nm 1) (.str [33, 35, 36, 38, 40, 41, 42, 43, 44, 45, 46, 47, 48, 49, 50, 51, 52, 53, 54, 55, 56, 57, 58, 59, 60, 61, 62, 63, 64, 65, 66, 67, 68, 69, 70, 71, 72, 73, 74, 75, 76, 77, 78, 79, 80, 81, 82, 83, 84, 85, 86, 87, 88, 89, 90, 91, 93, 94, 95, 97, 98, 99, 100, 101, 102, 103, 104, 105, 106, 107, 108, 109, 110, 111, 112, 113, 114, 115, 116, 117, 118, 119, 120, 121, 122, 123, 124, 125, 126])), (.ret (.join (.str []) d__law_word_c0))]⟩⟩
def d__law_text_c0 : PI.E := (.comp false (.nm 3) (.rng1 (.call 14 false [(.var 0), (.lst false [(.int 0), (.int 1), (.int 1), (.int 2), (.int 3)])])) (.bl true) (.call 16 false [(.var 0)]) [3])
def d__law_text : Def := ⟨"_law_text", ["source"], ["source", "words", "text", "turn"], ⟨1, 4, [(.set (.nm 1) d__law_text_c0), (.set (.nm 2) (.join (.call 14 false [(.var 0), (.lst false [(.str [32]), (.str [32]), (.str [32, 32])])]) (.var 1))), (.ret (.bin .add (.bin .add (.call 14 false [(.var 0), (.lst false [(.str []), (.str []), (.str [32])])]) (.var 2)) (.call 14 false [(.var 0), (.lst false [(.str []), (.str []), (.str [32, 32])])])))]⟩⟩
def d__law_piece : Def := ⟨"_law_piece", ["source", "plan"], ["source", "plan"], ⟨2, 2, [(.ite (.and (.cmp .ne (.idx (.var 1) (.str [104, 111, 108, 101, 115])) (.lst false [])) (.cmp .eq (.call 13 false [(.var 0), (.int 3)]) (.int 0))) [(.ret (.tup [(.str [104, 111, 108, 101]), (.call 14 false [(.var 0), (.idx (.var 1) (.str [104, 111, 108, 101, 115]))])]))] []), (.ret (.call 17 false [(.var 0)]))]⟩⟩
def d__law_maybe : Def := ⟨"_law_maybe", ["source", "plan"], ["source", "plan"], ⟨2, 2, [(.ret (.ife (.cmp .eq (.call 13 false [(.var 0), (.int 3)]) (.int 0)) (.call 18 false [(.var 0), (.var 1)]) .non))]⟩⟩
def d__law_flag : Def := ⟨"_law_flag", ["source", "plan"], ["source", "plan", "way"], ⟨2, 3, [(.set (.nm 2) (.call 13 false [(.var 0), (.int 10)])), (.ite (.cmp .eq (.var 2) (.int 0)) [(.ret (.bl true))] []), (.ite (.and (.cmp .lt (.var 2) (.int 4)) (.cmp .ne (.idx (.var 1) (.str [115, 119, 105, 116, 99, 104, 101, 115])) (.lst false []))) [(.ret (.tup [(.str [111, 102, 102]), (.call 14 false [(.var 0), (.idx (.var 1) (.str [115, 119, 105, 116, 99, 104, 101, 115]))])]))] []), (.ret (.bl false))]⟩⟩
def d__law_box_c0 : PI.E := (.comp false (.nm 9) (.rng1 (.bin .add (.int 1) (.call 13 false [(.var 0), (.int 4)]))) (.bl true) (.call 14 false [(.var 0), (.idx (.var 1) (.str [97, 108, 108]))]) [9])
def d__law_box_i0 : PI.St := (.ite (.and (.cmp .gt (.idx (.var 1) (.str [114, 101, 102, 101, 114])) (.int 0)) (.cmp .eq (.call 13 false [(.var 0), (.idx (.var 1) (.str [114, 101, 102, 101, 114]))]) (.int 0))) [(.set (.nm 5) (.b1 .tup d__law_box_c0))] [])
def d__law_box_c1 : PI.E := (.comp false (.nm 9) (.rng1 (.call 13 false [(.var 0), (.int 3)])) (.bl true) (.call 18 false [(.var 0), (.var 1)]) [9])
def d__law_box_i1 : PI.St := (.ite (.cmp .eq (.var 4) (.str [102, 105, 101, 108, 100])) [(.set (.nm 6) (.b1 .tup d__law_box_c1))] [(.ite (.cmp .ne (.var 4) (.str [105, 109, 97, 103, 101])) [(.set (.nm 6) (.call 22 false [(.var 0), (.var 1), (.bin .add (.var 2) (.int 1)), (.call 13 false [(.var 0), (.int 4)])]))] [])])
def d__law_box : Def := ⟨"_law_box", ["source", "plan", "depth"], ["source", "plan", "depth", "ident", "kind", "by", "inside", "label", "tip", "turn"], ⟨3, 10, [(.set (.nm 3) (.pop1 (.idx (.var 1) (.str [105, 100, 115])) (.call 13 false [(.var 0), (.b1 .len (.idx (.var 1) (.str [105, 100, 115])))]))), (.set (.nm 4) (.call 14 false [(.var 0), (.lst false [(.str [98, 117, 116, 116, 111, 110]), (.str [108, 105, 110, 107]), (.str [104, 101, 97, 100, 105, 110, 103]), (.str [102, 105, 101, 108, 100]), (.str [105, 109, 97, 103, 101]), (.str [103, 114, 111, 117, 112]), (.str [103, 114, 111, 117, 112])])])), (.set (.tp [(.nm 5), (.nm 6)]) (.tup [(.tup []), (.tup [])])), d__law_box_i0, (.par [7, 8] [(.call 19 false [(.var 0), (.var 1)]), (.call 19 false [(.var 0), (.var 1)])]), d__law_box_i1, (.ret (.tup [(.var 3), (.var 4), (.call 20 false [(.var 0), (.var 1)]), (.var 7), (.var 5), (.var 8), (.var 6)]))]⟩⟩
def d__law_items_l0 : List PI.St := [(.ite (.and (.cmp .le (.var 2) (.int 5)) (.and (.eqL true (.idx (.var 1) (.str [105, 100, 115])) (.lst false [])) (.cmp .gt (.call 13 false [(.var 0), (.int 5)]) (.int 1)))) [(.set (.nm 4) (.bin .add (.var 4) (.tup [(.call 21 false [(.var 0), (.var 1), (.var 2)])])))] [(.set (.nm 4) (.bin .add (.var 4) (.tup [(.call 18 false [(.var 0), (.var 1)])])))])]
def d__law_items : Def := ⟨"_law_items", ["source", "plan", "depth", "many"], ["source", "plan", "depth", "many", "found", "turn"], ⟨4, 6, [(.set (.nm 4) (.tup [])), (.for_ (.nm 5) (.rng1 (.var 3)) d__law_items_l0), (.ret (.var 4))]⟩⟩
def d__law_page : Def := ⟨"_law_page", ["source", "most", "many_holes", "many_switches", "refer"], ["source", "most", "many_holes", "many_switches", "refer", "ids", "plan"], ⟨5, 7, [(.set (.nm 5) (.call 15 false [(.var 0), (.bin .add (.var 1) (.int 2))])), (.set (.nm 6) (.dct true [[105, 100, 115], [97, 108, 108], [114, 101, 102, 101, 114]] [(.slice true (.var 5) .non (.var 1)), (.b1 (.lst false) (.var 5)), (.var 4)])), (.setIdx (.var 6) (.str [104, 111, 108, 101, 115]) (.call 15 false [(.var 0), (.call 13 false [(.var 0), (.bin .add (.var 2) (.int 1))])])), (.setIdx (.var 6) (.str [115, 119, 105, 116, 99, 104, 101, 115]) (.call 15 false [(.var 0), (.call 13 false [(.var 0), (.bin .add (.var 3) (.int 1))])])), (.ret (.call 22 false [(.var 0), (.var 6), (.int 1), (.bin .add (.int 1) (.call 13 false [(.var 0), (.int 5)]))]))]⟩⟩
def d__law_is_id_c0 : PI.E := (.comp false (.nm 1) (.seq (.var 0)) (.cmp .notin (.var 1) (.str [97, 98, 99, 100, 101, 102, 103, 104, 105, 106, 107, 108, 109, 110, 111, 112, 113, 114, 115, 116, 117, 118, 119, 120, 121, 122])) (.var 1) [1])
def d__law_is_id : Def := ⟨"_law_is_id", ["value"], ["value", "sign"], ⟨1, 2, [(.ite (.or (.not (.isi (.var 0) [.str])) (.not (.chain .le .le (.int 1) (.b1 .len (.var 0)) (.int 8)))) [(.ret (.bl false))] []), (.ret (.cmp .eq d__law_is_id_c0 (.lst false [])))]⟩⟩
def d__law_is_piece : Def := ⟨"_law_is_piece", ["value"], ["value"], ⟨1, 1, [(.ret (.or (.and (.isi (.var 0) [.str]) (.cmp .le (.b1 .len (.var 0)) (.int 60))) (.call 25 false [(.var 0), (.str [104, 111, 108, 101])])))]⟩⟩
def d__law_is_head_c0 : PI.E := (.comp false (.nm 1) (.seq (.tup [(.idx (.var 0) (.int 3)), (.idx (.var 0) (.int 5))])) (.and (.notN (.var 1)) (.not (.call 26 false [(.var 1)]))) (.var 1) [1])
def d__law_is_head_c1 : PI.E := (.comp false (.nm 2) (.seq (.idx (.var 0) (.int 4))) (.not (.call 24 false [(.var 2)])) (.var 2) [2])
def d__law_is_head : Def := ⟨"_law_is_head", ["value"], ["value", "piece", "ident"], ⟨1, 3, [(.ite (.or (.not (.isi (.var 0) [.tup])) (.or (.cmp .ne (.b1 .len (.var 0)) (.int 7)) (.or (.not (.call 24 false [(.idx (.var 0) (.int 0))])) (.not (.isi (.idx (.var 0) (.int 1)) [.str]))))) [(.ret (.bl false))] []), (.ite (.cmp .notin (.idx (.var 0) (.int 1)) (.lst false [(.str [98, 117, 116, 116, 111, 110]), (.str [108, 105, 110, 107]), (.str [104, 101, 97, 100, 105, 110, 103]), (.str [102, 105, 101, 108, 100]), (.str [105, 109, 97, 103, 101]), (.str [103, 114, 111, 117, 112])])) [(.ret (.bl false))] []), (.ite (.and (.not (.isi (.idx (.var 0) (.int 2)) [.bool])) (.not (.call 25 false [(.idx (.var 0) (.int 2)), (.str [111, 102, 102])]))) [(.ret (.bl false))] []), (.ite (.cmp .ne d__law_is_head_c0 (.lst false [])) [(.ret (.bl false))] []), (.ite (.or (.not (.isi (.idx (.var 0) (.int 4)) [.tup])) (.or (.cmp .gt (.b1 .len (.idx (.var 0) (.int 4))) (.int 4)) (.not (.isi (.idx (.var 0) (.int 6)) [.tup])))) [(.ret (.bl false))] []), (.ret (.cmp .eq d__law_is_head_c1 (.lst false [])))]⟩⟩
def d__law_is_page_c0 : PI.E := (.comp false (.nm 10) (.seq (.idx (.var 5) (.int 6))) (.not (.call 26 false [(.var 10)])) (.var 10) [10])
def d__law_is_page_c1 : PI.E := (.comp false (.nm 9) (.seq (.var 8)) (.isi (.var 9) [.tup]) (.idx (.var 9) (.int 1)) [9])
def d__law_is_page_l0 : List PI.St := [(.set (.nm 8) (.lst false [(.var 5)])), (.ite (.not (.call 26 false [(.var 5)])) [(.ite (.or (.cmp .gt (.var 7) (.int 5)) (.or (.not (.call 27 false [(.var 5)])) (.and (.cmp .eq (.idx (.var 5) (.int 1)) (.str [105, 109, 97, 103, 101])) (.cmp .ne (.idx (.var 5) (.int 6)) (.tup []))))) [(.ret (.bl false))] []), (.ite (.and (.cmp .eq (.idx (.var 5) (.int 1)) (.str [102, 105, 101, 108, 100])) (.cmp .ne d__law_is_page_c0 (.lst false []))) [(.ret (.bl false))] []), (.set (.nm 8) (.lst false [(.idx (.var 5) (.int 3)), (.idx (.var 5) (.int 5))])), (.ex (.append (.var 2) (.idx (.var 5) (.int 0)))), (.set (.nm 4) (.bin .add (.var 4) (.ife (.isi (.idx (.var 5) (.int 2)) [.tup]) (.lst false [(.idx (.idx (.var 5) (.int 2)) (.int 1))]) (.lst false [])))), (.ex (.append (.var 1) (.tup [(.idx (.var 5) (.int 6)), (.bin .add (.var 7) (.int 1))])))] []), (.set (.nm 3) (.bin .add (.var 3) d__law_is_page_c1))]
def d__law_is_page_l1 : List PI.St := [(.set (.tp [(.nm 6), (.nm 7)]) (.pop0 (.var 1))), (.ite (.or (.not (.isi (.var 6) [.tup])) (.cmp .gt (.b1 .len (.var 6)) (.int 6))) [(.ret (.bl false))] []), (.for_ (.nm 5) (.seq (.var 6)) d__law_is_page_l0)]
def d__law_is_page : Def := ⟨"_law_is_page", ["value"], ["value", "rows", "idents", "hole_ids", "switch_ids", "item", "items", "depth", "pieces", "piece", "one"], ⟨1, 11, [(.set (.tp [(.nm 1), (.nm 2), (.nm 3), (.nm 4)]) (.tup [(.lst false [(.tup [(.var 0), (.int 1)])]), (.lst false []), (.lst false []), (.lst false [])])), (.while_ (.eqL true (.var 1) (.lst false [])) d__law_is_page_l1), (.ite (.or (.cmp .gt (.b1 .len (.var 2)) (.int 16)) (.cmp .ne (.b1 .lenset (.var 2)) (.b1 .len (.var 2)))) [(.ret (.bl false))] []), (.ret (.and (.cmp .le (.b1 .lenset (.var 3)) (.int 5)) (.cmp .le (.b1 .lenset (.var 4)) (.int 3))))]⟩⟩
def d__law_odd : Def := ⟨"_law_odd", ["source"], ["source", "items"], ⟨1, 2, [(.set (.nm 1) (.lst false [.non, (.bl true), (.bl false), (.int 0), (.int 5), (.neg (.int 1)), (.str []), (.str [97]), (.str [65]), (.str [104, 111, 108, 101]), (.str [111, 102, 102]), (.tup []), (.lst false []), (.tup [(.str [104, 111, 108, 101])]), (.tup [(.str [104, 111, 108, 101]), (.str [120])]), (.tup [(.str [111, 102, 102]), (.str [120])])])), (.set (.nm 1) (.bin .add (.var 1) (.lst false [(.tup [(.str [104, 111, 108, 101]), (.str [88])]), (.lst false [(.str [104, 111, 108, 101]), (.str [120])]), (.tup [(.str [104, 111, 108, 101]), (.str [])]), (.tup [(.str [111, 102, 102]), (.int 5)]), (.str [98, 117, 116, 116, 111, 110]), (.str [97, 98, 99, 100, 101, 102, 103, 104, 105]), (.str [116, 105, 112]), (.tup [.non])]))), (.ret (.call 14 false [(.var 0), (.bin .add (.var 1) (.lst false [(.tup [(.str [98]), (.str [98, 117, 116, 116, 111, 110]), (.bl false), .non, (.tup []), .non, (.tup [])]), (.tup [(.tup [(.str [120]), (.str [])])]), (.tup [(.tup [])])]))]))]⟩⟩
def d__law_nested_l0 : List PI.St := [(.set (.nm 1) (.tup [(.tup [(.idx (.str [97, 98, 99, 100, 101, 102, 103]) (.var 2)), (.str [103, 114, 111, 117, 112]), (.bl false), .non, (.tup []), .non, (.var 1)])]))]
def d__law_nested : Def := ⟨"_law_nested", ["depth"], ["depth", "page", "k"], ⟨1, 3, [(.set (.nm 1) (.tup [(.str [120])])), (.for_ (.nm 2) (.rng1 (.var 0)) d__law_nested_l0), (.ret (.var 1))]⟩⟩
def d__law_edges_c0 : PI.E := (.comp false (.nm 4) (.seq (.slice false (.str [97, 98, 99, 100, 101, 102]) .non (.var 2))) (.bl true) (.tup [(.str [104, 111, 108, 101]), (.var 4)]) [4])
def d__law_edges_l0 : List PI.St := [(.set (.nm 3) (.b1 .tup d__law_edges_c0)), (.set (.nm 1) (.cat true (.var 1) (.lst false [(.var 3), (.bin .add (.slice false (.var 3) .non (.int 4)) (.tup [(.tup [(.str [98]), (.str [105, 109, 97, 103, 101]), (.bl false), (.idx (.var 3) (.int 4)), (.tup []), (.idx (.var 3) (.neg (.int 1))), (.tup [])])])), (.tup [(.bin .add (.slice false (.var 0) .non (.int 6)) (.tup [(.var 3)]))])])))]
def d__law_edges_c1 : PI.E := (.comp false (.nm 5) (.seq (.slice false (.str [97, 98, 99, 100]) .non (.var 2))) (.bl true) (.tup [(.var 5), (.str [103, 114, 111, 117, 112]), (.tup [(.str [111, 102, 102]), (.bin .add (.str [115]) (.var 5))]), .non, (.tup []), .non, (.tup [])]) [5])
def d__law_edges_l1 : List PI.St := [(.ex (.append (.var 1) (.b1 .tup d__law_edges_c1)))]
def d__law_edges : Def := ⟨"_law_edges", [], ["box", "found", "many", "rows", "letter", "sign"], ⟨0, 6, [(.set (.nm 0) (.tup [(.str [97]), (.str [102, 105, 101, 108, 100]), (.bl false), .non, (.bin .mul (.tup [(.str [120])]) (.int 4)), (.str []), (.tup [])])), (.set (.nm 1) (.lst true [(.bin .mul (.tup [(.str [120])]) (.int 6)), (.bin .mul (.tup [(.str [120])]) (.int 7)), (.call 31 false [(.int 5)]), (.call 31 false [(.int 6)]), (.call 32 false [(.int 16)]), (.call 32 false [(.int 17)]), (.tup [(.var 0)])])), (.set (.nm 1) (.cat true (.var 1) (.lst false [(.tup [(.bin .add (.bin .add (.slice false (.var 0) .non (.int 4)) (.tup [(.bin .mul (.tup [(.str [120])]) (.int 5))])) (.slice false (.var 0) (.int 5) .non))]), (.tup [(.bin .mul (.str [120]) (.int 60))]), (.tup [(.bin .mul (.str [120]) (.int 61))]), (.tup [(.tup [(.str [104, 111, 108, 101]), (.str [97, 98, 99, 100, 101, 102, 103, 104])])])]))), (.set (.nm 1) (.cat true (.var 1) (.lst false [(.tup [(.tup [(.str [104, 111, 108, 101]), (.str [97, 98, 99, 100, 101, 102, 103, 104, 105])])]), (.tup [(.var 0), (.var 0)]), (.tup [(.bin .add (.slice false (.var 0) .non (.int 6)) (.tup [(.tup [(.str [120]), (.tup [(.str [104, 111, 108, 101]), (.str [121])])])]))]), (.tup [(.bin .add (.slice false (.var 0) .non (.int 6)) (.tup [(.tup [(.var 0)])]))])]))), (.for_ (.nm 2) (.seq (.tup [(.int 5), (.int 6)])) d__law_edges_l0), (.for_ (.nm 2) (.seq (.tup [(.int 3), (.int 4)])) d__law_edges_l1), (.ret (.cat false (.var 1) (.lst false [(.tup [(.bin .add (.bin .add (.bin .add (.slice false (.var 0) .non (.int 1)) (.tup [(.str [105, 109, 97, 103, 101])])) (.slice false (.var 0) (.int 2) (.int 6))) (.tup [(.tup [(.str [120])])]))]), (.tup [(.bin .add (.bin .add (.slice false (.var 0) .non (.int 1)) (.tup [(.str [105, 109, 97, 103, 101])])) (.slice false (.var 0) (.int 2) .non))]), (.lst false []), .non, (.tup [])])))]⟩⟩
def d_law__k01_l0 : List PI.St := [(.set (.nm 6) (.call 11 false [(.var 4)])), (.ite (.or (.not (.isi (.var 6) [.bool])) (.cmp .ne (.var 6) (.call 28 false [(.var 4)]))) [(.ret (.bl false))] []), (.set (.nm 4) (.call 30 false [(.var 2), (.var 4)]))]
def d_law__k01_l1 : List PI.St := [(.for_ (.nm 5) (.rng1 (.int 6)) d_law__k01_l0)]
def d_law__k01_l2 : List PI.St := [(.set (.nm 2) (.call 12 true [(.var 0), (.var 1)])), (.set (.nm 3) (.lst false [(.call 23 false [(.var 2), (.bin .add (.int 1) (.call 13 false [(.var 2), (.int 9)])), (.int 3), (.int 2), (.int 3)]), (.call 29 false [(.var 2)])])), (.for_ (.nm 4) (.seq (.var 3)) d_law__k01_l1)]
def d_law__k01_c0 : PI.E := (.comp false (.nm 4) (.seq (.call 33 false [])) (.cmp .ne (.call 11 false [(.var 4)]) (.call 28 false [(.var 4)])) (.var 4) [4])
def d_law__k01 : Def := ⟨"law", ["script"], ["script", "k", "source", "values", "value", "turn", "found"], ⟨1, 7, [(.for_ (.nm 1) (.rng1 (.bin .add (.int 1) (.b2 .min (.b1 .len (.var 0)) (.int 20)))) d_law__k01_l2), (.ret (.cmp .eq d_law__k01_c0 (.lst false [])))]⟩⟩
def d_need_page : Def := ⟨"need_page", ["page"], ["page"], ⟨1, 1, [(.ite (.not (.call 11 false [(.var 0)])) [.raise] [])]⟩⟩
def d_boxes_c0 : PI.E := (.comp true (.tp [(.nm 1), (.nm 2)]) (.seq (.call 36 false [(.var 0)])) (.bl true) (.var 2) [1, 2])
def d_boxes : Def := ⟨"boxes", ["page"], ["page", "depth", "ident"], ⟨1, 3, [(.ret d_boxes_c0)]⟩⟩
def d_holes : Def := ⟨"holes", ["page"], ["page"], ⟨1, 1, [(.ex (.call 35 false [(.var 0)])), (.ret (.call 9 false [(.var 0)]))]⟩⟩
def d_switches : Def := ⟨"switches", ["page"], ["page"], ⟨1, 1, [(.ex (.call 35 false [(.var 0)])), (.ret (.call 10 false [(.var 0)]))]⟩⟩
def d__law_is_box : Def := ⟨"_law_is_box", ["item"], ["item"], ⟨1, 1, [(.ret (.and (.isi (.var 0) [.tup]) (.cmp .eq (.b1 .len (.var 0)) (.int 7))))]⟩⟩
def d__law_off : Def := ⟨"_law_off", ["flag", "lit"], ["flag", "lit"], ⟨2, 2, [(.ret (.ife (.isi (.var 0) [.tup]) (.cmp .notin (.idx (.var 0) (.int 1)) (.var 1)) (.var 0)))]⟩⟩
def d__law_known_c0 : PI.E := (.comp true (.nm 4) (.seq (.var 0)) (.bl true) (.tup [(.var 4), (.bl false)]) [4])
def d__law_known_c1 : PI.E := (.comp false (.nm 7) (.seq (.idx (.var 4) (.int 6))) (.bl true) (.tup [(.var 7), (.var 6)]) [7])
def d__law_known_i0 : PI.St := (.ite (.call 40 false [(.var 4)]) [(.set (.nm 6) (.or (.var 5) (.call 41 false [(.idx (.var 4) (.int 2)), (.var 1)]))), (.setIdx (.var 2) (.idx (.var 4) (.int 0)) (.tup [(.var 4), (.var 6)])), (.set (.nm 3) (.cat true d__law_known_c1 (.var 3)))] [])
def d__law_known_l0 : List PI.St := [(.set (.tp [(.nm 4), (.nm 5)]) (.pop1 (.var 3) (.int 0))), d__law_known_i0]
def d__law_known : Def := ⟨"_law_known", ["page", "lit"], ["page", "lit", "found", "rows", "item", "around", "hidden", "one"], ⟨2, 8, [(.par [2, 3] [(.dct true [] []), d__law_known_c0]), (.while_ (.eqL true (.var 3) (.lst false [])) d__law_known_l0), (.ret (.var 2))]⟩⟩
def d__law_pieces_c0 : PI.E := (.comp false (.nm 5) (.seq (.var 0)) (.not (.call 40 false [(.var 5)])) (.var 5) [5])
def d__law_pieces_c1 : PI.E := (.comp false (.nm 5) (.seq (.idx (.var 4) (.int 6))) (.not (.call 40 false [(.var 5)])) (.var 5) [5])
def d__law_pieces_l0 : List PI.St := [(.set (.nm 4) (.idx (.idx (.var 2) (.var 3)) (.int 0))), (.set (.nm 1) (.bin .add (.bin .add (.var 1) (.lst false [(.idx (.var 4) (.int 3)), (.idx (.var 4) (.int 5))])) d__law_pieces_c1))]
def d__law_pieces_c2 : PI.E := (.comp false (.nm 6) (.seq (.var 1)) (.notN (.var 6)) (.var 6) [6])
def d__law_pieces : Def := ⟨"_law_pieces", ["page"], ["page", "found", "known", "ident", "box", "item", "piece"], ⟨1, 7, [(.set (.nm 1) d__law_pieces_c0), (.set (.nm 2) (.call 42 false [(.var 0), (.tup [])])), (.for_ (.nm 3) (.seq (.var 2)) d__law_pieces_l0), (.ret d__law_pieces_c2)]⟩⟩
def d__law_holes_c0 : PI.E := (.comp false (.nm 1) (.seq (.call 43 false [(.var 0)])) (.isi (.var 1) [.tup]) (.idx (.var 1) (.int 1)) [1])
def d__law_holes : Def := ⟨"_law_holes", ["page"], ["page", "piece"], ⟨1, 2, [(.ret (.b1 .tup (.b1 .sset d__law_holes_c0)))]⟩⟩
def d__law_switches_c0 : PI.E := (.comp false (.nm 3) (.seq (.var 1)) (.bl true) (.idx (.idx (.idx (.var 1) (.var 3)) (.int 0)) (.int 2)) [3])
def d__law_switches_c1 : PI.E := (.comp false (.nm 4) (.seq (.var 2)) (.isi (.var 4) [.tup]) (.idx (.var 4) (.int 1)) [4])
def d__law_switches : Def := ⟨"_law_switches", ["page"], ["page", "known", "flags", "ident", "flag"], ⟨1, 5, [(.set (.nm 1) (.call 42 false [(.var 0), (.tup [])])), (.set (.nm 2) d__law_switches_c0), (.ret (.b1 .tup (.b1 .sset d__law_switches_c1)))]⟩⟩
def d__law_listed_l0 : List PI.St := [(.ite (.call 40 false [(.var 3)]) [(.set (.nm 2) (.bin .add (.bin .add (.var 2) (.lst false [(.tup [(.var 1), (.idx (.var 3) (.int 0))])])) (.call 46 false [(.idx (.var 3) (.int 6)), (.bin .add (.var 1) (.int 1))])))] [])]
def d__law_listed : Def := ⟨"_law_listed", ["items", "depth"], ["items", "depth", "found", "item"], ⟨2, 4, [(.set (.nm 2) (.lst false [])), (.for_ (.nm 3) (.seq (.var 0)) d__law_listed_l0), (.ret (.var 2))]⟩⟩
def d_law__k02_c0 : PI.E := (.comp false (.tp [(.nm 6), (.nm 7)]) (.seq (.var 4)) (.bl true) (.var 7) [6, 7])
def d_law__k02_c1 : PI.E := (.comp false (.tp [(.nm 6), (.nm 7)]) (.seq (.var 4)) (.bl true) (.var 7) [6, 7])
def d_law__k02_l0 : List PI.St := [(.set (.nm 2) (.call 12 true [(.var 0), (.var 1)])), (.set (.nm 3) (.call 23 false [(.var 2), (.int 12), (.int 5), (.int 3), (.int 3)])), (.set (.nm 4) (.call 46 false [(.var 3), (.int 1)])), (.ite (.or (.cmp .ne (.b1 (.lst false) (.call 36 false [(.var 3)])) (.var 4)) (.cmp .ne (.call 37 false [(.var 3)]) d_law__k02_c0)) [(.ret (.bl false))] []), (.set (.nm 5) (.call 37 true [(.var 3)])), (.ex (.append (.var 5) (.str [109, 111, 114, 101]))), (.ite (.or (.cmp .ne (.call 37 false [(.var 3)]) d_law__k02_c1) (.not (.isi (.var 5) [.lst]))) [(.ret (.bl false))] []), (.ite (.or (.cmp .ne (.call 38 false [(.var 3)]) (.call 44 false [(.var 3)])) (.cmp .ne (.call 39 false [(.var 3)]) (.call 45 false [(.var 3)]))) [(.ret (.bl false))] [])]
def d_law__k02 : Def := ⟨"law", ["script"], ["script", "k", "source", "page", "due", "found", "depth", "ident"], ⟨1, 8, [(.for_ (.nm 1) (.rng1 (.bin .add (.int 1) (.b2 .min (.b1 .len (.var 0)) (.int 20)))) d_law__k02_l0), (.ret (.and (.cmp .eq (.b1 (.lst false) (.call 36 false [(.tup [])])) (.lst false [])) (.and (.cmp .eq (.call 38 false [(.tup [(.str [97]), (.tup [(.str [104, 111, 108, 101]), (.str [98])])])]) (.tup [(.str [98])])) (.cmp .eq (.call 39 false [(.tup [(.str [97])])]) (.tup [])))))]⟩⟩
def d_is_pairs_l0 : List PI.St := [(.ite (.or (.not (.isi (.var 1) [.tup])) (.or (.cmp .ne (.b1 .len (.var 1)) (.int 2)) (.or (.not (.call 0 false [(.idx (.var 1) (.int 0))])) (.not (.call 1 false [(.idx (.var 1) (.int 1))]))))) [(.ret (.bl false))] [])]
def d_is_pairs_c0 : PI.E := (.comp false (.tp [(.nm 2), (.nm 3)]) (.zip (.var 0) (.slice false (.var 0) (.int 1) .non)) (.bl true) (.cmp .lt (.idx (.var 2) (.int 0)) (.idx (.var 3) (.int 0))) [2, 3])
def d_is_pairs : Def := ⟨"is_pairs", ["value"], ["value", "pair", "one", "other"], ⟨1, 4, [(.ite (.not (.isi (.var 0) [.tup])) [(.ret (.bl false))] []), (.for_ (.nm 1) (.seq (.var 0)) d_is_pairs_l0), (.ret (.b1 .all d_is_pairs_c0))]⟩⟩
def d_need_filling : Def := ⟨"need_filling", ["value"], ["value"], ⟨1, 1, [(.ite (.not (.call 48 false [(.var 0)])) [.raise] [])]⟩⟩
def d_filled_piece : Def := ⟨"filled_piece", ["piece", "texts"], ["piece", "texts"], ⟨2, 2, [(.ite (.isi (.var 0) [.tup]) [(.ret (.get2 (.var 1) (.idx (.var 0) (.int 1)) (.str [])))] []), (.ret (.var 0))]⟩⟩
def d_filled_items_l0 : List PI.St := [(.ite (.call 5 false [(.var 3)]) [(.par [4, 5] [(.call 50 false [(.idx (.var 3) (.int 3)), (.var 1)]), (.call 50 false [(.idx (.var 3) (.int 5)), (.var 1)])]), (.set (.nm 2) (.bin .add (.var 2) (.tup [(.bin .add (.slice false (.var 3) .non (.int 3)) (.tup [(.var 4), (.idx (.var 3) (.int 4)), (.var 5), (.call 51 false [(.idx (.var 3) (.int 6)), (.var 1)])]))])))] [(.set (.nm 2) (.bin .add (.var 2) (.tup [(.call 50 false [(.var 3), (.var 1)])])))])]
def d_filled_items : Def := ⟨"filled_items", ["items", "texts"], ["items", "texts", "found", "item", "label", "tip"], ⟨2, 6, [(.set (.nm 2) (.tup [])), (.for_ (.nm 3) (.seq (.var 0)) d_filled_items_l0), (.ret (.var 2))]⟩⟩
def d_page_filled : Def := ⟨"page_filled", ["page", "filling"], ["page", "filling"], ⟨2, 2, [(.ex (.call 35 false [(.var 0)])), (.ex (.call 49 false [(.var 1)])), (.ret (.call 51 false [(.var 0), (.dictP false (.var 1))]))]⟩⟩
def d__law_some_c0 : PI.E := (.comp false (.nm 2) (.seq (.var 1)) (.cmp .eq (.call 13 false [(.var 0), (.int 2)]) (.int 0)) (.var 2) [2])
def d__law_some : Def := ⟨"_law_some", ["source", "ids"], ["source", "ids", "ident"], ⟨2, 3, [(.ret (.b1 .tup d__law_some_c0))]⟩⟩
def d__law_filled_l0 : List PI.St := [(.ite (.call 40 false [(.var 3)]) [(.set (.tp [(.nm 4), (.nm 5)]) (.call 54 false [(.tup [(.idx (.var 3) (.int 3)), (.idx (.var 3) (.int 5))]), (.var 1)])), (.ex (.append (.var 2) (.bin .add (.slice false (.var 3) .non (.int 3)) (.tup [(.var 4), (.idx (.var 3) (.int 4)), (.var 5), (.call 54 false [(.idx (.var 3) (.int 6)), (.var 1)])]))))] [(.ex (.append (.var 2) (.ife (.isi (.var 3) [.tup]) (.get2 (.var 1) (.idx (.var 3) (.int 1)) (.str [])) (.var 3))))])]
def d__law_filled : Def := ⟨"_law_filled", ["items", "texts"], ["items", "texts", "found", "item", "label", "tip"], ⟨2, 6, [(.set (.nm 2) (.lst true [])), (.for_ (.nm 3) (.seq (.var 0)) d__law_filled_l0), (.ret (.b1 .tup (.var 2)))]⟩⟩
def d_law__k03_c0 : PI.E := (.comp false (.nm 7) (.seq (.call 53 false [(.var 2), (.bin .add (.call 44 false [(.var 3)]) (.tup [(.str [122, 122, 122])]))])) (.bl true) (.tup [(.var 7), (.call 17 false [(.var 2)])]) [7])
def d_law__k03_c1 : PI.E := (.comp false (.nm 7) (.seq (.b1 .sorted (.var 4))) (.bl true) (.tup [(.var 7), (.idx (.var 4) (.var 7))]) [7])
def d_law__k03_l0 : List PI.St := [(.set (.nm 2) (.call 12 true [(.var 0), (.var 1)])), (.set (.nm 3) (.call 23 false [(.var 2), (.int 8), (.int 5), (.int 3), (.int 3)])), (.set (.nm 4) (.dictP false d_law__k03_c0)), (.set (.nm 5) (.b1 .tup d_law__k03_c1)), (.set (.nm 6) (.call 52 false [(.var 3), (.var 5)])), (.ite (.or (.cmp .ne (.var 6) (.call 54 false [(.var 3), (.var 4)])) (.or (.isB true (.call 11 false [(.var 6)]) true) (.cmp .ne (.call 38 false [(.var 6)]) (.tup [])))) [(.ret (.bl false))] []), (.ite (.cmp .ne (.call 52 false [(.var 3), (.tup [])]) (.call 54 false [(.var 3), (.dct false [] [])])) [(.ret (.bl false))] [])]
def d_law__k03 : Def := ⟨"law", ["script"], ["script", "k", "source", "page", "texts", "filling", "found", "hole"], ⟨1, 8, [(.for_ (.nm 1) (.rng1 (.bin .add (.int 1) (.b2 .min (.b1 .len (.var 0)) (.int 20)))) d_law__k03_l0), (.ret (.cmp .eq (.call 52 false [(.tup [(.tup [(.str [104, 111, 108, 101]), (.str [97])]), (.str [120])]), (.tup [(.tup [(.str [97]), (.str [98])]), (.tup [(.str [99]), (.str [100])])])]) (.tup [(.str [98]), (.str [120])])))]⟩⟩
def d_is_case_c0 : PI.E := (.comp false (.nm 3) (.seq (.var 0)) (.bl true) (.call 0 false [(.var 3)]) [3])
def d_is_case_c1 : PI.E := (.comp false (.tp [(.nm 1), (.nm 2)]) (.zip (.var 0) (.slice false (.var 0) (.int 1) .non)) (.bl true) (.cmp .lt (.var 1) (.var 2)) [1, 2])
def d_is_case : Def := ⟨"is_case", ["value"], ["value", "one", "other", "ident"], ⟨1, 4, [(.ite (.or (.not (.isi (.var 0) [.tup])) (.not (.b1 .all d_is_case_c0))) [(.ret (.bl false))] []), (.ret (.b1 .all d_is_case_c1))]⟩⟩
def d_need_case : Def := ⟨"need_case", ["value"], ["value"], ⟨1, 1, [(.ite (.not (.call 56 false [(.var 0)])) [.raise] [])]⟩⟩
def d_is_off : Def := ⟨"is_off", ["flag", "on"], ["flag", "on"], ⟨2, 2, [(.ret (.ife (.isi (.var 0) [.tup]) (.cmp .notin (.idx (.var 0) (.int 1)) (.var 1)) (.var 0)))]⟩⟩
def d_words_of_c0 : PI.E := (.comp false (.nm 1) (.seq (.split (.var 0) (.str [32]))) (.cmp .ne (.var 1) (.str [])) (.var 1) [1])
def d_words_of : Def := ⟨"words_of", ["text"], ["text", "word"], ⟨1, 2, [(.ret (.b1 .tup d_words_of_c0))]⟩⟩
def d_piece_symbols : Def := ⟨"piece_symbols", ["piece", "filled"], ["piece", "filled"], ⟨2, 2, [(.ite (.isN (.var 0)) [(.ret (.tup []))] []), (.ite (.isi (.var 0) [.tup]) [(.ret (.ife (.cmp .isin (.idx (.var 0) (.int 1)) (.var 1)) (.tup [(.var 0)]) (.tup [])))] []), (.ret (.call 59 false [(.var 0)]))]⟩⟩
def d_pieces_symbols_l0 : List PI.St := [(.set (.nm 2) (.bin .add (.var 2) (.call 60 false [(.var 3), (.var 1)])))]
def d_pieces_symbols : Def := ⟨"pieces_symbols", ["pieces", "filled"], ["pieces", "filled", "found", "piece"], ⟨2, 4, [(.set (.nm 2) (.tup [])), (.for_ (.nm 3) (.seq (.var 0)) d_pieces_symbols_l0), (.ret (.var 2))]⟩⟩
def d_boxes_hidden_l0 : List PI.St := [(.ite (.call 5 false [(.var 4)]) [(.set (.nm 5) (.or (.var 1) (.call 58 false [(.idx (.var 4) (.int 2)), (.var 2)]))), (.setIdx (.var 3) (.idx (.var 4) (.int 0)) (.tup [(.var 4), (.var 5)])), (.ex (.update (.var 3) (.call 62 false [(.idx (.var 4) (.int 6)), (.var 5), (.var 2)])))] [])]
def d_boxes_hidden : Def := ⟨"boxes_hidden", ["items", "around", "on"], ["items", "around", "on", "found", "item", "hidden"], ⟨3, 6, [(.set (.nm 3) (.dct true [] [])), (.for_ (.nm 4) (.seq (.var 0)) d_boxes_hidden_l0), (.ret (.var 3))]⟩⟩
def d_world_of : Def := ⟨"world_of", ["page", "filled", "on"], ["page", "filled", "on"], ⟨3, 3, [(.ret (.dct false [[98, 111, 120, 101, 115], [102, 105, 108, 108, 101, 100], [111, 110]] [(.call 62 false [(.var 0), (.bl false), (.var 2)]), (.var 1), (.var 2)]))]⟩⟩
def d_part_of : Def := ⟨"part_of", ["world", "item", "way"], ["world", "item", "way"], ⟨3, 3, [(.ite (.not (.call 5 false [(.var 1)])) [(.ret (.call 60 false [(.var 1), (.idx (.var 0) (.str [102, 105, 108, 108, 101, 100]))]))] []), (.ite (.and (.cmp .ne (.var 2) (.str [98, 97, 114, 101, 108, 121])) (.call 58 false [(.idx (.var 1) (.int 2)), (.idx (.var 0) (.str [111, 110]))])) [(.ret (.tup [(.idx (.var 1) (.int 0)), (.str [104, 105, 100, 100, 101, 110]), (.tup [])]))] []), (.ret (.call 67 false [(.var 0), (.var 1), (.var 2), (.bl true)]))]⟩⟩
def d_referred : Def := ⟨"referred", ["world", "ident"], ["world", "ident", "box", "hidden"], ⟨2, 4, [(.set (.tp [(.nm 2), (.nm 3)]) (.idx (.idx (.var 0) (.str [98, 111, 120, 101, 115])) (.var 1))), (.ret (.call 67 false [(.var 0), (.var 2), (.ife (.var 3) (.str [98, 97, 114, 101, 108, 121]) (.str [114, 101, 102, 101, 114, 101, 110, 99, 101])), (.bl true)]))]⟩⟩
def d_origin_of_l0 : List PI.St := [(.set (.nm 6) (.tup [(.idx (.var 1) (.int 0)), (.var 4), (.var 5)])), (.ite (.cmp .ne (.call 69 false [(.var 6)]) (.tup [])) [(.ret (.var 6))] [])]
def d_origin_of : Def := ⟨"origin_of", ["world", "box", "way", "visited"], ["world", "box", "way", "visited", "source", "parts", "found"], ⟨4, 7, [(.for_ (.tp [(.nm 4), (.nm 5)]) (.seq (.call 66 false [(.var 0), (.var 1), (.var 2), (.var 3)])) d_origin_of_l0), (.ret (.tup [(.idx (.var 1) (.int 0)), (.str [110, 111, 110, 101]), (.tup [])]))]⟩⟩
def d_is_origin : Def := ⟨"is_origin", ["part"], ["part"], ⟨1, 1, [(.ret (.and (.cmp .eq (.b1 .len (.var 0)) (.int 3)) (.isi (.idx (.var 0) (.int 2)) [.tup])))]⟩⟩
def d_said_l0 : List PI.St := [(.set (.nm 1) (.bin .add (.var 1) (.ife (.call 68 false [(.var 2)]) (.call 69 false [(.var 2)]) (.var 2))))]
def d_said : Def := ⟨"said", ["found"], ["found", "symbols", "part", "ident", "source", "parts"], ⟨1, 6, [(.set (.tp [(.nm 3), (.nm 4), (.nm 5)]) (.var 0)), (.ite (.cmp .notin (.var 4) (.tup [(.str [98, 121]), (.str [105, 110, 115, 105, 100, 101])])) [(.ret (.var 5))] []), (.set (.nm 1) (.tup [])), (.for_ (.nm 2) (.seq (.var 5)) d_said_l0), (.ret (.var 1))]⟩⟩
def d_own_origin : Def := ⟨"own_origin", ["world", "ident"], ["world", "ident", "box", "hidden"], ⟨2, 4, [(.set (.tp [(.nm 2), (.nm 3)]) (.get2 (.idx (.var 0) (.str [98, 111, 120, 101, 115])) (.var 1) (.tup [.non, (.bl true)]))), (.ite (.or (.var 3) (.cmp .eq (.idx (.var 2) (.int 1)) (.str [103, 114, 111, 117, 112]))) [.raise] []), (.ret (.call 67 false [(.var 0), (.var 2), (.str [111, 112, 101, 110, 108, 121]), (.bl false)]))]⟩⟩
def d_shown_controls_c0 : PI.E := (.comp false (.tp [(.nm 1), (.tp [(.nm 2), (.nm 3)])]) (.items (.idx (.var 0) (.str [98, 111, 120, 101, 115]))) (.and (.not (.var 3)) (.cmp .ne (.idx (.var 2) (.int 1)) (.str [103, 114, 111, 117, 112]))) (.var 1) [1, 2, 3])
def d_shown_controls : Def := ⟨"shown_controls", ["world"], ["world", "ident", "box", "hidden"], ⟨1, 4, [(.ret d_shown_controls_c0)]⟩⟩
def d__law_words_c0 : PI.E := (.comp false (.nm 1) (.seq (.split (.var 0) (.str [32]))) (.cmp .ne (.var 1) (.str [])) (.var 1) [1])
def d__law_words : Def := ⟨"_law_words", ["text"], ["text", "word"], ⟨1, 2, [(.ret d__law_words_c0)]⟩⟩
def d__law_symbols_l0 : List PI.St := [(.ite (.isi (.var 3) [.str]) [(.set (.nm 2) (.bin .add (.var 2) (.b1 .tup (.call 75 false [(.var 3)]))))] [(.ite (.and (.notN (.var 3)) (.cmp .isin (.idx (.var 3) (.int 1)) (.var 1))) [(.set (.nm 2) (.bin .add (.var 2) (.tup [(.var 3)])))] [])])]
def d__law_symbols : Def := ⟨"_law_symbols", ["pieces", "fills"], ["pieces", "fills", "found", "piece"], ⟨2, 4, [(.set (.nm 2) (.tup [])), (.for_ (.nm 3) (.seq (.var 0)) d__law_symbols_l0), (.ret (.var 2))]⟩⟩
def d__law_gathered_l0 : List PI.St := [(.ite (.cmp .isin (.var 6) (.var 0)) [(.set (.nm 8) (.ife (.idx (.idx (.var 0) (.var 6)) (.int 1)) (.str [98, 97, 114, 101]) (.str [114, 101, 102]))), (.set (.nm 5) (.bin .add (.var 5) (.call 77 false [(.var 0), (.idx (.idx (.var 0) (.var 6)) (.int 0)), (.var 8), (.var 3)])))] [])]
def d__law_gathered_i0 : PI.St := (.ite (.cmp .isin (.var 2) (.tup [(.str [111, 119, 110]), (.str [111, 112, 101, 110])])) [(.for_ (.nm 6) (.seq (.idx (.var 1) (.int 4))) d__law_gathered_l0)] [])
def d__law_gathered_i1 : PI.St := (.ite (.and (.cmp .eq (.var 5) (.tup [])) (.and (.cmp .ne (.var 2) (.str [111, 119, 110])) (.cmp .eq (.var 4) (.str [102, 105, 101, 108, 100])))) [(.set (.nm 5) (.call 76 false [(.idx (.var 1) (.int 6)), (.idx (.var 3) (.int 0))]))] [])
def d__law_gathered_i2 : PI.St := (.ite (.cmp .eq (.var 5) (.tup [])) [(.set (.nm 5) (.call 76 false [(.lst false [(.idx (.var 1) (.int 3))]), (.idx (.var 3) (.int 0))]))] [])
def d__law_gathered_l1 : List PI.St := [(.ite (.not (.call 40 false [(.var 7)])) [(.set (.nm 5) (.bin .add (.var 5) (.call 76 false [(.lst false [(.var 7)]), (.idx (.var 3) (.int 0))])))] [(.ite (.or (.cmp .eq (.var 2) (.str [98, 97, 114, 101])) (.not (.call 41 false [(.idx (.var 7) (.int 2)), (.idx (.var 3) (.int 1))]))) [(.set (.nm 5) (.bin .add (.var 5) (.call 77 false [(.var 0), (.var 7), (.ife (.cmp .eq (.var 2) (.str [111, 119, 110])) (.str [111, 112, 101, 110]) (.var 2)), (.var 3)])))] [])])]
def d__law_gathered_i3 : PI.St := (.ite (.and (.cmp .eq (.var 5) (.tup [])) (.or (.cmp .isin (.var 4) (.tup [(.str [98, 117, 116, 116, 111, 110]), (.str [108, 105, 110, 107]), (.str [104, 101, 97, 100, 105, 110, 103])])) (.and (.cmp .ne (.var 2) (.str [111, 119, 110])) (.cmp .ne (.var 4) (.str [102, 105, 101, 108, 100]))))) [(.for_ (.nm 7) (.seq (.idx (.var 1) (.int 6))) d__law_gathered_l1)] [])
def d__law_gathered : Def := ⟨"_law_gathered", ["known", "box", "way", "case"], ["known", "box", "way", "case", "kind", "found", "ident", "item", "other"], ⟨4, 9, [(.par [4, 5] [(.idx (.var 1) (.int 1)), (.tup [])]), d__law_gathered_i0, d__law_gathered_i1, d__law_gathered_i2, d__law_gathered_i3, (.ret (.ife (.cmp .ne (.var 5) (.tup [])) (.var 5) (.call 76 false [(.lst false [(.idx (.var 1) (.int 5))]), (.idx (.var 3) (.int 0))])))]⟩⟩
def d__law_names_i0 : PI.St := (.ite (.and (.not (.var 6)) (.cmp .ne (.idx (.var 5) (.int 1)) (.str [103, 114, 111, 117, 112]))) [(.setIdx (.var 4) (.var 2) (.call 77 false [(.var 3), (.var 5), (.str [111, 119, 110]), (.var 1)]))] [])
def d__law_names_l0 : List PI.St := [(.set (.tp [(.nm 5), (.nm 6)]) (.idx (.var 3) (.var 2))), d__law_names_i0]
def d__law_names : Def := ⟨"_law_names", ["page", "case"], ["page", "case", "ident", "known", "found", "box", "hidden"], ⟨2, 7, [(.par [3, 4] [(.call 42 false [(.var 0), (.idx (.var 1) (.int 1))]), (.dct true [] [])]), (.for_ (.nm 2) (.seq (.var 3)) d__law_names_l0), (.ret (.var 4))]⟩⟩
def d_law__k04_c0 : PI.E := (.comp false (.nm 8) (.seq (.var 7)) (.not (.isi (.var 8) [.str])) (.var 8) [8])
def d_law__k04_l0 : List PI.St := [(.set (.nm 7) (.call 74 false [(.var 3), (.var 6)])), (.ite (.cmp .ne (.var 7) (.idx (.var 4) (.var 6))) [(.ret (.bl false))] []), (.ite (.cmp .ne d_law__k04_c0 (.lst false [])) [(.ret (.bl false))] [])]
def d_law__k04_l1 : List PI.St := [(.set (.nm 2) (.call 12 true [(.var 0), (.var 1)])), (.set (.nm 3) (.call 23 false [(.var 2), (.bin .add (.int 1) (.call 13 false [(.var 2), (.int 10)])), (.int 0), (.int 0), (.call 14 false [(.var 2), (.lst false [(.int 0), (.int 1), (.int 2)])])])), (.set (.nm 4) (.call 78 false [(.var 3), (.tup [(.tup []), (.tup [])])])), (.set (.nm 5) (.call 72 true [(.var 3)])), (.ite (.or (.eqL true (.var 5) (.b1 (.lst false) (.var 4))) (.not (.isi (.var 5) [.lst]))) [(.ret (.bl false))] []), (.for_ (.nm 6) (.seq (.var 5)) d_law__k04_l0), (.ex (.append (.var 5) (.str [109, 111, 114, 101]))), (.ite (.cmp .ne (.call 72 false [(.var 3)]) (.b1 (.lst false) (.var 4))) [(.ret (.bl false))] [])]
def d_law__k04 : Def := ⟨"law", ["script"], ["script", "k", "source", "page", "due", "found", "ident", "words", "word"], ⟨1, 9, [(.for_ (.nm 1) (.rng1 (.bin .add (.int 1) (.b2 .min (.b1 .len (.var 0)) (.int 20)))) d_law__k04_l1), (.ret (.bl true))]⟩⟩
def d__law_subsets_c0 : PI.E := (.comp false (.nm 3) (.seq (.var 1)) (.bl true) (.bin .add (.var 3) (.tup [(.var 2)])) [3])
def d__law_subsets_l0 : List PI.St := [(.set (.nm 1) (.bin .add (.var 1) d__law_subsets_c0))]
def d__law_subsets : Def := ⟨"_law_subsets", ["ids"], ["ids", "found", "ident", "row"], ⟨1, 4, [(.set (.nm 1) (.lst false [(.tup [])])), (.for_ (.nm 2) (.seq (.var 0)) d__law_subsets_l0), (.ret (.var 1))]⟩⟩
def d__law_cases_c0 : PI.E := (.comp false (.nm 5) (.seq (.call 80 false [(.var 1)])) (.bl true) (.tup [(.bin .add (.b1 .len (.var 3)) (.b1 .len (.var 5))), (.var 3), (.var 5)]) [5])
def d__law_cases_l0 : List PI.St := [(.set (.nm 2) (.bin .add (.var 2) d__law_cases_c0))]
def d__law_cases_c1 : PI.E := (.comp false (.nm 4) (.seq (.b1 .sorted (.var 2))) (.bl true) (.slice false (.var 4) (.int 1) .non) [4])
def d__law_cases : Def := ⟨"_law_cases", ["hole_ids", "switch_ids"], ["hole_ids", "switch_ids", "rows", "fills", "row", "lit"], ⟨2, 6, [(.set (.nm 2) (.lst false [])), (.for_ (.nm 3) (.seq (.call 80 false [(.var 0)])) d__law_cases_l0), (.ret d__law_cases_c1)]⟩⟩
def d__law_case_i0 : PI.St := (.ite (.cmp .eq (.call 13 false [(.var 0), (.int 4)]) (.int 0)) [(.par [2, 3] [(.b1 .tup (.b1 .sset (.bin .add (.var 2) (.tup [(.str [122, 122, 122])])))), (.b1 .tup (.b1 .sset (.bin .add (.var 3) (.tup [(.str [97, 97, 97, 97, 97, 97, 97, 97])]))))])] [])
def d__law_case : Def := ⟨"_law_case", ["source", "page"], ["source", "page", "fills", "lit"], ⟨2, 4, [(.par [2, 3] [(.call 53 false [(.var 0), (.call 44 false [(.var 1)])]), (.call 53 false [(.var 0), (.call 45 false [(.var 1)])])]), d__law_case_i0, (.ret (.tup [(.var 2), (.var 3)]))]⟩⟩
def d__law_inner : Def := ⟨"_law_inner", ["source", "ids"], ["source", "ids", "flags", "kinds", "value", "field", "other", "inside", "label", "by"], ⟨2, 10, [(.set (.nm 2) (.lst false [(.bl false), (.bl true), (.tup [(.str [111, 102, 102]), (.str [115])]), (.tup [(.str [111, 102, 102]), (.str [116])])])), (.set (.nm 3) (.lst false [(.str [98, 117, 116, 116, 111, 110]), (.str [103, 114, 111, 117, 112]), (.str [108, 105, 110, 107]), (.str [104, 101, 97, 100, 105, 110, 103])])), (.set (.nm 4) (.call 14 false [(.var 0), (.lst false [(.tup []), (.tup [(.str [118, 97, 108, 117, 101])]), (.tup [(.tup [(.str [104, 111, 108, 101]), (.str [104])])])])])), (.set (.nm 5) (.tup [(.idx (.var 1) (.int 0)), (.str [102, 105, 101, 108, 100]), (.call 14 false [(.var 0), (.var 2)]), (.str [111, 119, 110]), (.tup []), .non, (.var 4)])), (.set (.nm 6) (.tup [(.idx (.var 1) (.int 1)), (.call 14 false [(.var 0), (.var 3)]), (.call 14 false [(.var 0), (.var 2)]), .non, (.call 14 false [(.var 0), (.lst false [(.tup []), (.tup [(.str [109, 101])]), (.tup [(.idx (.var 1) (.int 0))])])]), (.str [116, 105, 112]), (.call 14 false [(.var 0), (.lst false [(.tup []), (.tup [(.str [100, 101, 101, 112])]), (.tup [(.str [32]), (.tup [(.str [104, 111, 108, 101]), (.str [104])])])])])])), (.set (.nm 7) (.call 14 false [(.var 0), (.lst false [(.tup [(.var 5), (.var 6)]), (.tup [(.var 6), (.str [101, 110, 100])]), (.tup [(.str [98, 101, 103, 105, 110]), (.var 5)]), (.tup [(.var 5)]), (.tup [(.var 6)])])])), (.set (.nm 8) (.call 14 false [(.var 0), (.lst false [.non, .non, (.str []), (.str [108, 97, 98, 101, 108]), (.tup [(.str [104, 111, 108, 101]), (.str [104])])])])), (.set (.nm 9) (.call 14 false [(.var 0), (.lst false [(.tup []), (.tup [(.str [109, 101])])])])), (.ret (.tup [(.idx (.var 1) (.int 2)), (.call 14 false [(.var 0), (.var 3)]), (.call 14 false [(.var 0), (.var 2)]), (.var 8), (.var 9), (.str [108, 97, 115, 116]), (.var 7)]))]⟩⟩
def d_box_rows : Def := ⟨"box_rows", ["world", "box", "free"], ["world", "box", "free", "kind", "found", "value"], ⟨3, 6, [(.set (.nm 3) (.idx (.var 1) (.int 1))), (.set (.nm 4) (.ife (.cmp .eq (.var 3) (.str [103, 114, 111, 117, 112])) (.lst false []) (.lst false [(.tup [(.var 3), (.call 69 false [(.call 67 false [(.var 0), (.var 1), (.str [111, 112, 101, 110, 108, 121]), (.bl false)])])])]))), (.ite (.cmp .eq (.var 3) (.str [102, 105, 101, 108, 100])) [(.set (.nm 5) (.call 61 false [(.idx (.var 1) (.int 6)), (.idx (.var 0) (.str [102, 105, 108, 108, 101, 100]))])), (.ret (.bin .add (.var 4) (.ife (.cmp .ne (.var 5) (.tup [])) (.lst false [(.tup [(.str [118, 97, 108, 117, 101]), (.var 5)])]) (.lst false []))))] []), (.ret (.bin .add (.var 4) (.call 88 false [(.var 0), (.idx (.var 1) (.int 6)), (.and (.var 2) (.cmp .eq (.var 3) (.str [103, 114, 111, 117, 112])))])))]⟩⟩
def d_item_rows_l0 : List PI.St := [(.ite (.call 5 false [(.var 4)]) [(.ite (.not (.call 58 false [(.idx (.var 4) (.int 2)), (.idx (.var 0) (.str [111, 110]))])) [(.set (.nm 3) (.bin .add (.var 3) (.call 87 false [(.var 0), (.var 4), (.var 2)])))] [])] [(.ite (.var 2) [(.set (.nm 5) (.call 60 false [(.var 4), (.idx (.var 0) (.str [102, 105, 108, 108, 101, 100]))])), (.set (.nm 3) (.bin .add (.var 3) (.ife (.cmp .ne (.var 5) (.tup [])) (.lst false [(.tup [(.str [116, 101, 120, 116]), (.var 5)])]) (.lst false []))))] [])])]
def d_item_rows : Def := ⟨"item_rows", ["world", "items", "free"], ["world", "items", "free", "found", "item", "symbols"], ⟨3, 6, [(.set (.nm 3) (.lst false [])), (.for_ (.nm 4) (.seq (.var 1)) d_item_rows_l0), (.ret (.var 3))]⟩⟩
def d_rows_heard : Def := ⟨"rows_heard", ["page", "filled", "on"], ["page", "filled", "on"], ⟨3, 3, [(.ret (.call 88 false [(.call 63 false [(.var 0), (.var 1), (.var 2)]), (.var 0), (.bl true)]))]⟩⟩
def d__law_heard_c0 : PI.E := (.comp true (.nm 5) (.seq (.var 0)) (.bl true) (.tup [(.var 5), (.bl true)]) [5])
def d__law_heard_i0 : PI.St := (.ite (.and (.var 6) (.cmp .ne (.var 7) (.tup []))) [(.ex (.append (.var 3) (.tup [(.str [116, 101, 120, 116]), (.var 7)])))] [])
def d__law_heard_i1 : PI.St := (.ite (.cmp .ne (.var 8) (.str [103, 114, 111, 117, 112])) [(.ex (.append (.var 3) (.tup [(.var 8), (.call 77 false [(.var 2), (.var 5), (.str [111, 119, 110]), (.var 1)])])))] [])
def d__law_heard_c1 : PI.E := (.comp false (.nm 9) (.seq (.idx (.var 5) (.int 6))) (.bl true) (.tup [(.var 9), (.and (.var 6) (.cmp .eq (.var 8) (.str [103, 114, 111, 117, 112])))]) [9])
def d__law_heard_i2 : PI.St := (.ite (.cmp .ne (.var 8) (.str [102, 105, 101, 108, 100])) [(.set (.nm 4) (.cat true d__law_heard_c1 (.var 4)))] [(.ite (.cmp .ne (.call 76 false [(.idx (.var 5) (.int 6)), (.idx (.var 1) (.int 0))]) (.tup [])) [(.ex (.append (.var 3) (.tup [(.str [118, 97, 108, 117, 101]), (.call 76 false [(.idx (.var 5) (.int 6)), (.idx (.var 1) (.int 0))])])))] [])])
def d__law_heard_i3 : PI.St := (.ite (.not (.call 40 false [(.var 5)])) [(.set (.nm 7) (.call 76 false [(.lst false [(.var 5)]), (.idx (.var 1) (.int 0))])), d__law_heard_i0] [(.ite (.not (.call 41 false [(.idx (.var 5) (.int 2)), (.idx (.var 1) (.int 1))])) [(.set (.nm 8) (.idx (.var 5) (.int 1))), d__law_heard_i1, d__law_heard_i2] [])])
def d__law_heard_l0 : List PI.St := [(.set (.tp [(.nm 5), (.nm 6)]) (.pop1 (.var 4) (.int 0))), d__law_heard_i3]
def d__law_heard : Def := ⟨"_law_heard", ["page", "case"], ["page", "case", "known", "found", "rows", "item", "free", "symbols", "kind", "one"], ⟨2, 10, [(.par [2, 3, 4] [(.call 42 false [(.var 0), (.idx (.var 1) (.int 1))]), (.lst true []), d__law_heard_c0]), (.while_ (.eqL true (.var 4) (.lst false [])) d__law_heard_l0), (.ret (.var 3))]⟩⟩
def d_spoken_text_l0 : List PI.St := [(.set (.nm 2) (.bin .add (.var 2) (.ife (.isi (.var 3) [.tup]) (.b1 (.lst false) (.call 59 false [(.idx (.var 1) (.idx (.var 3) (.int 1)))])) (.lst false [(.var 3)]))))]
def d_spoken_text : Def := ⟨"spoken_text", ["symbols", "texts"], ["symbols", "texts", "found", "symbol"], ⟨2, 4, [(.set (.nm 2) (.lst false [])), (.for_ (.nm 3) (.seq (.var 0)) d_spoken_text_l0), (.ret (.join (.str [32]) (.var 2)))]⟩⟩
def d_filled_by_c0 : PI.E := (.comp false (.tp [(.nm 1), (.nm 2)]) (.seq (.var 0)) (.cmp .ne (.call 59 false [(.var 2)]) (.tup [])) (.var 1) [1, 2])
def d_filled_by : Def := ⟨"filled_by", ["filling"], ["filling", "hole", "text"], ⟨1, 3, [(.ret (.b1 .tup d_filled_by_c0))]⟩⟩
def d__law_told_l0 : List PI.St := [(.set (.nm 2) (.bin .add (.var 2) (.ife (.isi (.var 3) [.tup]) (.call 75 false [(.idx (.var 1) (.idx (.var 3) (.int 1)))]) (.lst false [(.var 3)]))))]
def d__law_told : Def := ⟨"_law_told", ["symbols", "texts"], ["symbols", "texts", "words", "symbol"], ⟨2, 4, [(.set (.nm 2) (.lst false [])), (.for_ (.nm 3) (.seq (.var 0)) d__law_told_l0), (.ret (.join (.str [32]) (.var 2)))]⟩⟩
def d__law_sources_l0 : List PI.St := [(.ite (.cmp .isin (.var 7) (.var 0)) [(.ex (.append (.var 6) (.call 101 false [(.var 0), (.idx (.idx (.var 0) (.var 7)) (.int 0)), (.ife (.idx (.idx (.var 0) (.var 7)) (.int 1)) (.str [98, 97, 114, 101]) (.str [114, 101, 102])), (.var 3)])))] [])]
def d__law_sources_i0 : PI.St := (.ite (.cmp .isin (.var 2) (.tup [(.str [111, 119, 110]), (.str [111, 112, 101, 110])])) [(.set (.nm 6) (.lst true [])), (.for_ (.nm 7) (.seq (.idx (.var 1) (.int 4))) d__law_sources_l0), (.ex (.append (.var 5) (.tup [(.str [98, 121]), (.b1 .tup (.var 6)), (.call 100 false [(.var 6)])])))] [])
def d__law_sources_i1 : PI.St := (.ite (.and (.cmp .ne (.var 2) (.str [111, 119, 110])) (.cmp .eq (.var 4) (.str [102, 105, 101, 108, 100]))) [(.ex (.append (.var 5) (.tup [(.str [118, 97, 108, 117, 101]), (.call 76 false [(.idx (.var 1) (.int 6)), (.idx (.var 3) (.int 0))]), (.call 76 false [(.idx (.var 1) (.int 6)), (.idx (.var 3) (.int 0))])])))] [])
def d__law_sources_l1 : List PI.St := [(.ite (.not (.call 40 false [(.var 8)])) [(.ex (.append (.var 6) (.call 76 false [(.lst false [(.var 8)]), (.idx (.var 3) (.int 0))])))] [(.ite (.and (.cmp .ne (.var 2) (.str [98, 97, 114, 101])) (.call 41 false [(.idx (.var 8) (.int 2)), (.idx (.var 3) (.int 1))])) [(.ex (.append (.var 6) (.tup [(.idx (.var 8) (.int 0)), (.str [104, 105, 100, 100, 101, 110]), (.tup [])])))] [(.ex (.append (.var 6) (.call 101 false [(.var 0), (.var 8), (.ife (.cmp .eq (.var 2) (.str [111, 119, 110])) (.str [111, 112, 101, 110]) (.var 2)), (.var 3)])))])])]
def d__law_sources_i2 : PI.St := (.ite (.or (.cmp .isin (.var 4) (.tup [(.str [98, 117, 116, 116, 111, 110]), (.str [108, 105, 110, 107]), (.str [104, 101, 97, 100, 105, 110, 103])])) (.and (.cmp .ne (.var 2) (.str [111, 119, 110])) (.cmp .ne (.var 4) (.str [102, 105, 101, 108, 100])))) [(.set (.nm 6) (.lst true [])), (.for_ (.nm 8) (.seq (.idx (.var 1) (.int 6))) d__law_sources_l1), (.ex (.append (.var 5) (.tup [(.str [105, 110, 115, 105, 100, 101]), (.b1 .tup (.var 6)), (.call 100 false [(.var 6)])])))] [])
def d__law_sources : Def := ⟨"_law_sources", ["known", "box", "way", "case"], ["known", "box", "way", "case", "kind", "found", "parts", "one", "item"], ⟨4, 9, [(.par [4, 5] [(.idx (.var 1) (.int 1)), (.lst true [])]), d__law_sources_i0, d__law_sources_i1, (.ex (.append (.var 5) (.tup [(.str [108, 97, 98, 101, 108]), (.call 76 false [(.lst false [(.idx (.var 1) (.int 3))]), (.idx (.var 3) (.int 0))]), (.call 76 false [(.lst false [(.idx (.var 1) (.int 3))]), (.idx (.var 3) (.int 0))])]))), d__law_sources_i2, (.ret (.cat false (.var 5) (.lst false [(.tup [(.str [116, 105, 112]), (.call 76 false [(.lst false [(.idx (.var 1) (.int 5))]), (.idx (.var 3) (.int 0))]), (.call 76 false [(.lst false [(.idx (.var 1) (.int 5))]), (.idx (.var 3) (.int 0))])])])))]⟩⟩
def d__law_flat_l0 : List PI.St := [(.ite (.and (.cmp .eq (.b1 .len (.var 2)) (.int 3)) (.isi (.idx (.var 2) (.int 2)) [.tup])) [(.set (.nm 1) (.bin .add (.var 1) (.ife (.cmp .isin (.idx (.var 2) (.int 1)) (.tup [(.str [98, 121]), (.str [105, 110, 115, 105, 100, 101])])) (.call 100 false [(.idx (.var 2) (.int 2))]) (.idx (.var 2) (.int 2)))))] [(.set (.nm 1) (.bin .add (.var 1) (.var 2)))])]
def d__law_flat : Def := ⟨"_law_flat", ["parts"], ["parts", "found", "part"], ⟨1, 3, [(.set (.nm 1) (.tup [])), (.for_ (.nm 2) (.seq (.var 0)) d__law_flat_l0), (.ret (.var 1))]⟩⟩
def d__law_origin_l0 : List PI.St := [(.ite (.cmp .ne (.var 6) (.tup [])) [(.ret (.tup [(.idx (.var 1) (.int 0)), (.var 4), (.var 5)]))] [])]
def d__law_origin : Def := ⟨"_law_origin", ["known", "box", "way", "case"], ["known", "box", "way", "case", "source_so", "parts", "symbols"], ⟨4, 7, [(.for_ (.tp [(.nm 4), (.nm 5), (.nm 6)]) (.seq (.call 99 false [(.var 0), (.var 1), (.var 2), (.var 3)])) d__law_origin_l0), (.ret (.tup [(.idx (.var 1) (.int 0)), (.str [110, 111, 110, 101]), (.tup [])]))]⟩⟩
def d__law_parts_right_c0 : PI.E := (.comp false (.nm 9) (.seq (.var 7)) (.bl true) (.idx (.var 9) (.int 0)) [9])
def d__law_parts_right_c1 : PI.E := (.comp false (.nm 10) (.seq (.idx (.var 0) (.int 4))) (.cmp .isin (.var 10) (.var 2)) (.var 10) [10])
def d__law_parts_right_l0 : List PI.St := [(.ite (.and (.call 40 false [(.var 8)]) (.cmp .ne (.idx (.var 8) (.int 0)) (.idx (.var 9) (.int 0)))) [(.ret (.bl false))] []), (.ite (.and (.not (.call 40 false [(.var 8)])) (.cmp .ne (.var 9) (.call 76 false [(.lst false [(.var 8)]), (.idx (.var 3) (.int 0))]))) [(.ret (.bl false))] [])]
def d__law_parts_right : Def := ⟨"_law_parts_right", ["box", "node", "known", "case"], ["box", "node", "known", "case", "pieces", "ident", "source_so", "parts", "item", "part", "one"], ⟨4, 11, [(.set (.tp [(.nm 5), (.nm 6), (.nm 7)]) (.var 1)), (.ite (.cmp .eq (.var 6) (.str [98, 121])) [(.ret (.cmp .eq d__law_parts_right_c0 d__law_parts_right_c1))] []), (.ite (.cmp .eq (.var 6) (.str [105, 110, 115, 105, 100, 101])) [(.ite (.or (.cmp .ne (.b1 .len (.var 7)) (.b1 .len (.idx (.var 0) (.int 6)))) (.cmp .ne (.call 76 false [(.lst false [(.idx (.var 0) (.int 3))]), (.idx (.var 3) (.int 0))]) (.tup []))) [(.ret (.bl false))] []), (.for_ (.tp [(.nm 8), (.nm 9)]) (.zip (.idx (.var 0) (.int 6)) (.var 7)) d__law_parts_right_l0), (.ret (.bl true))] []), (.ite (.cmp .eq (.var 6) (.str [104, 105, 100, 100, 101, 110])) [(.ret (.and (.cmp .eq (.var 7) (.tup [])) (.call 41 false [(.idx (.var 0) (.int 2)), (.idx (.var 3) (.int 1))])))] []), (.ite (.and (.cmp .eq (.var 6) (.str [116, 105, 112])) (.cmp .ne (.call 76 false [(.lst false [(.idx (.var 0) (.int 3))]), (.idx (.var 3) (.int 0))]) (.tup []))) [(.ret (.bl false))] []), (.set (.nm 4) (.dct false [[108, 97, 98, 101, 108], [116, 105, 112], [118, 97, 108, 117, 101], [110, 111, 110, 101]] [(.lst false [(.idx (.var 0) (.int 3))]), (.lst false [(.idx (.var 0) (.int 5))]), (.idx (.var 0) (.int 6)), (.lst false [])])), (.ret (.and (.cmp .isin (.var 6) (.var 4)) (.cmp .eq (.var 7) (.call 76 false [(.idx (.var 4) (.var 6)), (.idx (.var 3) (.int 0))]))))]⟩⟩
def d__law_tree_right_c0 : PI.E := (.comp false (.nm 7) (.seq (.idx (.var 4) (.int 2))) (.and (.cmp .eq (.b1 .len (.var 7)) (.int 3)) (.isi (.idx (.var 7) (.int 2)) [.tup])) (.var 7) [7])
def d__law_tree_right_c1 : PI.E := (.comp false (.nm 7) (.seq (.var 6)) (.bl true) (.tup [(.var 7), (.or (.var 5) (.cmp .eq (.idx (.var 4) (.int 1)) (.str [98, 121])))]) [7])
def d__law_tree_right_i0 : PI.St := (.ite (.cmp .isin (.idx (.var 4) (.int 1)) (.tup [(.str [98, 121]), (.str [105, 110, 115, 105, 100, 101])])) [(.set (.nm 6) d__law_tree_right_c0), (.set (.nm 3) (.cat true (.var 3) d__law_tree_right_c1))] [])
def d__law_tree_right_l0 : List PI.St := [(.set (.tp [(.nm 4), (.nm 5)]) (.pop0 (.var 3))), (.ite (.or (.and (.cmp .eq (.idx (.var 4) (.int 1)) (.str [98, 121])) (.var 5)) (.not (.call 103 false [(.idx (.idx (.var 1) (.idx (.var 4) (.int 0))) (.int 0)), (.var 4), (.var 1), (.var 2)]))) [(.ret (.bl false))] []), d__law_tree_right_i0]
def d__law_tree_right : Def := ⟨"_law_tree_right", ["whole", "known", "case"], ["whole", "known", "case", "nodes", "node", "through", "inner", "part"], ⟨3, 8, [(.set (.nm 3) (.lst true [(.tup [(.var 0), (.bl false)])])), (.while_ (.eqL true (.var 3) (.lst false [])) d__law_tree_right_l0), (.ret (.bl true))]⟩⟩
def d_subsets_c0 : PI.E := (.comp false (.nm 3) (.seq (.var 1)) (.bl true) (.bin .add (.var 3) (.tup [(.var 2)])) [3])
def d_subsets_l0 : List PI.St := [(.set (.nm 1) (.bin .add (.var 1) d_subsets_c0))]
def d_subsets : Def := ⟨"subsets", ["idents"], ["idents", "found", "ident", "row"], ⟨1, 4, [(.set (.nm 1) (.lst false [(.tup [])])), (.for_ (.nm 2) (.seq (.var 0)) d_subsets_l0), (.ret (.var 1))]⟩⟩
def d_first_parting_l0 : List PI.St := [(.ite (.cmp .ne (.call 89 false [(.var 0), (.var 4), (.var 5)]) (.call 89 false [(.var 1), (.var 4), (.var 5)])) [(.ret (.tup [(.var 4), (.var 5)]))] [])]
def d_first_parting : Def := ⟨"first_parting", ["one", "other"], ["one", "other", "hole_ids", "switch_ids", "filled", "on"], ⟨2, 6, [(.set (.nm 2) (.b1 .sset (.bin .add (.call 9 false [(.var 0)]) (.call 9 false [(.var 1)])))), (.set (.nm 3) (.b1 .sset (.bin .add (.call 10 false [(.var 0)]) (.call 10 false [(.var 1)])))), (.ite (.cmp .gt (.bin .add (.b1 .len (.var 2)) (.b1 .len (.var 3))) (.glob 2 g_MOST_IDS)) [.raise] []), (.for_ (.tp [(.nm 4), (.nm 5)]) (.seq (.call 107 false [(.var 2), (.var 3)])) d_first_parting_l0), (.ret .non)]⟩⟩
def d_parting : Def := ⟨"parting", ["one", "other"], ["one", "other"], ⟨2, 2, [(.ex (.call 35 false [(.var 0)])), (.ex (.call 35 false [(.var 1)])), (.ret (.call 108 false [(.var 0), (.var 1)]))]⟩⟩
def d_alike : Def := ⟨"alike", ["one", "other"], ["one", "other"], ⟨2, 2, [(.ret (.isN (.call 109 false [(.var 0), (.var 1)])))]⟩⟩
def d__law_exchanged_l0 : List PI.St := [(.ite (.and (.call 40 false [(.var 4)]) (.cmp .eq (.idx (.var 4) (.int 0)) (.var 1))) [(.set (.nm 3) (.bin .add (.var 3) (.var 2)))] [(.ite (.call 40 false [(.var 4)]) [(.set (.nm 3) (.bin .add (.var 3) (.tup [(.bin .add (.slice false (.var 4) .non (.int 6)) (.tup [(.call 111 false [(.idx (.var 4) (.int 6)), (.var 1), (.var 2)])]))])))] [(.set (.nm 3) (.bin .add (.var 3) (.tup [(.var 4)])))])])]
def d__law_exchanged : Def := ⟨"_law_exchanged", ["items", "ident", "parts"], ["items", "ident", "parts", "found", "item"], ⟨3, 5, [(.set (.nm 3) (.tup [])), (.for_ (.nm 4) (.seq (.var 0)) d__law_exchanged_l0), (.ret (.var 3))]⟩⟩
def d__law_parting_l0 : List PI.St := [(.ite (.cmp .ne (.call 91 false [(.var 0), (.var 4)]) (.call 91 false [(.var 1), (.var 4)])) [(.ret (.var 4))] [])]
def d__law_parting : Def := ⟨"_law_parting", ["one", "other"], ["one", "other", "hole_ids", "switch_ids", "case"], ⟨2, 5, [(.set (.nm 2) (.b1 .sset (.bin .add (.call 44 false [(.var 0)]) (.call 44 false [(.var 1)])))), (.set (.nm 3) (.b1 .sset (.bin .add (.call 45 false [(.var 0)]) (.call 45 false [(.var 1)])))), (.for_ (.nm 4) (.seq (.call 81 false [(.var 2), (.var 3)])) d__law_parting_l0), (.ret .non)]⟩⟩
def d_law__k12_l0 : List PI.St := [(.set (.nm 6) (.call 114 false [(.var 3), (.var 5)])), (.ite (.or (.cmp .ne (.call 109 false [(.var 3), (.var 5)]) (.var 6)) (.cmp .ne (.call 109 false [(.var 5), (.var 3)]) (.var 6))) [(.ret (.bl false))] []), (.ite (.or (.cmp .ne (.call 110 false [(.var 3), (.var 5)]) (.isN (.var 6))) (.not (.isi (.call 110 false [(.var 3), (.var 5)]) [.bool]))) [(.ret (.bl false))] [])]
def d_law__k12_l1 : List PI.St := [(.set (.nm 2) (.call 12 true [(.var 0), (.var 1)])), (.set (.nm 3) (.call 23 false [(.var 2), (.int 5), (.int 2), (.int 1), (.int 2)])), (.set (.nm 4) (.call 113 false [(.var 2), (.var 3)])), (.for_ (.nm 5) (.seq (.tup [(.var 4), (.call 113 false [(.var 2), (.var 4)]), (.call 23 false [(.var 2), (.int 2), (.int 1), (.int 1), (.int 0)])])) d_law__k12_l0), (.ite (.or (.isB true (.call 110 false [(.var 3), (.var 3)]) true) (.notN (.call 109 false [(.var 4), (.var 4)]))) [(.ret (.bl false))] [])]
def d_law__k12 : Def := ⟨"law", ["script"], ["script", "k", "source", "page", "near", "other", "due"], ⟨1, 7, [(.for_ (.nm 1) (.rng1 (.bin .add (.int 1) (.b2 .min (.b1 .len (.var 0)) (.int 4)))) d_law__k12_l1), (.ret (.bl true))]⟩⟩
def d__law_free_id_l0 : List PI.St := [(.set (.nm 1) (.bin .add (.bin .add (.var 1) (.lst false [(.var 3)])) (.b1 (.lst false) (.idx (.idx (.idx (.var 2) (.var 3)) (.int 0)) (.int 4)))))]
def d__law_free_id_c0 : PI.E := (.comp false (.nm 6) (.seq (.var 4)) (.bl true) (.bin .add (.str [119]) (.var 6)) [6])
def d__law_free_id_c1 : PI.E := (.comp false (.nm 6) (.seq (.var 4)) (.bl true) (.bin .add (.str [119, 120]) (.var 6)) [6])
def d__law_free_id_c2 : PI.E := (.comp false (.nm 6) (.seq (.var 4)) (.bl true) (.bin .add (.bin .mul (.str [119]) (.int 7)) (.var 6)) [6])
def d__law_free_id_c3 : PI.E := (.comp false (.nm 3) (.seq (.var 5)) (.cmp .notin (.var 3) (.var 1)) (.var 3) [3])
def d__law_free_id : Def := ⟨"_law_free_id", ["page"], ["page", "used", "known", "ident", "letters", "free", "letter"], ⟨1, 7, [(.set (.nm 1) (.b1 (.lst false) (.bin .add (.call 44 false [(.var 0)]) (.call 45 false [(.var 0)])))), (.set (.nm 2) (.call 42 false [(.var 0), (.tup [])])), (.for_ (.nm 3) (.seq (.var 2)) d__law_free_id_l0), (.set (.nm 4) (.str [97, 98, 99, 100, 101, 102, 103, 104, 105, 106, 107, 108, 109, 110, 111, 112, 113, 114, 115, 116, 117, 118, 119, 120, 121, 122])), (.set (.nm 5) (.bin .add d__law_free_id_c0 d__law_free_id_c1)), (.set (.nm 5) (.bin .add (.var 5) d__law_free_id_c2)), (.ret (.idx d__law_free_id_c3 (.int 0)))]⟩⟩
def d__law_grouped : Def := ⟨"_law_grouped", ["source", "items", "ident"], ["source", "items", "ident", "first", "last", "group"], ⟨3, 6, [(.set (.nm 3) (.call 13 false [(.var 0), (.bin .add (.b1 .len (.var 1)) (.int 1))])), (.set (.nm 4) (.bin .add (.var 3) (.call 13 false [(.var 0), (.bin .add (.bin .sub (.b1 .len (.var 1)) (.var 3)) (.int 1))]))), (.set (.nm 5) (.tup [(.var 2), (.str [103, 114, 111, 117, 112]), (.bl false), .non, (.tup []), .non, (.slice false (.var 1) (.var 3) (.var 4))])), (.ret (.bin .add (.bin .add (.slice false (.var 1) .non (.var 3)) (.tup [(.var 5)])) (.slice false (.var 1) (.var 4) .non)))]⟩⟩
def d_law__k14_i0 : PI.St := (.ite (.cmp .notin (.idx (.var 9) (.int 1)) (.tup [(.str [102, 105, 101, 108, 100]), (.str [105, 109, 97, 103, 101])])) [(.set (.nm 10) (.bin .add (.slice false (.var 9) .non (.int 6)) (.tup [(.call 118 false [(.var 2), (.idx (.var 9) (.int 6)), (.var 8)])]))), (.ex (.append (.var 5) (.call 111 false [(.var 3), (.var 6), (.tup [(.var 10)])])))] [])
def d_law__k14_l0 : List PI.St := [(.set (.nm 9) (.idx (.idx (.var 7) (.var 6)) (.int 0))), d_law__k14_i0]
def d_law__k14_l1 : List PI.St := [(.ite (.and (.call 11 false [(.var 6)]) (.not (.call 119 false [(.var 3), (.var 6), (.var 4)]))) [(.ret (.bl false))] [])]
def d_law__k14_l2 : List PI.St := [(.set (.nm 2) (.call 12 true [(.var 0), (.var 1)])), (.set (.nm 3) (.call 23 false [(.var 2), (.int 6), (.int 2), (.int 2), (.int 2)])), (.par [7, 8] [(.call 42 false [(.var 3), (.tup [])]), (.call 117 false [(.var 3)])]), (.set (.nm 4) (.call 82 false [(.var 2), (.var 3)])), (.set (.nm 5) (.lst true [(.call 118 false [(.var 2), (.var 3), (.var 8)]), (.bin .add (.var 3) (.tup [(.tup [(.var 8), (.str [103, 114, 111, 117, 112]), (.bl false), .non, (.tup []), .non, (.tup [])])]))])), (.for_ (.nm 6) (.seq (.var 7)) d_law__k14_l0), (.for_ (.nm 6) (.seq (.var 5)) d_law__k14_l1)]
def d_law__k14 : Def := ⟨"law", ["script"], ["script", "k", "source", "page", "case", "others", "other", "known", "ident", "box", "more"], ⟨1, 11, [(.for_ (.nm 1) (.rng1 (.bin .add (.int 1) (.b2 .min (.b1 .len (.var 0)) (.int 6)))) d_law__k14_l2), (.ret (.bl true))]⟩⟩
def d__law_inserted : Def := ⟨"_law_inserted", ["source", "items", "item"], ["source", "items", "item", "at"], ⟨3, 4, [(.set (.nm 3) (.call 13 false [(.var 0), (.bin .add (.b1 .len (.var 1)) (.int 1))])), (.ret (.bin .add (.bin .add (.slice false (.var 1) .non (.var 3)) (.tup [(.var 2)])) (.slice false (.var 1) (.var 3) .non)))]⟩⟩
def d__law_hidden_box_c0 : PI.E := (.comp false (.nm 8) (.rng1 (.call 13 false [(.var 0), (.int 3)])) (.bl true) (.call 14 false [(.var 0), (.bin .add (.var 2) (.lst false [(.var 3)]))]) [8])
def d__law_hidden_box : Def := ⟨"_law_hidden_box", ["source", "page", "used"], ["source", "page", "used", "ident", "other", "by", "inner", "kind", "turn"], ⟨3, 9, [(.set (.nm 3) (.call 117 false [(.var 1)])), (.set (.nm 4) (.call 117 false [(.bin .add (.var 1) (.tup [(.tup [(.var 3), (.str [105, 109, 97, 103, 101]), (.bl true), .non, (.tup []), .non, (.tup [])])]))])), (.set (.nm 5) (.b1 .tup d__law_hidden_box_c0)), (.set (.nm 6) (.tup [(.var 4), (.str [98, 117, 116, 116, 111, 110]), (.call 14 false [(.var 0), (.lst false [(.bl false), (.bl true), (.tup [(.str [111, 102, 102]), (.str [113, 113, 113])])])]), .non, (.var 5), (.str [116, 105, 112]), (.tup [(.tup [(.str [104, 111, 108, 101]), (.str [113, 113])])])])), (.set (.nm 7) (.call 14 false [(.var 0), (.lst false [(.str [103, 114, 111, 117, 112]), (.str [108, 105, 110, 107]), (.str [104, 101, 97, 100, 105, 110, 103])])])), (.ret (.tup [(.var 3), (.var 7), (.bl true), (.call 14 false [(.var 0), (.lst false [.non, (.str [108, 97, 98, 101, 108])])]), (.var 5), (.str [116, 105, 112]), (.tup [(.str [116, 101, 120, 116]), (.var 6)])]))]⟩⟩
def d__law_piece_called : Def := ⟨"_law_piece_called", ["piece", "spots"], ["piece", "spots"], ⟨2, 2, [(.ret (.ife (.isi (.var 0) [.tup]) (.tup [(.str [104, 111, 108, 101]), (.idx (.var 1) (.idx (.var 0) (.int 1)))]) (.var 0)))]⟩⟩
def d__law_all_called_c0 : PI.E := (.comp false (.nm 12) (.seq (.idx (.var 5) (.int 4))) (.bl true) (.get2 (.var 1) (.var 12) (.var 12)) [12])
def d__law_all_called_l0 : List PI.St := [(.ite (.call 40 false [(.var 5)]) [(.par [10, 11] [(.call 124 false [(.idx (.var 5) (.int 3)), (.var 2)]), (.call 124 false [(.idx (.var 5) (.int 5)), (.var 2)])]), (.set (.nm 6) (.ife (.isi (.idx (.var 5) (.int 2)) [.tup]) (.tup [(.str [111, 102, 102]), (.idx (.var 3) (.idx (.idx (.var 5) (.int 2)) (.int 1)))]) (.idx (.var 5) (.int 2)))), (.set (.nm 7) (.b1 .tup d__law_all_called_c0)), (.set (.nm 8) (.call 125 false [(.idx (.var 5) (.int 6)), (.var 1), (.var 2), (.var 3)])), (.set (.nm 9) (.tup [(.idx (.var 1) (.idx (.var 5) (.int 0))), (.idx (.var 5) (.int 1)), (.var 6), (.var 10), (.var 7), (.var 11), (.var 8)])), (.set (.nm 4) (.bin .add (.var 4) (.tup [(.var 9)])))] [(.set (.nm 4) (.bin .add (.var 4) (.tup [(.call 124 false [(.var 5), (.var 2)])])))])]
def d__law_all_called : Def := ⟨"_law_all_called", ["items", "names", "spots", "flags"], ["items", "names", "spots", "flags", "found", "item", "hidden", "by", "inside", "later", "label", "tip", "ident"], ⟨4, 13, [(.set (.nm 4) (.tup [])), (.for_ (.nm 5) (.seq (.var 0)) d__law_all_called_l0), (.ret (.var 4))]⟩⟩
def d__law_symbols_called_c0 : PI.E := (.comp false (.nm 2) (.seq (.var 0)) (.bl true) (.call 124 false [(.var 2), (.var 1)]) [2])
def d__law_symbols_called : Def := ⟨"_law_symbols_called", ["symbols", "spots"], ["symbols", "spots", "symbol"], ⟨2, 3, [(.ret (.b1 .tup d__law_symbols_called_c0))]⟩⟩
def d__law_node_called_c0 : PI.E := (.comp false (.nm 3) (.seq (.idx (.var 0) (.int 2))) (.bl true) (.call 127 false [(.var 3), (.var 1), (.var 2)]) [3])
def d__law_node_called : Def := ⟨"_law_node_called", ["node", "names", "spots"], ["node", "names", "spots", "part"], ⟨3, 4, [(.ite (.not (.and (.cmp .eq (.b1 .len (.var 0)) (.int 3)) (.isi (.idx (.var 0) (.int 2)) [.tup]))) [(.ret (.call 126 false [(.var 0), (.var 2)]))] []), (.ite (.cmp .isin (.idx (.var 0) (.int 1)) (.tup [(.str [98, 121]), (.str [105, 110, 115, 105, 100, 101])])) [(.ret (.tup [(.idx (.var 1) (.idx (.var 0) (.int 0))), (.idx (.var 0) (.int 1)), (.b1 .tup d__law_node_called_c0)]))] []), (.ret (.tup [(.idx (.var 1) (.idx (.var 0) (.int 0))), (.idx (.var 0) (.int 1)), (.call 126 false [(.idx (.var 0) (.int 2)), (.var 2)])]))]⟩⟩
def d_need_box_c0 : PI.E := (.comp false (.tp [(.nm 2), (.nm 3)]) (.seq (.call 8 false [(.var 0), (.int 1)])) (.bl true) (.idx (.var 3) (.int 0)) [2, 3])
def d_need_box : Def := ⟨"need_box", ["page", "ident"], ["page", "ident", "depth", "box"], ⟨2, 4, [(.ite (.cmp .notin (.var 1) d_need_box_c0) [.raise] [])]⟩⟩
def d_names_by_case_i0 : PI.St := (.ite (.cmp .isin (.var 1) (.var 5)) [(.setIdx (.var 2) (.tup [(.var 3), (.var 4)]) (.idx (.var 5) (.var 1)))] [])
def d_names_by_case_l0 : List PI.St := [(.set (.nm 5) (.call 131 false [(.call 63 false [(.var 0), (.var 3), (.var 4)])])), d_names_by_case_i0]
def d_names_by_case : Def := ⟨"names_by_case", ["page", "ident"], ["page", "ident", "found", "filled", "on", "names"], ⟨2, 6, [(.set (.nm 2) (.dct true [] [])), (.for_ (.tp [(.nm 3), (.nm 4)]) (.seq (.call 107 false [(.call 9 false [(.var 0)]), (.call 10 false [(.var 0)])])) d_names_by_case_l0), (.ret (.var 2))]⟩⟩
def d_with_id : Def := ⟨"with_id", ["idents", "ident"], ["idents", "ident"], ⟨2, 2, [(.ret (.b1 .tup (.b1 .sorted (.bin .add (.var 0) (.tup [(.var 1)])))))]⟩⟩
def d_matters_l0 : List PI.St := [(.set (.nm 5) (.b1 (.lst true) (.var 3))), (.ite (.cmp .notin (.var 1) (.idx (.var 3) (.var 2))) [(.setIdx (.var 5) (.var 2) (.call 133 false [(.idx (.var 3) (.var 2)), (.var 1)])), (.ite (.cmp .ne (.get2 (.var 0) (.b1 .tup (.var 5)) (.var 4)) (.var 4)) [(.ret (.bl true))] [])] [])]
def d_matters : Def := ⟨"matters", ["names", "ident", "place"], ["names", "ident", "place", "case", "symbols", "more"], ⟨3, 6, [(.for_ (.tp [(.nm 3), (.nm 4)]) (.items (.var 0)) d_matters_l0), (.ret (.bl false))]⟩⟩
def d_depends_on_c0 : PI.E := (.comp false (.nm 4) (.seq (.call 9 false [(.var 0)])) (.call 134 false [(.var 2), (.var 4), (.int 0)]) (.var 4) [4])
def d_depends_on_c1 : PI.E := (.comp false (.nm 4) (.seq (.call 10 false [(.var 0)])) (.call 134 false [(.var 2), (.var 4), (.int 1)]) (.var 4) [4])
def d_depends_on : Def := ⟨"depends_on", ["page", "box"], ["page", "box", "names", "hole_ids", "ident"], ⟨2, 5, [(.ex (.call 35 false [(.var 0)])), (.ex (.call 130 false [(.var 0), (.var 1)])), (.set (.nm 2) (.call 132 false [(.var 0), (.var 1)])), (.set (.nm 3) (.b1 .tup d_depends_on_c0)), (.ret (.tup [(.var 3), (.b1 .tup d_depends_on_c1)]))]⟩⟩
def d__law_toggled : Def := ⟨"_law_toggled", ["case", "ident", "place"], ["case", "ident", "place", "more"], ⟨3, 4, [(.ite (.cmp .isin (.var 1) (.idx (.var 0) (.var 2))) [(.ret .non)] []), (.set (.nm 3) (.b1 (.lst true) (.var 0))), (.setIdx (.var 3) (.var 2) (.b1 .tup (.b1 .sorted (.bin .add (.idx (.var 0) (.var 2)) (.tup [(.var 1)]))))), (.ret (.b1 .tup (.var 3)))]⟩⟩
def d_law__k17_c0 : PI.E := (.comp false (.nm 11) (.seq (.call 81 false [(.idx (.var 4) (.int 0)), (.idx (.var 4) (.int 1))])) (.bl true) (.tup [(.var 11), (.call 78 false [(.var 3), (.var 11)])]) [11])
def d_law__k17_i0 : PI.St := (.ite (.and (.notN (.var 12)) (.and (.cmp .isin (.var 6) (.idx (.var 5) (.var 11))) (.cmp .isin (.var 6) (.idx (.var 5) (.var 12))))) [(.ite (.cmp .ne (.idx (.idx (.var 5) (.var 11)) (.var 6)) (.idx (.idx (.var 5) (.var 12)) (.var 6))) [(.ex (.append (.var 9) (.var 10)))] [])] [])
def d_law__k17_l0 : List PI.St := [(.set (.nm 12) (.call 136 false [(.var 11), (.var 10), (.var 8)])), d_law__k17_i0]
def d_law__k17_l1 : List PI.St := [(.for_ (.nm 11) (.seq (.var 5)) d_law__k17_l0)]
def d_law__k17_l2 : List PI.St := [(.set (.nm 9) (.lst true [])), (.for_ (.nm 10) (.seq (.idx (.var 4) (.var 8))) d_law__k17_l1), (.ex (.append (.var 7) (.b1 .tup (.b1 .sset (.var 9)))))]
def d_law__k17_l3 : List PI.St := [(.set (.nm 7) (.lst true [])), (.for_ (.nm 8) (.seq (.tup [(.int 0), (.int 1)])) d_law__k17_l2), (.ite (.cmp .ne (.call 135 false [(.var 3), (.var 6)]) (.b1 .tup (.var 7))) [(.ret (.bl false))] [])]
def d_law__k17_l4 : List PI.St := [(.set (.nm 2) (.call 12 true [(.var 0), (.var 1)])), (.set (.nm 3) (.call 23 false [(.var 2), (.int 6), (.call 14 false [(.var 2), (.lst false [(.int 1), (.int 2), (.int 3)])]), (.call 14 false [(.var 2), (.lst false [(.int 1), (.int 2)])]), (.int 2)])), (.set (.nm 4) (.tup [(.call 44 false [(.var 3)]), (.call 45 false [(.var 3)])])), (.set (.nm 5) (.dictP false d_law__k17_c0)), (.for_ (.nm 6) (.seq (.call 42 false [(.var 3), (.tup [])])) d_law__k17_l3)]
def d_law__k17 : Def := ⟨"law", ["script"], ["script", "k", "source", "page", "ids", "names", "ident", "due", "place", "rows", "other", "case", "more"], ⟨1, 13, [(.for_ (.nm 1) (.rng1 (.bin .add (.int 1) (.b2 .min (.b1 .len (.var 0)) (.int 4)))) d_law__k17_l4), (.ret (.cmp .eq (.call 135 false [(.tup [(.tup [(.str [103]), (.str [103, 114, 111, 117, 112]), (.bl false), (.tup [(.str [104, 111, 108, 101]), (.str [120])]), (.tup []), .non, (.tup [])])]), (.str [103])]) (.tup [(.tup []), (.tup [])])))]⟩⟩
def d_nameless_in_c0 : PI.E := (.comp false (.tp [(.nm 4), (.nm 5)]) (.items (.var 3)) (.cmp .eq (.var 5) (.tup [])) (.var 4) [4, 5])
def d_nameless_in : Def := ⟨"nameless_in", ["page", "filled", "on"], ["page", "filled", "on", "names", "ident", "symbols"], ⟨3, 6, [(.set (.nm 3) (.call 131 false [(.call 63 false [(.var 0), (.var 1), (.var 2)])])), (.ret d_nameless_in_c0)]⟩⟩
def d_nameless_l0 : List PI.St := [(.set (.nm 3) (.call 140 false [(.var 0), (.var 1), (.var 2)])), (.ite (.cmp .ne (.var 3) (.lst false [])) [(.ret (.tup [(.var 1), (.var 2), (.var 3)]))] [])]
def d_nameless : Def := ⟨"nameless", ["page"], ["page", "filled", "on", "found"], ⟨1, 4, [(.ex (.call 35 false [(.var 0)])), (.for_ (.tp [(.nm 1), (.nm 2)]) (.seq (.call 107 false [(.call 9 false [(.var 0)]), (.call 10 false [(.var 0)])])) d_nameless_l0), (.ret .non)]⟩⟩
def d__law_bare_c0 : PI.E := (.comp false (.nm 8) (.seq (.var 4)) (.bl true) (.ife (.and (.isi (.var 8) [.str]) (.cmp .gt (.call 13 false [(.var 0), (.int 2)]) (.int 0))) .non (.var 8)) [8])
def d__law_bare_l0 : List PI.St := [(.ite (.call 40 false [(.var 3)]) [(.set (.nm 4) (.lst false [(.idx (.var 3) (.int 3)), (.idx (.var 3) (.int 5))])), (.set (.nm 4) d__law_bare_c0), (.set (.tp [(.nm 6), (.nm 7)]) (.var 4)), (.set (.nm 5) (.bin .add (.slice false (.var 3) .non (.int 3)) (.tup [(.var 6), (.idx (.var 3) (.int 4)), (.var 7)]))), (.set (.nm 2) (.bin .add (.var 2) (.tup [(.bin .add (.var 5) (.tup [(.call 142 false [(.var 0), (.idx (.var 3) (.int 6))])]))])))] [(.ite (.and (.isi (.var 3) [.str]) (.cmp .gt (.call 13 false [(.var 0), (.int 2)]) (.int 0))) [(.set (.nm 2) (.bin .add (.var 2) (.tup [(.str [32])])))] [(.set (.nm 2) (.bin .add (.var 2) (.tup [(.var 3)])))])])]
def d__law_bare : Def := ⟨"_law_bare", ["source", "page"], ["source", "page", "found", "item", "pair", "later", "label", "tip", "one"], ⟨2, 9, [(.set (.nm 2) (.tup [])), (.for_ (.nm 3) (.seq (.var 1)) d__law_bare_l0), (.ret (.var 2))]⟩⟩
def d_law__k19_c0 : PI.E := (.comp false (.nm 9) (.seq (.var 7)) (.cmp .eq (.idx (.var 7) (.var 9)) (.tup [])) (.var 9) [9])
def d_law__k19_i0 : PI.St := (.ite (.and (.isN (.var 4)) (.cmp .ne (.var 8) (.lst false []))) [(.set (.nm 4) (.bin .add (.var 5) (.tup [(.var 8)])))] [])
def d_law__k19_l0 : List PI.St := [(.set (.nm 7) (.call 78 false [(.var 3), (.var 5)])), (.set (.nm 8) d_law__k19_c0), d_law__k19_i0]
def d_law__k19_l1 : List PI.St := [(.set (.nm 2) (.call 12 true [(.var 0), (.var 1)])), (.set (.nm 3) (.call 142 false [(.var 2), (.call 23 false [(.var 2), (.int 5), (.int 3), (.int 2), (.int 2)])])), (.set (.nm 4) .non), (.for_ (.nm 5) (.seq (.call 81 false [(.call 44 false [(.var 3)]), (.call 45 false [(.var 3)])])) d_law__k19_l0), (.set (.nm 6) (.call 141 false [(.var 3)])), (.ite (.or (.cmp .ne (.var 6) (.var 4)) (.and (.notN (.var 6)) (.not (.isi (.idx (.var 6) (.int 2)) [.lst])))) [(.ret (.bl false))] []), (.ite (.notN (.call 141 false [(.tup [(.str [120]), (.tup [(.str [104, 111, 108, 101]), (.str [121])])])])) [(.ret (.bl false))] [])]
def d_law__k19 : Def := ⟨"law", ["script"], ["script", "k", "source", "page", "due", "case", "told", "names", "found", "ident"], ⟨1, 10, [(.for_ (.nm 1) (.rng1 (.bin .add (.int 1) (.b2 .min (.b1 .len (.var 0)) (.int 4)))) d_law__k19_l1), (.ret (.cmp .eq (.call 141 false [(.tup [(.tup [(.str [98]), (.str [98, 117, 116, 116, 111, 110]), (.tup [(.str [111, 102, 102]), (.str [115])]), .non, (.tup []), .non, (.tup [])])])]) (.tup [(.tup []), (.tup [(.str [115])]), (.lst false [(.str [98])])])))]⟩⟩
def d__law_within_c0 : PI.E := (.comp false (.nm 2) (.seq (.var 0)) (.cmp .notin (.var 2) (.var 1)) (.var 2) [2])
def d__law_within : Def := ⟨"_law_within", ["row", "other"], ["row", "other", "ident"], ⟨2, 3, [(.ret (.cmp .eq d__law_within_c0 (.lst false [])))]⟩⟩
def d_law__k20_c0 : PI.E := (.comp false (.nm 13) (.seq (.var 11)) (.cmp .eq (.idx (.var 11) (.var 13)) (.tup [])) (.var 13) [13])
def d_law__k20_i0 : PI.St := (.ite (.cmp .ne d_law__k20_c0 (.lst false [])) [(.ex (.append (.var 10) (.idx (.var 4) (.int 0))))] [])
def d_law__k20_l0 : List PI.St := [(.set (.nm 11) (.call 78 false [(.var 3), (.var 4)])), d_law__k20_i0]
def d_law__k20_c1 : PI.E := (.comp false (.nm 14) (.seq (.var 10)) (.call 145 false [(.var 6), (.var 14)]) (.var 14) [14])
def d_law__k20_l1 : List PI.St := [(.ite (.cmp .eq d_law__k20_c1 (.lst false [])) [(.ex (.append (.var 5) (.tup [(.b1 .len (.var 6)), (.var 6)])))] [])]
def d_law__k20_c2 : PI.E := (.comp false (.nm 15) (.seq (.var 7)) (.call 145 false [(.var 15), (.var 6)]) (.var 15) [15])
def d_law__k20_l2 : List PI.St := [(.ite (.cmp .eq d_law__k20_c2 (.lst false [])) [(.ex (.append (.var 7) (.var 6)))] [])]
def d_law__k20_l3 : List PI.St := [(.set (.nm 2) (.call 12 true [(.var 0), (.var 1)])), (.set (.nm 3) (.call 142 false [(.var 2), (.call 23 false [(.var 2), (.int 5), (.call 14 false [(.var 2), (.lst false [(.int 2), (.int 3), (.int 4)])]), (.int 1), (.int 2)])])), (.par [9, 10] [(.call 44 false [(.var 3)]), (.lst true [])]), (.for_ (.nm 4) (.seq (.call 81 false [(.var 9), (.call 45 false [(.var 3)])])) d_law__k20_l0), (.set (.nm 5) (.lst true [])), (.for_ (.nm 6) (.seq (.call 80 false [(.var 9)])) d_law__k20_l1), (.set (.nm 7) (.lst true [])), (.for_ (.tp [(.nm 12), (.nm 6)]) (.seq (.b1 .sorted (.var 5))) d_law__k20_l2), (.set (.nm 8) (.call 144 true [(.var 3)])), (.ite (.or (.eqL true (.var 8) (.var 7)) (.not (.isi (.var 8) [.lst]))) [(.ret (.bl false))] []), (.ex (.append (.var 8) (.str [109, 111, 114, 101]))), (.ite (.eqL true (.call 144 false [(.var 3)]) (.var 7)) [(.ret (.bl false))] [])]
def d_law__k20 : Def := ⟨"law", ["script"], ["script", "k", "source", "page", "case", "good", "row", "due", "found", "hole_ids", "bad", "names", "size", "ident", "fills", "less"], ⟨1, 16, [(.for_ (.nm 1) (.rng1 (.bin .add (.int 1) (.b2 .min (.b1 .len (.var 0)) (.int 4)))) d_law__k20_l3), (.ret (.and (.cmp .eq (.call 144 false [(.tup [])]) (.lst false [(.tup [])])) (.cmp .eq (.call 144 false [(.tup [(.tup [(.str [98]), (.str [105, 109, 97, 103, 101]), (.bl false), .non, (.tup []), .non, (.tup [])])])]) (.lst false []))))]⟩⟩
def d__law_rows_right_c0 : PI.E := (.comp false (.nm 8) (.seq (.var 3)) (.or (.cmp .ne (.call 147 false [(.var 1), (.var 4), (.var 8)]) (.lst false [])) (.cmp .ne (.call 147 false [(.var 1), (.var 5), (.var 8)]) (.lst false []))) (.var 8) [8])
def d__law_rows_right_c1 : PI.E := (.comp false (.nm 9) (.seq (.var 4)) (.cmp .ne (.var 9) (.var 6)) (.var 9) [9])
def d__law_rows_right_c2 : PI.E := (.comp false (.nm 8) (.seq (.var 3)) (.cmp .ne (.call 147 false [(.var 1), (.var 7), (.var 8)]) (.lst false [])) (.var 8) [8])
def d__law_rows_right_l0 : List PI.St := [(.set (.nm 7) (.b1 .tup d__law_rows_right_c1)), (.ite (.cmp .eq d__law_rows_right_c2 (.lst false [])) [(.ret (.bl false))] [])]
def d__law_rows_right_l1 : List PI.St := [(.set (.nm 5) (.b1 .tup (.b1 .sset (.bin .add (.var 4) (.call 53 false [(.var 0), (.call 44 false [(.var 1)])]))))), (.ite (.cmp .ne d__law_rows_right_c0 (.lst false [])) [(.ret (.bl false))] []), (.for_ (.nm 6) (.seq (.var 4)) d__law_rows_right_l0)]
def d__law_rows_right : Def := ⟨"_law_rows_right", ["source", "page", "rows"], ["source", "page", "rows", "turned", "row", "more", "hole", "less", "lit", "ident"], ⟨3, 10, [(.set (.nm 3) (.call 80 false [(.call 45 false [(.var 1)])])), (.for_ (.nm 4) (.seq (.var 2)) d__law_rows_right_l1), (.ret (.bl true))]⟩⟩
def d_law__k21_c0 : PI.E := (.comp false (.nm 12) (.seq (.call 147 false [(.var 3), (.var 4), (.var 9)])) (.cmp .notin (.var 12) (.var 5)) (.var 12) [12])
def d_law__k21_c1 : PI.E := (.comp false (.nm 9) (.seq (.call 80 false [(.call 45 false [(.var 3)])])) (.cmp .ne (.call 147 false [(.var 3), (.var 6), (.var 9)]) (.lst false [])) (.var 9) [9])
def d_law__k21_l0 : List PI.St := [(.set (.nm 2) (.call 12 true [(.var 0), (.var 1)])), (.set (.nm 3) (.call 142 false [(.var 2), (.call 23 false [(.var 2), (.int 5), (.int 3), (.int 1), (.int 2)])])), (.set (.tp [(.nm 8), (.nm 9)]) (.call 82 false [(.var 2), (.var 3)])), (.set (.nm 4) (.b1 .tup (.b1 .sset (.bin .add (.var 8) (.call 53 false [(.var 2), (.call 44 false [(.var 3)])]))))), (.set (.nm 5) (.call 147 false [(.var 3), (.var 8), (.var 9)])), (.ite (.cmp .ne d_law__k21_c0 (.lst false [])) [(.ret (.bl false))] []), (.par [10, 11] [(.call 141 false [(.var 3)]), (.call 144 false [(.var 3)])]), (.ite (.or (.cmp .ne (.isN (.var 10)) (.cmp .eq (.var 11) (.lst false [(.tup [])]))) (.not (.call 148 false [(.var 2), (.var 3), (.var 11)]))) [(.ret (.bl false))] []), (.ite (.and (.notN (.var 10)) (.or (.cmp .eq (.idx (.var 10) (.int 2)) (.lst false [])) (.cmp .ne (.call 147 false [(.var 3), (.idx (.var 10) (.int 0)), (.idx (.var 10) (.int 1))]) (.idx (.var 10) (.int 2))))) [(.ret (.bl false))] []), (.set (.nm 6) (.call 44 false [(.var 3)])), (.set (.nm 7) d_law__k21_c1), (.ite (.cmp .ne (.cmp .eq (.var 11) (.lst false [])) (.cmp .ne (.var 7) (.lst false []))) [(.ret (.bl false))] [])]
def d_law__k21 : Def := ⟨"law", ["script"], ["script", "k", "source", "page", "more", "before", "every", "turned", "fills", "lit", "told", "rows", "ident"], ⟨1, 13, [(.for_ (.nm 1) (.rng1 (.bin .add (.int 1) (.b2 .min (.b1 .len (.var 0)) (.int 4)))) d_law__k21_l0), (.ret (.bl true))]⟩⟩
def d_need_plain : Def := ⟨"need_plain", ["page"], ["page"], ⟨1, 1, [(.ex (.call 35 false [(.var 0)])), (.ite (.cmp .ne (.call 9 false [(.var 0)]) (.tup [])) [.raise] [])]⟩⟩
def d_labelled_items_i0 : PI.St := (.ite (.cmp .isin (.idx (.var 3) (.int 0)) (.var 1)) [(.par [4, 5] [(.idx (.var 1) (.idx (.var 3) (.int 0))), (.tup [])])] [])
def d_labelled_items_l0 : List PI.St := [(.ite (.call 5 false [(.var 3)]) [(.par [4, 5] [(.idx (.var 3) (.int 3)), (.idx (.var 3) (.int 4))]), d_labelled_items_i0, (.set (.nm 2) (.bin .add (.var 2) (.tup [(.bin .add (.slice false (.var 3) .non (.int 3)) (.tup [(.var 4), (.var 5), (.idx (.var 3) (.int 5)), (.call 151 false [(.idx (.var 3) (.int 6)), (.var 1)])]))])))] [(.set (.nm 2) (.bin .add (.var 2) (.tup [(.var 3)])))])]
def d_labelled_items : Def := ⟨"labelled_items", ["items", "labels"], ["items", "labels", "found", "item", "label", "by"], ⟨2, 6, [(.set (.nm 2) (.tup [])), (.for_ (.nm 3) (.seq (.var 0)) d_labelled_items_l0), (.ret (.var 2))]⟩⟩
def d_wished_names_l0 : List PI.St := [(.ite (.or (.cmp .notin (.var 4) (.var 3)) (.cmp .eq (.call 59 false [(.var 5)]) (.tup []))) [.raise] []), (.setIdx (.var 3) (.var 4) (.call 59 false [(.var 5)]))]
def d_wished_names : Def := ⟨"wished_names", ["page", "wishes", "on"], ["page", "wishes", "on", "names", "ident", "text"], ⟨3, 6, [(.set (.nm 3) (.call 131 true [(.call 63 false [(.var 0), (.tup []), (.var 2)])])), (.ite (.not (.call 48 false [(.var 1)])) [.raise] []), (.for_ (.tp [(.nm 4), (.nm 5)]) (.seq (.var 1)) d_wished_names_l0), (.ret (.var 3))]⟩⟩
def d__law_plain_l0 : List PI.St := [(.ite (.call 40 false [(.var 2)]) [(.set (.tp [(.nm 3), (.nm 4)]) (.call 154 false [(.tup [(.idx (.var 2) (.int 3)), (.idx (.var 2) (.int 5))])])), (.set (.nm 1) (.bin .add (.var 1) (.tup [(.bin .add (.slice false (.var 2) .non (.int 3)) (.tup [(.var 3), (.idx (.var 2) (.int 4)), (.var 4), (.call 154 false [(.idx (.var 2) (.int 6))])]))])))] [(.set (.nm 1) (.bin .add (.var 1) (.tup [(.ife (.isi (.var 2) [.tup]) (.ife (.cmp .lt (.b1 .len (.idx (.var 2) (.int 1))) (.int 5)) (.idx (.var 2) (.int 1)) (.str [])) (.var 2))])))])]
def d__law_plain : Def := ⟨"_law_plain", ["page"], ["page", "found", "item", "label", "tip"], ⟨1, 5, [(.set (.nm 1) (.tup [])), (.for_ (.nm 2) (.seq (.var 0)) d__law_plain_l0), (.ret (.var 1))]⟩⟩
def d__law_relabelled_i0 : PI.St := (.ite (.cmp .isin (.idx (.var 3) (.int 0)) (.var 1)) [(.par [5, 6] [(.idx (.var 1) (.idx (.var 3) (.int 0))), (.tup [])])] [])
def d__law_relabelled_l0 : List PI.St := [(.ite (.call 40 false [(.var 3)]) [(.par [5, 6] [(.idx (.var 3) (.int 3)), (.idx (.var 3) (.int 4))]), d__law_relabelled_i0, (.set (.nm 4) (.bin .add (.slice false (.var 3) .non (.int 3)) (.tup [(.var 5), (.var 6), (.idx (.var 3) (.int 5))]))), (.set (.nm 2) (.bin .add (.var 2) (.tup [(.bin .add (.var 4) (.tup [(.call 155 false [(.idx (.var 3) (.int 6)), (.var 1)])]))])))] [(.set (.nm 2) (.bin .add (.var 2) (.tup [(.var 3)])))])]
def d__law_relabelled : Def := ⟨"_law_relabelled", ["items", "labels"], ["items", "labels", "found", "item", "later", "label", "by"], ⟨2, 7, [(.set (.nm 2) (.tup [])), (.for_ (.nm 3) (.seq (.var 0)) d__law_relabelled_l0), (.ret (.var 2))]⟩⟩
def d__law_plain_page : Def := ⟨"_law_plain_page", ["source", "most", "refer"], ["source", "most", "refer"], ⟨3, 3, [(.ret (.call 154 false [(.call 23 false [(.var 0), (.var 1), (.int 1), (.int 1), (.var 2)])]))]⟩⟩
def d__law_wishes_l0 : List PI.St := [(.ite (.cmp .eq (.call 13 false [(.var 0), (.int 2)]) (.int 0)) [(.set (.nm 4) (.bin .add (.b1 (.lst false) (.idx (.var 1) (.call 14 false [(.var 0), (.b1 (.lst false) (.var 1))]))) (.call 75 false [(.call 17 false [(.var 0)])]))), (.set (.nm 4) (.ife (.cmp .ne (.var 4) (.lst false [])) (.slice false (.var 4) .non (.bin .add (.int 1) (.call 13 false [(.var 0), (.int 3)]))) (.lst false [(.str [110, 111, 110, 101])]))), (.set (.nm 5) (.join (.str [32]) (.var 4))), (.ex (.append (.var 2) (.tup [(.var 3), (.ife (.cmp .lt (.b1 .len (.var 5)) (.int 60)) (.var 5) (.str [108, 111, 110, 103]))])))] [])]
def d__law_wishes : Def := ⟨"_law_wishes", ["source", "names"], ["source", "names", "found", "ident", "words", "text"], ⟨2, 6, [(.set (.nm 2) (.lst true [])), (.for_ (.nm 3) (.seq (.b1 .sorted (.var 1))) d__law_wishes_l0), (.ret (.b1 .tup (.var 2)))]⟩⟩
def d__law_fewest_c0 : PI.E := (.comp false (.nm 7) (.seq (.var 1)) (.cmp .ne (.idx (.var 1) (.var 7)) (.tup [])) (.var 7) [7])
def d__law_fewest_c1 : PI.E := (.comp false (.nm 5) (.seq (.call 80 false [(.var 3)])) (.bl true) (.tup [(.b1 .len (.var 5)), (.var 5)]) [5])
def d__law_fewest_c2 : PI.E := (.comp false (.nm 7) (.seq (.var 5)) (.bl true) (.tup [(.var 7), (.join (.str [32]) (.idx (.var 1) (.var 7)))]) [7])
def d__law_fewest_l0 : List PI.St := [(.set (.nm 6) (.dictP false d__law_fewest_c2)), (.ite (.cmp .eq (.call 78 false [(.call 155 false [(.var 0), (.var 6)]), (.tup [(.tup []), (.var 2)])]) (.var 1)) [(.ret (.var 5))] [])]
def d__law_fewest : Def := ⟨"_law_fewest", ["page", "wished", "lit"], ["page", "wished", "lit", "able", "size", "row", "labels", "ident"], ⟨3, 8, [(.set (.nm 3) (.b1 .sorted d__law_fewest_c0)), (.for_ (.tp [(.nm 4), (.nm 5)]) (.seq (.b1 .sorted d__law_fewest_c1)) d__law_fewest_l0), (.ret .non)]⟩⟩
def d_relabelled_c0 : PI.E := (.comp false (.tp [(.nm 3), (.nm 4)]) (.seq (.call 8 false [(.var 0), (.int 1)])) (.bl true) (.idx (.var 4) (.int 0)) [3, 4])
def d_relabelled_c1 : PI.E := (.comp false (.tp [(.nm 5), (.nm 6)]) (.seq (.var 1)) (.bl true) (.cmp .isin (.var 5) (.var 2)) [5, 6])
def d_relabelled : Def := ⟨"relabelled", ["page", "labels"], ["page", "labels", "idents", "depth", "box", "ident", "text"], ⟨2, 7, [(.ex (.call 35 false [(.var 0)])), (.set (.nm 2) d_relabelled_c0), (.ite (.or (.not (.call 48 false [(.var 1)])) (.not (.b1 .all d_relabelled_c1))) [.raise] []), (.ret (.call 151 false [(.var 0), (.dictP false (.var 1))]))]⟩⟩
def d_occurs_c0 : PI.E := (.comp false (.nm 3) (.rng1 (.bin .add (.bin .sub (.b1 .len (.var 1)) (.var 2)) (.int 1))) (.bl true) (.cmp .eq (.slice false (.var 1) (.var 3) (.bin .add (.var 3) (.var 2))) (.var 0)) [3])
def d_occurs : Def := ⟨"occurs", ["part", "words"], ["part", "words", "size", "at"], ⟨2, 4, [(.set (.nm 2) (.b1 .len (.var 0))), (.ret (.b1 .any d_occurs_c0))]⟩⟩
def d__law_occurs_c0 : PI.E := (.comp false (.nm 2) (.rng1 (.b1 .len (.var 1))) (.and (.cmp .ne (.var 0) (.tup [])) (.cmp .eq (.slice false (.var 1) (.var 2) (.bin .add (.var 2) (.b1 .len (.var 0)))) (.var 0))) (.var 2) [2])
def d__law_occurs : Def := ⟨"_law_occurs", ["part", "words"], ["part", "words", "at"], ⟨2, 3, [(.ret (.cmp .ne d__law_occurs_c0 (.lst false [])))]⟩⟩
def d__law_few_c0 : PI.E := (.comp false (.nm 6) (.seq (.tup [(.idx (.var 3) (.int 3)), (.idx (.var 3) (.int 5))])) (.bl true) (.ife (.isN (.var 6)) .non (.call 171 false [(.var 0)])) [6])
def d__law_few_l0 : List PI.St := [(.ite (.call 40 false [(.var 3)]) [(.set (.nm 4) d__law_few_c0), (.set (.nm 5) (.bin .add (.slice false (.var 3) .non (.int 3)) (.tup [(.idx (.var 4) (.int 0)), (.idx (.var 3) (.int 4)), (.idx (.var 4) (.int 1))]))), (.set (.nm 2) (.bin .add (.var 2) (.tup [(.bin .add (.var 5) (.tup [(.call 170 false [(.var 0), (.idx (.var 3) (.int 6))])]))])))] [(.set (.nm 2) (.bin .add (.var 2) (.tup [(.call 171 false [(.var 0)])])))])]
def d__law_few : Def := ⟨"_law_few", ["source", "page"], ["source", "page", "found", "item", "pair", "later", "one"], ⟨2, 7, [(.set (.nm 2) (.tup [])), (.for_ (.nm 3) (.seq (.var 1)) d__law_few_l0), (.ret (.var 2))]⟩⟩
def d__law_some_words_c0 : PI.E := (.comp false (.nm 1) (.rng1 (.call 13 false [(.var 0), (.int 4)])) (.bl true) (.call 14 false [(.var 0), (.lst false [(.str [97]), (.str [98]), (.str [97, 98])])]) [1])
def d__law_some_words : Def := ⟨"_law_some_words", ["source"], ["source", "turn"], ⟨1, 2, [(.ret (.join (.str [32]) d__law_some_words_c0))]⟩⟩
def d__law_call_c0 : PI.E := (.comp false (.nm 6) (.seq (.var 0)) (.and (.cmp .ne (.var 6) (.var 1)) (.call 169 false [(.var 5), (.idx (.var 0) (.var 6))])) (.var 6) [6])
def d__law_call_l0 : List PI.St := [(.set (.nm 5) (.slice false (.var 2) (.var 4) (.bin .add (.var 4) (.var 3)))), (.ite (.cmp .eq d__law_call_c0 (.lst false [])) [(.ret (.var 5))] [])]
def d__law_call_l1 : List PI.St := [(.for_ (.nm 4) (.rng1 (.bin .add (.bin .sub (.b1 .len (.var 2)) (.var 3)) (.int 1))) d__law_call_l0)]
def d__law_call : Def := ⟨"_law_call", ["names", "ident"], ["names", "ident", "words", "size", "at", "part", "other"], ⟨2, 7, [(.set (.nm 2) (.idx (.var 0) (.var 1))), (.for_ (.nm 3) (.rng2 (.int 1) (.bin .add (.b1 .len (.var 2)) (.int 1))) d__law_call_l1), (.ret .non)]⟩⟩
def d__law_alone_c0 : PI.E := (.comp false (.nm 4) (.seq (.var 0)) (.call 169 false [(.var 2), (.idx (.var 0) (.var 4))]) (.var 4) [4])
def d__law_alone : Def := ⟨"_law_alone", ["names", "ident", "part"], ["names", "ident", "part", "rows", "other"], ⟨3, 5, [(.set (.nm 3) d__law_alone_c0), (.ret (.cmp .eq (.var 3) (.lst false [(.var 1)])))]⟩⟩
def d__law_first_l0 : List PI.St := [(.ite (.cmp .gt (.b1 .len (.join (.str [32]) (.cat false (.var 2) (.lst false [(.var 3)])))) (.var 1)) [(.ret (.var 2))] []), (.ex (.append (.var 2) (.var 3)))]
def d__law_first : Def := ⟨"_law_first", ["words", "width"], ["words", "width", "found", "word"], ⟨2, 4, [(.set (.nm 2) (.lst true [])), (.for_ (.nm 3) (.seq (.var 0)) d__law_first_l0), (.ret (.var 2))]⟩⟩
def d__law_ordered : Def := ⟨"_law_ordered", ["one", "two", "first", "second"], ["one", "two", "first", "second", "due"], ⟨4, 5, [(.set (.nm 4) (.lst false [(.cmp .eq (.var 2) (.var 3)), (.cmp .ne (.var 2) (.var 3)), (.cmp .lt (.var 2) (.var 3)), (.cmp .le (.var 2) (.var 3)), (.cmp .gt (.var 2) (.var 3)), (.cmp .ge (.var 2) (.var 3))])), (.ret (.cmp .eq (.lst false [(.cmp .eq (.var 0) (.var 1)), (.cmp .ne (.var 0) (.var 1)), (.cmp .lt (.var 0) (.var 1)), (.cmp .le (.var 0) (.var 1)), (.cmp .gt (.var 0) (.var 1)), (.cmp .ge (.var 0) (.var 1))]) (.var 4)))]⟩⟩
def d__wall_l0 : List PI.St := [.pass]
def d__wall : Def := ⟨"_wall", ["k"], ["k"], ⟨1, 1, [(.while_ (.bl true) d__wall_l0)]⟩⟩
def d_exchanged_l0 : List PI.St := [(.ite (.and (.call 5 false [(.var 4)]) (.cmp .eq (.idx (.var 4) (.int 0)) (.var 1))) [(.set (.nm 3) (.bin .add (.var 3) (.var 2)))] [(.ite (.call 5 false [(.var 4)]) [(.set (.nm 3) (.bin .add (.var 3) (.tup [(.bin .add (.slice false (.var 4) .non (.int 6)) (.tup [(.call 184 false [(.idx (.var 4) (.int 6)), (.var 1), (.var 2)])]))])))] [(.set (.nm 3) (.bin .add (.var 3) (.tup [(.var 4)])))])])]
def d_exchanged : Def := ⟨"exchanged", ["items", "ident", "parts"], ["items", "ident", "parts", "found", "item"], ⟨3, 5, [(.set (.nm 3) (.tup [])), (.for_ (.nm 4) (.seq (.var 0)) d_exchanged_l0), (.ret (.var 3))]⟩⟩
def d_box_of_c0 : PI.E := (.comp false (.tp [(.nm 2), (.nm 3)]) (.seq (.call 8 false [(.var 0), (.int 1)])) (.cmp .eq (.idx (.var 3) (.int 0)) (.var 1)) (.var 3) [2, 3])
def d_box_of : Def := ⟨"box_of", ["page", "ident"], ["page", "ident", "depth", "box"], ⟨2, 4, [(.ex (.call 130 false [(.var 0), (.var 1)])), (.ret (.idx d_box_of_c0 (.int 0)))]⟩⟩
def d_with_part : Def := ⟨"with_part", ["page", "ident", "place", "value"], ["page", "ident", "place", "value", "box"], ⟨4, 5, [(.set (.nm 4) (.call 185 false [(.var 0), (.var 1)])), (.ret (.call 184 false [(.var 0), (.var 1), (.tup [(.bin .add (.bin .add (.slice false (.var 4) .non (.var 2)) (.tup [(.var 3)])) (.slice false (.var 4) (.bin .add (.var 2) (.int 1)) .non))])]))]⟩⟩
def d_with_piece : Def := ⟨"with_piece", ["page", "ident", "place", "piece"], ["page", "ident", "place", "piece"], ⟨4, 4, [(.ex (.call 130 false [(.var 0), (.var 1)])), (.ite (.and (.notN (.var 3)) (.not (.call 2 false [(.var 3)]))) [.raise] []), (.ret (.call 186 false [(.var 0), (.var 1), (.var 2), (.var 3)]))]⟩⟩
def d_with_item : Def := ⟨"with_item", ["page", "around", "at", "item"], ["page", "around", "at", "item", "items", "more"], ⟨4, 6, [(.set (.nm 4) (.ife (.isN (.var 1)) (.var 0) (.idx (.call 185 false [(.var 0), (.var 1)]) (.int 6)))), (.ite (.or (.not (.isi (.var 2) [.int])) (.or (.isi (.var 2) [.bool]) (.not (.chain .le .le (.int 0) (.var 2) (.b1 .len (.var 4)))))) [.raise] []), (.set (.nm 5) (.bin .add (.bin .add (.slice false (.var 4) .non (.var 2)) (.tup [(.var 3)])) (.slice false (.var 4) (.var 2) .non))), (.ret (.ife (.isN (.var 1)) (.var 5) (.call 186 false [(.var 0), (.var 1), (.int 6), (.var 5)])))]⟩⟩
def d_after_deed : Def := ⟨"after_deed", ["page", "deed"], ["page", "deed", "word", "found"], ⟨2, 4, [(.set (.nm 2) (.idx (.var 1) (.int 0))), (.ite (.cmp .isin (.var 2) (.tup [(.str [108, 97, 98, 101, 108]), (.str [116, 105, 112])])) [(.set (.nm 3) (.call 187 false [(.var 0), (.idx (.var 1) (.int 1)), (.ife (.cmp .eq (.var 2) (.str [108, 97, 98, 101, 108])) (.int 3) (.int 5)), (.idx (.var 1) (.int 2))]))] [(.ite (.cmp .eq (.var 2) (.str [104, 105, 100, 101])) [(.ex (.call 130 false [(.var 0), (.idx (.var 1) (.int 1))])), (.ite (.not (.call 3 false [(.idx (.var 1) (.int 2))])) [.raise] []), (.set (.nm 3) (.call 186 false [(.var 0), (.idx (.var 1) (.int 1)), (.int 2), (.idx (.var 1) (.int 2))]))] [(.ite (.cmp .eq (.var 2) (.str [112, 117, 116])) [(.set (.nm 3) (.call 188 false [(.var 0), (.idx (.var 1) (.int 1)), (.idx (.var 1) (.int 2)), (.idx (.var 1) (.int 3))]))] [(.ex (.call 130 false [(.var 0), (.idx (.var 1) (.int 1))])), (.set (.nm 3) (.call 184 false [(.var 0), (.idx (.var 1) (.int 1)), (.tup [])]))])])]), (.ite (.not (.call 11 false [(.var 3)])) [.raise] []), (.ret (.var 3))]⟩⟩
def d__law_sheet_page_c0 : PI.E := (.comp false (.nm 9) (.rng1 (.int 2)) (.bl true) (.call 14 false [(.var 0), (.lst false [.non, .non, (.tup [(.str [104, 111, 108, 101]), (.str [104, 117, 101])]), (.call 17 false [(.var 0)])])]) [9])
def d__law_sheet_page_c1 : PI.E := (.comp false (.nm 9) (.rng1 (.call 14 false [(.var 0), (.lst false [(.int 0), (.int 0), (.int 1), (.int 2)])])) (.bl true) (.call 14 false [(.var 0), (.var 3)]) [9])
def d__law_sheet_page_i0 : PI.St := (.ite (.and (.cmp .notin (.var 4) (.tup [(.str [102, 105, 101, 108, 100]), (.str [105, 109, 97, 103, 101])])) (.and (.cmp .ne (.var 2) (.tup [])) (.cmp .eq (.call 13 false [(.var 0), (.int 2)]) (.int 0)))) [(.par [2, 7] [(.slice false (.var 2) .non (.neg (.int 1))), (.bin .add (.var 7) (.slice false (.var 2) (.neg (.int 1)) .non))])] [])
def d__law_sheet_page_l0 : List PI.St := [(.set (.nm 4) (.call 14 false [(.var 0), (.lst false [(.str [98, 117, 116, 116, 111, 110]), (.str [108, 105, 110, 107]), (.str [104, 101, 97, 100, 105, 110, 103]), (.str [102, 105, 101, 108, 100]), (.str [105, 109, 97, 103, 101]), (.str [103, 114, 111, 117, 112]), (.str [103, 114, 111, 117, 112])])])), (.set (.nm 5) d__law_sheet_page_c0), (.set (.nm 6) (.b1 .tup d__law_sheet_page_c1)), (.set (.nm 7) (.ife (.cmp .ne (.var 4) (.str [105, 109, 97, 103, 101])) (.slice false (.tup [(.call 17 false [(.var 0)]), (.tup [(.str [104, 111, 108, 101]), (.str [107, 105, 110])])]) .non (.call 13 false [(.var 0), (.int 3)])) (.tup []))), d__law_sheet_page_i0, (.set (.nm 8) (.call 14 false [(.var 0), (.lst false [(.bl false), (.bl false), (.bl false), (.bl true), (.tup [(.str [111, 102, 102]), (.str [115])]), (.tup [(.str [111, 102, 102]), (.str [116])])])])), (.set (.nm 2) (.bin .add (.var 2) (.tup [(.tup [(.var 1), (.var 4), (.var 8), (.idx (.var 5) (.int 0)), (.var 6), (.idx (.var 5) (.int 1)), (.var 7)])])))]
def d__law_sheet_page : Def := ⟨"_law_sheet_page", ["source"], ["source", "ident", "found", "ids", "kind", "pieces", "by", "inside", "flag", "turn"], ⟨1, 10, [(.set (.tp [(.nm 2), (.nm 3)]) (.tup [(.tup []), (.call 15 false [(.var 0), (.int 7)])])), (.for_ (.nm 1) (.seq (.slice false (.var 3) .non (.call 13 false [(.var 0), (.int 6)]))) d__law_sheet_page_l0), (.ret (.var 2))]⟩⟩
def d__law_text_of_l0 : List PI.St := [(.set (.nm 2) (.bin .add (.var 2) (.ife (.isi (.var 3) [.tup]) (.call 75 false [(.idx (.var 1) (.idx (.var 3) (.int 1)))]) (.lst false [(.var 3)]))))]
def d__law_text_of : Def := ⟨"_law_text_of", ["symbols", "texts"], ["symbols", "texts", "words", "symbol"], ⟨2, 4, [(.set (.nm 2) (.lst false [])), (.for_ (.nm 3) (.seq (.var 0)) d__law_text_of_l0), (.ret (.join (.str [32]) (.var 2)))]⟩⟩
def d__law_said_c0 : PI.E := (.comp false (.tp [(.nm 8), (.nm 9)]) (.seq (.var 6)) (.cmp .ne (.call 75 false [(.var 9)]) (.lst false [])) (.var 8) [8, 9])
def d__law_said_c1 : PI.E := (.comp false (.nm 7) (.seq (.var 3)) (.bl true) (.tup [(.var 7), (.call 191 false [(.idx (.var 3) (.var 7)), (.var 1)])]) [7])
def d__law_said : Def := ⟨"_law_said", ["state"], ["state", "texts", "fills", "names", "page", "lit", "filling", "ident", "hole", "text"], ⟨1, 10, [(.set (.tp [(.nm 4), (.nm 5), (.nm 6)]) (.var 0)), (.set (.nm 1) (.dictP false (.var 6))), (.set (.nm 2) (.b1 .tup d__law_said_c0)), (.set (.nm 3) (.call 78 false [(.var 4), (.tup [(.var 2), (.var 5)])])), (.ret (.dictP false d__law_said_c1))]⟩⟩
def d__law_change : Def := ⟨"_law_change", ["source", "page"], ["source", "page", "ids", "piece", "around", "items", "item", "at", "box", "way", "kind", "inside"], ⟨2, 12, [(.set (.nm 2) (.b1 (.lst false) (.call 42 false [(.var 1), (.tup [])]))), (.par [8, 9] [(.call 14 false [(.var 0), (.bin .add (.bin .add (.var 2) (.var 2)) (.lst false [(.str [122, 122, 122])]))]), (.call 13 false [(.var 0), (.int 7)])]), (.set (.nm 3) (.call 14 false [(.var 0), (.lst false [.non, (.tup [(.str [104, 111, 108, 101]), (.str [104, 117, 101])]), (.call 17 false [(.var 0)]), (.call 17 false [(.var 0)])])])), (.ite (.cmp .lt (.var 9) (.int 2)) [(.ret (.tup [(.idx (.lst false [(.str [108, 97, 98, 101, 108]), (.str [116, 105, 112])]) (.var 9)), (.var 8), (.var 3)]))] []), (.ite (.cmp .eq (.var 9) (.int 2)) [(.ret (.tup [(.str [104, 105, 100, 101]), (.var 8), (.call 14 false [(.var 0), (.lst false [(.bl true), (.bl false), (.tup [(.str [111, 102, 102]), (.str [115])]), (.tup [(.str [111, 102, 102]), (.str [116])])])])]))] []), (.ite (.cmp .eq (.var 9) (.int 3)) [(.ret (.tup [(.str [116, 97, 107, 101]), (.var 8)]))] []), (.set (.nm 4) (.call 14 false [(.var 0), (.bin .add (.var 2) (.lst false [.non, .non]))])), (.set (.nm 5) (.ife (.isN (.var 4)) (.var 1) (.idx (.idx (.idx (.call 42 false [(.var 1), (.tup [])]) (.var 4)) (.int 0)) (.int 6)))), (.par [10, 11] [(.call 14 false [(.var 0), (.lst false [(.str [98, 117, 116, 116, 111, 110]), (.str [103, 114, 111, 117, 112]), (.str [102, 105, 101, 108, 100])])]), (.tup [(.str [105, 110])])]), (.set (.nm 6) (.tup [(.call 14 false [(.var 0), (.bin .add (.var 2) (.lst false [(.str [110, 101, 119]), (.str [110, 101, 119, 101, 114]), (.str [113])]))]), (.var 10), (.bl false), (.var 3), (.tup []), .non, (.var 11)])), (.set (.nm 7) (.bin .add (.call 13 false [(.var 0), (.bin .add (.b1 .len (.var 5)) (.int 1))]) (.b1 .int (.cmp .eq (.call 13 false [(.var 0), (.int 12)]) (.int 0))))), (.ret (.tup [(.str [112, 117, 116]), (.var 4), (.var 7), (.call 14 false [(.var 0), (.lst false [(.var 6), (.var 6), (.var 6), (.str [116, 101, 120, 116]), (.tup [(.str [104, 111, 108, 101]), (.str [107, 105, 110])])])])]))]⟩⟩
def d__law_after_i0 : PI.St := (.ite (.and (.cmp .eq (.var 3) (.str [112, 117, 116])) (.isN (.idx (.var 1) (.int 1)))) [(.set (.nm 5) (.var 8))] [(.set (.nm 6) (.idx (.idx (.var 2) (.idx (.var 1) (.int 1))) (.int 0))), (.set (.nm 5) (.call 111 false [(.var 0), (.idx (.var 1) (.int 1)), (.tup [(.bin .add (.bin .add (.slice false (.var 6) .non (.var 7)) (.tup [(.var 8)])) (.slice false (.var 6) (.bin .add (.var 7) (.int 1)) .non))])]))])
def d__law_after : Def := ⟨"_law_after", ["page", "deed"], ["page", "deed", "known", "word", "items", "later", "box", "place", "value"], ⟨2, 9, [(.par [2, 3] [(.call 42 false [(.var 0), (.tup [])]), (.idx (.var 1) (.int 0))]), (.ite (.or (.and (.cmp .ne (.var 3) (.str [112, 117, 116])) (.cmp .notin (.idx (.var 1) (.int 1)) (.var 2))) (.and (.cmp .eq (.var 3) (.str [112, 117, 116])) (.and (.notN (.idx (.var 1) (.int 1))) (.cmp .notin (.idx (.var 1) (.int 1)) (.var 2))))) [(.ret (.tup [(.str [98, 111, 120]), (.var 0)]))] []), (.ite (.cmp .eq (.var 3) (.str [116, 97, 107, 101])) [(.ret (.tup [(.str []), (.call 111 false [(.var 0), (.idx (.var 1) (.int 1)), (.tup [])])]))] []), (.ite (.cmp .eq (.var 3) (.str [112, 117, 116])) [(.set (.nm 4) (.ife (.isN (.idx (.var 1) (.int 1))) (.var 0) (.idx (.idx (.idx (.var 2) (.idx (.var 1) (.int 1))) (.int 0)) (.int 6)))), (.ite (.not (.chain .le .le (.int 0) (.idx (.var 1) (.int 2)) (.b1 .len (.var 4)))) [(.ret (.tup [(.str [112, 108, 97, 99, 101]), (.var 0)]))] []), (.par [7, 8] [(.int 6), (.bin .add (.bin .add (.slice false (.var 4) .non (.idx (.var 1) (.int 2))) (.tup [(.idx (.var 1) (.int 3))])) (.slice false (.var 4) (.idx (.var 1) (.int 2)) .non))])] [(.par [7, 8] [(.idx (.dct false [[108, 97, 98, 101, 108], [116, 105, 112], [104, 105, 100, 101]] [(.int 3), (.int 5), (.int 2)]) (.var 3)), (.idx (.var 1) (.int 2))])]), d__law_after_i0, (.ret (.ife (.call 28 false [(.var 5)]) (.tup [(.str []), (.var 5)]) (.tup [(.str [112, 97, 103, 101]), (.var 0)])))]⟩⟩
def d__law_turned_c0 : PI.E := (.comp false (.nm 4) (.seq (.var 0)) (.cmp .notin (.var 4) (.var 1)) (.var 4) [4])
def d__law_turned : Def := ⟨"_law_turned", ["lit", "ids", "truth"], ["lit", "ids", "truth", "rest", "ident"], ⟨3, 5, [(.set (.nm 3) d__law_turned_c0), (.ret (.b1 .tup (.b1 .sorted (.bin .add (.var 3) (.ife (.var 2) (.b1 (.lst false) (.var 1)) (.lst false []))))))]⟩⟩
def d__law_all_after_l0 : List PI.St := [(.set (.tp [(.nm 4), (.nm 2)]) (.call 194 false [(.var 2), (.var 3)])), (.ite (.cmp .ne (.var 4) (.str [])) [(.ret (.tup [(.var 4), (.var 0)]))] [])]
def d__law_all_after : Def := ⟨"_law_all_after", ["page", "deeds"], ["page", "deeds", "later", "deed", "word"], ⟨2, 5, [(.set (.nm 2) (.var 0)), (.for_ (.nm 3) (.seq (.var 1)) d__law_all_after_l0), (.ret (.tup [(.str []), (.var 2)]))]⟩⟩
def d__law_pages : Def := ⟨"_law_pages", ["ids", "words"], ["ids", "words", "first", "link", "save", "go", "what"], ⟨2, 7, [(.set (.tp [(.nm 4), (.nm 5), (.nm 6)]) (.var 0)), (.set (.nm 2) (.tup [(.var 4), (.str [98, 117, 116, 116, 111, 110]), (.bl false), .non, (.tup []), (.idx (.var 1) (.int 0)), (.tup [(.idx (.var 1) (.int 1)), (.tup [(.str [104, 111, 108, 101]), (.var 6)])])])), (.set (.nm 3) (.tup [(.var 5), (.str [108, 105, 110, 107]), (.bl false), .non, (.tup [(.var 4), (.var 5)]), .non, (.tup [(.idx (.var 1) (.int 2))])])), (.ret (.tup [(.tup [(.var 2), (.var 3)]), (.tup [(.bin .add (.slice false (.var 2) .non (.int 5)) (.tup [.non, (.tup [(.idx (.var 1) (.int 1)), (.idx (.var 1) (.int 3))])])), (.var 3)])]))]⟩⟩
def d__law_second_right : Def := ⟨"_law_second_right", ["pages", "ids", "words"], ["pages", "ids", "words", "parts", "found", "whole", "wishes", "two", "save", "go", "what"], ⟨3, 11, [(.set (.tp [(.nm 7), (.tp [(.nm 8), (.nm 9), (.nm 10)])]) (.tup [(.idx (.var 0) (.int 1)), (.var 1)])), (.set (.nm 3) (.tup [(.tup [(.var 8), (.str [105, 110, 115, 105, 100, 101]), (.tup [(.tup [(.idx (.var 2) (.int 1))]), (.tup [(.idx (.var 2) (.int 3))])])]), (.tup [(.var 9), (.str [105, 110, 115, 105, 100, 101]), (.tup [(.tup [(.idx (.var 2) (.int 2))])])])])), (.set (.nm 4) (.lst true [(.cmp .eq (.call 73 false [(.var 7), (.var 9)]) (.tup [(.var 9), (.str [98, 121]), (.var 3)])), (.not (.call 110 false [(.idx (.var 0) (.int 0)), (.var 7)]))])), (.ex (.append (.var 4) (.and (.cmp .eq (.call 109 false [(.idx (.var 0) (.int 0)), (.var 7)]) (.tup [(.tup []), (.tup [])])) (.call 110 false [(.var 7), (.var 7)])))), (.set (.nm 5) (.bin .add (.bin .add (.idx (.var 2) (.int 1)) (.str [32])) (.idx (.var 2) (.int 3)))), (.ex (.append (.var 4) (.cmp .eq (.call 153 false [(.var 7), (.tup [(.tup [(.var 9), (.var 5)])])]) (.tup [(.var 9)])))), (.set (.nm 6) (.b1 .tup (.b1 .sorted (.lst false [(.tup [(.var 9), (.bin .add (.str [107, 101, 101, 112, 32]) (.idx (.var 2) (.int 2)))]), (.tup [(.var 8), (.str [107, 101, 101, 112])])])))), (.ex (.append (.var 4) (.and (.cmp .eq (.call 153 false [(.var 7), (.var 6)]) (.tup [(.var 8)])) (.cmp .eq (.call 164 false [(.var 7), (.var 8)]) (.lst false [(.var 8), (.var 9)]))))), (.ex (.append (.var 4) (.cmp .eq (.call 164 false [(.var 7), (.var 9)]) (.lst false [(.var 9)])))), (.ex (.append (.var 4) (.and (.cmp .eq (.call 167 false [(.var 7)]) (.lst false [])) (.and (.cmp .eq (.call 168 false [(.var 7), (.var 9)]) (.tup [(.idx (.var 2) (.int 2))])) (.isN (.call 168 false [(.var 7), (.var 8)])))))), (.ret (.cmp .notin (.bl false) (.var 4)))]⟩⟩
def d__law_deep_l0 : List PI.St := [(.set (.nm 1) (.tup [(.tup [(.var 2), (.str [98, 117, 116, 116, 111, 110]), (.bl false), .non, (.tup []), .non, (.var 1)])]))]
def d__law_deep : Def := ⟨"_law_deep", ["word"], ["word", "page", "letter"], ⟨1, 3, [(.set (.nm 1) (.tup [(.var 0)])), (.for_ (.nm 2) (.seq (.str [101, 100, 99, 98, 97])) d__law_deep_l0), (.ret (.var 1))]⟩⟩
def d_law__k38_l0 : List PI.St := [(.set (.nm 2) (.call 12 true [(.var 0), (.var 1)])), (.set (.nm 3) (.bin .add (.str [118]) (.idx (.call 15 false [(.var 2), (.int 1)]) (.int 0)))), (.ite (.or (.cmp .isin (.bl false) (.call 230 false [(.var 3)])) (.cmp .isin (.bl false) (.call 231 false []))) [(.ret (.bl false))] [])]
def d_law__k38 : Def := ⟨"law", ["script"], ["script", "k", "source", "word"], ⟨1, 4, [(.for_ (.nm 1) (.rng1 (.bin .add (.int 1) (.b2 .min (.b1 .len (.var 0)) (.int 4)))) d_law__k38_l0), (.ret (.bl true))]⟩⟩
def d__law_short_c0 : PI.E := (.comp false (.nm 6) (.seq (.var 3)) (.cmp .gt (.b1 .len (.var 6)) (.int 7)) (.var 6) [6])
def d__law_short_c1 : PI.E := (.comp false (.nm 7) (.seq (.idx (.idx (.idx (.var 2) (.var 6)) (.int 0)) (.int 4))) (.cmp .gt (.b1 .len (.var 7)) (.int 7)) (.var 7) [7])
def d__law_short_l0 : List PI.St := [(.set (.nm 5) (.bin .add (.var 5) d__law_short_c1))]
def d__law_short : Def := ⟨"_law_short", ["source"], ["source", "page", "known", "used", "longer", "references", "ident", "one"], ⟨1, 8, [(.set (.nm 1) (.slice false (.call 23 false [(.var 0), (.int 4), (.int 2), (.int 1), (.int 2)]) .non (.int 3))), (.set (.nm 2) (.call 42 false [(.var 1), (.tup [])])), (.set (.nm 3) (.bin .add (.b1 (.lst false) (.var 2)) (.b1 (.lst false) (.bin .add (.call 44 false [(.var 1)]) (.call 45 false [(.var 1)]))))), (.set (.nm 4) d__law_short_c0), (.set (.nm 5) (.lst false [])), (.for_ (.nm 6) (.seq (.var 2)) d__law_short_l0), (.ret (.ife (.cmp .eq (.bin .add (.var 4) (.var 5)) (.lst false [])) (.var 1) (.tup [(.str [120]), (.tup [(.str [104, 111, 108, 101]), (.str [121])])])))]⟩⟩
def d__law_called_c0 : PI.E := (.comp false (.nm 9) (.seq (.tup [(.idx (.var 3) (.int 3)), (.idx (.var 3) (.int 5))])) (.bl true) (.ife (.isi (.var 9) [.tup]) (.tup [(.str [104, 111, 108, 101]), (.bin .add (.var 1) (.idx (.var 9) (.int 1)))]) (.var 9)) [9])
def d__law_called_c1 : PI.E := (.comp false (.nm 10) (.seq (.idx (.var 3) (.int 4))) (.bl true) (.bin .add (.var 1) (.var 10)) [10])
def d__law_called_l0 : List PI.St := [(.ite (.call 40 false [(.var 3)]) [(.set (.tp [(.nm 7), (.nm 8)]) d__law_called_c0), (.set (.nm 4) (.ife (.isi (.idx (.var 3) (.int 2)) [.tup]) (.tup [(.str [111, 102, 102]), (.bin .add (.var 1) (.idx (.idx (.var 3) (.int 2)) (.int 1)))]) (.idx (.var 3) (.int 2)))), (.set (.nm 5) (.b1 .tup d__law_called_c1)), (.set (.nm 6) (.tup [(.bin .add (.var 1) (.idx (.var 3) (.int 0))), (.idx (.var 3) (.int 1)), (.var 4), (.var 7), (.var 5), (.var 8)])), (.set (.nm 2) (.bin .add (.var 2) (.tup [(.bin .add (.var 6) (.tup [(.call 234 false [(.idx (.var 3) (.int 6)), (.var 1)])]))])))] [(.set (.nm 2) (.bin .add (.var 2) (.tup [(.ife (.isi (.var 3) [.tup]) (.tup [(.str [104, 111, 108, 101]), (.bin .add (.var 1) (.idx (.var 3) (.int 1)))]) (.var 3))])))])]
def d__law_called : Def := ⟨"_law_called", ["items", "sign"], ["items", "sign", "found", "item", "flag", "by", "later", "label", "tip", "one", "ident"], ⟨2, 11, [(.set (.nm 2) (.tup [])), (.for_ (.nm 3) (.seq (.var 0)) d__law_called_l0), (.ret (.var 2))]⟩⟩
def d__law_cut_c0 : PI.E := (.comp false (.tp [(.nm 7), (.nm 8)]) (.enum (.var 4)) (.cmp .eq (.var 8) (.str [32])) (.var 7) [7, 8])
def d__law_cut_l0 : List PI.St := [(.ite (.call 40 false [(.var 4)]) [(.set (.nm 5) (.call 237 false [(.var 0), (.idx (.var 4) (.int 6)), (.or (.var 2) (.cmp .ne (.idx (.var 4) (.int 1)) (.str [103, 114, 111, 117, 112])))])), (.ex (.append (.var 3) (.bin .add (.slice false (.var 4) .non (.int 6)) (.tup [(.var 5)]))))] [(.ite (.and (.isi (.var 4) [.str]) (.and (.var 2) (.and (.cmp .isin (.str [32]) (.var 4)) (.cmp .gt (.call 13 false [(.var 0), (.int 3)]) (.int 0))))) [(.set (.nm 6) d__law_cut_c0), (.set (.nm 6) (.call 14 false [(.var 0), (.var 6)])), (.set (.nm 3) (.cat true (.var 3) (.lst false [(.slice false (.var 4) .non (.var 6)), (.slice false (.var 4) (.var 6) .non)])))] [(.ex (.append (.var 3) (.var 4)))])])]
def d__law_cut : Def := ⟨"_law_cut", ["source", "items", "inside"], ["source", "items", "inside", "found", "item", "rest", "at", "place", "sign"], ⟨3, 9, [(.set (.nm 3) (.lst true [])), (.for_ (.nm 4) (.seq (.var 1)) d__law_cut_l0), (.ret (.b1 .tup (.var 3)))]⟩⟩
def stub : Def := ⟨"", [], [], ⟨0, 0, []⟩⟩
def GD0 : List Def := [d_is_id, d_is_text, d_is_piece, d_is_flag, d_is_references, d_is_box, d_fits_box, d_fits_items, d_listed, d_holes_in, d_switches_in, d_is_page, d__law_source, d__law_draw, d__law_of, d__law_ids, d__law_word, d__law_text, d__law_piece, d__law_maybe, d__law_flag, d__law_box, d__law_items, d__law_page, d__law_is_id]
def GD1 : List Def := [stub, d__law_is_piece, d__law_is_head, d__law_is_page, d__law_odd, stub, d__law_nested, stub, d__law_edges, d_law__k01, d_need_page, stub, d_boxes, d_holes, d_switches, d__law_is_box, d__law_off, d__law_known, d__law_pieces, d__law_holes, d__law_switches, d__law_listed, d_law__k02, d_is_pairs, d_need_filling]
def GD2 : List Def := [d_filled_piece, d_filled_items, d_page_filled, d__law_some, d__law_filled, d_law__k03, d_is_case, d_need_case, d_is_off, d_words_of, d_piece_symbols, d_pieces_symbols, d_boxes_hidden, d_world_of, d_part_of, d_referred, stub, d_origin_of, d_is_origin, d_said, d_own_origin, d_shown_controls, stub, stub, stub]
def GD3 : List Def := [d__law_words, d__law_symbols, d__law_gathered, d__law_names, d_law__k04, d__law_subsets, d__law_cases, d__law_case, stub, stub, d__law_inner, stub, d_box_rows, d_item_rows, d_rows_heard, stub, d__law_heard, stub, d_spoken_text, d_filled_by, stub, d__law_told, stub, stub, d__law_sources]
def GD4 : List Def := [d__law_flat, d__law_origin, stub, d__law_parts_right, d__law_tree_right, stub, d_subsets, stub, d_first_parting, d_parting, d_alike, d__law_exchanged, stub, stub, d__law_parting, d_law__k12, stub, d__law_free_id, d__law_grouped, stub, d_law__k14, d__law_inserted, d__law_hidden_box, stub, d__law_piece_called]
def GD5 : List Def := [d__law_all_called, d__law_symbols_called, d__law_node_called, stub, stub, d_need_box, stub, d_names_by_case, d_with_id, d_matters, d_depends_on, d__law_toggled, d_law__k17, stub, stub, d_nameless_in, d_nameless, d__law_bare, d_law__k19, stub, d__law_within, d_law__k20, stub, d__law_rows_right, d_law__k21]
def GD6 : List Def := [d_need_plain, d_labelled_items, d_wished_names, stub, d__law_plain, d__law_relabelled, d__law_plain_page, d__law_wishes, d__law_fewest, stub, d_relabelled, stub, stub, stub, stub, stub, d_occurs, stub, stub, d__law_occurs, d__law_few, d__law_some_words, d__law_call, stub, d__law_alone]
def GD7 : List Def := [stub, stub, d__law_first, d__law_ordered, stub, d__wall, stub, stub, stub, d_exchanged, d_box_of, d_with_part, d_with_piece, d_with_item, d_after_deed, d__law_sheet_page, d__law_text_of, d__law_said, d__law_change, d__law_after, stub, stub, stub, d__law_turned, stub]
def GD8 : List Def := [stub, stub, d__law_all_after, stub, stub, stub, stub, stub, stub, stub, stub, stub, stub, stub, stub, stub, stub, stub, stub, stub, stub, stub, stub, d__law_pages, stub]
def GD9 : List Def := [d__law_second_right, stub, stub, d__law_deep, stub, stub, stub, d_law__k38, d__law_short, d__law_called, stub, stub, d__law_cut, stub]
def GD : List Def := GD0 ++ (GD1 ++ (GD2 ++ (GD3 ++ (GD4 ++ (GD5 ++ (GD6 ++ (GD7 ++ (GD8 ++ (GD9)))))))))
def GF : List Fn := GD.map (·.fn)
end LW
set_option Elab.async false
set_option linter.all false
/-! SP0: the interpreter, equation by equation. -/
namespace PI
open PySem
def iteV {α : Type} (x : Val) (a b : Option α) : Option α := match x with
  | .d (.bl true) => a
  | .d (.bl false) => b
  | _ => none
@[simp] theorem iteV_bl {α : Type} {c : Bool} {a b : Option α} : iteV (.d (.bl c)) a b = if c = true then a else b := by cases c <;> rfl
def isNoneV (x : Val) : Bool := match x with
  | .d .non => true
  | _ => false
@[simp] theorem isNoneV_non : isNoneV (.d .non) = true := rfl
@[simp] theorem isNoneV_str {t : T} : isNoneV (.d (.str t)) = false := rfl
@[simp] theorem isNoneV_tup {t : List D} : isNoneV (.d (.tup t)) = false := rfl
@[simp] theorem isNoneV_lst {t : List D} : isNoneV (.d (.lst t)) = false := rfl
@[simp] theorem bnd_ite {α β : Type} {c : Prop} [Decidable c] {a b : R α} {f : α → Store → Option β} : bnd (if c then a else b) f = if c then bnd a f else bnd b f := by split <;> rfl
@[simp] theorem evE_var {C : Calls} {i} {ρ : Env} {S : Store} : evE C (.var i) ρ S = ((look ρ i).map fun v => (v, S) : R Val) := by simp only [evE] <;> rfl
@[simp] theorem evE_glob {C : Calls} {u0} {d} {ρ : Env} {S : Store} : evE C (.glob u0 d) ρ S = (some (.d d, S) : R Val) := by simp only [evE] <;> rfl
@[simp] theorem evE_non {C : Calls} {ρ : Env} {S : Store} : evE C (.non) ρ S = (some (.d .non, S) : R Val) := by simp only [evE] <;> rfl
@[simp] theorem evE_bl {C : Calls} {b} {ρ : Env} {S : Store} : evE C (.bl b) ρ S = (some (.d (.bl b), S) : R Val) := by simp only [evE] <;> rfl
@[simp] theorem evE_int {C : Calls} {i} {ρ : Env} {S : Store} : evE C (.int i) ρ S = (some (.d (.int i), S) : R Val) := by simp only [evE] <;> rfl
@[simp] theorem evE_str {C : Calls} {s} {ρ : Env} {S : Store} : evE C (.str s) ρ S = (some (.d (.str s), S) : R Val) := by simp only [evE] <;> rfl
@[simp] theorem evE_tup {C : Calls} {es} {ρ : Env} {S : Store} : evE C (.tup es) ρ S = (bnd (evEs C es ρ S) fun vs S => mkT vs S : R Val) := by simp only [evE] <;> rfl
@[simp] theorem evE_lst {C : Calls} {m} {es} {ρ : Env} {S : Store} : evE C (.lst m es) ρ S = (bnd (evEs C es ρ S) fun vs S => mkL m vs S : R Val) := by simp only [evE] <;> rfl
@[simp] theorem evE_dct {C : Calls} {m} {ks} {es} {ρ : Env} {S : Store} : evE C (.dct m ks es) ρ S = (bnd (evEs C es ρ S) fun vs S => mkD m (putAll [] (ks.zip vs)) S : R Val) := by simp only [evE] <;> rfl
@[simp] theorem evE_bin {C : Calls} {o} {a} {b} {ρ : Env} {S : Store} : evE C (.bin o a b) ρ S = (bnd (evE C a ρ S) fun x S => bnd (evE C b ρ S) fun y S => match x with
    | .d x => match y with
      | .d y => (opD o x y).map fun z => (.d z, S)
      | _ => none
    | _ => none : R Val) := by simp only [evE] <;> rfl
@[simp] theorem evE_neg {C : Calls} {a} {ρ : Env} {S : Store} : evE C (.neg a) ρ S = (bnd (evE C a ρ S) fun x S => match x with
    | .d (.int i) => some (.d (.int (-i)), S)
    | _ => none : R Val) := by simp only [evE] <;> rfl
@[simp] theorem evE_cmp {C : Calls} {o} {a} {b} {ρ : Env} {S : Store} : evE C (.cmp o a b) ρ S = (bnd (evE C a ρ S) fun x S => bnd (evE C b ρ S) fun y S => match x with
    | .d x => match y with
      | .d y => (cmpD o x y).map fun z => (.d (.bl z), S)
      | _ => none
    | _ => none : R Val) := by simp only [evE] <;> rfl
@[simp] theorem evE_isN {C : Calls} {a} {ρ : Env} {S : Store} : evE C (.isN a) ρ S = (bnd (evE C a ρ S) fun x S => some (.d (.bl (isNoneV x)), S) : R Val) := by
  simp only [evE]
  refine congrArg _ (funext fun x => funext fun S => ?_)
  cases x with
  | d x => cases x <;> first | rfl | (rename_i q; cases q <;> rfl)
  | _ => rfl
@[simp] theorem evE_notN {C : Calls} {a} {ρ : Env} {S : Store} : evE C (.notN a) ρ S = (bnd (evE C a ρ S) fun x S => some (.d (.bl (!isNoneV x)), S) : R Val) := by
  simp only [evE]
  refine congrArg _ (funext fun x => funext fun S => ?_)
  cases x with
  | d x => cases x <;> first | rfl | (rename_i q; cases q <;> rfl)
  | _ => rfl
@[simp] theorem evE_chain {C : Calls} {o} {o'} {a} {b} {c} {ρ : Env} {S : Store} : evE C (.chain o o' a b c) ρ S = (bnd (evE C a ρ S) fun x S => bnd (evE C b ρ S) fun y S => match x with
    | .d x => match y with
      | .d y => match cmpD o x y with
        | some true => bnd (evE C c ρ S) fun z S => match z with
          | .d z => (cmpD o' y z).map fun r => (.d (.bl r), S)
          | _ => none
        | some false => some (.d (.bl false), S)
        | none => none
      | _ => none
    | _ => none : R Val) := by simp only [evE] <;> rfl
@[simp] theorem evE_and {C : Calls} {a} {b} {ρ : Env} {S : Store} : evE C (.and a b) ρ S = (bnd (evE C a ρ S) fun x S => iteV x (evE C b ρ S) (some (.d (.bl false), S)) : R Val) := by
  simp only [evE]
  refine congrArg _ (funext fun x => funext fun S => ?_)
  cases x with
  | d x => cases x <;> first | rfl | (rename_i q; cases q <;> rfl)
  | _ => rfl
@[simp] theorem evE_or {C : Calls} {a} {b} {ρ : Env} {S : Store} : evE C (.or a b) ρ S = (bnd (evE C a ρ S) fun x S => iteV x (some (.d (.bl true), S)) (evE C b ρ S) : R Val) := by
  simp only [evE]
  refine congrArg _ (funext fun x => funext fun S => ?_)
  cases x with
  | d x => cases x <;> first | rfl | (rename_i q; cases q <;> rfl)
  | _ => rfl
@[simp] theorem evE_not {C : Calls} {a} {ρ : Env} {S : Store} : evE C (.not a) ρ S = (bnd (evE C a ρ S) fun x S => match x with
    | .d (.bl b) => some (.d (.bl !b), S)
    | _ => none : R Val) := by simp only [evE] <;> rfl
@[simp] theorem evE_ife {C : Calls} {c} {a} {b} {ρ : Env} {S : Store} : evE C (.ife c a b) ρ S = (bnd (evE C c ρ S) fun x S => iteV x (evE C a ρ S) (evE C b ρ S) : R Val) := by
  simp only [evE]
  refine congrArg _ (funext fun x => funext fun S => ?_)
  cases x with
  | d x => cases x <;> first | rfl | (rename_i q; cases q <;> rfl)
  | _ => rfl
@[simp] theorem evE_idx {C : Calls} {a} {b} {ρ : Env} {S : Store} : evE C (.idx a b) ρ S = (bnd (evE C a ρ S) fun x S => bnd (evE C b ρ S) fun y S => (idxV x y S).map fun v => (v, S) : R Val) := by simp only [evE] <;> rfl
@[simp] theorem evE_slice {C : Calls} {m} {a} {lo} {hi} {ρ : Env} {S : Store} : evE C (.slice m a lo hi) ρ S = (bnd (evE C a ρ S) fun x S => bnd (evE C lo ρ S) fun l S => bnd (evE C hi ρ S) fun h S => match partE lo l with
    | some l => match partE hi h with
      | some h => sliceV m x l h S
      | none => none
    | none => none : R Val) := by simp only [evE] <;> rfl
@[simp] theorem evE_call {C : Calls} {f} {m} {es} {ρ : Env} {S : Store} : evE C (.call f m es) ρ S = (bnd (evEs C es ρ S) fun vs S => C f m vs S : R Val) := by simp only [evE] <;> rfl
@[simp] theorem evE_b1 {C : Calls} {b} {a} {ρ : Env} {S : Store} : evE C (.b1 b a) ρ S = (bnd (evE C a ρ S) fun x S => b1V b x S : R Val) := by simp only [evE] <;> rfl
@[simp] theorem evE_b2 {C : Calls} {b} {a} {c} {ρ : Env} {S : Store} : evE C (.b2 b a c) ρ S = (bnd (evE C a ρ S) fun x S => bnd (evE C c ρ S) fun y S => (b2V b x y).map fun v => (v, S) : R Val) := by simp only [evE] <;> rfl
@[simp] theorem evE_isi {C : Calls} {a} {ts} {ρ : Env} {S : Store} : evE C (.isi a ts) ρ S = (bnd (evE C a ρ S) fun x S => (tyVs x S ts).map fun b => (.d (.bl b), S) : R Val) := by simp only [evE] <;> rfl
@[simp] theorem evE_join {C : Calls} {a} {b} {ρ : Env} {S : Store} : evE C (.join a b) ρ S = (bnd (evE C a ρ S) fun x S => bnd (evE C b ρ S) fun y S => match x with
    | .d (.str s) => match y with
      | .d (.lst xs) => match texts xs with
        | some ts => if (ts.map List.length).sum + ts.length * s.length ≤ lim then some (.d (.str (joinT s ts)), S) else none
        | none => none
      | .d (.tup xs) => match texts xs with
        | some ts => if (ts.map List.length).sum + ts.length * s.length ≤ lim then some (.d (.str (joinT s ts)), S) else none
        | none => none
      | _ => none
    | _ => none : R Val) := by simp only [evE] <;> rfl
@[simp] theorem evE_split {C : Calls} {a} {b} {ρ : Env} {S : Store} : evE C (.split a b) ρ S = (bnd (evE C a ρ S) fun x S => bnd (evE C b ρ S) fun y S => match x with
    | .d (.str s) => match y with
      | .d (.str [c]) => if s.length + 2 ≤ lim then some (.d (.lst ((splitAt1 c s).map .str)), S) else none
      | _ => none
    | _ => none : R Val) := by simp only [evE] <;> rfl
@[simp] theorem evE_get2 {C : Calls} {a} {k} {d} {ρ : Env} {S : Store} : evE C (.get2 a k d) ρ S = (bnd (evE C a ρ S) fun x S => if isDc x S = true then bnd (evE C k ρ S) fun y S => bnd (evE C d ρ S) fun z S => (getV x y z S).map fun v => (v, S) else none : R Val) := by simp only [evE] <;> rfl
@[simp] theorem evE_cat {C : Calls} {m} {a} {b} {ρ : Env} {S : Store} : evE C (.cat m a b) ρ S = (bnd (evE C a ρ S) fun x S => bnd (evE C b ρ S) fun y S => match listV x S with
    | some xs => match listV y S with
      | some ys => if xs.length + ys.length ≤ lim then mkL m (xs ++ ys) S else none
      | none => none
    | none => none : R Val) := by simp only [evE] <;> rfl
@[simp] theorem evE_eqL {C : Calls} {ng} {a} {b} {ρ : Env} {S : Store} : evE C (.eqL ng a b) ρ S = (bnd (evE C a ρ S) fun x S => bnd (evE C b ρ S) fun y S => match dataV x S with
    | some x => match dataV y S with
      | some y => if min x.dep y.dep ≤ 60 then some (.d (.bl (D.eq x y != ng)), S) else none
      | none => none
    | none => none : R Val) := by simp only [evE] <;> rfl
@[simp] theorem evE_isB {C : Calls} {ng} {a} {b} {ρ : Env} {S : Store} : evE C (.isB ng a b) ρ S = (bnd (evE C a ρ S) fun x S => match x with
    | .d (.bl c) => some (.d (.bl ((c == b) != ng)), S)
    | _ => none : R Val) := by simp only [evE] <;> rfl
@[simp] theorem evE_append {C : Calls} {a} {e} {ρ : Env} {S : Store} : evE C (.append a e) ρ S = (bnd (evE C a ρ S) fun x S => if isL x S = true then bnd (evE C e ρ S) fun v S => (appV x v S).map fun S => (.d .non, S) else none : R Val) := by simp only [evE] <;> rfl
@[simp] theorem evE_update {C : Calls} {a} {e} {ρ : Env} {S : Store} : evE C (.update a e) ρ S = (bnd (evE C a ρ S) fun x S => if isDc x S = true then bnd (evE C e ρ S) fun v S => (updV x v S).map fun S => (.d .non, S) else none : R Val) := by simp only [evE] <;> rfl
@[simp] theorem evE_dictP {C : Calls} {m} {a} {ρ : Env} {S : Store} : evE C (.dictP m a) ρ S = (bnd (evE C a ρ S) fun x S => dictV m x S : R Val) := by simp only [evE] <;> rfl
@[simp] theorem evE_pop0 {C : Calls} {a} {ρ : Env} {S : Store} : evE C (.pop0 a) ρ S = (bnd (evE C a ρ S) fun x S => popV x none S : R Val) := by simp only [evE] <;> rfl
@[simp] theorem evE_pop1 {C : Calls} {a} {i} {ρ : Env} {S : Store} : evE C (.pop1 a i) ρ S = (bnd (evE C a ρ S) fun x S => if isL x S = true then bnd (evE C i ρ S) fun y S => popV x (some y) S else none : R Val) := by simp only [evE] <;> rfl
@[simp] theorem evI_seq {C : Calls} {a} {ρ : Env} {S : Store} : evI C (.seq a) ρ S = (bnd (evE C a ρ S) fun x S => match x with
    | .d (.tup xs) => some (xs.map .d, S)
    | .d (.lst xs) => some (xs.map .d, S)
    | .d (.str s) => if s.length ≤ lim then some (s.map fun c => .d (.str [c]), S) else none
    | .dct kvs => some (kvs.map fun p => .d (.str p.1), S)
    | _ => none : R (List Val)) := by simp only [evI] <;> rfl
@[simp] theorem evI_rng1 {C : Calls} {a} {ρ : Env} {S : Store} : evI C (.rng1 a) ρ S = (bnd (evE C a ρ S) fun x S => match x with
    | .d (.int j) => if -(2 ^ 62) ≤ j ∧ j ≤ 16777216 then some (ranged 0 j.toNat, S) else none
    | _ => none : R (List Val)) := by simp only [evI] <;> rfl
@[simp] theorem evI_rng2 {C : Calls} {a} {b} {ρ : Env} {S : Store} : evI C (.rng2 a b) ρ S = (bnd (evE C a ρ S) fun x S => bnd (evE C b ρ S) fun y S => match x with
    | .d (.int i) => match y with
      | .d (.int j) => if -(2 ^ 60) ≤ i ∧ i < 2 ^ 60 ∧ -(2 ^ 60) ≤ j ∧ j ≤ i + 16777216 then some (ranged i (j - i).toNat, S) else none
      | _ => none
    | _ => none : R (List Val)) := by simp only [evI] <;> rfl
@[simp] theorem evI_zip {C : Calls} {a} {b} {ρ : Env} {S : Store} : evI C (.zip a b) ρ S = (bnd (evE C a ρ S) fun x S => bnd (evE C b ρ S) fun y S => match x with
    | .d (.tup xs) => match y with
      | .d (.tup ys) => some (zipD xs ys, S)
      | _ => none
    | .d (.lst xs) => match y with
      | .d (.lst ys) => some (zipD xs ys, S)
      | _ => none
    | _ => none : R (List Val)) := by simp only [evI] <;> rfl
@[simp] theorem evI_enum {C : Calls} {a} {ρ : Env} {S : Store} : evI C (.enum a) ρ S = (bnd (evE C a ρ S) fun x S => match x with
    | .d (.lst xs) => some (enumD 0 xs, S)
    | _ => none : R (List Val)) := by simp only [evI] <;> rfl
@[simp] theorem evI_items {C : Calls} {a} {ρ : Env} {S : Store} : evI C (.items a) ρ S = (bnd (evE C a ρ S) fun x S => match x with
    | .dct kvs => some (itemsV kvs, S)
    | _ => none : R (List Val)) := by simp only [evI] <;> rfl
@[simp] theorem evI_vals {C : Calls} {a} {ρ : Env} {S : Store} : evI C (.vals a) ρ S = (bnd (evE C a ρ S) fun x S => match x with
    | .dct kvs => some (kvs.map (·.2), S)
    | _ => none : R (List Val)) := by simp only [evI] <;> rfl
@[simp] theorem evS_set {C : Calls} {p} {e} {ρ : Env} {S : Store} : evS C (.set p e) ρ S = (bnd (evE C e ρ S) fun v S => (bindP p v ρ).map fun ρ => .nx ρ S : Option Fl) := by simp only [evS] <;> rfl
@[simp] theorem evS_par {C : Calls} {ps} {es} {ρ : Env} {S : Store} : evS C (.par ps es) ρ S = (bnd (evEs C es ρ S) fun vs S => (setAll ps vs ρ).map fun ρ => .nx ρ S : Option Fl) := by simp only [evS] <;> rfl
@[simp] theorem evS_setIdx {C : Calls} {a} {i} {e} {ρ : Env} {S : Store} : evS C (.setIdx a i e) ρ S = (bnd (evE C e ρ S) fun v S => bnd (evE C a ρ S) fun x S => bnd (evE C i ρ S) fun y S => (setV x y v S).map fun S => .nx ρ S : Option Fl) := by simp only [evS] <;> rfl
@[simp] theorem evS_ex {C : Calls} {e} {ρ : Env} {S : Store} : evS C (.ex e) ρ S = (bnd (evE C e ρ S) fun _ S => some (.nx ρ S) : Option Fl) := by simp only [evS] <;> rfl
@[simp] theorem evS_ret {C : Calls} {e} {ρ : Env} {S : Store} : evS C (.ret e) ρ S = (bnd (evE C e ρ S) fun v S => some (.ret v S) : Option Fl) := by simp only [evS] <;> rfl
@[simp] theorem evS_ite {C : Calls} {c} {a} {b} {ρ : Env} {S : Store} : evS C (.ite c a b) ρ S = (bnd (evE C c ρ S) fun x S => iteV x (evSs C a ρ S) (evSs C b ρ S) : Option Fl) := by
  simp only [evS]
  refine congrArg _ (funext fun x => funext fun S => ?_)
  cases x with
  | d x => cases x <;> first | rfl | (rename_i q; cases q <;> rfl)
  | _ => rfl
@[simp] theorem evS_for_ {C : Calls} {p} {it} {body} {ρ : Env} {S : Store} : evS C (.for_ p it body) ρ S = (bnd (evI C it ρ S) fun xs S => evFor (bindP p) (evSs C body) xs ρ S : Option Fl) := by simp only [evS] <;> rfl
@[simp] theorem evS_while_ {C : Calls} {c} {body} {ρ : Env} {S : Store} : evS C (.while_ c body) ρ S = (evWhile (evE C c) (evSs C body) 1000000 ρ S : Option Fl) := by simp only [evS] <;> rfl
@[simp] theorem evS_brk {C : Calls} {ρ : Env} {S : Store} : evS C (.brk) ρ S = (some (.brk ρ S) : Option Fl) := by simp only [evS] <;> rfl
@[simp] theorem evS_cnt {C : Calls} {ρ : Env} {S : Store} : evS C (.cnt) ρ S = (some (.cnt ρ S) : Option Fl) := by simp only [evS] <;> rfl
@[simp] theorem evS_pass {C : Calls} {ρ : Env} {S : Store} : evS C (.pass) ρ S = (some (.nx ρ S) : Option Fl) := by simp only [evS] <;> rfl
@[simp] theorem evEs_nil {C : Calls} {ρ : Env} {S : Store} : evEs C [] ρ S = some ([], S) := by simp only [evEs]
@[simp] theorem evEs_cons {C : Calls} {e : E} {es : List E} {ρ : Env} {S : Store} : evEs C (e :: es) ρ S = bnd (evE C e ρ S) fun v S => bnd (evEs C es ρ S) fun vs S => some (v :: vs, S) := by simp only [evEs]
@[simp] theorem evSs_nil {C : Calls} {ρ : Env} {S : Store} : evSs C [] ρ S = some (.nx ρ S) := by simp only [evSs]
/-- what follows a statement -/
def thenS (r : Option Fl) (k : Env → Store → Option Fl) : Option Fl := match r with
  | some (.nx ρ S) => k ρ S
  | some (.ret v S) => some (.ret v S)
  | some (.brk ρ S) => some (.brk ρ S)
  | some (.cnt ρ S) => some (.cnt ρ S)
  | none => none
@[simp] theorem evSs_cons {C : Calls} {s : St} {ss : List St} {ρ : Env} {S : Store} : evSs C (s :: ss) ρ S = thenS (evS C s ρ S) (evSs C ss) := by simp only [evSs, thenS] <;> rfl
@[simp] theorem thenS_nx {ρ : Env} {S : Store} {k : Env → Store → Option Fl} : thenS (some (.nx ρ S)) k = k ρ S := rfl
@[simp] theorem thenS_ret {v : Val} {S : Store} {k : Env → Store → Option Fl} : thenS (some (.ret v S)) k = some (.ret v S) := rfl
@[simp] theorem thenS_brk {ρ : Env} {S : Store} {k : Env → Store → Option Fl} : thenS (some (.brk ρ S)) k = some (.brk ρ S) := rfl
@[simp] theorem thenS_cnt {ρ : Env} {S : Store} {k : Env → Store → Option Fl} : thenS (some (.cnt ρ S)) k = some (.cnt ρ S) := rfl
@[simp] theorem thenS_ite {c : Prop} [Decidable c] {a b : Option Fl} {k : Env → Store → Option Fl} : thenS (if c then a else b) k = if c then thenS a k else thenS b k := by split <;> rfl
@[simp] theorem look_0 {x : Option Val} {xs : Env} : look (x :: xs) 0 = x := rfl
@[simp] theorem look_s {x : Option Val} {xs : Env} {n : Nat} : look (x :: xs) (n + 1) = look xs n := rfl
@[simp] theorem bindP_nm {i : Nat} {v : Val} {ρ : Env} : bindP (.nm i) v ρ = some (ρ.set i (some v)) := by simp only [bindP]
@[simp] theorem bindP_tp {ps : List Pat} {xs : List D} {ρ : Env} : bindP (.tp ps) (.d (.tup xs)) ρ = bindPs ps (xs.map .d) ρ := by simp only [bindP]
@[simp] theorem bindP_vt {ps : List Pat} {xs : List Val} {ρ : Env} : bindP (.tp ps) (.vt xs) ρ = bindPs ps xs ρ := by simp only [bindP]
@[simp] theorem bindPs_nil {ρ : Env} : bindPs [] [] ρ = some ρ := by simp only [bindPs]
@[simp] theorem bindPs_cons {p : Pat} {ps : List Pat} {x : Val} {xs : List Val} {ρ : Env} : bindPs (p :: ps) (x :: xs) ρ = (match bindP p x ρ with
      | some ρ' => bindPs ps xs ρ'
      | none => none) := by simp only [bindPs] <;> rfl
@[simp] theorem setAll_nil {ρ : Env} : setAll [] [] ρ = some ρ := rfl
@[simp] theorem setAll_cons {i : Nat} {is : List Nat} {v : Val} {vs : List Val} {ρ : Env} : setAll (i :: is) (v :: vs) ρ = setAll is vs (ρ.set i (some v)) := rfl
@[simp] theorem datas_nil : datas [] = some [] := rfl
@[simp] theorem datas_cons {x : D} {xs : List Val} : datas (.d x :: xs) = (datas xs).map (x :: ·) := rfl
@[simp] theorem mkL_f {vs : List Val} {S : Store} : mkL false vs S = (match datas vs with
    | some xs => some (.d (.lst xs), S)
    | none => some (.vl vs, S)) := rfl
@[simp] theorem mkL_t {vs : List Val} {S : Store} : mkL true vs S = some (.l S.length, S ++ [.lst vs]) := rfl
@[simp] theorem mkD_f {kvs : List (T × Val)} {S : Store} : mkD false kvs S = some (.dct kvs, S) := rfl
@[simp] theorem mkD_t {kvs : List (T × Val)} {S : Store} : mkD true kvs S = some (.l S.length, S ++ [.dct kvs]) := rfl
@[simp] theorem datas_mapD {xs : List D} : datas (xs.map .d) = some xs := by
  induction xs with
  | nil => rfl
  | cons x xs ih => simp [ih]
@[simp] theorem mkT_eq {vs : List Val} {S : Store} : mkT vs S = (match datas vs with
    | some xs => some (.d (.tup xs), S)
    | none => some (.vt vs, S)) := rfl
@[simp] theorem evLc_nil {f : Val → Env → Store → R (List Val)} {ρ : Env} {S : Store} : evLc f [] ρ S = some ([], S) := rfl
@[simp] theorem evFor_nil {bind : Val → Env → Option Env} {body : Env → Store → Option Fl} {ρ : Env} {S : Store} : evFor bind body [] ρ S = some (.nx ρ S) := rfl
/-- what follows a turn of a loop -/
def forS (r : Option Fl) (k : Env → Store → Option Fl) : Option Fl := match r with
  | some (.nx ρ S) => k ρ S
  | some (.cnt ρ S) => k ρ S
  | some (.brk ρ S) => some (.nx ρ S)
  | some (.ret v S) => some (.ret v S)
  | none => none
theorem evFor_cons {bind : Val → Env → Option Env} {body : Env → Store → Option Fl} {x : Val} {xs : List Val} {ρ : Env} {S : Store} : evFor bind body (x :: xs) ρ S = (match bind x ρ with
    | some ρ => forS (body ρ S) (evFor bind body xs)
    | none => none) := by simp only [evFor, forS] <;> rfl
theorem for_step {bind : Val → Env → Option Env} {body : Env → Store → Option Fl} {x : Val} {xs : List Val} {ρ ρ1 ρ2 : Env} {S S2 : Store} {R : Option Fl} (hb : bind x ρ = some ρ1) (hs : body ρ1 S = some (.nx ρ2 S2)) (hr : evFor bind body xs ρ2 S2 = R) : evFor bind body (x :: xs) ρ S = R := by
  rw [evFor_cons, hb]
  simp only [hs]
  exact hr
@[simp] theorem forS_nx {ρ : Env} {S : Store} {k : Env → Store → Option Fl} : forS (some (.nx ρ S)) k = k ρ S := rfl
@[simp] theorem forS_cnt {ρ : Env} {S : Store} {k : Env → Store → Option Fl} : forS (some (.cnt ρ S)) k = k ρ S := rfl
@[simp] theorem forS_brk {ρ : Env} {S : Store} {k : Env → Store → Option Fl} : forS (some (.brk ρ S)) k = some (.nx ρ S) := rfl
@[simp] theorem forS_ret {v : Val} {S : Store} {k : Env → Store → Option Fl} : forS (some (.ret v S)) k = some (.ret v S) := rfl
@[simp] theorem forS_ite {c : Prop} [Decidable c] {a b : Option Fl} {k : Env → Store → Option Fl} : forS (if c then a else b) k = if c then forS a k else forS b k := by split <;> rfl
end PI
set_option Elab.async false
set_option linter.all false
set_option maxRecDepth 100000
/-! TD: pages as plain data. -/
namespace PI
open PySem
inductive Pc where
  | tx (t : T)
  | ho (t : T)
  deriving DecidableEq
inductive Fg where
  | b (x : Bool)
  | off (t : T)
  deriving DecidableEq
inductive Itm where
  | pc (p : Pc)
  | bx (id kind : T) (hid : Fg) (lab : Option Pc) (refs : List T) (tip : Option Pc) (ins : List Itm)
abbrev holeT : T := [104, 111, 108, 101]
abbrev offT : T := [111, 102, 102]
abbrev fieldT : T := [102, 105, 101, 108, 100]
abbrev imageT : T := [105, 109, 97, 103, 101]
abbrev groupT : T := [103, 114, 111, 117, 112]
abbrev buttonT : T := [98, 117, 116, 116, 111, 110]
abbrev linkT : T := [108, 105, 110, 107]
abbrev headingT : T := [104, 101, 97, 100, 105, 110, 103]
abbrev kindsT : List T := [buttonT, linkT, headingT, fieldT, imageT, groupT]
def Pc.d : Pc → D
  | .tx t => .str t
  | .ho t => .tup [.str holeT, .str t]
def Fg.d : Fg → D
  | .b x => .bl x
  | .off t => .tup [.str offT, .str t]
def opc : Option Pc → D
  | none => .non
  | some p => p.d
def sds (ts : List T) : List D := ts.map .str
mutual
def Itm.d : Itm → D
  | .pc p => p.d
  | .bx id kind hid lab refs tip ins => .tup [.str id, .str kind, hid.d, opc lab, .tup (sds refs), opc tip, .tup (Itms.ds ins)]
def Itms.ds : List Itm → List D
  | [] => []
  | i :: is => i.d :: Itms.ds is
end
mutual
/-- boxes in boxes -/
def Itm.ht : Itm → Nat
  | .pc _ => 0
  | .bx _ _ _ _ _ _ ins => Itms.ht ins + 1
def Itms.ht : List Itm → Nat
  | [] => 0
  | i :: is => max i.ht (Itms.ht is)
end
mutual
/-- how many items -/
def Itm.sz : Itm → Nat
  | .pc _ => 1
  | .bx _ _ _ _ _ _ ins => Itms.sz ins + 1
def Itms.sz : List Itm → Nat
  | [] => 0
  | i :: is => i.sz + Itms.sz is
end
mutual
/-- P holds of it and of all that is inside -/
def Itm.all (P : Itm → Prop) : Itm → Prop
  | .pc p => P (.pc p)
  | .bx id kind hid lab refs tip ins => P (.bx id kind hid lab refs tip ins) ∧ Itms.all P ins
def Itms.all (P : Itm → Prop) : List Itm → Prop
  | [] => True
  | i :: is => i.all P ∧ Itms.all P is
end
mutual
/-- the ids, in the order of the page -/
def Itm.ids : Itm → List T
  | .pc _ => []
  | .bx id _ _ _ _ _ ins => id :: Itms.ids ins
def Itms.ids : List Itm → List T
  | [] => []
  | i :: is => i.ids ++ Itms.ids is
end
def Itm.isB : Itm → Bool
  | .pc _ => false
  | .bx .. => true
theorem Itms.ds_eq : ∀ is : List Itm, Itms.ds is = is.map Itm.d
  | [] => by simp [Itms.ds]
  | i :: is => by simp [Itms.ds, Itms.ds_eq is]
@[simp] theorem Itms.ds_len (is : List Itm) : (Itms.ds is).length = is.length := by simp [Itms.ds_eq]
theorem Itms.ds_app (xs ys : List Itm) : Itms.ds (xs ++ ys) = Itms.ds xs ++ Itms.ds ys := by simp [Itms.ds_eq]
theorem Itms.all_iff {P : Itm → Prop} : ∀ {is : List Itm}, Itms.all P is ↔ ∀ i ∈ is, i.all P
  | [] => by simp [Itms.all]
  | i :: is => by simp [Itms.all, Itms.all_iff (is := is)]
theorem Itm.all_self {P : Itm → Prop} : ∀ {i : Itm}, i.all P → P i
  | .pc _, h => by simpa only [Itm.all] using h
  | .bx .., h => by
    simp only [Itm.all] at h
    exact h.1
theorem Itms.all_app {P : Itm → Prop} {xs ys : List Itm} : Itms.all P (xs ++ ys) ↔ Itms.all P xs ∧ Itms.all P ys := by
  simp only [Itms.all_iff, List.mem_append]
  exact ⟨fun h => ⟨fun i m => h i (.inl m), fun i m => h i (.inr m)⟩, fun h i m => m.elim (h.1 i) (h.2 i)⟩
theorem Itms.ids_app (xs ys : List Itm) : Itms.ids (xs ++ ys) = Itms.ids xs ++ Itms.ids ys := by
  induction xs with
  | nil => simp [Itms.ids]
  | cons x xs ih => simp [Itms.ids, ih]
theorem Itms.sz_app (xs ys : List Itm) : Itms.sz (xs ++ ys) = Itms.sz xs + Itms.sz ys := by
  induction xs with
  | nil => simp [Itms.sz]
  | cons x xs ih => simp [Itms.sz, ih]; omega
theorem Itms.ht_app (xs ys : List Itm) : Itms.ht (xs ++ ys) = max (Itms.ht xs) (Itms.ht ys) := by
  induction xs with
  | nil => simp [Itms.ht]
  | cons x xs ih => simp only [List.cons_append, Itms.ht, ih]; omega
mutual
theorem Itm.all_imp {P Q : Itm → Prop} (h : ∀ i, P i → Q i) : ∀ {i : Itm}, i.all P → i.all Q
  | .pc p, a => by
    simp only [Itm.all] at a ⊢
    exact h _ a
  | .bx .., a => by
    simp only [Itm.all] at a ⊢
    exact ⟨h _ a.1, Itms.all_imp h a.2⟩
theorem Itms.all_imp {P Q : Itm → Prop} (h : ∀ i, P i → Q i) : ∀ {is : List Itm}, Itms.all P is → Itms.all Q is
  | [], _ => trivial
  | i :: is, a => by
    simp only [Itms.all] at a ⊢
    exact ⟨Itm.all_imp h a.1, Itms.all_imp h a.2⟩
end
theorem Itms.len_le : ∀ is : List Itm, is.length ≤ Itms.sz is
  | [] => by simp [Itms.sz]
  | i :: is => by
    have := Itms.len_le is
    have : 1 ≤ i.sz := by cases i <;> simp [Itm.sz] <;> omega
    simp [Itms.sz]; omega
end PI
set_option Elab.async false
set_option linter.all false
set_option maxRecDepth 100000
set_option maxHeartbeats 2000000
namespace PI
open PySem LW
theorem callF_at {Fs : List Fn} {k f : Nat} {fn : Fn} {m : Bool} {args : List Val} {S : Store} (h : Fs[f]? = some fn) : callF Fs (k + 1) f m args S = runFn (callF Fs k) fn m args S := by
  simp only [callF, h]
theorem gf_at {i : Nat} {d : Def} (h : GD[i]? = some d) : GF[i]? = some d.fn := by unfold GF; rw [List.getElem?_map, h]; rfl
/-- the draws' two numbers -/
def srcC (a b : Int) : Cell := .lst [.d (.int a), .d (.int b)]
structure Src (S : Store) (n : Nat) (a b : Int) : Prop where
  cell : S[n]? = some (srcC a b)
  pa : 0 ≤ a
  pb : 0 ≤ b
  lb : b < 2147483648
theorem draw_ok {k n : Nat} {a b m : Int} {S : Store} (h : Src S n a b) (h1 : 1 ≤ m) (h2 : m < 1000) :
    ∃ r a' b', callF GF (k + 1) 13 false [.l n, .d (.int m)] S = some (.d (.int r), S.set n (srcC a' b')) ∧ 0 ≤ r ∧ r < m ∧ Src (S.set n (srcC a' b')) n a' b' := by
  have hn : n < S.length := by
    by_cases q : n < S.length
    · exact q
    · have := h.cell; rw [List.getElem?_eq_none (by omega)] at this; cases this
  have hat := h.cell
  unfold srcC at hat
  rw [callF_at (gf_at (d := d__law_draw) (by rfl))]
  by_cases ha : 0 < a
  · refine ⟨a % m, a / m, b, ?_, Int.emod_nonneg _ (by omega), Int.emod_lt_of_pos _ (by omega), ⟨by rw [List.getElem?_set_self hn], Int.ediv_nonneg h.pa (by omega), h.pb, h.lb⟩⟩
    have q : m < 1073741824 := by omega
    have q0 : 0 < m := by omega
    simp [runFn, d__law_draw, start, evSs, evS, evE, evEs, look, idxV, hat, L2.atI, L2.ixN, cmpD, opD, b1V, ha, bindP, setV, q, q0, okv, finish, srcC, List.take_of_length_le]
  · have e0 : a = 0 := by have := h.pa; omega
    subst e0
    have pb := h.pb
    have lb := h.lb
    have c1 : -18446744073709551616 < b := by omega
    have c2 : b < 18446744073709551616 := by omega
    have hs : ∀ x y, S[n]? = some x → (S.set n y)[n]? = some y := fun x y _ => List.getElem?_set_self hn
    let b' : Int := b * 48271 % 2147483647
    have l1 : 0 ≤ b' := Int.emod_nonneg _ (by omega)
    have l2 : b' < 2147483647 := Int.emod_lt_of_pos _ (by omega)
    have q0 : 0 < m := by omega
    refine ⟨(b' * b' % 2147483629 / 64) % m, 0, b', ?_, Int.emod_nonneg _ (by omega), Int.emod_lt_of_pos _ (by omega), ⟨by rw [List.getElem?_set_self hn], by omega, l1, by omega⟩⟩
    have c3 : -18446744073709551616 < b * 48271 % 2147483647 := by omega
    have c4 : b * 48271 % 2147483647 < 18446744073709551616 := by omega
    simp [runFn, d__law_draw, start, evSs, evS, evE, evEs, look, idxV, hat, L2.atI, L2.ixN, cmpD, opD, b1V, bindP, setV, q0, okv, finish, srcC, List.take_of_length_le, c1, c2, List.getElem?_set_self hn, c3, c4, b']
end PI
set_option Elab.async false
set_option linter.all false
set_option maxRecDepth 100000
set_option maxHeartbeats 2000000
namespace PI
open PySem LW
theorem Src.lt {S : Store} {n : Nat} {a b : Int} (h : Src S n a b) : n < S.length := by
  by_cases q : n < S.length
  · exact q
  · have := h.cell; rw [List.getElem?_eq_none (by omega)] at this; cases this
theorem atI_mem {α : Type} {xs : List α} {r : Int} (h0 : 0 ≤ r) (h1 : r < (xs.length : Nat)) : ∃ x ∈ xs, L2.atI xs r = some x := by
  have hr : r.toNat < xs.length := by omega
  refine ⟨xs[r.toNat], List.getElem_mem hr, ?_⟩
  unfold L2.atI L2.ixN
  simp [h0, h1, List.getElem?_eq_getElem hr]
/-- one of these -/
theorem of_lst {k n : Nat} {a b : Int} {xs : List D} {S : Store} (h : Src S n a b) (h1 : xs ≠ []) (h2 : xs.length < 1000) :
    ∃ x a' b', callF GF (k + 2) 14 false [.l n, .d (.lst xs)] S = some (.d x, S.set n (srcC a' b')) ∧ x ∈ xs ∧ Src (S.set n (srcC a' b')) n a' b' := by
  have hl : 0 < xs.length := List.length_pos_iff.mpr h1
  obtain ⟨r, a', b', e, r0, r1, s'⟩ := draw_ok (k := k) (m := (xs.length : Nat)) h (by omega) (by omega)
  obtain ⟨x, hx, ex⟩ := atI_mem r0 r1
  refine ⟨x, a', b', ?_, hx, s'⟩
  rw [callF_at (gf_at (d := d__law_of) (by rfl))]
  simp [runFn, d__law_of, start, evSs, evS, evE, evEs, look, idxV, lenV, b1V, itemsD, e, ex, okv, finish, List.take_of_length_le]
theorem of_str {k n : Nat} {a b : Int} {xs : List Nat} {S : Store} (h : Src S n a b) (h1 : xs ≠ []) (h2 : xs.length < 1000) :
    ∃ x a' b', callF GF (k + 2) 14 false [.l n, .d (.str xs)] S = some (.d (.str [x]), S.set n (srcC a' b')) ∧ x ∈ xs ∧ Src (S.set n (srcC a' b')) n a' b' := by
  have hl : 0 < xs.length := List.length_pos_iff.mpr h1
  obtain ⟨r, a', b', e, r0, r1, s'⟩ := draw_ok (k := k) (m := (xs.length : Nat)) h (by omega) (by omega)
  obtain ⟨x, hx, ex⟩ := atI_mem r0 r1
  refine ⟨x, a', b', ?_, hx, s'⟩
  rw [callF_at (gf_at (d := d__law_of) (by rfl))]
  have hlm : xs.length ≤ lim := by unfold lim; omega
  simp [runFn, d__law_of, start, evSs, evS, evE, evEs, look, idxV, lenV, b1V, itemsD, e, ex, okv, finish, List.take_of_length_le, hlm]
/-- a comprehension's turns, each drawing -/
theorem lc_src {f : Val → Env → Store → R (List Val)} {ρ : Env} {S : Store} {n : Nat} {P : Val → Prop} : ∀ (xs : List Val), (∀ x ∈ xs, ∀ a b, Src (S.set n (srcC a b)) n a b → ∃ y a' b', f x ρ (S.set n (srcC a b)) = some ([y], S.set n (srcC a' b')) ∧ P y ∧ Src (S.set n (srcC a' b')) n a' b') →
    ∀ a b, Src (S.set n (srcC a b)) n a b → ∃ ys a' b', evLc f xs ρ (S.set n (srcC a b)) = some (ys, S.set n (srcC a' b')) ∧ ys.length = xs.length ∧ (∀ y ∈ ys, P y) ∧ Src (S.set n (srcC a' b')) n a' b'
  | [], _, a, b, h => ⟨[], a, b, rfl, rfl, (fun y m => by cases m), h⟩
  | x :: xs, hf, a, b, h => by
    obtain ⟨y, a1, b1, e1, p1, s1⟩ := hf x List.mem_cons_self a b h
    obtain ⟨ys, a2, b2, e2, l2, p2, s2⟩ := lc_src xs (fun x m => hf x (List.mem_cons_of_mem _ m)) a1 b1 s1
    refine ⟨y :: ys, a2, b2, ?_, by simp [l2], fun z m => ?_, s2⟩
    · simp [evLc, e1, e2]
    · rcases List.mem_cons.mp m with rfl | m
      · exact p1
      · exact p2 z m
theorem Src.set_self {S : Store} {n : Nat} {a b : Int} (h : Src S n a b) : S.set n (srcC a b) = S := by
  obtain ⟨h1, h2⟩ := List.getElem?_eq_some_iff.mp h.cell
  rw [← h2]
  exact List.set_getElem_self h1
end PI
set_option Elab.async false
set_option linter.all false
set_option maxRecDepth 100000
set_option maxHeartbeats 2000000
namespace PI
open PySem LW
/-- cell n holds a source -/
def Sok (n : Nat) (S : Store) : Prop := ∃ a b, Src S n a b
/-- only the source at n has moved -/
structure Mo (n : Nat) (S S' : Store) : Prop where
  len : S'.length = S.length
  off : ∀ j, j ≠ n → S'[j]? = S[j]?
  ok : Sok n S'
theorem Mo.refl {n : Nat} {S : Store} (h : Sok n S) : Mo n S S := ⟨rfl, fun _ _ => rfl, h⟩
theorem Mo.trans {n : Nat} {S S' S'' : Store} (h : Mo n S S') (g : Mo n S' S'') : Mo n S S'' := ⟨g.len.trans h.len, fun j q => (g.off j q).trans (h.off j q), g.ok⟩
theorem Mo.take {n : Nat} {S S' : Store} (h : Mo n S S') : List.take S.length S' = S' := List.take_of_length_le (by rw [h.len]; exact Nat.le_refl _)
theorem mo_set {n : Nat} {S : Store} {a b : Int} (h : Src (S.set n (srcC a b)) n a b) : Mo n S (S.set n (srcC a b)) := ⟨by simp, fun j q => List.getElem?_set_ne (Ne.symm q), ⟨a, b, h⟩⟩
theorem draw {k n : Nat} {m : Int} {S : Store} (h : Sok n S) (h1 : 1 ≤ m) (h2 : m < 1000) :
    ∃ r S', callF GF (k + 1) 13 false [.l n, .d (.int m)] S = some (.d (.int r), S') ∧ Mo n S S' ∧ 0 ≤ r ∧ r < m := by
  obtain ⟨a, b, h⟩ := h
  obtain ⟨r, a', b', e, r0, r1, s⟩ := draw_ok (k := k) h h1 h2
  exact ⟨r, _, e, mo_set s, r0, r1⟩
theorem ofL {k n : Nat} {xs : List D} {S : Store} (h : Sok n S) (h1 : xs ≠ []) (h2 : xs.length < 1000) :
    ∃ x S', callF GF (k + 2) 14 false [.l n, .d (.lst xs)] S = some (.d x, S') ∧ Mo n S S' ∧ x ∈ xs := by
  obtain ⟨a, b, h⟩ := h
  obtain ⟨r, a', b', e, r0, s⟩ := of_lst (k := k) h h1 h2
  exact ⟨r, _, e, mo_set s, r0⟩
theorem ofT {k n : Nat} {xs : List Nat} {S : Store} (h : Sok n S) (h1 : xs ≠ []) (h2 : xs.length < 1000) :
    ∃ x S', callF GF (k + 2) 14 false [.l n, .d (.str xs)] S = some (.d (.str [x]), S') ∧ Mo n S S' ∧ x ∈ xs := by
  obtain ⟨a, b, h⟩ := h
  obtain ⟨r, a', b', e, r0, s⟩ := of_str (k := k) h h1 h2
  exact ⟨r, _, e, mo_set s, r0⟩
theorem lcM {f : Val → Env → Store → R (List Val)} {ρ : Env} {n : Nat} {P : Val → Prop} : ∀ (xs : List Val) (S0 : Store), Sok n S0 → (∀ x ∈ xs, ∀ S, Mo n S0 S → ∃ y S', f x ρ S = some ([y], S') ∧ Mo n S S' ∧ P y) →
    ∃ ys S', evLc f xs ρ S0 = some (ys, S') ∧ Mo n S0 S' ∧ ys.length = xs.length ∧ ∀ y ∈ ys, P y
  | [], S0, h, _ => ⟨[], S0, rfl, .refl h, rfl, fun y m => by cases m⟩
  | x :: xs, S0, h, hf => by
    obtain ⟨y, S1, e1, m1, p1⟩ := hf x List.mem_cons_self S0 (.refl h)
    obtain ⟨ys, S2, e2, m2, l2, p2⟩ := lcM xs S1 m1.ok fun x m S q => hf x (List.mem_cons_of_mem _ m) S (m1.trans q)
    refine ⟨y :: ys, S2, by simp [evLc, e1, e2], m1.trans m2, by simp [l2], fun z m => ?_⟩
    rcases List.mem_cons.mp m with rfl | m
    · exact p1
    · exact p2 z m
/-- with no draws -/
theorem lc_map {f : Val → Env → Store → R (List Val)} {ρ : Env} {S : Store} (g : Val → Val) : ∀ (xs : List Val), (∀ x ∈ xs, f x ρ S = some ([g x], S)) → evLc f xs ρ S = some (xs.map g, S)
  | [], _ => rfl
  | x :: xs, h => by
    have e1 := h x List.mem_cons_self
    have e2 := lc_map g xs fun x m => h x (List.mem_cons_of_mem _ m)
    simp [evLc, e1, e2]
def letters : T := [97, 98, 99, 100, 101, 102, 103, 104, 105, 106, 107, 108, 109, 110, 111, 112, 113, 114, 115, 116, 117, 118, 119, 120, 121, 122]
theorem all_str : ∀ (ys : List Val) {p : T → Prop}, (∀ y ∈ ys, ∃ t, y = .d (.str t) ∧ p t) → ∃ ts : List T, ys = (ts.map D.str).map Val.d ∧ ∀ t ∈ ts, p t
  | [], _, _ => ⟨[], rfl, fun t m => by cases m⟩
  | y :: ys, p, h => by
    obtain ⟨t, rfl, q⟩ := h y List.mem_cons_self
    obtain ⟨ts, rfl, r⟩ := all_str ys (p := p) fun y m => h y (List.mem_cons_of_mem _ m)
    exact ⟨t :: ts, rfl, fun z m => by
      rcases List.mem_cons.mp m with rfl | m
      · exact q
      · exact r z m⟩
theorem joinT_nil : ∀ ts : List T, joinT [] ts = ts.flatten
  | [] => rfl
  | [t] => by simp [joinT]
  | t :: u :: ts => by simp [joinT, joinT_nil (u :: ts)]
/-- an id: one to eight small letters -/
def idT (t : T) : Prop := 1 ≤ t.length ∧ t.length ≤ 8 ∧ ∀ c ∈ t, c ∈ letters
end PI
set_option Elab.async false
set_option linter.all false
set_option maxRecDepth 100000
set_option maxHeartbeats 2000000
namespace PI
open PySem LW
theorem all_d : ∀ (ys : List Val) {p : D → Prop}, (∀ y ∈ ys, ∃ d, y = .d d ∧ p d) → ∃ ds : List D, ys = ds.map Val.d ∧ ∀ d ∈ ds, p d
  | [], _, _ => ⟨[], rfl, fun t m => by cases m⟩
  | y :: ys, p, h => by
    obtain ⟨t, rfl, q⟩ := h y List.mem_cons_self
    obtain ⟨ts, rfl, r⟩ := all_d ys (p := p) fun y m => h y (List.mem_cons_of_mem _ m)
    exact ⟨t :: ts, rfl, fun z m => by
      rcases List.mem_cons.mp m with rfl | m
      · exact q
      · exact r z m⟩
theorem comp_draw {C : Calls} {e : E} {p : Pat} {it elt : E} {own : List Nat} {ρ : Env} {S0 S1 : Store} {n : Nat} {xs : List Val} {P : D → Prop} (he : e = .comp false p it (.bl true) elt own) (hi : evI C it ρ S0 = some (xs, S1)) (ok : Sok n S1)
    (hb : ∀ x ∈ xs, ∀ S, Mo n S1 S → ∃ ρ' d S', bindP p x (wipe ρ own) = some ρ' ∧ evE C elt ρ' S = some (.d d, S') ∧ Mo n S S' ∧ P d) :
    ∃ ds S', evE C e ρ S0 = some (.d (.lst ds), S') ∧ Mo n S1 S' ∧ ds.length = xs.length ∧ ∀ d ∈ ds, P d := by
  subst he
  obtain ⟨ys, S', e, m, l, q⟩ := lcM (n := n) (P := fun y => ∃ d, y = .d d ∧ P d) (ρ := wipe ρ own) (f := fun v ρ S => match bindP p v ρ with
      | some ρ => bnd (evE C (.bl true) ρ S) fun b S => match b with
        | .d (.bl true) => bnd (evE C elt ρ S) fun y S => some ([y], S)
        | .d (.bl false) => some ([], S)
        | _ => none
      | none => none) xs S1 ok fun x hx S mo => by
    obtain ⟨ρ', d, S', e1, e2, m, q⟩ := hb x hx S mo
    exact ⟨.d d, S', by simp [e1, e2, evE], m, d, rfl, q⟩
  obtain ⟨ds, rfl, qd⟩ := all_d ys q
  refine ⟨ds, S', ?_, m, by simpa using l, qd⟩
  rw [evE, hi]
  simp only [bnd_some]
  refine Eq.trans (congrArg (fun z => bnd z fun vs S => mkL false vs S) e) ?_
  simp [mkL]
theorem st_set {C : Calls} {p : Pat} {e : E} {ss : List St} {ρ ρ' : Env} {S S' : Store} {v : Val} (h : evE C e ρ S = some (v, S')) (hb : bindP p v ρ = some ρ') : evSs C (.set p e :: ss) ρ S = evSs C ss ρ' S' := by
  simp [evSs, evS, h, hb]
theorem st_ret {C : Calls} {e : E} {ss : List St} {ρ : Env} {S S' : Store} {v : Val} (h : evE C e ρ S = some (v, S')) : evSs C (.ret e :: ss) ρ S = some (.ret v S') := by
  simp [evSs, evS, h]
theorem run_ret {C : Calls} {fn : Fn} {args : List Val} {S S' : Store} {d : D} (ha : args.length = fn.np) (h : evSs C fn.body (start fn args) S = some (.ret (.d d) S')) (hl : S'.length = S.length) : runFn C fn false args S = some (.d d, S') := by
  simp [runFn, ha, h, finish, okv, ← hl]
theorem comp_map {C : Calls} {e : E} {p : Pat} {it elt : E} {own : List Nat} {ρ : Env} {S0 S1 : Store} {xs : List Val} (g : Val → D) (he : e = .comp false p it (.bl true) elt own) (hi : evI C it ρ S0 = some (xs, S1))
    (hb : ∀ x ∈ xs, ∃ ρ', bindP p x (wipe ρ own) = some ρ' ∧ evE C elt ρ' S1 = some (.d (g x), S1)) : evE C e ρ S0 = some (.d (.lst (xs.map g)), S1) := by
  subst he
  have e := lc_map (ρ := wipe ρ own) (S := S1) (f := fun v ρ S => match bindP p v ρ with
      | some ρ => bnd (evE C (.bl true) ρ S) fun b S => match b with
        | .d (.bl true) => bnd (evE C elt ρ S) fun y S => some ([y], S)
        | .d (.bl false) => some ([], S)
        | _ => none
      | none => none) (fun x => .d (g x)) xs fun x hx => by
    obtain ⟨ρ', e1, e2⟩ := hb x hx
    simp [e1, e2, evE]
  rw [evE, hi]
  simp only [bnd_some]
  refine Eq.trans (congrArg (fun z => bnd z fun vs S => mkL false vs S) e) ?_
  have q : xs.map (fun x => Val.d (g x)) = (xs.map g).map Val.d := by rw [List.map_map]; rfl
  show mkL false (xs.map fun x => Val.d (g x)) S1 = _
  rw [q]
  unfold mkL
  rw [datas_map]
theorem texts_of : ∀ ts : List T, texts (ts.map D.str) = some ts
  | [] => rfl
  | t :: ts => by simp [texts, texts_of ts]
theorem cut_to {α : Type} {xs : List α} {i : Int} (h0 : 0 ≤ i) : cut xs none (some i) = xs.take i.toNat := by
  unfold cut HT.sIx
  simp only [if_neg (by omega : ¬ i < 0), List.drop_zero, Nat.sub_zero]
  by_cases h : i.toNat ≤ xs.length
  · rw [Nat.min_eq_left h]
  · rw [Nat.min_eq_right (by omega), List.take_length, List.take_of_length_le (by omega)]
theorem cut_from {α : Type} {xs : List α} {i : Int} (h0 : 0 ≤ i) : cut xs (some i) none = xs.drop i.toNat := by
  unfold cut HT.sIx
  simp only [if_neg (by omega : ¬ i < 0)]
  by_cases h : i.toNat ≤ xs.length
  · rw [Nat.min_eq_left h, List.take_of_length_le (by simp)]
  · rw [Nat.min_eq_right (by omega), List.drop_length, List.drop_of_length_le (by omega)]
    simp
theorem ids_ok {k n : Nat} {m : Int} {S : Store} (h : Sok n S) (h0 : 0 ≤ m) (h1 : m ≤ 20) :
    ∃ (ts : List T) (S' : Store), callF GF (k + 3) 15 false [.l n, .d (.int m)] S = some (.d (.lst (ts.map .str)), S') ∧ Mo n S S' ∧ ts.length = m.toNat ∧ ts.Nodup ∧ ∀ t ∈ ts, idT t := by
  obtain ⟨r, S1, e1, m1, r0, r1⟩ := draw (k := k + 1) (m := 8) h (by omega) (by omega)
  have hi : evI (callF GF (k + 2)) (.rng1 (.call 13 false [.var 0, .int 8])) [some (.l n), some (.d (.int m)), some (.d (.str letters)), none, none, none, none, none, none] S = some (ranged 0 r.toNat, S1) := by
    have q : -4611686018427387904 ≤ r ∧ r ≤ 16777216 := by omega
    simp [evI, evE, evEs, look, e1, q]
  obtain ⟨ds, S2, e2, m2, l2, p2⟩ := comp_draw (e := d__law_ids_c0) (P := fun d => ∃ c, d = .str [c] ∧ c ∈ letters) rfl hi m1.ok fun x hx S mo => by
    obtain ⟨c, S', e, m, q⟩ := ofT (k := k) (xs := letters) mo.ok (by decide) (by decide)
    exact ⟨_, _, S', rfl, by simp [evE, evEs, look, wipe, e], m, c, rfl, q⟩
  obtain ⟨ts, rfl, pt⟩ : ∃ ts : List T, ds = ts.map D.str ∧ ∀ t ∈ ts, ∃ c ∈ letters, t = [c] := by
    clear l2 e2
    induction ds with
    | nil => exact ⟨[], rfl, fun t m => by cases m⟩
    | cons d ds ih =>
      obtain ⟨ts, rfl, q⟩ := ih fun d m => p2 d (List.mem_cons_of_mem _ m)
      obtain ⟨c, rfl, hc⟩ := p2 d List.mem_cons_self
      exact ⟨[c] :: ts, rfl, fun z m => by
        rcases List.mem_cons.mp m with rfl | m
        · exact ⟨c, hc, rfl⟩
        · exact q z m⟩
  have lt : ts.length = r.toNat := by simpa [ranged] using l2
  have stl : ∀ us : List T, (∀ t ∈ us, ∃ c ∈ letters, t = [c]) → us.flatten.length = us.length ∧ (∀ c ∈ us.flatten, c ∈ letters) ∧ (us.map List.length).sum = us.length := by
    intro us
    induction us with
    | nil => intro _; exact ⟨rfl, (fun c m => by cases m), rfl⟩
    | cons t us ih =>
      intro q
      obtain ⟨i1, i2, i3⟩ := ih fun t m => q t (List.mem_cons_of_mem _ m)
      obtain ⟨c, hc, rfl⟩ := q t List.mem_cons_self
      refine ⟨by simp [i1], fun z m => ?_, by simp [i3]; omega⟩
      simp only [List.flatten_cons, List.mem_append, List.mem_singleton] at m
      rcases m with rfl | m
      · exact hc
      · exact i2 z m
  obtain ⟨s1, s2, s3⟩ := stl ts pt
  generalize hst : ts.flatten = stem at s1 s2
  obtain ⟨at_, S3, e3, m3, a0, a1⟩ := draw (k := k + 1) (m := (stem.length : Int) + 1) m2.ok (by omega) (by omega)
  obtain ⟨fi, S4, e4, m4, f0, f1⟩ := draw (k := k + 1) (m := 26) m3.ok (by omega) (by omega)
  obtain ⟨sd, S5, e5, m5, hsd⟩ := ofL (k := k) (xs := [.int 1, .int 3, .int 5, .int 7, .int 9, .int 11, .int 15, .int 17]) m4.ok (by simp) (by simp)
  have hl : S5.length = S.length := by rw [m5.len, m4.len, m3.len, m2.len, m1.len]
  obtain ⟨sn, hsn, rfl⟩ : ∃ sn : Int, (sn = 1 ∨ sn = 3 ∨ sn = 5 ∨ sn = 7 ∨ sn = 9 ∨ sn = 11 ∨ sn = 15 ∨ sn = 17) ∧ sd = .int sn := by
    simp at hsd
    rcases hsd with rfl | rfl | rfl | rfl | rfl | rfl | rfl | rfl <;> exact ⟨_, by simp, rfl⟩
  have lq : letters.length = 26 := rfl
  let gt : Nat → T := fun j => stem.take at_.toNat ++ [letters.getD (((fi + sn * j) % 26).toNat) 0] ++ stem.drop at_.toNat
  have g1 : ∀ j : Nat, L2.atI letters ((fi + sn * j) % 26) = some (letters.getD (((fi + sn * j) % 26).toNat) 0) := fun j => by
    have z0 : 0 ≤ (fi + sn * j) % 26 := Int.emod_nonneg _ (by omega)
    have z1 : (fi + sn * j) % 26 < 26 := Int.emod_lt_of_pos _ (by omega)
    unfold L2.atI L2.ixN
    have z2 : ((fi + sn * j) % 26).toNat < letters.length := by rw [lq]; omega
    simp [z0, lq, z1, List.getD_eq_getElem?_getD, List.getElem?_eq_getElem z2]
  refine ⟨(List.range m.toNat).map gt, S5, ?_, m1.trans (m2.trans (m3.trans (m4.trans m5))), by simp, ?_, ?_⟩
  · rw [callF_at (gf_at (d := d__law_ids) (by rfl))]
    refine run_ret rfl ?_ hl
    refine (st_set (v := .d (.str letters)) (S' := S) (ρ' := [some (.l n), some (.d (.int m)), some (.d (.str letters)), none, none, none, none, none, none]) (by simp [evE, letters]) rfl).trans ?_
    refine (st_set (v := .d (.str stem)) (S' := S2) (ρ' := [some (.l n), some (.d (.int m)), some (.d (.str letters)), some (.d (.str stem)), none, none, none, none, none]) ?_ rfl).trans ?_
    · have cl : (ts.map List.length).sum + ts.length * 0 ≤ lim := by unfold lim; omega
      simp only [evE_join, evE_str, bnd_some, e2]
      simp [texts_of, cl, s3, joinT_nil, hst, lim]
      omega
    refine (st_set (v := .d (.tup [.int at_, .int fi])) (S' := S4) (ρ' := [some (.l n), some (.d (.int m)), some (.d (.str letters)), some (.d (.str stem)), none, some (.d (.int at_)), some (.d (.int fi)), none, none]) ?_ (by simp [bindP, bindPs])).trans ?_
    · have hlm : stem.length ≤ lim := by unfold lim; omega
      simp [evE, evEs, look, b1V, lenV, itemsD, opD, e3, e4, mkT, datas, hlm]
    refine (st_set (v := .d (.int sn)) (S' := S5) (ρ' := [some (.l n), some (.d (.int m)), some (.d (.str letters)), some (.d (.str stem)), some (.d (.int sn)), some (.d (.int at_)), some (.d (.int fi)), none, none]) ?_ rfl).trans ?_
    · simp [evE, evEs, look, mkL, datas, e5]
    refine st_ret ?_
    have hi5 : evI (callF GF (k + 2)) (.rng1 (.var 1)) [some (.l n), some (.d (.int m)), some (.d (.str letters)), some (.d (.str stem)), some (.d (.int sn)), some (.d (.int at_)), some (.d (.int fi)), none, none] S5 = some (ranged 0 m.toNat, S5) := by
      have q : -4611686018427387904 ≤ m ∧ m ≤ 16777216 := by omega
      simp [evI, evE, look, q]
    refine (comp_map (e := d__law_ids_c1) (fun v => match v with | .d (.int j) => .str (gt j.toNat) | _ => .non) rfl hi5 fun x hx => ?_).trans ?_
    · obtain ⟨j, hj, rfl⟩ : ∃ j : Nat, j < m.toNat ∧ x = .d (.int (0 + (j : Nat))) := by
        unfold ranged at hx
        obtain ⟨j, hj, rfl⟩ := List.mem_map.mp hx
        exact ⟨j, by simpa using hj, rfl⟩
      refine ⟨[some (.l n), some (.d (.int m)), some (.d (.str letters)), some (.d (.str stem)), some (.d (.int sn)), some (.d (.int at_)), some (.d (.int fi)), some (.d (.int (0 + (j : Nat)))), none], rfl, ?_⟩
      have hlm : stem.length ≤ lim := by unfold lim; omega
      have c1 : cut stem none (some at_) = stem.take at_.toNat := cut_to a0
      have c2 : cut stem (some at_) none = stem.drop at_.toNat := cut_from a0
      have b1 : -18446744073709551616 < sn ∧ sn < 18446744073709551616 := by omega
      have gj := g1 j
      have l26 : letters.length ≤ lim := by rw [lq]; unfold lim; omega
      have ll : ∀ (t : T) (c : Nat) (u : T), t.length + u.length ≤ 8 → (t ++ [c]).length + u.length ≤ lim := by intro t c u h; simp; unfold lim; omega
      have t1 : (stem.take at_.toNat).length + 1 ≤ lim := by have := List.length_take_le at_.toNat stem; unfold lim at *; omega
      have t2 : (stem.take at_.toNat).length + 1 + (stem.drop at_.toNat).length ≤ lim := by rw [List.length_take, List.length_drop]; unfold lim at *; omega
      rw [List.length_take] at t1 t2
      rw [List.length_drop] at t2
      simp [evE, evEs, look, partE, sliceV, hlm, opD, b1V, idxV, b1, gj, c1, c2, l26, gt, t1, t2]
    · simp [ranged, Function.comp_def]
  · unfold List.Nodup
    rw [List.pairwise_map]
    refine List.Pairwise.imp_of_mem (fun {i j} hi hj ne e => ?_) List.nodup_range
    have hi' := List.mem_range.mp hi
    have hj' := List.mem_range.mp hj
    have e1 : stem.take at_.toNat ++ ([letters.getD (((fi + sn * i) % 26).toNat) 0] ++ stem.drop at_.toNat) = stem.take at_.toNat ++ ([letters.getD (((fi + sn * j) % 26).toNat) 0] ++ stem.drop at_.toNat) := by
      simpa [gt, List.append_assoc] using e
    have e2 := List.append_cancel_left e1
    have e3 : letters.getD (((fi + sn * i) % 26).toNat) 0 = letters.getD (((fi + sn * j) % 26).toNat) 0 := by
      simp at e2
      exact e2
    have inj : ∀ a < 26, ∀ b < 26, letters.getD a 0 = letters.getD b 0 → a = b := by decide
    have zi : (fi + sn * i) % 26 < 26 := Int.emod_lt_of_pos _ (by omega)
    have zj : (fi + sn * j) % 26 < 26 := Int.emod_lt_of_pos _ (by omega)
    have yi : 0 ≤ (fi + sn * i) % 26 := Int.emod_nonneg _ (by omega)
    have yj : 0 ≤ (fi + sn * j) % 26 := Int.emod_nonneg _ (by omega)
    have e4 := inj _ (by omega) _ (by omega) e3
    have e5 : (fi + sn * i) % 26 = (fi + sn * j) % 26 := by omega
    rcases hsn with rfl | rfl | rfl | rfl | rfl | rfl | rfl | rfl <;> omega
  · intro t mt
    obtain ⟨j, hj, rfl⟩ := List.mem_map.mp mt
    refine ⟨by simp [gt]; omega, by simp [gt]; omega, fun c hc => ?_⟩
    simp only [gt, List.mem_append, List.mem_singleton] at hc
    rcases hc with (hc | hc) | hc
    · exact s2 c (List.mem_of_mem_take hc)
    · subst hc
      have z0 : 0 ≤ (fi + sn * j) % 26 := Int.emod_nonneg _ (by omega)
      have z1 : (fi + sn * j) % 26 < 26 := Int.emod_lt_of_pos _ (by omega)
      have z2 : ((fi + sn * j) % 26).toNat < letters.length := by rw [lq]; omega
      rw [List.getD_eq_getElem?_getD, List.getElem?_eq_getElem z2]
      exact List.getElem_mem z2
    · exact s2 c (List.mem_of_mem_drop hc)
end PI
set_option Elab.async false
set_option linter.all false
set_option maxRecDepth 100000
set_option maxHeartbeats 2000000
/-! SP5: words, texts drawn. -/
namespace PI
open PySem LW
theorem call_d {k i : Nat} {d : Def} {args : List Val} {S S' : Store} {r : D} (hd : GD[i]? = some d) (ha : args.length = d.fn.np)
    (h : evSs (callF GF k) d.fn.body (start d.fn args) S = some (.ret (.d r) S')) (hl : S'.length = S.length) : callF GF (k + 1) i false args S = some (.d r, S') := by
  rw [callF_at (gf_at hd)]; exact run_ret ha h hl
/-- a def that moves nothing -/
theorem call_p {k i : Nat} {d : Def} {args : List Val} {S : Store} {r : D} (hd : GD[i]? = some d) (ha : args.length = d.fn.np)
    (h : evSs (callF GF k) d.fn.body (start d.fn args) S = some (.ret (.d r) S)) : callF GF (k + 1) i false args S = some (.d r, S) := call_d hd ha h rfl
def wordT (t : T) : Prop := 1 ≤ t.length ∧ t.length ≤ 6 ∧ ∀ c ∈ t, 33 ≤ c ∧ c ≤ 126
instance (t : T) : Decidable (wordT t) := by unfold wordT; infer_instance
abbrev signsT : T := [33, 35, 36, 38, 40, 41, 42, 43, 44, 45, 46, 47, 48, 49, 50, 51, 52, 53, 54, 55, 56, 57, 58, 59, 60, 61, 62, 63, 64, 65, 66, 67, 68, 69, 70, 71, 72, 73, 74, 75, 76, 77, 78, 79, 80, 81, 82, 83, 84, 85, 86, 87, 88, 89, 90, 91, 93, 94, 95, 97, 98, 99, 100, 101, 102, 103, 104, 105, 106, 107, 108, 109, 110, 111, 112, 113, 114, 115, 116, 117, 118, 119, 120, 121, 122, 123, 124, 125, 126]
/-- texts of one sign each -/
theorem signs_of {p : Nat → Prop} : ∀ (ds : List D), (∀ d ∈ ds, ∃ c, d = .str [c] ∧ p c) → ∃ us : T, ds = (us.map fun c => D.str [c]) ∧ ∀ c ∈ us, p c
  | [], _ => ⟨[], rfl, fun t m => by cases m⟩
  | d :: ds, h => by
    obtain ⟨c, rfl, hc⟩ := h d List.mem_cons_self
    obtain ⟨us, rfl, q⟩ := signs_of ds fun d m => h d (List.mem_cons_of_mem _ m)
    exact ⟨c :: us, rfl, fun z m => by
      rcases List.mem_cons.mp m with rfl | m
      · exact hc
      · exact q z m⟩
theorem texts_signs : ∀ us : T, texts (us.map fun c => D.str [c]) = some (us.map fun c => [c])
  | [] => rfl
  | c :: us => by simp [texts, texts_signs us]
theorem flat_signs : ∀ us : T, joinT [] (us.map fun c => [c]) = us := fun us => by
  rw [joinT_nil]
  induction us with
  | nil => rfl
  | cons c us ih => simp [ih]
theorem sum_signs : ∀ us : T, (us.map (List.length ∘ fun c => [c])).sum = us.length
  | [] => rfl
  | c :: us => by
    have := sum_signs us
    simp only [List.map_cons, List.sum_cons, List.length_cons, this, Function.comp_apply, List.length_nil]
    omega
theorem strs_of {p : T → Prop} : ∀ (ds : List D), (∀ d ∈ ds, ∃ t, d = .str t ∧ p t) → ∃ ts : List T, ds = ts.map D.str ∧ ∀ t ∈ ts, p t
  | [], _ => ⟨[], rfl, fun t m => by cases m⟩
  | d :: ds, h => by
    obtain ⟨t, rfl, ht⟩ := h d List.mem_cons_self
    obtain ⟨us, rfl, q⟩ := strs_of ds fun d m => h d (List.mem_cons_of_mem _ m)
    exact ⟨t :: us, rfl, fun z m => by
      rcases List.mem_cons.mp m with rfl | m
      · exact ht
      · exact q z m⟩
theorem word_ok {k n : Nat} {S : Store} (h : Sok n S) : ∃ t S', callF GF (k + 3) 16 false [.l n] S = some (.d (.str t), S') ∧ Mo n S S' ∧ wordT t := by
  obtain ⟨r, S1, e1, m1, r0, r1⟩ := draw (k := k + 1) (m := 4) h (by omega) (by omega)
  by_cases hr : 0 < r
  · obtain ⟨x, S2, e2, m2, hx⟩ := ofL (k := k) (xs := [.str [115, 97, 118, 101], .str [111, 112, 101, 110], .str [97, 108, 108], .str [120], .str [83, 97, 118, 101], .str [97, 45, 98], .str [49], .str [104, 111, 108, 101], .str [105, 110, 115, 105, 100, 101], .str [110, 111, 119]]) m1.ok (by simp) (by simp)
    obtain ⟨t, rfl, ht⟩ : ∃ t, x = .str t ∧ wordT t := by
      simp at hx
      rcases hx with rfl | rfl | rfl | rfl | rfl | rfl | rfl | rfl | rfl | rfl <;> exact ⟨_, rfl, by decide⟩
    refine ⟨t, S2, call_d (d := d__law_word) rfl rfl ?_ (by rw [m2.len, m1.len]), m1.trans m2, ht⟩
    simp [d__law_word, start, e1, e2, hr, cmpD]
  · obtain ⟨r2, S2, e2, m2, q0, q1⟩ := draw (k := k + 1) (m := 4) m1.ok (by omega) (by omega)
    have hi : evI (callF GF (k + 2)) (.rng1 (.bin .add (.int 1) (.call 13 false [.var 0, .int 4]))) [some (.l n), some (.d (.str signsT)), none] S1 = some (ranged 0 (1 + r2).toNat, S2) := by
      have q : -4611686018427387904 ≤ 1 + r2 ∧ 1 + r2 ≤ 16777216 := by omega
      simp [e2, opD, q]
    obtain ⟨ds, S3, e3, m3, l3, p3⟩ := comp_draw (e := d__law_word_c0) (P := fun d => ∃ c, d = .str [c] ∧ c ∈ signsT) rfl hi m2.ok fun x hx S mo => by
      obtain ⟨c, S', e, m, q⟩ := ofT (k := k) (xs := signsT) mo.ok (by decide) (by decide)
      exact ⟨_, _, S', rfl, by simp [wipe, e], m, c, rfl, q⟩
    obtain ⟨us, rfl, pu⟩ := signs_of ds p3
    have lu : us.length = (1 + r2).toNat := by simpa [ranged] using l3
    refine ⟨us, S3, call_d (d := d__law_word) rfl rfl ?_ (by rw [m3.len, m2.len, m1.len]), m1.trans (m2.trans m3), by omega, by omega, fun c hc => ?_⟩
    · have q : us.length ≤ lim := by unfold lim; omega
      simp only [d__law_word, start, evSs_cons, evS_ite, evE_cmp, evE_call, evEs_cons, evEs_nil, evE_var, look_0, Option.map_some, bnd_some, evE_int, e1, List.map_cons, List.map_nil, List.singleton_append, List.cons_append, List.nil_append]
      simp [cmpD, hr, e3, texts_signs, flat_signs, sum_signs, q]
    · have : ∀ c ∈ signsT, 33 ≤ c ∧ c ≤ 126 := by decide
      exact this c (pu c hc)
def textT (t : T) : Prop := t.length ≤ 30 ∧ ∀ c ∈ t, 32 ≤ c ∧ c ≤ 126
theorem joinT_len (a : T) : ∀ ts : List T, (joinT a ts).length ≤ (ts.map List.length).sum + ts.length * a.length
  | [] => by simp [joinT]
  | [t] => by simp [joinT]
  | t :: u :: ts => by
    have := joinT_len a (u :: ts)
    simp [joinT, Nat.add_mul] at this ⊢
    omega
theorem joinT_mem {a : T} {c : Nat} : ∀ {ts : List T}, c ∈ joinT a ts → c ∈ a ∨ ∃ t ∈ ts, c ∈ t
  | [], h => by simp [joinT] at h
  | [t], h => .inr ⟨t, List.mem_cons_self, by simpa [joinT] using h⟩
  | t :: u :: ts, h => by
    simp only [joinT, List.mem_append] at h
    rcases h with (h | h) | h
    · exact .inr ⟨t, List.mem_cons_self, h⟩
    · exact .inl h
    · rcases joinT_mem h with h | ⟨v, hv, h⟩
      · exact .inl h
      · exact .inr ⟨v, List.mem_cons_of_mem _ hv, h⟩
theorem sum_le {c : Nat} : ∀ ts : List T, (∀ t ∈ ts, t.length ≤ c) → (ts.map List.length).sum ≤ ts.length * c
  | [], _ => by simp
  | t :: ts, h => by
    have h1 := h t List.mem_cons_self
    have h2 := sum_le ts fun t m => h t (List.mem_cons_of_mem _ m)
    simp [Nat.add_mul]
    omega
theorem text_ok {k n : Nat} {S : Store} (h : Sok n S) : ∃ t S', callF GF (k + 4) 17 false [.l n] S = some (.d (.str t), S') ∧ Mo n S S' ∧ textT t := by
  obtain ⟨x, S1, e1, m1, hx⟩ := ofL (k := k + 1) (xs := [.int 0, .int 1, .int 1, .int 2, .int 3]) h (by simp) (by simp)
  obtain ⟨m, rfl, hm0, hm1⟩ : ∃ m, x = .int m ∧ 0 ≤ m ∧ m ≤ 3 := by
    simp at hx
    rcases hx with rfl | rfl | rfl | rfl <;> exact ⟨_, rfl, by omega, by omega⟩
  have hi : evI (callF GF (k + 3)) (.rng1 (.call 14 false [.var 0, .lst false [.int 0, .int 1, .int 1, .int 2, .int 3]])) [some (.l n), none, none, none] S = some (ranged 0 m.toNat, S1) := by
    have q : -4611686018427387904 ≤ m ∧ m ≤ 16777216 := by omega
    simp [e1, q]
  obtain ⟨ds, S2, e2, m2, l2, p2⟩ := comp_draw (e := d__law_text_c0) (P := fun d => ∃ t, d = .str t ∧ wordT t) rfl hi m1.ok fun x hx S mo => by
    obtain ⟨t, S', e, m, q⟩ := word_ok (k := k) mo.ok
    exact ⟨_, _, S', rfl, by simp [wipe, e], m, t, rfl, q⟩
  obtain ⟨ts, rfl, pt⟩ := strs_of ds p2
  have lt : ts.length = m.toNat := by simpa [ranged] using l2
  obtain ⟨x, S3, e3, m3, hx⟩ := ofL (k := k + 1) (xs := [.str [32], .str [32], .str [32, 32]]) m2.ok (by simp) (by simp)
  obtain ⟨a, rfl, ha⟩ : ∃ a, x = .str a ∧ a.length ≤ 2 ∧ ∀ c ∈ a, c = 32 := by
    simp at hx
    rcases hx with rfl | rfl <;> exact ⟨_, rfl, by simp, by simp⟩
  obtain ⟨x, S4, e4, m4, hx⟩ := ofL (k := k + 1) (xs := [.str [], .str [], .str [32]]) m3.ok (by simp) (by simp)
  obtain ⟨b, rfl, hb⟩ : ∃ a, x = .str a ∧ a.length ≤ 2 ∧ ∀ c ∈ a, c = 32 := by
    simp at hx
    rcases hx with rfl | rfl <;> exact ⟨_, rfl, by simp, by simp⟩
  obtain ⟨x, S5, e5, m5, hx⟩ := ofL (k := k + 1) (xs := [.str [], .str [], .str [32, 32]]) m4.ok (by simp) (by simp)
  obtain ⟨c, rfl, hc⟩ : ∃ a, x = .str a ∧ a.length ≤ 2 ∧ ∀ c ∈ a, c = 32 := by
    simp at hx
    rcases hx with rfl | rfl <;> exact ⟨_, rfl, by simp, by simp⟩
  have s1 := sum_le (c := 6) ts fun t m => (pt t m).2.1
  have s2 := joinT_len a ts
  have s3 : ts.length * a.length ≤ 3 * 2 := Nat.mul_le_mul (by omega) ha.1
  have s4 : (joinT a ts).length ≤ 24 := by omega
  refine ⟨b ++ (joinT a ts ++ c), S5, call_d (d := d__law_text) rfl rfl ?_ (by rw [m5.len, m4.len, m3.len, m2.len, m1.len]), m1.trans (m2.trans (m3.trans (m4.trans m5))), by simp; omega, fun z hz => ?_⟩
  · have q1 : (ts.map List.length).sum + ts.length * a.length ≤ lim := by unfold lim; omega
    have q2 : b.length + (joinT a ts).length ≤ lim := by unfold lim; omega
    have q3 : b.length + (joinT a ts).length + c.length ≤ lim := by unfold lim; omega
    simp [d__law_text, start, e2, e3, e4, e5, texts_of, q1, q2, q3, opD]
  · simp only [List.mem_append] at hz
    rcases hz with hz | hz | hz
    · have := hb.2 z hz; omega
    · rcases joinT_mem hz with hz | ⟨t, ht, hz⟩
      · have := ha.2 z hz; omega
      · have := (pt t ht).2.2 z hz; omega
    · have := hc.2 z hz; omega
end PI
set_option Elab.async false
set_option linter.all false
set_option maxRecDepth 100000
set_option maxHeartbeats 2000000
/-! SP6: pages drawn. -/
namespace PI
open PySem LW
theorem lv {K c : Nat} (h : c ≤ K) : ∃ k, K = k + c := ⟨K - c, by omega⟩
theorem drawK {K n : Nat} {m : Int} {S : Store} (hK : 1 ≤ K) (h : Sok n S) (h1 : 1 ≤ m) (h2 : m < 1000) :
    ∃ r S', callF GF K 13 false [.l n, .d (.int m)] S = some (.d (.int r), S') ∧ Mo n S S' ∧ 0 ≤ r ∧ r < m := by
  obtain ⟨k, rfl⟩ := lv hK; exact draw h h1 h2
theorem ofLK {K n : Nat} {xs : List D} {S : Store} (hK : 2 ≤ K) (h : Sok n S) (h1 : xs ≠ []) (h2 : xs.length < 1000) :
    ∃ x S', callF GF K 14 false [.l n, .d (.lst xs)] S = some (.d x, S') ∧ Mo n S S' ∧ x ∈ xs := by
  obtain ⟨k, rfl⟩ := lv hK; exact ofL h h1 h2
/-- one of these texts -/
theorem ofSK {K n : Nat} {ts : List T} {S : Store} (hK : 2 ≤ K) (h : Sok n S) (h1 : ts ≠ []) (h2 : ts.length < 1000) :
    ∃ t S', callF GF K 14 false [.l n, .d (.lst (sds ts))] S = some (.d (.str t), S') ∧ Mo n S S' ∧ t ∈ ts := by
  obtain ⟨x, S', e, m, hx⟩ := ofLK (xs := sds ts) hK h (by unfold sds; simpa using h1) (by unfold sds; simpa using h2)
  obtain ⟨t, ht, rfl⟩ := List.mem_map.mp hx
  exact ⟨t, S', e, m, ht⟩
theorem textK {K n : Nat} {S : Store} (hK : 4 ≤ K) (h : Sok n S) : ∃ t S', callF GF K 17 false [.l n] S = some (.d (.str t), S') ∧ Mo n S S' ∧ textT t := by
  obtain ⟨k, rfl⟩ := lv hK; exact text_ok h
theorem idsK {K n : Nat} {m : Int} {S : Store} (hK : 3 ≤ K) (h : Sok n S) (h0 : 0 ≤ m) (h1 : m ≤ 20) :
    ∃ (ts : List T) (S' : Store), callF GF K 15 false [.l n, .d (.int m)] S = some (.d (.lst (sds ts)), S') ∧ Mo n S S' ∧ ts.length = m.toNat ∧ ts.Nodup ∧ ∀ t ∈ ts, idT t := by
  obtain ⟨k, rfl⟩ := lv hK; exact ids_ok h h0 h1
/-! ### comparisons -/
@[simp] theorem cmp_ne_l0 {xs : List D} : cmpD .ne (.lst xs) (.lst []) = some (!xs.isEmpty) := by
  have : min (D.dep (.lst xs)) (D.dep (.lst [])) ≤ 60 := by simp [D.dep, D.deps]
  simp only [cmpD, this, if_true]
  cases xs <;> simp [D.eq, D.eqs]
@[simp] theorem cmp_eq_l0 {xs : List D} : cmpD .eq (.lst xs) (.lst []) = some xs.isEmpty := by
  have : min (D.dep (.lst xs)) (D.dep (.lst [])) ≤ 60 := by simp [D.dep, D.deps]
  simp only [cmpD, this, if_true]
  cases xs <;> simp [D.eq, D.eqs]
@[simp] theorem cmp_ne_t0 {xs : List D} : cmpD .ne (.tup xs) (.tup []) = some (!xs.isEmpty) := by
  have : min (D.dep (.tup xs)) (D.dep (.tup [])) ≤ 60 := by simp [D.dep, D.deps]
  simp only [cmpD, this, if_true]
  cases xs <;> simp [D.eq, D.eqs]
@[simp] theorem cmp_eq_t0 {xs : List D} : cmpD .eq (.tup xs) (.tup []) = some xs.isEmpty := by
  have : min (D.dep (.tup xs)) (D.dep (.tup [])) ≤ 60 := by simp [D.dep, D.deps]
  simp only [cmpD, this, if_true]
  cases xs <;> simp [D.eq, D.eqs]
@[simp] theorem cmp_eq_ii {i j : Int} : cmpD .eq (.int i) (.int j) = some (decide (i = j)) := by simp [cmpD, D.dep, D.eq]
@[simp] theorem cmp_ne_ii {i j : Int} : cmpD .ne (.int i) (.int j) = some (!decide (i = j)) := by simp [cmpD, D.dep, D.eq]
@[simp] theorem cmp_lt_ii {i j : Int} : cmpD .lt (.int i) (.int j) = some (decide (i < j)) := rfl
@[simp] theorem cmp_le_ii {i j : Int} : cmpD .le (.int i) (.int j) = some (decide (i ≤ j)) := rfl
@[simp] theorem cmp_gt_ii {i j : Int} : cmpD .gt (.int i) (.int j) = some (decide (j < i)) := rfl
@[simp] theorem cmp_ge_ii {i j : Int} : cmpD .ge (.int i) (.int j) = some (decide (j ≤ i)) := rfl
@[simp] theorem cmp_eq_ss {s t : T} : cmpD .eq (.str s) (.str t) = some (decide (s = t)) := by simp [cmpD, D.dep, D.eq]
@[simp] theorem cmp_ne_ss {s t : T} : cmpD .ne (.str s) (.str t) = some (!decide (s = t)) := by simp [cmpD, D.dep, D.eq]
@[simp] theorem cmp_lt_ss {s t : T} : cmpD .lt (.str s) (.str t) = some (decide (s < t)) := rfl
@[simp] theorem op_add_ii {i j : Int} : opD .add (.int i) (.int j) = some (.int (i + j)) := rfl
@[simp] theorem op_sub_ii {i j : Int} : opD .sub (.int i) (.int j) = some (.int (i - j)) := rfl
@[simp] theorem sds_empty {ts : List T} : (sds ts).isEmpty = ts.isEmpty := by cases ts <;> rfl
@[simp] theorem sds_len {ts : List T} : (sds ts).length = ts.length := by simp [sds]
@[simp] theorem datas_comp {α : Type} {f : α → D} {xs : List α} : datas (xs.map (Val.d ∘ f)) = some (xs.map f) := by
  rw [← List.map_map]; exact datas_mapD
@[simp] theorem datas_fun {α : Type} {f : α → D} {xs : List α} : datas (xs.map fun x => Val.d (f x)) = some (xs.map f) := datas_comp (f := f)
@[simp] theorem b1_tup_l {xs : List D} {S : Store} : b1V .tup (.d (.lst xs)) S = some (.d (.tup xs), S) := by simp [b1V, listV, -List.map_map]
@[simp] theorem b1_tup_t {xs : List D} {S : Store} : b1V .tup (.d (.tup xs)) S = some (.d (.tup xs), S) := rfl
@[simp] theorem b1_lst_t {xs : List D} {S : Store} : b1V (.lst false) (.d (.tup xs)) S = some (.d (.lst xs), S) := by simp [b1V, seqV, -List.map_map]
@[simp] theorem b1_lst_l {xs : List D} {S : Store} : b1V (.lst false) (.d (.lst xs)) S = some (.d (.lst xs), S) := by simp [b1V, seqV, -List.map_map]
@[simp] theorem b1_len_t {xs : List D} {S : Store} : b1V .len (.d (.tup xs)) S = some (.d (.int (xs.length : Nat)), S) := rfl
@[simp] theorem b1_len_l {xs : List D} {S : Store} : b1V .len (.d (.lst xs)) S = some (.d (.int (xs.length : Nat)), S) := rfl
theorem b1_len_s {s : T} {S : Store} (h : s.length ≤ 16777216) : b1V .len (.d (.str s)) S = some (.d (.int (s.length : Nat)), S) := by simp [b1V, lenV, lim, h]
@[simp] theorem b1_int_i {i : Int} {S : Store} : b1V .int (.d (.int i)) S = some (.d (.int i), S) := rfl
/-! ### the plan -/
def plKV (q : Nat) (all : List T) (rf : Int) (hs ss : List T) : List (T × Val) :=
  [([105, 100, 115], .l q), ([97, 108, 108], .d (.lst (sds all))), ([114, 101, 102, 101, 114], .d (.int rf)), ([104, 111, 108, 101, 115], .d (.lst (sds hs))), ([115, 119, 105, 116, 99, 104, 101, 115], .d (.lst (sds ss)))]
def plC (q : Nat) (all : List T) (rf : Int) (hs ss : List T) : Cell := .dct (plKV q all rf hs ss)
def pcOk (hs : List T) : Pc → Prop
  | .tx t => textT t
  | .ho t => t ∈ hs
def fgOk (ss : List T) : Fg → Prop
  | .b _ => True
  | .off t => t ∈ ss
section
variable {n p q : Nat} {all hs ss : List T} {rf : Int} {S : Store}
theorem plan_holes (h : S[p]? = some (plC q all rf hs ss)) : idxV (.l p) (.d (.str [104, 111, 108, 101, 115])) S = some (.d (.lst (sds hs))) := by simp [idxV, h, plC, plKV, lkp]
theorem plan_switches (h : S[p]? = some (plC q all rf hs ss)) : idxV (.l p) (.d (.str [115, 119, 105, 116, 99, 104, 101, 115])) S = some (.d (.lst (sds ss))) := by simp [idxV, h, plC, plKV, lkp]
theorem plan_all (h : S[p]? = some (plC q all rf hs ss)) : idxV (.l p) (.d (.str [97, 108, 108])) S = some (.d (.lst (sds all))) := by simp [idxV, h, plC, plKV, lkp]
theorem plan_refer (h : S[p]? = some (plC q all rf hs ss)) : idxV (.l p) (.d (.str [114, 101, 102, 101, 114])) S = some (.d (.int rf)) := by simp [idxV, h, plC, plKV, lkp]
theorem plan_ids (h : S[p]? = some (plC q all rf hs ss)) : idxV (.l p) (.d (.str [105, 100, 115])) S = some (.l q) := by simp [idxV, h, plC, plKV, lkp]
theorem pieceK {K : Nat} (hK : 5 ≤ K) (h : Sok n S) (hp : S[p]? = some (plC q all rf hs ss)) (np : p ≠ n) (hl : hs.length < 1000) :
    ∃ x S', callF GF K 18 false [.l n, .l p] S = some (.d (Pc.d x), S') ∧ Mo n S S' ∧ pcOk hs x := by
  obtain ⟨K, rfl⟩ := lv (c := 1) (by omega : 1 ≤ K)
  have h1 := plan_holes hp
  by_cases he : hs = []
  · obtain ⟨t, S1, e1, m1, ht⟩ := textK (K := K) (by omega) h
    refine ⟨.tx t, S1, call_d (d := d__law_piece) rfl rfl ?_ m1.len, m1, ht⟩
    simp [d__law_piece, start, h1, he, e1, Pc.d]
  · have he' : hs.isEmpty = false := by cases hs <;> simp_all
    obtain ⟨r, S1, e1, m1, r0, r1⟩ := drawK (K := K) (m := 3) (by omega) h (by omega) (by omega)
    by_cases hr : r = 0
    · have hp1 : S1[p]? = some (plC q all rf hs ss) := (m1.off p np).trans hp
      have h2 := plan_holes hp1
      obtain ⟨t, S2, e2, m2, ht⟩ := ofSK (K := K) (ts := hs) (by omega) m1.ok he hl
      refine ⟨.ho t, S2, call_d (d := d__law_piece) rfl rfl ?_ (by rw [m2.len, m1.len]), m1.trans m2, ht⟩
      simp [d__law_piece, start, h1, he', e1, hr, h2, e2, Pc.d]
    · obtain ⟨t, S2, e2, m2, ht⟩ := textK (K := K) (by omega) m1.ok
      refine ⟨.tx t, S2, call_d (d := d__law_piece) rfl rfl ?_ (by rw [m2.len, m1.len]), m1.trans m2, ht⟩
      simp [d__law_piece, start, h1, he', e1, hr, e2, Pc.d]
theorem maybeK {K : Nat} (hK : 6 ≤ K) (h : Sok n S) (hp : S[p]? = some (plC q all rf hs ss)) (np : p ≠ n) (hl : hs.length < 1000) :
    ∃ x S', callF GF K 19 false [.l n, .l p] S = some (.d (opc x), S') ∧ Mo n S S' ∧ ∀ y, x = some y → pcOk hs y := by
  obtain ⟨K, rfl⟩ := lv (c := 1) (by omega : 1 ≤ K)
  obtain ⟨r, S1, e1, m1, r0, r1⟩ := drawK (K := K) (m := 3) (by omega) h (by omega) (by omega)
  by_cases hr : r = 0
  · have hp1 : S1[p]? = some (plC q all rf hs ss) := (m1.off p np).trans hp
    obtain ⟨x, S2, e2, m2, hx⟩ := pieceK (K := K) (by omega) m1.ok hp1 np hl
    refine ⟨some x, S2, call_d (d := d__law_maybe) rfl rfl ?_ (by rw [m2.len, m1.len]), m1.trans m2, fun y e => by cases e; exact hx⟩
    simp [d__law_maybe, start, e1, hr, e2, opc]
  · refine ⟨none, S1, call_d (d := d__law_maybe) rfl rfl ?_ m1.len, m1, fun y e => by cases e⟩
    simp [d__law_maybe, start, e1, hr, opc]
theorem flagK {K : Nat} (hK : 3 ≤ K) (h : Sok n S) (hp : S[p]? = some (plC q all rf hs ss)) (np : p ≠ n) (hl : ss.length < 1000) :
    ∃ x S', callF GF K 20 false [.l n, .l p] S = some (.d (Fg.d x), S') ∧ Mo n S S' ∧ fgOk ss x := by
  obtain ⟨K, rfl⟩ := lv (c := 1) (by omega : 1 ≤ K)
  obtain ⟨r, S1, e1, m1, r0, r1⟩ := drawK (K := K) (m := 10) (by omega) h (by omega) (by omega)
  have hp1 : S1[p]? = some (plC q all rf hs ss) := (m1.off p np).trans hp
  have h1 := plan_switches hp1
  by_cases hr : r = 0
  · refine ⟨.b true, S1, call_d (d := d__law_flag) rfl rfl ?_ m1.len, m1, trivial⟩
    simp [d__law_flag, start, e1, hr, Fg.d]
  · by_cases hr2 : r < 4
    · by_cases he : ss = []
      · refine ⟨.b false, S1, call_d (d := d__law_flag) rfl rfl ?_ m1.len, m1, trivial⟩
        simp [d__law_flag, start, e1, hr, hr2, h1, he, Fg.d]
      · have he' : ss.isEmpty = false := by cases ss <;> simp_all
        obtain ⟨t, S2, e2, m2, ht⟩ := ofSK (K := K) (ts := ss) (by omega) m1.ok he hl
        refine ⟨.off t, S2, call_d (d := d__law_flag) rfl rfl ?_ (by rw [m2.len, m1.len]), m1.trans m2, ht⟩
        simp [d__law_flag, start, e1, hr, hr2, h1, he', e2, Fg.d]
    · refine ⟨.b false, S1, call_d (d := d__law_flag) rfl rfl ?_ m1.len, m1, trivial⟩
      simp [d__law_flag, start, e1, hr, hr2, Fg.d]
end
end PI
set_option Elab.async false
set_option linter.all false
set_option maxRecDepth 100000
set_option maxHeartbeats 4000000
/-! SP7: boxes, items drawn. -/
namespace PI
open PySem LW
/-- the cell of the ids that are left -/
def idsC (ids : List T) : Cell := .lst ((sds ids).map .d)
/-- only the source at n and the ids at q have moved -/
structure Mq (n q : Nat) (S S' : Store) : Prop where
  len : S'.length = S.length
  off : ∀ j, j ≠ n → j ≠ q → S'[j]? = S[j]?
  ok : Sok n S'
theorem Mo.mq {n q : Nat} {S S' : Store} (h : Mo n S S') : Mq n q S S' := ⟨h.len, fun j a _ => h.off j a, h.ok⟩
theorem Mq.trans {n q : Nat} {S S' S'' : Store} (h : Mq n q S S') (g : Mq n q S' S'') : Mq n q S S'' := ⟨g.len.trans h.len, fun j a b => (g.off j a b).trans (h.off j a b), g.ok⟩
theorem erase_map {α β : Type} (f : α → β) : ∀ (l : List α) (i : Nat), (l.map f).eraseIdx i = (l.eraseIdx i).map f
  | [], i => by simp
  | x :: l, 0 => by simp
  | x :: l, i + 1 => by simp [erase_map f l i]
theorem erase_perm {α : Type} : ∀ (l : List α) (i : Nat) (h : i < l.length), (l[i] :: l.eraseIdx i).Perm l
  | x :: l, 0, _ => by simp
  | x :: l, i + 1, h => by
    have h' : i < l.length := by simpa using h
    have := erase_perm l i h'
    simp only [List.getElem_cons_succ, List.eraseIdx_cons_succ]
    exact (List.Perm.swap x _ _).trans (this.cons x)
/-- what is drawn of a box -/
def locD (all hs ss : List T) (rf : Int) : Itm → Prop
  | .pc p => pcOk hs p
  | .bx id kind hid lab refs tip ins => kind ∈ kindsT ∧ fgOk ss hid ∧ (∀ y, lab = some y → pcOk hs y) ∧ (∀ y, tip = some y → pcOk hs y) ∧ refs.length ≤ 4 ∧ (∀ x ∈ refs, x ∈ all) ∧ (rf = 0 → refs = []) ∧
    ins.length ≤ 3 ∧ (kind = fieldT → ∀ i ∈ ins, i.isB = false) ∧ (kind = imageT → ins = [])
section
variable {n p q : Nat} {all hs ss : List T} {rf : Int}
/-- what a drawing of items at a depth, f levels above the last, gives -/
def ItemsD (K n p q : Nat) (all hs ss : List T) (rf : Int) (f : Nat) : Prop := ∀ (S : Store) (ids : List T) (many depth : Int), Sok n S → S[p]? = some (plC q all rf hs ss) → S[q]? = some (idsC ids) → ids.length ≤ 16 → 0 ≤ many → many ≤ 5 → depth + f = 6 →
  ∃ (is : List Itm) (S' : Store) (ids' : List T), callF GF K 22 false [.l n, .l p, .d (.int depth), .d (.int many)] S = some (.d (.tup (Itms.ds is)), S') ∧ Mq n q S S' ∧ S'[q]? = some (idsC ids') ∧ (Itms.ids is ++ ids').Perm ids ∧
    Itms.all (locD all hs ss rf) is ∧ Itms.ht is ≤ f ∧ is.length = many.toNat
theorem pop_ids {S : Store} {ids : List T} {r : Int} (h : S[q]? = some (idsC ids)) (h0 : 0 ≤ r) (h1 : r < (ids.length : Nat)) (h2 : ids.length ≤ 16) :
    ∃ t ids', popV (.l q) (some (.d (.int r))) S = some (.d (.str t), S.set q (idsC ids')) ∧ (t :: ids').Perm ids ∧ ids'.length + 1 = ids.length := by
  have hr : r.toNat < ids.length := by omega
  refine ⟨ids[r.toNat], ids.eraseIdx r.toNat, ?_, ?_, ?_⟩
  · have e1 : (ids[r.toNat]?) = some ids[r.toNat] := List.getElem?_eq_getElem hr
    have q1 : 0 ≤ r ∧ r < 4611686018427387904 := by omega
    have e2 : ((sds ids).map Val.d).eraseIdx r.toNat = (sds (ids.eraseIdx r.toNat)).map Val.d := by
      unfold sds
      rw [erase_map, erase_map]
    simp only [popV, h, idsC]
    rw [if_pos (by omega)]
    rw [e2]
    simp [sds, e1]
  · exact erase_perm ids r.toNat hr
  · rw [List.length_eraseIdx_of_lt hr]; omega
theorem len_ids {S : Store} {ids : List T} (h : S[q]? = some (idsC ids)) : lenV (.l q) S = some ids.length := by simp [lenV, h, idsC]
theorem sok_set {S : Store} {c : Cell} (h : Sok n S) (hq : q ≠ n) : Sok n (S.set q c) := by
  obtain ⟨a, b, h⟩ := h
  exact ⟨a, b, by rw [List.getElem?_set_ne hq]; exact h.cell, h.pa, h.pb, h.lb⟩
theorem mq_set {S : Store} {c : Cell} (h : Sok n S) (hq : q ≠ n) : Mq n q S (S.set q c) := ⟨by simp, fun j _ b => List.getElem?_set_ne (Ne.symm b), sok_set h hq⟩
theorem refs_ok {K : Nat} {S : Store} {e2 e3 e4 e6 e7 e8 e9 : Option Val} (hK : 7 ≤ K) (ok : Sok n S) (hp : S[p]? = some (plC q all rf hs ss)) (np : p ≠ n) (r0 : 0 ≤ rf) (r1 : rf < 1000) (ha : all ≠ []) (hl : all.length < 1000) :
    ∃ refs S', evS (callF GF K) d__law_box_i0 [some (.l n), some (.l p), e2, e3, e4, some (.d (.tup [])), e6, e7, e8, e9] S = some (.nx [some (.l n), some (.l p), e2, e3, e4, some (.d (.tup (sds refs))), e6, e7, e8, e9] S') ∧
      Mo n S S' ∧ refs.length ≤ 4 ∧ (∀ x ∈ refs, x ∈ all) ∧ (rf = 0 → refs = []) := by
  have h1 := plan_refer hp
  by_cases hr : 0 < rf
  · obtain ⟨r, S1, e1, m1, q0, q1⟩ := drawK (K := K) (m := rf) (by omega) ok (by omega) r1
    by_cases hz : r = 0
    · have hp1 : S1[p]? = some (plC q all rf hs ss) := (m1.off p np).trans hp
      obtain ⟨r2, S2, e12, m2, q2, q3⟩ := drawK (K := K) (m := 4) (by omega) m1.ok (by omega) (by omega)
      have hi : evI (callF GF K) (.rng1 (.bin .add (.int 1) (.call 13 false [.var 0, .int 4]))) [some (.l n), some (.l p), e2, e3, e4, some (.d (.tup [])), e6, e7, e8, e9] S1 = some (ranged 0 (1 + r2).toNat, S2) := by
        have q : -4611686018427387904 ≤ 1 + r2 ∧ 1 + r2 ≤ 16777216 := by omega
        simp [e12, q]
      obtain ⟨ds, S3, e13, m3, l3, p3⟩ := comp_draw (e := d__law_box_c0) (P := fun d => ∃ t, d = .str t ∧ t ∈ all) rfl hi m2.ok fun x hx S mo => by
        have hp2 : S[p]? = some (plC q all rf hs ss) := (mo.off p np).trans ((m2.off p np).trans hp1)
        obtain ⟨t, S', e, m, ht⟩ := ofSK (K := K) (ts := all) (by omega) mo.ok ha hl
        have ha := plan_all hp2
        exact ⟨_, _, S', rfl, by simp [wipe, e, ha], m, t, rfl, ht⟩
      obtain ⟨ts, rfl, pt⟩ := strs_of ds p3
      have lt : ts.length = (1 + r2).toNat := by simpa [ranged] using l3
      refine ⟨ts, S3, ?_, m1.trans (m2.trans m3), by omega, pt, fun z => by omega⟩
      simp [d__law_box_i0, h1, hr, e1, hz, e13, sds]
    · refine ⟨[], S1, ?_, m1, by simp, by simp, fun _ => rfl⟩
      simp [d__law_box_i0, h1, hr, e1, hz, sds]
  · refine ⟨[], S, ?_, .refl ok, by simp, by simp, fun _ => rfl⟩
    simp [d__law_box_i0, h1, hr, sds]
theorem ins_ok {K f : Nat} {S : Store} {ids : List T} {depth : Int} {kind : T} {e3 e5 e7 e8 e9 : Option Val} (hI : ItemsD K n p q all hs ss rf f) (hK : 7 ≤ K) (ok : Sok n S) (hp : S[p]? = some (plC q all rf hs ss)) (hq : S[q]? = some (idsC ids)) (np : p ≠ n) (nq : q ≠ n) (pq : p ≠ q) (li : ids.length ≤ 16) (hd : depth + 1 + f = 6) (lh : hs.length < 1000) :
    ∃ ins S' ids', evS (callF GF K) d__law_box_i1 [some (.l n), some (.l p), some (.d (.int depth)), e3, some (.d (.str kind)), e5, some (.d (.tup [])), e7, e8, e9] S = some (.nx [some (.l n), some (.l p), some (.d (.int depth)), e3, some (.d (.str kind)), e5, some (.d (.tup (Itms.ds ins))), e7, e8, e9] S') ∧
      Mq n q S S' ∧ S'[q]? = some (idsC ids') ∧ (Itms.ids ins ++ ids').Perm ids ∧ Itms.all (locD all hs ss rf) ins ∧ Itms.ht ins ≤ f ∧ ins.length ≤ 3 ∧ (kind = fieldT → ∀ i ∈ ins, i.isB = false) ∧ (kind = imageT → ins = []) := by
  by_cases hf : kind = fieldT
  · subst hf
    obtain ⟨r, S1, e1, m1, q0, q1⟩ := drawK (K := K) (m := 3) (by omega) ok (by omega) (by omega)
    have hi : evI (callF GF K) (.rng1 (.call 13 false [.var 0, .int 3])) [some (.l n), some (.l p), some (.d (.int depth)), e3, some (.d (.str fieldT)), e5, some (.d (.tup [])), e7, e8, e9] S = some (ranged 0 r.toNat, S1) := by
      have q : -4611686018427387904 ≤ r ∧ r ≤ 16777216 := by omega
      simp [e1, q]
    obtain ⟨ds, S2, e2, m2, l2, p2⟩ := comp_draw (e := d__law_box_c1) (P := fun d => ∃ x : Pc, d = x.d ∧ pcOk hs x) rfl hi m1.ok fun x hx S mo => by
      have hp2 : S[p]? = some (plC q all rf hs ss) := (mo.off p np).trans ((m1.off p np).trans hp)
      obtain ⟨t, S', e, m, ht⟩ := pieceK (K := K) (by omega) mo.ok hp2 np lh
      exact ⟨_, _, S', rfl, by simp [wipe, e], m, t, rfl, ht⟩
    obtain ⟨ps, rfl, pp⟩ : ∃ ps : List Pc, ds = ps.map Pc.d ∧ ∀ x ∈ ps, pcOk hs x := by
      clear e2 l2
      induction ds with
      | nil => exact ⟨[], rfl, fun t m => by cases m⟩
      | cons d ds ih =>
        obtain ⟨ps, rfl, q⟩ := ih fun d m => p2 d (List.mem_cons_of_mem _ m)
        obtain ⟨c, rfl, hc⟩ := p2 d List.mem_cons_self
        exact ⟨c :: ps, rfl, fun z m => by
          rcases List.mem_cons.mp m with rfl | m
          · exact hc
          · exact q z m⟩
    have lp : ps.length = r.toNat := by simpa [ranged] using l2
    have eds : Itms.ds (ps.map .pc) = ps.map Pc.d := by
      rw [Itms.ds_eq, List.map_map]
      rfl
    have eid : ∀ ps : List Pc, Itms.ids (ps.map .pc) = [] := by
      intro ps
      induction ps with
      | nil => simp [Itms.ids]
      | cons p ps ih => simp [Itms.ids, Itm.ids, ih]
    have eht : ∀ ps : List Pc, Itms.ht (ps.map .pc) = 0 := by
      intro ps
      induction ps with
      | nil => simp [Itms.ht]
      | cons p ps ih => simp [Itms.ht, Itm.ht, ih]
    refine ⟨ps.map .pc, S2, ids, ?_, (m1.trans m2).mq, by rw [(m1.trans m2).off q nq]; exact hq, by rw [eid]; exact List.Perm.refl _, ?_, by rw [eht]; omega, by simp; omega, fun _ i m => ?_, fun z => by cases z⟩
    · simp [d__law_box_i1, e2, eds]
    · rw [Itms.all_iff]
      intro i m
      obtain ⟨x, hx, rfl⟩ := List.mem_map.mp m
      simp only [Itm.all]
      exact pp x hx
    · obtain ⟨x, hx, rfl⟩ := List.mem_map.mp m
      rfl
  · by_cases hm : kind = imageT
    · subst hm
      refine ⟨[], S, ids, ?_, (Mo.refl ok).mq, hq, by simp [Itms.ids], by simp [Itms.all], by simp [Itms.ht], by simp, by simp, fun _ => rfl⟩
      simp [d__law_box_i1, Itms.ds]
    · obtain ⟨r, S1, e1, m1, q0, q1⟩ := drawK (K := K) (m := 4) (by omega) ok (by omega) (by omega)
      have hp1 : S1[p]? = some (plC q all rf hs ss) := (m1.off p np).trans hp
      have hq1 : S1[q]? = some (idsC ids) := (m1.off q nq).trans hq
      obtain ⟨is, S2, ids', e2, m2, h1, h2, h3, h4, h5⟩ := hI S1 ids r (depth + 1) m1.ok hp1 hq1 li (by omega) (by omega) hd
      refine ⟨is, S2, ids', ?_, m1.mq.trans m2, h1, h2, h3, h4, by omega, fun z => absurd z hf, fun z => absurd z hm⟩
      have g1 : ¬ kind = [102, 105, 101, 108, 100] := hf
      have g2 : ¬ kind = [105, 109, 97, 103, 101] := hm
      simp [d__law_box_i1, g1, g2, e1, e2]
theorem boxK {K f : Nat} {S : Store} {ids : List T} {depth : Int} (hI : ItemsD K n p q all hs ss rf f) (hK : 7 ≤ K) (ok : Sok n S) (hp : S[p]? = some (plC q all rf hs ss)) (hq : S[q]? = some (idsC ids)) (np : p ≠ n) (nq : q ≠ n) (pq : p ≠ q) (ne : ids ≠ []) (li : ids.length ≤ 16) (hd : depth + 1 + f = 6)
    (lh : hs.length < 1000) (ls : ss.length < 1000) (la : all.length < 1000) (ha : all ≠ []) (r0 : 0 ≤ rf) (r1 : rf < 1000) :
    ∃ b S' ids', callF GF (K + 1) 21 false [.l n, .l p, .d (.int depth)] S = some (.d (Itm.d b), S') ∧ Mq n q S S' ∧ S'[q]? = some (idsC ids') ∧ (b.ids ++ ids').Perm ids ∧ b.all (locD all hs ss rf) ∧ b.ht ≤ f + 1 := by
  have l0 : 0 < ids.length := List.length_pos_iff.mpr ne
  obtain ⟨r, S1, e1, m1, q0, q1⟩ := drawK (K := K) (m := (ids.length : Nat)) (by omega) ok (by omega) (by omega)
  have hp1 : S1[p]? = some (plC q all rf hs ss) := (m1.off p np).trans hp
  have hq1 : S1[q]? = some (idsC ids) := (m1.off q nq).trans hq
  obtain ⟨id, ids1, e2, pm, li1⟩ := pop_ids hq1 q0 q1 li
  have m2 : Mq n q S1 (S1.set q (idsC ids1)) := mq_set m1.ok nq
  have hqlt : q < S1.length := (List.getElem?_eq_some_iff.mp hq1).1
  have hq2 : (S1.set q (idsC ids1))[q]? = some (idsC ids1) := List.getElem?_set_self hqlt
  have hp2 : (S1.set q (idsC ids1))[p]? = some (plC q all rf hs ss) := (m2.off p np pq).trans hp1
  generalize S1.set q (idsC ids1) = S2 at e2 m2 hq2 hp2
  obtain ⟨x, S3, e3, m3, hx⟩ := ofLK (K := K) (xs := [.str buttonT, .str linkT, .str headingT, .str fieldT, .str imageT, .str groupT, .str groupT]) (by omega) m2.ok (by simp) (by simp)
  obtain ⟨kind, rfl, hk⟩ : ∃ t, x = .str t ∧ t ∈ kindsT := by
    simp only [List.mem_cons, List.not_mem_nil, or_false] at hx
    rcases hx with rfl | rfl | rfl | rfl | rfl | rfl | rfl <;> exact ⟨_, rfl, by decide⟩
  have hp3 : S3[p]? = some (plC q all rf hs ss) := (m3.off p np).trans hp2
  have hq3 : S3[q]? = some (idsC ids1) := (m3.off q nq).trans hq2
  obtain ⟨refs, S4, e4, m4, h41, h42, h43⟩ := refs_ok (K := K) (e2 := some (.d (.int depth))) (e3 := some (.d (.str id))) (e4 := some (.d (.str kind))) (e6 := some (.d (.tup []))) (e7 := none) (e8 := none) (e9 := none) hK m3.ok hp3 np r0 r1 ha la
  have hp4 : S4[p]? = some (plC q all rf hs ss) := (m4.off p np).trans hp3
  have hq4 : S4[q]? = some (idsC ids1) := (m4.off q nq).trans hq3
  obtain ⟨lab, S5, e5, m5, h5⟩ := maybeK (K := K) (by omega) m4.ok hp4 np lh
  have hp5 : S5[p]? = some (plC q all rf hs ss) := (m5.off p np).trans hp4
  have hq5 : S5[q]? = some (idsC ids1) := (m5.off q nq).trans hq4
  obtain ⟨tip, S6, e6, m6, h6⟩ := maybeK (K := K) (by omega) m5.ok hp5 np lh
  have hp6 : S6[p]? = some (plC q all rf hs ss) := (m6.off p np).trans hp5
  have hq6 : S6[q]? = some (idsC ids1) := (m6.off q nq).trans hq5
  obtain ⟨ins, S7, ids2, e7, m7, hq7, h72, h73, h74, h75, h76, h77⟩ := ins_ok (kind := kind) (e3 := some (.d (.str id))) (e5 := some (.d (.tup (sds refs)))) (e7 := some (.d (opc lab))) (e8 := some (.d (opc tip))) (e9 := none) hI hK m6.ok hp6 hq6 np nq pq (by omega) hd lh
  have hp7 : S7[p]? = some (plC q all rf hs ss) := (m7.off p np pq).trans hp6
  obtain ⟨hid, S8, e8, m8, h8⟩ := flagK (K := K) (by omega) m7.ok hp7 np ls
  have hq8 : S8[q]? = some (idsC ids2) := (m8.off q nq).trans hq7
  have mAll : Mq n q S S8 := m1.mq.trans (m2.trans (m3.mq.trans (m4.mq.trans (m5.mq.trans (m6.mq.trans (m7.trans m8.mq))))))
  refine ⟨.bx id kind hid lab refs tip ins, S8, ids2, call_d (d := d__law_box) rfl rfl ?_ mAll.len, mAll, hq8, ?_, ?_, ?_⟩
  · have g1 := plan_ids hp
    have g2 := len_ids hq
    have g3 : isL (.l q) S = true := by simp [isL, hq, idsC]
    simp [d__law_box, start, g1, g2, g3, b1V, e1, e2, e3, e4, e5, e6, e7, e8, Itm.d]
  · simp only [Itm.ids, List.cons_append]
    exact (h72.cons id).trans pm
  · simp only [Itm.all, locD]
    exact ⟨⟨hk, h8, h5, h6, h41, h42, h43, h75, h76, h77⟩, h73⟩
  · simp only [Itm.ht]; omega
end
end PI
set_option Elab.async false
set_option linter.all false
set_option maxRecDepth 100000
set_option maxHeartbeats 4000000
/-! SP8: pages drawn. -/
namespace PI
open PySem LW
@[simp] theorem dataV_d {x : D} {S : Store} : dataV (.d x) S = some x := rfl
theorem dep_l0 {xs : List D} : min (D.dep (.lst xs)) (D.dep (.lst [])) ≤ 60 := by simp [D.dep, D.deps]
theorem eq_l0 {xs : List D} : D.eq (.lst xs) (.lst []) = xs.isEmpty := by cases xs <;> simp [D.eq, D.eqs]
theorem data_ids {q : Nat} {ids : List T} {S : Store} (h : S[q]? = some (idsC ids)) : dataV (.l q) S = some (.lst (sds ids)) := by simp [dataV, h, idsC, -List.map_map]
theorem op_add_t1 {xs : List D} {y : D} (h : xs.length ≤ 1000) : opD .add (.tup xs) (.tup [y]) = some (.tup (xs ++ [y])) := by
  have : xs.length + [y].length ≤ lim := by simp [lim]; omega
  simp only [opD, this, if_true]
section
variable {n p q : Nat} {all hs ss : List T} {rf : Int}
/-- one more item -/
def StepD (C : Calls) (n p q : Nat) (all hs ss : List T) (rf : Int) (f : Nat) (depth : Int) : Prop := ∀ (S : Store) (ids : List T) (acc : List D) (e3 u : Option Val), Sok n S → S[p]? = some (plC q all rf hs ss) → S[q]? = some (idsC ids) → ids.length ≤ 16 → acc.length ≤ 1000 →
  ∃ (i : Itm) (S' : Store) (ids' : List T), evSs C d__law_items_l0 [some (.l n), some (.l p), some (.d (.int depth)), e3, some (.d (.tup acc)), u] S = some (.nx [some (.l n), some (.l p), some (.d (.int depth)), e3, some (.d (.tup (acc ++ [i.d]))), u] S') ∧ Mq n q S S' ∧
    S'[q]? = some (idsC ids') ∧ (i.ids ++ ids').Perm ids ∧ i.all (locD all hs ss rf) ∧ i.ht ≤ f
theorem items_loop {C : Calls} {f : Nat} {depth : Int} {e3 : Option Val} (np : p ≠ n) (pq : p ≠ q) (st : StepD C n p q all hs ss rf f depth) : ∀ (xs : List Val) (S : Store) (ids : List T) (acc : List D) (u : Option Val), Sok n S → S[p]? = some (plC q all rf hs ss) → S[q]? = some (idsC ids) → ids.length ≤ 16 → acc.length + xs.length ≤ 1000 →
    ∃ (is : List Itm) (S' : Store) (ids' : List T) (u' : Option Val), evFor (bindP (.nm 5)) (evSs C d__law_items_l0) xs [some (.l n), some (.l p), some (.d (.int depth)), e3, some (.d (.tup acc)), u] S = some (.nx [some (.l n), some (.l p), some (.d (.int depth)), e3, some (.d (.tup (acc ++ Itms.ds is))), u'] S') ∧ Mq n q S S' ∧
      S'[q]? = some (idsC ids') ∧ (Itms.ids is ++ ids').Perm ids ∧ Itms.all (locD all hs ss rf) is ∧ Itms.ht is ≤ f ∧ is.length = xs.length
  | [], S, ids, acc, u, ok, hp, hq, li, la => ⟨[], S, ids, u, by simp [Itms.ds], (Mo.refl ok).mq, hq, by simp [Itms.ids], by simp [Itms.all], by simp [Itms.ht], rfl⟩
  | x :: xs, S, ids, acc, u, ok, hp, hq, li, la => by
    simp only [List.length_cons] at la
    obtain ⟨i, S1, ids1, e1, m1, q1, pm1, a1, h1⟩ := st S ids acc e3 (some x) ok hp hq li (by omega)
    have l1 : ids1.length ≤ 16 := by
      have := pm1.length_eq
      simp only [List.length_append] at this
      omega
    obtain ⟨is, S2, ids2, u2, e2, m2, q2, pm2, a2, h2, l2⟩ := items_loop (e3 := e3) np pq st xs S1 ids1 (acc ++ [i.d]) (some x) m1.ok ((m1.off p np pq).trans hp) q1 l1 (by simp; omega)
    refine ⟨i :: is, S2, ids2, u2, ?_, m1.trans m2, q2, ?_, ?_, ?_, by simp [l2]⟩
    · simp only [evFor, bindP_nm, List.set_cons_succ, List.set_cons_zero, e1, e2, Itms.ds, List.append_assoc, List.singleton_append]
    · simp only [Itms.ids, List.append_assoc]
      exact (List.Perm.append_left _ pm2).trans pm1
    · simp only [Itms.all]; exact ⟨a1, a2⟩
    · simp only [Itms.ht]; omega
theorem step_pc {K : Nat} {S : Store} {ids : List T} {acc : List D} {depth : Int} {e3 u : Option Val} (hK : 5 ≤ K) (ok : Sok n S) (hp : S[p]? = some (plC q all rf hs ss)) (hq : S[q]? = some (idsC ids)) (np : p ≠ n) (nq : q ≠ n) (lh : hs.length < 1000) :
    ∃ (x : Pc) (S' : Store), callF GF K 18 false [.l n, .l p] S = some (.d x.d, S') ∧ Mo n S S' ∧ S'[q]? = some (idsC ids) ∧ pcOk hs x := by
  obtain ⟨x, S', e, m, hx⟩ := pieceK hK ok hp np lh
  exact ⟨x, S', e, m, (m.off q nq).trans hq, hx⟩
theorem step_last {K : Nat} (hK : 5 ≤ K) (np : p ≠ n) (nq : q ≠ n) (pq : p ≠ q) (lh : hs.length < 1000) : StepD (callF GF K) n p q all hs ss rf 0 6 := by
  intro S ids acc e3 u ok hp hq li la
  obtain ⟨x, S', e, m, hx⟩ := pieceK hK ok hp np lh
  refine ⟨.pc x, S', ids, ?_, m.mq, (m.off q nq).trans hq, by simp [Itm.ids], by simpa only [Itm.all, locD] using hx, by simp [Itm.ht]⟩
  simp [d__law_items_l0, e, op_add_t1 la, Itm.d]
theorem step_more {K f : Nat} {depth : Int} (hI : ItemsD K n p q all hs ss rf f) (hK : 7 ≤ K) (np : p ≠ n) (nq : q ≠ n) (pq : p ≠ q) (hd : depth + 1 + f = 6) (lh : hs.length < 1000) (ls : ss.length < 1000) (la : all.length < 1000) (ha : all ≠ []) (r0 : 0 ≤ rf) (r1 : rf < 1000) :
    StepD (callF GF (K + 1)) n p q all hs ss rf (f + 1) depth := by
  intro S ids acc e3 u ok hp hq li la'
  have hd5 : depth ≤ 5 := by omega
  have g1 := plan_ids hp
  have g2 := data_ids hq
  have piece : ∀ S1, Mo n S S1 → ∃ x S2, callF GF (K + 1) 18 false [.l n, .l p] S1 = some (.d (Pc.d x), S2) ∧ Mo n S S2 ∧ pcOk hs x := fun S1 m => by
    obtain ⟨x, S', e, m', hx⟩ := pieceK (K := K + 1) (by omega) m.ok ((m.off p np).trans hp) np lh
    exact ⟨x, S', e, m.trans m', hx⟩
  by_cases ne : ids = []
  · obtain ⟨x, S2, e2, m2, hx⟩ := piece S (.refl ok)
    refine ⟨.pc x, S2, ids, ?_, m2.mq, (m2.off q nq).trans hq, by simp [Itm.ids], by simpa only [Itm.all, locD] using hx, by simp [Itm.ht]⟩
    subst ne
    simp [d__law_items_l0, hd5, g1, g2, D.dep, D.deps, D.eq, D.eqs, e2, op_add_t1 la', Itm.d, sds]
  · have ne' : ids.isEmpty = false := by cases ids <;> simp_all
    obtain ⟨r, S1, e1, m1, q0, q1⟩ := drawK (K := K + 1) (m := 5) (by omega) ok (by omega) (by omega)
    by_cases hr : 1 < r
    · obtain ⟨b, S2, ids2, e2, m2, h1, h2, h3, h4⟩ := boxK hI hK m1.ok ((m1.off p np).trans hp) ((m1.off q nq).trans hq) np nq pq ne li hd lh ls la ha r0 r1
      refine ⟨b, S2, ids2, ?_, m1.mq.trans m2, h1, h2, h3, h4⟩
      simp [d__law_items_l0, hd5, g1, g2, dep_l0, eq_l0, ne', e1, hr, e2, op_add_t1 la']
    · obtain ⟨x, S2, e2, m2, hx⟩ := piece S1 m1
      refine ⟨.pc x, S2, ids, ?_, m2.mq, (m2.off q nq).trans hq, by simp [Itm.ids], by simpa only [Itm.all, locD] using hx, by simp [Itm.ht]⟩
      simp [d__law_items_l0, hd5, g1, g2, dep_l0, eq_l0, ne', e1, hr, e2, op_add_t1 la', Itm.d]
theorem items_of {K f : Nat} (np : p ≠ n) (pq : p ≠ q) (st : ∀ depth : Int, depth + f = 6 → StepD (callF GF K) n p q all hs ss rf f depth) : ItemsD (K + 1) n p q all hs ss rf f := by
  intro S ids many depth ok hp hq li m0 m5 hd
  obtain ⟨is, S', ids', u, e, m, h1, h2, h3, h4, h5⟩ := items_loop (e3 := some (.d (.int many))) np pq (st depth hd) (ranged 0 many.toNat) S ids [] none ok hp hq li (by simp [ranged]; omega)
  refine ⟨is, S', ids', call_d (d := d__law_items) rfl rfl ?_ m.len, m, h1, h2, h3, h4, by simpa [ranged] using h5⟩
  have q1 : -4611686018427387904 ≤ many ∧ many ≤ 16777216 := by omega
  simp [d__law_items, start, q1, e]
theorem itemsDr {K0 : Nat} (hK : 7 ≤ K0) (np : p ≠ n) (nq : q ≠ n) (pq : p ≠ q) (lh : hs.length < 1000) (ls : ss.length < 1000) (la : all.length < 1000) (ha : all ≠ []) (r0 : 0 ≤ rf) (r1 : rf < 1000) : ∀ f : Nat, ItemsD (K0 + 2 * f) n p q all hs ss rf f
  | 0 => by
    obtain ⟨K, rfl⟩ := lv (c := 1) (by omega : 1 ≤ K0)
    exact items_of np pq fun depth hd => by
      have : depth = 6 := by omega
      subst this
      exact step_last (by omega) np nq pq lh
  | f + 1 => by
    have hI := itemsDr hK np nq pq lh ls la ha r0 r1 f
    exact items_of (K := K0 + 2 * f + 1) np pq fun depth hd => step_more hI (by omega) np nq pq (by omega) lh ls la ha r0 r1
end
/-! ### a store that has grown -/
structure Ex (n : Nat) (S0 S : Store) : Prop where
  le : S0.length ≤ S.length
  off : ∀ j, j < S0.length → j ≠ n → S[j]? = S0[j]?
  ok : Sok n S
section
variable {n p q : Nat} {S0 S S' : Store}
theorem Ex.refl (h : Sok n S0) : Ex n S0 S0 := ⟨Nat.le_refl _, fun _ _ _ => rfl, h⟩
theorem Ex.mo (h : Ex n S0 S) (m : Mo n S S') : Ex n S0 S' := ⟨by rw [m.len]; exact h.le, fun j a b => (m.off j b).trans (h.off j a b), m.ok⟩
theorem Ex.mq (h : Ex n S0 S) (m : Mq n q S S') (hq : S0.length ≤ q) : Ex n S0 S' := ⟨by rw [m.len]; exact h.le, fun j a b => (m.off j b (by omega)).trans (h.off j a b), m.ok⟩
theorem Sok.lt (h : Sok n S) : n < S.length := let ⟨_, _, h⟩ := h; h.lt
theorem Sok.app (h : Sok n S) (c : List Cell) : Sok n (S ++ c) := by
  have hl := h.lt
  obtain ⟨a, b, h⟩ := h
  exact ⟨a, b, by rw [List.getElem?_append_left hl]; exact h.cell, h.pa, h.pb, h.lb⟩
theorem Ex.app (h : Ex n S0 S) (c : List Cell) : Ex n S0 (S ++ c) := ⟨by have := h.le; simp; omega, fun j a b => by rw [List.getElem?_append_left (by have := h.le; omega)]; exact h.off j a b, h.ok.app c⟩
theorem Ex.set (h : Ex n S0 S) (hn : p ≠ n) (hp : S0.length ≤ p) (c : Cell) : Ex n S0 (S.set p c) := ⟨by simp; exact h.le, fun j a b => by rw [List.getElem?_set_ne (by omega)]; exact h.off j a b, sok_set h.ok hn⟩
theorem Ex.fin (h : Ex n S0 S) (hn : n < S0.length) : Mo n S0 (S.take S0.length) := by
  refine ⟨by rw [List.length_take]; have := h.le; omega, fun j b => ?_, ?_⟩
  · by_cases hj : j < S0.length
    · rw [List.getElem?_take_of_lt hj]; exact h.off j hj b
    · rw [List.getElem?_eq_none (by rw [List.length_take]; omega), List.getElem?_eq_none (by omega)]
  · obtain ⟨a, b, g⟩ := h.ok
    exact ⟨a, b, by rw [List.getElem?_take_of_lt hn]; exact g.cell, g.pa, g.pb, g.lb⟩
end
theorem call_dt {k i : Nat} {d : Def} {args : List Val} {S S' : Store} {r : D} (hd : GD[i]? = some d) (ha : args.length = d.fn.np)
    (h : evSs (callF GF k) d.fn.body (start d.fn args) S = some (.ret (.d r) S')) : callF GF (k + 1) i false args S = some (.d r, S'.take S.length) := by
  rw [callF_at (gf_at hd)]
  simp [runFn, ha, h, finish, okv]
/-- a page as it is drawn -/
structure DrawnP (most mh ms rf : Int) (is : List Itm) : Prop where
  ex : ∃ (all hs ss rest : List T), Itms.all (locD all hs ss rf) is ∧ (Itms.ids is ++ rest).Perm (all.take most.toNat) ∧ all.length = (most + 2).toNat ∧ all.Nodup ∧ hs.length ≤ mh.toNat ∧ ss.length ≤ ms.toNat ∧ hs.Nodup ∧ ss.Nodup ∧ (∀ t ∈ all, idT t) ∧ (∀ t ∈ hs, idT t) ∧ ∀ t ∈ ss, idT t
  ht : Itms.ht is ≤ 5
  len : is.length ≤ 5
  ne : 1 ≤ is.length
theorem page_ok {K n : Nat} {S : Store} {most mh ms rf : Int} (hK : 20 ≤ K) (ok : Sok n S) (h0 : 1 ≤ most) (h1 : most ≤ 16) (h2 : 0 ≤ mh) (h3 : mh ≤ 8) (h4 : 0 ≤ ms) (h5 : ms ≤ 8) (h6 : 0 ≤ rf) (h7 : rf ≤ 8) :
    ∃ (is : List Itm) (S' : Store), callF GF K 23 false [.l n, .d (.int most), .d (.int mh), .d (.int ms), .d (.int rf)] S = some (.d (.tup (Itms.ds is)), S') ∧ Mo n S S' ∧ DrawnP most mh ms rf is := by
  obtain ⟨K, rfl⟩ := lv hK
  obtain ⟨all, S1, e1, m1, a1, a2, a3⟩ := idsK (K := K + 19) (m := most + 2) (by omega) ok (by omega) (by omega)
  have x1 : Ex n S S1 := (Ex.refl ok).mo m1
  have nl := ok.lt
  have l1 := m1.len
  -- the ids' cell, the plan's
  have x2 := x1.app [idsC (all.take most.toNat)]
  obtain ⟨kv0, hkv0⟩ : ∃ kv : List (T × Val), kv = [([105, 100, 115], .l S1.length), ([97, 108, 108], .d (.lst (sds all))), ([114, 101, 102, 101, 114], .d (.int rf))] := ⟨_, rfl⟩
  have x3 := x2.app [.dct kv0]
  have p3 : (S1 ++ [idsC (all.take most.toNat)] ++ [.dct kv0])[S1.length + 1]? = some (.dct kv0) := by simp
  have q3 : (S1 ++ [idsC (all.take most.toNat)] ++ [.dct kv0])[S1.length]? = some (idsC (all.take most.toNat)) := by simp
  have e3 : evS (callF GF (K + 19)) (.set (.nm 6) (.dct true [[105, 100, 115], [97, 108, 108], [114, 101, 102, 101, 114]] [(.slice true (.var 5) .non (.var 1)), (.b1 (.lst false) (.var 5)), (.var 4)])) [some (.l n), some (.d (.int most)), some (.d (.int mh)), some (.d (.int ms)), some (.d (.int rf)), some (.d (.lst (sds all))), none] S1 = some (.nx [some (.l n), some (.d (.int most)), some (.d (.int mh)), some (.d (.int ms)), some (.d (.int rf)), some (.d (.lst (sds all))), some (.l (S1.length + 1))] (S1 ++ [idsC (all.take most.toNat)] ++ [.dct kv0])) := by
    have c1 : cut (sds all) none (some most) = sds (all.take most.toNat) := by rw [cut_to (by omega)]; unfold sds; rw [List.map_take]
    simp [partE, sliceV, c1, idsC, hkv0, putAll, put, -List.map_map]
  generalize S1 ++ [idsC (all.take most.toNat)] ++ [.dct kv0] = S3 at x3 p3 q3 e3
  obtain ⟨r1, S4, e4, m4, r10, r11⟩ := drawK (K := K + 19) (m := mh + 1) (by omega) x3.ok (by omega) (by omega)
  obtain ⟨hs, S5, e5, m5, b1, b2, b3⟩ := idsK (K := K + 19) (m := r1) (by omega) m4.ok (by omega) (by omega)
  have hpn : S1.length + 1 ≠ n := by omega
  have hqn : S1.length ≠ n := by omega
  have x5 := (x3.mo m4).mo m5
  have p5 : S5[S1.length + 1]? = some (.dct kv0) := ((m5.off _ hpn).trans (m4.off _ hpn)).trans p3
  have q5 : S5[S1.length]? = some (idsC (all.take most.toNat)) := ((m5.off _ hqn).trans (m4.off _ hqn)).trans q3
  obtain ⟨kv1, hkv1⟩ : ∃ kv : List (T × Val), kv = put [104, 111, 108, 101, 115] (.d (.lst (sds hs))) kv0 := ⟨_, rfl⟩
  have x6 := x5.set (p := S1.length + 1) hpn (by omega) (.dct kv1)
  have l5 : S1.length + 1 < S5.length := (List.getElem?_eq_some_iff.mp p5).1
  have p6 : (S5.set (S1.length + 1) (.dct kv1))[S1.length + 1]? = some (.dct kv1) := List.getElem?_set_self l5
  have q6 : (S5.set (S1.length + 1) (.dct kv1))[S1.length]? = some (idsC (all.take most.toNat)) := by rw [List.getElem?_set_ne (by omega)]; exact q5
  have e6 : setV (.l (S1.length + 1)) (.d (.str [104, 111, 108, 101, 115])) (.d (.lst (sds hs))) S5 = some (S5.set (S1.length + 1) (.dct kv1)) := by
    simp [setV, okv, p5, hkv1, hkv0, lim]
  generalize S5.set (S1.length + 1) (.dct kv1) = S6 at x6 p6 q6 e6
  obtain ⟨r2, S7, e7, m7, r20, r21⟩ := drawK (K := K + 19) (m := ms + 1) (by omega) x6.ok (by omega) (by omega)
  obtain ⟨ss, S8, e8, m8, c1, c2, c3⟩ := idsK (K := K + 19) (m := r2) (by omega) m7.ok (by omega) (by omega)
  have x8 := (x6.mo m7).mo m8
  have p8 : S8[S1.length + 1]? = some (.dct kv1) := ((m8.off _ hpn).trans (m7.off _ hpn)).trans p6
  have q8 : S8[S1.length]? = some (idsC (all.take most.toNat)) := ((m8.off _ hqn).trans (m7.off _ hqn)).trans q6
  have l8 : S1.length + 1 < S8.length := (List.getElem?_eq_some_iff.mp p8).1
  have x9 := x8.set (p := S1.length + 1) hpn (by omega) (plC S1.length all rf hs ss)
  have p9 : (S8.set (S1.length + 1) (plC S1.length all rf hs ss))[S1.length + 1]? = some (plC S1.length all rf hs ss) := List.getElem?_set_self l8
  have q9 : (S8.set (S1.length + 1) (plC S1.length all rf hs ss))[S1.length]? = some (idsC (all.take most.toNat)) := by rw [List.getElem?_set_ne (by omega)]; exact q8
  have e9 : setV (.l (S1.length + 1)) (.d (.str [115, 119, 105, 116, 99, 104, 101, 115])) (.d (.lst (sds ss))) S8 = some (S8.set (S1.length + 1) (plC S1.length all rf hs ss)) := by
    simp [setV, okv, p8, hkv1, hkv0, lim, put, plC, plKV]
  generalize S8.set (S1.length + 1) (plC S1.length all rf hs ss) = S9 at x9 p9 q9 e9
  obtain ⟨r3, S10, e10, m10, r30, r31⟩ := drawK (K := K + 19) (m := 5) (by omega) x9.ok (by omega) (by omega)
  have x10 := x9.mo m10
  have hl : all.length ≤ 18 := by omega
  have hne : all ≠ [] := by intro z; rw [z] at a1; simp at a1; omega
  have lhs : hs.length ≤ 8 := by omega
  have lss : ss.length ≤ 8 := by omega
  have hI := itemsDr (K0 := K + 9) (n := n) (p := S1.length + 1) (q := S1.length) (all := all) (hs := hs) (ss := ss) (rf := rf) (by omega) hpn hqn (by omega) (by omega) (by omega) (by omega) hne h6 (by omega) 5
  obtain ⟨is, S11, ids', e11, m11, g1, g2, g3, g4, g5⟩ := hI S10 (all.take most.toNat) (1 + r3) 1 x10.ok ((m10.off _ hpn).trans p9) ((m10.off _ hqn).trans q9) (by rw [List.length_take]; omega) (by omega) (by omega) (by omega)
  have x11 := x10.mq m11 (by omega)
  refine ⟨is, S11.take S.length, call_dt (d := d__law_page) rfl rfl ?_, x11.fin nl, ⟨all, hs, ss, ids', g3, g2, a1, a2, by omega, by omega, b2, c2, a3, b3, c3⟩, g4, by omega, by omega⟩
  simp only [d__law_page, start, evSs_cons, List.map_cons, List.map_nil, List.length_cons, List.length_nil, List.cons_append, List.nil_append, List.replicate, Nat.reduceAdd, Nat.reduceSub]
  rw [show evS (callF GF (K + 19)) (.set (.nm 5) (.call 15 false [.var 0, .bin .add (.var 1) (.int 2)])) [some (.l n), some (.d (.int most)), some (.d (.int mh)), some (.d (.int ms)), some (.d (.int rf)), none, none] S = some (.nx [some (.l n), some (.d (.int most)), some (.d (.int mh)), some (.d (.int ms)), some (.d (.int rf)), some (.d (.lst (sds all))), none] S1) by simp [e1]]
  rw [thenS_nx, evSs_cons, e3, thenS_nx]
  simp [e4, e5, e6, e7, e8, e9, e10, e11]
end PI
set_option Elab.async false
set_option linter.all false
set_option maxRecDepth 100000
set_option maxHeartbeats 2000000
/-! SP9: the source; comprehensions that move nothing. -/
namespace PI
open PySem LW
theorem atI_some {α : Type} {xs : List α} {r : Int} (h0 : 0 ≤ r) (h1 : r < (xs.length : Nat)) : ∃ x, L2.atI xs r = some x := by
  obtain ⟨x, _, e⟩ := atI_mem h0 h1
  exact ⟨x, e⟩
theorem source_ok {K : Nat} {ns : List Int} {k : Int} {S : Store} (hK : 1 ≤ K) (h0 : 0 ≤ k) (h1 : k ≤ 100) :
    ∃ a b, callF GF K 12 true [.scr ns, .d (.int k)] S = some (.l S.length, S ++ [srcC a b]) ∧ Src (S ++ [srcC a b]) S.length a b := by
  obtain ⟨K, rfl⟩ := lv hK
  have e1 : ∃ c, 0 ≤ c ∧ evS (callF GF K) d__law_source_i0 [some (.scr ns), some (.d (.int k)), some (.d (.int 0))] S = some (.nx [some (.scr ns), some (.d (.int k)), some (.d (.int c))] S) := by
    by_cases hk : k < (ns.length : Nat)
    · obtain ⟨x, ex⟩ := atI_some (xs := ns) h0 hk
      refine ⟨if x < 0 then -x else x, by split <;> omega, ?_⟩
      have hk' : decide (k < (ns.length : Int)) = true := by simpa using hk
      simp [d__law_source_i0, b1V, lenV, hk, idxV, ex]
    · refine ⟨0, by omega, ?_⟩
      have hk' : ¬ (k < (ns.length : Int)) := hk
      simp [d__law_source_i0, b1V, lenV, hk']
  obtain ⟨c, hc, e1⟩ := e1
  have src : ∀ a b : Int, 0 ≤ a → 0 ≤ b → b < 2147483648 → Src (S ++ [srcC a b]) S.length a b := fun a b h1 h2 h3 => ⟨by simp, h1, h2, h3⟩
  have fin : ∀ a b : Int, finish S.length true (.l S.length) (S ++ [srcC a b]) = some (.l S.length, S ++ [srcC a b]) := fun a b => by
    simp [finish, srcC, okc, oks, okv]
  by_cases h18 : c < 1000000000000000000
  · refine ⟨0, 1 + (c * 7919 + 104729 * k) % 2147483646, ?_, src _ _ (by omega) ?_ ?_⟩
    · rw [callF_at (gf_at (d := d__law_source) (by rfl))]
      have := fin 0 (1 + (c * 7919 + 104729 * k) % 2147483646)
      simp [srcC] at this
      simp [runFn, d__law_source, start, e1, opD, h18, srcC, this]
    · have := Int.emod_nonneg (c * 7919 + 104729 * k) (b := 2147483646) (by omega); omega
    · have := Int.emod_lt_of_pos (c * 7919 + 104729 * k) (b := 2147483646) (by omega); omega
  · refine ⟨c, 1 + (c + k) % 2147483646, ?_, src _ _ hc ?_ ?_⟩
    · rw [callF_at (gf_at (d := d__law_source) (by rfl))]
      have := fin c (1 + (c + k) % 2147483646)
      simp [srcC] at this
      simp [runFn, d__law_source, start, e1, opD, h18, srcC, this]
    · have := Int.emod_nonneg (c + k) (b := 2147483646) (by omega); omega
    · have := Int.emod_lt_of_pos (c + k) (b := 2147483646) (by omega); omega
/-! ### comprehensions -/
section
variable {C : Calls} {e : E} {p : Pat} {it c elt : E} {own : List Nat} {ρ : Env} {S0 S1 : Store} {α : Type}
theorem comp_filF (f : α → Val) (t : α → Bool) (g : α → D) (as : List α) (he : e = .comp false p it c elt own) (hi : evI C it ρ S0 = some (as.map f, S1))
    (hb : ∀ a ∈ as, ∃ ρ', bindP p (f a) (wipe ρ own) = some ρ' ∧ evE C c ρ' S1 = some (.d (.bl (t a)), S1) ∧ (t a = true → evE C elt ρ' S1 = some (.d (g a), S1))) :
    evE C e ρ S0 = some (.d (.lst ((as.filter t).map g)), S1) := by
  subst he
  rw [evE, hi]
  simp only [bnd_some]
  have key : ∀ as : List α, (∀ a ∈ as, ∃ ρ', bindP p (f a) (wipe ρ own) = some ρ' ∧ evE C c ρ' S1 = some (.d (.bl (t a)), S1) ∧ (t a = true → evE C elt ρ' S1 = some (.d (g a), S1))) →
      evLc (fun v ρ S => match bindP p v ρ with
      | some ρ => bnd (evE C c ρ S) fun b S => match b with
        | .d (.bl true) => bnd (evE C elt ρ S) fun y S => some ([y], S)
        | .d (.bl false) => some ([], S)
        | _ => none
      | none => none) (as.map f) (wipe ρ own) S1 = some (((as.filter t).map g).map .d, S1) := by
    intro as
    induction as with
    | nil => intro _; rfl
    | cons a as ih =>
      intro h
      obtain ⟨ρ', e1, e2, e3⟩ := h a List.mem_cons_self
      have ih' := ih fun a m => h a (List.mem_cons_of_mem _ m)
      simp only [List.map_cons, evLc, e1, e2, bnd_some]
      cases ht : t a with
      | true => simp only [e3 ht, bnd_some, ih', List.filter_cons, ht, if_true, List.map_cons, List.singleton_append]
      | false => simp [ih', List.filter_cons, ht, -List.map_map]
  refine Eq.trans (congrArg (fun z => bnd z fun vs S => mkL false vs S) (key as hb)) ?_
  simp [-List.map_map]
theorem comp_mapF (f : α → Val) (g : α → D) (as : List α) (he : e = .comp false p it (.bl true) elt own) (hi : evI C it ρ S0 = some (as.map f, S1))
    (hb : ∀ a ∈ as, ∃ ρ', bindP p (f a) (wipe ρ own) = some ρ' ∧ evE C elt ρ' S1 = some (.d (g a), S1)) : evE C e ρ S0 = some (.d (.lst (as.map g)), S1) := by
  have := comp_filF f (fun _ => true) g as he hi fun a m => by
    obtain ⟨ρ', e1, e2⟩ := hb a m
    exact ⟨ρ', e1, by simp, fun _ => e2⟩
  rwa [List.filter_eq_self.mpr (fun _ _ => rfl)] at this
end
theorem bools_mp {α : Type} (t : α → Bool) : ∀ as : List α, bools (as.map fun a => D.bl (t a)) = some (as.map t)
  | [] => rfl
  | a :: as => by simp [bools, bools_mp t as]
@[simp] theorem b1_allM {α : Type} {t : α → Bool} {as : List α} {S : Store} : b1V .all (.d (.lst (as.map fun a => D.bl (t a)))) S = some (.d (.bl (as.all t)), S) := by
  simp [b1V, bools_mp, List.all_map]
@[simp] theorem b1_anyM {α : Type} {t : α → Bool} {as : List α} {S : Store} : b1V .any (.d (.lst (as.map fun a => D.bl (t a)))) S = some (.d (.bl (as.any t)), S) := by
  simp [b1V, bools_mp, List.any_map]
@[simp] theorem evI_tupD {C : Calls} {xs : List D} {ρ : Env} {S : Store} {e : E} (h : evE C e ρ S = some (.d (.tup xs), S)) : evI C (.seq e) ρ S = some (xs.map .d, S) := by simp [h]
end PI
set_option Elab.async false
set_option linter.all false
set_option maxRecDepth 100000
set_option maxHeartbeats 2000000
/-! SQ1: is_id to is_page on pages. -/
namespace PI
open PySem LW
section
variable {α : Type} {a b c d e f g : α} {r : List α}
@[simp] theorem atI_0 : L2.atI (a :: r) 0 = some a := by simp [L2.atI, L2.ixN]
@[simp] theorem atI_1 : L2.atI (a :: b :: r) 1 = some b := by
  simp only [L2.atI, L2.ixN, List.length_cons]
  rw [if_pos (by omega), if_pos (by omega)]; rfl
@[simp] theorem atI_2 : L2.atI (a :: b :: c :: r) 2 = some c := by
  simp only [L2.atI, L2.ixN, List.length_cons]
  rw [if_pos (by omega), if_pos (by omega)]; rfl
@[simp] theorem atI_3 : L2.atI (a :: b :: c :: d :: r) 3 = some d := by
  simp only [L2.atI, L2.ixN, List.length_cons]
  rw [if_pos (by omega), if_pos (by omega)]; rfl
@[simp] theorem atI_4 : L2.atI (a :: b :: c :: d :: e :: r) 4 = some e := by
  simp only [L2.atI, L2.ixN, List.length_cons]
  rw [if_pos (by omega), if_pos (by omega)]; rfl
@[simp] theorem atI_5 : L2.atI (a :: b :: c :: d :: e :: f :: r) 5 = some f := by
  simp only [L2.atI, L2.ixN, List.length_cons]
  rw [if_pos (by omega), if_pos (by omega)]; rfl
@[simp] theorem atI_6 : L2.atI (a :: b :: c :: d :: e :: f :: g :: r) 6 = some g := by
  simp only [L2.atI, L2.ixN, List.length_cons]
  rw [if_pos (by omega), if_pos (by omega)]; rfl
end
@[simp] theorem idx_tup {xs : List D} {i : Int} {S : Store} : idxV (.d (.tup xs)) (.d (.int i)) S = (L2.atI xs i).map .d := rfl
@[simp] theorem idx_lst {xs : List D} {i : Int} {S : Store} : idxV (.d (.lst xs)) (.d (.int i)) S = (L2.atI xs i).map .d := rfl
@[simp] theorem idx_dct {kvs : List (T × Val)} {k : T} {S : Store} : idxV (.dct kvs) (.d (.str k)) S = lkp k kvs := rfl
@[simp] theorem ty_beq {a b : Ty} : (a == b) = decide (a = b) := rfl
@[simp] theorem tyVs_d {x : D} {S : Store} {t : Ty} : tyVs (.d x) S [t] = some (tyD x t) := by
  simp only [tyVs, tyV]
  cases tyD x t <;> rfl
@[simp] theorem tyD_str {t : T} {y : Ty} : tyD (.str t) y = (y == .str) := rfl
@[simp] theorem tyD_tup {t : List D} {y : Ty} : tyD (.tup t) y = (y == .tup) := rfl
@[simp] theorem tyD_lst {t : List D} {y : Ty} : tyD (.lst t) y = (y == .lst) := rfl
@[simp] theorem tyD_bl {t : Bool} {y : Ty} : tyD (.bl t) y = (y == .bool || y == .int) := rfl
@[simp] theorem tyD_non {y : Ty} : tyD .non y = false := rfl
theorem eq_strs : ∀ (ts : List T) (t : T), ((sds ts).any fun z => D.eq z (.str t)) = decide (t ∈ ts)
  | [], t => rfl
  | u :: ts, t => by
    have ih := eq_strs ts t
    unfold sds at ih ⊢
    simp only [List.map_cons, List.any_cons, ih, D.eq, List.mem_cons]
    by_cases h : u = t <;> by_cases h2 : t ∈ ts <;> simp [h, h2, Ne.symm] <;> exact fun z => h z.symm
theorem min_str {k : Nat} {t : T} : min k (D.dep (.str t)) ≤ 60 := by simp [D.dep]
@[simp] theorem cmp_in_ts {t : T} {ts : List T} : cmpD .isin (.str t) (.tup (sds ts)) = some (decide (t ∈ ts)) := by
  simp only [cmpD, min_str, if_true, eq_strs]
@[simp] theorem cmp_in_ls {t : T} {ts : List T} : cmpD .isin (.str t) (.lst (sds ts)) = some (decide (t ∈ ts)) := by
  simp only [cmpD, min_str, if_true, eq_strs]
@[simp] theorem cmp_ni_ts {t : T} {ts : List T} : cmpD .notin (.str t) (.tup (sds ts)) = some (!decide (t ∈ ts)) := by
  simp only [cmpD, min_str, if_true, eq_strs]
@[simp] theorem cmp_ni_ls {t : T} {ts : List T} : cmpD .notin (.str t) (.lst (sds ts)) = some (!decide (t ∈ ts)) := by
  simp only [cmpD, min_str, if_true, eq_strs]
theorem kinds_eq : g_KINDS = .tup (sds kindsT) := rfl
theorem letters_eq : g_LETTERS = .str letters := rfl
/-! ### what the program asks of a page -/
def isIdB (t : T) : Bool := decide (1 ≤ t.length) && decide (t.length ≤ 8) && t.all fun c => decide (c ∈ letters)
theorem isIdB_iff {t : T} : isIdB t = true ↔ idT t := by simp [isIdB, idT, and_assoc]
def isTextB (t : T) : Bool := decide (t.length ≤ 60)
def Pc.t : Pc → T
  | .tx t => t
  | .ho t => t
def isPcB : Pc → Bool
  | .tx t => isTextB t
  | .ho t => isIdB t
def isFgB : Fg → Bool
  | .b _ => true
  | .off t => isIdB t
def Fg.t : Fg → T
  | .b _ => []
  | .off t => t
def optB (f : Pc → Bool) : Option Pc → Bool
  | none => true
  | some p => f p
def isRefsB (rs : List T) : Bool := decide (rs.length ≤ 4) && rs.all isIdB
def isPB : Itm → Bool
  | .pc p => isPcB p
  | .bx .. => false
mutual
def fitsB : Int → Itm → Bool
  | _, .pc _ => false
  | dp, .bx id kind hid lab refs tip ins => decide (dp ≤ 5) && isIdB id && decide (kind ∈ kindsT) && isFgB hid && optB isPcB lab && optB isPcB tip && isRefsB refs && (decide (ins.length ≤ 6) && fitsA (dp + 1) ins) &&
      (if kind = imageT then ins.isEmpty else !decide (kind = fieldT) || ins.all isPB)
def fitsA : Int → List Itm → Bool
  | _, [] => true
  | dp, i :: is => (isPB i || fitsB dp i) && fitsA dp is
end
def fitsI (dp : Int) (is : List Itm) : Bool := decide (is.length ≤ 6) && fitsA dp is
theorem fitsA_all (dp : Int) : ∀ is : List Itm, fitsA dp is = is.all fun i => isPB i || fitsB dp i
  | [] => by simp [fitsA]
  | i :: is => by simp [fitsA, fitsA_all dp is]
/-- the texts and the lists in it are not too long for the machine -/
def bdI : Itm → Prop
  | .pc p => p.t.length ≤ 1000
  | .bx id kind hid lab refs tip ins => id.length ≤ 1000 ∧ kind.length ≤ 1000 ∧ hid.t.length ≤ 1000 ∧ (∀ y, lab = some y → y.t.length ≤ 1000) ∧ (∀ y, tip = some y → y.t.length ≤ 1000) ∧ refs.length ≤ 1000 ∧ (∀ x ∈ refs, x.length ≤ 1000) ∧ ins.length ≤ 1000
section
variable {K : Nat} {S : Store}
theorem is_idK {t : T} (hK : 1 ≤ K) (hl : t.length ≤ 1000) : callF GF K 0 false [.d (.str t)] S = some (.d (.bl (isIdB t)), S) := by
  obtain ⟨K, rfl⟩ := lv hK
  have hlm : t.length ≤ 16777216 := by omega
  refine call_p (d := d_is_id) rfl rfl ?_
  by_cases h1 : 1 ≤ t.length
  · by_cases h2 : t.length ≤ 8
    · have e := comp_mapF (C := callF GF K) (e := d_is_id_c0) (ρ := [some (.d (.str t)), none]) (S0 := S) (S1 := S) (fun c : Nat => .d (.str [c])) (fun c => .bl (decide (c ∈ letters))) t rfl (by simp [lim, hlm]) fun c hc =>
        ⟨_, rfl, by simp [wipe, letters_eq, cmpD]⟩
      have h1' : (1 : Int) ≤ (t.length : Int) := by omega
      have h2' : (t.length : Int) ≤ 8 := by omega
      simp [d_is_id, start, b1_len_s hlm, h1', h2', e, isIdB, h1, h2]
    · have h1' : (1 : Int) ≤ (t.length : Int) := by omega
      have h2' : ¬ (t.length : Int) ≤ 8 := by omega
      simp [d_is_id, start, b1_len_s hlm, h1', h2', isIdB, h1, h2]
  · have h1' : ¬ (1 : Int) ≤ (t.length : Int) := by omega
    simp [d_is_id, start, b1_len_s hlm, h1', isIdB, h1]
theorem is_textK {t : T} (hK : 1 ≤ K) (hl : t.length ≤ 1000) : callF GF K 1 false [.d (.str t)] S = some (.d (.bl (isTextB t)), S) := by
  obtain ⟨K, rfl⟩ := lv hK
  have hlm : t.length ≤ 16777216 := by omega
  refine call_p (d := d_is_text) rfl rfl ?_
  have : decide ((t.length : Int) ≤ 60) = decide (t.length ≤ 60) := by
    by_cases h : t.length ≤ 60 <;> simp [h] <;> omega
  simp [d_is_text, start, b1_len_s hlm, isTextB, this]
theorem is_pieceK {p : Pc} (hK : 2 ≤ K) (hl : p.t.length ≤ 1000) : callF GF K 2 false [.d p.d] S = some (.d (.bl (isPcB p)), S) := by
  obtain ⟨K, rfl⟩ := lv (c := 1) (by omega : 1 ≤ K)
  refine call_p (d := d_is_piece) rfl rfl ?_
  cases p with
  | tx t => simp [d_is_piece, start, Pc.d, is_textK (K := K) (t := t) (by omega) hl, isPcB]
  | ho t => simp [d_is_piece, start, Pc.d, is_idK (K := K) (t := t) (by omega) hl, isPcB]
theorem is_piece_box {i : Itm} (hK : 2 ≤ K) (h : i.isB = true) : callF GF K 2 false [.d i.d] S = some (.d (.bl false), S) := by
  obtain ⟨K, rfl⟩ := lv (c := 1) (by omega : 1 ≤ K)
  refine call_p (d := d_is_piece) rfl rfl ?_
  cases i with
  | pc p => cases h
  | bx id kind hid lab refs tip ins => simp [d_is_piece, start, Itm.d]
theorem is_pieceI {i : Itm} (hK : 2 ≤ K) (hl : bdI i) : callF GF K 2 false [.d i.d] S = some (.d (.bl (isPB i)), S) := by
  cases i with
  | pc p => exact is_pieceK hK hl
  | bx id kind hid lab refs tip ins => exact is_piece_box hK rfl
theorem is_flagK {p : Fg} (hK : 2 ≤ K) (hl : p.t.length ≤ 1000) : callF GF K 3 false [.d p.d] S = some (.d (.bl (isFgB p)), S) := by
  obtain ⟨K, rfl⟩ := lv (c := 1) (by omega : 1 ≤ K)
  refine call_p (d := d_is_flag) rfl rfl ?_
  cases p with
  | b x => simp [d_is_flag, start, Fg.d, isFgB]
  | off t => simp [d_is_flag, start, Fg.d, is_idK (K := K) (t := t) (by omega) hl, isFgB]
theorem is_refsK {rs : List T} (hK : 2 ≤ K) (hl : ∀ x ∈ rs, x.length ≤ 1000) : callF GF K 4 false [.d (.tup (sds rs))] S = some (.d (.bl (isRefsB rs)), S) := by
  obtain ⟨K, rfl⟩ := lv (c := 1) (by omega : 1 ≤ K)
  refine call_p (d := d_is_references) rfl rfl ?_
  have e := comp_mapF (C := callF GF K) (e := d_is_references_c0) (ρ := [some (.d (.tup (sds rs))), none]) (S0 := S) (S1 := S) (fun c : T => .d (.str c)) (fun c => .bl (isIdB c)) rs rfl (by simp [sds]) fun c hc =>
    ⟨_, rfl, by simp [wipe, is_idK (K := K) (by omega) (hl c hc)]⟩
  by_cases h : 4 < rs.length
  · have h' : (4 : Int) < (rs.length : Int) := by omega
    have h2 : ¬ rs.length ≤ 4 := by omega
    simp [d_is_references, start, h', isRefsB, h2]
  · have h' : ¬ (4 : Int) < (rs.length : Int) := by omega
    have h2 : rs.length ≤ 4 := by omega
    simp [d_is_references, start, h', isRefsB, h2, e]
theorem is_boxK {i : Itm} (hK : 1 ≤ K) : callF GF K 5 false [.d i.d] S = some (.d (.bl i.isB), S) := by
  obtain ⟨K, rfl⟩ := lv hK
  refine call_p (d := d_is_box) rfl rfl ?_
  cases i with
  | pc p => cases p <;> simp [d_is_box, start, Itm.d, Pc.d, Itm.isB]
  | bx id kind hid lab refs tip ins => simp [d_is_box, start, Itm.d, Itm.isB]
end
end PI
set_option Elab.async false
set_option linter.all false
set_option maxRecDepth 100000
set_option maxHeartbeats 2000000
/-! SQ2: fits, listed. -/
namespace PI
open PySem LW
section
variable {K : Nat} {S : Store}
theorem all_bd {i : Itm} {is : List Itm} (h : Itms.all bdI is) (m : i ∈ is) : i.all bdI := Itms.all_iff.mp h i m
theorem bd_self {i : Itm} (h : i.all bdI) : bdI i := Itm.all_self h
theorem Itms.ht_mem : ∀ {is : List Itm} {i : Itm}, i ∈ is → i.ht ≤ Itms.ht is
  | j :: is, i, m => by
    simp only [Itms.ht]
    rcases List.mem_cons.mp m with rfl | m
    · omega
    · have := Itms.ht_mem m; omega
theorem Itms.sz_mem : ∀ {is : List Itm} {i : Itm}, i ∈ is → i.sz ≤ Itms.sz is
  | j :: is, i, m => by
    simp only [Itms.sz]
    rcases List.mem_cons.mp m with rfl | m
    · omega
    · have := Itms.sz_mem m; omega
@[simp] theorem isNoneV_pc {p : Pc} : isNoneV (.d p.d) = false := by cases p <;> rfl
@[simp] theorem isNoneV_opc {o : Option Pc} : isNoneV (.d (opc o)) = o.isNone := by
  cases o with
  | none => rfl
  | some p => exact isNoneV_pc
/-- a loop that looks at label and tip -/
theorem fits_loop {lab tip : Option Pc} {a b c d e f g h i j u : Option Val} (hK : 2 ≤ K) (h1 : ∀ y, lab = some y → y.t.length ≤ 1000) (h2 : ∀ y, tip = some y → y.t.length ≤ 1000) :
    evFor (bindP (.nm 2)) (evSs (callF GF K) d_fits_box_l0) [.d (opc lab), .d (opc tip)] [a, b, u, c, d, e, f, g, h, i, j] S = if (optB isPcB lab && optB isPcB tip) = true then some (.nx [a, b, some (.d (opc tip)), c, d, e, f, g, h, i, j] S) else some (.ret (.d (.bl false)) S) := by
  have one : ∀ (o : Option Pc), (∀ y, o = some y → y.t.length ≤ 1000) → evSs (callF GF K) d_fits_box_l0 [a, b, some (.d (opc o)), c, d, e, f, g, h, i, j] S = if optB isPcB o = true then some (.nx [a, b, some (.d (opc o)), c, d, e, f, g, h, i, j] S) else some (.ret (.d (.bl false)) S) := fun o ho => by
    cases o with
    | none => simp [d_fits_box_l0, optB]
    | some p =>
      have e1 := is_pieceK (K := K) (S := S) hK (ho p rfl)
      cases hp : isPcB p <;> simp [d_fits_box_l0, opc, optB, hp, e1]
  simp only [evFor_cons, bindP_nm, List.set_cons_succ, List.set_cons_zero, one lab h1, one tip h2, forS_ite, forS_nx, forS_ret, evFor_nil]
  cases optB isPcB lab <;> cases optB isPcB tip <;> simp
theorem fits_box_of {i : Itm} {dp : Int} (hK : 3 ≤ K) (hb : i.all bdI) (hI : ∀ id kind hid lab refs tip ins, i = .bx id kind hid lab refs tip ins → callF GF K 7 false [.d (.tup (Itms.ds ins)), .d (.int (dp + 1))] S = some (.d (.bl (fitsI (dp + 1) ins)), S)) :
    callF GF (K + 1) 6 false [.d i.d, .d (.int dp)] S = some (.d (.bl (fitsB dp i)), S) := by
  refine call_p (d := d_fits_box) rfl rfl ?_
  have e3 := is_boxK (K := K) (S := S) (i := i) (by omega)
  by_cases h5 : 5 < dp
  · have h5' : ¬ dp ≤ 5 := by omega
    cases i <;> simp [d_fits_box, start, h5, fitsB, h5']
  · have h5' : dp ≤ 5 := by omega
    cases i with
    | pc p => simp [d_fits_box, start, h5, e3, Itm.isB, fitsB]
    | bx id kind hid lab refs tip ins =>
      simp only [Itm.all, bdI] at hb
      obtain ⟨⟨b1, b2, b3, b4, b5, b6, b7, b8⟩, b9⟩ := hb
      have g1 := is_idK (K := K) (S := S) (by omega) b1
      have g2 := is_flagK (K := K) (S := S) (by omega) b3
      have g3 := is_refsK (K := K) (S := S) (by omega) b7
      have g4 := hI _ _ _ _ _ _ _ rfl
      have g5 := fun (w0 w1 w2 w3 w4 w5 w6 w7 w8 w9 u : Option Val) => fits_loop (K := K) (S := S) (a := w0) (b := w1) (c := w2) (d := w3) (e := w4) (f := w5) (g := w6) (h := w7) (i := w8) (j := w9) (u := u) (by omega) b4 b5
      have g6 : ∀ (w0 w1 w2 w3 w4 w5 w6 w7 w8 w9 : Option Val), evE (callF GF K) d_fits_box_c0 [w0, w1, w2, w3, w4, w5, w6, w7, w8, some (.d (.tup (Itms.ds ins))), w9] S = some (.d (.lst (ins.map fun i => .bl (isPB i))), S) := fun w0 w1 w2 w3 w4 w5 w6 w7 w8 w9 => by
        refine comp_mapF (fun i : Itm => .d i.d) (fun i => .bl (isPB i)) ins rfl (by simp [Itms.ds_eq]) fun i hi => ⟨_, rfl, ?_⟩
        have e1 := is_pieceI (K := K) (S := S) (i := i) (by omega) (bd_self (all_bd b9 hi))
        simp [wipe, e1]
      simp only [Itm.d] at e3
      have k1 : (kind = [105, 109, 97, 103, 101]) = (kind = imageT) := rfl
      have k2 : (kind = [102, 105, 101, 108, 100]) = (kind = fieldT) := rfl
      have k3 : (Itms.ds ins).isEmpty = ins.isEmpty := by cases ins <;> rfl
      simp only [d_fits_box, start, fitsB, Itm.d, evSs_cons]
      simp [h5, h5', e3, Itm.isB, g1, g2, g3, g4, g5, g6, kinds_eq]
      rw [show (decide (ins.length ≤ 6) && fitsA (dp + 1) ins) = fitsI (dp + 1) ins from rfl, k3]
      generalize isIdB id = c1
      generalize isFgB hid = c2
      generalize optB isPcB lab = c3
      generalize optB isPcB tip = c4
      generalize isRefsB refs = c5
      generalize fitsI (dp + 1) ins = c6
      generalize ins.all isPB = c7
      by_cases hm : kind = imageT
      · subst hm; cases c1 <;> cases c2 <;> cases c3 <;> cases c4 <;> cases c5 <;> cases c6 <;> simp
      · by_cases hf : kind = fieldT
        · subst hf; cases c1 <;> cases c2 <;> cases c3 <;> cases c4 <;> cases c5 <;> cases c6 <;> simp
        · by_cases hk : kind = buttonT ∨ kind = linkT ∨ kind = headingT ∨ kind = groupT
          · rcases hk with hk | hk | hk | hk <;> subst hk <;> cases c1 <;> cases c2 <;> cases c3 <;> cases c4 <;> cases c5 <;> cases c6 <;> simp
          · simp only [not_or] at hk
            simp [hm, hf, hk]
theorem fitsK : ∀ (h : Nat) (is : List Itm) (dp : Int) (K : Nat), Itms.ht is ≤ h → Itms.all bdI is → 4 + 2 * h ≤ K → callF GF K 7 false [.d (.tup (Itms.ds is)), .d (.int dp)] S = some (.d (.bl (fitsI dp is)), S) := by
  intro h
  induction h with
  | zero =>
    intro is dp K hh ha hK
    obtain ⟨K, rfl⟩ := lv (c := 2) (by omega : 2 ≤ K)
    refine call_p (d := d_fits_items) rfl rfl ?_
    have e := comp_mapF (C := callF GF (K + 1)) (e := d_fits_items_c0) (ρ := [some (.d (.tup (Itms.ds is))), some (.d (.int dp)), none]) (S0 := S) (S1 := S) (fun i : Itm => .d i.d) (fun i => .bl (isPB i || fitsB dp i)) is rfl (by simp [Itms.ds_eq]) fun i hi => by
      have e1 := is_pieceI (K := K + 1) (S := S) (i := i) (by omega) (bd_self (all_bd ha hi))
      have hi0 : i.ht = 0 := by have := Itms.ht_mem hi; omega
      cases i with
      | bx id kind hid lab refs tip ins => simp [Itm.ht] at hi0
      | pc p =>
        have e2 : callF GF (K + 1) 6 false [.d (Itm.pc p).d, .d (.int dp)] S = some (.d (.bl (fitsB dp (.pc p))), S) := by
          refine call_p (d := d_fits_box) rfl rfl ?_
          have e3 := is_boxK (K := K) (S := S) (i := .pc p) (by omega)
          by_cases h5 : 5 < dp
          · simp [d_fits_box, start, h5, fitsB]
          · simp [d_fits_box, start, h5, e3, Itm.isB, fitsB]
        refine ⟨_, rfl, ?_⟩
        cases hp : isPB (.pc p) <;> simp [wipe, e1, hp, e2]
    have h7 : ((6 : Int) < (is.length : Int)) = (6 < is.length) := by apply propext; omega
    by_cases h6 : 6 < is.length
    · have h8 : ¬ is.length ≤ 6 := by omega
      simp [d_fits_items, start, h7, h6, fitsI, h8]
    · have h8 : is.length ≤ 6 := by omega
      simp [d_fits_items, start, h7, h6, e, fitsI, h8, fitsA_all]
  | succ h ih =>
    intro is dp K hh ha hK
    obtain ⟨K, rfl⟩ := lv (c := 2) (by omega : 2 ≤ K)
    refine call_p (d := d_fits_items) rfl rfl ?_
    have e := comp_mapF (C := callF GF (K + 1)) (e := d_fits_items_c0) (ρ := [some (.d (.tup (Itms.ds is))), some (.d (.int dp)), none]) (S0 := S) (S1 := S) (fun i : Itm => .d i.d) (fun i => .bl (isPB i || fitsB dp i)) is rfl (by simp [Itms.ds_eq]) fun i hi => by
      have e1 := is_pieceI (K := K + 1) (S := S) (i := i) (by omega) (bd_self (all_bd ha hi))
      have hi1 : i.ht ≤ h + 1 := by have := Itms.ht_mem hi; omega
      have e2 := fits_box_of (K := K) (S := S) (dp := dp) (by omega) (all_bd ha hi) fun id kind hid lab refs tip ins hi2 => by
        subst hi2
        simp only [Itm.ht] at hi1
        have := all_bd ha hi
        simp only [Itm.all] at this
        exact ih ins (dp + 1) K (by omega) this.2 (by omega)
      refine ⟨_, rfl, ?_⟩
      cases hp : isPB i <;> simp [wipe, e1, hp, e2]
    have h7 : ((6 : Int) < (is.length : Int)) = (6 < is.length) := by apply propext; omega
    by_cases h6 : 6 < is.length
    · have h8 : ¬ is.length ≤ 6 := by omega
      simp [d_fits_items, start, h7, h6, fitsI, h8]
    · have h8 : is.length ≤ 6 := by omega
      simp [d_fits_items, start, h7, h6, e, fitsI, h8, fitsA_all]
@[simp] theorem Itms.dsV (is : List Itm) : (Itms.ds is).map Val.d = is.map fun i => Val.d i.d := by simp [Itms.ds_eq]
/-! ### listed -/
mutual
/-- the boxes with their depths, in the order of the page -/
def Itm.lst : Int → Itm → List (Int × Itm)
  | _, .pc _ => []
  | dp, .bx id kind hid lab refs tip ins => (dp, .bx id kind hid lab refs tip ins) :: Itms.lst (dp + 1) ins
def Itms.lst : Int → List Itm → List (Int × Itm)
  | _, [] => []
  | dp, i :: is => i.lst dp ++ Itms.lst dp is
end
def lstD (p : Int × Itm) : D := .tup [.int p.1, p.2.d]
mutual
theorem Itm.lst_len (dp : Int) : ∀ i : Itm, (i.lst dp).length ≤ i.sz
  | .pc _ => by simp [Itm.lst]
  | .bx _ _ _ _ _ _ ins => by
    have := Itms.lst_len (dp + 1) ins
    simp [Itm.lst, Itm.sz]; omega
theorem Itms.lst_len (dp : Int) : ∀ is : List Itm, (Itms.lst dp is).length ≤ Itms.sz is
  | [] => by simp [Itms.lst]
  | i :: is => by
    have := Itm.lst_len dp i
    have := Itms.lst_len dp is
    simp [Itms.lst, Itms.sz]; omega
end
theorem op_add_ll {xs ys : List D} (h : xs.length + ys.length ≤ 16777216) : opD .add (.lst xs) (.lst ys) = some (.lst (xs ++ ys)) := by
  have : xs.length + ys.length ≤ lim := h
  simp only [opD, this, if_true]
theorem op_add_tt {xs ys : List D} (h : xs.length + ys.length ≤ 16777216) : opD .add (.tup xs) (.tup ys) = some (.tup (xs ++ ys)) := by
  have : xs.length + ys.length ≤ lim := h
  simp only [opD, this, if_true]
theorem listed_loop {e0 : Option Val} {dp : Int} (hK : 1 ≤ K) : ∀ (is : List Itm) (acc : List D) (u : Option Val), (∀ id kind hid lab refs tip ins, (Itm.bx id kind hid lab refs tip ins) ∈ is → callF GF K 8 false [.d (.tup (Itms.ds ins)), .d (.int (dp + 1))] S = some (.d (.lst ((Itms.lst (dp + 1) ins).map lstD)), S)) →
    acc.length + Itms.sz is ≤ 10000 →
    ∃ u', evFor (bindP (.nm 3)) (evSs (callF GF K) d_listed_l0) (is.map fun i => .d i.d) [e0, some (.d (.int dp)), some (.d (.lst acc)), u] S = some (.nx [e0, some (.d (.int dp)), some (.d (.lst (acc ++ (Itms.lst dp is).map lstD))), u'] S)
  | [], acc, u, _, _ => ⟨u, by simp [Itms.lst]⟩
  | i :: is, acc, u, h, hs => by
    simp only [Itms.sz] at hs
    have e1 := is_boxK (K := K) (S := S) (i := i) hK
    have hl := Itm.lst_len dp i
    obtain ⟨u', ih⟩ := listed_loop (e0 := e0) hK is (acc ++ (i.lst dp).map lstD) (some (.d i.d)) (fun id kind hid lab refs tip ins m => h id kind hid lab refs tip ins (List.mem_cons_of_mem _ m)) (by simp; omega)
    refine ⟨u', for_step (ρ1 := [e0, some (.d (.int dp)), some (.d (.lst acc)), some (.d i.d)]) rfl ?_ (by rw [ih, Itms.lst, List.map_append, List.append_assoc])⟩
    cases i with
    | pc p => simp [d_listed_l0, e1, Itm.isB, Itm.lst]
    | bx id kind hid lab refs tip ins =>
      have e2 := h id kind hid lab refs tip ins List.mem_cons_self
      simp only [Itm.sz] at hs
      have hl2 := Itms.lst_len (dp + 1) ins
      have q1 : acc.length + 1 ≤ 16777216 := by omega
      have q2 : acc.length + 1 + ((Itms.lst (dp + 1) ins).map lstD).length ≤ 16777216 := by simp; omega
      have o1 := op_add_ll (xs := acc) (ys := [.tup [.int dp, Itm.d (.bx id kind hid lab refs tip ins)]]) (by simpa using q1)
      have o2 := op_add_ll (xs := acc ++ [.tup [.int dp, Itm.d (.bx id kind hid lab refs tip ins)]]) (ys := (Itms.lst (dp + 1) ins).map lstD) (by simpa using q2)
      simp only [Itm.d] at e1 o1 o2
      simp [d_listed_l0, Itm.d, e1, Itm.isB, e2, o1, o2, lstD, Itm.lst]
theorem listedK : ∀ (h : Nat) (is : List Itm) (dp : Int) (K : Nat), Itms.ht is ≤ h → Itms.sz is ≤ 10000 → 2 + h ≤ K → callF GF K 8 false [.d (.tup (Itms.ds is)), .d (.int dp)] S = some (.d (.lst ((Itms.lst dp is).map lstD)), S) := by
  intro h
  induction h with
  | zero =>
    intro is dp K hh hs hK
    obtain ⟨K, rfl⟩ := lv (c := 1) (by omega : 1 ≤ K)
    refine call_p (d := d_listed) rfl rfl ?_
    obtain ⟨u, e⟩ := listed_loop (K := K) (S := S) (e0 := some (.d (.tup (Itms.ds is)))) (dp := dp) (by omega) is [] none (fun id kind hid lab refs tip ins m => by
      have := Itms.ht_mem m
      simp only [Itm.ht] at this; omega) (by simp; omega)
    simp [d_listed, start, e]
  | succ h ih =>
    intro is dp K hh hs hK
    obtain ⟨K, rfl⟩ := lv (c := 1) (by omega : 1 ≤ K)
    refine call_p (d := d_listed) rfl rfl ?_
    obtain ⟨u, e⟩ := listed_loop (K := K) (S := S) (e0 := some (.d (.tup (Itms.ds is)))) (dp := dp) (by omega) is [] none (fun id kind hid lab refs tip ins m => by
      have h1 := Itms.ht_mem m
      have h2 := Itms.sz_mem m
      simp only [Itm.ht] at h1
      simp only [Itm.sz] at h2
      exact ih ins (dp + 1) K (by omega) (by omega) (by omega)) (by simp; omega)
    simp [d_listed, start, e]
end
end PI
set_option Elab.async false
set_option linter.all false
set_option maxRecDepth 100000
set_option maxHeartbeats 2000000
/-! SQ3: holes, switches, is_page. -/
namespace PI
open PySem LW
def setT (xs : List T) : List T := sortT (dedupT xs)
theorem setT_mem {xs : List T} {x : T} : x ∈ setT xs ↔ x ∈ xs := by unfold setT; rw [(sortT_perm _).mem_iff, dedupT_mem]
theorem setT_nodup (xs : List T) : (setT xs).Nodup := (sortT_perm _).nodup_iff.mpr (dedupT_nodup xs)
theorem setT_ext {xs ys : List T} (h : ∀ x, x ∈ xs ↔ x ∈ ys) : setT xs = setT ys :=
  sortT_perm_eq ((List.perm_ext_iff_of_nodup (dedupT_nodup xs) (dedupT_nodup ys)).mpr fun x => by rw [dedupT_mem, dedupT_mem]; exact h x)
theorem setT_perm {xs ys : List T} (h : xs.Perm ys) : setT xs = setT ys := setT_ext fun x => h.mem_iff
/-- ascending -/
def Asc (xs : List T) : Prop := xs.Pairwise fun a b => a < b
theorem asc_of {xs : List T} (h : Up xs) (n : xs.Nodup) : Asc xs :=
  (List.pairwise_and_iff.mpr ⟨h, n⟩).imp fun ⟨a, b⟩ => lt_tot a (Ne.symm b)
theorem setT_asc (xs : List T) : Asc (setT xs) := asc_of (sortT_up _) (setT_nodup xs)
theorem dedupT_len (xs : List T) : (dedupT xs).length ≤ xs.length := by
  induction xs with
  | nil => simp [dedupT]
  | cons x xs ih => unfold dedupT; split <;> simp <;> omega
theorem setT_len_le (xs : List T) : (setT xs).length ≤ xs.length := by unfold setT; rw [(sortT_perm _).length_eq]; exact dedupT_len xs
theorem setT_sub_len {xs ys : List T} (h : ∀ x ∈ xs, x ∈ ys) : (setT xs).length ≤ ys.length := by
  have h1 : ∀ (l m : List T), l.Nodup → (∀ x ∈ l, x ∈ m) → l.length ≤ m.length := by
    intro l
    induction l with
    | nil => intro m _ _; simp
    | cons a l ih =>
      intro m nd hs
      obtain ⟨n1, n2⟩ := List.nodup_cons.mp nd
      have ha := hs a List.mem_cons_self
      have := ih (m.erase a) n2 fun x hx => by
        have hne : x ≠ a := fun e => n1 (e ▸ hx)
        exact (List.mem_erase_of_ne hne).mpr (hs x (List.mem_cons_of_mem _ hx))
      rw [List.length_erase_of_mem ha] at this
      have := List.length_pos_of_mem ha
      simp; omega
  exact h1 _ _ (setT_nodup xs) fun x hx => h x (setT_mem.mp hx)
section
variable {C : Calls} {e : E} {p : Pat} {it c elt : E} {own : List Nat} {ρ : Env} {S0 S1 : Store} {α : Type}
/-- the set of some texts, in order -/
theorem scomp_filF (f : α → Val) (t : α → Bool) (g : α → T) (as : List α) (he : e = .scomp p it c elt own) (hi : evI C it ρ S0 = some (as.map f, S1)) (hl : ((as.filter t).map g).length < 64)
    (hb : ∀ a ∈ as, ∃ ρ', bindP p (f a) (wipe ρ own) = some ρ' ∧ evE C c ρ' S1 = some (.d (.bl (t a)), S1) ∧ (t a = true → evE C elt ρ' S1 = some (.d (.str (g a)), S1))) :
    evE C e ρ S0 = some (.d (.lst (sds (setT ((as.filter t).map g)))), S1) := by
  subst he
  rw [evE, hi]
  simp only [bnd_some]
  have key : ∀ as : List α, (∀ a ∈ as, ∃ ρ', bindP p (f a) (wipe ρ own) = some ρ' ∧ evE C c ρ' S1 = some (.d (.bl (t a)), S1) ∧ (t a = true → evE C elt ρ' S1 = some (.d (.str (g a)), S1))) →
      evLc (fun v ρ S => match bindP p v ρ with
      | some ρ => bnd (evE C c ρ S) fun b S => match b with
        | .d (.bl true) => bnd (evE C elt ρ S) fun y S => some ([y], S)
        | .d (.bl false) => some ([], S)
        | _ => none
      | none => none) (as.map f) (wipe ρ own) S1 = some ((sds ((as.filter t).map g)).map .d, S1) := by
    intro as
    induction as with
    | nil => intro _; rfl
    | cons a as ih =>
      intro h
      obtain ⟨ρ', e1, e2, e3⟩ := h a List.mem_cons_self
      have ih' := ih fun a m => h a (List.mem_cons_of_mem _ m)
      simp only [List.map_cons, evLc, e1, e2, bnd_some]
      cases ht : t a with
      | true => simp only [e3 ht, bnd_some, ih', List.filter_cons, ht, if_true, List.map_cons, List.singleton_append, sds]
      | false => simp [ih', List.filter_cons, ht, -List.map_map]
  refine Eq.trans (congrArg (fun z => bnd z _) (key as hb)) ?_
  have tx : texts (sds ((as.filter t).map g)) = some ((as.filter t).map g) := texts_of _
  simp only [bnd_some, datas_mapD, tx, hl, if_true]
  rfl
end
/-! ### the holes of a page -/
def Pc.hs : Pc → List T
  | .tx _ => []
  | .ho t => [t]
def oHs : Option Pc → List T
  | none => []
  | some p => p.hs
mutual
def Itm.hs : Itm → List T
  | .pc p => p.hs
  | .bx _ _ _ lab _ tip ins => oHs lab ++ oHs tip ++ Itms.hs ins
def Itms.hs : List Itm → List T
  | [] => []
  | i :: is => i.hs ++ Itms.hs is
end
def Itm.top : Itm → List T
  | .pc p => p.hs
  | .bx .. => []
def topH : List Itm → List T
  | [] => []
  | i :: is => i.top ++ topH is
def partsH : Itm → List T
  | .pc _ => []
  | .bx _ _ _ lab _ tip ins => oHs lab ++ oHs tip ++ topH ins
mutual
theorem Itm.hs_perm (dp : Int) : ∀ i : Itm, (i.top ++ (i.lst dp).flatMap fun p => partsH p.2).Perm i.hs
  | .pc p => by simp [Itm.lst, Itm.top, Itm.hs]
  | .bx id kind hid lab refs tip ins => by
    have := Itms.hs_perm (dp + 1) ins
    simp only [Itm.top, Itm.lst, List.flatMap_cons, Itm.hs, List.nil_append]
    rw [show partsH (.bx id kind hid lab refs tip ins) = oHs lab ++ oHs tip ++ topH ins from rfl]
    simp only [List.append_assoc]
    exact List.Perm.append_left _ (List.Perm.append_left _ this)
theorem Itms.hs_perm (dp : Int) : ∀ is : List Itm, (topH is ++ (Itms.lst dp is).flatMap fun p => partsH p.2).Perm (Itms.hs is)
  | [] => by simp [topH, Itms.lst, Itms.hs]
  | i :: is => by
    have h1 := List.perm_iff_count.mp (Itm.hs_perm dp i)
    have h2 := List.perm_iff_count.mp (Itms.hs_perm dp is)
    rw [List.perm_iff_count]
    intro x
    have h1 := h1 x
    have h2 := h2 x
    simp only [topH, Itms.lst, Itms.hs, List.flatMap_append, List.count_append] at h1 h2 ⊢
    omega
end
/-- a piece or a box or nothing -/
def ItD (d : D) : Prop := (∃ o, d = opc o) ∨ ∃ i : Itm, d = i.d
def isHd : D → Bool
  | .tup xs => xs.length == 2
  | _ => false
def hdT : D → T
  | .tup [_, .str t] => t
  | _ => []
def dHoles (ds : List D) : List T := (ds.filter isHd).map hdT
theorem dHoles_app (xs ys : List D) : dHoles (xs ++ ys) = dHoles xs ++ dHoles ys := by simp [dHoles]
theorem dHoles_opc (o : Option Pc) : dHoles [opc o] = oHs o := by
  cases o with
  | none => rfl
  | some p => cases p <;> rfl
theorem dHoles_ds : ∀ is : List Itm, dHoles (Itms.ds is) = topH is
  | [] => rfl
  | i :: is => by
    rw [show Itms.ds (i :: is) = [i.d] ++ Itms.ds is by simp [Itms.ds], dHoles_app, dHoles_ds is]
    cases i with
    | pc p => cases p <;> rfl
    | bx id kind hid lab refs tip ins => simp [dHoles, Itm.d, isHd, Itm.top, topH]
def partsD : Itm → List D
  | .pc _ => []
  | .bx _ _ _ lab _ tip ins => [opc lab, opc tip] ++ Itms.ds ins
theorem dHoles_parts (i : Itm) : dHoles (partsD i) = partsH i := by
  cases i with
  | pc p => rfl
  | bx id kind hid lab refs tip ins =>
    rw [show partsD (.bx id kind hid lab refs tip ins) = [opc lab] ++ ([opc tip] ++ Itms.ds ins) by simp [partsD], dHoles_app, dHoles_app, dHoles_opc, dHoles_opc, dHoles_ds]
    simp [partsH]
theorem dHoles_flat {β : Type} (f : β → Itm) : ∀ xs : List β, dHoles (xs.flatMap fun b => partsD (f b)) = xs.flatMap fun b => partsH (f b)
  | [] => rfl
  | x :: xs => by simp [dHoles_app, dHoles_flat f xs, dHoles_parts]
mutual
theorem Itm.lst_box (dp : Int) : ∀ (i : Itm) (p : Int × Itm), p ∈ i.lst dp → p.2.isB = true
  | .pc _, p, m => by simp [Itm.lst] at m
  | .bx _ _ _ _ _ _ ins, p, m => by
    simp only [Itm.lst, List.mem_cons] at m
    rcases m with rfl | m
    · rfl
    · exact Itms.lst_box (dp + 1) ins p m
theorem Itms.lst_box (dp : Int) : ∀ (is : List Itm) (p : Int × Itm), p ∈ Itms.lst dp is → p.2.isB = true
  | [], p, m => by simp [Itms.lst] at m
  | i :: is, p, m => by
    simp only [Itms.lst, List.mem_append] at m
    exact m.elim (Itm.lst_box dp i p) (Itms.lst_box dp is p)
end
mutual
theorem Itm.lst_sz (dp : Int) : ∀ i : Itm, ((i.lst dp).flatMap fun p => partsD p.2).length + 1 ≤ 3 * i.sz
  | .pc _ => by simp [Itm.lst, Itm.sz]
  | .bx _ _ _ _ _ _ ins => by
    have := Itms.lst_sz (dp + 1) ins
    have := Itms.len_le ins
    simp [Itm.lst, Itm.sz, partsD] at *; omega
theorem Itms.lst_sz (dp : Int) : ∀ is : List Itm, ((Itms.lst dp is).flatMap fun p => partsD p.2).length + is.length ≤ 3 * Itms.sz is
  | [] => by simp [Itms.lst]
  | i :: is => by
    have := Itm.lst_sz dp i
    have := Itms.lst_sz dp is
    simp [Itms.lst, Itms.sz, List.flatMap_append] at *; omega
end
section
variable {K : Nat} {S : Store}
theorem holes_loop {e0 e4 : Option Val} {C : Calls} : ∀ (ps : List (Int × Itm)) (acc : List D) (u v : Option Val), (∀ p ∈ ps, p.2.isB = true) → acc.length + (ps.flatMap fun p => partsD p.2).length ≤ 100000 →
    ∃ u' v', evFor (bindP (.tp [.nm 2, .nm 3])) (evSs C d_holes_in_l0) (ps.map fun p => .d (lstD p)) [e0, some (.d (.lst acc)), u, v, e4] S = some (.nx [e0, some (.d (.lst (acc ++ ps.flatMap fun p => partsD p.2))), u', v', e4] S)
  | [], acc, u, v, _, _ => ⟨u, v, by simp⟩
  | p :: ps, acc, u, v, hb, hs => by
    have h1 := hb p List.mem_cons_self
    obtain ⟨dp, i⟩ := p
    cases i with
    | pc p => cases h1
    | bx id kind hid lab refs tip ins =>
      simp only [List.flatMap_cons, List.length_append, partsD, List.length_cons, List.length_nil, Itms.ds_len] at hs
      obtain ⟨u', v', ih⟩ := holes_loop (e0 := e0) (e4 := e4) (C := C) ps (acc ++ partsD (.bx id kind hid lab refs tip ins)) (some (.d (.int dp))) (some (.d (Itm.d (.bx id kind hid lab refs tip ins)))) (fun p m => hb p (List.mem_cons_of_mem _ m)) (by simp [partsD] at hs ⊢; omega)
      refine ⟨u', v', for_step (ρ1 := [e0, some (.d (.lst acc)), some (.d (.int dp)), some (.d (Itm.d (.bx id kind hid lab refs tip ins))), e4]) (by simp [lstD]) ?_ (by rw [ih]; simp)⟩
      have o1 := op_add_ll (xs := acc) (ys := [opc lab, opc tip]) (by simp; omega)
      have o2 := op_add_ll (xs := acc ++ [opc lab, opc tip]) (ys := Itms.ds ins) (by simp; omega)
      simp [d_holes_in_l0, Itm.d, o1, o2, partsD]
theorem holes_inK {is : List Itm} {h : Nat} (hh : Itms.ht is ≤ h) (hs : Itms.sz is ≤ 10000) (h64 : (Itms.hs is).length < 64) (hK : 3 + h ≤ K) : callF GF K 9 false [.d (.tup (Itms.ds is))] S = some (.d (.tup (sds (setT (Itms.hs is)))), S) := by
  obtain ⟨K, rfl⟩ := lv (c := 1) (by omega : 1 ≤ K)
  refine call_p (d := d_holes_in) rfl rfl ?_
  have e1 := listedK (S := S) h is 1 K hh hs (by omega)
  have hl := Itms.len_le is
  have hl2 := Itms.lst_sz 1 is
  obtain ⟨u, v, e2⟩ := holes_loop (S := S) (C := callF GF K) (e0 := some (.d (.tup (Itms.ds is)))) (e4 := none) (Itms.lst 1 is) (Itms.ds is) none none (Itms.lst_box 1 is) (by simp only [Itms.ds_len]; omega)
  have hp := Itms.hs_perm 1 is
  have hd : dHoles (Itms.ds is ++ (Itms.lst 1 is).flatMap fun p => partsD p.2) = topH is ++ (Itms.lst 1 is).flatMap fun p => partsH p.2 := by
    rw [dHoles_app, dHoles_ds, dHoles_flat]
  have hit : ∀ d ∈ Itms.ds is ++ (Itms.lst 1 is).flatMap fun p => partsD p.2, ItD d := by
    intro d m
    rcases List.mem_append.mp m with m | m
    · rw [Itms.ds_eq] at m
      obtain ⟨i, _, rfl⟩ := List.mem_map.mp m
      exact .inr ⟨i, rfl⟩
    · obtain ⟨⟨dp, i⟩, _, m⟩ := List.mem_flatMap.mp m
      cases i with
      | pc p => simp [partsD] at m
      | bx id kind hid lab refs tip ins =>
        simp only [partsD, List.cons_append, List.nil_append, List.mem_cons] at m
        rcases m with rfl | rfl | m
        · exact .inl ⟨_, rfl⟩
        · exact .inl ⟨_, rfl⟩
        · rw [Itms.ds_eq] at m
          obtain ⟨i, _, rfl⟩ := List.mem_map.mp m
          exact .inr ⟨i, rfl⟩
  have e3 := scomp_filF (C := callF GF K) (e := d_holes_in_c0) (ρ := [some (.d (.tup (Itms.ds is))), some (.d (.lst (Itms.ds is ++ (Itms.lst 1 is).flatMap fun p => partsD p.2))), u, v, none]) (S0 := S) (S1 := S) (fun d : D => .d d) isHd hdT (Itms.ds is ++ (Itms.lst 1 is).flatMap fun p => partsD p.2) rfl (by simp [-List.map_append]) (by
      rw [show ((List.filter isHd (Itms.ds is ++ (Itms.lst 1 is).flatMap fun p => partsD p.2)).map hdT) = dHoles (Itms.ds is ++ (Itms.lst 1 is).flatMap fun p => partsD p.2) from rfl, hd, hp.length_eq]; exact h64) fun d m => by
    refine ⟨_, rfl, ?_⟩
    rcases hit d m with ⟨o, rfl⟩ | ⟨i, rfl⟩
    · cases o with
      | none => simp [wipe, opc, isHd]
      | some p => cases p <;> simp [wipe, opc, Pc.d, isHd, hdT]
    · cases i with
      | pc p => cases p <;> simp [wipe, Itm.d, Pc.d, isHd, hdT]
      | bx id kind hid lab refs tip ins => simp [wipe, Itm.d, isHd, hdT]
  have e4 : ((List.filter isHd (Itms.ds is ++ (Itms.lst 1 is).flatMap fun p => partsD p.2)).map hdT) = topH is ++ (Itms.lst 1 is).flatMap fun p => partsH p.2 := hd
  rw [e4, setT_perm hp] at e3
  have e5 : (Itms.lst 1 is).map (Val.d ∘ lstD) = (Itms.lst 1 is).map fun p => .d (lstD p) := rfl
  simp [d_holes_in, start, e1, e5, e2, e3]
end
end PI
set_option Elab.async false
set_option linter.all false
set_option maxRecDepth 100000
set_option maxHeartbeats 2000000
/-! SQ4: switches, is_page. -/
namespace PI
open PySem LW
theorem call_n {k i : Nat} {d : Def} {args : List Val} {S S' : Store} {ρ : Env} (hd : GD[i]? = some d) (ha : args.length = d.fn.np)
    (h : evSs (callF GF k) d.fn.body (start d.fn args) S = some (.nx ρ S')) (hl : S'.length = S.length) : callF GF (k + 1) i false args S = some (.d .non, S') := by
  rw [callF_at (gf_at hd)]
  simp [runFn, ha, h, finish, okv, ← hl]
def Fg.sw : Fg → List T
  | .b _ => []
  | .off t => [t]
mutual
def Itm.sws : Itm → List T
  | .pc _ => []
  | .bx _ _ hid _ _ _ ins => hid.sw ++ Itms.sws ins
def Itms.sws : List Itm → List T
  | [] => []
  | i :: is => i.sws ++ Itms.sws is
end
def swOf : Itm → List T
  | .pc _ => []
  | .bx _ _ hid _ _ _ _ => hid.sw
def Itm.id : Itm → T
  | .pc _ => []
  | .bx id _ _ _ _ _ _ => id
mutual
theorem Itm.sws_eq (dp : Int) : ∀ i : Itm, ((i.lst dp).flatMap fun p => swOf p.2) = i.sws
  | .pc _ => by simp [Itm.lst, Itm.sws]
  | .bx _ _ _ _ _ _ ins => by
    simp only [Itm.lst, Itm.sws, List.flatMap_cons, Itms.sws_eq (dp + 1) ins]
    rfl
theorem Itms.sws_eq (dp : Int) : ∀ is : List Itm, ((Itms.lst dp is).flatMap fun p => swOf p.2) = Itms.sws is
  | [] => by simp [Itms.lst, Itms.sws]
  | i :: is => by simp only [Itms.lst, Itms.sws, List.flatMap_append, Itm.sws_eq dp i, Itms.sws_eq dp is]
end
mutual
theorem Itm.ids_eq (dp : Int) : ∀ i : Itm, ((i.lst dp).map fun p => p.2.id) = i.ids
  | .pc _ => by simp [Itm.lst, Itm.ids]
  | .bx _ _ _ _ _ _ ins => by
    simp only [Itm.lst, Itm.ids, List.map_cons, Itms.ids_eq (dp + 1) ins]
    rfl
theorem Itms.ids_eq (dp : Int) : ∀ is : List Itm, ((Itms.lst dp is).map fun p => p.2.id) = Itms.ids is
  | [] => by simp [Itms.lst, Itms.ids]
  | i :: is => by simp only [Itms.lst, Itms.ids, List.map_append, Itm.ids_eq dp i, Itms.ids_eq dp is]
end
def isOffI : Itm → Bool
  | .bx _ _ (.off _) _ _ _ _ => true
  | _ => false
def offI : Itm → T
  | .bx _ _ (.off t) _ _ _ _ => t
  | _ => []
theorem sw_filter : ∀ ps : List (Int × Itm), ((ps.filter fun p => isOffI p.2).map fun p => offI p.2) = ps.flatMap fun p => swOf p.2
  | [] => rfl
  | (dp, i) :: ps => by
    have ih := sw_filter ps
    cases i with
    | pc p => simpa [isOffI, swOf] using ih
    | bx id kind hid lab refs tip ins =>
      cases hid with
      | b x => simpa [isOffI, swOf, Fg.sw] using ih
      | off t => simpa [isOffI, swOf, Fg.sw, offI] using ih
theorem dedupT_eq {xs : List T} (h : (dedupT xs).length = xs.length) : xs.Nodup := by
  induction xs with
  | nil => exact List.nodup_nil
  | cons x xs ih =>
    unfold dedupT at h
    split at h
    · have := dedupT_len xs; simp at h; omega
    · rename_i hx
      simp at h
      exact List.nodup_cons.mpr ⟨fun m => hx ((dedupT_mem xs x).mpr m), ih h⟩
theorem dedupT_of {xs : List T} (h : xs.Nodup) : dedupT xs = xs := by
  induction xs with
  | nil => rfl
  | cons x xs ih =>
    obtain ⟨h1, h2⟩ := List.nodup_cons.mp h
    unfold dedupT
    rw [ih h2, if_neg h1]
theorem dedupT_lt {xs : List T} : (dedupT xs).length < xs.length ↔ ¬ xs.Nodup := by
  constructor
  · intro h n
    rw [dedupT_of n] at h; omega
  · intro h
    have := dedupT_len xs
    by_cases e : (dedupT xs).length = xs.length
    · exact absurd (dedupT_eq e) h
    · omega
def isPageB (is : List Itm) : Bool := fitsI 1 is && decide ((Itms.ids is).length ≤ 16) && decide (Itms.ids is).Nodup && decide ((setT (Itms.hs is)).length ≤ 5) && decide ((setT (Itms.sws is)).length ≤ 3)
/-- a page that the machine can bear -/
structure Bear (h : Nat) (is : List Itm) : Prop where
  ht : Itms.ht is ≤ h
  sz : Itms.sz is ≤ 900
  bd : Itms.all bdI is
  hs : (Itms.hs is).length < 64
  sw : (Itms.sws is).length < 64
section
variable {K : Nat} {S : Store} {is : List Itm} {h : Nat}
theorem lst_comp {C : Calls} {e elt : E} {ρ : Env} {own : List Nat} : True := trivial
theorem switches_inK (hh : Itms.ht is ≤ h) (hs : Itms.sz is ≤ 10000) (h64 : (Itms.sws is).length < 64) (hK : 3 + h ≤ K) : callF GF K 10 false [.d (.tup (Itms.ds is))] S = some (.d (.tup (sds (setT (Itms.sws is)))), S) := by
  obtain ⟨K, rfl⟩ := lv (c := 1) (by omega : 1 ≤ K)
  refine call_p (d := d_switches_in) rfl rfl ?_
  have e1 := listedK (S := S) h is 1 K hh hs (by omega)
  have hq : ((List.filter (fun p => isOffI p.2) (Itms.lst 1 is)).map fun p => offI p.2) = Itms.sws is := by rw [sw_filter, Itms.sws_eq]
  have e2 := scomp_filF (C := callF GF K) (e := d_switches_in_c0) (ρ := [some (.d (.tup (Itms.ds is))), none, none]) (S0 := S) (S1 := S) (fun p => .d (lstD p)) (fun p => isOffI p.2) (fun p => offI p.2) (Itms.lst 1 is) rfl (by simp [e1, Function.comp_def]) (by rw [hq]; exact h64) fun p m => by
    have hb := Itms.lst_box 1 is p m
    obtain ⟨dp, i⟩ := p
    cases i with
    | pc p => cases hb
    | bx id kind hid lab refs tip ins =>
      refine ⟨_, rfl, ?_⟩
      cases hid <;> simp [wipe, lstD, Itm.d, Fg.d, isOffI, offI]
  rw [hq] at e2
  simp [d_switches_in, start, e2]
theorem lenset_b1 {ts : List T} (h : ts.length < 1000) : b1V .lenset (.d (.lst (sds ts))) S = some (.d (.int ((dedupT ts).length : Nat)), S) := by
  have : texts (sds ts) = some ts := texts_of ts
  simp [b1V, textsV, this, h]
theorem is_pageK (hb : Bear h is) (hK : 5 + 2 * h ≤ K) : callF GF K 11 false [.d (.tup (Itms.ds is))] S = some (.d (.bl (isPageB is)), S) := by
  obtain ⟨K, rfl⟩ := lv (c := 1) (by omega : 1 ≤ K)
  refine call_p (d := d_is_page) rfl rfl ?_
  obtain ⟨b1, b2, b3, b4, b5⟩ := hb
  have e1 := fitsK (S := S) h is 1 K b1 b3 (by omega)
  have e2 := listedK (S := S) h is 1 K b1 (by omega) (by omega)
  have e3 := holes_inK (S := S) (K := K) b1 (by omega) b4 (by omega)
  have e4 := switches_inK (S := S) (K := K) b1 (by omega) b5 (by omega)
  have e5 := comp_mapF (C := callF GF K) (e := d_is_page_c0) (ρ := [some (.d (.tup (Itms.ds is))), none, none, none]) (S0 := S) (S1 := S) (fun p => .d (lstD p)) (fun p => .str p.2.id) (Itms.lst 1 is) rfl (by simp [e2, Function.comp_def]) fun p m => by
    have hb := Itms.lst_box 1 is p m
    obtain ⟨dp, i⟩ := p
    cases i with
    | pc p => cases hb
    | bx id kind hid lab refs tip ins => exact ⟨_, rfl, by simp [wipe, lstD, Itm.d, Itm.id]⟩
  have e6 : ((Itms.lst 1 is).map fun p => D.str p.2.id) = sds (Itms.ids is) := by rw [← Itms.ids_eq 1 is]; simp [sds, Function.comp_def]
  rw [e6] at e5
  have hl : (Itms.ids is).length ≤ Itms.sz is := by rw [← Itms.ids_eq 1 is, List.length_map]; exact Itms.lst_len 1 is
  have e7 := lenset_b1 (S := S) (ts := Itms.ids is) (by omega)
  have q1 : ((16 : Int) < ((Itms.ids is).length : Int)) = ¬ ((Itms.ids is).length ≤ 16) := by apply propext; omega
  have q2 : (((dedupT (Itms.ids is)).length : Int) < ((Itms.ids is).length : Int)) = ¬ (Itms.ids is).Nodup := by
    rw [← dedupT_lt]; apply propext; omega
  have q3 : (((setT (Itms.hs is)).length : Int) ≤ 5) = ((setT (Itms.hs is)).length ≤ 5) := by apply propext; omega
  have q4 : (((setT (Itms.sws is)).length : Int) ≤ 3) = ((setT (Itms.sws is)).length ≤ 3) := by apply propext; omega
  cases c1 : fitsI 1 is
  · simp [d_is_page, start, e1, c1, isPageB]
  · by_cases c2 : (Itms.ids is).length ≤ 16
    · by_cases c3 : (Itms.ids is).Nodup
      · by_cases c4 : (setT (Itms.hs is)).length ≤ 5 <;> by_cases c5 : (setT (Itms.sws is)).length ≤ 3 <;>
          simp [d_is_page, start, e1, c1, isPageB, e5, e7, q1, q2, q3, q4, c2, c3, e3, e4, c4, c5]
      · simp [d_is_page, start, e1, c1, isPageB, e5, e7, q1, q2, c2, c3]
    · simp [d_is_page, start, e1, c1, isPageB, e5, q1, c2]
theorem need_pageK (hb : Bear h is) (hp : isPageB is = true) (hK : 6 + 2 * h ≤ K) : callF GF K 35 false [.d (.tup (Itms.ds is))] S = some (.d .non, S) := by
  obtain ⟨K, rfl⟩ := lv (c := 1) (by omega : 1 ≤ K)
  have e1 := is_pageK (S := S) (K := K) hb (by omega)
  exact call_n (d := d_need_page) (ρ := [some (.d (.tup (Itms.ds is)))]) rfl rfl (by simp [d_need_page, start, e1, hp]) rfl
theorem holesK (hb : Bear h is) (hp : isPageB is = true) (hK : 7 + 2 * h ≤ K) : callF GF K 38 false [.d (.tup (Itms.ds is))] S = some (.d (.tup (sds (setT (Itms.hs is)))), S) := by
  obtain ⟨K, rfl⟩ := lv (c := 1) (by omega : 1 ≤ K)
  have e1 := need_pageK (S := S) (K := K) hb hp (by omega)
  have e2 := holes_inK (S := S) (K := K) hb.ht (by have := hb.sz; omega) hb.hs (by omega)
  refine call_p (d := d_holes) rfl rfl ?_
  simp [d_holes, start, e1, e2]
theorem switchesK (hb : Bear h is) (hp : isPageB is = true) (hK : 7 + 2 * h ≤ K) : callF GF K 39 false [.d (.tup (Itms.ds is))] S = some (.d (.tup (sds (setT (Itms.sws is)))), S) := by
  obtain ⟨K, rfl⟩ := lv (c := 1) (by omega : 1 ≤ K)
  have e1 := need_pageK (S := S) (K := K) hb hp (by omega)
  have e2 := switches_inK (S := S) (K := K) hb.ht (by have := hb.sz; omega) hb.sw (by omega)
  refine call_p (d := d_switches) rfl rfl ?_
  simp [d_switches, start, e1, e2]
end
end PI
set_option Elab.async false
set_option linter.all false
set_option maxRecDepth 100000
set_option maxHeartbeats 2000000
/-! SQ5: _law_known. -/
namespace PI
open PySem LW
theorem call_f {k i : Nat} {d : Def} {args : List Val} {S S' : Store} {m : Bool} {v : Val} {r : R Val} (hd : GD[i]? = some d) (ha : args.length = d.fn.np)
    (h : evSs (callF GF k) d.fn.body (start d.fn args) S = some (.ret v S')) (hf : finish S.length m v S' = r) : callF GF (k + 1) i m args S = r := by
  rw [callF_at (gf_at hd)]
  unfold runFn
  rw [if_pos ha, h]
  exact hf
/-- hidden by this flag -/
def fgOff (lit : List T) : Fg → Bool
  | .b x => x
  | .off t => !decide (t ∈ lit)
mutual
/-- the boxes, each with whether it is hidden -/
def Itm.bh (lit : List T) : Bool → Itm → List (Itm × Bool)
  | _, .pc _ => []
  | ar, .bx id kind hid lab refs tip ins => (.bx id kind hid lab refs tip ins, ar || fgOff lit hid) :: Itms.bh lit (ar || fgOff lit hid) ins
def Itms.bh (lit : List T) : Bool → List Itm → List (Itm × Bool)
  | _, [] => []
  | ar, i :: is => i.bh lit ar ++ Itms.bh lit ar is
end
def kvB (p : Itm × Bool) : T × Val := (p.1.id, .d (.tup [p.1.d, .bl p.2]))
/-- the dict of all boxes -/
def knownKV (lit : List T) (is : List Itm) : List (T × Val) := (Itms.bh lit false is).map kvB
section
variable {K : Nat} {S : Store}
theorem law_boxK {i : Itm} (hK : 1 ≤ K) : callF GF K 40 false [.d i.d] S = some (.d (.bl i.isB), S) := by
  obtain ⟨K, rfl⟩ := lv hK
  refine call_p (d := d__law_is_box) rfl rfl ?_
  cases i with
  | pc p => cases p <;> simp [d__law_is_box, start, Itm.d, Pc.d, Itm.isB]
  | bx id kind hid lab refs tip ins => simp [d__law_is_box, start, Itm.d, Itm.isB]
theorem law_offK {g : Fg} {lit : List T} (hK : 1 ≤ K) : callF GF K 41 false [.d g.d, .d (.tup (sds lit))] S = some (.d (.bl (fgOff lit g)), S) := by
  obtain ⟨K, rfl⟩ := lv hK
  refine call_p (d := d__law_off) rfl rfl ?_
  cases g <;> simp [d__law_off, start, Fg.d, fgOff]
theorem is_offK {g : Fg} {lit : List T} (hK : 1 ≤ K) : callF GF K 58 false [.d g.d, .d (.tup (sds lit))] S = some (.d (.bl (fgOff lit g)), S) := by
  obtain ⟨K, rfl⟩ := lv hK
  refine call_p (d := d_is_off) rfl rfl ?_
  cases g <;> simp [d_is_off, start, Fg.d, fgOff]
end
section
variable {C : Calls} {e : E} {p : Pat} {it c elt : E} {own : List Nat} {ρ : Env} {S0 S1 : Store} {α : Type} {m : Bool}
/-- values -/
theorem comp_filV (f : α → Val) (t : α → Bool) (g : α → Val) (as : List α) (he : e = .comp m p it c elt own) (hi : evI C it ρ S0 = some (as.map f, S1))
    (hb : ∀ a ∈ as, ∃ ρ', bindP p (f a) (wipe ρ own) = some ρ' ∧ evE C c ρ' S1 = some (.d (.bl (t a)), S1) ∧ (t a = true → evE C elt ρ' S1 = some (g a, S1))) :
    evE C e ρ S0 = mkL m ((as.filter t).map g) S1 := by
  subst he
  rw [evE, hi]
  simp only [bnd_some]
  have key : ∀ as : List α, (∀ a ∈ as, ∃ ρ', bindP p (f a) (wipe ρ own) = some ρ' ∧ evE C c ρ' S1 = some (.d (.bl (t a)), S1) ∧ (t a = true → evE C elt ρ' S1 = some (g a, S1))) →
      evLc (fun v ρ S => match bindP p v ρ with
      | some ρ => bnd (evE C c ρ S) fun b S => match b with
        | .d (.bl true) => bnd (evE C elt ρ S) fun y S => some ([y], S)
        | .d (.bl false) => some ([], S)
        | _ => none
      | none => none) (as.map f) (wipe ρ own) S1 = some ((as.filter t).map g, S1) := by
    intro as
    induction as with
    | nil => intro _; rfl
    | cons a as ih =>
      intro h
      obtain ⟨ρ', e1, e2, e3⟩ := h a List.mem_cons_self
      have ih' := ih fun a m => h a (List.mem_cons_of_mem _ m)
      simp only [List.map_cons, evLc, e1, e2, bnd_some]
      cases ht : t a with
      | true => simp only [e3 ht, bnd_some, ih', List.filter_cons, ht, if_true, List.map_cons, List.singleton_append]
      | false => simp [ih', List.filter_cons, ht, -List.map_map]
  exact Eq.trans (congrArg (fun z => bnd z fun vs S => mkL m vs S) (key as hb)) (by simp only [bnd_some])
end
/-- an item on the stack -/
def stV (p : Itm × Bool) : Val := .d (.tup [p.1.d, .bl p.2])
def stSz : List (Itm × Bool) → Nat
  | [] => 0
  | p :: ps => p.1.sz + stSz ps
def stIds : List (Itm × Bool) → List T
  | [] => []
  | p :: ps => p.1.ids ++ stIds ps
def stBh (lit : List T) : List (Itm × Bool) → List (Itm × Bool)
  | [] => []
  | p :: ps => p.1.bh lit p.2 ++ stBh lit ps
theorem stBh_map (lit : List T) (h : Bool) : ∀ (is : List Itm) (ps : List (Itm × Bool)), stBh lit (is.map (fun i => (i, h)) ++ ps) = Itms.bh lit h is ++ stBh lit ps
  | [], ps => by simp [Itms.bh]
  | i :: is, ps => by simp [stBh, Itms.bh, stBh_map lit h is ps]
theorem stSz_map (h : Bool) : ∀ (is : List Itm) (ps : List (Itm × Bool)), stSz (is.map (fun i => (i, h)) ++ ps) = Itms.sz is + stSz ps
  | [], ps => by simp [Itms.sz]
  | i :: is, ps => by simp [stSz, Itms.sz, stSz_map h is ps]; omega
theorem stIds_map (h : Bool) : ∀ (is : List Itm) (ps : List (Itm × Bool)), stIds (is.map (fun i => (i, h)) ++ ps) = Itms.ids is ++ stIds ps
  | [], ps => by simp [Itms.ids]
  | i :: is, ps => by simp [stIds, Itms.ids, stIds_map h is ps]
theorem put_new {α : Type} {k : T} {v : α} {kvs : List (T × α)} (h : k ∉ kvs.map (·.1)) : put k v kvs = kvs ++ [(k, v)] := by
  unfold put
  rw [if_neg]
  intro z
  obtain ⟨p, m, q⟩ := List.any_eq_true.mp z
  exact h (List.mem_map.mpr ⟨p, m, by simpa using q⟩)
theorem st_len : ∀ ps : List (Itm × Bool), ps.length ≤ stSz ps
  | [] => by simp [stSz]
  | p :: ps => by
    have := st_len ps
    have : 1 ≤ p.1.sz := by obtain ⟨i, b⟩ := p; cases i <;> simp [Itm.sz] <;> omega
    simp [stSz]; omega
/-- the stack and the dict as the loop finds them -/
structure KnAt (n0 f r : Nat) (S0 S : Store) (kvs : List (T × Val)) (ps : List (Itm × Bool)) : Prop where
  hn : S0.length = n0
  lf : n0 ≤ f
  lr : n0 ≤ r
  ne : r ≠ f
  pre : S.take n0 = S0
  cf : S[f]? = some (.dct kvs)
  cr : S[r]? = some (.lst (ps.map stV))
theorem KnAt.set_f {n0 f r : Nat} {S0 S : Store} {kvs kvs' : List (T × Val)} {ps : List (Itm × Bool)} (h : KnAt n0 f r S0 S kvs ps) : KnAt n0 f r S0 (S.set f (.dct kvs')) kvs' ps :=
  ⟨h.hn, h.lf, h.lr, h.ne, by rw [List.take_set_of_le h.lf]; exact h.pre, List.getElem?_set_self (List.getElem?_eq_some_iff.mp h.cf).1, by rw [List.getElem?_set_ne (Ne.symm h.ne)]; exact h.cr⟩
theorem KnAt.set_r {n0 f r : Nat} {S0 S : Store} {kvs : List (T × Val)} {ps ps' : List (Itm × Bool)} (h : KnAt n0 f r S0 S kvs ps) : KnAt n0 f r S0 (S.set r (.lst (ps'.map stV))) kvs ps' :=
  ⟨h.hn, h.lf, h.lr, h.ne, by rw [List.take_set_of_le h.lr]; exact h.pre, by rw [List.getElem?_set_ne h.ne]; exact h.cf, List.getElem?_set_self (List.getElem?_eq_some_iff.mp h.cr).1⟩
theorem KnAt.new_r {n0 f r : Nat} {S0 S : Store} {kvs : List (T × Val)} {ps ps' : List (Itm × Bool)} (h : KnAt n0 f r S0 S kvs ps) : KnAt n0 f S.length S0 (S ++ [.lst (ps'.map stV)]) kvs ps' := by
  have l1 := (List.getElem?_eq_some_iff.mp h.cf).1
  have l2 := (List.getElem?_eq_some_iff.mp h.cr).1
  have := h.lr
  exact ⟨h.hn, h.lf, by omega, by omega, by rw [List.take_append_of_le_length (by omega)]; exact h.pre, by rw [List.getElem?_append_left l1]; exact h.cf, by simp⟩
section
variable {K : Nat} {S0 S : Store} {lit : List T}
theorem known_test {e0 e1 e2 e4 e5 e6 e7 : Option Val} {C : Calls} {n0 f r : Nat} {kvs : List (T × Val)} {ps : List (Itm × Bool)} (h : KnAt n0 f r S0 S kvs ps) : evE C (.eqL true (.var 3) (.lst false [])) [e0, e1, e2, some (.l r), e4, e5, e6, e7] S = some (.d (.bl (!ps.isEmpty)), S) := by
  have hd : dataV (.l r) S = some (.lst (ps.map fun p => .tup [p.1.d, .bl p.2])) := by
    have e : ps.map stV = (ps.map fun p => D.tup [p.1.d, .bl p.2]).map .d := by rw [List.map_map]; rfl
    simp only [dataV, h.cr, e, datas_mapD, Option.map_some]
  have hz : (ps.map fun p => D.tup [p.1.d, .bl p.2]).isEmpty = ps.isEmpty := by cases ps <;> rfl
  simp [hd, dep_l0, eq_l0, hz]
theorem known_loop {e0 : Option Val} (hK : 1 ≤ K) : ∀ (N : Nat) (n0 f r : Nat) (S : Store) (kvs : List (T × Val)) (ps : List (Itm × Bool)) (u4 u5 u6 u7 : Option Val) (F : Nat), stSz ps ≤ N → N < F → KnAt n0 f r S0 S kvs ps → stSz ps + kvs.length ≤ 10000 → (kvs.map (·.1) ++ stIds ps).Nodup →
    ∃ r' S' v4 v5 v6 v7, evWhile (evE (callF GF K) (.eqL true (.var 3) (.lst false []))) (evSs (callF GF K) d__law_known_l0) F [e0, some (.d (.tup (sds lit))), some (.l f), some (.l r), u4, u5, u6, u7] S = some (.nx [e0, some (.d (.tup (sds lit))), some (.l f), some (.l r'), v4, v5, v6, v7] S') ∧
      KnAt n0 f r' S0 S' (kvs ++ (stBh lit ps).map kvB) [] := by
  intro N
  induction N with
  | zero =>
    intro n0 f r S kvs ps u4 u5 u6 u7 F hN hF h hs nd
    cases ps with
    | cons p ps =>
      have := st_len (p :: ps)
      simp at this; omega
    | nil =>
      obtain ⟨F, rfl⟩ := lv (c := 1) (by omega : 1 ≤ F)
      exact ⟨r, S, u4, u5, u6, u7, by simp [evWhile, known_test h, -evE_eqL], by simpa [stBh] using h⟩
  | succ N ih =>
    intro n0 f r S kvs ps u4 u5 u6 u7 F hN hF h hs nd
    obtain ⟨F, rfl⟩ := lv (c := 1) (by omega : 1 ≤ F)
    cases ps with
    | nil => exact ⟨r, S, u4, u5, u6, u7, by simp [evWhile, known_test h, -evE_eqL], by simpa [stBh] using h⟩
    | cons p ps =>
      obtain ⟨i, b⟩ := p
      simp only [stSz] at hN hs
      have g1 : isL (.l r) S = true := by simp [isL, h.cr]
      have g2 : popV (.l r) (some (.d (.int 0))) S = some (.d (.tup [i.d, .bl b]), S.set r (.lst (ps.map stV))) := by
        have := h.cr
        simp [popV, this, stV]
      have h2 : KnAt n0 f r S0 (S.set r (.lst (ps.map stV))) kvs ps := h.set_r
      have g3 := law_boxK (K := K) (S := S.set r (.lst (ps.map stV))) (i := i) hK
      cases i with
      | pc pp =>
        simp only [Itm.sz] at hN hs
        obtain ⟨r', S', v4, v5, v6, v7, e, q⟩ := ih n0 f r _ kvs ps (some (.d (Itm.pc pp).d)) (some (.d (.bl b))) u6 u7 F (by omega) (by omega) h2 (by omega) (by simpa [stIds, Itm.ids] using nd)
        refine ⟨r', S', v4, v5, v6, v7, ?_, by simpa [stBh, Itm.bh] using q⟩
        have st : evSs (callF GF K) d__law_known_l0 [e0, some (.d (.tup (sds lit))), some (.l f), some (.l r), u4, u5, u6, u7] S = some (.nx [e0, some (.d (.tup (sds lit))), some (.l f), some (.l r), some (.d (Itm.pc pp).d), some (.d (.bl b)), u6, u7] (S.set r (.lst (ps.map stV)))) := by
          simp [d__law_known_l0, g1, g2, d__law_known_i0, g3, Itm.isB]
        rw [evWhile, known_test h]
        simp only [bnd_some, List.isEmpty_cons, Bool.not_false, st]
        exact e
      | bx id kind hid lab refs tip ins =>
        simp only [Itm.sz] at hN hs
        have l5 := Itms.len_le ins
        have l6 := st_len ps
        simp only [stIds, Itm.ids] at nd
        have hnew : id ∉ kvs.map (·.1) := fun m => by
          have := (List.nodup_append.mp nd).2.2 id m id (by simp)
          exact this rfl
        generalize hSr : S.set r (.lst (ps.map stV)) = S2 at g2 h2 g3
        have g4 := law_offK (K := K) (S := S2) (g := hid) (lit := lit) hK
        have hh : ∀ x : Bool, x = (b || fgOff lit hid) → KnAt n0 f r S0 (S2.set f (.dct (kvs ++ [kvB (.bx id kind hid lab refs tip ins, x)]))) (kvs ++ [kvB (.bx id kind hid lab refs tip ins, x)]) ps := fun x _ => h2.set_f
        have g5 : setV (.l f) (.d (.str id)) (.d (.tup [Itm.d (.bx id kind hid lab refs tip ins), .bl (b || fgOff lit hid)])) S2 = some (S2.set f (.dct (kvs ++ [kvB (.bx id kind hid lab refs tip ins, b || fgOff lit hid)]))) := by
          have q1 : kvs.length < 16777216 := by omega
          simp [setV, okv, h2.cf, lim, q1, put_new hnew, kvB, Itm.id]
        have h3 := hh _ rfl
        generalize hS3 : S2.set f (.dct (kvs ++ [kvB (.bx id kind hid lab refs tip ins, b || fgOff lit hid)])) = S3 at g5 h3
        have g6 : evE (callF GF K) d__law_known_c1 [e0, some (.d (.tup (sds lit))), some (.l f), some (.l r), some (.d (Itm.d (.bx id kind hid lab refs tip ins))), some (.d (.bl b)), some (.d (.bl (b || fgOff lit hid))), u7] S3 = some (.d (.lst (ins.map fun i => .tup [i.d, .bl (b || fgOff lit hid)])), S3) :=
          comp_mapF (fun i : Itm => .d i.d) (fun i => .tup [i.d, .bl (b || fgOff lit hid)]) ins rfl (by simp [Itm.d]) fun i m => ⟨_, rfl, by simp [wipe]⟩
        have g7 : listV (.l r) S3 = some (ps.map stV) := by simp [listV, h3.cr]
        have g8 : ((ins.map fun i => D.tup [i.d, .bl (b || fgOff lit hid)]).map .d) ++ ps.map stV = (ins.map (fun i => (i, (b || fgOff lit hid))) ++ ps).map stV := by
          rw [List.map_append, List.map_map, List.map_map]; rfl
        have h4 := h3.new_r (ps' := ins.map (fun i => (i, (b || fgOff lit hid))) ++ ps)
        obtain ⟨r', S', v4, v5, v6, v7, e, q⟩ := ih n0 f S3.length _ _ _ (some (.d (Itm.d (.bx id kind hid lab refs tip ins)))) (some (.d (.bl b))) (some (.d (.bl (b || fgOff lit hid)))) u7 F (by rw [stSz_map]; omega) (by omega) h4 (by rw [stSz_map]; simp; omega) (by
          rw [stIds_map]
          simp only [List.map_append, List.map_cons, List.map_nil, kvB, Itm.id]
          have : kvs.map (·.1) ++ [id] ++ (Itms.ids ins ++ stIds ps) = kvs.map (·.1) ++ (id :: Itms.ids ins ++ stIds ps) := by simp
          rw [this]; exact nd)
        refine ⟨r', S', v4, v5, v6, v7, ?_, ?_⟩
        · have st : evSs (callF GF K) d__law_known_l0 [e0, some (.d (.tup (sds lit))), some (.l f), some (.l r), u4, u5, u6, u7] S = some (.nx [e0, some (.d (.tup (sds lit))), some (.l f), some (.l S3.length), some (.d (Itm.d (.bx id kind hid lab refs tip ins))), some (.d (.bl b)), some (.d (.bl (b || fgOff lit hid))), u7] (S3 ++ [.lst ((ins.map (fun i => (i, (b || fgOff lit hid))) ++ ps).map stV)])) := by
            have e6 : evE (callF GF K) (.or (.var 5) (.call 41 false [.idx (.var 4) (.int 2), .var 1])) [e0, some (.d (.tup (sds lit))), some (.l f), some (.l r), some (.d (Itm.d (.bx id kind hid lab refs tip ins))), some (.d (.bl b)), u6, u7] S2 = some (.d (.bl (b || fgOff lit hid)), S2) := by
              cases b <;> simp [Itm.d, g4]
            have e7 : evE (callF GF K) (.cat true d__law_known_c1 (.var 3)) [e0, some (.d (.tup (sds lit))), some (.l f), some (.l r), some (.d (Itm.d (.bx id kind hid lab refs tip ins))), some (.d (.bl b)), some (.d (.bl (b || fgOff lit hid))), u7] S3 = some (.l S3.length, S3 ++ [.lst ((ins.map (fun i => (i, (b || fgOff lit hid))) ++ ps).map stV)]) := by
              rw [evE_cat, g6]
              simp only [bnd_some, evE_var, look_s, look_0, Option.map_some, listV, h3.cr]
              rw [if_pos (by simp [lim]; omega), g8]
              rfl
            simp only [Itm.d] at e6 e7 g2 g3 g5
            simp [d__law_known_l0, g1, g2, hSr, d__law_known_i0, g3, Itm.isB, e6, e7, g5, Itm.d, -evE_or, -evE_cat]
          rw [evWhile, known_test h]
          simp only [bnd_some, List.isEmpty_cons, Bool.not_false, st]
          exact e
        · rw [stBh_map] at q
          simpa [stBh, Itm.bh] using q
theorem knownK {is : List Itm} (hK : 2 ≤ K) (hs : Itms.sz is ≤ 5000) (nd : (Itms.ids is).Nodup) : callF GF K 42 false [.d (.tup (Itms.ds is)), .d (.tup (sds lit))] S = some (.dct (knownKV lit is), S) := by
  obtain ⟨K, rfl⟩ := lv (c := 1) (by omega : 1 ≤ K)
  have e1 : evE (callF GF K) d__law_known_c0 [some (.d (.tup (Itms.ds is))), some (.d (.tup (sds lit))), none, none, none, none, none, none] (S ++ [.dct []]) = mkL true ((is.filter fun _ => true).map fun i => stV (i, false)) (S ++ [.dct []]) :=
    comp_filV (fun i : Itm => .d i.d) (fun _ => true) (fun i => stV (i, false)) is rfl (by simp) fun i m => ⟨_, rfl, by simp, fun _ => by simp [wipe, stV]⟩
  rw [List.filter_eq_self.mpr (fun _ _ => rfl)] at e1
  have e1' : (is.map fun i => stV (i, false)) = (is.map fun i => (i, false)).map stV := by rw [List.map_map]; rfl
  rw [e1', mkL_t] at e1
  have h0 : KnAt S.length S.length (S.length + 1) S (S ++ [.dct []] ++ [.lst ((is.map fun i => (i, false)).map stV)]) [] (is.map fun i => (i, false)) := by
    refine ⟨rfl, Nat.le_refl _, by omega, by omega, by simp, by simp, by simp⟩
  have l1 : (S ++ [Cell.dct []]).length = S.length + 1 := by simp
  rw [l1] at e1
  generalize S ++ [.dct []] ++ [.lst ((is.map fun i => (i, false)).map stV)] = S1 at e1 h0
  obtain ⟨r', S', v4, v5, v6, v7, e2, q⟩ := known_loop (K := K) (S0 := S) (lit := lit) (e0 := some (.d (.tup (Itms.ds is)))) (by omega) (stSz (is.map fun i => (i, false))) S.length S.length (S.length + 1) _ [] _ none none none none 1000000 (Nat.le_refl _) (by
    have := stSz_map false is []; simp [stSz] at this; rw [this]; omega) h0 (by have := stSz_map false is []; simp [stSz] at this; simp [this]; omega) (by have := stIds_map false is []; simp [stIds] at this; simpa [this] using nd)
  have hkv : (stBh lit (is.map fun i => (i, false))).map kvB = knownKV lit is := by
    have := stBh_map lit false is []; simp [stBh] at this; rw [this]; rfl
  rw [List.nil_append, hkv] at q
  have ok : ∀ l : List (Itm × Bool), okk S.length (l.map kvB) = true := by
    intro l
    induction l with
    | nil => rfl
    | cons p l ih => simp [okk, kvB, okv, ih]
  have hok : okv S.length (.dct (knownKV lit is)) = true := ok _
  have fin : finish S.length false (.l S.length) S' = some (.dct (knownKV lit is), S) := by
    simp only [finish, Nat.le_refl, if_true, q.cf, cellV, hok, q.pre]
  have e3 : evSs (callF GF K) d__law_known.fn.body (start d__law_known.fn [.d (.tup (Itms.ds is)), .d (.tup (sds lit))]) S = some (.ret (.l S.length) S') := by
    simp [d__law_known, start, putAll, e1, -evE_eqL, e2]
  exact call_f rfl rfl e3 fin
end
end PI
set_option Elab.async false
set_option linter.all false
set_option maxRecDepth 100000
set_option maxHeartbeats 2000000
/-! SQ6: _law_pieces, _law_holes, _law_switches. -/
namespace PI
open PySem LW
theorem lkp_mem {α : Type} {k : T} {v : α} : ∀ {kvs : List (T × α)}, (kvs.map (·.1)).Nodup → (k, v) ∈ kvs → lkp k kvs = some v
  | (j, w) :: r, nd, m => by
    obtain ⟨n1, n2⟩ := List.nodup_cons.mp nd
    unfold lkp
    rcases List.mem_cons.mp m with e | m
    · cases e; rw [if_pos rfl]
    · rw [if_neg, lkp_mem n2 m]
      intro z
      subst z
      exact n1 (List.mem_map.mpr ⟨_, m, rfl⟩)
theorem lkp_none {α : Type} {k : T} : ∀ {kvs : List (T × α)}, k ∉ kvs.map (·.1) → lkp k kvs = none
  | [], _ => rfl
  | (j, w) :: r, h => by
    unfold lkp
    simp only [List.map_cons, List.mem_cons, not_or] at h
    rw [if_neg (fun z => h.1 z.symm), lkp_none h.2]
mutual
theorem Itm.bh_lst (lit : List T) (dp : Int) : ∀ (ar : Bool) (i : Itm), (i.bh lit ar).map (·.1) = (i.lst dp).map (·.2)
  | _, .pc _ => by simp [Itm.bh, Itm.lst]
  | ar, .bx id kind hid lab refs tip ins => by simp [Itm.bh, Itm.lst, Itms.bh_lst lit (dp + 1) (ar || fgOff lit hid) ins]
theorem Itms.bh_lst (lit : List T) (dp : Int) : ∀ (ar : Bool) (is : List Itm), (Itms.bh lit ar is).map (·.1) = (Itms.lst dp is).map (·.2)
  | _, [] => by simp [Itms.bh, Itms.lst]
  | ar, i :: is => by simp [Itms.bh, Itms.lst, Itm.bh_lst lit dp ar i, Itms.bh_lst lit dp ar is]
end
theorem bh_ids (lit : List T) (ar : Bool) (is : List Itm) : (Itms.bh lit ar is).map (fun p => p.1.id) = Itms.ids is := by
  have h := congrArg (List.map Itm.id) (Itms.bh_lst lit 1 ar is)
  rw [List.map_map, List.map_map] at h
  rw [← Itms.ids_eq 1 is]
  exact h
theorem known_keys (lit : List T) (is : List Itm) : (knownKV lit is).map (·.1) = Itms.ids is := by
  rw [← bh_ids lit false is]
  unfold knownKV
  rw [List.map_map]
  rfl
theorem bh_box {lit : List T} {ar : Bool} {is : List Itm} {p : Itm × Bool} (m : p ∈ Itms.bh lit ar is) : p.1.isB = true := by
  have : p.1 ∈ (Itms.lst 1 is).map (·.2) := by rw [← Itms.bh_lst lit 1 ar is]; exact List.mem_map.mpr ⟨p, m, rfl⟩
  obtain ⟨q, hq, e⟩ := List.mem_map.mp this
  rw [← e]
  exact Itms.lst_box 1 is q hq
theorem bh_flat {β : Type} (lit : List T) (ar : Bool) (is : List Itm) (f : Itm → List β) : (Itms.bh lit ar is).flatMap (fun p => f p.1) = (Itms.lst 1 is).flatMap fun p => f p.2 := by
  have h := congrArg (List.flatMap f) (Itms.bh_lst lit 1 ar is)
  rwa [List.flatMap_map, List.flatMap_map] at h
theorem known_get {lit : List T} {is : List Itm} {p : Itm × Bool} (nd : (Itms.ids is).Nodup) (m : p ∈ Itms.bh lit false is) : lkp p.1.id (knownKV lit is) = some (.d (.tup [p.1.d, .bl p.2])) :=
  lkp_mem (by rw [known_keys]; exact nd) (List.mem_map.mpr ⟨p, m, rfl⟩)
/-- the pieces at the top of some items -/
def topP : List Itm → List (Option Pc)
  | [] => []
  | .pc p :: is => some p :: topP is
  | .bx .. :: is => topP is
def partsP : Itm → List (Option Pc)
  | .pc _ => []
  | .bx _ _ _ lab _ tip ins => lab :: tip :: topP ins
theorem topP_filter : ∀ is : List Itm, ((is.filter fun i => !i.isB).map fun i => i.d) = (topP is).map opc
  | [] => rfl
  | .pc p :: is => by simpa [topP, Itm.isB, opc, Itm.d] using topP_filter is
  | .bx .. :: is => by simpa [topP, Itm.isB] using topP_filter is
theorem topP_hs : ∀ is : List Itm, (topP is).flatMap oHs = topH is
  | [] => rfl
  | .pc p :: is => by simp [topP, topH, Itm.top, oHs, topP_hs is]
  | .bx .. :: is => by simp [topP, topH, Itm.top, topP_hs is]
theorem partsP_hs (i : Itm) : (partsP i).flatMap oHs = partsH i := by
  cases i <;> simp [partsP, partsH, topP_hs]
theorem topP_len : ∀ is : List Itm, (topP is).length ≤ is.length
  | [] => by simp [topP]
  | .pc p :: is => by have := topP_len is; simp [topP]; omega
  | .bx .. :: is => by have := topP_len is; simp [topP]; omega
theorem partsP_len (i : Itm) : (partsP i).length ≤ (partsD i).length := by
  cases i with
  | pc p => simp [partsP]
  | bx id kind hid lab refs tip ins => have := topP_len ins; simp [partsP, partsD]; omega
theorem flat_len {α β γ : Type} {f : α → List β} {g : α → List γ} (h : ∀ a, (f a).length ≤ (g a).length) : ∀ as : List α, (as.flatMap f).length ≤ (as.flatMap g).length
  | [] => by simp
  | a :: as => by
    have := flat_len h as
    have := h a
    simp only [List.flatMap_cons, List.length_append]; omega
/-- all pieces, labels and tips too, as the law gathers them -/
def pcsL (is : List Itm) : List (Option Pc) := topP is ++ (Itms.lst 1 is).flatMap fun p => partsP p.2
theorem pcsL_hs (is : List Itm) : ((pcsL is).flatMap oHs).Perm (Itms.hs is) := by
  have : (pcsL is).flatMap oHs = topH is ++ (Itms.lst 1 is).flatMap fun p => partsH p.2 := by
    unfold pcsL
    rw [List.flatMap_append, topP_hs, List.flatMap_assoc]
    simp only [partsP_hs]
  rw [this]
  exact Itms.hs_perm 1 is
section
variable {K : Nat} {S : Store}
theorem not_box_comp {e : E} {slot : Nat} {it : E} {ρ : Env} {is : List Itm} (he : e = .comp false (.nm slot) it (.not (.call 40 false [.var slot])) (.var slot) [slot]) (hi : evI (callF GF K) it ρ S = some ((Itms.ds is).map .d, S)) (hl : slot < ρ.length) (hK : 1 ≤ K) :
    evE (callF GF K) e ρ S = some (.d (.lst ((topP is).map opc)), S) := by
  rw [← topP_filter]
  refine comp_filF (fun i : Itm => .d i.d) (fun i => !i.isB) (fun i => i.d) is he (by rw [hi]; simp) fun i m => ⟨_, rfl, ?_⟩
  have e2 : look ((wipe ρ [slot]).set slot (some (.d i.d))) slot = some (.d i.d) := by rw [look_eq]; simp [wipe, hl]
  simp [e2, law_boxK (K := K) (S := S) (i := i) hK]
theorem pieces_loop {e0 e6 : Option Val} {kvs : List (T × Val)} (hK : 1 ≤ K) : ∀ (ps : List (Itm × Bool)) (acc : List (Option Pc)) (u v w : Option Val), (∀ p ∈ ps, p.1.isB = true) → (∀ p ∈ ps, lkp p.1.id kvs = some (.d (.tup [p.1.d, .bl p.2]))) → acc.length + (ps.flatMap fun p => partsP p.1).length ≤ 100000 →
    ∃ u' v' w', evFor (bindP (.nm 3)) (evSs (callF GF K) d__law_pieces_l0) (ps.map fun p => .d (.str p.1.id)) [e0, some (.d (.lst (acc.map opc))), some (.dct kvs), u, v, w, e6] S = some (.nx [e0, some (.d (.lst ((acc ++ ps.flatMap fun p => partsP p.1).map opc))), some (.dct kvs), u', v', w', e6] S)
  | [], acc, u, v, w, _, _, _ => ⟨u, v, w, by simp⟩
  | p :: ps, acc, u, v, w, hb, hk, hs => by
    have h1 := hb p List.mem_cons_self
    have h2 := hk p List.mem_cons_self
    obtain ⟨i, b⟩ := p
    cases i with
    | pc p => cases h1
    | bx id kind hid lab refs tip ins =>
      simp only [List.flatMap_cons, List.length_append, partsP, List.length_cons] at hs
      simp only [Itm.id] at h2
      obtain ⟨u', v', w', ih⟩ := pieces_loop (e0 := e0) (e6 := e6) (kvs := kvs) hK ps (acc ++ partsP (.bx id kind hid lab refs tip ins)) (some (.d (.str id))) (some (.d (Itm.d (.bx id kind hid lab refs tip ins)))) w (fun p m => hb p (List.mem_cons_of_mem _ m)) (fun p m => hk p (List.mem_cons_of_mem _ m)) (by simp [partsP] at hs ⊢; omega)
      refine ⟨u', v', w', for_step (ρ1 := [e0, some (.d (.lst (acc.map opc))), some (.dct kvs), some (.d (.str id)), v, w, e6]) (by simp [Itm.id]) ?_ (by rw [ih]; simp)⟩
      have c1 := not_box_comp (K := K) (S := S) (e := d__law_pieces_c1) (slot := 5) (it := .seq (.idx (.var 4) (.int 6))) (ρ := [e0, some (.d (.lst (acc.map opc))), some (.dct kvs), some (.d (.str id)), some (.d (Itm.d (.bx id kind hid lab refs tip ins))), w, e6]) (is := ins) rfl (by simp [Itm.d]) (by simp) hK
      have o1 := op_add_ll (xs := acc.map opc) (ys := [opc lab, opc tip]) (by simp; omega)
      have o2 := op_add_ll (xs := acc.map opc ++ [opc lab, opc tip]) (ys := (topP ins).map opc) (by simp; omega)
      simp only [Itm.d] at c1 h2
      simp [d__law_pieces_l0, h2, Itm.d, o1, o2, c1, partsP]
theorem law_piecesK {is : List Itm} (hK : 3 ≤ K) (hs : Itms.sz is ≤ 5000) (nd : (Itms.ids is).Nodup) : callF GF K 43 false [.d (.tup (Itms.ds is))] S = some (.d (.lst (((pcsL is).filter Option.isSome).map opc)), S) := by
  obtain ⟨K, rfl⟩ := lv (c := 1) (by omega : 1 ≤ K)
  refine call_p (d := d__law_pieces) rfl rfl ?_
  have c0 := not_box_comp (K := K) (S := S) (e := d__law_pieces_c0) (slot := 5) (it := .seq (.var 0)) (ρ := [some (.d (.tup (Itms.ds is))), none, none, none, none, none, none]) (is := is) rfl (by simp) (by simp) (by omega)
  have e1 : callF GF K 42 false [.d (.tup (Itms.ds is)), .d (.tup [])] S = some (.dct (knownKV [] is), S) := knownK (lit := []) (by omega) hs nd
  have hf : (Itms.bh [] false is).flatMap (fun p => partsP p.1) = (Itms.lst 1 is).flatMap fun p => partsP p.2 := bh_flat [] false is partsP
  have hl1 := topP_len is
  have hl2 := flat_len (f := fun p : Int × Itm => partsP p.2) (g := fun p => partsD p.2) (fun p => partsP_len p.2) (Itms.lst 1 is)
  have hl3 := Itms.lst_sz 1 is
  obtain ⟨u, v, w, e2⟩ := pieces_loop (K := K) (S := S) (e0 := some (.d (.tup (Itms.ds is)))) (e6 := none) (kvs := knownKV [] is) (by omega) (Itms.bh [] false is) (topP is) none none none (fun p m => bh_box m) (fun p m => known_get nd m) (by rw [hf]; omega)
  rw [hf] at e2
  have e3 : (knownKV [] is).map (fun p => Val.d (.str p.1)) = (Itms.bh [] false is).map fun p => .d (.str p.1.id) := by unfold knownKV; rw [List.map_map]; rfl
  have c2 : evE (callF GF K) d__law_pieces_c2 [some (.d (.tup (Itms.ds is))), some (.d (.lst ((pcsL is).map opc))), some (.dct (knownKV [] is)), u, v, w, none] S = some (.d (.lst (((pcsL is).filter Option.isSome).map opc)), S) :=
    comp_filF (fun o : Option Pc => .d (opc o)) Option.isSome opc (pcsL is) rfl (by simp [Function.comp_def]) fun o m => ⟨_, rfl, by cases o <;> simp [wipe], fun _ => by simp [wipe]⟩
  simp only [pcsL] at c2 ⊢
  simp [d__law_pieces, start, c0, e1, e3, e2, c2, -List.map_append]
theorem sset_b1 {ts : List T} (h : ts.length < 64) : b1V .sset (.d (.lst (sds ts))) S = some (.d (.lst (sds (setT ts))), S) := by
  have : texts (sds ts) = some ts := texts_of ts
  simp [b1V, textsV, this, h, setT]
  rfl
theorem sset_b1t {ts : List T} (h : ts.length < 64) : b1V .sset (.d (.tup (sds ts))) S = some (.d (.lst (sds (setT ts))), S) := by
  have : texts (sds ts) = some ts := texts_of ts
  simp [b1V, textsV, this, h, setT]
  rfl
def isHo : Option Pc → Bool
  | some (.ho _) => true
  | _ => false
def hoT : Option Pc → T
  | some (.ho t) => t
  | _ => []
theorem ho_filter : ∀ l : List (Option Pc), (((l.filter Option.isSome).filter isHo).map hoT) = l.flatMap oHs
  | [] => rfl
  | o :: l => by
    have ih := ho_filter l
    cases o with
    | none => exact ih
    | some p =>
      cases p with
      | tx t => exact ih
      | ho t => exact congrArg (t :: ·) ih
theorem law_holesK {is : List Itm} (hK : 4 ≤ K) (hs : Itms.sz is ≤ 5000) (nd : (Itms.ids is).Nodup) (h64 : (Itms.hs is).length < 64) : callF GF K 44 false [.d (.tup (Itms.ds is))] S = some (.d (.tup (sds (setT (Itms.hs is)))), S) := by
  obtain ⟨K, rfl⟩ := lv (c := 1) (by omega : 1 ≤ K)
  refine call_p (d := d__law_holes) rfl rfl ?_
  have e1 := law_piecesK (K := K) (S := S) (by omega) hs nd
  have c0 : evE (callF GF K) d__law_holes_c0 [some (.d (.tup (Itms.ds is))), none] S = some (.d (.lst ((((pcsL is).filter Option.isSome).filter isHo).map fun o => .str (hoT o))), S) :=
    comp_filF (fun o : Option Pc => .d (opc o)) isHo (fun o => .str (hoT o)) ((pcsL is).filter Option.isSome) rfl (by simp [e1, Function.comp_def]) fun o m => ⟨_, rfl, by
      cases o with
      | none => simp [wipe, opc, isHo]
      | some p => cases p <;> simp [wipe, opc, isHo, Pc.d], fun h => by
      cases o with
      | none => cases h
      | some p => cases p <;> simp [wipe, opc, isHo, Pc.d, hoT] at h ⊢⟩
  have c1 : ((((pcsL is).filter Option.isSome).filter isHo).map fun o => D.str (hoT o)) = sds ((pcsL is).flatMap oHs) := by
    rw [← ho_filter, sds, List.map_map]; rfl
  rw [c1] at c0
  have hp := pcsL_hs is
  have e2 := sset_b1 (S := S) (ts := (pcsL is).flatMap oHs) (by rw [hp.length_eq]; exact h64)
  rw [setT_perm hp] at e2
  simp [d__law_holes, start, c0, e2]
theorem law_switchesK {is : List Itm} (hK : 4 ≤ K) (hs : Itms.sz is ≤ 5000) (nd : (Itms.ids is).Nodup) (h64 : (Itms.sws is).length < 64) : callF GF K 45 false [.d (.tup (Itms.ds is))] S = some (.d (.tup (sds (setT (Itms.sws is)))), S) := by
  obtain ⟨K, rfl⟩ := lv (c := 1) (by omega : 1 ≤ K)
  refine call_p (d := d__law_switches) rfl rfl ?_
  have e1 : callF GF K 42 false [.d (.tup (Itms.ds is)), .d (.tup [])] S = some (.dct (knownKV [] is), S) := knownK (lit := []) (by omega) hs nd
  have e3 : (knownKV [] is).map (fun p => Val.d (.str p.1)) = (Itms.bh [] false is).map fun p => .d (.str p.1.id) := by unfold knownKV; rw [List.map_map]; rfl
  have c0 : evE (callF GF K) d__law_switches_c0 [some (.d (.tup (Itms.ds is))), some (.dct (knownKV [] is)), none, none, none] S = some (.d (.lst ((Itms.bh [] false is).map fun p => match p.1 with | .bx _ _ hid _ _ _ _ => hid.d | _ => .non)), S) :=
    comp_mapF (fun p : Itm × Bool => .d (.str p.1.id)) (fun p => match p.1 with | .bx _ _ hid _ _ _ _ => hid.d | _ => .non) (Itms.bh [] false is) rfl (by simp [e3]) fun p m => by
      have h1 := bh_box m
      have h2 := known_get nd m
      obtain ⟨i, b⟩ := p
      cases i with
      | pc p => cases h1
      | bx id kind hid lab refs tip ins =>
        simp only [Itm.id, Itm.d] at h2
        exact ⟨_, rfl, by simp [wipe, Itm.id, h2]⟩
  have c1 : evE (callF GF K) d__law_switches_c1 [some (.d (.tup (Itms.ds is))), some (.dct (knownKV [] is)), some (.d (.lst ((Itms.bh [] false is).map fun p => match p.1 with | .bx _ _ hid _ _ _ _ => hid.d | _ => .non))), none, none] S = some (.d (.lst (((Itms.bh [] false is).filter fun p => isOffI p.1).map fun p => .str (offI p.1))), S) :=
    comp_filF (fun p : Itm × Bool => .d (match p.1 with | .bx _ _ hid _ _ _ _ => hid.d | _ => .non)) (fun p => isOffI p.1) (fun p => .str (offI p.1)) (Itms.bh [] false is) rfl (by simp [Function.comp_def]) fun p m => ⟨_, rfl, by
      have h1 := bh_box m
      obtain ⟨i, b⟩ := p
      cases i with
      | pc p => cases h1
      | bx id kind hid lab refs tip ins => cases hid <;> simp [wipe, Fg.d, isOffI], fun h => by
      have h1 := bh_box m
      obtain ⟨i, b⟩ := p
      cases i with
      | pc p => cases h1
      | bx id kind hid lab refs tip ins => cases hid <;> simp [wipe, Fg.d, isOffI, offI] at h ⊢⟩
  have fl : ∀ l : List (Itm × Bool), (l.filter fun p => isOffI p.1).map (fun p => D.str (offI p.1)) = sds (l.flatMap fun p => swOf p.1) := by
    intro l
    induction l with
    | nil => rfl
    | cons p l ih =>
      obtain ⟨i, b⟩ := p
      simp only [sds, List.flatMap_cons, List.map_append] at ih ⊢
      cases i with
      | pc p => simpa [isOffI, swOf] using ih
      | bx id kind hid lab refs tip ins => cases hid <;> simpa [isOffI, swOf, Fg.sw, offI] using ih
  rw [fl, bh_flat [] false is swOf, Itms.sws_eq] at c1
  have e2 := sset_b1 (S := S) (ts := Itms.sws is) h64
  simp [d__law_switches, start, e1, c0, c1, e2]
end
end PI
set_option Elab.async false
set_option linter.all false
set_option maxRecDepth 100000
set_option maxHeartbeats 2000000
/-! SQ7: fillings. -/
namespace PI
open PySem LW
def ascB (ts : List T) : Bool := (ts.zip (ts.drop 1)).all fun p => decide (p.1 < p.2)
theorem ascB_iff : ∀ {ts : List T}, ascB ts = true ↔ Asc ts
  | [] => by simp [ascB, Asc]
  | [t] => by simp [ascB, Asc]
  | t :: u :: ts => by
    have ih := ascB_iff (ts := u :: ts)
    simp only [ascB, List.drop_succ_cons, List.drop_zero, List.zip_cons_cons, List.all_cons, Bool.and_eq_true, decide_eq_true_eq] at ih ⊢
    rw [ih]
    unfold Asc
    rw [List.pairwise_cons (a := t)]
    constructor
    · rintro ⟨h1, h2⟩
      refine ⟨fun b m => ?_, h2⟩
      rcases List.mem_cons.mp m with rfl | m
      · exact h1
      · exact lt_tr h1 ((List.pairwise_cons.mp h2).1 b m)
    · rintro ⟨h1, h2⟩
      exact ⟨h1 u List.mem_cons_self, h2⟩
theorem zipD_map {α : Type} (f : α → D) : ∀ xs ys : List α, zipD (xs.map f) (ys.map f) = (xs.zip ys).map fun p => .vt [.d (f p.1), .d (f p.2)]
  | [], ys => by simp [zipD]
  | x :: xs, [] => by simp [zipD]
  | x :: xs, y :: ys => by simp [zipD, zipD_map f xs ys]
/-- pairs of texts -/
def prD (p : T × T) : D := .tup [.str p.1, .str p.2]
def isPairsB (fl : List (T × T)) : Bool := fl.all (fun p => isIdB p.1 && isTextB p.2) && ascB (fl.map (·.1))
theorem slice_tup {xs : List D} {i : Int} {S : Store} (h : 0 ≤ i) : sliceV false (.d (.tup xs)) none (some i) S = some (.d (.tup (xs.take i.toNat)), S) := by simp [sliceV, cut_to h]
theorem slice_tupF {xs : List D} {i : Int} {S : Store} (h : 0 ≤ i) : sliceV false (.d (.tup xs)) (some i) none S = some (.d (.tup (xs.drop i.toNat)), S) := by simp [sliceV, cut_from h]
section
variable {K : Nat} {S : Store}
theorem pairs_loop {e0 e2 e3 : Option Val} (hK : 1 ≤ K) : ∀ (fl : List (T × T)) (u : Option Val), (∀ p ∈ fl, p.1.length ≤ 1000 ∧ p.2.length ≤ 1000) →
    ∃ u', evFor (bindP (.nm 1)) (evSs (callF GF K) d_is_pairs_l0) (fl.map fun p => .d (prD p)) [e0, u, e2, e3] S = if (fl.all fun p => isIdB p.1 && isTextB p.2) = true then some (.nx [e0, u', e2, e3] S) else some (.ret (.d (.bl false)) S)
  | [], u, _ => ⟨u, by simp⟩
  | p :: fl, u, h => by
    obtain ⟨h1, h2⟩ := h p List.mem_cons_self
    obtain ⟨u', ih⟩ := pairs_loop (e0 := e0) (e2 := e2) (e3 := e3) hK fl (some (.d (prD p))) fun q m => h q (List.mem_cons_of_mem _ m)
    have g1 := is_idK (K := K) (S := S) hK h1
    have g2 := is_textK (K := K) (S := S) hK h2
    refine ⟨u', ?_⟩
    have st : evSs (callF GF K) d_is_pairs_l0 [e0, some (.d (prD p)), e2, e3] S = if (isIdB p.1 && isTextB p.2) = true then some (.nx [e0, some (.d (prD p)), e2, e3] S) else some (.ret (.d (.bl false)) S) := by
      cases c1 : isIdB p.1 <;> cases c2 : isTextB p.2 <;> simp [d_is_pairs_l0, prD, g1, g2, c1, c2]
    rw [List.map_cons, evFor_cons]
    simp only [bindP_nm, List.set_cons_succ, List.set_cons_zero, st, forS_ite, forS_nx, forS_ret, ih, List.all_cons]
    rcases Bool.eq_false_or_eq_true (isIdB p.1 && isTextB p.2) with hc | hc <;> simp only [hc, if_true, Bool.true_and, Bool.false_and, Bool.false_eq_true, if_false]
theorem is_pairsK {fl : List (T × T)} (hK : 2 ≤ K) (h : ∀ p ∈ fl, p.1.length ≤ 1000 ∧ p.2.length ≤ 1000) : callF GF K 48 false [.d (.tup (fl.map prD))] S = some (.d (.bl (isPairsB fl)), S) := by
  obtain ⟨K, rfl⟩ := lv (c := 1) (by omega : 1 ≤ K)
  refine call_p (d := d_is_pairs) rfl rfl ?_
  obtain ⟨u, e1⟩ := pairs_loop (K := K) (S := S) (e0 := some (.d (.tup (fl.map prD)))) (e2 := none) (e3 := none) (by omega) fl none h
  have c0 : evE (callF GF K) d_is_pairs_c0 [some (.d (.tup (fl.map prD))), u, none, none] S = some (.d (.lst ((fl.zip (fl.drop 1)).map fun p => .bl (decide (p.1.1 < p.2.1)))), S) :=
    comp_mapF (fun p : (T × T) × (T × T) => .vt [.d (prD p.1), .d (prD p.2)]) (fun p => .bl (decide (p.1.1 < p.2.1))) (fl.zip (fl.drop 1)) rfl (by
      simp only [evI_zip, evE_var, look_0, Option.map_some, bnd_some, evE_slice, evE_int, evE_non, partE]
      simp only [slice_tupF (Int.le_of_lt Int.one_pos), bnd_some]
      rw [show (Int.toNat 1) = 1 from rfl, ← List.map_drop, zipD_map]) fun p m => ⟨_, rfl, by simp [wipe, prD]⟩
  have e2 : (fl.zip fl.tail).all (fun p => decide (p.1.1 < p.2.1)) = ascB (fl.map (·.1)) := by
    unfold ascB
    rw [← List.drop_one]
    rw [← List.map_drop, List.zip_map, List.all_map]
    rfl
  cases c1 : fl.all (fun p => isIdB p.1 && isTextB p.2) <;> simp only [c1] at e1 <;> simp [d_is_pairs, start, Function.comp_def, e1, c0, isPairsB, c1, e2]
theorem need_fillingK {fl : List (T × T)} (hK : 3 ≤ K) (h : ∀ p ∈ fl, p.1.length ≤ 1000 ∧ p.2.length ≤ 1000) (hp : isPairsB fl = true) : callF GF K 49 false [.d (.tup (fl.map prD))] S = some (.d .non, S) := by
  obtain ⟨K, rfl⟩ := lv (c := 1) (by omega : 1 ≤ K)
  have e1 := is_pairsK (S := S) (K := K) (by omega) h
  exact call_n (d := d_need_filling) (ρ := [some (.d (.tup (fl.map prD)))]) rfl rfl (by simp [d_need_filling, start, e1, hp]) rfl
end
/-- the texts of a filling as a dict -/
def flKV (fl : List (T × T)) : List (T × Val) := fl.map fun p => (p.1, .d (.str p.2))
def lkT (fl : List (T × T)) (t : T) : T := (lkp t fl).getD []
theorem flKV_get (fl : List (T × T)) (t : T) : (lkp t (flKV fl)).getD (.d (.str [])) = .d (.str (lkT fl t)) := by
  unfold lkT
  induction fl with
  | nil => rfl
  | cons p fl ih =>
    obtain ⟨k, v⟩ := p
    simp only [flKV, List.map_cons, lkp] at ih ⊢
    split
    · rfl
    · exact ih
theorem pairsD_fl : ∀ fl : List (T × T), pairsD (fl.map prD) = some (flKV fl)
  | [] => rfl
  | p :: fl => by simp [pairsD, prD, pairsD_fl fl, flKV] <;> rfl
theorem putAll_new {α : Type} : ∀ (xs kvs : List (T × Val)), ((kvs ++ xs).map (·.1)).Nodup → putAll kvs xs = kvs ++ xs
  | [], kvs, _ => by simp [putAll]
  | (k, v) :: xs, kvs, nd => by
    have hn : k ∉ kvs.map (·.1) := fun m => by
      rw [List.map_append, List.nodup_append] at nd
      exact nd.2.2 k m k (by simp) rfl
    rw [putAll, put_new hn, putAll_new (α := Nat) xs (kvs ++ [(k, v)]) (by simpa using nd)]
    simp
theorem flKV_keys (fl : List (T × T)) : (flKV fl).map (·.1) = fl.map (·.1) := by simp [flKV, Function.comp_def]
theorem dict_fl {fl : List (T × T)} {S : Store} (nd : (fl.map (·.1)).Nodup) : dictV false (.d (.tup (fl.map prD))) S = some (.dct (flKV fl), S) := by
  simp only [dictV, pairsD_fl, mkD_f]
  rw [putAll_new (α := Nat) (flKV fl) [] (by rw [List.nil_append, flKV_keys]; exact nd)]
  rfl
/-! ### pieces exchanged -/
mutual
def Itm.mapP (g : Pc → Pc) : Itm → Itm
  | .pc p => .pc (g p)
  | .bx id kind hid lab refs tip ins => .bx id kind hid (lab.map g) refs (tip.map g) (Itms.mapP g ins)
def Itms.mapP (g : Pc → Pc) : List Itm → List Itm
  | [] => []
  | i :: is => i.mapP g :: Itms.mapP g is
end
def fillP (fl : List (T × T)) : Pc → Pc
  | .tx t => .tx t
  | .ho t => .tx (lkT fl t)
section
variable {K : Nat} {S : Store} {fl : List (T × T)}
theorem filled_pieceK {o : Option Pc} (hK : 1 ≤ K) : callF GF K 50 false [.d (opc o), .dct (flKV fl)] S = some (.d (opc (o.map (fillP fl))), S) := by
  obtain ⟨K, rfl⟩ := lv hK
  refine call_p (d := d_filled_piece) rfl rfl ?_
  cases o with
  | none => simp [d_filled_piece, start, opc]
  | some p => cases p <;> simp [d_filled_piece, start, opc, Pc.d, isDc, getV, flKV_get, fillP]
theorem filled_pieceI {p : Pc} (hK : 1 ≤ K) : callF GF K 50 false [.d p.d, .dct (flKV fl)] S = some (.d (fillP fl p).d, S) := filled_pieceK (o := some p) hK
theorem add_7 {a b c x y z w : D} : opD .add (.tup [a, b, c]) (.tup [x, y, z, w]) = some (.tup [a, b, c, x, y, z, w]) := by simp [opD, lim]
theorem filled_loop {e0 : Option Val} (hK : 1 ≤ K) : ∀ (is : List Itm) (acc : List D) (u v w : Option Val), (∀ id kind hid lab refs tip ins, (Itm.bx id kind hid lab refs tip ins) ∈ is → callF GF K 51 false [.d (.tup (Itms.ds ins)), .dct (flKV fl)] S = some (.d (.tup (Itms.ds (Itms.mapP (fillP fl) ins))), S)) →
    acc.length + is.length ≤ 10000 →
    ∃ u' v' w', evFor (bindP (.nm 3)) (evSs (callF GF K) d_filled_items_l0) (is.map fun i => .d i.d) [e0, some (.dct (flKV fl)), some (.d (.tup acc)), u, v, w] S = some (.nx [e0, some (.dct (flKV fl)), some (.d (.tup (acc ++ Itms.ds (Itms.mapP (fillP fl) is)))), u', v', w'] S)
  | [], acc, u, v, w, _, _ => ⟨u, v, w, by simp [Itms.mapP, Itms.ds]⟩
  | i :: is, acc, u, v, w, h, hl => by
    simp only [List.length_cons] at hl
    have e1 := is_boxK (K := K) (S := S) (i := i) hK
    have o1 := op_add_tt (xs := acc) (ys := [(i.mapP (fillP fl)).d]) (by simp; omega)
    cases i with
    | pc p =>
      obtain ⟨u', v', w', ih⟩ := filled_loop (e0 := e0) hK is (acc ++ [((Itm.pc p).mapP (fillP fl)).d]) (some (.d (Itm.d (.pc p)))) v w (fun id kind hid lab refs tip ins m => h id kind hid lab refs tip ins (List.mem_cons_of_mem _ m)) (by simp; omega)
      refine ⟨u', v', w', for_step (ρ1 := [e0, some (.dct (flKV fl)), some (.d (.tup acc)), some (.d (Itm.d (.pc p))), v, w]) rfl ?_ (by rw [ih]; simp [Itms.mapP, Itms.ds])⟩
      have e2 := filled_pieceI (K := K) (S := S) (fl := fl) (p := p) hK
      simp only [Itm.d, Itm.mapP] at e1 o1 ⊢
      simp [d_filled_items_l0, e1, Itm.isB, e2, o1]
    | bx id kind hid lab refs tip ins =>
      obtain ⟨u', v', w', ih⟩ := filled_loop (e0 := e0) hK is (acc ++ [((Itm.bx id kind hid lab refs tip ins).mapP (fillP fl)).d]) (some (.d (Itm.d (.bx id kind hid lab refs tip ins)))) (some (.d (opc (lab.map (fillP fl))))) (some (.d (opc (tip.map (fillP fl))))) (fun id kind hid lab refs tip ins m => h id kind hid lab refs tip ins (List.mem_cons_of_mem _ m)) (by simp; omega)
      refine ⟨u', v', w', for_step (ρ1 := [e0, some (.dct (flKV fl)), some (.d (.tup acc)), some (.d (Itm.d (.bx id kind hid lab refs tip ins))), v, w]) rfl ?_ (by rw [ih]; simp [Itms.mapP, Itms.ds])⟩
      have e2 := fun o => filled_pieceK (K := K) (S := S) (fl := fl) (o := o) hK
      have e3 := h id kind hid lab refs tip ins List.mem_cons_self
      simp only [Itm.d, Itm.mapP] at e1 o1 ⊢
      simp [d_filled_items_l0, e1, Itm.isB, e2, partE, slice_tup, add_7, e3, o1]
theorem filled_itemsK : ∀ (h : Nat) (is : List Itm) (K : Nat), Itms.ht is ≤ h → Itms.sz is ≤ 10000 → 2 + h ≤ K → callF GF K 51 false [.d (.tup (Itms.ds is)), .dct (flKV fl)] S = some (.d (.tup (Itms.ds (Itms.mapP (fillP fl) is))), S) := by
  intro h
  induction h with
  | zero =>
    intro is K hh hs hK
    obtain ⟨K, rfl⟩ := lv (c := 1) (by omega : 1 ≤ K)
    refine call_p (d := d_filled_items) rfl rfl ?_
    have := Itms.len_le is
    obtain ⟨u, v, w, e⟩ := filled_loop (K := K) (S := S) (fl := fl) (e0 := some (.d (.tup (Itms.ds is)))) (by omega) is [] none none none (fun id kind hid lab refs tip ins m => by
      have := Itms.ht_mem m
      simp only [Itm.ht] at this; omega) (by simp; omega)
    simp [d_filled_items, start, e]
  | succ h ih =>
    intro is K hh hs hK
    obtain ⟨K, rfl⟩ := lv (c := 1) (by omega : 1 ≤ K)
    refine call_p (d := d_filled_items) rfl rfl ?_
    have := Itms.len_le is
    obtain ⟨u, v, w, e⟩ := filled_loop (K := K) (S := S) (fl := fl) (e0 := some (.d (.tup (Itms.ds is)))) (by omega) is [] none none none (fun id kind hid lab refs tip ins m => by
      have h1 := Itms.ht_mem m
      have h2 := Itms.sz_mem m
      simp only [Itm.ht] at h1
      simp only [Itm.sz] at h2
      exact ih ins K (by omega) (by omega) (by omega)) (by simp; omega)
    simp [d_filled_items, start, e]
theorem page_filledK {is : List Itm} {h : Nat} (hb : Bear h is) (hp : isPageB is = true) (h1 : ∀ p ∈ fl, p.1.length ≤ 1000 ∧ p.2.length ≤ 1000) (h2 : isPairsB fl = true) (hK : 7 + 2 * h ≤ K) :
    callF GF K 52 false [.d (.tup (Itms.ds is)), .d (.tup (fl.map prD))] S = some (.d (.tup (Itms.ds (Itms.mapP (fillP fl) is))), S) := by
  obtain ⟨K, rfl⟩ := lv (c := 1) (by omega : 1 ≤ K)
  refine call_p (d := d_page_filled) rfl rfl ?_
  have e1 := need_pageK (S := S) (K := K) hb hp (by omega)
  have e2 := need_fillingK (S := S) (K := K) (fl := fl) (by omega) h1 h2
  have e3 := filled_itemsK (S := S) (fl := fl) h is K hb.ht (by have := hb.sz; omega) (by omega)
  have nd : (fl.map (·.1)).Nodup := by
    unfold isPairsB at h2
    rw [Bool.and_eq_true] at h2
    exact (ascB_iff.mp h2.2).imp fun {a b} hlt e => by subst e; exact lt_irr _ hlt
  have e4 := dict_fl (S := S) nd
  simp [d_page_filled, start, e1, e2, e3, e4]
end
end PI
set_option Elab.async false
set_option linter.all false
set_option maxRecDepth 100000
set_option maxHeartbeats 2000000
/-! SQ8: pages that fit; equality. -/
namespace PI
open PySem LW
mutual
theorem D.eq_refl : ∀ x : D, D.eq x x = true
  | .non => rfl
  | .bl b => by simp [D.eq]
  | .int i => by simp [D.eq]
  | .str s => by simp [D.eq]
  | .tup xs => by simp [D.eq, D.eqs_refl xs]
  | .lst xs => by simp [D.eq, D.eqs_refl xs]
theorem D.eqs_refl : ∀ xs : List D, D.eqs xs xs = true
  | [] => rfl
  | x :: xs => by simp [D.eqs, D.eq_refl x, D.eqs_refl xs]
end
theorem D.deps_le {n : Nat} : ∀ {xs : List D}, (∀ x ∈ xs, x.dep ≤ n) → D.deps xs ≤ n
  | [], _ => by simp [D.deps]
  | x :: xs, h => by
    have h1 := h x List.mem_cons_self
    have h2 := D.deps_le fun y m => h y (List.mem_cons_of_mem x m)
    simp only [D.deps]; omega
theorem Pc.dep (p : Pc) : p.d.dep ≤ 1 := by cases p <;> simp [Pc.d, D.dep, D.deps]
theorem opc_dep (o : Option Pc) : (opc o).dep ≤ 1 := by
  cases o with
  | none => simp [opc, D.dep]
  | some p => exact p.dep
theorem sds_dep (ts : List T) : D.deps (sds ts) ≤ 0 := D.deps_le fun x m => by
  obtain ⟨t, _, rfl⟩ := List.mem_map.mp m
  simp [D.dep]
mutual
theorem Itm.dep : ∀ i : Itm, i.d.dep ≤ 2 * i.ht + 1
  | .pc p => by have := p.dep; simp only [Itm.d, Itm.ht]; omega
  | .bx id kind hid lab refs tip ins => by
    have h1 := Itms.dep ins
    have h2 := opc_dep lab
    have h3 := opc_dep tip
    have h4 := sds_dep refs
    have h5 : hid.d.dep ≤ 1 := by cases hid <;> simp [Fg.d, D.dep, D.deps]
    simp only [Itm.d, Itm.ht, D.dep, D.deps]
    omega
theorem Itms.dep : ∀ is : List Itm, D.deps (Itms.ds is) ≤ 2 * Itms.ht is + 1
  | [] => by simp [Itms.ds, D.deps]
  | i :: is => by
    have h1 := Itm.dep i
    have h2 := Itms.dep is
    simp only [Itms.ds, D.deps, Itms.ht]; omega
end
theorem cmp_ne_self {x : D} (h : x.dep ≤ 60) : cmpD .ne x x = some false := by
  have : min x.dep x.dep ≤ 60 := by omega
  simp only [cmpD, this, if_true, D.eq_refl]
  rfl
theorem cmp_eq_self {x : D} (h : x.dep ≤ 60) : cmpD .eq x x = some true := by
  have : min x.dep x.dep ≤ 60 := by omega
  simp only [cmpD, this, if_true, D.eq_refl]
theorem page_dep {is : List Itm} (h : Itms.ht is ≤ 20) : (D.tup (Itms.ds is)).dep ≤ 60 := by
  have := Itms.dep is
  simp only [D.dep]; omega
/-! ### what fits -/
def gdI : Itm → Prop
  | .pc p => isPcB p = true
  | .bx id kind hid lab refs tip ins => idT id ∧ kind ∈ kindsT ∧ isFgB hid = true ∧ optB isPcB lab = true ∧ optB isPcB tip = true ∧ isRefsB refs = true ∧ ins.length ≤ 6 ∧ (kind = imageT → ins = []) ∧ (kind = fieldT → ∀ i ∈ ins, i.isB = false)
theorem isPB_of {i : Itm} (h : gdI i) (hb : i.isB = false) : isPB i = true := by
  cases i with
  | pc p => exact h
  | bx => cases hb
mutual
theorem fits1 : ∀ (i : Itm) (dp : Int), i.all gdI → i.isB = true → dp + i.ht ≤ 6 → fitsB dp i = true
  | .pc _, _, _, h, _ => by cases h
  | .bx id kind hid lab refs tip ins, dp, h, _, hd => by
    simp only [Itm.all, gdI] at h
    obtain ⟨⟨h1, h2, h3, h4, h5, h6, h7, h8, h9⟩, h10⟩ := h
    simp only [Itm.ht] at hd
    have h11 := fits2 ins (dp + 1) h10 (by omega)
    have h12 : dp ≤ 5 := by omega
    have h13 := isIdB_iff.mpr h1
    simp only [fitsB, h12, h13, h2, h3, h4, h5, h6, h7, h11, decide_true, Bool.true_and]
    by_cases c : kind = imageT
    · simp [c, h8 c]
    · rw [if_neg c]
      by_cases c2 : kind = fieldT
      · simp only [c2, decide_true, Bool.not_true, Bool.false_or, List.all_eq_true]
        intro i m
        exact isPB_of (Itm.all_self (Itms.all_iff.mp h10 i m)) (h9 c2 i m)
      · simp [c2]
theorem fits2 : ∀ (is : List Itm) (dp : Int), Itms.all gdI is → dp + Itms.ht is ≤ 6 → fitsA dp is = true
  | [], _, _, _ => by simp [fitsA]
  | i :: is, dp, h, hd => by
    simp only [Itms.all] at h
    simp only [Itms.ht] at hd
    have h2 := fits2 is dp h.2 (by omega)
    simp only [fitsA, h2, Bool.and_true, Bool.or_eq_true]
    cases hb : i.isB with
    | true => exact .inr (fits1 i dp h.1 hb (by omega))
    | false => exact .inl (isPB_of (Itm.all_self h.1) hb)
end
/-- a page -/
structure WF (is : List Itm) : Prop where
  gd : Itms.all gdI is
  ht : Itms.ht is ≤ 5
  len : is.length ≤ 6
  nd : (Itms.ids is).Nodup
  cnt : (Itms.ids is).length ≤ 16
  hs : (setT (Itms.hs is)).length ≤ 5
  sw : (setT (Itms.sws is)).length ≤ 3
theorem WF.page {is : List Itm} (h : WF is) : isPageB is = true := by
  have h1 := fits2 is 1 h.gd (by have := h.ht; omega)
  simp [isPageB, fitsI, h.len, h1, h.nd, h.cnt, h.hs, h.sw]
theorem optB_iff {f : Pc → Bool} {o : Option Pc} : optB f o = true ↔ ∀ y, o = some y → f y = true := by
  cases o with
  | none => simp [optB]
  | some p => simp [optB]
theorem isPcB_len {p : Pc} (h : isPcB p = true) : p.t.length ≤ 60 := by
  cases p with
  | tx t => simpa [isPcB, isTextB, Pc.t] using h
  | ho t =>
    have := isIdB_iff.mp (show isIdB t = true from h)
    have := this.2.1
    simp only [Pc.t]; omega
theorem bd_of_gd : ∀ i : Itm, gdI i → bdI i
  | .pc p, h => by
    have := isPcB_len h
    simp only [bdI]; omega
  | .bx id kind hid lab refs tip ins, h => by
    simp only [gdI] at h
    obtain ⟨h1, h2, h3, h4, h5, h6, h7, h8, h9⟩ := h
    simp only [bdI]
    simp only [isRefsB, Bool.and_eq_true, decide_eq_true_eq, List.all_eq_true] at h6
    refine ⟨by have := h1.2.1; omega, ?_, ?_, fun y e => ?_, fun y e => ?_, by omega, fun x m => ?_, by omega⟩
    · simp only [List.mem_cons, List.not_mem_nil, or_false] at h2
      rcases h2 with rfl | rfl | rfl | rfl | rfl | rfl <;> decide
    · cases hid with
      | b x => simp [Fg.t]
      | off t =>
        have := (isIdB_iff.mp (show isIdB t = true from h3)).2.1
        simp only [Fg.t]; omega
    · have := isPcB_len (optB_iff.mp h4 y e); omega
    · have := isPcB_len (optB_iff.mp h5 y e); omega
    · have := (isIdB_iff.mp (h6.2 x m)).2.1; omega
/-- counted by the boxes -/
def lenC (c : Nat) : Itm → Prop
  | .pc _ => True
  | .bx _ _ _ _ _ _ ins => ins.length ≤ c
mutual
theorem Itm.sz_le (c : Nat) : ∀ i : Itm, i.all (lenC c) → i.sz ≤ 1 + c * i.ids.length
  | .pc _, _ => by simp [Itm.sz]
  | .bx _ _ _ _ _ _ ins, h => by
    simp only [Itm.all, lenC] at h
    have := Itms.sz_le c ins h.2
    simp only [Itm.sz, Itm.ids, List.length_cons, Nat.mul_add]; omega
theorem Itms.sz_le (c : Nat) : ∀ is : List Itm, Itms.all (lenC c) is → Itms.sz is ≤ is.length + c * (Itms.ids is).length
  | [], _ => by simp [Itms.sz]
  | i :: is, h => by
    simp only [Itms.all] at h
    have := Itm.sz_le c i h.1
    have := Itms.sz_le c is h.2
    simp only [Itms.sz, Itms.ids, List.length_cons, List.length_append, Nat.mul_add]; omega
end
theorem oHs_len (o : Option Pc) : (oHs o).length ≤ 1 := by
  cases o with
  | none => simp [oHs]
  | some p => cases p <;> simp [oHs, Pc.hs]
mutual
theorem Itm.hs_len : ∀ i : Itm, i.hs.length ≤ i.sz + i.ids.length
  | .pc p => by cases p <;> simp [Itm.hs, Pc.hs, Itm.sz]
  | .bx _ _ _ lab _ tip ins => by
    have := Itms.hs_len ins
    have := oHs_len lab
    have := oHs_len tip
    simp only [Itm.hs, Itm.sz, Itm.ids, List.length_append, List.length_cons]; omega
theorem Itms.hs_len : ∀ is : List Itm, (Itms.hs is).length ≤ Itms.sz is + (Itms.ids is).length
  | [] => by simp [Itms.hs]
  | i :: is => by
    have := Itm.hs_len i
    have := Itms.hs_len is
    simp only [Itms.hs, Itms.sz, Itms.ids, List.length_append]; omega
end
mutual
theorem Itm.sws_len : ∀ i : Itm, i.sws.length ≤ i.ids.length
  | .pc p => by simp [Itm.sws]
  | .bx _ _ hid _ _ _ ins => by
    have := Itms.sws_len ins
    have : hid.sw.length ≤ 1 := by cases hid <;> simp [Fg.sw]
    simp only [Itm.sws, Itm.ids, List.length_append, List.length_cons]; omega
theorem Itms.sws_len : ∀ is : List Itm, (Itms.sws is).length ≤ (Itms.ids is).length
  | [] => by simp [Itms.sws]
  | i :: is => by
    have := Itm.sws_len i
    have := Itms.sws_len is
    simp only [Itms.sws, Itms.ids, List.length_append]; omega
end
theorem WF.bear {is : List Itm} (h : WF is) (h64 : (Itms.hs is).length < 64) : Bear 5 is := by
  have h1 : Itms.all (lenC 6) is := Itms.all_imp (fun i g => by
    cases i with
    | pc p => trivial
    | bx => exact g.2.2.2.2.2.2.1) h.gd
  have h2 := Itms.sz_le 6 is h1
  have h3 := h.len
  have h4 := h.cnt
  have h5 := Itms.sws_len is
  exact ⟨h.ht, by omega, Itms.all_imp bd_of_gd h.gd, h64, by omega⟩
/-! ### what is drawn fits -/
def idP (Q : T → Prop) : Itm → Prop
  | .pc _ => True
  | .bx id _ _ _ _ _ _ => Q id
mutual
theorem Itm.all_ids {Q : T → Prop} : ∀ i : Itm, (∀ t ∈ i.ids, Q t) → i.all (idP Q)
  | .pc _, _ => trivial
  | .bx id _ _ _ _ _ ins, h => by
    simp only [Itm.all, idP]
    exact ⟨h id (by simp [Itm.ids]), Itms.all_ids ins fun t m => h t (by simp [Itm.ids, m])⟩
theorem Itms.all_ids {Q : T → Prop} : ∀ is : List Itm, (∀ t ∈ Itms.ids is, Q t) → Itms.all (idP Q) is
  | [], _ => trivial
  | i :: is, h => by
    simp only [Itms.all]
    exact ⟨Itm.all_ids i fun t m => h t (by simp [Itms.ids, m]), Itms.all_ids is fun t m => h t (by simp [Itms.ids, m])⟩
end
mutual
theorem Itm.all_and {P Q : Itm → Prop} : ∀ i : Itm, i.all P → i.all Q → i.all fun i => P i ∧ Q i
  | .pc _, h, g => ⟨h, g⟩
  | .bx .., h, g => by
    simp only [Itm.all] at h g ⊢
    exact ⟨⟨h.1, g.1⟩, Itms.all_and _ h.2 g.2⟩
theorem Itms.all_and {P Q : Itm → Prop} : ∀ is : List Itm, Itms.all P is → Itms.all Q is → Itms.all (fun i => P i ∧ Q i) is
  | [], _, _ => trivial
  | i :: is, h, g => by
    simp only [Itms.all] at h g ⊢
    exact ⟨Itm.all_and i h.1 g.1, Itms.all_and is h.2 g.2⟩
end
mutual
theorem Itm.hs_mem {P : T → Prop} : ∀ i : Itm, i.all (fun i => match i with
    | .pc p => ∀ t ∈ p.hs, P t
    | .bx _ _ _ lab _ tip _ => (∀ t ∈ oHs lab, P t) ∧ ∀ t ∈ oHs tip, P t) → ∀ t ∈ i.hs, P t
  | .pc p, h, t, m => h t m
  | .bx _ _ _ lab _ tip ins, h, t, m => by
    simp only [Itm.all] at h
    simp only [Itm.hs, List.mem_append] at m
    rcases m with (m | m) | m
    · exact h.1.1 t m
    · exact h.1.2 t m
    · exact Itms.hs_mem ins h.2 t m
theorem Itms.hs_mem {P : T → Prop} : ∀ is : List Itm, Itms.all (fun i => match i with
    | .pc p => ∀ t ∈ p.hs, P t
    | .bx _ _ _ lab _ tip _ => (∀ t ∈ oHs lab, P t) ∧ ∀ t ∈ oHs tip, P t) is → ∀ t ∈ Itms.hs is, P t
  | [], _, t, m => by simp [Itms.hs] at m
  | i :: is, h, t, m => by
    simp only [Itms.all] at h
    simp only [Itms.hs, List.mem_append] at m
    exact m.elim (Itm.hs_mem i h.1 t) (Itms.hs_mem is h.2 t)
end
mutual
theorem Itm.sws_mem {P : T → Prop} : ∀ i : Itm, i.all (fun i => ∀ t ∈ swOf i, P t) → ∀ t ∈ i.sws, P t
  | .pc p, h, t, m => by simp [Itm.sws] at m
  | .bx _ _ hid lab _ tip ins, h, t, m => by
    simp only [Itm.all] at h
    simp only [Itm.sws, List.mem_append] at m
    exact m.elim (h.1 t) (Itms.sws_mem ins h.2 t)
theorem Itms.sws_mem {P : T → Prop} : ∀ is : List Itm, Itms.all (fun i => ∀ t ∈ swOf i, P t) is → ∀ t ∈ Itms.sws is, P t
  | [], _, t, m => by simp [Itms.sws] at m
  | i :: is, h, t, m => by
    simp only [Itms.all] at h
    simp only [Itms.sws, List.mem_append] at m
    exact m.elim (Itm.sws_mem i h.1 t) (Itms.sws_mem is h.2 t)
end
section
variable {most mh ms rf : Int} {is : List Itm}
theorem pcOk_B {hs : List T} (hh : ∀ t ∈ hs, idT t) {p : Pc} (h : pcOk hs p) : isPcB p = true := by
  cases p with
  | tx t =>
    have : t.length ≤ 30 := h.1
    simp [isPcB, isTextB]; omega
  | ho t => exact isIdB_iff.mpr (hh t h)
theorem DrawnP.ids (h : DrawnP most mh ms rf is) : (Itms.ids is).Nodup ∧ (Itms.ids is).length ≤ most.toNat ∧ ∀ t ∈ Itms.ids is, idT t := by
  obtain ⟨⟨all, hs, ss, rest, h1, h2, h3, h4, h5, h6, h7, h8, h9, h10, h11⟩, hh, hl, hn⟩ := h
  have nd : (Itms.ids is ++ rest).Nodup := h2.nodup_iff.mpr (h4.sublist (List.take_sublist _ _))
  refine ⟨(List.nodup_append.mp nd).1, ?_, fun t m => ?_⟩
  · have := h2.length_eq
    rw [List.length_append, List.length_take] at this; omega
  · have : t ∈ all.take most.toNat := h2.mem_iff.mp (List.mem_append_left _ m)
    exact h9 t (List.mem_of_mem_take this)
theorem DrawnP.wf (h : DrawnP most mh ms rf is) (h1 : most ≤ 12) (h2 : mh ≤ 5) (h3 : ms ≤ 3) : WF is ∧ (Itms.hs is).length < 64 := by
  obtain ⟨i1, i2, i3⟩ := h.ids
  obtain ⟨⟨all, hs, ss, rest, g1, g2, g3, g4, g5, g6, g7, g8, g9, g10, g11⟩, hh, hl, hn⟩ := h
  have ai := Itms.all_and is g1 (Itms.all_ids is i3)
  have l3 : Itms.all (lenC 3) is := Itms.all_imp (fun i g => by
    cases i with
    | pc p => trivial
    | bx => exact g.2.2.2.2.2.2.2.1) g1
  have z1 := Itms.sz_le 3 is l3
  have z2 := Itms.hs_len is
  have mhs : ∀ t ∈ Itms.hs is, t ∈ hs := Itms.hs_mem is (Itms.all_imp (fun i g => by
    have po : ∀ {p : Pc}, pcOk hs p → ∀ t ∈ p.hs, t ∈ hs := fun {p} h t m => by
      cases p with
      | tx x => simp [Pc.hs] at m
      | ho x =>
        simp [Pc.hs] at m
        subst m; exact h
    have oo : ∀ {o : Option Pc}, (∀ y, o = some y → pcOk hs y) → ∀ t ∈ oHs o, t ∈ hs := fun {o} h t m => by
      cases o with
      | none => simp [oHs] at m
      | some p => exact po (h p rfl) t m
    cases i with
    | pc p => exact po g
    | bx => exact ⟨oo g.2.2.1, oo g.2.2.2.1⟩) g1)
  have msw : ∀ t ∈ Itms.sws is, t ∈ ss := Itms.sws_mem is (Itms.all_imp (fun i g => by
    cases i with
    | pc p => intro t m; simp [swOf] at m
    | bx id kind hid lab refs tip ins =>
      intro t m
      cases hid with
      | b x => simp [swOf, Fg.sw] at m
      | off x =>
        simp [swOf, Fg.sw] at m
        subst m; exact g.2.1) g1)
  refine ⟨⟨Itms.all_imp (fun i g => ?_) ai, by omega, by omega, i1, by omega, ?_, ?_⟩, by omega⟩
  · obtain ⟨g, gi⟩ := g
    cases i with
    | pc p => exact pcOk_B g10 g
    | bx id kind hid lab refs tip ins =>
      obtain ⟨q1, q2, q3, q4, q5, q6, q7, q8, q9, q10⟩ := g
      refine ⟨gi, q1, ?_, optB_iff.mpr fun y e => pcOk_B g10 (q3 y e), optB_iff.mpr fun y e => pcOk_B g10 (q4 y e), ?_, by omega, q10, q9⟩
      · cases hid with
        | b x => rfl
        | off t => exact isIdB_iff.mpr (g11 t q2)
      · simp only [isRefsB, Bool.and_eq_true, decide_eq_true_eq, List.all_eq_true]
        exact ⟨q5, fun x m => isIdB_iff.mpr (g9 x (q6 x m))⟩
  · have := setT_sub_len mhs; omega
  · have := setT_sub_len msw; omega
end
end PI
set_option Elab.async false
set_option linter.all false
set_option maxRecDepth 100000
set_option maxHeartbeats 2000000
/-! SQ9: drawing comprehensions; _law_some; _law_filled. -/
namespace PI
open PySem LW
section
variable {C : Calls} {e : E} {p : Pat} {it c elt : E} {own : List Nat} {ρ : Env} {S0 S1 : Store} {n : Nat} {α : Type}
/-- its test draws -/
theorem comp_drawF (f : α → Val) (g : α → D) (as : List α) (he : e = .comp false p it c elt own) (hi : evI C it ρ S0 = some (as.map f, S1)) (ok : Sok n S1)
    (hb : ∀ a ∈ as, ∀ S, Mo n S1 S → ∃ ρ' b S', bindP p (f a) (wipe ρ own) = some ρ' ∧ evE C c ρ' S = some (.d (.bl b), S') ∧ Mo n S S' ∧ (b = true → evE C elt ρ' S' = some (.d (g a), S'))) :
    ∃ (bs : List α) (S' : Store), evE C e ρ S0 = some (.d (.lst (bs.map g)), S') ∧ Mo n S1 S' ∧ bs.Sublist as := by
  subst he
  have key : ∀ (as : List α) (S : Store), Mo n S1 S → (∀ a ∈ as, ∀ S, Mo n S1 S → ∃ ρ' b S', bindP p (f a) (wipe ρ own) = some ρ' ∧ evE C c ρ' S = some (.d (.bl b), S') ∧ Mo n S S' ∧ (b = true → evE C elt ρ' S' = some (.d (g a), S'))) →
      ∃ (bs : List α) (S' : Store), evLc (fun v ρ S => match bindP p v ρ with
      | some ρ => bnd (evE C c ρ S) fun b S => match b with
        | .d (.bl true) => bnd (evE C elt ρ S) fun y S => some ([y], S)
        | .d (.bl false) => some ([], S)
        | _ => none
      | none => none) (as.map f) (wipe ρ own) S = some ((bs.map g).map .d, S') ∧ Mo n S S' ∧ bs.Sublist as := by
    intro as
    induction as with
    | nil => intro S m _; exact ⟨[], S, rfl, .refl m.ok, List.Sublist.refl _⟩
    | cons a as ih =>
      intro S m h
      obtain ⟨ρ', b, S2, e1, e2, m2, e3⟩ := h a List.mem_cons_self S m
      obtain ⟨bs, S3, e4, m3, sl⟩ := ih S2 (m.trans m2) fun a q => h a (List.mem_cons_of_mem _ q)
      cases b with
      | true => exact ⟨a :: bs, S3, by simp [evLc, e1, e2, e3 rfl, e4, -List.map_map], m2.trans m3, sl.cons_cons a⟩
      | false => exact ⟨bs, S3, by simp [evLc, e1, e2, e4, -List.map_map], m2.trans m3, sl.cons a⟩
  obtain ⟨bs, S', e1, m, sl⟩ := key as S1 (.refl ok) hb
  refine ⟨bs, S', ?_, m, sl⟩
  rw [evE, hi]
  simp only [bnd_some]
  refine Eq.trans (congrArg (fun z => bnd z fun vs S => mkL false vs S) e1) ?_
  simp [-List.map_map]
/-- its elements draw, one for each -/
theorem comp_drawR (f : α → Val) (R : α → D → Prop) (as : List α) (he : e = .comp false p it (.bl true) elt own) (hi : evI C it ρ S0 = some (as.map f, S1)) (ok : Sok n S1)
    (hb : ∀ a ∈ as, ∀ S, Mo n S1 S → ∃ ρ' d S', bindP p (f a) (wipe ρ own) = some ρ' ∧ evE C elt ρ' S = some (.d d, S') ∧ Mo n S S' ∧ R a d) :
    ∃ (ps : List (α × D)) (S' : Store), evE C e ρ S0 = some (.d (.lst (ps.map (·.2))), S') ∧ Mo n S1 S' ∧ ps.map (·.1) = as ∧ ∀ p ∈ ps, R p.1 p.2 := by
  subst he
  have key : ∀ (as : List α) (S : Store), Mo n S1 S → (∀ a ∈ as, ∀ S, Mo n S1 S → ∃ ρ' d S', bindP p (f a) (wipe ρ own) = some ρ' ∧ evE C elt ρ' S = some (.d d, S') ∧ Mo n S S' ∧ R a d) →
      ∃ (ps : List (α × D)) (S' : Store), evLc (fun v ρ S => match bindP p v ρ with
      | some ρ => bnd (evE C (.bl true) ρ S) fun b S => match b with
        | .d (.bl true) => bnd (evE C elt ρ S) fun y S => some ([y], S)
        | .d (.bl false) => some ([], S)
        | _ => none
      | none => none) (as.map f) (wipe ρ own) S = some ((ps.map (·.2)).map .d, S') ∧ Mo n S S' ∧ ps.map (·.1) = as ∧ ∀ p ∈ ps, R p.1 p.2 := by
    intro as
    induction as with
    | nil => intro S m _; exact ⟨[], S, rfl, .refl m.ok, rfl, fun p q => by cases q⟩
    | cons a as ih =>
      intro S m h
      obtain ⟨ρ', d, S2, e1, e2, m2, r⟩ := h a List.mem_cons_self S m
      obtain ⟨ps, S3, e4, m3, h1, h2⟩ := ih S2 (m.trans m2) fun a q => h a (List.mem_cons_of_mem _ q)
      refine ⟨(a, d) :: ps, S3, ?_, m2.trans m3, by simp [h1], fun p q => ?_⟩
      · rw [List.map_cons, evLc]
        refine Eq.trans (congrArg (fun z => bnd z _) (show _ = some ([.d d], S2) by simp only [e1, evE_bl, bnd_some, e2])) ?_
        rw [bnd_some, e4]
        rfl
      rcases List.mem_cons.mp q with rfl | q
      · exact r
      · exact h2 p q
  obtain ⟨ps, S', e1, m, h1, h2⟩ := key as S1 (.refl ok) hb
  refine ⟨ps, S', ?_, m, h1, h2⟩
  rw [evE, hi]
  simp only [bnd_some]
  refine Eq.trans (congrArg (fun z => bnd z fun vs S => mkL false vs S) e1) ?_
  simp [-List.map_map]
end
section
variable {K n : Nat} {S : Store}
theorem law_someK {ts : List T} (hK : 2 ≤ K) (ok : Sok n S) : ∃ us S', callF GF K 53 false [.l n, .d (.tup (sds ts))] S = some (.d (.tup (sds us)), S') ∧ Mo n S S' ∧ us.Sublist ts := by
  obtain ⟨K, rfl⟩ := lv (c := 1) (by omega : 1 ≤ K)
  obtain ⟨us, S', e, m, sl⟩ := comp_drawF (C := callF GF K) (e := d__law_some_c0) (ρ := [some (.l n), some (.d (.tup (sds ts))), none]) (S0 := S) (S1 := S) (n := n) (fun t : T => .d (.str t)) (fun t => .str t) ts rfl (by simp [sds]) ok fun t ht S mo => by
    obtain ⟨r, S', e1, m1, r0, r1⟩ := drawK (K := K) (m := 2) (by omega) mo.ok (by omega) (by omega)
    exact ⟨_, decide (r = 0), S', rfl, by simp [wipe, e1], m1, fun _ => by simp [wipe]⟩
  refine ⟨us, S', call_d (d := d__law_some) rfl rfl ?_ m.len, m, sl⟩
  have e' : evE (callF GF K) d__law_some_c0 [some (.l n), some (.d (.tup (sds ts))), none] S = some (.d (.lst (sds us)), S') := e
  simp [d__law_some, start, e']
end
/-! ### _law_filled -/
def oid : Option Itm → D
  | none => .non
  | some i => i.d
def fillO (fl : List (T × T)) : Option Itm → Option Itm := Option.map (Itm.mapP (fillP fl))
theorem set_last {S : Store} {c c' : Cell} : (S ++ [c]).set S.length c' = S ++ [c'] := by simp
theorem get_last {S : Store} {c : Cell} : (S ++ [c])[S.length]? = some c := by simp
section
variable {K : Nat} {S : Store} {fl : List (T × T)}
theorem law_boxO {o : Option Itm} (hK : 1 ≤ K) : callF GF K 40 false [.d (oid o)] S = some (.d (.bl (match o with | some i => i.isB | none => false)), S) := by
  cases o with
  | some i => exact law_boxK hK
  | none =>
    obtain ⟨K, rfl⟩ := lv hK
    refine call_p (d := d__law_is_box) rfl rfl ?_
    simp [d__law_is_box, start, oid]
theorem app_last {S : Store} {acc : List D} {d : D} (h : acc.length ≤ 10000) : appV (.l S.length) (.d d) (S ++ [.lst (acc.map .d)]) = some (S ++ [.lst ((acc ++ [d]).map .d)]) := by
  have : acc.length < lim := by unfold lim; omega
  simp [appV, okv, get_last, this, set_last]
theorem isL_last {S : Store} {vs : List Val} : isL (.l S.length) (S ++ [.lst vs]) = true := by simp [isL]
/-- what the law gathers from a list of items -/
def LF (K : Nat) (fl : List (T × T)) (os : List (Option Itm)) : Prop := ∀ S, callF GF K 54 false [.d (.tup (os.map oid)), .dct (flKV fl)] S = some (.d (.tup ((os.map (fillO fl)).map oid)), S)
theorem lf_loop {e0 : Option Val} (hK : 1 ≤ K) : ∀ (os : List (Option Itm)) (acc : List D) (u v w : Option Val), (∀ id kind hid lab refs tip ins, some (Itm.bx id kind hid lab refs tip ins) ∈ os → LF K fl (ins.map some) ∧ LF K fl [lab.map .pc, tip.map .pc]) →
    acc.length + os.length ≤ 10000 →
    ∃ u' v' w', evFor (bindP (.nm 3)) (evSs (callF GF K) d__law_filled_l0) (os.map fun o => .d (oid o)) [e0, some (.dct (flKV fl)), some (.l S.length), u, v, w] (S ++ [.lst (acc.map .d)]) = some (.nx [e0, some (.dct (flKV fl)), some (.l S.length), u', v', w'] (S ++ [.lst ((acc ++ (os.map (fillO fl)).map oid).map .d)]))
  | [], acc, u, v, w, _, _ => ⟨u, v, w, by simp⟩
  | o :: os, acc, u, v, w, h, hl => by
    simp only [List.length_cons] at hl
    have e1 := law_boxO (K := K) (S := S ++ [.lst (acc.map .d)]) (o := o) hK
    have a1 := fun d => app_last (S := S) (acc := acc) (d := d) (by omega)
    have i1 := isL_last (S := S) (vs := acc.map .d)
    have step : ∀ v' w', evSs (callF GF K) d__law_filled_l0 [e0, some (.dct (flKV fl)), some (.l S.length), some (.d (oid o)), v, w] (S ++ [.lst (acc.map .d)]) = some (.nx [e0, some (.dct (flKV fl)), some (.l S.length), some (.d (oid o)), v', w'] (S ++ [.lst ((acc ++ [oid (fillO fl o)]).map .d)])) →
        ∃ u' v' w', evFor (bindP (.nm 3)) (evSs (callF GF K) d__law_filled_l0) ((o :: os).map fun o => .d (oid o)) [e0, some (.dct (flKV fl)), some (.l S.length), u, v, w] (S ++ [.lst (acc.map .d)]) = some (.nx [e0, some (.dct (flKV fl)), some (.l S.length), u', v', w'] (S ++ [.lst ((acc ++ ((o :: os).map (fillO fl)).map oid).map .d)])) := fun v' w' st => by
      obtain ⟨u2, v2, w2, ih⟩ := lf_loop (e0 := e0) hK os (acc ++ [oid (fillO fl o)]) (some (.d (oid o))) v' w' (fun id kind hid lab refs tip ins m => h id kind hid lab refs tip ins (List.mem_cons_of_mem _ m)) (by simp; omega)
      exact ⟨u2, v2, w2, for_step (ρ1 := [e0, some (.dct (flKV fl)), some (.l S.length), some (.d (oid o)), v, w]) rfl st (by rw [ih]; simp)⟩
    cases o with
    | none =>
      refine step v w ?_
      simp only [oid] at e1 a1 ⊢
      simp [d__law_filled_l0, e1, fillO, oid, i1, a1, -List.map_append]
    | some i =>
      cases i with
      | pc p =>
        refine step v w ?_
        have a2 := a1 (oid (fillO fl (some (.pc p))))
        cases p with
        | tx t =>
          simp only [oid, fillO, Option.map_some, Itm.mapP, fillP, Itm.d, Pc.d] at e1 a2 ⊢
          simp [d__law_filled_l0, e1, Itm.isB, i1, a2, -List.map_append]
        | ho t =>
          have hd : isDc (.dct (flKV fl)) (S ++ [.lst (acc.map .d)]) = true := rfl
          simp only [oid, fillO, Option.map_some, Itm.mapP, fillP, Itm.d, Pc.d] at e1 a2 ⊢
          simp [d__law_filled_l0, e1, Itm.isB, i1, a2, hd, getV, flKV_get, -List.map_append]
      | bx id kind hid lab refs tip ins =>
        obtain ⟨h1, h2⟩ := h id kind hid lab refs tip ins List.mem_cons_self
        have h1 := h1 (S ++ [.lst (acc.map .d)])
        have h2 := h2 (S ++ [.lst (acc.map .d)])
        refine step (some (.d (opc (lab.map (fillP fl))))) (some (.d (opc (tip.map (fillP fl))))) ?_
        have a2 := a1 (oid (fillO fl (some (.bx id kind hid lab refs tip ins))))
        have q1 : (ins.map some).map oid = Itms.ds ins := by rw [Itms.ds_eq, List.map_map]; rfl
        have q2 : ((ins.map some).map (fillO fl)).map oid = Itms.ds (Itms.mapP (fillP fl) ins) := by
          rw [Itms.ds_eq]
          have : ∀ l : List Itm, ((l.map some).map (fillO fl)).map oid = (Itms.mapP (fillP fl) l).map Itm.d := by
            intro l
            induction l with
            | nil => simp [Itms.mapP]
            | cons i l ih => simp only [List.map_cons, Itms.mapP, ih]; rfl
          exact this ins
        have q3 : ∀ o : Option Pc, oid (o.map .pc) = opc o := fun o => by cases o <;> rfl
        have q4 : ∀ o : Option Pc, oid (fillO fl (o.map .pc)) = opc (o.map (fillP fl)) := fun o => by cases o <;> rfl
        rw [q1, q2] at h1
        simp only [List.map_cons, List.map_nil, q3, q4] at h2
        simp only [oid, fillO, Option.map_some, Itm.mapP, Itm.d] at e1 a2 ⊢
        simp [d__law_filled_l0, e1, Itm.isB, i1, h1, h2, partE, slice_tup, add_7, a2, -List.map_append]
theorem lf_of (hK : 1 ≤ K) {os : List (Option Itm)} (h : ∀ id kind hid lab refs tip ins, some (Itm.bx id kind hid lab refs tip ins) ∈ os → LF K fl (ins.map some) ∧ LF K fl [lab.map .pc, tip.map .pc]) (hl : os.length ≤ 10000) : LF (K + 1) fl os := by
  intro S
  obtain ⟨u, v, w, e⟩ := lf_loop (K := K) (S := S) (fl := fl) (e0 := some (.d (.tup (os.map oid)))) hK os [] none none none h (by simpa using hl)
  have fin : evSs (callF GF K) d__law_filled.fn.body (start d__law_filled.fn [.d (.tup (os.map oid)), .dct (flKV fl)]) S = some (.ret (.d (.tup ((os.map (fillO fl)).map oid))) (S ++ [.lst (((os.map (fillO fl)).map oid).map .d)])) := by
    simp only [List.nil_append, List.map_nil] at e
    have hb : b1V .tup (.l S.length) (S ++ [.lst (((os.map (fillO fl)).map oid).map .d)]) = some (.d (.tup ((os.map (fillO fl)).map oid)), S ++ [.lst (((os.map (fillO fl)).map oid).map .d)]) := by
      simp [b1V, listV, -List.map_map]
    have q : (os.map oid).map Val.d = os.map fun o => .d (oid o) := by rw [List.map_map]; rfl
    simp [d__law_filled, start, q, e, hb, -List.map_map]
  exact call_f rfl rfl fin (by simp [finish, okv])
theorem law_filledK : ∀ (h : Nat) (is : List Itm) (K : Nat), Itms.ht is ≤ h → Itms.sz is ≤ 10000 → 3 + h ≤ K → callF GF K 54 false [.d (.tup (Itms.ds is)), .dct (flKV fl)] S = some (.d (.tup (Itms.ds (Itms.mapP (fillP fl) is))), S) := by
  have main : ∀ (h : Nat) (is : List Itm) (K : Nat), Itms.ht is ≤ h → Itms.sz is ≤ 10000 → 3 + h ≤ K → LF K fl (is.map some) := by
    intro h
    induction h with
    | zero =>
      intro is K hh hs hK
      obtain ⟨K, rfl⟩ := lv (c := 1) (by omega : 1 ≤ K)
      refine lf_of (by omega) (fun id kind hid lab refs tip ins m => ?_) (by have := Itms.len_le is; simp; omega)
      obtain ⟨i, hi, e⟩ := List.mem_map.mp m
      cases e
      have := Itms.ht_mem hi
      simp only [Itm.ht] at this; omega
    | succ h ih =>
      intro is K hh hs hK
      obtain ⟨K, rfl⟩ := lv (c := 2) (by omega : 2 ≤ K)
      refine lf_of (by omega) (fun id kind hid lab refs tip ins m => ?_) (by have := Itms.len_le is; simp; omega)
      obtain ⟨i, hi, e⟩ := List.mem_map.mp m
      cases e
      have h1 := Itms.ht_mem hi
      have h2 := Itms.sz_mem hi
      simp only [Itm.ht] at h1
      simp only [Itm.sz] at h2
      refine ⟨ih ins _ (by omega) (by omega) (by omega), lf_of (by omega) (fun id kind hid lab' refs tip' ins m => ?_) (by simp)⟩
      simp only [List.mem_cons, List.not_mem_nil, or_false] at m
      rcases m with m | m
      · cases lab <;> cases m
      · cases tip <;> cases m
  intro h is K hh hs hK
  have := main h is K hh hs hK S
  have q1 : (is.map some).map oid = Itms.ds is := by rw [Itms.ds_eq, List.map_map]; rfl
  have q2 : ((is.map some).map (fillO fl)).map oid = Itms.ds (Itms.mapP (fillP fl) is) := by
    rw [Itms.ds_eq]
    have : ∀ l : List Itm, ((l.map some).map (fillO fl)).map oid = (Itms.mapP (fillP fl) l).map Itm.d := by
      intro l
      induction l with
      | nil => simp [Itms.mapP]
      | cons i l ih => simp only [List.map_cons, Itms.mapP, ih]; rfl
    exact this is
  rwa [q1, q2] at this
end
end PI
set_option Elab.async false
set_option linter.all false
set_option maxRecDepth 100000
set_option maxHeartbeats 4000000
/-! SK03: pages filled. -/
namespace PI
open PySem LW
/-! ### dicts of texts -/
theorem flKV_put (k v : T) (xs : List (T × T)) : put k (Val.d (.str v)) (flKV xs) = flKV (put k v xs) := by
  unfold put
  have h : ((flKV xs).any fun p => decide (p.1 = k)) = xs.any fun p => decide (p.1 = k) := by simp [flKV, List.any_map, Function.comp_def]
  rw [h]
  by_cases c : (xs.any fun p => decide (p.1 = k)) = true
  · rw [if_pos c, if_pos c]
    simp only [flKV, List.map_map]
    refine List.map_congr_left fun p _ => ?_
    simp only [Function.comp_apply]
    split <;> rfl
  · rw [if_neg c, if_neg c]
    simp [flKV]
def dictT : List (T × T) → List (T × T) → List (T × T)
  | kvs, [] => kvs
  | kvs, (k, v) :: r => dictT (put k v kvs) r
theorem putAll_fl : ∀ (ys xs : List (T × T)), putAll (flKV xs) (flKV ys) = flKV (dictT xs ys)
  | [], xs => rfl
  | (k, v) :: ys, xs => by
    simp only [flKV, List.map_cons, putAll, dictT]
    have := flKV_put k v xs
    simp only [flKV] at this
    rw [this]
    exact putAll_fl ys (put k v xs)
theorem put_keys {α : Type} (k : T) (v : α) (xs : List (T × α)) : (put k v xs).map (·.1) = if k ∈ xs.map (·.1) then xs.map (·.1) else xs.map (·.1) ++ [k] := by
  unfold put
  by_cases c : (xs.any fun p => decide (p.1 = k)) = true
  · rw [if_pos c]
    obtain ⟨p, m, e⟩ := List.any_eq_true.mp c
    rw [if_pos (List.mem_map.mpr ⟨p, m, by simpa using e⟩), List.map_map]
    refine List.map_congr_left fun p _ => ?_
    simp only [Function.comp_apply]
    split <;> rfl
  · rw [if_neg c, if_neg (fun m => c (by
      obtain ⟨p, m, e⟩ := List.mem_map.mp m
      exact List.any_eq_true.mpr ⟨p, m, by simpa using e⟩))]
    simp
theorem put_vals {P : T → Prop} {k v : T} {xs : List (T × T)} (hv : P v) (h : ∀ p ∈ xs, P p.2) : ∀ p ∈ put k v xs, P p.2 := by
  unfold put
  split
  · intro p m
    obtain ⟨q, hq, e⟩ := List.mem_map.mp m
    split at e
    · subst e; exact hv
    · subst e; exact h q hq
  · intro p m
    rcases List.mem_append.mp m with m | m
    · exact h p m
    · rw [List.mem_singleton.mp m]; exact hv
theorem dictT_ok {P Q : T → Prop} : ∀ (ys xs : List (T × T)), (∀ p ∈ ys, P p.1 ∧ Q p.2) → (xs.map (·.1)).Nodup → (∀ p ∈ xs, P p.1) → (∀ p ∈ xs, Q p.2) → ((dictT xs ys).map (·.1)).Nodup ∧ (∀ p ∈ dictT xs ys, P p.1 ∧ Q p.2) ∧ (dictT xs ys).length ≤ xs.length + ys.length
  | [], xs, _, nd, h1, h2 => ⟨nd, fun p m => ⟨h1 p m, h2 p m⟩, by simp [dictT]⟩
  | (k, v) :: ys, xs, h, nd, h1, h2 => by
    obtain ⟨hk, hv⟩ := h (k, v) List.mem_cons_self
    have ke := put_keys k v xs
    have := dictT_ok (P := P) (Q := Q) ys (put k v xs) (fun p m => h p (List.mem_cons_of_mem _ m)) (by
      rw [ke]
      split
      · exact nd
      · rename_i hn
        exact List.nodup_append.mpr ⟨nd, by simp, fun a ha b hb e => by rw [List.mem_singleton.mp hb] at e; exact hn (e ▸ ha)⟩) (fun p m => by
      have : p.1 ∈ (put k v xs).map (·.1) := List.mem_map.mpr ⟨p, m, rfl⟩
      rw [ke] at this
      have key : ∀ t ∈ xs.map (·.1), P t := fun t m => by
        obtain ⟨q, hq, rfl⟩ := List.mem_map.mp m
        exact h1 q hq
      split at this
      · exact key _ this
      · rcases List.mem_append.mp this with m | m
        · exact key _ m
        · rw [List.mem_singleton.mp m]; exact hk) (put_vals hv h2)
    refine ⟨this.1, this.2.1, Nat.le_trans this.2.2 ?_⟩
    have : (put k v xs).length ≤ xs.length + 1 := by
      rw [← List.length_map (f := (·.1)), ke]
      split <;> simp
    simp; omega
/-- the keys in order, each with its text -/
def sortFl (fl : List (T × T)) : List (T × T) := (sortT (fl.map (·.1))).map fun k => (k, lkT fl k)
theorem lkT_mem {fl : List (T × T)} {k v : T} (nd : (fl.map (·.1)).Nodup) (m : (k, v) ∈ fl) : lkT fl k = v := by
  unfold lkT
  rw [lkp_mem nd m]; rfl
theorem sortFl_keys (fl : List (T × T)) : (sortFl fl).map (·.1) = sortT (fl.map (·.1)) := by simp [sortFl, Function.comp_def]
theorem sortFl_lk {fl : List (T × T)} (nd : (fl.map (·.1)).Nodup) (t : T) : lkT (sortFl fl) t = lkT fl t := by
  have ns : ((sortFl fl).map (·.1)).Nodup := by rw [sortFl_keys]; exact (sortT_perm _).nodup_iff.mpr nd
  by_cases h : t ∈ fl.map (·.1)
  · exact lkT_mem ns (List.mem_map.mpr ⟨t, (sortT_perm _).mem_iff.mpr h, rfl⟩)
  · have h2 : t ∉ (sortFl fl).map (·.1) := by rw [sortFl_keys]; exact fun m => h ((sortT_perm _).mem_iff.mp m)
    unfold lkT
    rw [lkp_none h, lkp_none h2]
theorem sortFl_mem {P : T → T → Prop} {fl : List (T × T)} (nd : (fl.map (·.1)).Nodup) (h : ∀ p ∈ fl, P p.1 p.2) : ∀ p ∈ sortFl fl, P p.1 p.2 := by
  intro p m
  obtain ⟨k, hk, rfl⟩ := List.mem_map.mp m
  obtain ⟨q, hq, e⟩ := List.mem_map.mp ((sortT_perm _).mem_iff.mp hk)
  obtain ⟨a, b⟩ := q
  simp only at e
  subst e
  simp only [lkT_mem nd hq]
  exact h _ hq
theorem fillP_eq {fl gl : List (T × T)} (h : ∀ t, lkT fl t = lkT gl t) : fillP fl = fillP gl := by
  funext p
  cases p <;> simp [fillP, h]
/-! ### pages filled -/
mutual
theorem Itm.mapP_ht (g : Pc → Pc) : ∀ i : Itm, (i.mapP g).ht = i.ht
  | .pc _ => rfl
  | .bx _ _ _ _ _ _ ins => by simp [Itm.mapP, Itm.ht, Itms.mapP_ht g ins]
theorem Itms.mapP_ht (g : Pc → Pc) : ∀ is : List Itm, Itms.ht (Itms.mapP g is) = Itms.ht is
  | [] => rfl
  | i :: is => by simp [Itms.mapP, Itms.ht, Itm.mapP_ht g i, Itms.mapP_ht g is]
end
mutual
theorem Itm.mapP_ids (g : Pc → Pc) : ∀ i : Itm, (i.mapP g).ids = i.ids
  | .pc _ => rfl
  | .bx _ _ _ _ _ _ ins => by simp [Itm.mapP, Itm.ids, Itms.mapP_ids g ins]
theorem Itms.mapP_ids (g : Pc → Pc) : ∀ is : List Itm, Itms.ids (Itms.mapP g is) = Itms.ids is
  | [] => rfl
  | i :: is => by simp [Itms.mapP, Itms.ids, Itm.mapP_ids g i, Itms.mapP_ids g is]
end
mutual
theorem Itm.mapP_sws (g : Pc → Pc) : ∀ i : Itm, (i.mapP g).sws = i.sws
  | .pc _ => rfl
  | .bx _ _ _ _ _ _ ins => by simp [Itm.mapP, Itm.sws, Itms.mapP_sws g ins]
theorem Itms.mapP_sws (g : Pc → Pc) : ∀ is : List Itm, Itms.sws (Itms.mapP g is) = Itms.sws is
  | [] => rfl
  | i :: is => by simp [Itms.mapP, Itms.sws, Itm.mapP_sws g i, Itms.mapP_sws g is]
end
theorem Itms.mapP_eq (g : Pc → Pc) : ∀ is : List Itm, Itms.mapP g is = is.map (Itm.mapP g)
  | [] => rfl
  | i :: is => by simp [Itms.mapP, Itms.mapP_eq g is]
def noHo (g : Pc → Pc) : Prop := ∀ p, (g p).hs = []
mutual
theorem Itm.mapP_hs {g : Pc → Pc} (h : noHo g) : ∀ i : Itm, (i.mapP g).hs = []
  | .pc p => h p
  | .bx _ _ _ lab _ tip ins => by
    have o : ∀ x : Option Pc, oHs (x.map g) = [] := fun x => by
      cases x with
      | none => rfl
      | some p => exact h p
    simp [Itm.mapP, Itm.hs, o, Itms.mapP_hs h ins]
theorem Itms.mapP_hs {g : Pc → Pc} (h : noHo g) : ∀ is : List Itm, Itms.hs (Itms.mapP g is) = []
  | [] => rfl
  | i :: is => by simp [Itms.mapP, Itms.hs, Itm.mapP_hs h i, Itms.mapP_hs h is]
end
theorem Itm.mapP_isB (g : Pc → Pc) (i : Itm) : (i.mapP g).isB = i.isB := by cases i <;> rfl
mutual
theorem Itm.mapP_gd {g : Pc → Pc} (h : ∀ p, isPcB p = true → isPcB (g p) = true) : ∀ i : Itm, i.all gdI → (i.mapP g).all gdI
  | .pc p, a => h p a
  | .bx id kind hid lab refs tip ins, a => by
    simp only [Itm.all, gdI] at a
    obtain ⟨⟨h1, h2, h3, h4, h5, h6, h7, h8, h9⟩, h10⟩ := a
    have o : ∀ x : Option Pc, optB isPcB x = true → optB isPcB (x.map g) = true := fun x q => by
      cases x with
      | none => rfl
      | some p => exact h p q
    have r := Itms.mapP_gd h ins h10
    simp only [Itm.mapP, Itm.all, gdI]
    refine ⟨⟨h1, h2, h3, o _ h4, o _ h5, h6, by rw [Itms.mapP_eq, List.length_map]; exact h7, fun c => by rw [h8 c]; rfl, fun c i m => ?_⟩, r⟩
    rw [Itms.mapP_eq] at m
    obtain ⟨j, hj, rfl⟩ := List.mem_map.mp m
    rw [Itm.mapP_isB]
    exact h9 c j hj
theorem Itms.mapP_gd {g : Pc → Pc} (h : ∀ p, isPcB p = true → isPcB (g p) = true) : ∀ is : List Itm, Itms.all gdI is → Itms.all gdI (Itms.mapP g is)
  | [], _ => trivial
  | i :: is, a => by
    simp only [Itms.all] at a
    simp only [Itms.mapP, Itms.all]
    exact ⟨Itm.mapP_gd h i a.1, Itms.mapP_gd h is a.2⟩
end
theorem fillP_noHo (fl : List (T × T)) : noHo (fillP fl) := fun p => by cases p <;> rfl
theorem lkT_P {P : T → Prop} {fl : List (T × T)} (h0 : P []) (h : ∀ p ∈ fl, P p.2) (t : T) : P (lkT fl t) := by
  unfold lkT
  induction fl with
  | nil => exact h0
  | cons p fl ih =>
    obtain ⟨k, v⟩ := p
    unfold lkp
    split
    · exact h (k, v) List.mem_cons_self
    · exact ih fun q m => h q (List.mem_cons_of_mem _ m)
theorem WF.fill {is : List Itm} {fl : List (T × T)} (h : WF is) (hf : ∀ p ∈ fl, isTextB p.2 = true) : WF (Itms.mapP (fillP fl) is) ∧ Itms.hs (Itms.mapP (fillP fl) is) = [] := by
  have h0 := Itms.mapP_hs (fillP_noHo fl) is
  refine ⟨⟨Itms.mapP_gd (fun p q => ?_) is h.gd, by rw [Itms.mapP_ht]; exact h.ht, by rw [Itms.mapP_eq, List.length_map]; exact h.len, by rw [Itms.mapP_ids]; exact h.nd, by rw [Itms.mapP_ids]; exact h.cnt, by rw [h0]; decide, by rw [Itms.mapP_sws]; exact h.sw⟩, h0⟩
  cases p with
  | tx t => exact q
  | ho t => exact lkT_P (P := fun t => isTextB t = true) rfl hf t
theorem setT_nil : setT [] = [] := rfl
/-! ### a law's loop -/
theorem law_loop {C : Calls} {body : List St} {s : Val} {m : Nat} : ∀ (xs : List Nat), (∀ k ∈ xs, ∀ (us : Env) (S : Store), us.length = m → ∃ (us' : Env) (S' : Store), us'.length = m ∧ evSs C body (some s :: (us.set 0 (some (.d (.int (0 + (k : Nat))))))) S = some (.nx (some s :: us') S')) → ∀ (us : Env) (S : Store), us.length = m →
    ∃ (us' : Env) (S' : Store), us'.length = m ∧ evFor (bindP (.nm 1)) (evSs C body) (xs.map fun k => .d (.int (0 + (k : Nat)))) (some s :: us) S = some (.nx (some s :: us') S')
  | [], _, us, S, h => ⟨us, S, h, rfl⟩
  | k :: xs, hb, us, S, h => by
    obtain ⟨us1, S1, l1, e1⟩ := hb k List.mem_cons_self us S h
    obtain ⟨us2, S2, l2, e2⟩ := law_loop xs (fun k m => hb k (List.mem_cons_of_mem _ m)) us1 S1 l1
    exact ⟨us2, S2, l2, for_step rfl e1 e2⟩
theorem range_min {ns : List Int} {c : Int} {N : Nat} (hl : ns.length ≤ 63) (hc : c = N) (hN : N ≤ 100) {C : Calls} {us : Env} {S : Store} : evI C (.rng1 (.bin .add (.int 1) (.b2 .min (.b1 .len (.var 0)) (.int c)))) (some (.scr ns) :: us) S = some (ranged 0 (1 + min ns.length N), S) := by
  have h1 : b1V .len (.scr ns) S = some (.d (.int (ns.length : Nat)), S) := rfl
  have h2 : (if c < (ns.length : Int) then c else (ns.length : Int)) = ((min ns.length N : Nat) : Int) := by subst hc; split <;> omega
  have h3 : -(2 ^ 62) ≤ 1 + ((min ns.length N : Nat) : Int) ∧ 1 + ((min ns.length N : Nat) : Int) ≤ 16777216 := by omega
  have h4 : (1 + ((min ns.length N : Nat) : Int)).toNat = 1 + min ns.length N := by omega
  simp only [evI_rng1, evE_bin, evE_int, bnd_some, evE_b2, evE_b1, evE_var, look_0, Option.map_some, h1, b2V, h2, op_add_ii]
  rw [if_pos h3, h4]
theorem sorted_keys {fl : List (T × T)} {S : Store} (h : fl.length < 64) : b1V .sorted (.dct (flKV fl)) S = some (.d (.lst (sds (sortT (fl.map (·.1))))), S) := by
  have h1 : textsL (.dct (flKV fl)) S = some (fl.map (·.1)) := by simp [textsL, flKV_keys]
  have h2 : (fl.map (·.1)).length < 64 := by simpa using h
  simp only [b1V, h1, h2, if_true]
  rfl
/-! ### the law -/
theorem k03_turn {K : Nat} {ns : List Int} {k : Int} {u2 u3 u4 u5 u6 u7 : Option Val} {S : Store} (hK : 30 ≤ K) (hk0 : 0 ≤ k) (hk : k ≤ 20) :
    ∃ v2 v3 v4 v5 v6 v7 S', evSs (callF GF K) d_law__k03_l0 [some (.scr ns), some (.d (.int k)), u2, u3, u4, u5, u6, u7] S = some (.nx [some (.scr ns), some (.d (.int k)), v2, v3, v4, v5, v6, v7] S') := by
  obtain ⟨a, b, e1, s1⟩ := source_ok (K := K) (ns := ns) (k := k) (S := S) (by omega) (by omega) (by omega)
  have ok1 : Sok S.length (S ++ [srcC a b]) := ⟨a, b, s1⟩
  generalize hS1 : S ++ [srcC a b] = S1 at e1 ok1
  obtain ⟨is, S2, e2, m2, dr⟩ := page_ok (K := K) (most := 8) (mh := 5) (ms := 3) (rf := 3) (by omega) ok1 (by omega) (by omega) (by omega) (by omega) (by omega) (by omega) (by omega) (by omega)
  obtain ⟨wf, h64⟩ := dr.wf (by omega) (by omega) (by omega)
  have br := wf.bear h64
  have e3 := law_holesK (S := S2) (K := K) (by omega) (by have := br.sz; omega) wf.nd h64
  have hid : ∀ t ∈ setT (Itms.hs is), idT t := fun t m => by
    have m := setT_mem.mp m
    refine Itms.hs_mem is (Itms.all_imp (fun i g => ?_) wf.gd) t m
    have po : ∀ {p : Pc}, isPcB p = true → ∀ t ∈ p.hs, idT t := fun {p} h t m => by
      cases p with
      | tx x => simp [Pc.hs] at m
      | ho x =>
        simp [Pc.hs] at m
        subst m; exact isIdB_iff.mp h
    have oo : ∀ {o : Option Pc}, optB isPcB o = true → ∀ t ∈ oHs o, idT t := fun {o} h t m => by
      cases o with
      | none => simp [oHs] at m
      | some p => exact po h t m
    cases i with
    | pc p => exact po g
    | bx => exact ⟨oo g.2.2.2.1, oo g.2.2.2.2.1⟩
  have hl5 := wf.hs
  have hi : ∃ (us : List T) (S3 : Store), evI (callF GF K) (.seq (.call 53 false [.var 2, .bin .add (.call 44 false [.var 3]) (.tup [.str [122, 122, 122]])])) [some (.scr ns), some (.d (.int k)), some (.l S.length), some (.d (.tup (Itms.ds is))), u4, u5, u6, u7] S2 = some ((us.map fun t => .d (.str t)), S3) ∧ Mo S.length S2 S3 ∧ us.Sublist (setT (Itms.hs is) ++ [[122, 122, 122]]) := by
    obtain ⟨us, S3, e4, m4, sl⟩ := law_someK (K := K) (S := S2) (ts := setT (Itms.hs is) ++ [[122, 122, 122]]) (by omega) m2.ok
    refine ⟨us, S3, ?_, m4, sl⟩
    have o1 := op_add_tt (xs := sds (setT (Itms.hs is))) (ys := [.str [122, 122, 122]]) (by simp; omega)
    have o2 : sds (setT (Itms.hs is)) ++ [.str [122, 122, 122]] = sds (setT (Itms.hs is) ++ [[122, 122, 122]]) := by simp [sds]
    rw [o2] at o1
    simp [e3, o1, e4]
    simp [sds]
  obtain ⟨us, S3, hi, m3, sl⟩ := hi
  obtain ⟨ps, S4, e5, m4, p1, p2⟩ := comp_drawR (C := callF GF K) (e := d_law__k03_c0) (n := S.length) (fun t : T => .d (.str t)) (fun t d => ∃ x, d = prD (t, x) ∧ textT x) us rfl hi m3.ok fun t ht S mo => by
    obtain ⟨x, S', e, m, hx⟩ := textK (K := K) (by omega) mo.ok
    exact ⟨_, prD (t, x), S', rfl, by simp [wipe, e, prD], m, x, rfl, hx⟩
  obtain ⟨f0, hf0, hf1, hf2⟩ : ∃ f0 : List (T × T), ps.map (·.2) = f0.map prD ∧ f0.map (·.1) = us ∧ ∀ p ∈ f0, textT p.2 := by
    clear e5 hi
    subst p1
    clear sl
    induction ps with
    | nil => exact ⟨[], rfl, rfl, fun p m => by cases m⟩
    | cons p ps ih =>
      obtain ⟨x, hx, tx⟩ := p2 p List.mem_cons_self
      obtain ⟨f0, g1, g2, g3⟩ := ih fun q m => p2 q (List.mem_cons_of_mem _ m)
      refine ⟨(p.1, x) :: f0, by simp [hx, g1], by simp [g2], fun q m => ?_⟩
      rcases List.mem_cons.mp m with rfl | m
      · exact tx
      · exact g3 q m
  have hus : ∀ t ∈ us, idT t := fun t m => by
    rcases List.mem_append.mp (sl.subset m) with m | m
    · exact hid t m
    · rw [List.mem_singleton.mp m]; exact isIdB_iff.mp (by decide)
  obtain ⟨d1, d2, d3⟩ := dictT_ok (P := idT) (Q := textT) f0 [] (fun p m => ⟨hus _ (by rw [← hf1]; exact List.mem_map.mpr ⟨p, m, rfl⟩), hf2 p m⟩) (by simp) (by simp) (by simp)
  have lus : us.length ≤ 6 := by have := sl.length_le; simp at this; omega
  have lf0 : f0.length = us.length := by rw [← hf1]; simp
  simp only [List.length_nil, Nat.zero_add] at d3
  have e6 : dictV false (.d (.lst (f0.map prD))) S4 = some (.dct (flKV (dictT [] f0)), S4) := by
    have := putAll_fl f0 []
    simp only [flKV, List.map_nil] at this
    simp only [dictV, pairsD_fl, mkD_f]
    simp only [flKV]
    rw [this]
  generalize dictT [] f0 = fd at d1 d2 d3 e6
  have e7 := sorted_keys (S := S4) (fl := fd) (by omega)
  have e8 : evE (callF GF K) d_law__k03_c1 [some (.scr ns), some (.d (.int k)), some (.l S.length), some (.d (.tup (Itms.ds is))), some (.dct (flKV fd)), u5, u6, u7] S4 = some (.d (.lst ((sortFl fd).map prD)), S4) := by
    have := comp_mapF (C := callF GF K) (e := d_law__k03_c1) (ρ := [some (.scr ns), some (.d (.int k)), some (.l S.length), some (.d (.tup (Itms.ds is))), some (.dct (flKV fd)), u5, u6, u7]) (S0 := S4) (S1 := S4) (fun t : T => .d (.str t)) (fun t => prD (t, lkT fd t)) (sortT (fd.map (·.1))) rfl (by simp [e7, sds]) fun t ht => by
      obtain ⟨q, hq, e⟩ := List.mem_map.mp ((sortT_perm _).mem_iff.mp ht)
      have h1 : lkp t (flKV fd) = some (.d (.str (lkT fd t))) := by
        refine lkp_mem (by rw [flKV_keys]; exact d1) ?_
        obtain ⟨a, b⟩ := q
        simp only at e
        subst e
        rw [lkT_mem d1 hq]
        exact List.mem_map.mpr ⟨_, hq, rfl⟩
      exact ⟨_, rfl, by simp [wipe, h1, prD]⟩
    rw [this]
    simp [sortFl, Function.comp_def]
  have srt := sortFl_mem (P := fun a b => idT a ∧ textT b) d1 d2
  have fb : ∀ p ∈ sortFl fd, p.1.length ≤ 1000 ∧ p.2.length ≤ 1000 := fun p m => by
    obtain ⟨h1, h2⟩ := srt p m
    have := h1.2.1
    have := h2.1
    omega
  have ft : ∀ p ∈ sortFl fd, isTextB p.2 = true := fun p m => by
    have := (srt p m).2.1
    simp [isTextB]; omega
  have fp : isPairsB (sortFl fd) = true := by
    simp only [isPairsB, Bool.and_eq_true, List.all_eq_true]
    refine ⟨fun p m => ⟨isIdB_iff.mpr (srt p m).1, ft p m⟩, ?_⟩
    rw [sortFl_keys]
    exact ascB_iff.mpr (asc_of (sortT_up _) ((sortT_perm _).nodup_iff.mpr d1))
  have e9 := page_filledK (S := S4) (K := K) br wf.page fb fp (by omega)
  have e10 := law_filledK (S := S4) (fl := fd) 5 is K wf.ht (by have := br.sz; omega) (by omega)
  rw [fillP_eq (sortFl_lk d1)] at e9
  have ftd : ∀ p ∈ fd, isTextB p.2 = true := fun p m => by
    have := (d2 p m).2.1
    simp [isTextB]; omega
  obtain ⟨wf2, hs2⟩ := wf.fill ftd
  have br2 := wf2.bear (by rw [hs2]; decide)
  have e11 := is_pageK (S := S4) (K := K) br2 (by omega)
  have e12 := holesK (S := S4) (K := K) br2 wf2.page (by omega)
  rw [wf2.page] at e11
  rw [hs2, setT_nil] at e12
  have e13 := page_filledK (S := S4) (K := K) (fl := []) br wf.page (fun p m => by cases m) rfl (by omega)
  have e14 := law_filledK (S := S4) (fl := []) 5 is K wf.ht (by have := br.sz; omega) (by omega)
  have dep1 : (D.tup (Itms.ds (Itms.mapP (fillP fd) is))).dep ≤ 60 := page_dep (by have := wf2.ht; omega)
  have dep2 : (D.tup (Itms.ds (Itms.mapP (fillP []) is))).dep ≤ 60 := page_dep (by rw [Itms.mapP_ht]; have := wf.ht; omega)
  have c1 := cmp_ne_self dep1
  have c2 := cmp_ne_self dep2
  rw [hf0] at e5
  simp only [flKV, List.map_nil, sds] at e13 e14 e12
  refine ⟨some (.l S.length), some (.d (.tup (Itms.ds is))), some (.dct (flKV fd)), some (.d (.tup ((sortFl fd).map prD))), some (.d (.tup (Itms.ds (Itms.mapP (fillP fd) is)))), u7, S4, ?_⟩
  simp only [d_law__k03_l0, evSs_cons]
  simp [e1, e2, e5, e6, e8, e9, e10, c1, e11, e12, e13, e14, c2, putAll]
theorem k03_law (ns : List Int) (hl : ns.length ≤ 63) : callF GF 41 55 false [.scr ns] [] = some (.d (.bl true), []) := by
  obtain ⟨us, S', lu, e1⟩ := law_loop (C := callF GF 40) (body := d_law__k03_l0) (s := .scr ns) (m := 7) (List.range (1 + min ns.length 20)) (fun k hk us S lu => by
    have hk' := List.mem_range.mp hk
    match us, lu with
    | [u1, u2, u3, u4, u5, u6, u7], _ =>
      obtain ⟨v2, v3, v4, v5, v6, v7, S', e⟩ := k03_turn (K := 40) (ns := ns) (k := (0 + (k : Nat) : Int)) (u2 := u2) (u3 := u3) (u4 := u4) (u5 := u5) (u6 := u6) (u7 := u7) (S := S) (by omega) (by omega) (by omega)
      exact ⟨_, S', rfl, e⟩) [none, none, none, none, none, none, none] [] rfl
  have e0 := range_min (c := 20) (N := 20) hl rfl (by omega) (C := callF GF 40) (us := [none, none, none, none, none, none, none]) (S := [])
  have pw : WF [.pc (.ho [97]), .pc (.tx [120])] := ⟨by simp only [Itms.all, Itm.all, gdI]; exact ⟨by decide, by decide, trivial⟩, by decide, by decide, by simp [Itms.ids, Itm.ids], by simp [Itms.ids, Itm.ids], by decide, by decide⟩
  have e2 : callF GF 40 52 false [.d (.tup [.tup [.str [104, 111, 108, 101], .str [97]], .str [120]]), .d (.tup [.tup [.str [97], .str [98]], .tup [.str [99], .str [100]]])] S' = some (.d (.tup [.str [98], .str [120]]), S') :=
    page_filledK (S := S') (K := 40) (fl := [([97], [98]), ([99], [100])]) (h := 5) (pw.bear (by decide)) pw.page (by decide) (by decide) (by omega)
  have e3 : evSs (callF GF 40) d_law__k03.fn.body (start d_law__k03.fn [.scr ns]) [] = some (.ret (.d (.bl true)) S') := by
    have c : cmpD .eq (.tup [.str [98], .str [120]]) (.tup [.str [98], .str [120]]) = some true := cmp_eq_self (by decide)
    have e1' : evFor (bindP (.nm 1)) (evSs (callF GF 40) d_law__k03_l0) (ranged 0 (1 + min ns.length 20)) (some (.scr ns) :: [none, none, none, none, none, none, none]) [] = some (.nx (some (.scr ns) :: us) S') := e1
    simp only [d_law__k03, start, evSs_cons, evS_for_, List.map_cons, List.map_nil, List.length_cons, List.length_nil, List.cons_append, List.nil_append, List.replicate, Nat.reduceAdd, Nat.reduceSub, e0, bnd_some, e1', thenS_nx]
    simp [e2, c]
  exact call_f (d := d_law__k03) rfl rfl e3 (by simp [finish, okv])
end PI
set_option Elab.async false
set_option linter.all false
set_option maxRecDepth 100000
set_option maxHeartbeats 0
namespace LW_k03
open PySem PySem.Spec PyProof.Rows L2 PI LW
def top (i : Nat) : Stmt := PySem.Challenge.pw_namesaloud_k03_pages_filled.main.body.getD i (.Pass ⟨0, 0, 0, 0⟩)
def rw0 : List LRow := [⟨0, d_is_id, top 7⟩, ⟨1, d_is_text, top 8⟩, ⟨2, d_is_piece, top 9⟩, ⟨3, d_is_flag, top 10⟩, ⟨4, d_is_references, top 11⟩, ⟨5, d_is_box, top 12⟩, ⟨6, d_fits_box, top 13⟩, ⟨7, d_fits_items, top 14⟩, ⟨8, d_listed, top 15⟩, ⟨9, d_holes_in, top 16⟩, ⟨10, d_switches_in, top 17⟩, ⟨11, d_is_page, top 18⟩, ⟨48, d_is_pairs, top 19⟩, ⟨35, d_need_page, top 20⟩, ⟨49, d_need_filling, top 21⟩, ⟨38, d_holes, top 22⟩, ⟨50, d_filled_piece, top 23⟩, ⟨51, d_filled_items, top 24⟩, ⟨52, d_page_filled, top 25⟩, ⟨12, d__law_source, top 27⟩]
def rw1 : List LRow := [⟨13, d__law_draw, top 28⟩, ⟨14, d__law_of, top 29⟩, ⟨15, d__law_ids, top 30⟩, ⟨16, d__law_word, top 31⟩, ⟨17, d__law_text, top 32⟩, ⟨18, d__law_piece, top 33⟩, ⟨19, d__law_maybe, top 34⟩, ⟨20, d__law_flag, top 35⟩, ⟨21, d__law_box, top 36⟩, ⟨22, d__law_items, top 37⟩, ⟨23, d__law_page, top 38⟩, ⟨40, d__law_is_box, top 39⟩, ⟨41, d__law_off, top 40⟩, ⟨42, d__law_known, top 41⟩, ⟨43, d__law_pieces, top 42⟩, ⟨44, d__law_holes, top 43⟩, ⟨53, d__law_some, top 44⟩, ⟨54, d__law_filled, top 45⟩, ⟨55, d_law__k03, top 46⟩]
def gl : List (Nat × (PySem.Str × D)) := [(0, ("KINDS", g_KINDS)), (1, ("LETTERS", g_LETTERS))]
def bl : List PySem.Str := ["abs", "all", "bool", "dict", "int", "isinstance", "len", "list", "min", "range", "set", "sorted", "str", "tuple", "zip"]
def tb : LTab := ⟨rw0 ++ rw1, gl, bl⟩
def fs0 : List (Nat × PySem.Str) := [(0, "is_id"), (1, "is_text"), (2, "is_piece"), (3, "is_flag"), (4, "is_references"), (5, "is_box"), (6, "fits_box"), (7, "fits_items"), (8, "listed"), (9, "holes_in"), (10, "switches_in"), (11, "is_page"), (48, "is_pairs"), (35, "need_page"), (49, "need_filling"), (38, "holes"), (50, "filled_piece"), (51, "filled_items"), (52, "page_filled"), (12, "_law_source")]
def fs1 : List (Nat × PySem.Str) := [(13, "_law_draw"), (14, "_law_of"), (15, "_law_ids"), (16, "_law_word"), (17, "_law_text"), (18, "_law_piece"), (19, "_law_maybe"), (20, "_law_flag"), (21, "_law_box"), (22, "_law_items"), (23, "_law_page"), (40, "_law_is_box"), (41, "_law_off"), (42, "_law_known"), (43, "_law_pieces"), (44, "_law_holes"), (53, "_law_some"), (54, "_law_filled"), (55, "law")]
def sh : Sh := ⟨fs0 ++ fs1, gl, bl⟩
theorem sh_eq : tb.sh = sh := by kernel_rfl
theorem c_is_id : LRow.Good sh GD ⟨0, d_is_id, top 7⟩ := ⟨by kernel_rfl, by kernel_rfl⟩
theorem c_is_text : LRow.Good sh GD ⟨1, d_is_text, top 8⟩ := ⟨by kernel_rfl, by kernel_rfl⟩
theorem c_is_piece : LRow.Good sh GD ⟨2, d_is_piece, top 9⟩ := ⟨by kernel_rfl, by kernel_rfl⟩
theorem c_is_flag : LRow.Good sh GD ⟨3, d_is_flag, top 10⟩ := ⟨by kernel_rfl, by kernel_rfl⟩
theorem c_is_references : LRow.Good sh GD ⟨4, d_is_references, top 11⟩ := ⟨by kernel_rfl, by kernel_rfl⟩
theorem c_is_box : LRow.Good sh GD ⟨5, d_is_box, top 12⟩ := ⟨by kernel_rfl, by kernel_rfl⟩
theorem c_fits_box : LRow.Good sh GD ⟨6, d_fits_box, top 13⟩ := ⟨by kernel_rfl, by kernel_rfl⟩
theorem c_fits_items : LRow.Good sh GD ⟨7, d_fits_items, top 14⟩ := ⟨by kernel_rfl, by kernel_rfl⟩
theorem c_listed : LRow.Good sh GD ⟨8, d_listed, top 15⟩ := ⟨by kernel_rfl, by kernel_rfl⟩
theorem c_holes_in : LRow.Good sh GD ⟨9, d_holes_in, top 16⟩ := ⟨by kernel_rfl, by kernel_rfl⟩
theorem c_switches_in : LRow.Good sh GD ⟨10, d_switches_in, top 17⟩ := ⟨by kernel_rfl, by kernel_rfl⟩
theorem c_is_page : LRow.Good sh GD ⟨11, d_is_page, top 18⟩ := ⟨by kernel_rfl, by kernel_rfl⟩
theorem c_is_pairs : LRow.Good sh GD ⟨48, d_is_pairs, top 19⟩ := ⟨by kernel_rfl, by kernel_rfl⟩
theorem c_need_page : LRow.Good sh GD ⟨35, d_need_page, top 20⟩ := ⟨by kernel_rfl, by kernel_rfl⟩
theorem c_need_filling : LRow.Good sh GD ⟨49, d_need_filling, top 21⟩ := ⟨by kernel_rfl, by kernel_rfl⟩
theorem c_holes : LRow.Good sh GD ⟨38, d_holes, top 22⟩ := ⟨by kernel_rfl, by kernel_rfl⟩
theorem c_filled_piece : LRow.Good sh GD ⟨50, d_filled_piece, top 23⟩ := ⟨by kernel_rfl, by kernel_rfl⟩
theorem c_filled_items : LRow.Good sh GD ⟨51, d_filled_items, top 24⟩ := ⟨by kernel_rfl, by kernel_rfl⟩
theorem c_page_filled : LRow.Good sh GD ⟨52, d_page_filled, top 25⟩ := ⟨by kernel_rfl, by kernel_rfl⟩
theorem c__law_source : LRow.Good sh GD ⟨12, d__law_source, top 27⟩ := ⟨by kernel_rfl, by kernel_rfl⟩
theorem c__law_draw : LRow.Good sh GD ⟨13, d__law_draw, top 28⟩ := ⟨by kernel_rfl, by kernel_rfl⟩
theorem c__law_of : LRow.Good sh GD ⟨14, d__law_of, top 29⟩ := ⟨by kernel_rfl, by kernel_rfl⟩
theorem c__law_ids : LRow.Good sh GD ⟨15, d__law_ids, top 30⟩ := ⟨by kernel_rfl, by kernel_rfl⟩
theorem c__law_word : LRow.Good sh GD ⟨16, d__law_word, top 31⟩ := ⟨by kernel_rfl, by kernel_rfl⟩
theorem c__law_text : LRow.Good sh GD ⟨17, d__law_text, top 32⟩ := ⟨by kernel_rfl, by kernel_rfl⟩
theorem c__law_piece : LRow.Good sh GD ⟨18, d__law_piece, top 33⟩ := ⟨by kernel_rfl, by kernel_rfl⟩
theorem c__law_maybe : LRow.Good sh GD ⟨19, d__law_maybe, top 34⟩ := ⟨by kernel_rfl, by kernel_rfl⟩
theorem c__law_flag : LRow.Good sh GD ⟨20, d__law_flag, top 35⟩ := ⟨by kernel_rfl, by kernel_rfl⟩
theorem c__law_box : LRow.Good sh GD ⟨21, d__law_box, top 36⟩ := ⟨by kernel_rfl, by kernel_rfl⟩
theorem c__law_items : LRow.Good sh GD ⟨22, d__law_items, top 37⟩ := ⟨by kernel_rfl, by kernel_rfl⟩
theorem c__law_page : LRow.Good sh GD ⟨23, d__law_page, top 38⟩ := ⟨by kernel_rfl, by kernel_rfl⟩
theorem c__law_is_box : LRow.Good sh GD ⟨40, d__law_is_box, top 39⟩ := ⟨by kernel_rfl, by kernel_rfl⟩
theorem c__law_off : LRow.Good sh GD ⟨41, d__law_off, top 40⟩ := ⟨by kernel_rfl, by kernel_rfl⟩
theorem c__law_known : LRow.Good sh GD ⟨42, d__law_known, top 41⟩ := ⟨by kernel_rfl, by kernel_rfl⟩
theorem c__law_pieces : LRow.Good sh GD ⟨43, d__law_pieces, top 42⟩ := ⟨by kernel_rfl, by kernel_rfl⟩
theorem c__law_holes : LRow.Good sh GD ⟨44, d__law_holes, top 43⟩ := ⟨by kernel_rfl, by kernel_rfl⟩
theorem c__law_some : LRow.Good sh GD ⟨53, d__law_some, top 44⟩ := ⟨by kernel_rfl, by kernel_rfl⟩
theorem c__law_filled : LRow.Good sh GD ⟨54, d__law_filled, top 45⟩ := ⟨by kernel_rfl, by kernel_rfl⟩
theorem c_law : LRow.Good sh GD ⟨55, d_law__k03, top 46⟩ := ⟨by kernel_rfl, by kernel_rfl⟩
theorem o0 : ∀ r ∈ rw0, r.Good sh GD := by
  intro r m
  simp only [rw0, List.mem_cons, List.not_mem_nil, or_false] at m
  rcases m with rfl | rfl | rfl | rfl | rfl | rfl | rfl | rfl | rfl | rfl | rfl | rfl | rfl | rfl | rfl | rfl | rfl | rfl | rfl | rfl
  · exact c_is_id
  · exact c_is_text
  · exact c_is_piece
  · exact c_is_flag
  · exact c_is_references
  · exact c_is_box
  · exact c_fits_box
  · exact c_fits_items
  · exact c_listed
  · exact c_holes_in
  · exact c_switches_in
  · exact c_is_page
  · exact c_is_pairs
  · exact c_need_page
  · exact c_need_filling
  · exact c_holes
  · exact c_filled_piece
  · exact c_filled_items
  · exact c_page_filled
  · exact c__law_source
theorem o1 : ∀ r ∈ rw1, r.Good sh GD := by
  intro r m
  simp only [rw1, List.mem_cons, List.not_mem_nil, or_false] at m
  rcases m with rfl | rfl | rfl | rfl | rfl | rfl | rfl | rfl | rfl | rfl | rfl | rfl | rfl | rfl | rfl | rfl | rfl | rfl | rfl
  · exact c__law_draw
  · exact c__law_of
  · exact c__law_ids
  · exact c__law_word
  · exact c__law_text
  · exact c__law_piece
  · exact c__law_maybe
  · exact c__law_flag
  · exact c__law_box
  · exact c__law_items
  · exact c__law_page
  · exact c__law_is_box
  · exact c__law_off
  · exact c__law_known
  · exact c__law_pieces
  · exact c__law_holes
  · exact c__law_some
  · exact c__law_filled
  · exact c_law
theorem ok_all : ∀ r ∈ tb.rows, r.Good tb.sh GD := by
  intro r m
  rw [sh_eq]
  have m2 : r ∈ rw0 ∨ r ∈ rw1 := by
    have q : r ∈ rw0 ++ rw1 := m
    simpa only [List.mem_append, or_assoc] using q
  rcases m2 with m2 | m2
  · exact o0 r m2
  · exact o1 r m2
abbrev R : PySem.W.OpenRow := PySem.W.OpenLaw.row PySem.Challenge.rw_namesaloud_k03_pages_filled
abbrev hk : PySem.W.Hook := hookP 5 tb.fa tb.fn gl
def ob (s : PySem.W.SharedT) : He.AlD := obsPG 5 tb.fa tb.fn gl (HandSHeadRun.getT s)
theorem ob_eq (s : PySem.W.SharedT) : ob s = hk.obs s.abs := obsPG_eq (HandSHeadRun.getT_eq s)
def ls0 : List PySem.Str := ["is_id", "is_text", "is_piece", "is_flag", "is_references", "is_box", "fits_box", "fits_items", "listed", "holes_in", "switches_in", "is_page", "is_pairs", "need_page", "need_filling", "holes", "filled_piece", "filled_items", "page_filled", "_law_source"]
def ls1 : List PySem.Str := ["_law_draw", "_law_of", "_law_ids", "_law_word", "_law_text", "_law_piece", "_law_maybe", "_law_flag", "_law_box", "_law_items", "_law_page", "_law_is_box", "_law_off", "_law_known", "_law_pieces", "_law_holes", "_law_some", "_law_filled", "AloudError", "InvalidPage"]
def ls2 : List PySem.Str := ["InvalidFilling", "KINDS", "LETTERS"]
def loose : List PySem.Str := ls0 ++ ls1 ++ ls2
theorem run (w : World) : HandSHeadRun.RunEq R (PySem.W.view R.prog [46]) hk ob 20000 loose w := by
  intro os
  kernel_rfl
end LW_k03
open PySem PySem.W PySem.Calls PyProof.Rows
theorem PI.head_k03 (hC : ∀ ns : List Int, ns.length ≤ 63 → PI.callF LW.GF 41 55 false [.scr ns] [] = some (.d (.bl true), [])) : PySem.Challenge.rw_namesaloud_k03_pages_filled.Holds := by
  w_on; o_law
  refine HandSHeadRun.head_any (r := OpenLaw.row PySem.Challenge.rw_namesaloud_k03_pages_filled) (q := view (OpenLaw.row PySem.Challenge.rw_namesaloud_k03_pages_filled).prog [46]) (H := LW_k03.hk) (ob := LW_k03.ob) (M := 20000) (loose := LW_k03.loose) (d := HandSHeadRun.topDef (OpenLaw.row PySem.Challenge.rw_namesaloud_k03_pages_filled).prog 46) (kwd := []) LW_k03.ob_eq
    (by kernel_rfl) (fun s => by kernel_rfl) LW_k03.run (by kernel_rfl) (by kernel_rfl) (by kernel_rfl) (by rfl) (by first | assumption | decide +kernel) (by decide +kernel) ⟨rfl, rfl, rfl, rfl, rfl, by decide +kernel⟩ ?hw ?hc
  case hw => w_witness2
  case hc =>
    refine L2.walk_ofE (l := PySem.Challenge.rw_namesaloud_k03_pages_filled) (n := 63) (k := 41) (x := "script") (CX := L2.CX0) rfl (by decide) (by kernel_rfl) ⟨rfl, by decide, by decide⟩ ?F (fun _ _ _ _ z => z)
    intro w mg fa h Y G hmg0
    obtain ⟨K, KX, c⟩ := Y
    have hmg : mg LW.d_law__k03.name = some (.ref fa) := by
      have e : (HandSHeadRun.topDef (OpenLaw.row PySem.Challenge.rw_namesaloud_k03_pages_filled).prog 46).name = LW.d_law__k03.name := by kernel_rfl
      rw [← e]
      exact hmg0
    obtain ⟨fd, hb, hF⟩ := PI.law_of (t := LW_k03.tb) (ds := LW.GD) (P := (PySem.Challenge.rw_namesaloud_k03_pages_filled).prog) (w := w) (k := 40) (i := 38) (r := ⟨55, LW.d_law__k03, LW_k03.top 46⟩) KX G c LW_k03.ok_all rfl rfl hmg
    exact ⟨K, fd, _, KX, hb, fun H a ns hl _ hS => PI.sp_of hS (hC ns hl), fun base _ _ => hF base⟩
open PySem
theorem PySem.Challenge.cw_namesaloud_k03_pages_filled_holds : PySem.Challenge.rw_namesaloud_k03_pages_filled.Holds := by
  exact PI.head_k03 PI.k03_law
