import PyProof.Rows.All
import Wide.All
import OpenK.AllK
import Wide.FinOn
import PySem.Syntax
import HandS.ForMost
import HandS.Exc
import HandS.WordsExc
import HandS.TupAny
import HandS.TupMul
import HandS.Wide
import HandS.IsInst
import HandS.ExcIs
import HandS.ExcCtx
import KE.KDictKeyed
import KE.KeyNested
import KE.DataEq
import HandS.Lambda
import HandS.Text
import HandS.Style
import HandS.StrMore
import HandS.More
import HandS.SortInts
import HandS.DictTup
import KE.GoesMore
import KE.GoesEnum
import HandS.Zip
import KE.KDictZip
import HandS.TryMany
import HandS.HotCalls
import KE.GoesZip
import HandS.NestedK
import HandS.EndOwn
import PySem.Challenge.RW_typedover_k02_what_rows_leave
set_option Elab.async false
set_option linter.all false
set_option autoImplicit false
set_option maxRecDepth 100000
/-! TyA: values by value, a small language of our own, and what it computes. -/
namespace TY

/-- a value, told by value -/
inductive D where
  | non | bl (b : Bool) | int (i : Int) | str (s : List Nat) | tup (xs : List D) | lst (xs : List D)
  | dk (kvs : List (D × D)) | dn (kvs : List (D × D)) | fn (f : Nat) | scr (ns : List Int) | exc (n : Nat)
deriving Inhabited
abbrev line : Nat := 16777216

/-! ### equality, plainness -/
mutual
def eqv : D → D → Bool
  | .non, .non => true
  | .bl a, .bl b => a == b
  | .bl a, .int j => (if a then 1 else 0) == j
  | .int i, .bl b => i == (if b then 1 else 0)
  | .int i, .int j => i == j
  | .str x, .str y => x == y
  | .tup xs, .tup ys => eqvs xs ys
  | .lst xs, .lst ys => eqvs xs ys
  | _, _ => false
termination_by structural d => d
def eqvs : List D → List D → Bool
  | [], [] => true
  | x :: xs, y :: ys => eqv x y && eqvs xs ys
  | _, _ => false
termination_by structural ds => ds
end
/-! no dict, no def within; at most n deep -/
mutual
def okd : Nat → D → Bool
  | _, .non => true
  | _, .bl _ => true
  | _, .int _ => true
  | _, .str _ => true
  | n, .tup xs => match n with
    | 0 => false
    | n + 1 => okds n xs
  | n, .lst xs => match n with
    | 0 => false
    | n + 1 => okds n xs
  | _, .dk _ => false
  | _, .dn _ => false
  | _, .fn _ => false
  | _, .scr _ => false
  | _, .exc _ => false
termination_by structural _ d => d
def okds : Nat → List D → Bool
  | _, [] => true
  | n, x :: xs => okd n x && okds n xs
termination_by structural _ ds => ds
end
/-! keys of nested dicts: tuples of ints, texts, tuples -/
mutual
def okk : Nat → D → Bool
  | _, .int _ => true
  | _, .str _ => true
  | n, .tup xs => match n with
    | 0 => false
    | n + 1 => okks n xs
  | _, _ => false
termination_by structural _ d => d
def okks : Nat → List D → Bool
  | _, [] => true
  | n, x :: xs => okk n x && okks n xs
termination_by structural _ ds => ds
end
def isTup : D → Bool
  | .tup _ => true
  | _ => false
def okKey (d : D) : Bool := isTup d && okk 8 d
def isStr : D → Bool
  | .str _ => true
  | _ => false

/-! ### states -/
/-- what an owned list or dict holds: a list, a list of owned lists, a dict -/
inductive Mu where
  | l (xs : List D) | ll (xss : List (List D)) | k (kvs : List (D × D)) | n (kvs : List (D × D))
deriving Inhabited
def Mu.d : Mu → D
  | .l xs => .lst xs
  | .ll xss => .lst (xss.map .lst)
  | .k kvs => .dk kvs
  | .n kvs => .dn kvs
inductive SV where
  | v (d : D) | o (m : Mu)
deriving Inhabited
abbrev Tau := List (Option SV)
/-- an operand -/
inductive Op where
  | val (d : D) | slot (i : Nat) | sub (i j : Nat) | tmp (m : Mu)
/-- an exception: its class by number, its number -/
structure Ex where
  cls : Nat
  pay : Option Int
deriving DecidableEq
inductive Out (α : Type) where
  | ok (a : α) (t : Tau) | ex (x : Ex) (t : Tau) | no
abbrev M (α : Type) := Tau → Out α
@[reducible] def M.pure {α : Type} (a : α) : M α := fun t => .ok a t
def Out.bind {α β : Type} (m : Out α) (f : α → Tau → Out β) : Out β := match m with
  | .ok a t => f a t
  | .ex x t => .ex x t
  | .no => .no
@[reducible] def M.bind {α β : Type} (m : M α) (f : α → M β) : M β := fun t => (m t).bind f
def lift {α : Type} (o : Option α) : M α := fun t => match o with
  | some a => .ok a t
  | none => .no

def getS (t : Tau) (i : Nat) : Option SV := (t[i]?).bind id
/-- its value as it stands, nothing given away (no list of owned lists) -/
def der (t : Tau) : Op → Option D
  | .val d => some d
  | .slot i => match getS t i with
    | some (.v d) => some d
    | some (.o (.l xs)) => some (.lst xs)
    | some (.o (.k xs)) => some (.dk xs)
    | some (.o (.n xs)) => some (.dn xs)
    | _ => none
  | .sub i j => match getS t i with
    | some (.o (.ll xss)) => (xss[j]?).map .lst
    | some (.v (.lst xs)) => xs[j]?
    | _ => none
  | .tmp (.l xs) => some (.lst xs)
  | .tmp (.k xs) => some (.dk xs)
  | .tmp (.n xs) => some (.dn xs)
  | .tmp (.ll _) => none
/-- its value, given away: what was owned is frozen -/
def frz (o : Op) : M D := fun t => match o with
  | .val d => .ok d t
  | .slot i => match getS t i with
    | some (.v d) => .ok d t
    | some (.o m) => .ok m.d (t.set i (some (.v m.d)))
    | none => .no
  | .sub i j => match getS t i with
    | some (.v (.lst xs)) => match xs[j]? with
      | some d => .ok d t
      | none => .no
    | _ => .no
  | .tmp m => .ok m.d t

/-! ### operators by values -/
inductive BO where
  | add | sub | mul | fdiv | mod | pow | bor
deriving DecidableEq
inductive CO where
  | eq | ne | lt | le | gt | ge | isin | notin | isn | notn
deriving DecidableEq
def big : Nat := 2 ^ 9000
def bitOr : Int → Int → Option Int
  | .ofNat a, .ofNat b => some (.ofNat (a ||| b))
  | _, _ => none
def rep {α : Type} (n : Nat) (xs : List α) : List α := (List.replicate n xs).flatten
def bop : BO → D → D → Option Op
  | .add, .int i, .int j => some (.val (.int (i + j)))
  | .add, .str a, .str b => if a.length + b.length ≤ line then some (.val (.str (a ++ b))) else none
  | .add, .lst a, .lst b => if a.length + b.length ≤ line then some (.tmp (.l (a ++ b))) else none
  | .add, .tup a, .tup b => if a.length + b.length ≤ line then some (.val (.tup (a ++ b))) else none
  | .sub, .int i, .int j => some (.val (.int (i - j)))
  | .mul, .int i, .int j => if i.natAbs < big ∧ j.natAbs < big then some (.val (.int (i * j))) else none
  | .mul, .str a, .int n => if 0 ≤ n ∧ n ≤ 1000 ∧ a.length ≤ 1000 then some (.val (.str (rep n.toNat a))) else none
  | .mul, .tup a, .int n => if 2 ≤ n ∧ n ≤ 1000 ∧ a.length ≤ 1000 ∧ a ≠ [] then some (.val (.tup (rep n.toNat a))) else none
  | .mul, .lst a, .int n => if 0 ≤ n ∧ n ≤ 1000 ∧ a.length ≤ 1000 then some (.tmp (.l (rep n.toNat a))) else none
  | .fdiv, .int i, .int j => if 0 < j ∧ j.natAbs < big then some (.val (.int (i / j))) else none
  | .mod, .int i, .int j => if 0 < j then some (.val (.int (i % j))) else none
  | .pow, .int i, .int j => if 0 ≤ j ∧ j ≤ 1000 ∧ i.natAbs < 2 ^ 63 then some (.val (.int (i ^ j.toNat))) else none
  | .bor, .int i, .int j => (bitOr i j).map fun z => .val (.int z)
  | _, _, _ => none
def lookD (k : D) : List (D × D) → Option D
  | [] => none
  | (a, b) :: r => if eqv a k then some b else lookD k r
def putD (k v : D) : List (D × D) → List (D × D)
  | [] => [(k, v)]
  | (a, b) :: r => if eqv a k then (a, v) :: r else (a, b) :: putD k v r
def isIn : D → D → Option Bool
  | x, .lst ys => if okd 50 x && okds 50 ys then some (ys.any fun y => eqv y x) else none
  | x, .tup ys => if okd 50 x && okds 50 ys then some (ys.any fun y => eqv y x) else none
  | x, .dn kvs => if okKey x then some (lookD x kvs).isSome else none
  | .str [c], .str s => some (s.elem c)
  | _, _ => none
def ltL : List Nat → List Nat → Bool
  | [], [] => false
  | [], _ :: _ => true
  | _ :: _, [] => false
  | a :: as, b :: bs => if a = b then ltL as bs else decide (a < b)
def isNon : D → Bool
  | .non => true
  | _ => false
def cop : CO → D → D → Option Bool
  | .eq, a, b => if okd 50 a && okd 50 b then some (eqv a b) else none
  | .ne, a, b => if okd 50 a && okd 50 b then some (!eqv a b) else none
  | .lt, .int i, .int j => some (decide (i < j))
  | .lt, .str a, .str b => some (ltL a b)
  | .le, .int i, .int j => some (decide (i ≤ j))
  | .gt, .int i, .int j => some (decide (j < i))
  | .ge, .int i, .int j => some (decide (j ≤ i))
  | .isin, a, b => isIn a b
  | .notin, a, b => (isIn a b).map not
  | .isn, a, .non => some (isNon a)
  | .notn, a, .non => some (!isNon a)
  | _, _, _ => none
/-- an index from the front or from the end -/
def ixN (n : Nat) (i : Int) : Option Nat := if 0 ≤ i then (if i < n then some i.toNat else none) else if 0 ≤ i + n then some (i + n).toNat else none
def item : D → D → Option D
  | .lst xs, .int i => (ixN xs.length i).bind fun j => xs[j]?
  | .tup xs, .int i => (ixN xs.length i).bind fun j => xs[j]?
  | .scr xs, .int i => (ixN xs.length i).bind fun j => (xs[j]?).map .int
  | .str s, .int i => if s.length ≤ line then (ixN s.length i).bind fun j => (s[j]?).map fun c => .str [c] else none
  | .dn kvs, k => if okKey k then lookD k kvs else none
  | .dk kvs, .str s => lookD (.str s) kvs
  | _, _ => none
/-- an end of a slice -/
def sIx (n d : Nat) : Option Int → Nat
  | none => d
  | some i => if 0 ≤ i then min i.toNat n else (i + n).toNat
def cut {α : Type} (xs : List α) (lo hi : Option Int) : List α := (xs.drop (sIx xs.length 0 lo)).take (sIx xs.length xs.length hi - sIx xs.length 0 lo)
def slice : D → Option Int → Option Int → Option Op
  | .lst xs, lo, hi => some (.tmp (.l (cut xs lo hi)))
  | .tup xs, lo, hi => some (.val (.tup (cut xs lo hi)))
  | .str s, lo, hi => if s.length ≤ line then some (.val (.str (cut s lo hi))) else none
  | _, _, _ => none
def rev : D → Option Op
  | .str s => if s.length ≤ 1000 then some (.val (.str s.reverse)) else none
  | _ => none
inductive Ty where
  | int | bool | str | tuple | list
deriving DecidableEq
def isT : Ty → D → Option Bool
  | _, .fn _ => none
  | _, .scr _ => none
  | _, .exc _ => none
  | _, .dk _ => none
  | _, .dn _ => none
  | .int, .int _ => some true
  | .int, .bl _ => some true
  | .bool, .bl _ => some true
  | .str, .str _ => some true
  | .tuple, .tup _ => some true
  | .list, .lst _ => some true
  | _, _ => some false
def isTs : List Ty → D → Option Bool
  | [], _ => some false
  | t :: ts, d => (isT t d).bind fun b => (isTs ts d).map fun c => b || c
end TY
/-! TyB: the small language and its evaluator. -/
namespace TY
inductive Blt where
  | abs | int | min2 | max2 | minl | maxl | len | sum | all | any | sorted | sortset | tuple | list | dictp | str
deriving DecidableEq
inductive Met where
  | lower | upper | swapcase | join | replace | count
deriving DecidableEq
inductive T where
  | n (i : Nat) | t (ts : List T)
mutual
inductive E where
  | loc (i : Nat) | c (d : D) | gl (g : Nat) | fnv (f : Nat)
  | bop (o : BO) (a b : E) | cop (o : CO) (a b : E) | chn (o1 o2 : CO) (a b c : E)
  | and (a b : E) | or (a b : E) | not (a : E) | neg (a : E) | ite (c a b : E)
  | idx (a i : E) | slc (a : E) (lo hi : Option E) | rev (a : E)
  | tup (es : List E) | lst (es : List E) | dk (kvs : List (E × E)) | dn (kvs : List (E × E))
  | call (f : Nat) (es : List E) | calli (f i : Nat) (es : List E) | callv (i : Nat) (es : List E)
  | blt (b : Blt) (es : List E) | met (m : Met) (a : E) (es : List E) | get (a k : E) | get2 (a k d : E)
  | pop (i : Nat) | isi (a : E) (ts : List Ty) | lrng (es : List E)
  | lc (el : E) (tg : T) (it : I) (cs : List E) (own : List Nat)
  | lcl (el : E) (tg : T) (it : I) (cs : List E) (own : List Nat)
  | lc2 (el : E) (tg : T) (it : I) (cs : List E) (tg1 : T) (it1 : I) (cs1 : List E) (own own1 : List Nat)
  | dc (k v : E) (tg : T) (it : I) (cs : List E) (own : List Nat)
  | catch_ (e : E) | sumv (a : E) | dictz (a b : E)
  | isc (a : E) (n : Nat) | isv (a : E)
inductive I where
  | seq (e : E) | rng (es : List E) | enum (e : E) | zip (a b : E) | zipl (a b : E) | enumzip (a b : E) | items (e : E)
end
inductive S where
  | set (i : Nat) (e : E) | unp (tg : T) (e : E) | par (ies : List (Nat × E))
  | seti (i : Nat) (k v : E) | app (i : Nat) (e : E) | ext (i : Nat) (e : E) | app2 (i : Nat) (j e : E)
  | ex (e : E) | if_ (c : E) (a b : List S) | for_ (tg : T) (it : I) (b : List S) | while_ (c : E) (b : List S)
  | brk | ret (e : E) | retn | raise (x : Nat) (es : List E)

/-! ### targets -/
mutual
def store (lo : Nat) : T → D → Tau → Option Tau
  | .n i, d, t => if lo ≤ i ∧ i < t.length then some (t.set i (some (.v d))) else none
  | .t ts, .tup ds, t => stores lo ts ds t
  | .t _, _, _ => none
termination_by structural x => x
def stores (lo : Nat) : List T → List D → Tau → Option Tau
  | [], [], t => some t
  | x :: xs, d :: ds, t => (store lo x d t).bind (stores lo xs ds)
  | _, _, _ => none
termination_by structural xs => xs
end
def wipe (t : Tau) : List Nat → Tau
  | [] => t
  | v :: vs => (wipe t vs).set v none

/-! ### built-in functions and methods by values -/
def allI : List D → Option (List Int)
  | [] => some []
  | .int i :: r => (allI r).map (i :: ·)
  | _ => none
def allS : List D → Option (List (List Nat))
  | [] => some []
  | .str s :: r => (allS r).map (s :: ·)
  | _ => none
def allB : List D → Option (List Bool)
  | [] => some []
  | .bl s :: r => (allB r).map (s :: ·)
  | _ => none
def insI (x : Int) : List Int → List Int
  | [] => [x]
  | y :: r => if y ≤ x then y :: insI x r else x :: y :: r
def sortI (xs : List Int) : List Int := xs.foldl (fun r x => insI x r) []
def insS (x : List Nat) : List (List Nat) → List (List Nat)
  | [] => [x]
  | y :: r => if ltL x y then x :: y :: r else y :: insS x r
def sortS (xs : List (List Nat)) : List (List Nat) := xs.foldl (fun r x => insS x r) []
def dedup (xs : List Int) : List Int := xs.foldl (fun r x => if r.elem x then r else r ++ [x]) []
def lowC (c : Nat) : Nat := if 65 ≤ c ∧ c ≤ 90 then c + 32 else c
def uppC (c : Nat) : Nat := if 97 ≤ c ∧ c ≤ 122 then c - 32 else c
def swpC (c : Nat) : Nat := if 65 ≤ c ∧ c ≤ 90 then c + 32 else if 97 ≤ c ∧ c ≤ 122 then c - 32 else c
def ascii (s : List Nat) : Bool := s.all fun c => decide (c < 128)
def maxL : List Int → Option Int
  | [] => none
  | x :: r => some (r.foldl (fun m y => if m < y then y else m) x)
def minL : List Int → Option Int
  | [] => none
  | x :: r => some (r.foldl (fun m y => if y < m then y else m) x)
def pairsOf : List D → Option (List (D × D))
  | [] => some []
  | .tup [k, v] :: r => if okKey k then (pairsOf r).map ((k, v) :: ·) else none
  | _ => none
def joinL (sep : List Nat) : List (List Nat) → List Nat
  | [] => []
  | [x] => x
  | x :: y :: r => x ++ sep ++ joinL sep (y :: r)
def blt : Blt → List D → Option Op
  | .abs, [.int i] => some (.val (.int (if i < 0 then -i else i)))
  | .int, [.int i] => some (.val (.int i))
  | .int, [.bl b] => some (.val (.int (if b then 1 else 0)))
  | .min2, [.int i, .int j] => some (.val (.int (if j < i then j else i)))
  | .max2, [.int i, .int j] => some (.val (.int (if j > i then j else i)))
  | .minl, [.lst xs] => (allI xs).bind fun l => (minL l).map fun m => .val (.int m)
  | .maxl, [.lst xs] => (allI xs).bind fun l => (maxL l).map fun m => .val (.int m)
  | .len, [.lst xs] => some (.val (.int xs.length))
  | .len, [.tup xs] => some (.val (.int xs.length))
  | .len, [.scr xs] => some (.val (.int xs.length))
  | .len, [.str s] => if s.length ≤ line then some (.val (.int s.length)) else none
  | .sum, [.lst xs] => (allI xs).map fun l => .val (.int l.sum)
  | .all, [.lst xs] => (allB xs).map fun l => .val (.bl (l.all id))
  | .any, [.lst xs] => (allB xs).map fun l => .val (.bl (l.any id))
  | .sorted, [.lst xs] => match allI xs with
    | some l => some (.tmp (.l ((sortI l).map .int)))
    | none => match allS xs with
      | some l => if l.length < 64 then some (.tmp (.l ((sortS l).map .str))) else none
      | none => none
  | .sorted, [.str s] => if s.length < 64 then some (.tmp (.l ((sortS (s.map fun c => [c])).map .str))) else none
  | .tuple, [.lst xs] => some (.val (.tup xs))
  | .tuple, [.tup xs] => some (.val (.tup xs))
  | .list, [.lst xs] => some (.tmp (.l xs))
  | .list, [.tup xs] => some (.tmp (.l xs))
  | .list, [.str s] => if s.length ≤ 1000 then some (.tmp (.l (s.map fun c => .str [c]))) else none
  | _, _ => none
def asS : D → Option (List Nat)
  | .str s => some s
  | _ => none
def isDic : D → Option Bool
  | .dk _ => some true
  | .dn _ => some true
  | _ => none
def met : Met → List Nat → List D → Option Op
  | .lower, s, [] => if ascii s && decide (s.length ≤ 1000) then some (.val (.str (s.map lowC))) else none
  | .upper, s, [] => if ascii s && decide (s.length ≤ 1000) then some (.val (.str (s.map uppC))) else none
  | .swapcase, s, [] => if ascii s && decide (s.length ≤ 1000) then some (.val (.str (s.map swpC))) else none
  | .join, s, [.lst xs] => (allS xs).bind fun l => if (l.map (·.length)).sum + l.length * s.length ≤ line then some (.val (.str (joinL s l))) else none
  | .replace, s, [.str [c], .str []] => if s.length ≤ 1000 then some (.val (.str (s.filter fun x => x != c))) else none
  | .count, s, [.str [c]] => some (.val (.int (s.count c)))
  | _, _, _ => none
def getD' : D → D → D → Option D
  | .dk kvs, .str s, x => some ((lookD (.str s) kvs).getD x)
  | .dn kvs, k, x => if okKey k then some ((lookD k kvs).getD x) else none
  | _, _, _ => none
def lo62 (i : Int) : Bool := decide (-(2 ^ 62) ≤ i) && decide (i < 2 ^ 62)
def rng : List D → Option (List D)
  | [.int j] => if lo62 j then some ((List.range j.toNat).map fun (k : Nat) => .int k) else none
  | [.int i, .int j] => if lo62 i && lo62 j then some ((List.range (j - i).toNat).map fun (k : Nat) => .int (i + k)) else none
  | [.int i, .int j, .int (-1)] => if lo62 i && lo62 j then some ((List.range (i - j).toNat).map fun (k : Nat) => .int (i + k * (-1))) else none
  | _ => none
def seqOf : D → Option (List D)
  | .lst xs => some xs
  | .tup xs => some xs
  | .str s => some (s.map fun c => .str [c])
  | .dn kvs => some (kvs.map Prod.fst)
  | _ => none
/-- .. but for dicts -/
def seqN : D → Option (List D)
  | .lst xs => some xs
  | .tup xs => some xs
  | .str s => some (s.map fun c => .str [c])
  | _ => none
def lstN : D → Option (List D)
  | .lst xs => some xs
  | _ => none
def enumFrom (n : Nat) : List D → List D
  | [] => []
  | x :: r => .tup [.int n, x] :: enumFrom (n + 1) r
def zipD : List D → List D → List D
  | x :: r, y :: s => .tup [x, y] :: zipD r s
  | _, _ => []

/-- the sum of a dict's values -/
def sumvD : D → Option Int
  | .dn kvs => (allI (kvs.map Prod.snd)).map List.sum
  | _ => none
/-- pairs of texts and values -/
def zipK : List D → List D → Option (List (D × D))
  | .str s :: r, y :: q => (zipK r q).map ((.str s, y) :: ·)
  | _ :: _, _ :: _ => none
  | _, _ => some []
/-! ### loops -/
inductive Rs where
  | val (d : D) | tmp (m : Mu)
inductive Fl where
  | nx | brk | ret (r : Rs)
/-- the turns of a for loop; none: it ran through or was left by break -/
def forL (f : D → Tau → Out Fl) : List D → Tau → Out (Option Rs)
  | [], t => .ok none t
  | d :: ds, t => (f d t).bind fun fl t => match fl with
    | .nx => forL f ds t
    | .brk => .ok none t
    | .ret r => .ok (some r) t
def whileL (c : Tau → Out Bool) (f : Tau → Out Fl) : Nat → Tau → Out (Option Rs)
  | 0, _ => .no
  | n + 1, t => (c t).bind fun b t => if b then (f t).bind fun fl t => match fl with
      | .nx => whileL c f n t
      | .brk => .ok none t
      | .ret r => .ok (some r) t
    else .ok none t
/-- the turns of a comprehension: what each adds -/
def compL {α : Type} (own : List Nat) (f : D → Tau → Out (List α)) : List D → List α → Tau → Out (List α)
  | [], acc, t => .ok acc t
  | d :: ds, acc, t => match f d (wipe t own) with
    | .ok x t => if acc.length + x.length ≤ line then compL own f ds (acc ++ x) t else .no
    | _ => .no

/-! ### calls -/
/-- what a call gives: its value, what its first argument (handed in to be changed) holds then -/
inductive OutC where
  | ok (r : Rs) (m : Option Mu) | ex (x : Ex) | no
abbrev CallF := Nat → Option Mu → List D → OutC
/-- a caught error's class -/
def exN : D → Option Nat
  | .exc n => some n
  | _ => none
structure Glob where
  gl : Nat → Option D
  kinds : Ex → Option (List D)
  ex : Nat → Bool
def Rs.op : Rs → Op
  | .val d => .val d
  | .tmp m => .tmp m
/-- it may wait while more is evaluated -/
def hold : Op → M Op
  | .sub _ _ => fun _ => .no
  | x => M.pure x
def asB : Op → M Bool
  | .val (.bl b) => M.pure b
  | _ => fun _ => .no
def asI : Op → M Int
  | .val (.int b) => M.pure b
  | _ => fun _ => .no
def getM (t : Tau) (i : Nat) : Option Mu := match getS t i with
  | some (.o m) => some m
  | _ => none

def ownL (t : Tau) (i : Nat) : Bool := match getM t i with
  | some (.l _) => true
  | _ => false

section
variable (G : Glob) (cf : CallF) (wf : Nat)
def doCall (f : Nat) (ds : List D) : M Op := fun t => match cf f none ds with
  | .ok r none => .ok r.op t
  | .ex x => .ex x t
  | _ => .no
def doCallI (f i : Nat) (ds : List D) : M Op := fun t => match getM t i with
  | some m => match cf f (some m) ds with
    | .ok r (some m') => .ok r.op (t.set i (some (.o m')))
    | _ => .no
  | none => .no
/-- the ends of a slice -/
def popL (i : Nat) : M Op := fun t => match getM t i with
  | some (.l xs) => match xs.getLast? with
    | some d => .ok (.val d) (t.set i (some (.o (.l xs.dropLast))))
    | none => .no
  | _ => .no
def kvD (key : D → Bool) : List (D × D) → Option (List (D × D))
  | [] => some []
  | (k, v) :: r => if key k then (kvD key r).map ((k, v) :: ·) else none
mutual
def ev : E → Tau → Out Op
  | .loc i, t => match getS t i with
    | some (.v d) => .ok (.val d) t
    | some (.o _) => .ok (.slot i) t
    | none => .no
  | .c d, t => .ok (.val d) t
  | .gl g, t => lift ((G.gl g).map .val) t
  | .fnv f, t => .ok (.val (.fn f)) t
  | .bop o a b, t => (ev a t).bind fun x t => (hold x t).bind fun x t => (ev b t).bind fun y t => lift ((der t x).bind fun x => (der t y).bind fun y => bop o x y) t
  | .cop o a b, t => (ev a t).bind fun x t => (hold x t).bind fun x t => (ev b t).bind fun y t => lift ((der t x).bind fun x => (der t y).bind fun y => (cop o x y).map fun r => .val (.bl r)) t
  | .chn o1 o2 a b c, t => (ev a t).bind fun x t => (hold x t).bind fun x t => (ev b t).bind fun y t => (hold y t).bind fun y t => (lift ((der t x).bind fun x => (der t y).bind fun y => cop o1 x y) t).bind fun r t =>
      if r then (ev c t).bind fun z t => lift ((der t y).bind fun y => (der t z).bind fun z => (cop o2 y z).map fun r => .val (.bl r)) t else .ok (.val (.bl false)) t
  | .and a b, t => (ev a t).bind fun x t => (asB x t).bind fun r t => if r then ev b t else .ok (.val (.bl false)) t
  | .or a b, t => (ev a t).bind fun x t => (asB x t).bind fun r t => if r then .ok (.val (.bl true)) t else ev b t
  | .not a, t => (ev a t).bind fun x t => (asB x t).bind fun r t => .ok (.val (.bl (!r))) t
  | .neg a, t => (ev a t).bind fun x t => (asI x t).bind fun r t => .ok (.val (.int (-r))) t
  | .ite c a b, t => (ev c t).bind fun x t => (asB x t).bind fun r t => if r then ev a t else ev b t
  | .idx a i, t => (ev a t).bind fun x t => (hold x t).bind fun x t => (ev i t).bind fun y t => match x, y with
      | .slot i, .val (.int j) => match getS t i with
        | some (.o (.ll xss)) => lift ((ixN xss.length j).map fun j => .sub i j) t
        | _ => lift ((der t x).bind fun d => (item d (.int j)).map .val) t
      | _, _ => lift ((der t x).bind fun x => (der t y).bind fun y => (item x y).map .val) t
  | .slc a lo hi, t => (ev a t).bind fun x t => (hold x t).bind fun x t => (evo lo t).bind fun l t => (evo hi t).bind fun h t => lift ((der t x).bind fun x => slice x l h) t
  | .rev a, t => (ev a t).bind fun x t => lift ((der t x).bind rev) t
  | .tup es, t => (evs es t).bind fun ds t => if ds.length ≤ line then .ok (.val (.tup ds)) t else .no
  | .lst es, t => (evs es t).bind fun ds t => if ds.length ≤ line then .ok (.tmp (.l ds)) t else .no
  | .dk kvs, t => (evkv kvs t).bind fun ps t => if ps.length ≤ 15 then lift ((kvD isStr ps).map fun l => .tmp (.k (l.foldl (fun r p => putD p.1 p.2 r) []))) t else .no
  | .dn kvs, t => (evkv kvs t).bind fun ps t => if ps.length ≤ 15 then lift ((kvD okKey ps).map fun l => .tmp (.n (l.foldl (fun r p => putD p.1 p.2 r) []))) t else .no
  | .call f es, t => (evs es t).bind fun ds t => doCall cf f ds t
  | .calli f i es, t => if (getM t i).isSome then (evs es t).bind fun ds t => doCallI cf f i ds t else .no
  | .callv i es, t => match getS t i with
    | some (.v (.fn f)) => (evs es t).bind fun ds t => doCall cf f ds t
    | _ => .no
  | .blt b es, t => (evos es t).bind fun xs t => lift ((xs.mapM (der t)).bind (blt b)) t
  | .met m a es, t => (ev a t).bind fun x t => (hold x t).bind fun x t => (lift ((der t x).bind asS) t).bind fun s t => (evs es t).bind fun ds t => lift (met m s ds) t
  | .get a k, t => (ev a t).bind fun x t => (hold x t).bind fun x t => (lift ((der t x).bind isDic) t).bind fun _ t => (ev k t).bind fun y t => (frz y t).bind fun k t => lift ((der t x).bind fun d => (getD' d k .non).map .val) t
  | .get2 a k e, t => (ev a t).bind fun x t => (hold x t).bind fun x t => (lift ((der t x).bind isDic) t).bind fun _ t => (ev k t).bind fun y t => (frz y t).bind fun k t => (ev e t).bind fun z t => (frz z t).bind fun e t => lift ((der t x).bind fun d => (getD' d k e).map .val) t
  | .pop i, t => popL i t
  | .isi a ts, t => (ev a t).bind fun x t => lift ((der t x).bind fun x => (isTs ts x).map fun r => .val (.bl r)) t
  | .lrng es, t => (evs es t).bind fun ds t => lift ((rng ds).map fun l => .tmp (.l l)) t
  | .lc el tg it cs own, t => (evi it t).bind fun ds t => (compL own (fun d t => (lift (store 0 tg d t) t).bind fun t' _ => (evc cs t').bind fun b t => if b then (ev el t).bind fun x t => (frz x t).bind fun x t => .ok [x] t else .ok [] t) ds [] t).bind fun l t =>
      .ok (.tmp (.l l)) (wipe t own)
  | .lcl el tg it cs own, t => (evi it t).bind fun ds t => (compL own (fun d t => (lift (store 0 tg d t) t).bind fun t' _ => (evc cs t').bind fun b t => if b then (ev el t).bind fun x t => match x with
      | .tmp (.l xs) => .ok [xs] t
      | _ => .no else .ok [] t) ds [] t).bind fun l t => .ok (.tmp (.ll l)) (wipe t own)
  | .lc2 el tg it cs tg1 it1 cs1 own own1, t => (evi it t).bind fun ds t => (compL own (fun d t => (lift (store 0 tg d t) t).bind fun t' _ => (evc cs t').bind fun b t => if b then (evi it1 t).bind fun es t =>
      compL own1 (fun e t => (lift (store 0 tg1 e t) t).bind fun t' _ => (evc cs1 t').bind fun b t => if b then (ev el t).bind fun x t => (frz x t).bind fun x t => .ok [x] t else .ok [] t) es [] t else .ok [] t) ds [] t).bind fun l t =>
      .ok (.tmp (.l l)) (wipe t own)
  | .dc k v tg it cs own, t => (evi it t).bind fun ds t => (compL own (fun d t => (lift (store 0 tg d t) t).bind fun t' _ => (evc cs t').bind fun b t => if b then (ev k t).bind fun x t => (frz x t).bind fun x t => (ev v t).bind fun y t => (frz y t).bind fun y t =>
      if okKey x then .ok [(x, y)] t else .no else .ok [] t) ds [] t).bind fun l t => .ok (.tmp (.n (l.foldl (fun r p => putD p.1 p.2 r) []))) (wipe t own)
  | .catch_ e, t => match (ev e t).bind frz with
    | .ok d t => .ok (.val (.tup [.str [116, 111, 108, 100], d])) t
    | .ex x t => lift ((G.kinds x).map fun l => .val (.tup l)) t
    | .no => .no
  | .isc a n, t => (ev a t).bind fun x t => lift ((der t x).bind fun d => (exN d).bind fun m => if G.ex m then some (.val (.bl (m == n))) else none) t
  | .isv a, t => (ev a t).bind fun x t => lift ((der t x).bind fun d => (exN d).bind fun m => if G.ex m then some (.val (.bl true)) else none) t
  | .sumv a, t => (ev a t).bind fun x t => lift ((der t x).bind fun d => (sumvD d).map fun i => .val (.int i)) t
  | .dictz a b, t => (ev a t).bind fun x t => (frz x t).bind fun d t => (ev b t).bind fun y t => (frz y t).bind fun e t => lift ((seqN d).bind fun d => (seqN e).bind fun e => (zipK d e).map fun l => .tmp (.k (l.foldl (fun r p => putD p.1 p.2 r) []))) t
termination_by structural e => e
/-- values, from the left, given away -/
def evs : List E → Tau → Out (List D)
  | [], t => .ok [] t
  | e :: es, t => (ev e t).bind fun x t => (frz x t).bind fun d t => (evs es t).bind fun ds t => .ok (d :: ds) t
termination_by structural es => es
/-- operands, from the left -/
def evos : List E → Tau → Out (List Op)
  | [], t => .ok [] t
  | e :: es, t => (ev e t).bind fun x t => (hold x t).bind fun x t => (evos es t).bind fun xs t => .ok (x :: xs) t
termination_by structural es => es
def evo : Option E → Tau → Out (Option Int)
  | none, t => .ok none t
  | some e, t => (ev e t).bind fun x t => (asI x t).bind fun i t => .ok (some i) t
termination_by structural o => o
def evkv : List (E × E) → Tau → Out (List (D × D))
  | [], t => .ok [] t
  | p :: r, t => (evp p t).bind fun kv t => (evkv r t).bind fun l t => .ok (kv :: l) t
termination_by structural l => l
def evp : E × E → Tau → Out (D × D)
  | (k, v), t => (ev k t).bind fun x t => (frz x t).bind fun x t => (ev v t).bind fun y t => (frz y t).bind fun y t => .ok (x, y) t
termination_by structural p => p
/-- tests behind one another -/
def evc : List E → Tau → Out Bool
  | [], t => .ok true t
  | e :: es, t => (ev e t).bind fun x t => (asB x t).bind fun b t => if b then evc es t else .ok false t
termination_by structural es => es
def evi : I → Tau → Out (List D)
  | .seq e, t => (ev e t).bind fun x t => (frz x t).bind fun d t => lift (seqOf d) t
  | .rng es, t => (evs es t).bind fun ds t => lift (rng ds) t
  | .enum e, t => (ev e t).bind fun x t => (frz x t).bind fun d t => lift ((seqN d).map (enumFrom 0)) t
  | .zip a b, t => (ev a t).bind fun x t => (frz x t).bind fun d t => (ev b t).bind fun y t => (frz y t).bind fun e t => lift ((seqN d).bind fun d => (seqN e).map (zipD d)) t
  | .zipl a b, t => (ev a t).bind fun x t => (frz x t).bind fun d t => (ev b t).bind fun y t => (frz y t).bind fun e t => lift ((lstN d).bind fun d => (lstN e).map (zipD d)) t
  | .enumzip a b, t => (ev a t).bind fun x t => (frz x t).bind fun d t => (ev b t).bind fun y t => (frz y t).bind fun e t => lift ((lstN d).bind fun d => (lstN e).map fun e => enumFrom 0 (zipD d e)) t
  | .items e, t => (ev e t).bind fun x t => (frz x t).bind fun d t => match d with
    | .dn kvs => .ok (kvs.map fun p => .tup [p.1, p.2]) t
    | _ => .no
termination_by structural i => i
end

/-! ### statements -/
/-- an operand comes to a slot -/
def setO (lo i : Nat) (x : Op) : M Unit := fun t => if lo ≤ i ∧ i < t.length then (match x with
  | .tmp m => .ok () (t.set i (some (.o m)))
  | x => (frz x t).bind fun d t => .ok () (t.set i (some (.v d)))) else .no
def setOs (lo : Nat) : List (Nat × Op) → M Unit
  | [] => M.pure ()
  | (i, x) :: r => fun t => (setO lo i x t).bind fun _ t => setOs lo r t
def setM (i : Nat) (k v : D) : M Unit := fun t => match getM t i, k with
  | some (.l xs), .int j => match ixN xs.length j with
    | some n => .ok () (t.set i (some (.o (.l (xs.set n v)))))
    | none => .no
  | some (.n kvs), k => if okKey k ∧ kvs.length < line then .ok () (t.set i (some (.o (.n (putD k v kvs))))) else .no
  | _, _ => .no
def appM (i : Nat) (v : D) : M Unit := fun t => match getM t i with
  | some (.l xs) => if xs.length < line then .ok () (t.set i (some (.o (.l (xs ++ [v]))))) else .no
  | _ => .no
def extM (i : Nat) (v : D) : M Unit := fun t => match getM t i, v with
  | some (.l xs), .lst ys => if xs.length + ys.length ≤ line then .ok () (t.set i (some (.o (.l (xs ++ ys))))) else .no
  | _, _ => .no
def app2M (i j : Nat) (v : D) : M Unit := fun t => match getM t i with
  | some (.ll xss) => match xss[j]? with
    | some xs => if xs.length < line then .ok () (t.set i (some (.o (.ll (xss.set j (xs ++ [v])))))) else .no
    | none => .no
  | _ => .no
/-- what is returned; io: the first slot was handed in to be changed -/
def retO (io : Bool) (x : Op) : M Fl := fun t => match x with
  | .val d => .ok (.ret (.val d)) t
  | .tmp m => .ok (.ret (.tmp m)) t
  | .slot i => if io && i == 0 then .no else match getS t i with
    | some (.v d) => .ok (.ret (.val d)) t
    | some (.o m) => .ok (.ret (.tmp m)) (t.set i none)
    | none => .no
  | .sub _ _ => .no
def raiseX (x : Nat) : List D → M Fl
  | [] => fun t => .ex ⟨x, none⟩ t
  | [.int n] => fun t => .ex ⟨x, some n⟩ t
  | _ => fun _ => .no
def evpar : List (Nat × E) → Tau → Out (List (Nat × Op))
  | [], t => .ok [] t
  | (i, e) :: r, t => (ev G cf e t).bind fun x t => (match x with
    | .tmp m => (.ok (.tmp m) t : Out Op)
    | x => (frz x t).bind fun d t => .ok (.val d) t).bind fun x t => (evpar r t).bind fun l t => .ok ((i, x) :: l) t
def fl1 (o : Option Rs) : Fl := match o with
  | none => .nx
  | some r => .ret r
mutual
def exs (io : Bool) : S → Tau → Out Fl
  | .set i e, t => (ev G cf e t).bind fun x t => (setO io.toNat i x t).bind fun _ t => .ok .nx t
  | .unp tg e, t => (ev G cf e t).bind fun x t => (frz x t).bind fun d t => (lift (store io.toNat tg d t) t).bind fun t' _ => .ok .nx t'
  | .par ies, t => (evpar G cf ies t).bind fun l t => (setOs io.toNat l t).bind fun _ t => .ok .nx t
  | .seti i k v, t => (ev G cf v t).bind fun x t => (frz x t).bind fun v t => if (getM t i).isSome then (ev G cf k t).bind fun y t => (frz y t).bind fun k t => (setM i k v t).bind fun _ t => .ok .nx t else .no
  | .app i e, t => if ownL t i then (ev G cf e t).bind fun x t => (frz x t).bind fun d t => (appM i d t).bind fun _ t => .ok .nx t else .no
  | .ext i e, t => if ownL t i then (ev G cf e t).bind fun x t => (frz x t).bind fun d t => (extM i d t).bind fun _ t => .ok .nx t else .no
  | .app2 i j e, t => (ev G cf j t).bind fun x t => (asI x t).bind fun j t => (lift ((match getM t i with
      | some (.ll xss) => ixN xss.length j
      | _ => none)) t).bind fun j t => (ev G cf e t).bind fun x t => (frz x t).bind fun d t => (app2M i j d t).bind fun _ t => .ok .nx t
  | .ex e, t => (ev G cf e t).bind fun _ t => .ok .nx t
  | .if_ c a b, t => (ev G cf c t).bind fun x t => (asB x t).bind fun r t => if r then exss io a t else exss io b t
  | .for_ tg it b, t => (evi G cf it t).bind fun ds t => (forL (fun d t => (lift (store io.toNat tg d t) t).bind fun t' _ => exss io b t') ds t).bind fun o t => .ok (fl1 o) t
  | .while_ c b, t => (whileL (fun t => (ev G cf c t).bind asB) (fun t => exss io b t) wf t).bind fun o t => .ok (fl1 o) t
  | .brk, t => .ok .brk t
  | .ret e, t => (ev G cf e t).bind fun x t => retO io x t
  | .retn, t => .ok (.ret (.val .non)) t
  | .raise x es, t => (evs G cf es t).bind fun ds t => raiseX x ds t
termination_by structural s => s
def exss (io : Bool) : List S → Tau → Out Fl
  | [], t => .ok .nx t
  | s :: ss, t => (exs io s t).bind fun fl t => match fl with
    | .nx => exss io ss t
    | fl => .ok fl t
termination_by structural ss => ss
end
end

/-- a def: its parameters, its slots, whether the first argument is handed in to be changed, its body -/
structure Fn where
  par : Nat
  slots : Nat
  io : Bool
  body : List S
def startT (n : Nat) (m : Option Mu) (ds : List D) : Tau := (match m with
  | some m => [some (.o m)]
  | none => []) ++ ds.map (fun d => some (.v d)) ++ List.replicate (n - (ds.length + m.isSome.toNat)) none
def endC (io : Bool) (r : Rs) (t : Tau) : OutC := if io then (match getM t 0 with
  | some m => .ok r (some m)
  | none => .no) else .ok r none
def runF (G : Glob) (cf : CallF) (wf : Nat) (f : Fn) (m : Option Mu) (ds : List D) : OutC :=
  if m.isSome = f.io ∧ ds.length + m.isSome.toNat = f.par then (match exss G cf wf f.io f.body (startT f.slots m ds) with
    | .ok .nx t => endC f.io (.val .non) t
    | .ok (.ret r) t => endC f.io r t
    | .ok .brk _ => .no
    | .ex x _ => if f.io then .no else .ex x
    | .no => .no) else .no
def callF (G : Glob) (fs : Nat → Option Fn) (wf : Nat) : Nat → CallF
  | 0, _, _, _ => .no
  | k + 1, f, m, ds => match fs f with
    | some fn => runF G (callF G fs wf k) wf fn m ds
    | none => .no
end TY
/-! PL: plain lemmas about the evaluator. -/
namespace TY
section
variable {α β : Type} {a : α} {t : Tau} {x : Ex} {f : α → Tau → Out β} {c : Prop} [Decidable c]
theorem bind_ok : (Out.ok a t).bind f = f a t := rfl
theorem bind_ex : (Out.ex x t : Out α).bind f = .ex x t := rfl
theorem bind_no : (Out.no : Out α).bind f = .no := rfl
theorem bind_ite {m n : Out α} : (if c then m else n).bind f = if c then m.bind f else n.bind f := by split <;> rfl
theorem lift_some : lift (some a) t = .ok a t := rfl
theorem lift_none : (lift (none : Option α) t) = .no := rfl
theorem hold_val {d : D} : hold (.val d) t = .ok (.val d) t := rfl
theorem hold_slot {i : Nat} : hold (.slot i) t = .ok (.slot i) t := rfl
theorem hold_tmp {m : Mu} : hold (.tmp m) t = .ok (.tmp m) t := rfl
theorem asB_bl {b : Bool} : asB (.val (.bl b)) t = .ok b t := rfl
theorem asI_int {i : Int} : asI (.val (.int i)) t = .ok i t := rfl
theorem frz_val {d : D} : frz (.val d) t = .ok d t := rfl
theorem frz_tmp {m : Mu} : frz (.tmp m) t = .ok m.d t := rfl
theorem der_val {d : D} : der t (.val d) = some d := rfl
theorem der_tmp {l : List D} : der t (.tmp (.l l)) = some (.lst l) := rfl
theorem ite_tt {m n : Out α} : (if true = true then m else n) = m := rfl
theorem ite_ff {m n : Out α} : (if false = true then m else n) = n := rfl
theorem obind_some {g : α → Option β} : (some a).bind g = g a := rfl
theorem omap_some {g : α → β} : (some a).map g = some (g a) := rfl
end
theorem getS_zero {s : Option SV} {r : Tau} : getS (s :: r) 0 = s := by cases s <;> rfl
theorem getS_succ {s : Option SV} {r : Tau} {n : Nat} : getS (s :: r) (n + 1) = getS r n := rfl
/-- a comprehension, each turn by itself -/
theorem comp_map {own : List Nat} {f : D → Tau → Out (List D)} {h : D → List D} {w : Tau} : ∀ {ds acc : List D} {τ : Tau}, TY.wipe τ own = w → (∀ d ∈ ds, ∃ t', f d w = .ok (h d) t' ∧ TY.wipe t' own = w) → (acc ++ ds.flatMap h).length ≤ line →
    ∃ t', compL own f ds acc τ = .ok (acc ++ ds.flatMap h) t' ∧ TY.wipe t' own = w
  | [], acc, τ, hw, _, _ => ⟨τ, by simp [compL], hw⟩
  | d :: ds, acc, τ, hw, hf, hl => by
    obtain ⟨t1, e1, w1⟩ := hf d List.mem_cons_self
    have e : acc ++ (d :: ds).flatMap h = (acc ++ h d) ++ ds.flatMap h := by simp
    rw [e] at hl ⊢
    unfold compL
    rw [hw, e1]
    simp only
    rw [if_pos (by rw [List.length_append] at hl; rw [List.length_append] at hl; omega)]
    exact comp_map w1 (fun d' hd => hf d' (List.mem_cons_of_mem _ hd)) hl
/-- the end of a comprehension -/
def lcEnd (own : List Nat) (m : Out (List D)) : Out Op := m.bind fun l t => .ok (.tmp (.l l)) (TY.wipe t own)
theorem lcEnd_ok {own : List Nat} {l : List D} {t : Tau} : lcEnd own (.ok l t) = .ok (.tmp (.l l)) (TY.wipe t own) := rfl
theorem lc_map {own : List Nat} {f : D → Tau → Out (List D)} {h : D → List D} {ds : List D} {τ : Tau} (hf : ∀ d ∈ ds, ∃ t', f d (TY.wipe τ own) = .ok (h d) t' ∧ TY.wipe t' own = TY.wipe τ own) (hl : (ds.flatMap h).length ≤ line) :
    lcEnd own (compL own f ds [] τ) = .ok (.tmp (.l (ds.flatMap h))) (TY.wipe τ own) := by
  obtain ⟨t', e, w⟩ := comp_map (acc := []) rfl hf (by simpa using hl)
  rw [e, lcEnd_ok, w, List.nil_append]
/-- a loop that only goes on -/
theorem forL_fold {S : Type} {f : D → Tau → Out Fl} {st : S → Tau} {step : S → D → S} : ∀ {ds : List D} {s : S}, (∀ s, ∀ d ∈ ds, f d (st s) = .ok .nx (st (step s d))) → forL f ds (st s) = .ok none (st (ds.foldl step s))
  | [], s, _ => rfl
  | d :: ds, s, h => by
    unfold forL
    rw [h s d List.mem_cons_self]
    exact forL_fold fun s d' hd => h s d' (List.mem_cons_of_mem _ hd)
/-! ### a call's end -/
/-- of a def without a thing handed in -/
def fin : Out Fl → OutC
  | .ok .nx _ => .ok (.val .non) none
  | .ok (.ret r) _ => .ok r none
  | .ok .brk _ => .no
  | .ex x _ => .ex x
  | .no => .no
def finI : Out Fl → OutC
  | .ok .nx t => endC true (.val .non) t
  | .ok (.ret r) t => endC true r t
  | .ok .brk _ => .no
  | .ex _ _ => .no
  | .no => .no
section
variable {t : Tau} {c : Prop} [Decidable c] {m n : Out Fl} {r : Rs} {x : Ex}
theorem fin_ret : fin (.ok (.ret r) t) = .ok r none := rfl
theorem fin_nx : fin (.ok .nx t) = .ok (.val .non) none := rfl
theorem fin_ex : fin (.ex x t) = .ex x := rfl
theorem fin_ite : fin (if c then m else n) = if c then fin m else fin n := by split <;> rfl
theorem finI_ret : finI (.ok (.ret r) t) = endC true r t := rfl
theorem finI_nx : finI (.ok .nx t) = endC true (.val .non) t := rfl
theorem finI_ite : finI (if c then m else n) = if c then finI m else finI n := by split <;> rfl
end
section
variable {G : Glob} {fs : Nat → Option Fn} {wf k f : Nat} {fn : Fn} {ds : List D} {m : Mu}
theorem call_fin (h : fs f = some fn) (hio : fn.io = false) (hp : ds.length = fn.par) : callF G fs wf (k + 1) f none ds = fin (exss G (callF G fs wf k) wf false fn.body (startT fn.slots none ds)) := by
  simp only [callF, h, runF]
  rw [if_pos ⟨hio.symm, hp⟩]
  rw [hio]
  cases exss G (callF G fs wf k) wf false fn.body (startT fn.slots none ds) with
  | no => rfl
  | ex x t => rfl
  | ok fl t => cases fl <;> rfl
theorem call_finI (h : fs f = some fn) (hio : fn.io = true) (hp : ds.length + 1 = fn.par) : callF G fs wf (k + 1) f (some m) ds = finI (exss G (callF G fs wf k) wf true fn.body (startT fn.slots (some m) ds)) := by
  simp only [callF, h, runF]
  rw [if_pos ⟨hio.symm, hp⟩]
  rw [hio]
  cases exss G (callF G fs wf k) wf true fn.body (startT fn.slots (some m) ds) with
  | no => rfl
  | ex x t => rfl
  | ok fl t => cases fl <;> rfl
end
section
variable {t : Tau} {b c : Bool}
theorem and_ok : (if b = true then (Out.ok (Op.val (.bl c)) t : Out Op) else .ok (.val (.bl false)) t) = .ok (.val (.bl (b && c))) t := by cases b <;> rfl
theorem or_ok : (if b = true then (Out.ok (Op.val (.bl true)) t : Out Op) else .ok (.val (.bl c)) t) = .ok (.val (.bl (b || c))) t := by cases b <;> rfl
theorem startN {n : Nat} {ds : List D} : startT n none ds = ds.map (fun d => some (.v d)) ++ List.replicate (n - ds.length) none := rfl
theorem startI {n : Nat} {m : Mu} {ds : List D} : startT n (some m) ds = some (.o m) :: (ds.map (fun d => some (.v d)) ++ List.replicate (n - (ds.length + 1)) none) := rfl
end
section
variable {t : Tau} {x : Op} {xs : List Op} {n : Nat} {i : Int} {b : Bool} {z : List Nat} {ds : List D} {d : D}
theorem mapD_nil : ([] : List Op).mapM (der t) = some [] := rfl
theorem mapD_cons : (x :: xs).mapM (der t) = (der t x).bind fun d => (xs.mapM (der t)).bind fun r => some (d :: r) := by
  rw [List.mapM_cons]
  cases der t x with
  | none => rfl
  | some d => cases h : xs.mapM (der t) <;> simp [h]
theorem okd_non : okd n .non = true := by cases n <;> rfl
theorem okd_bl : okd n (.bl b) = true := by cases n <;> rfl
theorem okd_int : okd n (.int i) = true := by cases n <;> rfl
theorem okd_str : okd n (.str z) = true := by cases n <;> rfl
theorem okd_tup50 : okd 50 (.tup ds) = okds 49 ds := rfl
theorem okd_tup49 : okd 49 (.tup ds) = okds 48 ds := rfl
theorem okd_tup48 : okd 48 (.tup ds) = okds 47 ds := rfl
theorem okd_tup47 : okd 47 (.tup ds) = okds 46 ds := rfl
theorem okd_lst50 : okd 50 (.lst ds) = okds 49 ds := rfl
theorem okd_lst49 : okd 49 (.lst ds) = okds 48 ds := rfl
theorem okds_nil : okds n [] = true := by cases n <;> rfl
theorem okds_cons : okds n (d :: ds) = (okd n d && okds n ds) := by cases n <;> rfl
theorem eqv_int {j : Int} : eqv (.int i) (.int j) = (i == j) := rfl
theorem eqv_str {w : List Nat} : eqv (.str z) (.str w) = (z == w) := rfl
theorem eqv_bl {c : Bool} : eqv (.bl b) (.bl c) = (b == c) := rfl
theorem eqv_tup {es : List D} : eqv (.tup ds) (.tup es) = eqvs ds es := rfl
theorem eqv_lst {es : List D} : eqv (.lst ds) (.lst es) = eqvs ds es := rfl
theorem item_tup0 {d0 : D} : item (.tup (d0 :: ds)) (.int 0) = some d0 := by simp [item, ixN]
theorem item_tup1 {d0 d1 : D} : item (.tup (d0 :: d1 :: ds)) (.int 1) = some d1 := by
  have h : (1 : Int) < ((d0 :: d1 :: ds).length : Nat) := by simp only [List.length_cons]; omega
  simp only [item, ixN]
  rw [if_pos (by decide), if_pos h]
  rfl
end
/-! ### comprehensions over a list that is told -/
section
variable {α : Type} {own : List Nat} {f : D → Tau → Out (List D)} {L : List α} {g : α → D} {τ : Tau}
theorem lc_flat {h : α → List D} (hf : ∀ a ∈ L, ∃ t', f (g a) (TY.wipe τ own) = .ok (h a) t' ∧ TY.wipe t' own = TY.wipe τ own) (hl : (L.flatMap h).length ≤ line) :
    lcEnd own (compL own f (L.map g) [] τ) = .ok (.tmp (.l (L.flatMap h))) (TY.wipe τ own) := by
  have key : ∀ (L : List α) (acc : List D) (τ' : Tau), (∀ a ∈ L, ∃ t', f (g a) (TY.wipe τ own) = .ok (h a) t' ∧ TY.wipe t' own = TY.wipe τ own) → TY.wipe τ' own = TY.wipe τ own → (acc ++ L.flatMap h).length ≤ line →
      ∃ t', compL own f (L.map g) acc τ' = .ok (acc ++ L.flatMap h) t' ∧ TY.wipe t' own = TY.wipe τ own := by
    intro L
    induction L with
    | nil => intro acc τ' _ hw _; exact ⟨τ', by simp [compL], hw⟩
    | cons a L ih =>
      intro acc τ' hf hw hl
      obtain ⟨t1, e1, w1⟩ := hf a List.mem_cons_self
      have e : acc ++ (a :: L).flatMap h = (acc ++ h a) ++ L.flatMap h := by simp
      rw [e] at hl ⊢
      rw [List.map_cons]
      unfold compL
      rw [hw, e1]
      simp only
      rw [if_pos (by rw [List.length_append] at hl; rw [List.length_append] at hl; omega)]
      exact ih _ _ (fun b hb => hf b (List.mem_cons_of_mem _ hb)) w1 hl
  obtain ⟨t', e, w⟩ := key L [] τ hf rfl (by simpa using hl)
  rw [e, lcEnd_ok, w, List.nil_append]
theorem lc_one {h : α → D} (hf : ∀ a ∈ L, ∃ t', f (g a) (TY.wipe τ own) = .ok [h a] t' ∧ TY.wipe t' own = TY.wipe τ own) (hl : L.length ≤ line) :
    lcEnd own (compL own f (L.map g) [] τ) = .ok (.tmp (.l (L.map h))) (TY.wipe τ own) := by
  have e : L.flatMap (fun a => [h a]) = L.map h := by
    clear hf hl
    induction L with
    | nil => rfl
    | cons a L ih => simp [ih]
  rw [← e]
  exact lc_flat hf (by rw [e, List.length_map]; exact hl)
theorem lc_if {p : α → Bool} {h : α → D} (hf : ∀ a ∈ L, ∃ t', f (g a) (TY.wipe τ own) = .ok (if p a then [h a] else []) t' ∧ TY.wipe t' own = TY.wipe τ own) (hl : L.length ≤ line) :
    lcEnd own (compL own f (L.map g) [] τ) = .ok (.tmp (.l ((L.filter p).map h))) (TY.wipe τ own) := by
  have e : L.flatMap (fun a => if p a then [h a] else []) = (L.filter p).map h := by
    clear hf hl
    induction L with
    | nil => rfl
    | cons a L ih => cases q : p a <;> simp [q, ih]
  rw [← e]
  refine lc_flat hf ?_
  rw [e, List.length_map]
  exact Nat.le_trans (List.length_filter_le _ _) hl
end
theorem store_n {i : Nat} {d : D} {t : Tau} : store 0 (.n i) d t = if i < t.length then some (t.set i (some (.v d))) else none := by
  simp [store]
theorem store_n1 {i : Nat} {d : D} {t : Tau} : store 1 (.n i) d t = if 1 ≤ i ∧ i < t.length then some (t.set i (some (.v d))) else none := by
  simp [store]
theorem seqOf_str {s : List Nat} : seqOf (.str s) = some (s.map fun c => .str [c]) := rfl
theorem seqOf_tup {s : List D} : seqOf (.tup s) = some s := rfl
theorem seqOf_lst {s : List D} : seqOf (.lst s) = some s := rfl
theorem isIn_ch {c : Nat} {s : List Nat} : isIn (.str [c]) (.str s) = some (s.elem c) := rfl
theorem allB_map {α : Type} (L : List α) (p : α → Bool) : allB (L.map fun a => D.bl (p a)) = some (L.map p) := by
  induction L with
  | nil => rfl
  | cons a L ih => simp [allB, ih]
theorem allI_map {α : Type} (L : List α) (p : α → Int) : allI (L.map fun a => D.int (p a)) = some (L.map p) := by
  induction L with
  | nil => rfl
  | cons a L ih => simp [allI, ih]
theorem allS_map {α : Type} (L : List α) (p : α → List Nat) : allS (L.map fun a => D.str (p a)) = some (L.map p) := by
  induction L with
  | nil => rfl
  | cons a L ih => simp [allS, ih]
theorem joinL_nil : ∀ (l : List Nat), joinL [] (l.map fun c => [c]) = l
  | [] => rfl
  | [_] => rfl
  | a :: b :: r => by
    have := joinL_nil (b :: r)
    rw [List.map_cons] at this
    rw [List.map_cons, List.map_cons, joinL, this]
    rfl
theorem met_join_ch {L : List Nat} (h : L.length ≤ line) : met .join [] [.lst (L.map fun c => .str [c])] = some (.val (.str L)) := by
  have e : (L.map fun c => D.str [c]) = L.map fun c => D.str ((fun c => [c]) c) := rfl
  have e2 : ((L.map fun c => [c]).map fun x => x.length).sum = L.length := by
    clear h e
    induction L with
    | nil => rfl
    | cons a L ih => simp only [List.map_cons, List.sum_cons, List.length_cons, List.length_nil, ih]; omega
  simp only [met]
  rw [e, allS_map]
  simp only [obind_some]
  rw [if_pos (by rw [e2]; simpa using h), joinL_nil]
theorem met_low {s : List Nat} (h : ascii s = true) (h2 : s.length ≤ 1000) : met .lower s [] = some (.val (.str (s.map lowC))) := by
  simp only [met]
  rw [h]; simp [h2]
theorem met_upp {s : List Nat} (h : ascii s = true) (h2 : s.length ≤ 1000) : met .upper s [] = some (.val (.str (s.map uppC))) := by
  simp only [met]
  rw [h]; simp [h2]
theorem le1 : (1 ≤ line) = True := eq_true (by decide)
theorem le2 : (2 ≤ line) = True := eq_true (by decide)
theorem le3 : (3 ≤ line) = True := eq_true (by decide)
theorem le4 : (4 ≤ line) = True := eq_true (by decide)
theorem le5 : (5 ≤ line) = True := eq_true (by decide)
/-! ### sheets: tuples of texts -/
theorem ixN_nat {n j : Nat} (h : j < n) : ixN n (j : Int) = some j := by
  unfold ixN
  rw [if_pos (by omega), if_pos (by omega)]
  rfl
theorem item_map {α : Type} {g : α → D} {cs : List α} {j : Nat} (h : j < cs.length) : item (.tup (cs.map g)) (.int j) = some (g cs[j]) := by
  simp only [item]
  rw [ixN_nat (by simpa using h)]
  simp [h]
theorem cut_take {α : Type} {cs : List α} {j : Nat} : cut cs none (some (j : Int)) = cs.take j := by
  simp only [cut, sIx]
  rw [if_pos (by omega)]
  simp only [List.drop_zero, Nat.sub_zero, Int.toNat_natCast]
  by_cases h : j ≤ cs.length
  · rw [Nat.min_eq_left h]
  · rw [Nat.min_eq_right (by omega), List.take_length, List.take_of_length_le (by omega)]
theorem cut_drop {α : Type} {cs : List α} {j : Nat} : cut cs (some (j : Int)) none = cs.drop j := by
  simp only [cut, sIx]
  rw [if_pos (by omega)]
  simp only [Int.toNat_natCast]
  by_cases h : j ≤ cs.length
  · rw [Nat.min_eq_left h, List.take_of_length_le (by simp)]
  · rw [Nat.min_eq_right (by omega), List.drop_eq_nil_of_le (Nat.le_refl _), List.drop_eq_nil_of_le (by omega)]
    simp
theorem setO_0v {i : Nat} {d : D} {t : Tau} : setO 0 i (.val d) t = if i < t.length then .ok () (t.set i (some (.v d))) else .no := by simp [setO, frz, Out.bind]
theorem setO_0t {i : Nat} {m : Mu} {t : Tau} : setO 0 i (.tmp m) t = if i < t.length then .ok () (t.set i (some (.o m))) else .no := by simp [setO]
theorem setO_1v {i : Nat} {d : D} {t : Tau} : setO 1 i (.val d) t = if 1 ≤ i ∧ i < t.length then .ok () (t.set i (some (.v d))) else .no := by simp [setO, frz, Out.bind]
theorem setO_1t {i : Nat} {m : Mu} {t : Tau} : setO 1 i (.tmp m) t = if 1 ≤ i ∧ i < t.length then .ok () (t.set i (some (.o m))) else .no := by simp [setO]
theorem set_map {α : Type} {g : α → D} {cs : List α} {j : Nat} {x : α} (h : j < cs.length) : (cs.map g).take j ++ [g x] ++ (cs.map g).drop (j + 1) = (cs.set j x).map g := by
  rw [List.set_eq_take_append_cons_drop, if_pos h]
  simp [List.map_take, List.map_drop]
section
variable {lo : Nat} {x : T} {xs : List T} {d : D} {ds : List D} {t : Tau}
theorem store_t : store lo (.t xs) (.tup ds) t = stores lo xs ds t := rfl
theorem stores_nil : stores lo [] [] t = some t := rfl
theorem stores_cons : stores lo (x :: xs) (d :: ds) t = (store lo x d t).bind fun t => stores lo xs ds t := rfl
end
theorem eqvs_map {α : Type} [DecidableEq α] {g : α → D} (hg : ∀ x y, eqv (g x) (g y) = decide (x = y)) : ∀ xs ys : List α, eqvs (xs.map g) (ys.map g) = decide (xs = ys)
  | [], [] => rfl
  | [], y :: ys => by simp [eqvs]
  | x :: xs, [] => by simp [eqvs]
  | x :: xs, y :: ys => by
    rw [List.map_cons, List.map_cons, eqvs, hg, eqvs_map hg xs ys]
    by_cases h : x = y <;> simp [h]
theorem eqv_strd (x y : List Nat) : eqv (.str x) (.str y) = decide (x = y) := by
  rw [eqv_str, Bool.eq_iff_iff]; simp
theorem okds_map {α : Type} {g : α → D} {n : Nat} (hg : ∀ x, okd n (g x) = true) : ∀ xs : List α, okds n (xs.map g) = true
  | [] => okds_nil
  | x :: xs => by rw [List.map_cons, okds_cons, hg, okds_map hg xs]; rfl
theorem rng1 {n : Nat} (h : n ≤ 1000) : rng [.int (n : Int)] = some ((List.range n).map fun (k : Nat) => .int k) := by
  have : lo62 (n : Int) = true := by unfold lo62; simp only [Bool.and_eq_true, decide_eq_true_eq]; omega
  simp only [rng, this, if_true, Int.toNat_natCast]
theorem le_line {n : Nat} (h : n ≤ 1000) : n ≤ line := Nat.le_trans h (by decide)
section
variable {i j : Int} {x y : List Nat} {xs ys : List D}
theorem addI : bop .add (.int i) (.int j) = some (.val (.int (i + j))) := rfl
theorem subI : bop .sub (.int i) (.int j) = some (.val (.int (i - j))) := rfl
theorem addS : bop .add (.str x) (.str y) = if x.length + y.length ≤ line then some (.val (.str (x ++ y))) else none := rfl
theorem addT : bop .add (.tup xs) (.tup ys) = if xs.length + ys.length ≤ line then some (.val (.tup (xs ++ ys))) else none := rfl
theorem addL : bop .add (.lst xs) (.lst ys) = if xs.length + ys.length ≤ line then some (.tmp (.l (xs ++ ys))) else none := rfl
theorem mulI : bop .mul (.int i) (.int j) = if i.natAbs < big ∧ j.natAbs < big then some (.val (.int (i * j))) else none := rfl
theorem mulT : bop .mul (.tup xs) (.int j) = if 2 ≤ j ∧ j ≤ 1000 ∧ xs.length ≤ 1000 ∧ xs ≠ [] then some (.val (.tup (rep j.toNat xs))) else none := rfl
theorem mulL : bop .mul (.lst xs) (.int j) = if 0 ≤ j ∧ j ≤ 1000 ∧ xs.length ≤ 1000 then some (.tmp (.l (rep j.toNat xs))) else none := rfl
theorem fdivI : bop .fdiv (.int i) (.int j) = if 0 < j ∧ j.natAbs < big then some (.val (.int (i / j))) else none := rfl
theorem modI : bop .mod (.int i) (.int j) = if 0 < j then some (.val (.int (i % j))) else none := rfl
theorem powI : bop .pow (.int i) (.int j) = if 0 ≤ j ∧ j ≤ 1000 ∧ i.natAbs < 2 ^ 63 then some (.val (.int (i ^ j.toNat))) else none := rfl
theorem slcT {lo hi : Option Int} : slice (.tup xs) lo hi = some (.val (.tup (cut xs lo hi))) := rfl
theorem slcL {lo hi : Option Int} : slice (.lst xs) lo hi = some (.tmp (.l (cut xs lo hi))) := rfl
theorem slcS {lo hi : Option Int} : slice (.str x) lo hi = if x.length ≤ line then some (.val (.str (cut x lo hi))) else none := rfl
end
end TY
/-! PM: loops that keep a thing, comprehensions that keep a thing. -/
namespace TY
theorem forL_inv {f : D → Tau → Out Fl} {P : Tau → Prop} {Q : Rs → Tau → Prop} : ∀ {ds : List D} {t : Tau}, (∀ d ∈ ds, ∀ t, P t → (∃ t', f d t = .ok .nx t' ∧ P t') ∨ (∃ r t', f d t = .ok (.ret r) t' ∧ Q r t')) → P t →
    (∃ t', forL f ds t = .ok none t' ∧ P t') ∨ (∃ r t', forL f ds t = .ok (some r) t' ∧ Q r t')
  | [], t, _, h => .inl ⟨t, rfl, h⟩
  | d :: ds, t, hf, h => by
    rw [forL]
    rcases hf d List.mem_cons_self t h with ⟨t', e, h'⟩ | ⟨r, t', e, h'⟩
    · rw [e, bind_ok]
      exact forL_inv (fun d' hd => hf d' (List.mem_cons_of_mem _ hd)) h'
    · rw [e, bind_ok]
      exact .inr ⟨r, t', rfl, h'⟩
/-- it runs through -/
theorem forL_all {f : D → Tau → Out Fl} {P : Tau → Prop} {ds : List D} {t : Tau} (hf : ∀ d ∈ ds, ∀ t, P t → ∃ t', f d t = .ok .nx t' ∧ P t') (h : P t) : ∃ t', forL f ds t = .ok none t' ∧ P t' := by
  rcases forL_inv (Q := fun _ _ => False) (fun d hd t h => .inl (hf d hd t h)) h with h | ⟨_, _, _, h⟩
  · exact h
  · exact h.elim
theorem compL_inv {own : List Nat} {f : D → Tau → Out (List D)} {P : Tau → Prop} {Q : D → Prop} : ∀ {ds acc : List D} {t : Tau}, (∀ d ∈ ds, ∀ t, P t → ∃ l t', f d (TY.wipe t own) = .ok l t' ∧ l.length ≤ 1 ∧ (∀ e ∈ l, Q e) ∧ P t') → P t → (∀ e ∈ acc, Q e) → acc.length + ds.length ≤ line →
    ∃ l t', compL own f ds acc t = .ok l t' ∧ l.length ≤ acc.length + ds.length ∧ (∀ e ∈ l, Q e) ∧ P t'
  | [], acc, t, _, h, ha, _ => ⟨acc, t, rfl, Nat.le_refl _, ha, h⟩
  | d :: ds, acc, t, hf, h, ha, hl => by
    obtain ⟨l, t1, e, l1, q, h1⟩ := hf d List.mem_cons_self t h
    rw [List.length_cons] at hl
    obtain ⟨l', t2, e2, l2, q2, h2⟩ := compL_inv (acc := acc ++ l) (fun d' hd => hf d' (List.mem_cons_of_mem _ hd)) h1 (fun x hx => (List.mem_append.mp hx).elim (ha x) (q x)) (by rw [List.length_append]; omega)
    refine ⟨l', t2, ?_, ?_, q2, h2⟩
    · unfold compL
      rw [e]
      simp only
      rw [if_pos (by omega), e2]
    · rw [List.length_append] at l2
      rw [List.length_cons]
      omega
/-- the inner of two comprehensions -/
theorem comp_in {α : Type} {own : List Nat} {f : D → Tau → Out (List D)} {L : List α} {g h : α → D} {τ : Tau} (hf : ∀ a ∈ L, ∃ t', f (g a) (TY.wipe τ own) = .ok [h a] t' ∧ TY.wipe t' own = TY.wipe τ own) (hl : L.length ≤ line) :
    ∃ t', compL own f (L.map g) [] τ = .ok (L.map h) t' ∧ TY.wipe t' own = TY.wipe τ own := by
  have key : ∀ (L : List α) (acc : List D) (τ' : Tau), (∀ a ∈ L, ∃ t', f (g a) (TY.wipe τ own) = .ok [h a] t' ∧ TY.wipe t' own = TY.wipe τ own) → TY.wipe τ' own = TY.wipe τ own → acc.length + L.length ≤ line →
      ∃ t', compL own f (L.map g) acc τ' = .ok (acc ++ L.map h) t' ∧ TY.wipe t' own = TY.wipe τ own := by
    intro L
    induction L with
    | nil => intro acc τ' _ hw _; exact ⟨τ', by simp [compL], hw⟩
    | cons a L ih =>
      intro acc τ' hf hw hl
      obtain ⟨t1, e1, w1⟩ := hf a List.mem_cons_self
      rw [List.length_cons] at hl
      obtain ⟨t', e, w⟩ := ih (acc ++ [h a]) t1 (fun b hb => hf b (List.mem_cons_of_mem _ hb)) w1 (by rw [List.length_append, List.length_singleton]; omega)
      refine ⟨t', ?_, w⟩
      rw [List.map_cons]
      unfold compL
      rw [hw, e1]
      simp only
      rw [if_pos (by rw [List.length_singleton]; omega), e]
      simp
  simpa using key L [] τ hf rfl (by simpa using hl)
/-- the first turn that tells another thing -/
def fdiff {β : Type} [DecidableEq β] (n : Nat) : List β → List β → Option Nat
  | x :: xs, y :: ys => if x = y then fdiff (n + 1) xs ys else some n
  | _, _ => none
theorem fdiff_none {β : Type} [DecidableEq β] : ∀ {n : Nat} {xs ys : List β}, xs.length = ys.length → (fdiff n xs ys = none ↔ xs = ys)
  | n, [], [], _ => by simp [fdiff]
  | n, [], y :: ys, h => by simp at h
  | n, x :: xs, [], h => by simp at h
  | n, x :: xs, y :: ys, h => by
    unfold fdiff
    split
    · rename_i e
      rw [fdiff_none (by simpa using h), e]
      simp
    · rename_i e
      simp [e]
theorem fdiff_some {β : Type} [DecidableEq β] : ∀ {n j : Nat} {xs ys : List β}, fdiff n xs ys = some j → ∃ i, j = n + i ∧ i < xs.length ∧ i < ys.length ∧ xs[i]? ≠ ys[i]? ∧ ∀ k, k < i → xs[k]? = ys[k]?
  | n, j, [], ys, h => by simp [fdiff] at h
  | n, j, x :: xs, [], h => by simp [fdiff] at h
  | n, j, x :: xs, y :: ys, h => by
    unfold fdiff at h
    split at h
    · rename_i e
      obtain ⟨i, e1, h1, h2, h3, h4⟩ := fdiff_some h
      refine ⟨i + 1, by omega, by simp; omega, by simp; omega, by simpa using h3, fun k hk => ?_⟩
      cases k with
      | zero => simp [e]
      | succ k => simpa using h4 k (by omega)
    · rename_i e
      cases h
      exact ⟨0, rfl, by simp, by simp, by simpa using e, fun k hk => by omega⟩
def frzS (i : Nat) (t : Tau) : Option SV → Out D
  | some (.v d) => .ok d t
  | some (.o m) => .ok m.d (t.set i (some (.v m.d)))
  | none => .no
theorem frz_slot {i : Nat} {t : Tau} : frz (.slot i) t = frzS i t (getS t i) := by
  simp only [frz]
  cases getS t i with
  | none => rfl
  | some s => cases s <;> rfl
theorem frzS_v {i : Nat} {t : Tau} {d : D} : frzS i t (some (.v d)) = .ok d t := rfl
theorem frzS_o {i : Nat} {t : Tau} {xs : List D} : frzS i t (some (.o (.l xs))) = .ok (.lst xs) (t.set i (some (.v (.lst xs)))) := rfl
def derS : Option SV → Option D
  | some (.v d) => some d
  | some (.o (.l xs)) => some (.lst xs)
  | some (.o (.k xs)) => some (.dk xs)
  | some (.o (.n xs)) => some (.dn xs)
  | _ => none
theorem der_slot {i : Nat} {t : Tau} : der t (.slot i) = derS (getS t i) := by
  simp only [der]
  cases getS t i with
  | none => rfl
  | some s => cases s with
    | v d => rfl
    | o m => cases m <;> rfl
theorem derS_v {d : D} : derS (some (.v d)) = some d := rfl
theorem derS_l {xs : List D} : derS (some (.o (.l xs))) = some (.lst xs) := rfl
theorem derS_n {xs : List (D × D)} : derS (some (.o (.n xs))) = some (.dn xs) := rfl
theorem derS_k {xs : List (D × D)} : derS (some (.o (.k xs))) = some (.dk xs) := rfl
end TY
/-! PN: the evaluator, one step at a time: only what comes first is evaluated. -/
namespace TY
inductive Tk' {γ : Type} (x : γ) : Type where
  | mk
/-- as bind; what follows is not looked into -/
def Out.bd {α β : Type} (m : Out α) (f : α → Tau → Out β) (w : Tk' f := .mk) : Out β := m.bind f
section
variable {α β : Type} {a : α} {t : Tau} {x : Ex} {f : α → Tau → Out β} {w : Tk' f} {c : Prop} [Decidable c]
theorem bd_ok : (Out.ok a t).bd f w = f a t := rfl
theorem bd_ex : (Out.ex x t : Out α).bd f w = .ex x t := rfl
theorem bd_no : (Out.no : Out α).bd f w = .no := rfl
theorem bd_ite {m n : Out α} : (if c then m else n).bd f w = if c then m.bd f w else n.bd f w := by split <;> rfl
end
/-- what follows a statement -/
def cont (G : Glob) (cf : CallF) (wf : Nat) (io : Bool) (ss : List S) : Fl → Tau → Out Fl := fun fl t => match fl with
  | .nx => exss G cf wf io ss t
  | fl => .ok fl t
/-- a turn of a loop -/
def trn (G : Glob) (cf : CallF) (wf : Nat) (io : Bool) (tg : T) (b : List S) (d : D) (t : Tau) : Out Fl := (lift (store io.toNat tg d t) t).bd fun t' _ => exss G cf wf io b t'
def wtst (G : Glob) (cf : CallF) (c : E) (t : Tau) : Out Bool := (ev G cf c t).bind asB
def wtrn (G : Glob) (cf : CallF) (wf : Nat) (io : Bool) (b : List S) (t : Tau) : Out Fl := exss G cf wf io b t
/-- a turn of a comprehension -/
def lct (G : Glob) (cf : CallF) (el : E) (tg : T) (cs : List E) (d : D) (t : Tau) : Out (List D) := (lift (store 0 tg d t) t).bd fun t' _ => (evc G cf cs t').bd fun b t => if b then (ev G cf el t).bd fun x t => (frz x t).bd fun x t => .ok [x] t else .ok [] t
def lclt (G : Glob) (cf : CallF) (el : E) (tg : T) (cs : List E) (d : D) (t : Tau) : Out (List (List D)) := (lift (store 0 tg d t) t).bd fun t' _ => (evc G cf cs t').bd fun b t => if b then (ev G cf el t).bd fun x t => match x with
      | .tmp (.l xs) => .ok [xs] t
      | _ => .no else .ok [] t
def lc2t (G : Glob) (cf : CallF) (el : E) (tg : T) (cs : List E) (tg1 : T) (it1 : I) (cs1 : List E) (own1 : List Nat) (d : D) (t : Tau) : Out (List D) := (lift (store 0 tg d t) t).bd fun t' _ => (evc G cf cs t').bd fun b t => if b then (evi G cf it1 t).bd fun es t =>
      compL own1 (lct G cf el tg1 cs1) es [] t else .ok [] t
def dct (G : Glob) (cf : CallF) (k v : E) (tg : T) (cs : List E) (d : D) (t : Tau) : Out (List (D × D)) := (lift (store 0 tg d t) t).bd fun t' _ => (evc G cf cs t').bd fun b t => if b then (ev G cf k t).bd fun x t => (frz x t).bd fun x t => (ev G cf v t).bd fun y t => (frz y t).bd fun y t =>
      if okKey x then .ok [(x, y)] t else .no else .ok [] t
def kvm (kvs : List (D × D)) : List (D × D) := kvs.foldl (fun r p => putD p.1 p.2 r) []
section
variable {G : Glob} {cf : CallF} {wf : Nat} {io : Bool} {t : Tau} {a b c : E} {es : List E} {s : S} {ss s1 s2 : List S} {i f : Nat} {tg tg1 : T} {it it1 : I} {cs cs1 : List E} {own own1 : List Nat} {ds : List D}
theorem exss_nil : exss G cf wf io [] t = .ok .nx t := rfl
theorem exss_cons : exss G cf wf io (s :: ss) t = (exs G cf wf io s t).bind (cont G cf wf io ss) := rfl
theorem cont_nx : cont G cf wf io ss .nx t = exss G cf wf io ss t := rfl
theorem cont_brk : cont G cf wf io ss .brk t = .ok .brk t := rfl
theorem cont_ret {r : Rs} : cont G cf wf io ss (.ret r) t = .ok (.ret r) t := rfl
theorem x_set : exs G cf wf io (.set i a) t = (ev G cf a t).bd fun x t => (setO io.toNat i x t).bd fun _ t => .ok .nx t := rfl
theorem x_unp : exs G cf wf io (.unp tg a) t = (ev G cf a t).bd fun x t => (frz x t).bd fun d t => (lift (store io.toNat tg d t) t).bd fun t' _ => .ok .nx t' := rfl
theorem x_par {ies : List (Nat × E)} : exs G cf wf io (.par ies) t = (evpar G cf ies t).bd fun l t => (setOs io.toNat l t).bd fun _ t => .ok .nx t := rfl
theorem x_seti {k v : E} : exs G cf wf io (.seti i k v) t = (ev G cf v t).bd fun x t => (frz x t).bd fun v t => if (getM t i).isSome then (ev G cf k t).bd fun y t => (frz y t).bd fun k t => (setM i k v t).bd fun _ t => .ok .nx t else .no := rfl
theorem x_app : exs G cf wf io (.app i a) t = if ownL t i then (ev G cf a t).bd fun x t => (frz x t).bd fun d t => (appM i d t).bd fun _ t => .ok .nx t else .no := rfl
theorem x_ext : exs G cf wf io (.ext i a) t = if ownL t i then (ev G cf a t).bd fun x t => (frz x t).bd fun d t => (extM i d t).bd fun _ t => .ok .nx t else .no := rfl
theorem x_ex : exs G cf wf io (.ex a) t = (ev G cf a t).bd fun _ t => .ok .nx t := rfl
theorem x_if : exs G cf wf io (.if_ c s1 s2) t = (ev G cf c t).bd fun x t => (asB x t).bd fun r t => if r then exss G cf wf io s1 t else exss G cf wf io s2 t := rfl
theorem x_for : exs G cf wf io (.for_ tg it s1) t = (evi G cf it t).bd fun ds t => (forL (trn G cf wf io tg s1) ds t).bd fun o t => .ok (fl1 o) t := rfl
theorem x_while : exs G cf wf io (.while_ c s1) t = (whileL (wtst G cf c) (wtrn G cf wf io s1) wf t).bd fun o t => .ok (fl1 o) t := rfl
theorem x_brk : exs G cf wf io .brk t = .ok .brk t := rfl
theorem x_ret : exs G cf wf io (.ret a) t = (ev G cf a t).bd fun x t => retO io x t := rfl
theorem x_retn : exs G cf wf io .retn t = .ok (.ret (.val .non)) t := rfl
theorem x_raise : exs G cf wf io (.raise i es) t = (evs G cf es t).bd fun ds t => raiseX i ds t := rfl
theorem raise0 : raiseX i [] t = .ex ⟨i, none⟩ t := rfl
theorem raise1 {n : Int} : raiseX i [.int n] t = .ex ⟨i, some n⟩ t := rfl
theorem par_nil : evpar G cf [] t = .ok [] t := rfl
def parOp (x : Op) (t : Tau) : Out Op := match x with
  | .tmp m => .ok (.tmp m) t
  | x => (frz x t).bd fun d t => .ok (.val d) t
theorem par_cons {r : List (Nat × E)} : evpar G cf ((i, a) :: r) t = (ev G cf a t).bd fun x t => (parOp x t).bd fun x t => (evpar G cf r t).bd fun l t => .ok ((i, x) :: l) t := rfl
theorem parOp_tmp {m : Mu} : parOp (.tmp m) t = .ok (.tmp m) t := rfl
theorem parOp_val {d : D} : parOp (.val d) t = .ok (.val d) t := rfl
theorem parOp_slot : parOp (.slot i) t = (frz (.slot i) t).bd fun d t => .ok (.val d) t := rfl
theorem setOs_nil {lo : Nat} : setOs lo [] t = .ok () t := rfl
theorem setOs_cons {lo : Nat} {x : Op} {r : List (Nat × Op)} : setOs lo ((i, x) :: r) t = (setO lo i x t).bd fun _ t => setOs lo r t := rfl
theorem setO_0s {j : Nat} : setO 0 i (.slot j) t = if i < t.length then (frz (.slot j) t).bd fun d t => .ok () (t.set i (some (.v d))) else .no := by unfold Out.bd; simp [setO]
theorem setO_1s {j : Nat} : setO 1 i (.slot j) t = if 1 ≤ i ∧ i < t.length then (frz (.slot j) t).bd fun d t => .ok () (t.set i (some (.v d))) else .no := by unfold Out.bd; simp [setO]
/-! expressions -/
def evl (i : Nat) (t : Tau) : Option SV → Out Op
  | some (.v d) => .ok (.val d) t
  | some (.o _) => .ok (.slot i) t
  | none => .no
theorem v_loc : ev G cf (.loc i) t = evl i t (getS t i) := by
  simp only [ev]
  cases getS t i with
  | none => rfl
  | some s => cases s <;> rfl
theorem evl_v {d : D} : evl i t (some (.v d)) = .ok (.val d) t := rfl
theorem evl_o {m : Mu} : evl i t (some (.o m)) = .ok (.slot i) t := rfl
theorem v_c {d : D} : ev G cf (.c d) t = .ok (.val d) t := rfl
theorem v_gl {g : Nat} : ev G cf (.gl g) t = lift ((G.gl g).map .val) t := rfl
theorem v_fnv : ev G cf (.fnv f) t = .ok (.val (.fn f)) t := rfl
theorem v_bop {o : BO} : ev G cf (.bop o a b) t = (ev G cf a t).bd fun x t => (hold x t).bd fun x t => (ev G cf b t).bd fun y t => lift ((der t x).bind fun x => (der t y).bind fun y => TY.bop o x y) t := rfl
theorem v_cop {o : CO} : ev G cf (.cop o a b) t = (ev G cf a t).bd fun x t => (hold x t).bd fun x t => (ev G cf b t).bd fun y t => lift ((der t x).bind fun x => (der t y).bind fun y => (TY.cop o x y).map fun r => .val (.bl r)) t := rfl
theorem v_chn {o1 o2 : CO} : ev G cf (.chn o1 o2 a b c) t = (ev G cf a t).bd fun x t => (hold x t).bd fun x t => (ev G cf b t).bd fun y t => (hold y t).bd fun y t => (lift ((der t x).bind fun x => (der t y).bind fun y => TY.cop o1 x y) t).bd fun r t =>
      if r then (ev G cf c t).bd fun z t => lift ((der t y).bind fun y => (der t z).bind fun z => (TY.cop o2 y z).map fun r => .val (.bl r)) t else .ok (.val (.bl false)) t := rfl
theorem v_and : ev G cf (.and a b) t = (ev G cf a t).bd fun x t => (asB x t).bd fun r t => if r then ev G cf b t else .ok (.val (.bl false)) t := rfl
theorem v_or : ev G cf (.or a b) t = (ev G cf a t).bd fun x t => (asB x t).bd fun r t => if r then .ok (.val (.bl true)) t else ev G cf b t := rfl
theorem v_not : ev G cf (.not a) t = (ev G cf a t).bd fun x t => (asB x t).bd fun r t => .ok (.val (.bl (!r))) t := rfl
theorem v_neg : ev G cf (.neg a) t = (ev G cf a t).bd fun x t => (asI x t).bd fun r t => .ok (.val (.int (-r))) t := rfl
theorem v_ite : ev G cf (.ite c a b) t = (ev G cf c t).bd fun x t => (asB x t).bd fun r t => if r then ev G cf a t else ev G cf b t := rfl
def idxO (x y : Op) (t : Tau) : Out Op := match x, y with
      | .slot i, .val (.int j) => match getS t i with
        | some (.o (.ll xss)) => lift ((ixN xss.length j).map fun j => .sub i j) t
        | _ => lift ((der t x).bind fun d => (item d (.int j)).map .val) t
      | _, _ => lift ((der t x).bind fun x => (der t y).bind fun y => (item x y).map .val) t
theorem v_idx : ev G cf (.idx a b) t = (ev G cf a t).bd fun x t => (hold x t).bd fun x t => (ev G cf b t).bd fun y t => idxO x y t := rfl
theorem idxO_v {d e : D} : idxO (.val d) (.val e) t = lift ((item d e).map .val) t := rfl
theorem idxO_t {m : Mu} {e : D} : idxO (.tmp m) (.val e) t = lift ((der t (.tmp m)).bind fun x => (item x e).map .val) t := rfl
def idxS (i : Nat) (j : Int) (t : Tau) : Option SV → Out Op
  | some (.o (.ll xss)) => lift ((ixN xss.length j).map fun j => .sub i j) t
  | some (.v d) => lift ((item d (.int j)).map .val) t
  | some (.o (.l xs)) => lift ((item (.lst xs) (.int j)).map .val) t
  | _ => .no
theorem idxO_s {j : Int} : idxO (.slot i) (.val (.int j)) t = idxS i j t (getS t i) := by
  unfold idxO
  simp only [der]
  cases getS t i with
  | none => rfl
  | some s => cases s with
    | v d => rfl
    | o m => cases m <;> rfl
theorem idxS_v {d : D} {j : Int} : idxS i j t (some (.v d)) = lift ((item d (.int j)).map .val) t := rfl
theorem idxS_l {xs : List D} {j : Int} : idxS i j t (some (.o (.l xs))) = lift ((item (.lst xs) (.int j)).map .val) t := rfl
theorem idxS_ll {xss : List (List D)} {j : Int} : idxS i j t (some (.o (.ll xss))) = lift ((ixN xss.length j).map fun j => .sub i j) t := rfl
theorem v_slc {lo hi : Option E} : ev G cf (.slc a lo hi) t = (ev G cf a t).bd fun x t => (hold x t).bd fun x t => (evo G cf lo t).bd fun l t => (evo G cf hi t).bd fun h t => lift ((der t x).bind fun x => TY.slice x l h) t := rfl
theorem o_none : evo G cf none t = .ok none t := rfl
theorem o_some : evo G cf (some a) t = (ev G cf a t).bd fun x t => (asI x t).bd fun i t => .ok (some i) t := rfl
theorem v_rev : ev G cf (.rev a) t = (ev G cf a t).bd fun x t => lift ((der t x).bind TY.rev) t := rfl
theorem v_tup : ev G cf (.tup es) t = (evs G cf es t).bd fun ds t => if ds.length ≤ line then .ok (.val (.tup ds)) t else .no := rfl
theorem v_lst : ev G cf (.lst es) t = (evs G cf es t).bd fun ds t => if ds.length ≤ line then .ok (.tmp (.l ds)) t else .no := rfl
theorem v_dk {kvs : List (E × E)} : ev G cf (.dk kvs) t = (evkv G cf kvs t).bd fun ps t => if ps.length ≤ 15 then lift ((kvD isStr ps).map fun l => .tmp (.k (kvm l))) t else .no := rfl
theorem v_dn {kvs : List (E × E)} : ev G cf (.dn kvs) t = (evkv G cf kvs t).bd fun ps t => if ps.length ≤ 15 then lift ((kvD okKey ps).map fun l => .tmp (.n (kvm l))) t else .no := rfl
theorem kv_nil : evkv G cf [] t = .ok [] t := rfl
theorem kv_cons {r : List (E × E)} : evkv G cf ((a, b) :: r) t = ((ev G cf a t).bd fun x t => (frz x t).bd fun x t => (ev G cf b t).bd fun y t => (frz y t).bd fun y t => .ok (x, y) t).bd fun kv t => (evkv G cf r t).bd fun l t => .ok (kv :: l) t := rfl
theorem v_call : ev G cf (.call f es) t = (evs G cf es t).bd fun ds t => doCall cf f ds t := rfl
theorem v_calli : ev G cf (.calli f i es) t = if (getM t i).isSome then (evs G cf es t).bd fun ds t => doCallI cf f i ds t else .no := rfl
def cvS (cf : CallF) (ds : List D) (t : Tau) : Option SV → Out Op
  | some (.v (.fn f)) => doCall cf f ds t
  | _ => .no
theorem v_callv : ev G cf (.callv i es) t = match getS t i with
    | some (.v (.fn f)) => (evs G cf es t).bd fun ds t => doCall cf f ds t
    | _ => .no := rfl
theorem v_blt {o : Blt} : ev G cf (.blt o es) t = (evos G cf es t).bd fun xs t => lift ((xs.mapM (der t)).bind (TY.blt o)) t := rfl
theorem v_met {m : Met} : ev G cf (.met m a es) t = (ev G cf a t).bd fun x t => (hold x t).bd fun x t => (lift ((der t x).bind asS) t).bd fun s t => (evs G cf es t).bd fun ds t => lift (TY.met m s ds) t := rfl
theorem v_get : ev G cf (.get a b) t = (ev G cf a t).bd fun x t => (hold x t).bd fun x t => (lift ((der t x).bind isDic) t).bd fun _ t => (ev G cf b t).bd fun y t => (frz y t).bd fun k t => lift ((der t x).bind fun d => (getD' d k .non).map .val) t := rfl
theorem v_get2 : ev G cf (.get2 a b c) t = (ev G cf a t).bd fun x t => (hold x t).bd fun x t => (lift ((der t x).bind isDic) t).bd fun _ t => (ev G cf b t).bd fun y t => (frz y t).bd fun k t => (ev G cf c t).bd fun z t => (frz z t).bd fun e t => lift ((der t x).bind fun d => (getD' d k e).map .val) t := rfl
theorem v_pop : ev G cf (.pop i) t = popL i t := rfl
theorem v_isi {ts : List Ty} : ev G cf (.isi a ts) t = (ev G cf a t).bd fun x t => lift ((der t x).bind fun x => (isTs ts x).map fun r => .val (.bl r)) t := rfl
theorem v_lrng : ev G cf (.lrng es) t = (evs G cf es t).bd fun ds t => lift ((rng ds).map fun l => .tmp (.l l)) t := rfl
theorem v_lc : ev G cf (.lc a tg it cs own) t = (evi G cf it t).bd fun ds t => lcEnd own (compL own (lct G cf a tg cs) ds [] t) := rfl
theorem v_lcl : ev G cf (.lcl a tg it cs own) t = (evi G cf it t).bd fun ds t => (compL own (lclt G cf a tg cs) ds [] t).bd fun l t => .ok (.tmp (.ll l)) (wipe t own) := rfl
theorem v_lc2 : ev G cf (.lc2 a tg it cs tg1 it1 cs1 own own1) t = (evi G cf it t).bd fun ds t => lcEnd own (compL own (lc2t G cf a tg cs tg1 it1 cs1 own1) ds [] t) := rfl
theorem v_dc : ev G cf (.dc a b tg it cs own) t = (evi G cf it t).bd fun ds t => (compL own (dct G cf a b tg cs) ds [] t).bd fun l t => .ok (.tmp (.n (kvm l))) (wipe t own) := rfl
def catchO (G : Glob) : Out D → Out Op
  | .ok d t => .ok (.val (.tup [.str [116, 111, 108, 100], d])) t
  | .ex x t => lift ((G.kinds x).map fun l => .val (.tup l)) t
  | .no => .no
theorem v_catch : ev G cf (.catch_ a) t = catchO G ((ev G cf a t).bind frz) := by
  simp only [ev]
  cases (ev G cf a t).bind frz <;> rfl
theorem catch_ok {d : D} : catchO G (.ok d t) = .ok (.val (.tup [.str [116, 111, 108, 100], d])) t := rfl
theorem catch_ex {x : Ex} : catchO G (.ex x t) = lift ((G.kinds x).map fun l => .val (.tup l)) t := rfl
theorem s_nil' : evs G cf [] t = .ok [] t := rfl
theorem s_cons' : evs G cf (a :: es) t = (ev G cf a t).bd fun x t => (frz x t).bd fun d t => (evs G cf es t).bd fun ds t => .ok (d :: ds) t := rfl
theorem os_nil : evos G cf [] t = .ok [] t := rfl
theorem os_cons : evos G cf (a :: es) t = (ev G cf a t).bd fun x t => (hold x t).bd fun x t => (evos G cf es t).bd fun xs t => .ok (x :: xs) t := rfl
theorem c_nil' : evc G cf [] t = .ok true t := rfl
theorem c_cons' : evc G cf (a :: es) t = (ev G cf a t).bd fun x t => (asB x t).bd fun b t => if b then evc G cf es t else .ok false t := rfl
theorem i_seq' : evi G cf (.seq a) t = (ev G cf a t).bd fun x t => (frz x t).bd fun d t => lift (seqOf d) t := rfl
theorem i_rng' : evi G cf (.rng es) t = (evs G cf es t).bd fun ds t => lift (rng ds) t := rfl
theorem i_enum' : evi G cf (.enum a) t = (ev G cf a t).bd fun x t => (frz x t).bd fun d t => lift ((seqN d).map (enumFrom 0)) t := rfl
theorem i_zip' : evi G cf (.zip a b) t = (ev G cf a t).bd fun x t => (frz x t).bd fun d t => (ev G cf b t).bd fun y t => (frz y t).bd fun e t => lift ((seqN d).bind fun d => (seqN e).map (zipD d)) t := rfl
theorem i_enumzip' : evi G cf (.enumzip a b) t = (ev G cf a t).bd fun x t => (frz x t).bd fun d t => (ev G cf b t).bd fun y t => (frz y t).bd fun e t => lift ((lstN d).bind fun d => (lstN e).map fun e => enumFrom 0 (zipD d e)) t := rfl
def itemsD : D → Option (List D)
  | .dn kvs => some (kvs.map fun p => .tup [p.1, p.2])
  | _ => none
theorem i_items' : evi G cf (.items a) t = (ev G cf a t).bd fun x t => (frz x t).bd fun d t => lift (itemsD d) t := by
  simp only [evi]
  congr 1; funext x t; congr 1; funext d t
  cases d <;> rfl
theorem v_sumv : ev G cf (.sumv a) t = (ev G cf a t).bd fun x t => lift ((der t x).bind fun d => (sumvD d).map fun i => .val (.int i)) t := rfl
def gMS : Option SV → Option Mu
  | some (.o m) => some m
  | _ => none
theorem getM_eq : getM t i = gMS (getS t i) := by
  unfold getM
  cases getS t i with
  | none => rfl
  | some s => cases s <;> rfl
theorem gMS_o {m : Mu} : gMS (some (.o m)) = some m := rfl
def callI (r : OutC) (i : Nat) (t : Tau) : Out Op := match r with
  | .ok r (some m') => .ok r.op (t.set i (some (.o m')))
  | _ => .no
def dcI (cf : CallF) (f i : Nat) (ds : List D) (t : Tau) : Option Mu → Out Op
  | some m => callI (cf f (some m) ds) i t
  | none => .no
theorem doCallI_eq : doCallI cf f i ds t = dcI cf f i ds t (getM t i) := by
  unfold doCallI
  cases getM t i with
  | none => rfl
  | some m =>
    simp only [dcI, callI] <;> (rcases cf f (some m) ds with ⟨r, _ | m⟩ | x | _ <;> rfl)
theorem dcI_some {m : Mu} : dcI cf f i ds t (some m) = callI (cf f (some m) ds) i t := rfl
theorem callI_ok {r : Rs} {m : Mu} : callI (.ok r (some m)) i t = .ok r.op (t.set i (some (.o m))) := rfl
def callN (r : OutC) (t : Tau) : Out Op := match r with
  | .ok r none => .ok r.op t
  | .ex x => .ex x t
  | _ => .no
theorem doCall_eq : doCall cf f ds t = callN (cf f none ds) t := rfl
theorem callN_ok {r : Rs} : callN (.ok r none) t = .ok r.op t := rfl
theorem callN_ex {x : Ex} : callN (.ex x) t = .ex x t := rfl
def retS (i : Nat) (t : Tau) : Option SV → Out Fl
  | some (.v d) => .ok (.ret (.val d)) t
  | some (.o m) => .ok (.ret (.tmp m)) (t.set i none)
  | none => .no
theorem ret_val {d : D} : retO io (.val d) t = .ok (.ret (.val d)) t := rfl
theorem ret_tmp {m : Mu} : retO io (.tmp m) t = .ok (.ret (.tmp m)) t := rfl
theorem ret_slot : retO io (.slot i) t = if io && i == 0 then .no else retS i t (getS t i) := by
  simp only [retO]
  cases getS t i with
  | none => rfl
  | some s => cases s <;> rfl
theorem retS_o {m : Mu} : retS i t (some (.o m)) = .ok (.ret (.tmp m)) (t.set i none) := rfl
def apM (i : Nat) (v : D) (t : Tau) : Option Mu → Out Unit
  | some (.l xs) => if xs.length < line then .ok () (t.set i (some (.o (.l (xs ++ [v]))))) else .no
  | _ => .no
theorem appM_eq {v : D} : appM i v t = apM i v t (getM t i) := by
  unfold appM
  cases getM t i with
  | none => rfl
  | some m => cases m <;> rfl
theorem apM_l {v : D} {xs : List D} : apM i v t (some (.l xs)) = if xs.length < line then .ok () (t.set i (some (.o (.l (xs ++ [v]))))) else .no := rfl
def exM (i : Nat) (v : D) (t : Tau) : Option Mu → Out Unit
  | some (.l xs) => match v with
    | .lst ys => if xs.length + ys.length ≤ line then .ok () (t.set i (some (.o (.l (xs ++ ys))))) else .no
    | _ => .no
  | _ => .no
theorem extM_eq {v : D} : extM i v t = exM i v t (getM t i) := by
  unfold extM
  cases getM t i with
  | none => rfl
  | some m => cases m <;> cases v <;> rfl
theorem exM_l {xs ys : List D} : exM i (.lst ys) t (some (.l xs)) = if xs.length + ys.length ≤ line then .ok () (t.set i (some (.o (.l (xs ++ ys))))) else .no := rfl
def seM (i : Nat) (k v : D) (t : Tau) : Option Mu → Out Unit
  | some (.l xs) => match k with
    | .int j => match ixN xs.length j with
      | some n => .ok () (t.set i (some (.o (.l (xs.set n v)))))
      | none => .no
    | _ => .no
  | some (.n kvs) => if okKey k ∧ kvs.length < line then .ok () (t.set i (some (.o (.n (putD k v kvs))))) else .no
  | _ => .no
theorem setM_eq {k v : D} : setM i k v t = seM i k v t (getM t i) := by
  unfold setM
  cases getM t i with
  | none => rfl
  | some m => cases m <;> cases k <;> rfl
theorem seM_n {kvs : List (D × D)} {k v : D} : seM i k v t (some (.n kvs)) = if okKey k ∧ kvs.length < line then .ok () (t.set i (some (.o (.n (putD k v kvs))))) else .no := rfl
def seN (i n : Nat) (v : D) (xs : List D) (t : Tau) : Out Unit := .ok () (t.set i (some (.o (.l (xs.set n v)))))
theorem seM_l {xs : List D} {v : D} {j : Int} : seM i (.int j) v t (some (.l xs)) = (lift (ixN xs.length j) t).bd fun n t => .ok () (t.set i (some (.o (.l (xs.set n v))))) := by
  unfold seM
  simp only
  cases ixN xs.length j <;> rfl
def owL : Option Mu → Bool
  | some (.l _) => true
  | _ => false
theorem ownL_eq : ownL t i = owL (getM t i) := by
  unfold ownL
  cases getM t i with
  | none => rfl
  | some m => cases m <;> rfl
theorem owL_l {xs : List D} : owL (some (.l xs)) = true := rfl
def enC (r : Rs) : Option Mu → OutC
  | some m => .ok r (some m)
  | none => .no
theorem endC_t {r : Rs} : endC true r t = enC r (getM t 0) := by
  unfold endC
  cases getM t 0 <;> rfl
theorem enC_s {r : Rs} {m : Mu} : enC r (some m) = .ok r (some m) := rfl
theorem fl1_none : fl1 none = .nx := rfl
theorem fl1_some {r : Rs} : fl1 (some r) = .ret r := rfl
theorem whileL_succ {c : Tau → Out Bool} {f : Tau → Out Fl} {n : Nat} : whileL c f (n + 1) t = (c t).bd fun b t => if b then (f t).bd fun fl t => match fl with
      | .nx => whileL c f n t
      | .brk => .ok none t
      | .ret r => .ok (some r) t
    else .ok none t := rfl
end
theorem item_l0 {d0 : D} {ds : List D} : item (.lst (d0 :: ds)) (.int 0) = some d0 := by simp [item, ixN]
theorem item_l1 {d0 d1 : D} {ds : List D} : item (.lst (d0 :: d1 :: ds)) (.int 1) = some d1 := by
  have h : (1 : Int) < ((d0 :: d1 :: ds).length : Nat) := by simp only [List.length_cons]; omega
  simp only [item, ixN]
  rw [if_pos (by decide), if_pos h]
  rfl
theorem ix2_0 : ixN 2 0 = some 0 := rfl
theorem ix2_1 : ixN 2 1 = some 1 := rfl
theorem exss_app {G : Glob} {cf : CallF} {wf : Nat} {io : Bool} {ys : List S} : ∀ {xs : List S} {t : Tau}, exss G cf wf io (xs ++ ys) t = (exss G cf wf io xs t).bind (cont G cf wf io ys)
  | [], t => rfl
  | x :: xs, t => by
    rw [List.cons_append, exss_cons, exss_cons]
    cases exs G cf wf io x t with
    | no => rfl
    | ex e t => rfl
    | ok fl t => cases fl with
      | nx => exact exss_app
      | brk => rfl
      | ret r => rfl
/-- a sequence cut in two -/
theorem exss_split {G : Glob} {cf : CallF} {wf : Nat} {io : Bool} (n : Nat) {ss : List S} {t : Tau} : exss G cf wf io ss t = (exss G cf wf io (ss.take n) t).bind (cont G cf wf io (ss.drop n)) := by
  rw [← exss_app, List.take_append_drop]
/-! ### what comes out, told -/
def Ok {α : Type} (m : Out α) (P : α → Tau → Prop) : Prop := match m with
  | .ok a t => P a t
  | _ => False
def OkC (m : OutC) (P : Rs → Option Mu → Prop) : Prop := match m with
  | .ok a t => P a t
  | _ => False
section
variable {α β : Type} {m : Out α} {f : α → Tau → Out β} {P : β → Tau → Prop} {Q : α → Tau → Prop} {t : Tau} {a : α}
theorem Ok_ok : Ok (.ok a t) Q = Q a t := rfl
theorem Ok_bind : Ok (m.bind f) P = Ok m (fun a t => Ok (f a t) P) := by cases m <;> rfl
theorem Ok_bd {w : Tk' f} : Ok (m.bd f w) P = Ok m (fun a t => Ok (f a t) P) := by cases m <;> rfl
theorem Ok.mono {Q' : α → Tau → Prop} (h : Ok m Q) (k : ∀ a t, Q a t → Q' a t) : Ok m Q' := by
  cases m with
  | ok a t => exact k a t h
  | ex x t => exact h.elim
  | no => exact h.elim
theorem Ok.and {Q' : α → Tau → Prop} (h : Ok m Q) (k : Ok m Q') : Ok m (fun a t => Q a t ∧ Q' a t) := by
  cases m with
  | ok a t => exact ⟨h, k⟩
  | ex x t => exact h.elim
  | no => exact h.elim
theorem Ok.ex (h : Ok m Q) : ∃ a t, m = .ok a t ∧ Q a t := by
  cases m with
  | ok a t => exact ⟨a, t, rfl, h⟩
  | ex x t => exact h.elim
  | no => exact h.elim
theorem Ok.of {a : α} (e : m = .ok a t) (h : Q a t) : Ok m Q := by rw [e]; exact h
end
theorem OkC.ex {m : OutC} {P : Rs → Option Mu → Prop} (h : OkC m P) : ∃ r o, m = .ok r o ∧ P r o := by
  cases m with
  | ok a t => exact ⟨a, t, rfl, h⟩
  | ex x => exact h.elim
  | no => exact h.elim
theorem OkC.mono {m : OutC} {P P' : Rs → Option Mu → Prop} (h : OkC m P) (k : ∀ a t, P a t → P' a t) : OkC m P' := by
  cases m with
  | ok a t => exact k a t h
  | ex x => exact h.elim
  | no => exact h.elim
theorem OkC.of {m : OutC} {P : Rs → Option Mu → Prop} {r : Rs} {o : Option Mu} (e : m = .ok r o) (h : P r o) : OkC m P := by rw [e]; exact h
theorem OkC_fin {m : Out Fl} {P : Rs → Option Mu → Prop} (h : Ok m (fun fl t => match fl with
    | .nx => P (.val .non) none
    | .ret r => P r none
    | .brk => False)) : OkC (fin m) P := by
  cases m with
  | ok fl t => cases fl <;> exact h
  | ex x t => exact h.elim
  | no => exact h.elim
theorem OkC_finI {m : Out Fl} {P : Rs → Option Mu → Prop} (h : Ok m (fun fl t => match fl with
    | .nx => OkC (enC (.val .non) (getM t 0)) P
    | .ret r => OkC (enC r (getM t 0)) P
    | .brk => False)) : OkC (finI m) P := by
  cases m with
  | ok fl t =>
    cases fl with
    | nx => show OkC (endC true (.val .non) t) P; rw [endC_t]; exact h
    | ret r => show OkC (endC true r t) P; rw [endC_t]; exact h
    | brk => exact h
  | ex x t => exact h.elim
  | no => exact h.elim
theorem Ok_callI {r : OutC} {i : Nat} {t : Tau} {P : Op → Tau → Prop} (h : OkC r (fun r m => match m with
    | some m => P r.op (t.set i (some (.o m)))
    | none => False)) : Ok (callI r i t) P := by
  cases r with
  | ok r m => cases m with
    | none => exact h.elim
    | some m => exact h
  | ex x => exact h.elim
  | no => exact h.elim
theorem Ok_callN {r : OutC} {t : Tau} {P : Op → Tau → Prop} (h : OkC r (fun r m => match m with
    | none => P r.op t
    | some _ => False)) : Ok (callN r t) P := by
  cases r with
  | ok r m => cases m with
    | none => exact h
    | some m => exact h.elim
  | ex x => exact h.elim
  | no => exact h.elim
/-! ### loops -/
theorem Ok_for {α : Type} {f : D → Tau → Out Fl} {g : α → D} {P : Option Rs → Tau → Prop} (I : List α → Tau → Prop) : ∀ {L : List α} {t : Tau}, I [] t →
    (∀ pre a post, L = pre ++ a :: post → ∀ t, I pre t → Ok (f (g a) t) (fun fl t' => match fl with
      | .nx => I (pre ++ [a]) t'
      | .brk => P none t'
      | .ret r => P (some r) t')) → (∀ t, I L t → P none t) → Ok (forL f (L.map g) t) P := by
  intro L t h0 hs hf
  have key : ∀ (post pre : List α) (t : Tau), L = pre ++ post → I pre t → Ok (forL f (post.map g) t) P := by
    intro post
    induction post with
    | nil => intro pre t e h; rw [List.append_nil] at e; subst e; exact hf t h
    | cons a post ih =>
      intro pre t e h
      have q := hs pre a post e t h
      rw [List.map_cons, forL, Ok_bind]
      refine q.mono fun fl t' h' => ?_
      cases fl with
      | nx => exact ih (pre ++ [a]) t' (by rw [e]; simp) h'
      | brk => exact h'
      | ret r => exact h'
  exact key L [] t rfl h0
theorem Ok_for' {f : D → Tau → Out Fl} {P : Option Rs → Tau → Prop} (I : List D → Tau → Prop) {L : List D} {t : Tau} (h0 : I [] t)
    (hs : ∀ pre a post, L = pre ++ a :: post → ∀ t, I pre t → Ok (f a t) (fun fl t' => match fl with
      | .nx => I (pre ++ [a]) t'
      | .brk => P none t'
      | .ret r => P (some r) t')) (hf : ∀ t, I L t → P none t) : Ok (forL f L t) P := by
  have := Ok_for (g := fun d : D => d) (f := f) (P := P) I h0 hs hf
  rwa [List.map_id'] at this
/-- the same at each turn -/
theorem Ok_forI {f : D → Tau → Out Fl} {P : Option Rs → Tau → Prop} (I : Tau → Prop) {L : List D} {t : Tau} (h0 : I t)
    (hs : ∀ a ∈ L, ∀ t, I t → Ok (f a t) (fun fl t' => match fl with
      | .nx => I t'
      | .brk => P none t'
      | .ret r => P (some r) t')) (hf : ∀ t, I t → P none t) : Ok (forL f L t) P :=
  Ok_for' (fun _ => I) h0 (fun pre a post e t h => hs a (by rw [e]; simp) t h) hf
theorem Ok_while {c : Tau → Out Bool} {f : Tau → Out Fl} {P : Option Rs → Tau → Prop} (I : Nat → Tau → Prop) : ∀ {n m : Nat} {t : Tau}, I m t → m < n →
    (∀ m t, I m t → Ok (c t) (fun b t1 => if b then Ok (f t1) (fun fl t2 => match fl with
      | .nx => ∃ m', m' < m ∧ I m' t2
      | .brk => P none t2
      | .ret r => P (some r) t2) else P none t1)) → Ok (whileL c f n t) P
  | 0, m, t, _, h, _ => absurd h (by omega)
  | n + 1, m, t, hI, h, hs => by
    rw [whileL_succ, Ok_bd]
    refine (hs m t hI).mono fun b t1 h1 => ?_
    cases b with
    | false => exact h1
    | true =>
      rw [if_pos rfl, Ok_bd]
      have h1 : Ok (f t1) _ := h1
      refine h1.mono fun fl t2 h2 => ?_
      cases fl with
      | nx =>
        obtain ⟨m', hm, h3⟩ := h2
        exact Ok_while I h3 (by omega) hs
      | brk => exact h2
      | ret r => exact h2
theorem Ok_comp {α : Type} {own : List Nat} {f : D → Tau → Out (List α)} {P : List α → Tau → Prop} (I : List D → List α → Tau → Prop) {L : List D} {t : Tau} (h0 : I [] [] t)
    (hs : ∀ pre a post, L = pre ++ a :: post → ∀ acc t, I pre acc t → Ok (f a (TY.wipe t own)) (fun l t' => acc.length + l.length ≤ line ∧ I (pre ++ [a]) (acc ++ l) t')) (hf : ∀ acc t, I L acc t → P acc t) : Ok (compL own f L [] t) P := by
  have key : ∀ (post pre : List D) (acc : List α) (t : Tau), L = pre ++ post → I pre acc t → Ok (compL own f post acc t) P := by
    intro post
    induction post with
    | nil => intro pre acc t e h; rw [List.append_nil] at e; subst e; exact hf acc t h
    | cons a post ih =>
      intro pre acc t e h
      obtain ⟨l, t', e1, h1, h2⟩ := (hs pre a post e acc t h).ex
      unfold compL
      rw [e1]
      simp only
      rw [if_pos h1]
      exact ih (pre ++ [a]) (acc ++ l) t' (by rw [e]; simp) h2
  exact key L [] [] t rfl h0
/-- as many as are walked, each keeps Q -/
theorem Ok_compA {α : Type} {own : List Nat} {f : D → Tau → Out (List α)} {P : List α → Tau → Prop} (I : Tau → Prop) (Q : α → Prop) {L : List D} {t : Tau} (h0 : I t) (hl : L.length ≤ line)
    (hs : ∀ a ∈ L, ∀ t, I t → Ok (f a (TY.wipe t own)) (fun l t' => (∃ x, l = [x] ∧ Q x) ∧ I t')) (hf : ∀ acc t, I t → acc.length = L.length → (∀ x ∈ acc, Q x) → P acc t) : Ok (compL own f L [] t) P := by
  refine Ok_comp (fun pre acc t => I t ∧ acc.length = pre.length ∧ ∀ x ∈ acc, Q x) ⟨h0, rfl, fun _ h => absurd h (by simp)⟩ (fun pre a post e acc t ⟨h1, h2, h3⟩ => ?_) fun acc t ⟨h1, h2, h3⟩ => hf acc t h1 h2 h3
  refine (hs a (by rw [e]; simp) t h1).mono fun l t' ⟨⟨x, ex, q⟩, hi⟩ => ?_
  subst ex
  have hlen : L.length = pre.length + 1 + post.length := by rw [e]; simp; omega
  refine ⟨by rw [h2]; simp; omega, hi, by simp [h2], fun y hy => ?_⟩
  rcases List.mem_append.mp hy with hy | hy
  · exact h3 y hy
  · rw [List.mem_singleton.mp hy]; exact q
end TY
/-! FS: the table of all defs (printed by gen3.py). -/
namespace TY
abbrev f_is_int : Nat := 0
abbrev f_is_machine : Nat := 1
abbrev f_is_press : Nat := 2
abbrev f_are_presses : Nat := 3
abbrev f_is_row : Nat := 4
abbrev f_is_cell : Nat := 5
abbrev f_total : Nat := 6
abbrev f_are_cells : Nat := 7
abbrev f_is_sheet_of : Nat := 8
abbrev f_is_sight_of : Nat := 9
abbrev f_need_machine : Nat := 10
abbrev f_need_row : Nat := 11
abbrev f_need_sheet : Nat := 12
abbrev f_need_sight : Nat := 13
abbrev f_need_column : Nat := 14
abbrev f_need_number : Nat := 15
abbrev f_need_press : Nat := 16
abbrev f_need_index : Nat := 17
abbrev f_marks_of : Nat := 18
abbrev f_is_sheet : Nat := 19
abbrev f_is_sight : Nat := 20
abbrev f_marks : Nat := 21
abbrev f_blank : Nat := 22
abbrev f_printed : Nat := 23
abbrev f_goes_on : Nat := 24
abbrev f_moved : Nat := 25
abbrev f_with_mark : Nat := 26
abbrev f_led : Nat := 27
abbrev f_at_first : Nat := 28
abbrev f_typed : Nat := 29
abbrev f_typed_on : Nat := 30
abbrev f_bits_of : Nat := 31
abbrev f_whole : Nat := 32
abbrev f_with_bit : Nat := 33
abbrev f_step : Nat := 34
abbrev f_steps : Nat := 35
abbrev f_is_end : Nat := 36
abbrev f_layers : Nat := 37
abbrev f_ways_on : Nat := 38
abbrev f_number_of : Nat := 39
abbrev f_row_by : Nat := 40
abbrev f_index_by : Nat := 41
abbrev f_fewest_by : Nat := 42
abbrev f_without_mark : Nat := 43
abbrev f_count : Nat := 44
abbrev f_row_at : Nat := 45
abbrev f_place_of : Nat := 46
abbrev f_fewest : Nat := 47
abbrev f_fewest_row : Nat := 48
abbrev f_barring : Nat := 49
abbrev f_times_of : Nat := 50
abbrev f_order_of : Nat := 51
abbrev f_orders : Nat := 52
abbrev f_rings_by : Nat := 53
abbrev f_need_marks : Nat := 54
abbrev f_uses : Nat := 55
abbrev f_columns : Nat := 56
abbrev f_bells_heard : Nat := 57
abbrev f_sooner : Nat := 58
abbrev f_all_slips : Nat := 59
abbrev f_slipped : Nat := 60
abbrev f_is_slip : Nat := 61
abbrev f_slips : Nat := 62
abbrev f_with_slip : Nat := 63
abbrev f_explaining : Nat := 64
abbrev f_unseen : Nat := 65
abbrev f_effects : Nat := 66
abbrev f_same : Nat := 67
abbrev f_need_both : Nat := 68
abbrev f_rows_of : Nat := 69
abbrev f_left_by : Nat := 70
abbrev f_alike : Nat := 71
abbrev f_parting : Nat := 72
abbrev f_needless : Nat := 73
abbrev f_shortened : Nat := 74
abbrev f_machines_parting : Nat := 75
abbrev f_law_crate : Nat := 76
abbrev f_law_dig : Nat := 77
abbrev f_law_one_of : Nat := 78
abbrev f_law_machine : Nat := 79
abbrev f_law_row : Nat := 80
abbrev f_law_goes : Nat := 81
abbrev f_law_sign : Nat := 82
abbrev f_law_typed : Nat := 83
abbrev f_law_blank : Nat := 84
abbrev f_law_at_first : Nat := 85
abbrev f_law_total : Nat := 86
abbrev f_law_sheet : Nat := 87
abbrev f_law_sight : Nat := 88
abbrev f_law_wants : Nat := 89
abbrev f_law : Nat := 90
abbrev f_law_is_whole : Nat := 91
abbrev f_law_is_machine : Nat := 92
abbrev f_law_is_text : Nat := 93
abbrev f_law_is_row : Nat := 94
abbrev f_law_is_cell : Nat := 95
abbrev f_law_is_sheet : Nat := 96
abbrev f_law_is_sight : Nat := 97
abbrev f_law_stuff : Nat := 98
abbrev f_law_shaken : Nat := 99
abbrev f_law_is_told : Nat := 100
abbrev f_law_told_right : Nat := 101
abbrev f_law_goal : Nat := 102
abbrev f_law_on : Nat := 103
abbrev f_law_tables : Nat := 104
abbrev f_law_count : Nat := 105
abbrev f_law_row_by : Nat := 106
abbrev f_law_index_of : Nat := 107
abbrev f_law_place_due : Nat := 108
abbrev f_law_every_row : Nat := 109
abbrev f_law_fits : Nat := 110
abbrev f_law_has : Nat := 111
abbrev f_law_uses : Nat := 112
abbrev f_law_ends : Nat := 113
abbrev f_law_rings : Nat := 114
abbrev f_law_by_rows : Nat := 115
abbrev f_law_firsts : Nat := 116
abbrev f_law_word : Nat := 117
abbrev f_law_when : Nat := 118
abbrev f_law_two : Nat := 119
abbrev f_law_slips : Nat := 120
abbrev f_law_with : Nat := 121
abbrev f_law_close : Nat := 122
abbrev f_law_effects : Nat := 123
abbrev f_law_swapped : Nat := 124
abbrev f_law_shorter : Nat := 125
abbrev f_law_apart : Nat := 126
abbrev f_law_agree : Nat := 127
abbrev f_law_turned : Nat := 128
abbrev f_law_other : Nat := 129
abbrev f_law_numbers_right : Nat := 130
abbrev f_law_all_turned : Nat := 131
abbrev f_law_rows_right : Nat := 132
abbrev f_law_over_so : Nat := 133
abbrev f_law_far_so : Nat := 134
abbrev f_law_blank_so : Nat := 135
abbrev f_law_twos : Nat := 136
abbrev f_law_slips_so : Nat := 137
abbrev f_law_layers : Nat := 138
abbrev f_law_fewest : Nat := 139
abbrev f_law_first : Nat := 140
abbrev f_law_barring : Nat := 141
abbrev f_law_of_machine : Nat := 142
abbrev f_law_of_sight : Nat := 143
abbrev f_law_good_end : Nat := 144
abbrev f_law_least : Nat := 145
abbrev g_PRESSES : Nat := 0
abbrev g_SIGNS : Nat := 1
abbrev g_MOST_PRESSES : Nat := 2
abbrev g_MOST_MARKS : Nat := 3
abbrev g_MOST_BELLS : Nat := 4
abbrev g_BEGIN : Nat := 5
abbrev g_SHORT : Nat := 6
abbrev g_MOST_TYPED : Nat := 7
abbrev x_TypeOverError : Nat := 0
abbrev x_InvalidMachine : Nat := 1
abbrev x_InvalidRow : Nat := 2
abbrev x_InvalidSheet : Nat := 3
abbrev x_InvalidSight : Nat := 4
abbrev x_InvalidColumn : Nat := 5
abbrev x_InvalidNumber : Nat := 6
abbrev x_InvalidPress : Nat := 7
abbrev x_InvalidIndex : Nat := 8
abbrev x_InvalidTruth : Nat := 9
abbrev x_InvalidMark : Nat := 10
abbrev x_InvalidSlip : Nat := 11
abbrev x_NothingToUndo : Nat := 12
abbrev x_TooMany : Nat := 13
class KG_PRESSES (G : Glob) : Prop where
  g_PRESSES : G.gl 0 = some (.str [32, 60, 65, 66, 67, 97, 98, 99]) := by rfl
class KG_SIGNS (G : Glob) : Prop where
  g_SIGNS : G.gl 1 = some (.str [97, 98, 99]) := by rfl
class KG_MOST_PRESSES (G : Glob) : Prop where
  g_MOST_PRESSES : G.gl 2 = some (.int 30) := by rfl
class KG_MOST_MARKS (G : Glob) : Prop where
  g_MOST_MARKS : G.gl 3 = some (.int 8) := by rfl
class KG_MOST_BELLS (G : Glob) : Prop where
  g_MOST_BELLS : G.gl 4 = some (.int 5) := by rfl
class KG_BEGIN (G : Glob) : Prop where
  g_BEGIN : G.gl 5 = some (.tup [.int 0, .int 0, .int 0]) := by rfl
class KG_SHORT (G : Glob) : Prop where
  g_SHORT : G.gl 6 = some (.int 4) := by rfl
class KG_MOST_TYPED (G : Glob) : Prop where
  g_MOST_TYPED : G.gl 7 = some (.int 60) := by rfl
/-- slots: value low high -/
def F_is_int : Fn := ⟨3, 3, false, [
  .ret (.and (.isi (.loc 0) [.int]) (.and (.not (.isi (.loc 0) [.bool])) (.chn .le .le (.loc 1) (.loc 0) (.loc 2))))]⟩
class K_is_int (G : Glob) (fs : Nat → Option Fn) : Prop where
  e_is_int : fs 0 = some F_is_int := by rfl
/-- slots: value -/
def F_is_machine : Fn := ⟨1, 1, false, [
  .if_ (.or (.not (.isi (.loc 0) [.tuple])) (.cop .ne (.blt .len [(.loc 0)]) (.c (.int 2)))) [
    .ret (.c (.bl false))] [],
  .ret (.and (.call f_is_int [(.idx (.loc 0) (.c (.int 0))), (.c (.int 1)), (.c (.int 5))]) (.call f_is_int [(.idx (.loc 0) (.c (.int 1))), (.c (.int 1)), (.idx (.loc 0) (.c (.int 0)))]))]⟩
class K_is_machine (G : Glob) (fs : Nat → Option Fn) : Prop extends K_is_int G fs where
  e_is_machine : fs 1 = some F_is_machine := by rfl
/-- slots: value one -/
def F_are_presses : Fn := ⟨1, 2, false, [
  .ret (.and (.isi (.loc 0) [.str]) (.blt .all [(.lc (.cop .isin (.loc 1) (.gl g_PRESSES)) (.n 1) (.seq (.loc 0)) [] [1])]))]⟩
class K_are_presses (G : Glob) (fs : Nat → Option Fn) : Prop extends KG_PRESSES G where
  e_are_presses : fs 3 = some F_are_presses := by rfl
/-- slots: value -/
def F_is_row : Fn := ⟨1, 1, false, [
  .ret (.and (.call f_are_presses [(.loc 0)]) (.cop .le (.blt .len [(.loc 0)]) (.gl g_MOST_PRESSES)))]⟩
class K_is_row (G : Glob) (fs : Nat → Option Fn) : Prop extends KG_MOST_PRESSES G, K_are_presses G fs where
  e_is_row : fs 4 = some F_is_row := by rfl
/-- slots: value sign -/
def F_is_cell : Fn := ⟨1, 2, false, [
  .if_ (.not (.isi (.loc 0) [.str])) [
    .ret (.c (.bl false))] [],
  .ret (.cop .eq (.loc 0) (.met .join (.c (.str [])) [(.lc (.loc 1) (.n 1) (.seq (.gl g_SIGNS)) [(.cop .isin (.loc 1) (.loc 0))] [1])]))]⟩
class K_is_cell (G : Glob) (fs : Nat → Option Fn) : Prop extends KG_SIGNS G where
  e_is_cell : fs 5 = some F_is_cell := by rfl
/-- slots: sheet cell -/
def F_total : Fn := ⟨1, 2, false, [
  .ret (.blt .sum [(.lc (.blt .len [(.loc 1)]) (.n 1) (.seq (.loc 0)) [] [1])])]⟩
class K_total (G : Glob) (fs : Nat → Option Fn) : Prop where
  e_total : fs 6 = some F_total := by rfl
/-- slots: value cell -/
def F_are_cells : Fn := ⟨1, 2, false, [
  .ret (.and (.isi (.loc 0) [.tuple]) (.and (.blt .all [(.lc (.call f_is_cell [(.loc 1)]) (.n 1) (.seq (.loc 0)) [] [1])]) (.cop .le (.call f_total [(.loc 0)]) (.gl g_MOST_MARKS))))]⟩
class K_are_cells (G : Glob) (fs : Nat → Option Fn) : Prop extends KG_MOST_MARKS G, K_total G fs, K_is_cell G fs where
  e_are_cells : fs 7 = some F_are_cells := by rfl
/-- slots: machine value -/
def F_is_sheet_of : Fn := ⟨2, 2, false, [
  .ret (.and (.call f_are_cells [(.loc 1)]) (.cop .eq (.blt .len [(.loc 1)]) (.bop .add (.idx (.loc 0) (.c (.int 0))) (.c (.int 1)))))]⟩
class K_is_sheet_of (G : Glob) (fs : Nat → Option Fn) : Prop extends K_are_cells G fs where
  e_is_sheet_of : fs 8 = some F_is_sheet_of := by rfl
/-- slots: machine value -/
def F_is_sight_of : Fn := ⟨2, 2, false, [
  .if_ (.or (.not (.isi (.loc 1) [.tuple])) (.or (.cop .ne (.blt .len [(.loc 1)]) (.c (.int 2))) (.not (.call f_is_sheet_of [(.loc 0), (.idx (.loc 1) (.c (.int 0)))])))) [
    .ret (.c (.bl false))] [],
  .ret (.or (.cop .isn (.idx (.loc 1) (.c (.int 1))) (.c .non)) (.call f_is_int [(.idx (.loc 1) (.c (.int 1))), (.c (.int 0)), (.gl g_MOST_BELLS)]))]⟩
class K_is_sight_of (G : Glob) (fs : Nat → Option Fn) : Prop extends KG_MOST_BELLS G, K_is_int G fs, K_is_sheet_of G fs where
  e_is_sight_of : fs 9 = some F_is_sight_of := by rfl
/-- slots: machine -/
def F_need_machine : Fn := ⟨1, 1, false, [
  .if_ (.not (.call f_is_machine [(.loc 0)])) [
    .raise x_InvalidMachine []] []]⟩
class K_need_machine (G : Glob) (fs : Nat → Option Fn) : Prop extends K_is_machine G fs where
  e_need_machine : fs 10 = some F_need_machine := by rfl
/-- slots: machine sheet -/
def F_need_sheet : Fn := ⟨2, 2, false, [
  .if_ (.not (.call f_is_sheet_of [(.loc 0), (.loc 1)])) [
    .raise x_InvalidSheet []] []]⟩
class K_need_sheet (G : Glob) (fs : Nat → Option Fn) : Prop extends K_is_sheet_of G fs where
  e_need_sheet : fs 12 = some F_need_sheet := by rfl
def L_marks_of_0 : List S := [
  .ext 1 (.lc (.tup [(.loc 2), (.loc 4)]) (.n 4) (.seq (.loc 3)) [] [4])]
/-- slots: sheet found column cell sign -/
def F_marks_of : Fn := ⟨1, 5, false, [
  .set 1 (.lst []),
  .for_ (.t [(.n 2), (.n 3)]) (.enum (.loc 0)) L_marks_of_0,
  .ret (.loc 1)]⟩
class K_marks_of (G : Glob) (fs : Nat → Option Fn) : Prop where
  e_marks_of : fs 18 = some F_marks_of := by rfl
/-- slots: machine value -/
def F_is_sheet : Fn := ⟨2, 2, false, [
  .ex (.call f_need_machine [(.loc 0)]),
  .ret (.call f_is_sheet_of [(.loc 0), (.loc 1)])]⟩
class K_is_sheet (G : Glob) (fs : Nat → Option Fn) : Prop extends K_need_machine G fs, K_is_sheet_of G fs where
  e_is_sheet : fs 19 = some F_is_sheet := by rfl
/-- slots: machine value -/
def F_is_sight : Fn := ⟨2, 2, false, [
  .ex (.call f_need_machine [(.loc 0)]),
  .ret (.call f_is_sight_of [(.loc 0), (.loc 1)])]⟩
class K_is_sight (G : Glob) (fs : Nat → Option Fn) : Prop extends K_need_machine G fs, K_is_sight_of G fs where
  e_is_sight : fs 20 = some F_is_sight := by rfl
/-- slots: machine sheet -/
def F_marks : Fn := ⟨2, 2, false, [
  .ex (.call f_need_machine [(.loc 0)]),
  .ex (.call f_need_sheet [(.loc 0), (.loc 1)]),
  .ret (.call f_marks_of [(.loc 1)])]⟩
class K_marks (G : Glob) (fs : Nat → Option Fn) : Prop extends K_need_machine G fs, K_need_sheet G fs, K_marks_of G fs where
  e_marks : fs 21 = some F_marks := by rfl
/-- slots: script k cell -/
def F_law_crate : Fn := ⟨2, 3, false, [
  .set 2 (.bop .add (.bop .mul (.c (.int 65537)) (.loc 1)) (.c (.int 91))),
  .if_ (.cop .lt (.loc 1) (.blt .len [(.loc 0)])) [
    .set 2 (.bop .mod (.blt .abs [(.blt .int [(.idx (.loc 0) (.loc 1))])]) (.bop .mul (.bop .mul (.bop .mul (.bop .pow (.c (.int 10)) (.c (.int 60))) (.bop .pow (.c (.int 10)) (.c (.int 60)))) (.bop .pow (.c (.int 10)) (.c (.int 60)))) (.bop .pow (.c (.int 10)) (.c (.int 45)))))] [
    .if_ (.cop .gt (.blt .len [(.loc 0)]) (.c (.int 0))) [
      .set 2 (.bop .add (.loc 2) (.bop .mod (.blt .abs [(.blt .int [(.idx (.loc 0) (.c (.int 0)))])]) (.c (.int 1000151))))] []],
  .ret (.lst [(.ite (.cop .ge (.loc 2) (.bop .pow (.c (.int 10)) (.c (.int 18)))) (.loc 2) (.c (.int 0))), (.bop .add (.bop .mod (.blt .int [(.bop .add (.bop .add (.bop .mul (.bop .mod (.loc 2) (.c (.int 2147483399))) (.c (.int 8))) (.bop .mul (.c (.int 31)) (.loc 1))) (.c (.int 3)))]) (.c (.int 2147483399))) (.c (.int 1)))])]⟩
class K_law_crate (G : Glob) (fs : Nat → Option Fn) : Prop where
  e_law_crate : fs 76 = some F_law_crate := by rfl
def L_law_dig_0 : List S := [
  .seti 0 (.c (.int 1)) (.bop .mod (.blt .int [(.bop .add (.bop .mul (.idx (.loc 0) (.c (.int 1))) (.c (.int 28629))) (.c (.int 37)))]) (.c (.int 2147483399))),
  .set 2 (.bop .add (.bop .mul (.loc 2) (.c (.int 8192))) (.bop .mod (.blt .int [(.bop .fdiv (.idx (.loc 0) (.c (.int 1))) (.c (.int 65543)))]) (.c (.int 8192)))),
  .set 3 (.bop .mul (.loc 3) (.c (.int 8192)))]
/-- slots: crate many found wide -/
def F_law_dig : Fn := ⟨2, 4, true, [
  .if_ (.cop .gt (.idx (.loc 0) (.c (.int 0))) (.c (.int 0))) [
    .set 2 (.bop .mod (.blt .int [(.idx (.loc 0) (.c (.int 0)))]) (.loc 1)),
    .seti 0 (.c (.int 0)) (.bop .fdiv (.idx (.loc 0) (.c (.int 0))) (.loc 1)),
    .ret (.loc 2)] [],
  .unp (.t [(.n 2), (.n 3)]) (.tup [(.c (.int 0)), (.c (.int 1))]),
  .while_ (.or (.cop .lt (.loc 3) (.loc 1)) (.cop .eq (.loc 3) (.c (.int 1)))) L_law_dig_0,
  .ret (.bop .mod (.blt .int [(.loc 2)]) (.loc 1))]⟩
class K_law_dig (G : Glob) (fs : Nat → Option Fn) : Prop where
  e_law_dig : fs 77 = some F_law_dig := by rfl
/-- slots: crate things -/
def F_law_one_of : Fn := ⟨2, 2, true, [
  .ret (.idx (.loc 1) (.calli f_law_dig 0 [(.blt .len [(.loc 1)])]))]⟩
class K_law_one_of (G : Glob) (fs : Nat → Option Fn) : Prop extends K_law_dig G fs where
  e_law_one_of : fs 78 = some F_law_one_of := by rfl
/-- slots: crate most last -/
def F_law_machine : Fn := ⟨2, 3, true, [
  .set 2 (.bop .add (.c (.int 1)) (.calli f_law_dig 0 [(.loc 1)])),
  .ret (.tup [(.loc 2), (.bop .add (.c (.int 1)) (.calli f_law_dig 0 [(.loc 2)]))])]⟩
class K_law_machine (G : Glob) (fs : Nat → Option Fn) : Prop extends K_law_dig G fs where
  e_law_machine : fs 79 = some F_law_machine := by rfl
/-- slots: crate most some turn -/
def F_law_row : Fn := ⟨2, 4, true, [
  .set 2 (.calli f_law_one_of 0 [(.lst [(.c (.str [32, 60, 65, 66, 67, 97, 98, 99])), (.c (.str [97, 65, 98, 66, 32, 60])), (.c (.str [97, 98, 32, 60])), (.c (.str [97, 65, 60])), (.c (.str [32, 60, 97]))])]),
  .ret (.met .join (.c (.str [])) [(.lc (.calli f_law_one_of 0 [(.loc 2)]) (.n 3) (.rng [(.calli f_law_dig 0 [(.bop .add (.loc 1) (.c (.int 1)))])]) [] [3])])]⟩
class K_law_row (G : Glob) (fs : Nat → Option Fn) : Prop extends K_law_one_of G fs, K_law_dig G fs where
  e_law_row : fs 80 = some F_law_row := by rfl
/-- slots: machine column done -/
def F_law_goes : Fn := ⟨3, 3, false, [
  .if_ (.cop .eq (.loc 2) (.c (.str [60]))) [
    .ret (.tup [(.ite (.cop .gt (.loc 1) (.c (.int 0))) (.bop .sub (.loc 1) (.c (.int 1))) (.c (.int 0))), (.c (.bl false))])] [],
  .if_ (.or (.cop .isin (.loc 2) (.lst [(.c (.str [65])), (.c (.str [66])), (.c (.str [67]))])) (.cop .eq (.loc 1) (.idx (.loc 0) (.c (.int 0))))) [
    .ret (.tup [(.loc 1), (.c (.bl false))])] [],
  .ret (.tup [(.bop .add (.loc 1) (.c (.int 1))), (.cop .eq (.bop .add (.loc 1) (.c (.int 1))) (.idx (.loc 0) (.c (.int 1))))])]⟩
class K_law_goes (G : Glob) (fs : Nat → Option Fn) : Prop where
  e_law_goes : fs 81 = some F_law_goes := by rfl
/-- slots: done -/
def F_law_sign : Fn := ⟨1, 1, false, [
  .ret (.get2 (.dk [((.c (.str [97])), (.c (.str [97]))), ((.c (.str [65])), (.c (.str [97]))), ((.c (.str [98])), (.c (.str [98]))), ((.c (.str [66])), (.c (.str [98]))), ((.c (.str [99])), (.c (.str [99]))), ((.c (.str [67])), (.c (.str [99])))]) (.loc 0) (.c (.str [])))]⟩
class K_law_sign (G : Glob) (fs : Nat → Option Fn) : Prop where
  e_law_sign : fs 82 = some F_law_sign := by rfl
def L_law_typed_0 : List S := [
  .set 8 (.call f_law_sign [(.loc 7)]),
  .if_ (.and (.cop .ne (.loc 8) (.c (.str []))) (.cop .notin (.loc 8) (.idx (.loc 4) (.loc 3)))) [
    .app2 4 (.loc 3) (.loc 8)] [],
  .unp (.t [(.n 3), (.n 9)]) (.call f_law_goes [(.loc 0), (.loc 3), (.loc 7)]),
  .set 5 (.bop .add (.loc 5) (.blt .int [(.loc 9)]))]
/-- slots: machine row sheet column cells bells cell done sign rings -/
def F_law_typed : Fn := ⟨4, 10, false, [
  .par [(4, (.lcl (.blt .list [(.loc 6)]) (.n 6) (.seq (.loc 2)) [] [6])), (5, (.c (.int 0)))],
  .for_ (.n 7) (.seq (.loc 1)) L_law_typed_0,
  .ret (.tup [(.blt .tuple [(.lc (.met .join (.c (.str [])) [(.blt .sorted [(.loc 6)])]) (.n 6) (.seq (.loc 4)) [] [6])]), (.loc 3), (.loc 5)])]⟩
class K_law_typed (G : Glob) (fs : Nat → Option Fn) : Prop extends K_law_sign G fs, K_law_goes G fs where
  e_law_typed : fs 83 = some F_law_typed := by rfl
/-- slots: machine -/
def F_law_blank : Fn := ⟨1, 1, false, [
  .ret (.bop .mul (.tup [(.c (.str []))]) (.bop .add (.idx (.loc 0) (.c (.int 0))) (.c (.int 1))))]⟩
class K_law_blank (G : Glob) (fs : Nat → Option Fn) : Prop where
  e_law_blank : fs 84 = some F_law_blank := by rfl
/-- slots: machine row -/
def F_law_at_first : Fn := ⟨2, 2, false, [
  .ret (.call f_law_typed [(.loc 0), (.loc 1), (.call f_law_blank [(.loc 0)]), (.c (.int 0))])]⟩
class K_law_at_first (G : Glob) (fs : Nat → Option Fn) : Prop extends K_law_typed G fs, K_law_blank G fs where
  e_law_at_first : fs 85 = some F_law_at_first := by rfl
/-- slots: sheet cell -/
def F_law_total : Fn := ⟨1, 2, false, [
  .ret (.blt .sum [(.lc (.blt .len [(.loc 1)]) (.n 1) (.seq (.loc 0)) [] [1])])]⟩
class K_law_total (G : Glob) (fs : Nat → Option Fn) : Prop where
  e_law_total : fs 86 = some F_law_total := by rfl
def L_law_sheet_0 : List S := [
  .par [(5, (.calli f_law_dig 0 [(.blt .len [(.loc 3)])])), (6, (.calli f_law_one_of 0 [(.c (.str [97, 98, 99]))]))],
  .if_ (.cop .notin (.loc 6) (.idx (.loc 3) (.loc 5))) [
    .seti 3 (.loc 5) (.met .join (.c (.str [])) [(.blt .sorted [(.bop .add (.idx (.loc 3) (.loc 5)) (.loc 6))])])] []]
/-- slots: crate machine most cells turn column sign -/
def F_law_sheet : Fn := ⟨3, 7, true, [
  .set 3 (.bop .mul (.lst [(.c (.str []))]) (.bop .add (.idx (.loc 1) (.c (.int 0))) (.c (.int 1)))),
  .for_ (.n 4) (.rng [(.calli f_law_dig 0 [(.bop .add (.loc 2) (.c (.int 1)))])]) L_law_sheet_0,
  .ret (.blt .tuple [(.loc 3)])]⟩
class K_law_sheet (G : Glob) (fs : Nat → Option Fn) : Prop extends K_law_dig G fs, K_law_one_of G fs where
  e_law_sheet : fs 87 = some F_law_sheet := by rfl
/-- slots: crate machine most row sheet column bells -/
def F_law_sight : Fn := ⟨3, 7, true, [
  .set 3 (.calli f_law_row 0 [(.c (.int 6))]),
  .unp (.t [(.n 4), (.n 5), (.n 6)]) (.call f_law_at_first [(.loc 1), (.loc 3)]),
  .if_ (.or (.cop .gt (.call f_law_total [(.loc 4)]) (.loc 2)) (.cop .eq (.calli f_law_dig 0 [(.c (.int 3))]) (.c (.int 0)))) [
    .par [(4, (.calli f_law_sheet 0 [(.loc 1), (.loc 2)])), (6, (.calli f_law_dig 0 [(.c (.int 3))]))]] [],
  .ret (.tup [(.loc 4), (.calli f_law_one_of 0 [(.lst [(.c .non), (.c .non), (.blt .min2 [(.loc 6), (.c (.int 5))])])])])]⟩
class K_law_sight (G : Glob) (fs : Nat → Option Fn) : Prop extends K_law_row G fs, K_law_at_first G fs, K_law_one_of G fs, K_law_total G fs, K_law_dig G fs, K_law_sheet G fs where
  e_law_sight : fs 88 = some F_law_sight := by rfl
def L_law_wants_0 : List S := [
  .set 1 (.bop .add (.loc 1) (.lc (.tup [(.loc 2), (.loc 3)]) (.n 3) (.seq (.idx (.loc 0) (.loc 2))) [] [3]))]
/-- slots: sheet found column sign -/
def F_law_wants : Fn := ⟨1, 4, false, [
  .set 1 (.lst []),
  .for_ (.n 2) (.rng [(.blt .len [(.loc 0)])]) L_law_wants_0,
  .ret (.loc 1)]⟩
class K_law_wants (G : Glob) (fs : Nat → Option Fn) : Prop where
  e_law_wants : fs 89 = some F_law_wants := by rfl
/-- slots: thing low high -/
def F_law_is_whole : Fn := ⟨3, 3, false, [
  .ret (.and (.isi (.loc 0) [.int]) (.and (.not (.isi (.loc 0) [.bool])) (.chn .le .le (.loc 1) (.loc 0) (.loc 2))))]⟩
class K_law_is_whole (G : Glob) (fs : Nat → Option Fn) : Prop where
  e_law_is_whole : fs 91 = some F_law_is_whole := by rfl
/-- slots: thing -/
def F_law_is_machine : Fn := ⟨1, 1, false, [
  .if_ (.or (.not (.isi (.loc 0) [.tuple])) (.or (.cop .ne (.blt .len [(.loc 0)]) (.c (.int 2))) (.not (.call f_law_is_whole [(.idx (.loc 0) (.c (.int 0))), (.c (.int 1)), (.c (.int 5))])))) [
    .ret (.c (.bl false))] [],
  .ret (.call f_law_is_whole [(.idx (.loc 0) (.c (.int 1))), (.c (.int 1)), (.idx (.loc 0) (.c (.int 0)))])]⟩
class K_law_is_machine (G : Glob) (fs : Nat → Option Fn) : Prop extends K_law_is_whole G fs where
  e_law_is_machine : fs 92 = some F_law_is_machine := by rfl
/-- slots: thing one -/
def F_law_is_text : Fn := ⟨1, 2, false, [
  .ret (.and (.isi (.loc 0) [.str]) (.cop .eq (.lc (.loc 1) (.n 1) (.seq (.loc 0)) [(.cop .notin (.loc 1) (.c (.str [32, 60, 65, 66, 67, 97, 98, 99])))] [1]) (.lst [])))]⟩
class K_law_is_text (G : Glob) (fs : Nat → Option Fn) : Prop where
  e_law_is_text : fs 93 = some F_law_is_text := by rfl
/-- slots: thing -/
def F_law_is_row : Fn := ⟨1, 1, false, [
  .ret (.and (.call f_law_is_text [(.loc 0)]) (.cop .le (.blt .len [(.loc 0)]) (.c (.int 30))))]⟩
class K_law_is_row (G : Glob) (fs : Nat → Option Fn) : Prop extends K_law_is_text G fs where
  e_law_is_row : fs 94 = some F_law_is_row := by rfl
/-- slots: thing -/
def F_law_is_cell : Fn := ⟨1, 1, false, [
  .ret (.and (.isi (.loc 0) [.str]) (.cop .isin (.loc 0) (.tup [(.c (.str [])), (.c (.str [97])), (.c (.str [98])), (.c (.str [99])), (.c (.str [97, 98])), (.c (.str [97, 99])), (.c (.str [98, 99])), (.c (.str [97, 98, 99]))])))]⟩
class K_law_is_cell (G : Glob) (fs : Nat → Option Fn) : Prop where
  e_law_is_cell : fs 95 = some F_law_is_cell := by rfl
/-- slots: machine thing cell -/
def F_law_is_sheet : Fn := ⟨2, 3, false, [
  .if_ (.or (.not (.isi (.loc 1) [.tuple])) (.cop .ne (.blt .len [(.loc 1)]) (.bop .add (.idx (.loc 0) (.c (.int 0))) (.c (.int 1))))) [
    .ret (.c (.bl false))] [],
  .ret (.and (.cop .eq (.lc (.loc 2) (.n 2) (.seq (.loc 1)) [(.not (.call f_law_is_cell [(.loc 2)]))] [2]) (.lst [])) (.cop .le (.call f_law_total [(.loc 1)]) (.c (.int 8))))]⟩
class K_law_is_sheet (G : Glob) (fs : Nat → Option Fn) : Prop extends K_law_total G fs, K_law_is_cell G fs where
  e_law_is_sheet : fs 96 = some F_law_is_sheet := by rfl
/-- slots: machine thing -/
def F_law_is_sight : Fn := ⟨2, 2, false, [
  .if_ (.or (.not (.isi (.loc 1) [.tuple])) (.or (.cop .ne (.blt .len [(.loc 1)]) (.c (.int 2))) (.not (.call f_law_is_sheet [(.loc 0), (.idx (.loc 1) (.c (.int 0)))])))) [
    .ret (.c (.bl false))] [],
  .ret (.or (.cop .isn (.idx (.loc 1) (.c (.int 1))) (.c .non)) (.call f_law_is_whole [(.idx (.loc 1) (.c (.int 1))), (.c (.int 0)), (.c (.int 5))]))]⟩
class K_law_is_sight (G : Glob) (fs : Nat → Option Fn) : Prop extends K_law_is_whole G fs, K_law_is_sheet G fs where
  e_law_is_sight : fs 97 = some F_law_is_sight := by rfl
/-- slots: crate deep some row turn -/
def F_law_stuff : Fn := ⟨2, 5, true, [
  .if_ (.or (.cop .eq (.loc 1) (.c (.int 0))) (.cop .lt (.calli f_law_dig 0 [(.c (.int 9))]) (.c (.int 6)))) [
    .set 2 (.lst [(.c (.int 0)), (.c (.int 1)), (.c (.int 2)), (.c (.int 3)), (.c (.int 5)), (.c (.int 6)), (.neg (.c (.int 1))), (.c (.bl true)), (.c (.bl false)), (.c .non), (.c (.str [])), (.c (.str [97])), (.c (.str [97, 98])), (.c (.str [98, 97])), (.c (.str [32, 60])), (.c (.str [100])), (.bop .pow (.c (.int 10)) (.c (.int 38))), (.tup []), (.lst [])]),
    .ret (.calli f_law_one_of 0 [(.bop .add (.loc 2) (.lst [(.tup [(.c (.int 1)), (.c (.int 1))]), (.tup [(.c (.int 2)), (.c (.int 2))]), (.tup [(.c (.str [])), (.c (.str []))]), (.tup [(.c (.str [97])), (.c (.str [98]))]), (.tup [(.tup [(.c (.str [])), (.c (.str []))]), (.c .non)])]))])] [],
  .set 3 (.lc (.calli f_law_stuff 0 [(.bop .sub (.loc 1) (.c (.int 1)))]) (.n 4) (.rng [(.calli f_law_dig 0 [(.c (.int 4))])]) [] [4]),
  .ret (.ite (.cop .eq (.calli f_law_dig 0 [(.c (.int 3))]) (.c (.int 0))) (.loc 3) (.blt .tuple [(.loc 3)]))]⟩
class K_law_stuff (G : Glob) (fs : Nat → Option Fn) : Prop extends K_law_one_of G fs, K_law_dig G fs where
  e_law_stuff : fs 98 = some F_law_stuff := by rfl
/-- slots: crate thing deep near row k turned -/
def F_law_shaken : Fn := ⟨3, 7, true, [
  .if_ (.or (.not (.isi (.loc 1) [.tuple, .list])) (.or (.cop .eq (.blt .len [(.loc 1)]) (.c (.int 0))) (.cop .eq (.calli f_law_dig 0 [(.c (.int 8))]) (.c (.int 0))))) [
    .set 3 (.lst [(.calli f_law_stuff 0 [(.c (.int 2))])]),
    .if_ (.isi (.loc 1) [.str]) [
      .set 3 (.bop .add (.loc 3) (.lst [(.bop .add (.loc 1) (.c (.str [97]))), (.slc (.loc 1) none (some (.neg (.c (.int 1))))), (.rev (.loc 1)), (.met .upper (.loc 1) []), (.bop .add (.loc 1) (.c (.str [100])))]))] [
      .if_ (.isi (.loc 1) [.int]) [
        .set 3 (.bop .add (.loc 3) (.lst [(.bop .add (.loc 1) (.c (.int 1))), (.bop .sub (.loc 1) (.c (.int 1))), (.not (.loc 1)), (.blt .str [(.loc 1)]), (.bop .add (.loc 1) (.c (.int 6)))]))] []],
    .ret (.calli f_law_one_of 0 [(.loc 3)])] [],
  .par [(4, (.blt .list [(.loc 1)])), (5, (.calli f_law_dig 0 [(.blt .len [(.loc 1)])])), (6, (.calli f_law_dig 0 [(.c (.int 9))]))],
  .if_ (.cop .eq (.loc 6) (.c (.int 0))) [
    .set 4 (.bop .add (.slc (.loc 4) none (some (.loc 5))) (.slc (.loc 4) (some (.bop .add (.loc 5) (.c (.int 1)))) none))] [
    .if_ (.cop .eq (.loc 6) (.c (.int 1))) [
      .set 4 (.bop .add (.slc (.loc 4) none (some (.bop .add (.loc 5) (.c (.int 1))))) (.slc (.loc 4) (some (.loc 5)) none))] [
      .if_ (.cop .eq (.loc 6) (.c (.int 2))) [
        .set 4 (.rev (.loc 4))] [
        .if_ (.cop .eq (.loc 6) (.c (.int 3))) [
          .ret (.ite (.isi (.loc 1) [.tuple]) (.loc 4) (.blt .tuple [(.loc 4)]))] [
          .seti 4 (.loc 5) (.ite (.cop .gt (.loc 2) (.c (.int 0))) (.calli f_law_shaken 0 [(.idx (.loc 4) (.loc 5)), (.bop .sub (.loc 2) (.c (.int 1)))]) (.calli f_law_stuff 0 [(.c (.int 1))]))]]]],
  .ret (.ite (.isi (.loc 1) [.tuple]) (.blt .tuple [(.loc 4)]) (.loc 4))]⟩
class K_law_shaken (G : Glob) (fs : Nat → Option Fn) : Prop extends K_law_one_of G fs, K_law_dig G fs, K_law_stuff G fs where
  e_law_shaken : fs 99 = some F_law_shaken := by rfl
/-- slots: found due -/
def F_law_is_told : Fn := ⟨2, 2, false, [
  .ret (.and (.isi (.loc 0) [.bool]) (.cop .eq (.loc 0) (.loc 1)))]⟩
class K_law_is_told (G : Glob) (fs : Nat → Option Fn) : Prop where
  e_law_is_told : fs 100 = some F_law_is_told := by rfl
/-- slots: machine thing found -/
def F_law_told_right : Fn := ⟨2, 3, false, [
  .if_ (.not (.call f_law_is_told [(.call f_is_machine [(.loc 1)]), (.call f_law_is_machine [(.loc 1)])])) [
    .ret (.c (.bl false))] [],
  .if_ (.not (.call f_law_is_told [(.call f_is_row [(.loc 1)]), (.call f_law_is_row [(.loc 1)])])) [
    .ret (.c (.bl false))] [],
  .if_ (.not (.call f_law_is_told [(.call f_is_sheet [(.loc 0), (.loc 1)]), (.call f_law_is_sheet [(.loc 0), (.loc 1)])])) [
    .ret (.c (.bl false))] [],
  .if_ (.not (.call f_law_is_told [(.call f_is_sight [(.loc 0), (.loc 1)]), (.call f_law_is_sight [(.loc 0), (.loc 1)])])) [
    .ret (.c (.bl false))] [],
  .if_ (.not (.call f_law_is_sheet [(.loc 0), (.loc 1)])) [
    .ret (.cop .eq (.catch_ (.call f_marks [(.loc 0), (.loc 1)])) (.tup [(.c (.str [73, 110, 118, 97, 108, 105, 100, 83, 104, 101, 101, 116, 32, 43]))]))] [],
  .set 2 (.call f_marks [(.loc 0), (.loc 1)]),
  .if_ (.or (.cop .ne (.loc 2) (.call f_law_wants [(.loc 1)])) (.not (.isi (.loc 2) [.list]))) [
    .ret (.c (.bl false))] [],
  .app 2 (.c .non),
  .ret (.cop .eq (.call f_marks [(.loc 0), (.loc 1)]) (.call f_law_wants [(.loc 1)]))]⟩
class K_law_told_right (G : Glob) (fs : Nat → Option Fn) : Prop extends K_marks G fs, K_law_is_told G fs, K_law_is_sheet G fs, K_law_wants G fs, K_is_machine G fs, K_law_is_machine G fs, K_is_row G fs, K_law_is_row G fs, K_is_sheet G fs, K_is_sight G fs, K_law_is_sight G fs where
  e_law_told_right : fs 101 = some F_law_told_right := by rfl
def L_law_k01_0 : List S := [
  .set 8 (.calli f_law_shaken 2 [(.loc 7), (.c (.int 3))]),
  .set 6 (.bop .add (.loc 6) (.lst [(.loc 8), (.calli f_law_shaken 2 [(.loc 8), (.c (.int 3))]), (.calli f_law_shaken 2 [(.loc 7), (.c (.int 3))])]))]
def L_law_k01_1 : List S := [
  .if_ (.not (.call f_law_told_right [(.loc 3), (.loc 7)])) [
    .ret (.c (.bl false))] []]
def L_law_k01_2 : List S := [
  .if_ (.cop .ne (.catch_ (.callv 11 [(.loc 10), (.c .non)])) (.tup [(.c (.str [73, 110, 118, 97, 108, 105, 100, 77, 97, 99, 104, 105, 110, 101, 32, 43]))])) [
    .ret (.c (.bl false))] []]
def L_law_k01_3 : List S := [
  .for_ (.n 11) (.seq (.tup [(.fnv f_is_sheet), (.fnv f_is_sight), (.fnv f_marks)])) L_law_k01_2]
def L_law_k01_4 : List S := [
  .set 2 (.call f_law_crate [(.loc 0), (.loc 1)]),
  .set 3 (.calli f_law_machine 2 [(.c (.int 5))]),
  .par [(4, (.calli f_law_sheet 2 [(.loc 3), (.c (.int 8))])), (5, (.calli f_law_row 2 [(.c (.int 30))]))],
  .set 6 (.lst [(.loc 3), (.loc 5), (.loc 4), (.calli f_law_sight 2 [(.loc 3), (.c (.int 8))]), (.blt .list [(.loc 4)]), (.bop .add (.loc 5) (.c (.str [100]))), (.bop .mul (.loc 5) (.c (.int 3)))]),
  .for_ (.n 7) (.seq (.slc (.loc 6) none (some (.c (.int 4))))) L_law_k01_0,
  .set 6 (.bop .add (.loc 6) (.lst [(.tup [(.c (.int 0)), (.c (.int 0))]), (.tup [(.c (.int 1)), (.c (.int 1))]), (.tup [(.c (.int 1)), (.c (.int 2))]), (.tup [(.c (.int 5)), (.c (.int 5))]), (.tup [(.c (.int 6)), (.c (.int 1))]), (.tup [(.c (.bl true)), (.c (.int 1))]), (.lst [(.c (.int 2)), (.c (.int 2))])])),
  .set 6 (.bop .add (.loc 6) (.lst [(.bop .mul (.c (.str [97])) (.c (.int 30))), (.bop .mul (.c (.str [97])) (.c (.int 31))), (.c (.str [])), (.c (.str [65, 10]))])),
  .set 6 (.bop .add (.loc 6) (.lst [(.bop .mul (.tup [(.c (.str [97, 98, 99]))]) (.c (.int 2))), (.bop .mul (.tup [(.c (.str [97, 98, 99]))]) (.c (.int 3))), (.tup [(.c (.str [97, 98, 99])), (.c (.str [97, 98, 99])), (.c (.str [97, 98]))]), (.tup [(.c (.str [])), (.c (.str []))]), (.tup [(.c (.str [97, 97])), (.c (.str []))]), (.tup [(.c (.str [65])), (.c (.str []))])])),
  .set 9 (.call f_law_blank [(.loc 3)]),
  .set 6 (.bop .add (.loc 6) (.lst [(.loc 9), (.tup [(.loc 9), (.c (.int 0))]), (.tup [(.loc 9), (.c (.int 5))]), (.tup [(.loc 9), (.c (.int 6))]), (.tup [(.loc 9), (.neg (.c (.int 1)))]), (.tup [(.loc 9), (.c (.bl true))]), (.tup [(.loc 9)])])),
  .for_ (.n 7) (.seq (.bop .add (.loc 6) (.lst [(.calli f_law_stuff 2 [(.c (.int 3))])]))) L_law_k01_1,
  .for_ (.n 10) (.seq (.lst [(.c .non), (.tup [(.c (.int 2)), (.c (.int 3))]), (.lst [(.c (.int 1)), (.c (.int 1))]), (.c (.str [])), (.tup [(.c (.int 2))])])) L_law_k01_3]
/-- slots: script k crate machine sheet row things_so thing once clean bad call_so -/
def F_law_k01 : Fn := ⟨1, 12, false, [
  .for_ (.n 1) (.rng [(.blt .max2 [(.c (.int 1)), (.blt .min2 [(.c (.int 12)), (.blt .len [(.loc 0)])])])]) L_law_k01_4,
  .ret (.c (.bl true))]⟩
class K_law_k01 (G : Glob) (fs : Nat → Option Fn) : Prop extends K_law_crate G fs, K_law_machine G fs, K_law_blank G fs, K_law_sheet G fs, K_law_row G fs, K_law_sight G fs, K_law_shaken G fs, K_is_sheet G fs, K_is_sight G fs, K_marks G fs, K_law_stuff G fs, K_law_told_right G fs where
  e_law_k01 : fs 90 = some F_law_k01 := by rfl
/-- slots: row -/
def F_need_row : Fn := ⟨1, 1, false, [
  .if_ (.not (.call f_is_row [(.loc 0)])) [
    .raise x_InvalidRow []] []]⟩
class K_need_row (G : Glob) (fs : Nat → Option Fn) : Prop extends K_is_row G fs where
  e_need_row : fs 11 = some F_need_row := by rfl
/-- slots: machine column -/
def F_need_column : Fn := ⟨2, 2, false, [
  .if_ (.not (.call f_is_int [(.loc 1), (.c (.int 0)), (.idx (.loc 0) (.c (.int 0)))])) [
    .raise x_InvalidColumn []] []]⟩
class K_need_column (G : Glob) (fs : Nat → Option Fn) : Prop extends K_is_int G fs where
  e_need_column : fs 14 = some F_need_column := by rfl
/-- slots: machine -/
def F_blank : Fn := ⟨1, 1, false, [
  .ret (.bop .mul (.tup [(.c (.str []))]) (.bop .add (.idx (.loc 0) (.c (.int 0))) (.c (.int 1))))]⟩
class K_blank (G : Glob) (fs : Nat → Option Fn) : Prop where
  e_blank : fs 22 = some F_blank := by rfl
/-- slots: press -/
def F_printed : Fn := ⟨1, 1, false, [
  .ret (.ite (.cop .isin (.met .lower (.loc 0) []) (.gl g_SIGNS)) (.met .lower (.loc 0) []) (.c (.str [])))]⟩
class K_printed (G : Glob) (fs : Nat → Option Fn) : Prop extends KG_SIGNS G where
  e_printed : fs 23 = some F_printed := by rfl
/-- slots: press -/
def F_goes_on : Fn := ⟨1, 1, false, [
  .ret (.or (.cop .eq (.loc 0) (.c (.str [32]))) (.cop .isin (.loc 0) (.gl g_SIGNS)))]⟩
class K_goes_on (G : Glob) (fs : Nat → Option Fn) : Prop extends KG_SIGNS G where
  e_goes_on : fs 24 = some F_goes_on := by rfl
/-- slots: machine column press -/
def F_moved : Fn := ⟨3, 3, false, [
  .if_ (.cop .eq (.loc 2) (.c (.str [60]))) [
    .ret (.tup [(.blt .max2 [(.c (.int 0)), (.bop .sub (.loc 1) (.c (.int 1)))]), (.c (.bl false))])] [],
  .if_ (.or (.not (.call f_goes_on [(.loc 2)])) (.cop .eq (.loc 1) (.idx (.loc 0) (.c (.int 0))))) [
    .ret (.tup [(.loc 1), (.c (.bl false))])] [],
  .ret (.tup [(.bop .add (.loc 1) (.c (.int 1))), (.cop .eq (.bop .add (.loc 1) (.c (.int 1))) (.idx (.loc 0) (.c (.int 1))))])]⟩
class K_moved (G : Glob) (fs : Nat → Option Fn) : Prop extends K_goes_on G fs where
  e_moved : fs 25 = some F_moved := by rfl
/-- slots: sheet column sign cell one -/
def F_with_mark : Fn := ⟨3, 5, false, [
  .set 3 (.met .join (.c (.str [])) [(.lc (.loc 4) (.n 4) (.seq (.gl g_SIGNS)) [(.cop .isin (.loc 4) (.bop .add (.idx (.loc 0) (.loc 1)) (.loc 2)))] [4])]),
  .ret (.bop .add (.bop .add (.slc (.loc 0) none (some (.loc 1))) (.tup [(.loc 3)])) (.slc (.loc 0) (some (.bop .add (.loc 1) (.c (.int 1)))) none))]⟩
class K_with_mark (G : Glob) (fs : Nat → Option Fn) : Prop extends KG_SIGNS G where
  e_with_mark : fs 26 = some F_with_mark := by rfl
def L_led_0 : List S := [
  .set 2 (.call f_with_mark [(.loc 2), (.loc 3), (.call f_printed [(.loc 5)])]),
  .unp (.t [(.n 3), (.n 6)]) (.call f_moved [(.loc 0), (.loc 3), (.loc 5)]),
  .set 4 (.bop .add (.loc 4) (.blt .int [(.loc 6)]))]
/-- slots: machine row sheet column bells press rings -/
def F_led : Fn := ⟨4, 7, false, [
  .set 4 (.c (.int 0)),
  .for_ (.n 5) (.seq (.loc 1)) L_led_0,
  .ret (.tup [(.loc 2), (.loc 3), (.loc 4)])]⟩
class K_led (G : Glob) (fs : Nat → Option Fn) : Prop extends K_with_mark G fs, K_moved G fs, K_printed G fs where
  e_led : fs 27 = some F_led := by rfl
/-- slots: machine row -/
def F_at_first : Fn := ⟨2, 2, false, [
  .ret (.call f_led [(.loc 0), (.loc 1), (.call f_blank [(.loc 0)]), (.c (.int 0))])]⟩
class K_at_first (G : Glob) (fs : Nat → Option Fn) : Prop extends K_led G fs, K_blank G fs where
  e_at_first : fs 28 = some F_at_first := by rfl
/-- slots: machine row -/
def F_typed : Fn := ⟨2, 2, false, [
  .ex (.call f_need_machine [(.loc 0)]),
  .ex (.call f_need_row [(.loc 1)]),
  .ret (.call f_at_first [(.loc 0), (.loc 1)])]⟩
class K_typed (G : Glob) (fs : Nat → Option Fn) : Prop extends K_need_machine G fs, K_need_row G fs, K_at_first G fs where
  e_typed : fs 29 = some F_typed := by rfl
/-- slots: machine row sheet column -/
def F_typed_on : Fn := ⟨4, 4, false, [
  .ex (.call f_need_machine [(.loc 0)]),
  .ex (.call f_need_row [(.loc 1)]),
  .ex (.call f_need_sheet [(.loc 0), (.loc 2)]),
  .ex (.call f_need_column [(.loc 0), (.loc 3)]),
  .ret (.call f_led [(.loc 0), (.loc 1), (.loc 2), (.loc 3)])]⟩
class K_typed_on (G : Glob) (fs : Nat → Option Fn) : Prop extends K_need_machine G fs, K_need_row G fs, K_need_sheet G fs, K_need_column G fs, K_led G fs where
  e_typed_on : fs 30 = some F_typed_on := by rfl
def L_law_k02_0 : List S := [
  .if_ (.cop .ne (.call f_typed_on [(.loc 3), (.loc 5), (.loc 6), (.loc 7)]) (.call f_law_typed [(.loc 3), (.loc 5), (.loc 6), (.loc 7)])) [
    .ret (.c (.bl false))] []]
def L_law_k02_1 : List S := [
  .unp (.t [(.n 5), (.n 6)]) (.tup [(.calli f_law_row 2 [(.c (.int 30))]), (.calli f_law_sheet 2 [(.loc 3), (.c (.int 8))])]),
  .if_ (.cop .ne (.call f_typed [(.loc 3), (.loc 5)]) (.call f_law_at_first [(.loc 3), (.loc 5)])) [
    .ret (.c (.bl false))] [],
  .for_ (.n 7) (.rng [(.bop .add (.idx (.loc 3) (.c (.int 0))) (.c (.int 1)))]) L_law_k02_0]
def L_law_k02_2 : List S := [
  .if_ (.cop .ne (.catch_ (.call f_typed [(.loc 3), (.loc 8)])) (.tup [(.c (.str [73, 110, 118, 97, 108, 105, 100, 82, 111, 119, 32, 43]))])) [
    .ret (.c (.bl false))] [],
  .if_ (.cop .ne (.catch_ (.call f_typed_on [(.loc 3), (.loc 8), (.c .non), (.c .non)])) (.tup [(.c (.str [73, 110, 118, 97, 108, 105, 100, 82, 111, 119, 32, 43]))])) [
    .ret (.c (.bl false))] []]
def L_law_k02_3 : List S := [
  .if_ (.cop .ne (.catch_ (.call f_typed_on [(.loc 3), (.loc 5), (.loc 8), (.c .non)])) (.tup [(.c (.str [73, 110, 118, 97, 108, 105, 100, 83, 104, 101, 101, 116, 32, 43]))])) [
    .ret (.c (.bl false))] []]
def L_law_k02_4 : List S := [
  .if_ (.cop .ne (.catch_ (.call f_typed_on [(.loc 3), (.loc 5), (.loc 6), (.loc 8)])) (.tup [(.c (.str [73, 110, 118, 97, 108, 105, 100, 67, 111, 108, 117, 109, 110, 32, 43]))])) [
    .ret (.c (.bl false))] []]
def L_law_k02_5 : List S := [
  .set 2 (.call f_law_crate [(.loc 0), (.loc 1)]),
  .set 3 (.calli f_law_machine 2 [(.c (.int 5))]),
  .for_ (.n 4) (.rng [(.c (.int 4))]) L_law_k02_1,
  .for_ (.n 8) (.seq (.lst [(.c .non), (.c (.str [100])), (.lst [(.c (.str [97]))]), (.bop .mul (.c (.str [97])) (.c (.int 31))), (.tup [(.c (.str [97]))]), (.c (.int 5))])) L_law_k02_2,
  .for_ (.n 8) (.seq (.lst [(.c .non), (.slc (.loc 6) (some (.c (.int 1))) none), (.blt .list [(.loc 6)]), (.bop .mul (.tup [(.c (.str [98, 97]))]) (.blt .len [(.loc 6)]))])) L_law_k02_3,
  .for_ (.n 8) (.seq (.lst [(.c .non), (.neg (.c (.int 1))), (.bop .add (.idx (.loc 3) (.c (.int 0))) (.c (.int 1))), (.c (.bl true)), (.c (.str [48]))])) L_law_k02_4]
/-- slots: script k crate machine turn row sheet column bad -/
def F_law_k02 : Fn := ⟨1, 9, false, [
  .for_ (.n 1) (.rng [(.blt .max2 [(.c (.int 1)), (.blt .min2 [(.c (.int 15)), (.blt .len [(.loc 0)])])])]) L_law_k02_5,
  .ret (.cop .eq (.call f_typed [(.tup [(.c (.int 2)), (.c (.int 2))]), (.c (.str [97, 98, 60, 60, 32, 32]))]) (.tup [(.tup [(.c (.str [97])), (.c (.str [98])), (.c (.str []))]), (.c (.int 2)), (.c (.int 2))]))]⟩
class K_law_k02 (G : Glob) (fs : Nat → Option Fn) : Prop extends K_law_crate G fs, K_law_machine G fs, K_typed G fs, K_law_row G fs, K_law_sheet G fs, K_law_at_first G fs, K_typed_on G fs, K_law_typed G fs where
  e_law_k02 : fs 90 = some F_law_k02 := by rfl
/-- slots: machine sight -/
def F_need_sight : Fn := ⟨2, 2, false, [
  .if_ (.not (.call f_is_sight_of [(.loc 0), (.loc 1)])) [
    .raise x_InvalidSight []] []]⟩
class K_need_sight (G : Glob) (fs : Nat → Option Fn) : Prop extends K_is_sight_of G fs where
  e_need_sight : fs 13 = some F_need_sight := by rfl
/-- slots: number -/
def F_need_number : Fn := ⟨1, 1, false, [
  .if_ (.not (.call f_is_int [(.loc 0), (.c (.int 0)), (.gl g_MOST_PRESSES)])) [
    .raise x_InvalidNumber []] []]⟩
class K_need_number (G : Glob) (fs : Nat → Option Fn) : Prop extends KG_MOST_PRESSES G, K_is_int G fs where
  e_need_number : fs 15 = some F_need_number := by rfl
def L_bits_of_0 : List S := [
  .seti 1 (.loc 3) (.loc 2),
  .set 2 (.bop .mul (.loc 2) (.c (.int 2)))]
/-- slots: sheet found bit mark -/
def F_bits_of : Fn := ⟨1, 4, false, [
  .par [(1, (.dn [])), (2, (.c (.int 1)))],
  .for_ (.n 3) (.seq (.call f_marks_of [(.loc 0)])) L_bits_of_0,
  .ret (.loc 1)]⟩
class K_bits_of (G : Glob) (fs : Nat → Option Fn) : Prop extends K_marks_of G fs where
  e_bits_of : fs 31 = some F_bits_of := by rfl
/-- slots: sheet -/
def F_whole : Fn := ⟨1, 1, false, [
  .ret (.sumv (.call f_bits_of [(.loc 0)]))]⟩
class K_whole (G : Glob) (fs : Nat → Option Fn) : Prop extends K_bits_of G fs where
  e_whole : fs 32 = some F_whole := by rfl
/-- slots: bits there mark -/
def F_with_bit : Fn := ⟨3, 3, false, [
  .ret (.ite (.cop .eq (.bop .mod (.bop .fdiv (.loc 1) (.idx (.loc 0) (.loc 2))) (.c (.int 2))) (.c (.int 1))) (.loc 1) (.bop .add (.loc 1) (.idx (.loc 0) (.loc 2))))]⟩
class K_with_bit (G : Glob) (fs : Nat → Option Fn) : Prop where
  e_with_bit : fs 33 = some F_with_bit := by rfl
/-- slots: machine bits bells stand press column there rung sign rings -/
def F_step : Fn := ⟨5, 10, false, [
  .unp (.t [(.n 5), (.n 6), (.n 7)]) (.loc 3),
  .set 8 (.call f_printed [(.loc 4)]),
  .if_ (.cop .ne (.loc 8) (.c (.str []))) [
    .if_ (.cop .notin (.tup [(.loc 5), (.loc 8)]) (.loc 1)) [
      .ret (.c .non)] [],
    .set 6 (.call f_with_bit [(.loc 1), (.loc 6), (.tup [(.loc 5), (.loc 8)])])] [],
  .unp (.t [(.n 5), (.n 9)]) (.call f_moved [(.loc 0), (.loc 5), (.loc 4)]),
  .if_ (.cop .isn (.loc 2) (.c .non)) [
    .ret (.tup [(.loc 5), (.loc 6), (.c (.int 0))])] [],
  .set 7 (.bop .add (.loc 7) (.blt .int [(.loc 9)])),
  .ret (.ite (.cop .le (.loc 7) (.loc 2)) (.tup [(.loc 5), (.loc 6), (.loc 7)]) (.c .non))]⟩
class K_step (G : Glob) (fs : Nat → Option Fn) : Prop extends K_printed G fs, K_moved G fs, K_with_bit G fs where
  e_step : fs 34 = some F_step := by rfl
/-- slots: machine bits bells stand pairs press pair -/
def F_steps : Fn := ⟨4, 7, false, [
  .set 4 (.lc (.tup [(.loc 5), (.call f_step [(.loc 0), (.loc 1), (.loc 2), (.loc 3), (.loc 5)])]) (.n 5) (.seq (.gl g_PRESSES)) [] [5]),
  .ret (.lc (.loc 6) (.n 6) (.seq (.loc 4)) [(.cop .notn (.idx (.loc 6) (.c (.int 1))) (.c .non))] [6])]⟩
class K_steps (G : Glob) (fs : Nat → Option Fn) : Prop extends KG_PRESSES G, K_step G fs where
  e_steps : fs 35 = some F_steps := by rfl
/-- slots: sight stand -/
def F_is_end : Fn := ⟨2, 2, false, [
  .ret (.and (.cop .eq (.idx (.loc 1) (.c (.int 1))) (.call f_whole [(.idx (.loc 0) (.c (.int 0)))])) (.or (.cop .isn (.idx (.loc 0) (.c (.int 1))) (.c .non)) (.cop .eq (.idx (.loc 1) (.c (.int 2))) (.idx (.loc 0) (.c (.int 1))))))]⟩
class K_is_end (G : Glob) (fs : Nat → Option Fn) : Prop extends K_whole G fs where
  e_is_end : fs 36 = some F_is_end := by rfl
def L_layers_0 : List S := [
  .seti 6 (.loc 10) (.bop .add (.get2 (.loc 6) (.loc 10) (.c (.int 0))) (.loc 8))]
def L_layers_1 : List S := [
  .for_ (.t [(.n 9), (.n 10)]) (.seq (.call f_steps [(.loc 0), (.loc 3), (.idx (.loc 1) (.c (.int 1))), (.loc 7)])) L_layers_0]
def L_layers_2 : List S := [
  .set 6 (.dn []),
  .for_ (.t [(.n 7), (.n 8)]) (.items (.idx (.loc 4) (.neg (.c (.int 1))))) L_layers_1,
  .app 4 (.loc 6)]
/-- slots: machine sight many bits found turn later stand rows press there -/
def F_layers : Fn := ⟨3, 11, false, [
  .set 3 (.call f_bits_of [(.idx (.loc 1) (.c (.int 0)))]),
  .set 4 (.lst [(.dn [((.gl g_BEGIN), (.c (.int 1)))])]),
  .for_ (.n 5) (.rng [(.loc 2)]) L_layers_2,
  .ret (.loc 4)]⟩
class K_layers (G : Glob) (fs : Nat → Option Fn) : Prop extends KG_BEGIN G, K_bits_of G fs, K_steps G fs where
  e_layers : fs 37 = some F_layers := by rfl
/-- slots: machine sight many last stand rows -/
def F_number_of : Fn := ⟨3, 6, false, [
  .set 3 (.idx (.call f_layers [(.loc 0), (.loc 1), (.loc 2)]) (.neg (.c (.int 1)))),
  .ret (.blt .sum [(.lc (.loc 5) (.t [(.n 4), (.n 5)]) (.items (.loc 3)) [(.call f_is_end [(.loc 1), (.loc 4)])] [4, 5])])]⟩
class K_number_of (G : Glob) (fs : Nat → Option Fn) : Prop extends K_layers G fs, K_is_end G fs where
  e_number_of : fs 39 = some F_number_of := by rfl
/-- slots: machine sight many -/
def F_count : Fn := ⟨3, 3, false, [
  .ex (.call f_need_machine [(.loc 0)]),
  .ex (.call f_need_sight [(.loc 0), (.loc 1)]),
  .ex (.call f_need_number [(.loc 2)]),
  .ret (.call f_number_of [(.loc 0), (.loc 1), (.loc 2)])]⟩
class K_count (G : Glob) (fs : Nat → Option Fn) : Prop extends K_need_machine G fs, K_need_sight G fs, K_need_number G fs, K_number_of G fs where
  e_count : fs 44 = some F_count := by rfl
/-- slots: sight spot -/
def F_law_goal : Fn := ⟨2, 2, false, [
  .ret (.and (.cop .eq (.blt .list [(.idx (.loc 1) (.c (.int 1)))]) (.call f_law_wants [(.idx (.loc 0) (.c (.int 0)))])) (.or (.cop .isn (.idx (.loc 0) (.c (.int 1))) (.c .non)) (.cop .eq (.idx (.loc 1) (.c (.int 2))) (.idx (.loc 0) (.c (.int 1))))))]⟩
class K_law_goal (G : Glob) (fs : Nat → Option Fn) : Prop extends K_law_wants G fs where
  e_law_goal : fs 102 = some F_law_goal := by rfl
/-- slots: machine sight wants spot done column there rung sign rings -/
def F_law_on : Fn := ⟨5, 10, false, [
  .unp (.t [(.n 5), (.n 6), (.n 7)]) (.loc 3),
  .set 8 (.call f_law_sign [(.loc 4)]),
  .if_ (.cop .ne (.loc 8) (.c (.str []))) [
    .if_ (.cop .notin (.tup [(.loc 5), (.loc 8)]) (.loc 2)) [
      .ret (.c .non)] [],
    .if_ (.cop .notin (.tup [(.loc 5), (.loc 8)]) (.loc 6)) [
      .set 6 (.blt .tuple [(.blt .sorted [(.bop .add (.loc 6) (.tup [(.tup [(.loc 5), (.loc 8)])]))])])] []] [],
  .unp (.t [(.n 5), (.n 9)]) (.call f_law_goes [(.loc 0), (.loc 5), (.loc 4)]),
  .if_ (.cop .isn (.idx (.loc 1) (.c (.int 1))) (.c .non)) [
    .ret (.tup [(.loc 5), (.loc 6), (.c (.int 0))])] [],
  .set 7 (.bop .add (.loc 7) (.blt .int [(.loc 9)])),
  .ret (.ite (.cop .le (.loc 7) (.idx (.loc 1) (.c (.int 1)))) (.tup [(.loc 5), (.loc 6), (.loc 7)]) (.c .non))]⟩
class K_law_on (G : Glob) (fs : Nat → Option Fn) : Prop extends K_law_sign G fs, K_law_goes G fs where
  e_law_on : fs 103 = some F_law_on := by rfl
def L_law_tables_0 : List S := [
  .set 9 (.call f_law_on [(.loc 0), (.loc 1), (.loc 3), (.loc 7), (.loc 8)]),
  .if_ (.cop .notn (.loc 9) (.c .non)) [
    .seti 6 (.loc 9) (.c (.bl true))] []]
def L_law_tables_1 : List S := [
  .for_ (.n 8) (.seq (.c (.str [32, 60, 65, 66, 67, 97, 98, 99]))) L_law_tables_0]
def L_law_tables_2 : List S := [
  .set 6 (.dn []),
  .for_ (.n 7) (.seq (.idx (.loc 4) (.neg (.c (.int 1))))) L_law_tables_1,
  .app 4 (.loc 6)]
def L_law_tables_3 : List S := [
  .set 13 (.lc (.call f_law_on [(.loc 0), (.loc 1), (.loc 3), (.loc 7), (.loc 8)]) (.n 8) (.seq (.c (.str [32, 60, 65, 66, 67, 97, 98, 99]))) [] [8]),
  .seti 12 (.loc 7) (.blt .sum [(.lc (.get2 (.idx (.loc 10) (.neg (.c (.int 1)))) (.loc 9) (.c (.int 0))) (.n 9) (.seq (.loc 13)) [] [9])])]
def L_law_tables_4 : List S := [
  .set 12 (.dn []),
  .for_ (.n 7) (.seq (.idx (.loc 4) (.bop .sub (.loc 2) (.loc 11)))) L_law_tables_3,
  .app 10 (.loc 12)]
/-- slots: machine sight many wants known turn later spot done there found left rows ways -/
def F_law_tables : Fn := ⟨3, 14, false, [
  .unp (.t [(.n 3), (.n 4)]) (.tup [(.call f_law_wants [(.idx (.loc 1) (.c (.int 0)))]), (.lst [(.dn [((.tup [(.c (.int 0)), (.tup []), (.c (.int 0))]), (.c (.bl true)))])])]),
  .for_ (.n 5) (.rng [(.loc 2)]) L_law_tables_2,
  .set 10 (.lst [(.blt .dictp [(.lc (.tup [(.loc 7), (.c (.int 1))]) (.n 7) (.seq (.idx (.loc 4) (.loc 2))) [(.call f_law_goal [(.loc 1), (.loc 7)])] [7])])]),
  .for_ (.n 11) (.rng [(.c (.int 1)), (.bop .add (.loc 2) (.c (.int 1)))]) L_law_tables_4,
  .ret (.loc 10)]⟩
class K_law_tables (G : Glob) (fs : Nat → Option Fn) : Prop extends K_law_wants G fs, K_law_on G fs, K_law_goal G fs where
  e_law_tables : fs 104 = some F_law_tables := by rfl
/-- slots: machine sight many -/
def F_law_count : Fn := ⟨3, 3, false, [
  .ret (.get2 (.idx (.call f_law_tables [(.loc 0), (.loc 1), (.loc 2)]) (.neg (.c (.int 1)))) (.tup [(.c (.int 0)), (.tup []), (.c (.int 0))]) (.c (.int 0)))]⟩
class K_law_count (G : Glob) (fs : Nat → Option Fn) : Prop extends K_law_tables G fs where
  e_law_count : fs 105 = some F_law_count := by rfl
def L_law_k03_0 : List S := [
  .unp (.t [(.n 5), (.n 6)]) (.tup [(.calli f_law_sight 2 [(.loc 3), (.c (.int 5))]), (.calli f_law_dig 2 [(.c (.int 13))])]),
  .if_ (.cop .ne (.call f_count [(.loc 3), (.loc 5), (.loc 6)]) (.call f_law_count [(.loc 3), (.loc 5), (.loc 6)])) [
    .ret (.c (.bl false))] []]
def L_law_k03_1 : List S := [
  .if_ (.cop .ne (.catch_ (.call f_count [(.loc 3), (.loc 8), (.c .non)])) (.tup [(.c (.str [73, 110, 118, 97, 108, 105, 100, 83, 105, 103, 104, 116, 32, 43]))])) [
    .ret (.c (.bl false))] []]
def L_law_k03_2 : List S := [
  .if_ (.cop .ne (.catch_ (.call f_count [(.loc 3), (.loc 5), (.loc 8)])) (.tup [(.c (.str [73, 110, 118, 97, 108, 105, 100, 78, 117, 109, 98, 101, 114, 32, 43]))])) [
    .ret (.c (.bl false))] []]
def L_law_k03_3 : List S := [
  .set 2 (.call f_law_crate [(.loc 0), (.loc 1)]),
  .set 3 (.calli f_law_machine 2 [(.c (.int 5))]),
  .for_ (.n 4) (.rng [(.c (.int 3))]) L_law_k03_0,
  .set 7 (.calli f_law_sight 2 [(.loc 3), (.c (.int 2))]),
  .if_ (.cop .ne (.call f_count [(.loc 3), (.loc 7), (.c (.int 30))]) (.call f_law_count [(.loc 3), (.loc 7), (.c (.int 30))])) [
    .ret (.c (.bl false))] [],
  .for_ (.n 8) (.seq (.lst [(.c .non), (.slc (.loc 5) none (some (.c (.int 1)))), (.blt .list [(.loc 5)]), (.tup [(.idx (.loc 5) (.c (.int 0))), (.c (.int 6))]), (.tup [(.idx (.loc 5) (.c (.int 0))), (.c (.bl true))]), (.tup [(.slc (.idx (.loc 5) (.c (.int 0))) (some (.c (.int 1))) none), (.c .non)])])) L_law_k03_1,
  .for_ (.n 8) (.seq (.lst [(.c .non), (.neg (.c (.int 1))), (.c (.int 31)), (.c (.bl true)), (.c (.str [50]))])) L_law_k03_2]
/-- slots: script k crate machine turn sight many small bad -/
def F_law_k03 : Fn := ⟨1, 9, false, [
  .for_ (.n 1) (.rng [(.blt .max2 [(.c (.int 1)), (.blt .min2 [(.c (.int 6)), (.blt .len [(.loc 0)])])])]) L_law_k03_3,
  .ret (.cop .eq (.call f_count [(.tup [(.c (.int 2)), (.c (.int 2))]), (.tup [(.tup [(.c (.str [97, 98])), (.c (.str [])), (.c (.str []))]), (.c .non)]), (.c (.int 3))]) (.c (.int 32)))]⟩
class K_law_k03 (G : Glob) (fs : Nat → Option Fn) : Prop extends K_law_crate G fs, K_law_machine G fs, K_law_sight G fs, K_count G fs, K_law_count G fs, K_law_dig G fs where
  e_law_k03 : fs 90 = some F_law_k03 := by rfl
/-- slots: index many -/
def F_need_index : Fn := ⟨2, 2, false, [
  .if_ (.not (.call f_is_int [(.loc 0), (.c (.int 0)), (.bop .sub (.loc 1) (.c (.int 1)))])) [
    .raise x_InvalidIndex []] []]⟩
class K_need_index (G : Glob) (fs : Nat → Option Fn) : Prop extends K_is_int G fs where
  e_need_index : fs 17 = some F_need_index := by rfl
def L_ways_on_0 : List S := [
  .set 9 (.blt .sum [(.lc (.get2 (.idx (.loc 5) (.neg (.c (.int 1)))) (.loc 11) (.c (.int 0))) (.t [(.n 10), (.n 11)]) (.seq (.call f_steps [(.loc 0), (.loc 3), (.idx (.loc 1) (.c (.int 1))), (.loc 6)])) [] [10, 11])]),
  .if_ (.cop .gt (.loc 9) (.c (.int 0))) [
    .seti 8 (.loc 6) (.loc 9)] []]
def L_ways_on_1 : List S := [
  .set 8 (.dn []),
  .for_ (.n 6) (.seq (.idx (.loc 4) (.bop .sub (.loc 2) (.loc 7)))) L_ways_on_0,
  .app 5 (.loc 8)]
/-- slots: machine sight many bits known found stand left earlier rows press there -/
def F_ways_on : Fn := ⟨3, 12, false, [
  .set 3 (.call f_bits_of [(.idx (.loc 1) (.c (.int 0)))]),
  .set 4 (.call f_layers [(.loc 0), (.loc 1), (.loc 2)]),
  .set 5 (.lst [(.dc (.loc 6) (.c (.int 1)) (.n 6) (.seq (.idx (.loc 4) (.loc 2))) [(.call f_is_end [(.loc 1), (.loc 6)])] [6])]),
  .for_ (.n 7) (.rng [(.c (.int 1)), (.bop .add (.loc 2) (.c (.int 1)))]) L_ways_on_1,
  .ret (.loc 5)]⟩
class K_ways_on (G : Glob) (fs : Nat → Option Fn) : Prop extends K_bits_of G fs, K_layers G fs, K_is_end G fs, K_steps G fs where
  e_ways_on : fs 38 = some F_ways_on := by rfl
def L_row_by_0 : List S := [
  .set 11 (.get2 (.idx (.loc 4) (.loc 8)) (.loc 10) (.c (.int 0))),
  .if_ (.cop .lt (.loc 3) (.loc 11)) [
    .par [(6, (.bop .add (.loc 6) (.loc 9))), (7, (.loc 10))],
    .brk] [],
  .set 3 (.bop .sub (.loc 3) (.loc 11))]
def L_row_by_1 : List S := [
  .for_ (.t [(.n 9), (.n 10)]) (.seq (.call f_steps [(.loc 0), (.loc 5), (.idx (.loc 1) (.c (.int 1))), (.loc 7)])) L_row_by_0]
/-- slots: machine sight many index onward bits found stand left press there rows -/
def F_row_by : Fn := ⟨4, 12, false, [
  .par [(4, (.call f_ways_on [(.loc 0), (.loc 1), (.loc 2)])), (5, (.call f_bits_of [(.idx (.loc 1) (.c (.int 0)))]))],
  .par [(6, (.c (.str []))), (7, (.gl g_BEGIN))],
  .for_ (.n 8) (.rng [(.bop .sub (.loc 2) (.c (.int 1))), (.neg (.c (.int 1))), (.neg (.c (.int 1)))]) L_row_by_1,
  .ret (.loc 6)]⟩
class K_row_by (G : Glob) (fs : Nat → Option Fn) : Prop extends KG_BEGIN G, K_ways_on G fs, K_bits_of G fs, K_steps G fs where
  e_row_by : fs 40 = some F_row_by := by rfl
def L_index_by_0 : List S := [
  .if_ (.cop .eq (.loc 10) (.loc 8)) [
    .set 6 (.loc 11),
    .brk] [],
  .set 5 (.bop .add (.loc 5) (.get2 (.idx (.loc 3) (.loc 9)) (.loc 11) (.c (.int 0))))]
def L_index_by_1 : List S := [
  .set 9 (.bop .sub (.bop .sub (.blt .len [(.loc 2)]) (.c (.int 1))) (.loc 7)),
  .for_ (.t [(.n 10), (.n 11)]) (.seq (.call f_steps [(.loc 0), (.loc 4), (.idx (.loc 1) (.c (.int 1))), (.loc 6)])) L_index_by_0]
/-- slots: machine sight row onward bits found stand at done left press there -/
def F_index_by : Fn := ⟨3, 12, false, [
  .par [(3, (.call f_ways_on [(.loc 0), (.loc 1), (.blt .len [(.loc 2)])])), (4, (.call f_bits_of [(.idx (.loc 1) (.c (.int 0)))]))],
  .par [(5, (.c (.int 0))), (6, (.gl g_BEGIN))],
  .for_ (.t [(.n 7), (.n 8)]) (.enum (.loc 2)) L_index_by_1,
  .ret (.loc 5)]⟩
class K_index_by (G : Glob) (fs : Nat → Option Fn) : Prop extends KG_BEGIN G, K_ways_on G fs, K_bits_of G fs, K_steps G fs where
  e_index_by : fs 41 = some F_index_by := by rfl
/-- slots: machine sight many index -/
def F_row_at : Fn := ⟨4, 4, false, [
  .ex (.call f_need_machine [(.loc 0)]),
  .ex (.call f_need_sight [(.loc 0), (.loc 1)]),
  .ex (.call f_need_number [(.loc 2)]),
  .ex (.call f_need_index [(.loc 3), (.call f_number_of [(.loc 0), (.loc 1), (.loc 2)])]),
  .ret (.call f_row_by [(.loc 0), (.loc 1), (.loc 2), (.loc 3)])]⟩
class K_row_at (G : Glob) (fs : Nat → Option Fn) : Prop extends K_need_machine G fs, K_need_sight G fs, K_need_number G fs, K_need_index G fs, K_row_by G fs, K_number_of G fs where
  e_row_at : fs 45 = some F_row_at := by rfl
/-- slots: machine row bells sheet column rung -/
def F_place_of : Fn := ⟨3, 6, false, [
  .ex (.call f_need_machine [(.loc 0)]),
  .ex (.call f_need_row [(.loc 1)]),
  .if_ (.not (.isi (.loc 2) [.bool])) [
    .raise x_InvalidTruth []] [],
  .unp (.t [(.n 3), (.n 4), (.n 5)]) (.call f_at_first [(.loc 0), (.loc 1)]),
  .if_ (.cop .gt (.call f_total [(.loc 3)]) (.gl g_MOST_MARKS)) [
    .raise x_TooMany [(.gl g_MOST_MARKS)]] [],
  .if_ (.and (.loc 2) (.cop .gt (.loc 5) (.gl g_MOST_BELLS))) [
    .raise x_TooMany [(.gl g_MOST_BELLS)]] [],
  .ret (.call f_index_by [(.loc 0), (.tup [(.loc 3), (.ite (.loc 2) (.loc 5) (.c .non))]), (.loc 1)])]⟩
class K_place_of (G : Glob) (fs : Nat → Option Fn) : Prop extends KG_MOST_MARKS G, KG_MOST_BELLS G, K_need_machine G fs, K_need_row G fs, K_at_first G fs, K_index_by G fs, K_total G fs where
  e_place_of : fs 46 = some F_place_of := by rfl
def L_law_row_by_0 : List S := [
  .set 10 (.call f_law_on [(.loc 0), (.loc 1), (.loc 5), (.loc 6), (.loc 9)]),
  .set 11 (.ite (.cop .isn (.loc 10) (.c .non)) (.c (.int 0)) (.get2 (.idx (.loc 4) (.loc 8)) (.loc 10) (.c (.int 0)))),
  .if_ (.cop .ge (.loc 3) (.loc 11)) [
    .set 3 (.bop .sub (.loc 3) (.loc 11))] [
    .par [(7, (.bop .add (.loc 7) (.loc 9))), (6, (.loc 10))],
    .brk]]
def L_law_row_by_1 : List S := [
  .for_ (.n 9) (.seq (.c (.str [32, 60, 65, 66, 67, 97, 98, 99]))) L_law_row_by_0]
/-- slots: machine sight many index tables wants spot found left done there rows -/
def F_law_row_by : Fn := ⟨4, 12, false, [
  .unp (.t [(.n 4), (.n 5), (.n 6), (.n 7)]) (.tup [(.call f_law_tables [(.loc 0), (.loc 1), (.loc 2)]), (.call f_law_wants [(.idx (.loc 1) (.c (.int 0)))]), (.tup [(.c (.int 0)), (.tup []), (.c (.int 0))]), (.c (.str []))]),
  .for_ (.n 8) (.rng [(.bop .sub (.loc 2) (.c (.int 1))), (.neg (.c (.int 1))), (.neg (.c (.int 1)))]) L_law_row_by_1,
  .ret (.loc 7)]⟩
class K_law_row_by (G : Glob) (fs : Nat → Option Fn) : Prop extends K_law_tables G fs, K_law_wants G fs, K_law_on G fs where
  e_law_row_by : fs 106 = some F_law_row_by := by rfl
def L_law_index_of_0 : List S := [
  .set 9 (.call f_law_on [(.loc 0), (.loc 1), (.loc 4), (.loc 5), (.loc 8)]),
  .if_ (.and (.cop .lt (.loc 8) (.idx (.loc 2) (.loc 7))) (.cop .notn (.loc 9) (.c .non))) [
    .set 6 (.bop .add (.loc 6) (.get2 (.idx (.loc 3) (.bop .sub (.bop .sub (.blt .len [(.loc 2)]) (.c (.int 1))) (.loc 7))) (.loc 9) (.c (.int 0))))] []]
def L_law_index_of_1 : List S := [
  .for_ (.n 8) (.seq (.c (.str [32, 60, 65, 66, 67, 97, 98, 99]))) L_law_index_of_0,
  .set 5 (.call f_law_on [(.loc 0), (.loc 1), (.loc 4), (.loc 5), (.idx (.loc 2) (.loc 7))])]
/-- slots: machine sight row tables wants spot found at done there -/
def F_law_index_of : Fn := ⟨3, 10, false, [
  .unp (.t [(.n 3), (.n 4), (.n 5), (.n 6)]) (.tup [(.call f_law_tables [(.loc 0), (.loc 1), (.blt .len [(.loc 2)])]), (.call f_law_wants [(.idx (.loc 1) (.c (.int 0)))]), (.tup [(.c (.int 0)), (.tup []), (.c (.int 0))]), (.c (.int 0))]),
  .for_ (.n 7) (.rng [(.blt .len [(.loc 2)])]) L_law_index_of_1,
  .ret (.loc 6)]⟩
class K_law_index_of (G : Glob) (fs : Nat → Option Fn) : Prop extends K_law_tables G fs, K_law_wants G fs, K_law_on G fs where
  e_law_index_of : fs 107 = some F_law_index_of := by rfl
/-- slots: machine row bells sheet column rung -/
def F_law_place_due : Fn := ⟨3, 6, false, [
  .unp (.t [(.n 3), (.n 4), (.n 5)]) (.call f_law_at_first [(.loc 0), (.loc 1)]),
  .if_ (.cop .gt (.call f_law_total [(.loc 3)]) (.c (.int 8))) [
    .ret (.tup [(.c (.str [84, 111, 111, 77, 97, 110, 121, 32, 43])), (.c (.int 8))])] [],
  .if_ (.and (.loc 2) (.cop .gt (.loc 5) (.c (.int 5)))) [
    .ret (.tup [(.c (.str [84, 111, 111, 77, 97, 110, 121, 32, 43])), (.c (.int 5))])] [],
  .ret (.tup [(.c (.str [116, 111, 108, 100])), (.call f_law_index_of [(.loc 0), (.tup [(.loc 3), (.ite (.loc 2) (.loc 5) (.c .non))]), (.loc 1)])])]⟩
class K_law_place_due (G : Glob) (fs : Nat → Option Fn) : Prop extends K_law_at_first G fs, K_law_total G fs, K_law_index_of G fs where
  e_law_place_due : fs 108 = some F_law_place_due := by rfl
def L_law_k04_0 : List S := [
  .if_ (.chn .le .lt (.c (.int 0)) (.loc 8) (.loc 7)) [
    .if_ (.cop .ne (.call f_row_at [(.loc 3), (.loc 5), (.loc 6), (.loc 8)]) (.call f_law_row_by [(.loc 3), (.loc 5), (.loc 6), (.loc 8)])) [
      .ret (.c (.bl false))] []] []]
def L_law_k04_1 : List S := [
  .if_ (.cop .ne (.catch_ (.call f_row_at [(.loc 3), (.loc 5), (.loc 6), (.loc 9)])) (.tup [(.c (.str [73, 110, 118, 97, 108, 105, 100, 73, 110, 100, 101, 120, 32, 43]))])) [
    .ret (.c (.bl false))] []]
def L_law_k04_2 : List S := [
  .unp (.t [(.n 5), (.n 6)]) (.tup [(.calli f_law_sight 2 [(.loc 3), (.c (.int 4))]), (.calli f_law_dig 2 [(.c (.int 11))])]),
  .set 7 (.call f_law_count [(.loc 3), (.loc 5), (.loc 6)]),
  .for_ (.n 8) (.seq (.lst [(.c (.int 0)), (.bop .sub (.loc 7) (.c (.int 1))), (.calli f_law_dig 2 [(.blt .max2 [(.c (.int 1)), (.loc 7)])]), (.bop .fdiv (.loc 7) (.c (.int 2)))])) L_law_k04_0,
  .for_ (.n 9) (.seq (.lst [(.c .non), (.neg (.c (.int 1))), (.loc 7), (.c (.bl true)), (.c (.str [48]))])) L_law_k04_1]
def L_law_k04_3 : List S := [
  .if_ (.cop .ne (.catch_ (.call f_place_of [(.loc 3), (.loc 11), (.loc 12)])) (.call f_law_place_due [(.loc 3), (.loc 11), (.loc 12)])) [
    .ret (.c (.bl false))] []]
def L_law_k04_4 : List S := [
  .for_ (.n 12) (.seq (.tup [(.c (.bl true)), (.c (.bl false))])) L_law_k04_3]
def L_law_k04_5 : List S := [
  .if_ (.cop .ne (.catch_ (.call f_place_of [(.loc 3), (.loc 11), (.loc 9)])) (.tup [(.c (.str [73, 110, 118, 97, 108, 105, 100, 84, 114, 117, 116, 104, 32, 43]))])) [
    .ret (.c (.bl false))] []]
def L_law_k04_6 : List S := [
  .set 2 (.call f_law_crate [(.loc 0), (.loc 1)]),
  .set 3 (.calli f_law_machine 2 [(.c (.int 5))]),
  .for_ (.n 4) (.rng [(.c (.int 2))]) L_law_k04_2,
  .set 10 (.ite (.cop .lt (.idx (.loc 3) (.c (.int 0))) (.c (.int 3))) (.c (.str [32, 60, 32, 60, 32, 60, 32, 60, 32, 60, 32, 60, 32, 60])) (.c (.str [32, 60, 32]))),
  .for_ (.n 11) (.seq (.tup [(.calli f_law_row 2 [(.c (.int 9))]), (.bop .mul (.c (.str [97, 98, 99])) (.c (.int 3))), (.bop .add (.calli f_law_row 2 [(.c (.int 6))]) (.loc 10))])) L_law_k04_4,
  .for_ (.n 9) (.seq (.lst [(.c .non), (.c (.int 1)), (.c (.int 0)), (.c (.str [])), (.tup [])])) L_law_k04_5,
  .if_ (.cop .ne (.catch_ (.call f_place_of [(.loc 3), (.c (.str [100])), (.c .non)])) (.tup [(.c (.str [73, 110, 118, 97, 108, 105, 100, 82, 111, 119, 32, 43]))])) [
    .ret (.c (.bl false))] []]
/-- slots: script k crate machine turn sight many rows index bad tail row bells -/
def F_law_k04 : Fn := ⟨1, 13, false, [
  .for_ (.n 1) (.rng [(.blt .max2 [(.c (.int 1)), (.blt .min2 [(.c (.int 5)), (.blt .len [(.loc 0)])])])]) L_law_k04_6,
  .ret (.cop .eq (.call f_row_at [(.tup [(.c (.int 2)), (.c (.int 2))]), (.tup [(.tup [(.c (.str [97, 98])), (.c (.str [])), (.c (.str []))]), (.c .non)]), (.c (.int 3)), (.c (.int 0))]) (.c (.str [60, 65, 66])))]⟩
class K_law_k04 (G : Glob) (fs : Nat → Option Fn) : Prop extends K_law_crate G fs, K_law_machine G fs, K_row_at G fs, K_law_count G fs, K_law_row G fs, K_law_sight G fs, K_law_dig G fs, K_law_place_due G fs, K_place_of G fs, K_law_row_by G fs where
  e_law_k04 : fs 90 = some F_law_k04 := by rfl
def L_fewest_by_0 : List S := [
  .if_ (.blt .any [(.lc (.call f_is_end [(.loc 1), (.loc 4)]) (.n 4) (.seq (.loc 3)) [] [4])]) [
    .ret (.loc 2)] []]
/-- slots: machine sight many stands stand -/
def F_fewest_by : Fn := ⟨2, 5, false, [
  .for_ (.t [(.n 2), (.n 3)]) (.enum (.call f_layers [(.loc 0), (.loc 1), (.gl g_MOST_PRESSES)])) L_fewest_by_0,
  .ret (.c .non)]⟩
class K_fewest_by (G : Glob) (fs : Nat → Option Fn) : Prop extends KG_MOST_PRESSES G, K_layers G fs, K_is_end G fs where
  e_fewest_by : fs 42 = some F_fewest_by := by rfl
/-- slots: sheet mark column sign -/
def F_without_mark : Fn := ⟨2, 4, false, [
  .unp (.t [(.n 2), (.n 3)]) (.loc 1),
  .ret (.bop .add (.bop .add (.slc (.loc 0) none (some (.loc 2))) (.tup [(.met .replace (.idx (.loc 0) (.loc 2)) [(.loc 3), (.c (.str []))])])) (.slc (.loc 0) (some (.bop .add (.loc 2) (.c (.int 1)))) none))]⟩
class K_without_mark (G : Glob) (fs : Nat → Option Fn) : Prop where
  e_without_mark : fs 43 = some F_without_mark := by rfl
/-- slots: machine sight -/
def F_fewest : Fn := ⟨2, 2, false, [
  .ex (.call f_need_machine [(.loc 0)]),
  .ex (.call f_need_sight [(.loc 0), (.loc 1)]),
  .ret (.call f_fewest_by [(.loc 0), (.loc 1)])]⟩
class K_fewest (G : Glob) (fs : Nat → Option Fn) : Prop extends K_need_machine G fs, K_need_sight G fs, K_fewest_by G fs where
  e_fewest : fs 47 = some F_fewest := by rfl
/-- slots: machine sight many -/
def F_fewest_row : Fn := ⟨2, 3, false, [
  .ex (.call f_need_machine [(.loc 0)]),
  .ex (.call f_need_sight [(.loc 0), (.loc 1)]),
  .set 2 (.call f_fewest_by [(.loc 0), (.loc 1)]),
  .ret (.ite (.cop .isn (.loc 2) (.c .non)) (.c .non) (.call f_row_by [(.loc 0), (.loc 1), (.loc 2), (.c (.int 0))]))]⟩
class K_fewest_row (G : Glob) (fs : Nat → Option Fn) : Prop extends K_need_machine G fs, K_need_sight G fs, K_fewest_by G fs, K_row_by G fs where
  e_fewest_row : fs 48 = some F_fewest_row := by rfl
def L_barring_0 : List S := [
  .if_ (.cop .notn (.call f_fewest_by [(.loc 0), (.tup [(.call f_without_mark [(.idx (.loc 1) (.c (.int 0))), (.loc 3)]), (.idx (.loc 1) (.c (.int 1)))])]) (.c .non)) [
    .app 2 (.loc 3)] []]
/-- slots: machine sight found mark -/
def F_barring : Fn := ⟨2, 4, false, [
  .ex (.call f_need_machine [(.loc 0)]),
  .ex (.call f_need_sight [(.loc 0), (.loc 1)]),
  .if_ (.cop .notn (.call f_fewest_by [(.loc 0), (.loc 1)]) (.c .non)) [
    .ret (.lst [])] [],
  .set 2 (.lst []),
  .for_ (.n 3) (.seq (.call f_marks_of [(.idx (.loc 1) (.c (.int 0)))])) L_barring_0,
  .ret (.loc 2)]⟩
class K_barring (G : Glob) (fs : Nat → Option Fn) : Prop extends K_need_machine G fs, K_need_sight G fs, K_marks_of G fs, K_fewest_by G fs, K_without_mark G fs where
  e_barring : fs 49 = some F_barring := by rfl
def L_law_least_0 : List S := [
  .set 10 (.call f_law_on [(.loc 0), (.loc 1), (.loc 2), (.loc 6), (.loc 9)]),
  .if_ (.and (.cop .notn (.loc 10) (.c .non)) (.cop .gt (.get2 (.loc 8) (.loc 10) (.c (.str [122]))) (.bop .add (.loc 7) (.loc 9)))) [
    .seti 8 (.loc 10) (.bop .add (.loc 7) (.loc 9))] []]
def L_law_least_1 : List S := [
  .for_ (.n 9) (.seq (.c (.str [32, 60, 65, 66, 67, 97, 98, 99]))) L_law_least_0]
def L_law_least_2 : List S := [
  .set 5 (.blt .sorted [(.lc (.loc 7) (.t [(.n 6), (.n 7)]) (.items (.loc 3)) [(.call f_law_goal [(.loc 1), (.loc 6)])] [6, 7])]),
  .if_ (.cop .ne (.loc 5) (.lst [])) [
    .ret (.tup [(.loc 4), (.idx (.loc 5) (.c (.int 0)))])] [],
  .set 8 (.dn []),
  .for_ (.t [(.n 6), (.n 7)]) (.items (.loc 3)) L_law_least_1,
  .set 3 (.loc 8)]
/-- slots: machine sight wants line many good spot row later done there -/
def F_law_least : Fn := ⟨2, 11, false, [
  .par [(2, (.call f_law_wants [(.idx (.loc 1) (.c (.int 0)))])), (3, (.dn [((.tup [(.c (.int 0)), (.tup []), (.c (.int 0))]), (.c (.str [])))]))],
  .for_ (.n 4) (.rng [(.c (.int 31))]) L_law_least_2,
  .ret (.tup [(.c .non), (.c .non)])]⟩
class K_law_least (G : Glob) (fs : Nat → Option Fn) : Prop extends K_law_wants G fs, K_law_on G fs, K_law_goal G fs where
  e_law_least : fs 145 = some F_law_least := by rfl
def L_law_barring_0 : List S := [
  .set 5 (.blt .list [(.idx (.loc 1) (.c (.int 0)))]),
  .seti 5 (.loc 3) (.met .replace (.idx (.loc 5) (.loc 3)) [(.loc 4), (.c (.str []))]),
  .if_ (.cop .notn (.idx (.call f_law_least [(.loc 0), (.tup [(.blt .tuple [(.loc 5)]), (.idx (.loc 1) (.c (.int 1)))])]) (.c (.int 0))) (.c .non)) [
    .app 2 (.tup [(.loc 3), (.loc 4)])] []]
/-- slots: machine sight found column sign cells -/
def F_law_barring : Fn := ⟨2, 6, false, [
  .if_ (.cop .notn (.idx (.call f_law_least [(.loc 0), (.loc 1)]) (.c (.int 0))) (.c .non)) [
    .ret (.lst [])] [],
  .set 2 (.lst []),
  .for_ (.t [(.n 3), (.n 4)]) (.seq (.call f_law_wants [(.idx (.loc 1) (.c (.int 0)))])) L_law_barring_0,
  .ret (.loc 2)]⟩
class K_law_barring (G : Glob) (fs : Nat → Option Fn) : Prop extends K_law_wants G fs, K_law_least G fs where
  e_law_barring : fs 141 = some F_law_barring := by rfl
def L_law_k05_0 : List S := [
  .set 5 (.calli f_law_sight 2 [(.loc 3), (.c (.int 5))]),
  .set 6 (.call f_law_least [(.loc 3), (.loc 5)]),
  .if_ (.cop .ne (.tup [(.call f_fewest [(.loc 3), (.loc 5)]), (.call f_fewest_row [(.loc 3), (.loc 5)])]) (.loc 6)) [
    .ret (.c (.bl false))] []]
def L_law_k05_1 : List S := [
  .set 8 (.call f_barring [(.loc 3), (.loc 5)]),
  .if_ (.or (.cop .ne (.loc 8) (.call f_law_barring [(.loc 3), (.loc 5)])) (.not (.isi (.loc 8) [.list]))) [
    .ret (.c (.bl false))] [],
  .if_ (.cop .ne (.call f_fewest [(.loc 3), (.loc 5)]) (.idx (.call f_law_least [(.loc 3), (.loc 5)]) (.c (.int 0)))) [
    .ret (.c (.bl false))] []]
def L_law_k05_2 : List S := [
  .if_ (.cop .ne (.catch_ (.callv 9 [(.loc 3), (.slc (.loc 5) none (some (.c (.int 1))))])) (.tup [(.c (.str [73, 110, 118, 97, 108, 105, 100, 83, 105, 103, 104, 116, 32, 43]))])) [
    .ret (.c (.bl false))] [],
  .if_ (.cop .ne (.catch_ (.callv 9 [(.tup [(.c (.int 2)), (.c (.int 3))]), (.c .non)])) (.tup [(.c (.str [73, 110, 118, 97, 108, 105, 100, 77, 97, 99, 104, 105, 110, 101, 32, 43]))])) [
    .ret (.c (.bl false))] []]
def L_law_k05_3 : List S := [
  .set 2 (.call f_law_crate [(.loc 0), (.loc 1)]),
  .set 3 (.calli f_law_machine 2 [(.c (.int 5))]),
  .for_ (.n 4) (.rng [(.c (.int 2))]) L_law_k05_0,
  .set 7 (.calli f_law_sheet 2 [(.loc 3), (.c (.int 3))]),
  .for_ (.n 5) (.seq (.tup [(.tup [(.loc 7), (.c (.int 0))]), (.tup [(.loc 7), (.c (.int 1))])])) L_law_k05_1,
  .for_ (.n 9) (.seq (.tup [(.fnv f_fewest), (.fnv f_fewest_row), (.fnv f_barring)])) L_law_k05_2]
/-- slots: script k crate machine turn sight due sheet found call_so -/
def F_law_k05 : Fn := ⟨1, 10, false, [
  .for_ (.n 1) (.rng [(.blt .max2 [(.c (.int 1)), (.blt .min2 [(.c (.int 5)), (.blt .len [(.loc 0)])])])]) L_law_k05_3,
  .ret (.cop .eq (.call f_fewest_row [(.tup [(.c (.int 2)), (.c (.int 2))]), (.tup [(.tup [(.c (.str [])), (.c (.str [])), (.c (.str [99]))]), (.c (.int 2))])]) (.c (.str [32, 32, 60, 32, 67])))]⟩
class K_law_k05 (G : Glob) (fs : Nat → Option Fn) : Prop extends K_law_crate G fs, K_law_machine G fs, K_law_sheet G fs, K_fewest G fs, K_fewest_row G fs, K_barring G fs, K_law_sight G fs, K_law_least G fs, K_law_barring G fs where
  e_law_k05 : fs 90 = some F_law_k05 := by rfl
def L_law_every_row_0 : List S := [
  .set 3 (.bop .add (.loc 3) (.lc (.bop .add (.loc 4) (.loc 5)) (.n 5) (.seq (.c (.str [32, 60, 65, 66, 67, 97, 98, 99]))) [] [5]))]
def L_law_every_row_1 : List S := [
  .set 3 (.lst []),
  .for_ (.n 4) (.seq (.loc 1)) L_law_every_row_0,
  .set 1 (.loc 3)]
/-- slots: many found turn longer row done -/
def F_law_every_row : Fn := ⟨1, 6, false, [
  .set 1 (.lst [(.c (.str []))]),
  .for_ (.n 2) (.rng [(.loc 0)]) L_law_every_row_1,
  .ret (.loc 1)]⟩
class K_law_every_row (G : Glob) (fs : Nat → Option Fn) : Prop where
  e_law_every_row : fs 109 = some F_law_every_row := by rfl
/-- slots: machine sight row sheet column bells -/
def F_law_fits : Fn := ⟨3, 6, false, [
  .unp (.t [(.n 3), (.n 4), (.n 5)]) (.call f_typed [(.loc 0), (.loc 2)]),
  .ret (.and (.cop .eq (.loc 3) (.idx (.loc 1) (.c (.int 0)))) (.or (.cop .isn (.idx (.loc 1) (.c (.int 1))) (.c .non)) (.cop .eq (.loc 5) (.idx (.loc 1) (.c (.int 1))))))]⟩
class K_law_fits (G : Glob) (fs : Nat → Option Fn) : Prop extends K_typed G fs where
  e_law_fits : fs 110 = some F_law_fits := by rfl
def L_law_k06_0 : List S := [
  .set 10 (.lc (.loc 11) (.n 11) (.seq (.call f_law_every_row [(.loc 9)])) [(.call f_law_fits [(.loc 3), (.loc 7), (.loc 11)])] [11]),
  .app 8 (.blt .len [(.loc 10)]),
  .if_ (.cop .ne (.call f_count [(.loc 3), (.loc 7), (.loc 9)]) (.blt .len [(.loc 10)])) [
    .ret (.c (.bl false))] [],
  .if_ (.cop .ne (.lc (.call f_row_at [(.loc 3), (.loc 7), (.loc 9), (.loc 12)]) (.n 12) (.rng [(.blt .len [(.loc 10)])]) [] [12]) (.loc 10)) [
    .ret (.c (.bl false))] [],
  .if_ (.cop .isn (.idx (.loc 7) (.c (.int 1))) (.c .non)) [
    .set 13 (.lc (.call f_place_of [(.loc 3), (.loc 11), (.c (.bl false))]) (.n 11) (.seq (.loc 10)) [] [11])] [
    .set 13 (.lc (.call f_place_of [(.loc 3), (.loc 11), (.c (.bl true))]) (.n 11) (.seq (.loc 10)) [] [11])],
  .if_ (.cop .ne (.loc 13) (.lrng [(.blt .len [(.loc 10)])])) [
    .ret (.c (.bl false))] []]
def L_law_k06_1 : List S := [
  .set 8 (.lst []),
  .for_ (.n 9) (.rng [(.c (.int 4))]) L_law_k06_0,
  .set 14 (.lc (.loc 9) (.n 9) (.rng [(.c (.int 4))]) [(.cop .gt (.idx (.loc 8) (.loc 9)) (.c (.int 0)))] [9]),
  .if_ (.or (.cop .eq (.loc 14) (.lst [])) (.cop .ne (.call f_fewest [(.loc 3), (.loc 7)]) (.idx (.loc 14) (.c (.int 0))))) [
    .ret (.c (.bl false))] [],
  .if_ (.cop .ne (.call f_fewest_row [(.loc 3), (.loc 7)]) (.call f_row_at [(.loc 3), (.loc 7), (.idx (.loc 14) (.c (.int 0))), (.c (.int 0))])) [
    .ret (.c (.bl false))] []]
def L_law_k06_2 : List S := [
  .set 2 (.call f_law_crate [(.loc 0), (.loc 1)]),
  .set 3 (.calli f_law_machine 2 [(.c (.int 4))]),
  .unp (.t [(.n 4), (.n 5), (.n 6)]) (.call f_law_at_first [(.loc 3), (.calli f_law_row 2 [(.c (.int 3))])]),
  .for_ (.n 7) (.seq (.tup [(.tup [(.loc 4), (.c .non)]), (.tup [(.loc 4), (.loc 6)])])) L_law_k06_1]
/-- slots: script k crate machine sheet column bells sight known many rows row index places some -/
def F_law_k06 : Fn := ⟨1, 15, false, [
  .for_ (.n 1) (.rng [(.blt .max2 [(.c (.int 1)), (.blt .min2 [(.c (.int 6)), (.blt .len [(.loc 0)])])])]) L_law_k06_2,
  .ret (.c (.bl true))]⟩
class K_law_k06 (G : Glob) (fs : Nat → Option Fn) : Prop extends K_law_crate G fs, K_law_machine G fs, K_law_at_first G fs, K_law_row G fs, K_fewest_row G fs, K_row_at G fs, K_count G fs, K_fewest G fs, K_law_every_row G fs, K_law_fits G fs, K_place_of G fs where
  e_law_k06 : fs 90 = some F_law_k06 := by rfl
/-- slots: value -/
def F_is_press : Fn := ⟨1, 1, false, [
  .ret (.and (.isi (.loc 0) [.str]) (.and (.cop .eq (.blt .len [(.loc 0)]) (.c (.int 1))) (.cop .isin (.loc 0) (.gl g_PRESSES))))]⟩
class K_is_press (G : Glob) (fs : Nat → Option Fn) : Prop extends KG_PRESSES G where
  e_is_press : fs 2 = some F_is_press := by rfl
/-- slots: press -/
def F_need_press : Fn := ⟨1, 1, false, [
  .if_ (.not (.call f_is_press [(.loc 0)])) [
    .raise x_InvalidPress []] []]⟩
class K_need_press (G : Glob) (fs : Nat → Option Fn) : Prop extends K_is_press G fs where
  e_need_press : fs 16 = some F_need_press := by rfl
def L_times_of_0 : List S := [
  .set 13 (.blt .int [(.cop .eq (.loc 11) (.loc 3))]),
  .set 14 (.get2 (.loc 7) (.loc 12) (.tup [(.bop .add (.loc 9) (.loc 13)), (.bop .add (.loc 10) (.loc 13))])),
  .seti 7 (.loc 12) (.tup [(.blt .min2 [(.idx (.loc 14) (.c (.int 0))), (.bop .add (.loc 9) (.loc 13))]), (.blt .max2 [(.idx (.loc 14) (.c (.int 1))), (.bop .add (.loc 10) (.loc 13))])])]
def L_times_of_1 : List S := [
  .for_ (.t [(.n 11), (.n 12)]) (.seq (.call f_steps [(.loc 0), (.loc 4), (.idx (.loc 1) (.c (.int 1))), (.loc 8)])) L_times_of_0]
def L_times_of_2 : List S := [
  .set 7 (.dn []),
  .for_ (.t [(.n 8), (.t [(.n 9), (.n 10)])]) (.items (.loc 5)) L_times_of_1,
  .set 5 (.loc 7)]
/-- slots: machine sight many wanted bits line turn later stand least most press there more old found pair -/
def F_times_of : Fn := ⟨4, 17, false, [
  .set 4 (.call f_bits_of [(.idx (.loc 1) (.c (.int 0)))]),
  .set 5 (.dn [((.gl g_BEGIN), (.tup [(.c (.int 0)), (.c (.int 0))]))]),
  .for_ (.n 6) (.rng [(.loc 2)]) L_times_of_2,
  .set 15 (.lc (.loc 16) (.t [(.n 8), (.n 16)]) (.items (.loc 5)) [(.call f_is_end [(.loc 1), (.loc 8)])] [8, 16]),
  .if_ (.cop .eq (.loc 15) (.lst [])) [
    .ret (.c .non)] [],
  .ret (.tup [(.blt .minl [(.lc (.idx (.loc 16) (.c (.int 0))) (.n 16) (.seq (.loc 15)) [] [16])]), (.blt .maxl [(.lc (.idx (.loc 16) (.c (.int 1))) (.n 16) (.seq (.loc 15)) [] [16])])])]⟩
class K_times_of (G : Glob) (fs : Nat → Option Fn) : Prop extends KG_BEGIN G, K_bits_of G fs, K_steps G fs, K_is_end G fs where
  e_times_of : fs 50 = some F_times_of := by rfl
def L_rings_by_0 : List S := [
  .set 10 (.call f_step [(.loc 0), (.loc 3), (.c .non), (.loc 7), (.loc 9)]),
  .if_ (.cop .notn (.loc 10) (.c .non)) [
    .set 11 (.idx (.call f_moved [(.loc 0), (.idx (.loc 7) (.c (.int 0))), (.loc 9)]) (.c (.int 1))),
    .seti 6 (.loc 10) (.bop .bor (.get2 (.loc 6) (.loc 10) (.c (.int 0))) (.ite (.loc 11) (.bop .mul (.loc 8) (.c (.int 2))) (.loc 8)))] []]
def L_rings_by_1 : List S := [
  .for_ (.n 9) (.seq (.gl g_PRESSES)) L_rings_by_0]
def L_rings_by_2 : List S := [
  .set 6 (.dn []),
  .for_ (.t [(.n 7), (.n 8)]) (.items (.loc 4)) L_rings_by_1,
  .set 4 (.loc 6)]
def L_rings_by_3 : List S := [
  .if_ (.cop .eq (.idx (.loc 7) (.c (.int 1))) (.call f_whole [(.loc 1)])) [
    .set 12 (.bop .bor (.loc 12) (.loc 8))] []]
def L_rings_by_4 : List S := [
  .if_ (.cop .eq (.bop .mod (.loc 12) (.c (.int 2))) (.c (.int 1))) [
    .app 13 (.loc 14)] [],
  .set 12 (.bop .fdiv (.loc 12) (.c (.int 2)))]
/-- slots: machine sheet many bits line turn later stand rung press there rings found numbers number -/
def F_rings_by : Fn := ⟨3, 15, false, [
  .set 3 (.call f_bits_of [(.loc 1)]),
  .set 4 (.dn [((.gl g_BEGIN), (.c (.int 1)))]),
  .for_ (.n 5) (.rng [(.loc 2)]) L_rings_by_2,
  .set 12 (.c (.int 0)),
  .for_ (.t [(.n 7), (.n 8)]) (.items (.loc 4)) L_rings_by_3,
  .set 13 (.lst []),
  .for_ (.n 14) (.rng [(.bop .add (.loc 2) (.c (.int 1)))]) L_rings_by_4,
  .ret (.loc 13)]⟩
class K_rings_by (G : Glob) (fs : Nat → Option Fn) : Prop extends KG_PRESSES G, KG_BEGIN G, K_bits_of G fs, K_whole G fs, K_step G fs, K_moved G fs where
  e_rings_by : fs 53 = some F_rings_by := by rfl
/-- slots: machine sight many press -/
def F_uses : Fn := ⟨4, 4, false, [
  .ex (.call f_need_machine [(.loc 0)]),
  .ex (.call f_need_sight [(.loc 0), (.loc 1)]),
  .ex (.call f_need_number [(.loc 2)]),
  .ex (.call f_need_press [(.loc 3)]),
  .ret (.call f_times_of [(.loc 0), (.loc 1), (.loc 2), (.loc 3)])]⟩
class K_uses (G : Glob) (fs : Nat → Option Fn) : Prop extends K_need_machine G fs, K_need_sight G fs, K_need_number G fs, K_need_press G fs, K_times_of G fs where
  e_uses : fs 55 = some F_uses := by rfl
/-- slots: machine sight many stand -/
def F_columns : Fn := ⟨3, 4, false, [
  .ex (.call f_need_machine [(.loc 0)]),
  .ex (.call f_need_sight [(.loc 0), (.loc 1)]),
  .ex (.call f_need_number [(.loc 2)]),
  .ret (.blt .sortset [(.lc (.idx (.loc 3) (.c (.int 0))) (.n 3) (.seq (.idx (.call f_layers [(.loc 0), (.loc 1), (.loc 2)]) (.neg (.c (.int 1))))) [(.call f_is_end [(.loc 1), (.loc 3)])] [3])])]⟩
class K_columns (G : Glob) (fs : Nat → Option Fn) : Prop extends K_need_machine G fs, K_need_sight G fs, K_need_number G fs, K_is_end G fs, K_layers G fs where
  e_columns : fs 56 = some F_columns := by rfl
/-- slots: machine sheet many -/
def F_bells_heard : Fn := ⟨3, 3, false, [
  .ex (.call f_need_machine [(.loc 0)]),
  .ex (.call f_need_sheet [(.loc 0), (.loc 1)]),
  .ex (.call f_need_number [(.loc 2)]),
  .ret (.call f_rings_by [(.loc 0), (.loc 1), (.loc 2)])]⟩
class K_bells_heard (G : Glob) (fs : Nat → Option Fn) : Prop extends K_need_machine G fs, K_need_sheet G fs, K_need_number G fs, K_rings_by G fs where
  e_bells_heard : fs 57 = some F_bells_heard := by rfl
/-- slots: machine sight row sheet column bells -/
def F_law_has : Fn := ⟨3, 6, false, [
  .unp (.t [(.n 3), (.n 4), (.n 5)]) (.call f_law_at_first [(.loc 0), (.loc 2)]),
  .ret (.and (.cop .eq (.loc 3) (.idx (.loc 1) (.c (.int 0)))) (.or (.cop .isn (.idx (.loc 1) (.c (.int 1))) (.c .non)) (.cop .eq (.loc 5) (.idx (.loc 1) (.c (.int 1))))))]⟩
class K_law_has (G : Glob) (fs : Nat → Option Fn) : Prop extends K_law_at_first G fs where
  e_law_has : fs 111 = some F_law_has := by rfl
def L_law_uses_0 : List S := [
  .set 10 (.call f_law_on [(.loc 0), (.loc 1), (.loc 4), (.loc 8), (.loc 9)]),
  .if_ (.cop .notn (.loc 10) (.c .non)) [
    .par [(11, (.blt .int [(.cop .eq (.loc 9) (.loc 3))])), (12, (.idx (.loc 5) (.loc 8)))],
    .par [(13, (.bop .add (.idx (.loc 12) (.c (.int 0))) (.loc 11))), (14, (.bop .add (.idx (.loc 12) (.c (.int 1))) (.loc 11)))],
    .set 12 (.get2 (.loc 7) (.loc 10) (.tup [(.loc 13), (.loc 14)])),
    .seti 7 (.loc 10) (.tup [(.blt .min2 [(.loc 13), (.idx (.loc 12) (.c (.int 0)))]), (.blt .max2 [(.loc 14), (.idx (.loc 12) (.c (.int 1)))])])] []]
def L_law_uses_1 : List S := [
  .for_ (.n 9) (.seq (.c (.str [32, 60, 65, 66, 67, 97, 98, 99]))) L_law_uses_0]
def L_law_uses_2 : List S := [
  .set 7 (.dn []),
  .for_ (.n 8) (.seq (.loc 5)) L_law_uses_1,
  .set 5 (.loc 7)]
/-- slots: machine sight many wanted wants line turn later spot done there more old low high good pair -/
def F_law_uses : Fn := ⟨4, 17, false, [
  .unp (.t [(.n 4), (.n 5)]) (.tup [(.call f_law_wants [(.idx (.loc 1) (.c (.int 0)))]), (.dn [((.tup [(.c (.int 0)), (.tup []), (.c (.int 0))]), (.tup [(.c (.int 0)), (.c (.int 0))]))])]),
  .for_ (.n 6) (.rng [(.loc 2)]) L_law_uses_2,
  .set 15 (.lc (.idx (.loc 5) (.loc 8)) (.n 8) (.seq (.loc 5)) [(.call f_law_goal [(.loc 1), (.loc 8)])] [8]),
  .if_ (.cop .eq (.loc 15) (.lst [])) [
    .ret (.c .non)] [],
  .ret (.tup [(.blt .minl [(.lc (.idx (.loc 16) (.c (.int 0))) (.n 16) (.seq (.loc 15)) [] [16])]), (.blt .maxl [(.lc (.idx (.loc 16) (.c (.int 1))) (.n 16) (.seq (.loc 15)) [] [16])])])]⟩
class K_law_uses (G : Glob) (fs : Nat → Option Fn) : Prop extends K_law_wants G fs, K_law_goal G fs, K_law_on G fs where
  e_law_uses : fs 112 = some F_law_uses := by rfl
def L_law_ends_0 : List S := [
  .set 9 (.call f_law_on [(.loc 0), (.loc 1), (.loc 3), (.loc 7), (.loc 8)]),
  .if_ (.cop .notn (.loc 9) (.c .non)) [
    .seti 6 (.loc 9) (.c (.bl true))] []]
def L_law_ends_1 : List S := [
  .for_ (.n 8) (.seq (.c (.str [32, 60, 65, 66, 67, 97, 98, 99]))) L_law_ends_0]
def L_law_ends_2 : List S := [
  .set 6 (.dn []),
  .for_ (.n 7) (.seq (.loc 4)) L_law_ends_1,
  .set 4 (.loc 6)]
/-- slots: machine sight many wants line turn later spot done there -/
def F_law_ends : Fn := ⟨3, 10, false, [
  .par [(3, (.call f_law_wants [(.idx (.loc 1) (.c (.int 0)))])), (4, (.dn [((.tup [(.c (.int 0)), (.tup []), (.c (.int 0))]), (.c (.bl true)))]))],
  .for_ (.n 5) (.rng [(.loc 2)]) L_law_ends_2,
  .ret (.lc (.loc 7) (.n 7) (.seq (.loc 4)) [(.call f_law_goal [(.loc 1), (.loc 7)])] [7])]⟩
class K_law_ends (G : Glob) (fs : Nat → Option Fn) : Prop extends K_law_wants G fs, K_law_goal G fs, K_law_on G fs where
  e_law_ends : fs 113 = some F_law_ends := by rfl
/-- slots: machine sheet many rung -/
def F_law_rings : Fn := ⟨3, 4, false, [
  .ret (.lc (.loc 3) (.n 3) (.rng [(.bop .add (.loc 2) (.c (.int 1)))]) [(.cop .ne (.call f_law_ends [(.loc 0), (.tup [(.loc 1), (.loc 3)]), (.loc 2)]) (.lst []))] [3])]⟩
class K_law_rings (G : Glob) (fs : Nat → Option Fn) : Prop extends K_law_ends G fs where
  e_law_rings : fs 114 = some F_law_rings := by rfl
def L_law_by_rows_k07_0 : List S := [
  .set 7 (.lc (.met .count (.loc 4) [(.loc 6)]) (.n 4) (.seq (.loc 3)) [] [4]),
  .set 8 (.ite (.cop .ne (.loc 3) (.lst [])) (.tup [(.blt .minl [(.loc 7)]), (.blt .maxl [(.loc 7)])]) (.c .non)),
  .if_ (.cop .ne (.call f_uses [(.loc 0), (.loc 1), (.loc 2), (.loc 6)]) (.loc 8)) [
    .ret (.c (.bl false))] []]
/-- slots: machine sight many rows row last done times due -/
def F_law_by_rows_k07 : Fn := ⟨3, 9, false, [
  .set 3 (.lc (.loc 4) (.n 4) (.seq (.call f_law_every_row [(.loc 2)])) [(.call f_law_has [(.loc 0), (.loc 1), (.loc 4)])] [4]),
  .set 5 (.blt .sortset [(.lc (.idx (.call f_law_at_first [(.loc 0), (.loc 4)]) (.c (.int 1))) (.n 4) (.seq (.loc 3)) [] [4])]),
  .if_ (.cop .ne (.call f_columns [(.loc 0), (.loc 1), (.loc 2)]) (.loc 5)) [
    .ret (.c (.bl false))] [],
  .for_ (.n 6) (.seq (.c (.str [32, 60, 65, 66, 67, 97, 98, 99]))) L_law_by_rows_k07_0,
  .ret (.c (.bl true))]⟩
class K_law_by_rows_k07 (G : Glob) (fs : Nat → Option Fn) : Prop extends K_columns G fs, K_law_every_row G fs, K_law_has G fs, K_uses G fs, K_law_at_first G fs where
  e_law_by_rows_k07 : fs 115 = some F_law_by_rows_k07 := by rfl
def L_law_k07_0 : List S := [
  .if_ (.cop .ne (.call f_uses [(.loc 3), (.loc 5), (.loc 6), (.loc 7)]) (.call f_law_uses [(.loc 3), (.loc 5), (.loc 6), (.loc 7)])) [
    .ret (.c (.bl false))] []]
def L_law_k07_1 : List S := [
  .unp (.t [(.n 5), (.n 6)]) (.tup [(.calli f_law_sight 2 [(.loc 3), (.c (.int 4))]), (.calli f_law_dig 2 [(.c (.int 10))])]),
  .for_ (.n 7) (.seq (.c (.str [32, 60, 65, 66, 67, 97, 98, 99]))) L_law_k07_0,
  .par [(8, (.call f_columns [(.loc 3), (.loc 5), (.loc 6)])), (9, (.call f_bells_heard [(.loc 3), (.idx (.loc 5) (.c (.int 0))), (.loc 6)]))],
  .if_ (.cop .ne (.loc 8) (.blt .sortset [(.lc (.idx (.loc 10) (.c (.int 0))) (.n 10) (.seq (.call f_law_ends [(.loc 3), (.loc 5), (.loc 6)])) [] [10])])) [
    .ret (.c (.bl false))] [],
  .if_ (.or (.cop .ne (.loc 9) (.call f_law_rings [(.loc 3), (.idx (.loc 5) (.c (.int 0))), (.loc 6)])) (.not (.isi (.loc 8) [.list]))) [
    .ret (.c (.bl false))] [],
  .if_ (.or (.not (.isi (.loc 9) [.list])) (.not (.call f_law_by_rows [(.loc 3), (.loc 5), (.calli f_law_dig 2 [(.c (.int 4))])]))) [
    .ret (.c (.bl false))] []]
def L_law_k07_2 : List S := [
  .if_ (.cop .ne (.catch_ (.call f_uses [(.loc 3), (.loc 5), (.c (.int 2)), (.loc 11)])) (.tup [(.c (.str [73, 110, 118, 97, 108, 105, 100, 80, 114, 101, 115, 115, 32, 43]))])) [
    .ret (.c (.bl false))] []]
def L_law_k07_3 : List S := [
  .if_ (.cop .ne (.catch_ (.call f_columns [(.loc 3), (.loc 5), (.loc 11)])) (.tup [(.c (.str [73, 110, 118, 97, 108, 105, 100, 78, 117, 109, 98, 101, 114, 32, 43]))])) [
    .ret (.c (.bl false))] [],
  .if_ (.cop .ne (.catch_ (.call f_bells_heard [(.loc 3), (.idx (.loc 5) (.c (.int 0))), (.loc 11)])) (.tup [(.c (.str [73, 110, 118, 97, 108, 105, 100, 78, 117, 109, 98, 101, 114, 32, 43]))])) [
    .ret (.c (.bl false))] []]
def L_law_k07_4 : List S := [
  .set 2 (.call f_law_crate [(.loc 0), (.loc 1)]),
  .set 3 (.calli f_law_machine 2 [(.c (.int 5))]),
  .for_ (.n 4) (.rng [(.c (.int 2))]) L_law_k07_1,
  .for_ (.n 11) (.seq (.lst [(.c .non), (.c (.str [])), (.c (.str [100])), (.c (.str [97, 97])), (.tup [(.c (.str [97]))]), (.c (.int 1))])) L_law_k07_2,
  .for_ (.n 11) (.seq (.lst [(.c .non), (.neg (.c (.int 1))), (.c (.int 31)), (.c (.bl true))])) L_law_k07_3,
  .if_ (.cop .ne (.catch_ (.call f_bells_heard [(.loc 3), (.c .non), (.c .non)])) (.tup [(.c (.str [73, 110, 118, 97, 108, 105, 100, 83, 104, 101, 101, 116, 32, 43]))])) [
    .ret (.c (.bl false))] []]
/-- slots: script k crate machine turn sight many done found heard spot bad -/
def F_law_k07 : Fn := ⟨1, 12, false, [
  .for_ (.n 1) (.rng [(.blt .max2 [(.c (.int 1)), (.blt .min2 [(.c (.int 5)), (.blt .len [(.loc 0)])])])]) L_law_k07_4,
  .ret (.cop .eq (.call f_uses [(.tup [(.c (.int 2)), (.c (.int 2))]), (.tup [(.tup [(.c (.str [97, 98])), (.c (.str [])), (.c (.str []))]), (.c .non)]), (.c (.int 3)), (.c (.str [60]))]) (.tup [(.c (.int 0)), (.c (.int 1))]))]⟩
class K_law_k07 (G : Glob) (fs : Nat → Option Fn) : Prop extends K_law_crate G fs, K_law_machine G fs, K_uses G fs, K_law_sight G fs, K_law_dig G fs, K_columns G fs, K_bells_heard G fs, K_law_uses G fs, K_law_rings G fs, K_law_by_rows_k07 G fs, K_law_ends G fs where
  e_law_k07 : fs 90 = some F_law_k07 := by rfl
/-- slots: first one other before behind -/
def F_order_of : Fn := ⟨5, 5, false, [
  .if_ (.cop .gt (.loc 0) (.c (.int 0))) [
    .ret (.loc 0)] [],
  .if_ (.cop .gt (.bop .mod (.bop .fdiv (.loc 4) (.loc 1)) (.c (.int 2))) (.bop .mod (.bop .fdiv (.loc 3) (.loc 1)) (.c (.int 2)))) [
    .ret (.c (.int 1))] [],
  .ret (.ite (.cop .gt (.bop .mod (.bop .fdiv (.loc 4) (.loc 2)) (.c (.int 2))) (.bop .mod (.bop .fdiv (.loc 3) (.loc 2)) (.c (.int 2)))) (.c (.int 2)) (.c (.int 0)))]⟩
class K_order_of (G : Glob) (fs : Nat → Option Fn) : Prop where
  e_order_of : fs 51 = some F_order_of := by rfl
def L_orders_0 : List S := [
  .seti 8 (.tup [(.loc 12), (.call f_order_of [(.loc 10), (.loc 3), (.loc 4), (.idx (.loc 9) (.c (.int 1))), (.idx (.loc 12) (.c (.int 1)))])]) (.c (.bl true))]
def L_orders_1 : List S := [
  .for_ (.t [(.n 11), (.n 12)]) (.seq (.call f_steps [(.loc 0), (.loc 5), (.idx (.loc 1) (.c (.int 1))), (.loc 9)])) L_orders_0]
def L_orders_2 : List S := [
  .set 8 (.dn []),
  .for_ (.t [(.n 9), (.n 10)]) (.seq (.loc 6)) L_orders_1,
  .set 6 (.loc 8)]
/-- slots: machine sight many one other bits line turn later stand first press there -/
def F_orders : Fn := ⟨5, 13, false, [
  .set 5 (.call f_bits_of [(.idx (.loc 1) (.c (.int 0)))]),
  .set 6 (.dn [((.tup [(.gl g_BEGIN), (.c (.int 0))]), (.c (.bl true)))]),
  .for_ (.n 7) (.rng [(.loc 2)]) L_orders_2,
  .ret (.lc (.loc 10) (.t [(.n 9), (.n 10)]) (.seq (.loc 6)) [(.call f_is_end [(.loc 1), (.loc 9)])] [9, 10])]⟩
class K_orders (G : Glob) (fs : Nat → Option Fn) : Prop extends KG_BEGIN G, K_bits_of G fs, K_steps G fs, K_is_end G fs, K_order_of G fs where
  e_orders : fs 52 = some F_orders := by rfl
def L_need_marks_0 : List S := [
  .if_ (.or (.not (.isi (.loc 4) [.tuple])) (.or (.cop .ne (.blt .len [(.loc 4)]) (.c (.int 2))) (.or (.isi (.idx (.loc 4) (.c (.int 0))) [.bool]) (.cop .notin (.loc 4) (.loc 3))))) [
    .raise x_InvalidMark []] []]
/-- slots: sheet mark other known one -/
def F_need_marks : Fn := ⟨3, 5, false, [
  .set 3 (.call f_marks_of [(.loc 0)]),
  .for_ (.n 4) (.seq (.tup [(.loc 1), (.loc 2)])) L_need_marks_0,
  .if_ (.cop .eq (.loc 1) (.loc 2)) [
    .raise x_InvalidMark []] []]⟩
class K_need_marks (G : Glob) (fs : Nat → Option Fn) : Prop extends K_marks_of G fs where
  e_need_marks : fs 54 = some F_need_marks := by rfl
/-- slots: machine sight many mark other_mark bits found -/
def F_sooner : Fn := ⟨5, 7, false, [
  .ex (.call f_need_machine [(.loc 0)]),
  .ex (.call f_need_sight [(.loc 0), (.loc 1)]),
  .ex (.call f_need_number [(.loc 2)]),
  .ex (.call f_need_marks [(.idx (.loc 1) (.c (.int 0))), (.loc 3), (.loc 4)]),
  .set 5 (.call f_bits_of [(.idx (.loc 1) (.c (.int 0)))]),
  .set 6 (.call f_orders [(.loc 0), (.loc 1), (.loc 2), (.idx (.loc 5) (.loc 3)), (.idx (.loc 5) (.loc 4))]),
  .if_ (.cop .notin (.c (.int 1)) (.loc 6)) [
    .ret (.c (.str [110, 101, 118, 101, 114]))] [],
  .ret (.ite (.cop .notin (.c (.int 2)) (.loc 6)) (.c (.str [115, 117, 114, 101])) (.c (.str [112, 101, 114, 104, 97, 112, 115])))]⟩
class K_sooner (G : Glob) (fs : Nat → Option Fn) : Prop extends K_need_machine G fs, K_need_sight G fs, K_need_number G fs, K_need_marks G fs, K_bits_of G fs, K_orders G fs where
  e_sooner : fs 58 = some F_sooner := by rfl
def L_law_firsts_0 : List S := [
  .set 12 (.call f_law_on [(.loc 0), (.loc 1), (.loc 5), (.loc 9), (.loc 11)]),
  .if_ (.cop .notn (.loc 12) (.c .non)) [
    .set 13 (.loc 10),
    .if_ (.and (.cop .eq (.loc 10) (.c (.int 0))) (.cop .isin (.loc 3) (.idx (.loc 12) (.c (.int 1))))) [
      .set 13 (.c (.int 1))] [
      .if_ (.and (.cop .eq (.loc 10) (.c (.int 0))) (.cop .isin (.loc 4) (.idx (.loc 12) (.c (.int 1))))) [
        .set 13 (.c (.int 2))] []],
    .seti 8 (.tup [(.loc 12), (.loc 13)]) (.c (.bl true))] []]
def L_law_firsts_1 : List S := [
  .for_ (.n 11) (.seq (.c (.str [32, 60, 65, 66, 67, 97, 98, 99]))) L_law_firsts_0]
def L_law_firsts_2 : List S := [
  .set 8 (.dn []),
  .for_ (.t [(.n 9), (.n 10)]) (.seq (.loc 6)) L_law_firsts_1,
  .set 6 (.loc 8)]
/-- slots: machine sight many one other wants line turn later spot first done there came -/
def F_law_firsts : Fn := ⟨5, 14, false, [
  .par [(5, (.call f_law_wants [(.idx (.loc 1) (.c (.int 0)))])), (6, (.dn [((.tup [(.tup [(.c (.int 0)), (.tup []), (.c (.int 0))]), (.c (.int 0))]), (.c (.bl true)))]))],
  .for_ (.n 7) (.rng [(.loc 2)]) L_law_firsts_2,
  .ret (.lc (.loc 10) (.t [(.n 9), (.n 10)]) (.seq (.loc 6)) [(.call f_law_goal [(.loc 1), (.loc 9)])] [9, 10])]⟩
class K_law_firsts (G : Glob) (fs : Nat → Option Fn) : Prop extends K_law_wants G fs, K_law_goal G fs, K_law_on G fs where
  e_law_firsts : fs 116 = some F_law_firsts := by rfl
/-- slots: firsts -/
def F_law_word : Fn := ⟨1, 1, false, [
  .if_ (.cop .notin (.c (.int 1)) (.loc 0)) [
    .ret (.c (.str [110, 101, 118, 101, 114]))] [],
  .ret (.ite (.cop .isin (.c (.int 2)) (.loc 0)) (.c (.str [112, 101, 114, 104, 97, 112, 115])) (.c (.str [115, 117, 114, 101])))]⟩
class K_law_word (G : Glob) (fs : Nat → Option Fn) : Prop where
  e_law_word : fs 117 = some F_law_word := by rfl
def L_law_when_0 : List S := [
  .set 3 (.bop .add (.loc 3) (.c (.int 1)))]
/-- slots: machine row mark many -/
def F_law_when : Fn := ⟨3, 4, false, [
  .set 3 (.c (.int 0)),
  .while_ (.cop .notin (.loc 2) (.call f_law_wants [(.idx (.call f_law_at_first [(.loc 0), (.slc (.loc 1) none (some (.loc 3)))]) (.c (.int 0)))])) L_law_when_0,
  .ret (.loc 3)]⟩
class K_law_when (G : Glob) (fs : Nat → Option Fn) : Prop extends K_law_wants G fs, K_law_at_first G fs where
  e_law_when : fs 118 = some F_law_when := by rfl
/-- slots: machine sight many one other rows row -/
def F_law_by_rows_k08 : Fn := ⟨5, 7, false, [
  .set 5 (.lc (.loc 6) (.n 6) (.seq (.call f_law_every_row [(.loc 2)])) [(.call f_law_has [(.loc 0), (.loc 1), (.loc 6)])] [6]),
  .ret (.call f_law_word [(.lc (.ite (.cop .lt (.call f_law_when [(.loc 0), (.loc 6), (.loc 3)]) (.call f_law_when [(.loc 0), (.loc 6), (.loc 4)])) (.c (.int 1)) (.c (.int 2))) (.n 6) (.seq (.loc 5)) [] [6])])]⟩
class K_law_by_rows_k08 (G : Glob) (fs : Nat → Option Fn) : Prop extends K_law_word G fs, K_law_every_row G fs, K_law_has G fs, K_law_when G fs where
  e_law_by_rows_k08 : fs 115 = some F_law_by_rows_k08 := by rfl
/-- slots: crate machine row sheet column bells wants at by one rest mark -/
def F_law_two : Fn := ⟨2, 12, true, [
  .set 2 (.calli f_law_one_of 0 [(.lst [(.c (.str [97, 98])), (.c (.str [65, 98])), (.c (.str [97, 66, 60, 99])), (.c (.str [97, 32, 98, 99])), (.c (.str [65, 98, 67])), (.c (.str [97, 98, 60, 60, 99])), (.c (.str [97, 60, 98, 99]))])]),
  .unp (.t [(.n 3), (.n 4), (.n 5)]) (.call f_law_at_first [(.loc 1), (.loc 2)]),
  .set 6 (.call f_law_wants [(.loc 3)]),
  .par [(7, (.calli f_law_dig 0 [(.blt .len [(.loc 6)])])), (8, (.calli f_law_dig 0 [(.bop .sub (.blt .len [(.loc 6)]) (.c (.int 1)))]))],
  .set 9 (.idx (.loc 6) (.loc 7)),
  .set 10 (.lc (.loc 11) (.n 11) (.seq (.loc 6)) [(.cop .ne (.loc 11) (.loc 9))] [11]),
  .ret (.tup [(.tup [(.loc 3), (.calli f_law_one_of 0 [(.lst [(.c .non), (.loc 5)])])]), (.loc 9), (.idx (.loc 10) (.loc 8))])]⟩
class K_law_two (G : Glob) (fs : Nat → Option Fn) : Prop extends K_law_one_of G fs, K_law_at_first G fs, K_law_wants G fs, K_law_dig G fs where
  e_law_two : fs 119 = some F_law_two := by rfl
def L_law_k08_0 : List S := [
  .unp (.t [(.n 5), (.n 6), (.n 7)]) (.calli f_law_two 2 [(.loc 3)]),
  .set 8 (.calli f_law_dig 2 [(.c (.int 10))]),
  .set 9 (.call f_law_firsts [(.loc 3), (.loc 5), (.loc 8), (.loc 6), (.loc 7)]),
  .if_ (.cop .ne (.call f_sooner [(.loc 3), (.loc 5), (.loc 8), (.loc 6), (.loc 7)]) (.call f_law_word [(.loc 9)])) [
    .ret (.c (.bl false))] [],
  .set 10 (.calli f_law_dig 2 [(.c (.int 4))]),
  .if_ (.cop .ne (.call f_sooner [(.loc 3), (.loc 5), (.loc 10), (.loc 6), (.loc 7)]) (.call f_law_by_rows [(.loc 3), (.loc 5), (.loc 10), (.loc 6), (.loc 7)])) [
    .ret (.c (.bl false))] []]
def L_law_k08_1 : List S := [
  .if_ (.cop .ne (.catch_ (.call f_sooner [(.loc 3), (.loc 5), (.c (.int 2)), (.loc 11), (.loc 6)])) (.tup [(.c (.str [73, 110, 118, 97, 108, 105, 100, 77, 97, 114, 107, 32, 43]))])) [
    .ret (.c (.bl false))] [],
  .if_ (.cop .ne (.catch_ (.call f_sooner [(.loc 3), (.loc 5), (.c (.int 2)), (.loc 6), (.loc 11)])) (.tup [(.c (.str [73, 110, 118, 97, 108, 105, 100, 77, 97, 114, 107, 32, 43]))])) [
    .ret (.c (.bl false))] []]
def L_law_k08_2 : List S := [
  .set 2 (.call f_law_crate [(.loc 0), (.loc 1)]),
  .set 3 (.calli f_law_machine 2 [(.c (.int 5))]),
  .for_ (.n 4) (.rng [(.c (.int 3))]) L_law_k08_0,
  .for_ (.n 11) (.seq (.lst [(.c .non), (.slc (.loc 6) none (some (.c (.int 1)))), (.blt .list [(.loc 6)]), (.tup [(.c (.int 9)), (.c (.str [97]))]), (.tup [(.idx (.loc 6) (.c (.int 0))), (.c (.str [100]))]), (.bop .mul (.tup [(.idx (.loc 6) (.c (.int 0)))]) (.c (.int 2)))])) L_law_k08_1,
  .if_ (.cop .ne (.catch_ (.call f_sooner [(.loc 3), (.loc 5), (.c (.int 2)), (.loc 6), (.loc 6)])) (.tup [(.c (.str [73, 110, 118, 97, 108, 105, 100, 77, 97, 114, 107, 32, 43]))])) [
    .ret (.c (.bl false))] [],
  .if_ (.cop .ne (.catch_ (.call f_sooner [(.loc 3), (.loc 5), (.neg (.c (.int 1))), (.c .non), (.c .non)])) (.tup [(.c (.str [73, 110, 118, 97, 108, 105, 100, 78, 117, 109, 98, 101, 114, 32, 43]))])) [
    .ret (.c (.bl false))] []]
/-- slots: script k crate machine turn sight one other many firsts few bad -/
def F_law_k08 : Fn := ⟨1, 12, false, [
  .for_ (.n 1) (.rng [(.blt .max2 [(.c (.int 1)), (.blt .min2 [(.c (.int 5)), (.blt .len [(.loc 0)])])])]) L_law_k08_2,
  .ret (.cop .eq (.call f_sooner [(.tup [(.c (.int 2)), (.c (.int 2))]), (.tup [(.tup [(.c (.str [97])), (.c (.str [98])), (.c (.str []))]), (.c .non)]), (.c (.int 4)), (.tup [(.c (.int 1)), (.c (.str [98]))]), (.tup [(.c (.int 0)), (.c (.str [97]))])]) (.c (.str [112, 101, 114, 104, 97, 112, 115])))]⟩
class K_law_k08 (G : Glob) (fs : Nat → Option Fn) : Prop extends K_law_crate G fs, K_law_machine G fs, K_sooner G fs, K_law_two G fs, K_law_dig G fs, K_law_firsts G fs, K_law_word G fs, K_law_by_rows_k08 G fs where
  e_law_k08 : fs 90 = some F_law_k08 := by rfl
def L_all_slips_0 : List S := [
  .ext 1 (.lc (.tup [(.c (.str [111, 116, 104, 101, 114])), (.loc 2), (.loc 4)]) (.n 4) (.seq (.gl g_PRESSES)) [(.cop .ne (.loc 4) (.loc 3))] [4])]
/-- slots: row found at done press -/
def F_all_slips : Fn := ⟨1, 5, false, [
  .set 1 (.lc (.tup [(.c (.str [108, 101, 115, 115])), (.loc 2), (.c (.str []))]) (.n 2) (.rng [(.blt .len [(.loc 0)])]) [] [2]),
  .for_ (.t [(.n 2), (.n 3)]) (.enum (.loc 0)) L_all_slips_0,
  .ext 1 (.lc (.tup [(.c (.str [116, 117, 114, 110, 101, 100])), (.loc 2), (.c (.str []))]) (.n 2) (.rng [(.bop .sub (.blt .len [(.loc 0)]) (.c (.int 1)))]) [(.cop .ne (.idx (.loc 0) (.loc 2)) (.idx (.loc 0) (.bop .add (.loc 2) (.c (.int 1)))))] [2]),
  .ext 1 (.lc (.tup [(.c (.str [116, 119, 105, 99, 101])), (.loc 2), (.c (.str []))]) (.n 2) (.rng [(.blt .len [(.loc 0)])]) [] [2]),
  .ret (.loc 1)]⟩
class K_all_slips (G : Glob) (fs : Nat → Option Fn) : Prop extends KG_PRESSES G where
  e_all_slips : fs 59 = some F_all_slips := by rfl
/-- slots: row slip kind at press -/
def F_slipped : Fn := ⟨2, 5, false, [
  .unp (.t [(.n 2), (.n 3), (.n 4)]) (.loc 1),
  .if_ (.cop .eq (.loc 2) (.c (.str [108, 101, 115, 115]))) [
    .ret (.bop .add (.slc (.loc 0) none (some (.loc 3))) (.slc (.loc 0) (some (.bop .add (.loc 3) (.c (.int 1)))) none))] [],
  .if_ (.cop .eq (.loc 2) (.c (.str [111, 116, 104, 101, 114]))) [
    .ret (.bop .add (.bop .add (.slc (.loc 0) none (some (.loc 3))) (.loc 4)) (.slc (.loc 0) (some (.bop .add (.loc 3) (.c (.int 1)))) none))] [],
  .if_ (.cop .eq (.loc 2) (.c (.str [116, 117, 114, 110, 101, 100]))) [
    .ret (.bop .add (.bop .add (.bop .add (.slc (.loc 0) none (some (.loc 3))) (.idx (.loc 0) (.bop .add (.loc 3) (.c (.int 1))))) (.idx (.loc 0) (.loc 3))) (.slc (.loc 0) (some (.bop .add (.loc 3) (.c (.int 2)))) none))] [],
  .ret (.bop .add (.slc (.loc 0) none (some (.bop .add (.loc 3) (.c (.int 1))))) (.slc (.loc 0) (some (.loc 3)) none))]⟩
class K_slipped (G : Glob) (fs : Nat → Option Fn) : Prop where
  e_slipped : fs 60 = some F_slipped := by rfl
/-- slots: row value -/
def F_is_slip : Fn := ⟨2, 2, false, [
  .if_ (.or (.not (.isi (.loc 1) [.tuple])) (.or (.cop .ne (.blt .len [(.loc 1)]) (.c (.int 3))) (.isi (.idx (.loc 1) (.c (.int 1))) [.bool]))) [
    .ret (.c (.bl false))] [],
  .ret (.cop .isin (.loc 1) (.call f_all_slips [(.loc 0)]))]⟩
class K_is_slip (G : Glob) (fs : Nat → Option Fn) : Prop extends K_all_slips G fs where
  e_is_slip : fs 61 = some F_is_slip := by rfl
/-- slots: row -/
def F_slips : Fn := ⟨1, 1, false, [
  .ex (.call f_need_row [(.loc 0)]),
  .ret (.call f_all_slips [(.loc 0)])]⟩
class K_slips (G : Glob) (fs : Nat → Option Fn) : Prop extends K_need_row G fs, K_all_slips G fs where
  e_slips : fs 62 = some F_slips := by rfl
/-- slots: row slip -/
def F_with_slip : Fn := ⟨2, 2, false, [
  .ex (.call f_need_row [(.loc 0)]),
  .if_ (.not (.call f_is_slip [(.loc 0), (.loc 1)])) [
    .raise x_InvalidSlip []] [],
  .ret (.call f_slipped [(.loc 0), (.loc 1)])]⟩
class K_with_slip (G : Glob) (fs : Nat → Option Fn) : Prop extends K_need_row G fs, K_slipped G fs, K_is_slip G fs where
  e_with_slip : fs 63 = some F_with_slip := by rfl
def L_law_slips_0 : List S := [
  .set 1 (.bop .add (.loc 1) (.lst [(.tup [(.c (.str [108, 101, 115, 115])), (.loc 2), (.c (.str []))]), (.tup [(.c (.str [116, 119, 105, 99, 101])), (.loc 2), (.c (.str []))])])),
  .set 1 (.bop .add (.loc 1) (.lc (.tup [(.c (.str [111, 116, 104, 101, 114])), (.loc 2), (.loc 3)]) (.n 3) (.seq (.c (.str [32, 60, 65, 66, 67, 97, 98, 99]))) [(.cop .ne (.loc 3) (.idx (.loc 0) (.loc 2)))] [3])),
  .if_ (.and (.cop .lt (.bop .add (.loc 2) (.c (.int 1))) (.blt .len [(.loc 0)])) (.cop .ne (.idx (.loc 0) (.loc 2)) (.idx (.loc 0) (.bop .add (.loc 2) (.c (.int 1)))))) [
    .app 1 (.tup [(.c (.str [116, 117, 114, 110, 101, 100])), (.loc 2), (.c (.str []))])] []]
/-- slots: row found at done -/
def F_law_slips : Fn := ⟨1, 4, false, [
  .set 1 (.lst []),
  .for_ (.n 2) (.rng [(.blt .len [(.loc 0)])]) L_law_slips_0,
  .ret (.blt .sorted [(.loc 1)])]⟩
class K_law_slips (G : Glob) (fs : Nat → Option Fn) : Prop where
  e_law_slips : fs 120 = some F_law_slips := by rfl
/-- slots: row slip kind at done mid -/
def F_law_with : Fn := ⟨2, 6, false, [
  .unp (.t [(.n 2), (.n 3), (.n 4)]) (.loc 1),
  .set 5 (.get2 (.dk [((.c (.str [108, 101, 115, 115])), (.c (.str []))), ((.c (.str [116, 119, 105, 99, 101])), (.bop .mul (.idx (.loc 0) (.loc 3)) (.c (.int 2)))), ((.c (.str [111, 116, 104, 101, 114])), (.loc 4)), ((.c (.str [116, 117, 114, 110, 101, 100])), (.bop .add (.slc (.loc 0) (some (.bop .add (.loc 3) (.c (.int 1)))) (some (.bop .add (.loc 3) (.c (.int 2))))) (.idx (.loc 0) (.loc 3))))]) (.loc 2) (.c (.str []))),
  .ret (.bop .add (.bop .add (.slc (.loc 0) none (some (.loc 3))) (.loc 5)) (.slc (.loc 0) (some (.bop .add (.bop .add (.loc 3) (.c (.int 1))) (.blt .int [(.cop .eq (.loc 2) (.c (.str [116, 117, 114, 110, 101, 100])))]))) none))]⟩
class K_law_with (G : Glob) (fs : Nat → Option Fn) : Prop where
  e_law_with : fs 121 = some F_law_with := by rfl
def L_law_k09_0 : List S := [
  .if_ (.cop .ne (.call f_with_slip [(.loc 3), (.loc 6)]) (.call f_law_with [(.loc 3), (.loc 6)])) [
    .ret (.c (.bl false))] []]
def L_law_k09_1 : List S := [
  .set 9 (.and (.isi (.loc 6) [.tuple]) (.and (.cop .isin (.loc 6) (.loc 5)) (.not (.isi (.idx (.loc 6) (.c (.int 1))) [.bool])))),
  .set 10 (.catch_ (.call f_with_slip [(.loc 3), (.loc 6)])),
  .if_ (.cop .ne (.loc 10) (.ite (.loc 9) (.tup [(.c (.str [116, 111, 108, 100])), (.call f_law_with [(.loc 3), (.loc 6)])]) (.tup [(.c (.str [73, 110, 118, 97, 108, 105, 100, 83, 108, 105, 112, 32, 43]))]))) [
    .ret (.c (.bl false))] []]
def L_law_k09_2 : List S := [
  .if_ (.cop .ne (.catch_ (.call f_slips [(.loc 11)])) (.tup [(.c (.str [73, 110, 118, 97, 108, 105, 100, 82, 111, 119, 32, 43]))])) [
    .ret (.c (.bl false))] [],
  .if_ (.cop .ne (.catch_ (.call f_with_slip [(.loc 11), (.c .non)])) (.tup [(.c (.str [73, 110, 118, 97, 108, 105, 100, 82, 111, 119, 32, 43]))])) [
    .ret (.c (.bl false))] []]
def L_law_k09_3 : List S := [
  .set 2 (.call f_law_crate [(.loc 0), (.loc 1)]),
  .set 3 (.calli f_law_row 2 [(.calli f_law_one_of 2 [(.lst [(.c (.int 3)), (.c (.int 8)), (.c (.int 30))])])]),
  .par [(4, (.call f_slips [(.loc 3)])), (5, (.call f_law_slips [(.loc 3)]))],
  .if_ (.or (.cop .ne (.loc 4) (.loc 5)) (.not (.isi (.loc 4) [.list]))) [
    .ret (.c (.bl false))] [],
  .app 4 (.c .non),
  .if_ (.cop .ne (.call f_slips [(.loc 3)]) (.loc 5)) [
    .ret (.c (.bl false))] [],
  .for_ (.n 6) (.seq (.loc 5)) L_law_k09_0,
  .set 7 (.lst [(.tup [(.c (.str [108, 101, 115, 115])), (.blt .len [(.loc 3)]), (.c (.str []))]), (.tup [(.c (.str [116, 119, 105, 99, 101])), (.neg (.c (.int 1))), (.c (.str []))]), (.tup [(.c (.str [116, 117, 114, 110, 101, 100])), (.bop .sub (.blt .len [(.loc 3)]) (.c (.int 1))), (.c (.str []))]), (.tup [(.c (.str [111, 116, 104, 101, 114])), (.c (.int 0)), (.c (.str [100]))]), (.c .non), (.c (.str []))]),
  .set 7 (.bop .add (.loc 7) (.lst [(.tup [(.c (.str [108, 101, 115, 115])), (.c (.int 0)), (.c (.str [97]))]), (.tup [(.c (.str [108, 101, 115, 115])), (.c (.bl false)), (.c (.str []))]), (.lst [(.c (.str [108, 101, 115, 115])), (.c (.int 0)), (.c (.str []))]), (.tup [(.c (.str [108, 101, 115, 115])), (.c (.int 0))]), (.tup [(.c (.str [116, 117, 114, 110, 101, 100])), (.c (.bl true)), (.c (.str []))])])),
  .for_ (.n 6) (.seq (.bop .add (.loc 7) (.lc (.calli f_law_shaken 2 [(.loc 8), (.c (.int 1))]) (.n 8) (.seq (.slc (.loc 5) none (some (.c (.int 4))))) [] [8]))) L_law_k09_1,
  .for_ (.n 11) (.seq (.lst [(.c .non), (.c (.str [100])), (.bop .mul (.c (.str [97])) (.c (.int 31))), (.tup [(.c (.str [97]))])])) L_law_k09_2]
/-- slots: script k crate row found due slip some one good word bad -/
def F_law_k09 : Fn := ⟨1, 12, false, [
  .for_ (.n 1) (.rng [(.blt .max2 [(.c (.int 1)), (.blt .min2 [(.c (.int 15)), (.blt .len [(.loc 0)])])])]) L_law_k09_3,
  .ret (.and (.cop .eq (.blt .len [(.call f_slips [(.c (.str [97, 65]))])]) (.c (.int 19))) (.cop .eq (.call f_with_slip [(.c (.str [97, 98])), (.tup [(.c (.str [116, 117, 114, 110, 101, 100])), (.c (.int 0)), (.c (.str []))])]) (.c (.str [98, 97]))))]⟩
class K_law_k09 (G : Glob) (fs : Nat → Option Fn) : Prop extends K_law_crate G fs, K_law_row G fs, K_law_one_of G fs, K_slips G fs, K_law_slips G fs, K_with_slip G fs, K_law_with G fs, K_law_shaken G fs where
  e_law_k09 : fs 90 = some F_law_k09 := by rfl
def L_explaining_0 : List S := [
  .unp (.t [(.n 5), (.n 6), (.n 7)]) (.call f_at_first [(.loc 0), (.call f_slipped [(.loc 1), (.loc 4)])]),
  .if_ (.and (.cop .eq (.loc 5) (.idx (.loc 2) (.c (.int 0)))) (.or (.cop .isn (.idx (.loc 2) (.c (.int 1))) (.c .non)) (.cop .eq (.loc 7) (.idx (.loc 2) (.c (.int 1)))))) [
    .app 3 (.loc 4)] []]
/-- slots: machine row sight found slip sheet column bells -/
def F_explaining : Fn := ⟨3, 8, false, [
  .ex (.call f_need_machine [(.loc 0)]),
  .ex (.call f_need_row [(.loc 1)]),
  .ex (.call f_need_sight [(.loc 0), (.loc 2)]),
  .set 3 (.lst []),
  .for_ (.n 4) (.seq (.call f_all_slips [(.loc 1)])) L_explaining_0,
  .ret (.loc 3)]⟩
class K_explaining (G : Glob) (fs : Nat → Option Fn) : Prop extends K_need_machine G fs, K_need_row G fs, K_need_sight G fs, K_all_slips G fs, K_at_first G fs, K_slipped G fs where
  e_explaining : fs 64 = some F_explaining := by rfl
/-- slots: machine row due slip -/
def F_unseen : Fn := ⟨2, 4, false, [
  .ex (.call f_need_machine [(.loc 0)]),
  .ex (.call f_need_row [(.loc 1)]),
  .set 2 (.idx (.call f_at_first [(.loc 0), (.loc 1)]) (.c (.int 0))),
  .ret (.lc (.loc 3) (.n 3) (.seq (.call f_all_slips [(.loc 1)])) [(.cop .eq (.idx (.call f_at_first [(.loc 0), (.call f_slipped [(.loc 1), (.loc 3)])]) (.c (.int 0))) (.loc 2))] [3])]⟩
class K_unseen (G : Glob) (fs : Nat → Option Fn) : Prop extends K_need_machine G fs, K_need_row G fs, K_at_first G fs, K_all_slips G fs, K_slipped G fs where
  e_unseen : fs 65 = some F_unseen := by rfl
def L_law_k10_0 : List S := [
  .set 5 (.calli f_law_row 2 [(.c (.int 16))]),
  .set 6 (.call f_law_slips [(.loc 5)]),
  .set 7 (.calli f_law_sight 2 [(.loc 3), (.c (.int 8))]),
  .if_ (.and (.cop .ne (.loc 6) (.lst [])) (.cop .gt (.calli f_law_dig 2 [(.c (.int 3))]) (.c (.int 0)))) [
    .unp (.t [(.n 8), (.n 9), (.n 10)]) (.call f_law_at_first [(.loc 3), (.call f_law_with [(.loc 5), (.calli f_law_one_of 2 [(.loc 6)])])]),
    .if_ (.cop .le (.call f_law_total [(.loc 8)]) (.c (.int 8))) [
      .set 7 (.tup [(.loc 8), (.calli f_law_one_of 2 [(.lst [(.c .non), (.blt .min2 [(.loc 10), (.c (.int 5))])])])])] []] [],
  .set 11 (.call f_explaining [(.loc 3), (.loc 5), (.loc 7)]),
  .if_ (.cop .ne (.loc 11) (.lc (.loc 12) (.n 12) (.seq (.loc 6)) [(.call f_law_has [(.loc 3), (.loc 7), (.call f_law_with [(.loc 5), (.loc 12)])])] [12])) [
    .ret (.c (.bl false))] [],
  .unp (.t [(.n 13), (.n 14)]) (.tup [(.call f_unseen [(.loc 3), (.loc 5)]), (.idx (.call f_law_at_first [(.loc 3), (.loc 5)]) (.c (.int 0)))]),
  .if_ (.cop .ne (.loc 13) (.lc (.loc 12) (.n 12) (.seq (.loc 6)) [(.cop .eq (.idx (.call f_law_at_first [(.loc 3), (.call f_law_with [(.loc 5), (.loc 12)])]) (.c (.int 0))) (.loc 14))] [12])) [
    .ret (.c (.bl false))] [],
  .if_ (.or (.not (.isi (.loc 11) [.list])) (.not (.isi (.loc 13) [.list]))) [
    .ret (.c (.bl false))] []]
def L_law_k10_1 : List S := [
  .if_ (.cop .ne (.catch_ (.call f_explaining [(.loc 3), (.loc 15), (.c .non)])) (.tup [(.c (.str [73, 110, 118, 97, 108, 105, 100, 82, 111, 119, 32, 43]))])) [
    .ret (.c (.bl false))] [],
  .if_ (.cop .ne (.catch_ (.call f_unseen [(.loc 3), (.loc 15)])) (.tup [(.c (.str [73, 110, 118, 97, 108, 105, 100, 82, 111, 119, 32, 43]))])) [
    .ret (.c (.bl false))] []]
def L_law_k10_2 : List S := [
  .set 2 (.call f_law_crate [(.loc 0), (.loc 1)]),
  .set 3 (.calli f_law_machine 2 [(.c (.int 5))]),
  .for_ (.n 4) (.rng [(.c (.int 3))]) L_law_k10_0,
  .for_ (.n 15) (.seq (.lst [(.c .non), (.c (.str [100])), (.bop .mul (.c (.str [97])) (.c (.int 31)))])) L_law_k10_1,
  .if_ (.cop .ne (.catch_ (.call f_explaining [(.loc 3), (.loc 5), (.slc (.loc 7) none (some (.c (.int 1))))])) (.tup [(.c (.str [73, 110, 118, 97, 108, 105, 100, 83, 105, 103, 104, 116, 32, 43]))])) [
    .ret (.c (.bl false))] []]
/-- slots: script k crate machine turn row every sight sheet column bells found slip hidden due bad -/
def F_law_k10 : Fn := ⟨1, 16, false, [
  .for_ (.n 1) (.rng [(.blt .max2 [(.c (.int 1)), (.blt .min2 [(.c (.int 8)), (.blt .len [(.loc 0)])])])]) L_law_k10_2,
  .ret (.cop .eq (.call f_explaining [(.tup [(.c (.int 2)), (.c (.int 2))]), (.c (.str [97, 98])), (.tup [(.tup [(.c (.str [97, 98])), (.c (.str [])), (.c (.str []))]), (.c .non)])]) (.lst [(.tup [(.c (.str [111, 116, 104, 101, 114])), (.c (.int 0)), (.c (.str [65]))])]))]⟩
class K_law_k10 (G : Glob) (fs : Nat → Option Fn) : Prop extends K_law_crate G fs, K_law_machine G fs, K_explaining G fs, K_law_row G fs, K_law_slips G fs, K_law_sight G fs, K_law_at_first G fs, K_unseen G fs, K_law_dig G fs, K_law_with G fs, K_law_total G fs, K_law_one_of G fs, K_law_has G fs where
  e_law_k10 : fs 90 = some F_law_k10 := by rfl
/-- slots: machine row column -/
def F_effects : Fn := ⟨2, 3, false, [
  .ret (.lc (.call f_led [(.loc 0), (.loc 1), (.call f_blank [(.loc 0)]), (.loc 2)]) (.n 2) (.rng [(.bop .add (.idx (.loc 0) (.c (.int 0))) (.c (.int 1)))]) [] [2])]⟩
class K_effects (G : Glob) (fs : Nat → Option Fn) : Prop extends K_led G fs, K_blank G fs where
  e_effects : fs 66 = some F_effects := by rfl
/-- slots: machine one other -/
def F_same : Fn := ⟨3, 3, false, [
  .ret (.cop .eq (.call f_effects [(.loc 0), (.loc 1)]) (.call f_effects [(.loc 0), (.loc 2)]))]⟩
class K_same (G : Glob) (fs : Nat → Option Fn) : Prop extends K_effects G fs where
  e_same : fs 67 = some F_same := by rfl
/-- slots: machine one other -/
def F_need_both : Fn := ⟨3, 3, false, [
  .ex (.call f_need_machine [(.loc 0)]),
  .ex (.call f_need_row [(.loc 1)]),
  .ex (.call f_need_row [(.loc 2)])]⟩
class K_need_both (G : Glob) (fs : Nat → Option Fn) : Prop extends K_need_machine G fs, K_need_row G fs where
  e_need_both : fs 68 = some F_need_both := by rfl
/-- slots: machine one other -/
def F_alike : Fn := ⟨3, 3, false, [
  .ex (.call f_need_both [(.loc 0), (.loc 1), (.loc 2)]),
  .ret (.call f_same [(.loc 0), (.loc 1), (.loc 2)])]⟩
class K_alike (G : Glob) (fs : Nat → Option Fn) : Prop extends K_need_both G fs, K_same G fs where
  e_alike : fs 71 = some F_alike := by rfl
def L_parting_0 : List S := [
  .if_ (.cop .ne (.loc 4) (.loc 5)) [
    .ret (.loc 3)] []]
/-- slots: machine one other column mine their -/
def F_parting : Fn := ⟨3, 6, false, [
  .ex (.call f_need_both [(.loc 0), (.loc 1), (.loc 2)]),
  .for_ (.t [(.n 3), (.t [(.n 4), (.n 5)])]) (.enumzip (.call f_effects [(.loc 0), (.loc 1)]) (.call f_effects [(.loc 0), (.loc 2)])) L_parting_0,
  .ret (.c .non)]⟩
class K_parting (G : Glob) (fs : Nat → Option Fn) : Prop extends K_need_both G fs, K_effects G fs where
  e_parting : fs 72 = some F_parting := by rfl
/-- slots: machine row at -/
def F_needless : Fn := ⟨2, 3, false, [
  .ex (.call f_need_machine [(.loc 0)]),
  .ex (.call f_need_row [(.loc 1)]),
  .ret (.lc (.loc 2) (.n 2) (.rng [(.blt .len [(.loc 1)])]) [(.call f_same [(.loc 0), (.loc 1), (.bop .add (.slc (.loc 1) none (some (.loc 2))) (.slc (.loc 1) (some (.bop .add (.loc 2) (.c (.int 1)))) none))])] [2])]⟩
class K_needless (G : Glob) (fs : Nat → Option Fn) : Prop extends K_need_machine G fs, K_need_row G fs, K_same G fs where
  e_needless : fs 73 = some F_needless := by rfl
/-- slots: text done -/
def F_law_swapped : Fn := ⟨1, 2, false, [
  .ret (.met .join (.c (.str [])) [(.lc (.ite (.cop .eq (.met .upper (.loc 1) []) (.loc 1)) (.met .lower (.loc 1) []) (.met .upper (.loc 1) [])) (.n 1) (.seq (.loc 0)) [] [1])])]⟩
class K_law_swapped (G : Glob) (fs : Nat → Option Fn) : Prop where
  e_law_swapped : fs 124 = some F_law_swapped := by rfl
/-- slots: crate row at turned -/
def F_law_close : Fn := ⟨2, 4, true, [
  .par [(2, (.calli f_law_dig 0 [(.bop .add (.blt .len [(.loc 1)]) (.c (.int 1)))])), (3, (.calli f_law_dig 0 [(.c (.int 5))]))],
  .if_ (.cop .eq (.loc 3) (.c (.int 0))) [
    .ret (.bop .add (.slc (.loc 1) none (some (.loc 2))) (.slc (.loc 1) (some (.bop .add (.loc 2) (.c (.int 1)))) none))] [],
  .if_ (.and (.cop .eq (.loc 3) (.c (.int 1))) (.cop .lt (.blt .len [(.loc 1)]) (.c (.int 30)))) [
    .ret (.bop .add (.bop .add (.slc (.loc 1) none (some (.loc 2))) (.calli f_law_one_of 0 [(.c (.str [32, 60, 65, 66, 67, 97, 98, 99]))])) (.slc (.loc 1) (some (.loc 2)) none))] [],
  .if_ (.cop .eq (.loc 3) (.c (.int 2))) [
    .ret (.bop .add (.bop .add (.slc (.loc 1) none (some (.loc 2))) (.rev (.slc (.loc 1) (some (.loc 2)) (some (.bop .add (.loc 2) (.c (.int 2))))))) (.slc (.loc 1) (some (.bop .add (.loc 2) (.c (.int 2)))) none))] [],
  .if_ (.and (.cop .eq (.loc 3) (.c (.int 3))) (.cop .lt (.loc 2) (.blt .len [(.loc 1)]))) [
    .ret (.bop .add (.bop .add (.slc (.loc 1) none (some (.loc 2))) (.call f_law_swapped [(.idx (.loc 1) (.loc 2))])) (.slc (.loc 1) (some (.bop .add (.loc 2) (.c (.int 1)))) none))] [],
  .ret (.loc 1)]⟩
class K_law_close (G : Glob) (fs : Nat → Option Fn) : Prop extends K_law_dig G fs, K_law_one_of G fs, K_law_swapped G fs where
  e_law_close : fs 122 = some F_law_close := by rfl
/-- slots: machine row column -/
def F_law_effects : Fn := ⟨2, 3, false, [
  .ret (.lc (.call f_law_typed [(.loc 0), (.loc 1), (.call f_law_blank [(.loc 0)]), (.loc 2)]) (.n 2) (.rng [(.bop .add (.idx (.loc 0) (.c (.int 0))) (.c (.int 1)))]) [] [2])]⟩
class K_law_effects (G : Glob) (fs : Nat → Option Fn) : Prop extends K_law_typed G fs, K_law_blank G fs where
  e_law_effects : fs 123 = some F_law_effects := by rfl
def L_law_k11_0 : List S := [
  .unp (.t [(.n 6), (.n 7)]) (.tup [(.call f_law_effects [(.loc 3), (.loc 4)]), (.call f_law_effects [(.loc 3), (.loc 5)])]),
  .set 8 (.lc (.loc 9) (.n 9) (.rng [(.blt .len [(.loc 6)])]) [(.cop .ne (.idx (.loc 6) (.loc 9)) (.idx (.loc 7) (.loc 9)))] [9]),
  .if_ (.not (.call f_law_is_told [(.call f_alike [(.loc 3), (.loc 4), (.loc 5)]), (.cop .eq (.loc 8) (.lst []))])) [
    .ret (.c (.bl false))] [],
  .if_ (.cop .ne (.call f_parting [(.loc 3), (.loc 4), (.loc 5)]) (.ite (.cop .ne (.loc 8) (.lst [])) (.idx (.loc 8) (.c (.int 0))) (.c .non))) [
    .ret (.c (.bl false))] []]
def L_law_k11_1 : List S := [
  .set 11 (.call f_law_effects [(.loc 3), (.loc 10)]),
  .set 12 (.lc (.loc 13) (.n 13) (.rng [(.blt .len [(.loc 10)])]) [(.cop .eq (.call f_law_effects [(.loc 3), (.bop .add (.slc (.loc 10) none (some (.loc 13))) (.slc (.loc 10) (some (.bop .add (.loc 13) (.c (.int 1)))) none))]) (.loc 11))] [13]),
  .set 14 (.call f_needless [(.loc 3), (.loc 10)]),
  .if_ (.or (.cop .ne (.loc 14) (.loc 12)) (.not (.isi (.loc 14) [.list]))) [
    .ret (.c (.bl false))] []]
def L_law_k11_2 : List S := [
  .if_ (.cop .ne (.catch_ (.callv 15 [(.loc 3), (.loc 4), (.c (.str [100]))])) (.tup [(.c (.str [73, 110, 118, 97, 108, 105, 100, 82, 111, 119, 32, 43]))])) [
    .ret (.c (.bl false))] [],
  .if_ (.cop .ne (.catch_ (.callv 15 [(.loc 3), (.c .non), (.c .non)])) (.tup [(.c (.str [73, 110, 118, 97, 108, 105, 100, 82, 111, 119, 32, 43]))])) [
    .ret (.c (.bl false))] [],
  .if_ (.cop .ne (.catch_ (.callv 15 [(.tup [(.c (.int 2)), (.c (.int 3))]), (.c .non), (.c .non)])) (.tup [(.c (.str [73, 110, 118, 97, 108, 105, 100, 77, 97, 99, 104, 105, 110, 101, 32, 43]))])) [
    .ret (.c (.bl false))] []]
def L_law_k11_3 : List S := [
  .set 2 (.call f_law_crate [(.loc 0), (.loc 1)]),
  .set 3 (.calli f_law_machine 2 [(.c (.int 5))]),
  .set 4 (.calli f_law_row 2 [(.c (.int 12))]),
  .for_ (.n 5) (.seq (.tup [(.calli f_law_close 2 [(.loc 4)]), (.calli f_law_close 2 [(.calli f_law_close 2 [(.loc 4)])]), (.calli f_law_row 2 [(.c (.int 12))]), (.loc 4)])) L_law_k11_0,
  .for_ (.n 10) (.seq (.tup [(.loc 4), (.calli f_law_row 2 [(.c (.int 30))])])) L_law_k11_1,
  .for_ (.n 15) (.seq (.tup [(.fnv f_alike), (.fnv f_parting)])) L_law_k11_2,
  .if_ (.cop .ne (.catch_ (.call f_needless [(.loc 3), (.bop .mul (.c (.str [97])) (.c (.int 31)))])) (.tup [(.c (.str [73, 110, 118, 97, 108, 105, 100, 82, 111, 119, 32, 43]))])) [
    .ret (.c (.bl false))] []]
/-- slots: script k crate machine one other mine their apart column row due idle at found call_so -/
def F_law_k11 : Fn := ⟨1, 16, false, [
  .for_ (.n 1) (.rng [(.blt .max2 [(.c (.int 1)), (.blt .min2 [(.c (.int 10)), (.blt .len [(.loc 0)])])])]) L_law_k11_3,
  .ret (.cop .eq (.call f_parting [(.tup [(.c (.int 2)), (.c (.int 2))]), (.c (.str [97, 60])), (.c (.str [65]))]) (.c (.int 1)))]⟩
class K_law_k11 (G : Glob) (fs : Nat → Option Fn) : Prop extends K_law_crate G fs, K_law_machine G fs, K_law_row G fs, K_alike G fs, K_parting G fs, K_law_close G fs, K_law_effects G fs, K_needless G fs, K_law_is_told G fs where
  e_law_k11 : fs 90 = some F_law_k11 := by rfl
def L_rows_of_0 : List S := [
  .set 1 (.lc2 (.bop .add (.loc 3) (.loc 4)) (.n 3) (.seq (.loc 1)) [] (.n 4) (.seq (.gl g_PRESSES)) [] [3, 4] [4])]
/-- slots: many found turn row press -/
def F_rows_of : Fn := ⟨1, 5, false, [
  .set 1 (.lst [(.c (.str []))]),
  .for_ (.n 2) (.rng [(.loc 0)]) L_rows_of_0,
  .ret (.loc 1)]⟩
class K_rows_of (G : Glob) (fs : Nat → Option Fn) : Prop extends KG_PRESSES G where
  e_rows_of : fs 69 = some F_rows_of := by rfl
def L_shortened_0 : List S := [
  .if_ (.cop .eq (.call f_effects [(.loc 0), (.loc 4)]) (.loc 2)) [
    .ret (.loc 4)] []]
def L_shortened_1 : List S := [
  .for_ (.n 4) (.seq (.call f_rows_of [(.loc 3)])) L_shortened_0]
/-- slots: machine row due many other -/
def F_shortened : Fn := ⟨2, 5, false, [
  .ex (.call f_need_machine [(.loc 0)]),
  .ex (.call f_need_row [(.loc 1)]),
  .set 2 (.call f_effects [(.loc 0), (.loc 1)]),
  .for_ (.n 3) (.rng [(.blt .min2 [(.bop .add (.gl g_SHORT) (.c (.int 1))), (.blt .len [(.loc 1)])])]) L_shortened_1,
  .ret (.c .non)]⟩
class K_shortened (G : Glob) (fs : Nat → Option Fn) : Prop extends KG_SHORT G, K_need_machine G fs, K_need_row G fs, K_effects G fs, K_rows_of G fs where
  e_shortened : fs 74 = some F_shortened := by rfl
/-- slots: one_machine other_machine many -/
def F_machines_parting : Fn := ⟨2, 3, false, [
  .ex (.call f_need_machine [(.loc 0)]),
  .ex (.call f_need_machine [(.loc 1)]),
  .if_ (.cop .eq (.loc 0) (.loc 1)) [
    .ret (.c .non)] [],
  .set 2 (.bop .add (.blt .min2 [(.idx (.loc 0) (.c (.int 0))), (.idx (.loc 1) (.c (.int 0)))]) (.c (.int 1))),
  .if_ (.cop .ne (.idx (.loc 0) (.c (.int 1))) (.idx (.loc 1) (.c (.int 1)))) [
    .set 2 (.blt .minl [(.loc 2), (.idx (.loc 0) (.c (.int 1))), (.idx (.loc 1) (.c (.int 1)))])] [],
  .ret (.bop .mul (.c (.str [32])) (.loc 2))]⟩
class K_machines_parting (G : Glob) (fs : Nat → Option Fn) : Prop extends K_need_machine G fs where
  e_machines_parting : fs 75 = some F_machines_parting := by rfl
def L_law_shorter_0 : List S := [
  .if_ (.cop .eq (.call f_law_typed [(.loc 0), (.loc 4), (.call f_law_blank [(.loc 0)]), (.c (.int 0))]) (.idx (.loc 2) (.c (.int 0)))) [
    .if_ (.cop .eq (.call f_law_effects [(.loc 0), (.loc 4)]) (.loc 2)) [
      .ret (.loc 4)] []] []]
def L_law_shorter_1 : List S := [
  .for_ (.n 4) (.seq (.call f_law_every_row [(.loc 3)])) L_law_shorter_0]
/-- slots: machine row due many other -/
def F_law_shorter : Fn := ⟨2, 5, false, [
  .set 2 (.call f_law_effects [(.loc 0), (.loc 1)]),
  .for_ (.n 3) (.rng [(.blt .min2 [(.c (.int 5)), (.blt .len [(.loc 1)])])]) L_law_shorter_1,
  .ret (.c .non)]⟩
class K_law_shorter (G : Glob) (fs : Nat → Option Fn) : Prop extends K_law_effects G fs, K_law_every_row G fs, K_law_typed G fs, K_law_blank G fs where
  e_law_shorter : fs 125 = some F_law_shorter := by rfl
def L_law_apart_0 : List S := [
  .unp (.t [(.n 8), (.n 9)]) (.call f_law_goes [(.loc 0), (.idx (.loc 5) (.c (.int 0))), (.loc 7)]),
  .unp (.t [(.n 10), (.n 11)]) (.call f_law_goes [(.loc 1), (.idx (.loc 5) (.c (.int 1))), (.loc 7)]),
  .if_ (.or (.cop .ne (.loc 8) (.loc 10)) (.cop .ne (.loc 9) (.loc 11))) [
    .ret (.bop .add (.loc 6) (.loc 7))] [],
  .if_ (.cop .notin (.tup [(.loc 8), (.loc 10)]) (.loc 3)) [
    .seti 3 (.tup [(.loc 8), (.loc 10)]) (.c (.bl true)),
    .app 4 (.tup [(.tup [(.loc 8), (.loc 10)]), (.bop .add (.loc 6) (.loc 7))])] []]
def L_law_apart_1 : List S := [
  .for_ (.n 7) (.seq (.c (.str [32, 60, 65, 66, 67, 97, 98, 99]))) L_law_apart_0]
def L_law_apart_2 : List S := [
  .set 4 (.lst []),
  .for_ (.t [(.n 5), (.n 6)]) (.seq (.loc 2)) L_law_apart_1,
  .set 2 (.loc 4)]
/-- slots: one other line seen later pair row done mine rings their chimes -/
def F_law_apart : Fn := ⟨2, 12, false, [
  .par [(2, (.lst [(.tup [(.tup [(.c (.int 0)), (.c (.int 0))]), (.c (.str []))])])), (3, (.dn [((.tup [(.c (.int 0)), (.c (.int 0))]), (.c (.bl true)))]))],
  .while_ (.cop .ne (.loc 2) (.lst [])) L_law_apart_2,
  .ret (.c .non)]⟩
class K_law_apart (G : Glob) (fs : Nat → Option Fn) : Prop extends K_law_goes G fs where
  e_law_apart : fs 126 = some F_law_apart := by rfl
def L_law_k12_0 : List S := [
  .if_ (.cop .ne (.call f_shortened [(.loc 3), (.loc 4)]) (.call f_law_shorter [(.loc 3), (.loc 4)])) [
    .ret (.c (.bl false))] []]
def L_law_k12_1 : List S := [
  .set 7 (.call f_law_apart [(.loc 3), (.tup [(.loc 5), (.loc 6)])]),
  .if_ (.or (.cop .ne (.call f_machines_parting [(.loc 3), (.tup [(.loc 5), (.loc 6)])]) (.loc 7)) (.cop .ne (.call f_machines_parting [(.tup [(.loc 5), (.loc 6)]), (.loc 3)]) (.loc 7))) [
    .ret (.c (.bl false))] []]
def L_law_k12_2 : List S := [
  .for_ (.n 6) (.rng [(.c (.int 1)), (.bop .add (.loc 5) (.c (.int 1)))]) L_law_k12_1]
def L_law_k12_3 : List S := [
  .if_ (.cop .ne (.catch_ (.call f_machines_parting [(.loc 8), (.c .non)])) (.tup [(.c (.str [73, 110, 118, 97, 108, 105, 100, 77, 97, 99, 104, 105, 110, 101, 32, 43]))])) [
    .ret (.c (.bl false))] [],
  .if_ (.cop .ne (.catch_ (.call f_machines_parting [(.loc 3), (.loc 8)])) (.tup [(.c (.str [73, 110, 118, 97, 108, 105, 100, 77, 97, 99, 104, 105, 110, 101, 32, 43]))])) [
    .ret (.c (.bl false))] []]
def L_law_k12_4 : List S := [
  .set 2 (.call f_law_crate [(.loc 0), (.loc 1)]),
  .set 3 (.calli f_law_machine 2 [(.c (.int 4))]),
  .for_ (.n 4) (.seq (.tup [(.calli f_law_row 2 [(.c (.int 7))]), (.calli f_law_one_of 2 [(.lst [(.c (.str [65, 65, 65])), (.c (.str [65, 65, 98, 60, 60])), (.c (.str [97, 60, 97, 60])), (.c (.str [32, 60, 32, 60])), (.c (.str [97, 65, 97, 66])), (.c (.str [60, 60, 60])), (.c (.str [65, 66, 65, 66]))])])])) L_law_k12_0,
  .for_ (.n 5) (.rng [(.c (.int 1)), (.c (.int 6))]) L_law_k12_2,
  .for_ (.n 8) (.seq (.lst [(.c .non), (.tup [(.c (.int 2)), (.c (.int 3))]), (.lst [(.c (.int 1)), (.c (.int 1))])])) L_law_k12_3,
  .if_ (.cop .ne (.catch_ (.call f_shortened [(.loc 3), (.c (.str [100]))])) (.tup [(.c (.str [73, 110, 118, 97, 108, 105, 100, 82, 111, 119, 32, 43]))])) [
    .ret (.c (.bl false))] []]
/-- slots: script k crate machine row last bell due bad -/
def F_law_k12 : Fn := ⟨1, 9, false, [
  .for_ (.n 1) (.rng [(.blt .max2 [(.c (.int 1)), (.blt .min2 [(.c (.int 3)), (.blt .len [(.loc 0)])])])]) L_law_k12_4,
  .ret (.cop .eq (.call f_shortened [(.tup [(.c (.int 2)), (.c (.int 2))]), (.c (.str [65, 65, 98, 60, 60]))]) (.c (.str [65, 98, 60, 60])))]⟩
class K_law_k12 (G : Glob) (fs : Nat → Option Fn) : Prop extends K_law_crate G fs, K_law_machine G fs, K_shortened G fs, K_law_row G fs, K_law_one_of G fs, K_law_shorter G fs, K_law_apart G fs, K_machines_parting G fs where
  e_law_k12 : fs 90 = some F_law_k12 := by rfl
def L_law_agree_0 : List S := [
  .if_ (.cop .ne (.call f_typed_on [(.loc 1), (.loc 2), (.loc 4), (.loc 5)]) (.call f_typed_on [(.loc 1), (.loc 3), (.loc 4), (.loc 5)])) [
    .ret (.c (.bl false))] []]
/-- slots: crate machine one other sheet column -/
def F_law_agree : Fn := ⟨4, 6, true, [
  .set 4 (.calli f_law_sheet 0 [(.loc 1), (.c (.int 8))]),
  .for_ (.n 5) (.rng [(.bop .add (.idx (.loc 1) (.c (.int 0))) (.c (.int 1)))]) L_law_agree_0,
  .ret (.c (.bl true))]⟩
class K_law_agree (G : Glob) (fs : Nat → Option Fn) : Prop extends K_law_sheet G fs, K_typed_on G fs where
  e_law_agree : fs 127 = some F_law_agree := by rfl
def L_law_k13_0 : List S := [
  .if_ (.cop .ne (.call f_typed_on [(.loc 3), (.loc 4), (.loc 8), (.loc 9)]) (.call f_typed_on [(.loc 3), (.loc 5), (.loc 8), (.loc 9)])) [
    .ret (.c (.bl false))] []]
def L_law_k13_1 : List S := [
  .par [(6, (.call f_alike [(.loc 3), (.loc 4), (.loc 5)])), (7, (.call f_parting [(.loc 3), (.loc 4), (.loc 5)]))],
  .if_ (.or (.cop .ne (.loc 6) (.cop .isn (.loc 7) (.c .non))) (.and (.loc 6) (.not (.calli f_law_agree 2 [(.loc 3), (.loc 4), (.loc 5)])))) [
    .ret (.c (.bl false))] [],
  .set 8 (.call f_law_blank [(.loc 3)]),
  .if_ (.cop .notn (.loc 7) (.c .non)) [
    .if_ (.cop .eq (.call f_typed_on [(.loc 3), (.loc 4), (.loc 8), (.loc 7)]) (.call f_typed_on [(.loc 3), (.loc 5), (.loc 8), (.loc 7)])) [
      .ret (.c (.bl false))] [],
    .for_ (.n 9) (.rng [(.loc 7)]) L_law_k13_0] []]
def L_law_k13_2 : List S := [
  .if_ (.not (.calli f_law_agree 2 [(.loc 3), (.loc 4), (.bop .add (.slc (.loc 4) none (some (.loc 10))) (.slc (.loc 4) (some (.bop .add (.loc 10) (.c (.int 1)))) none))])) [
    .ret (.c (.bl false))] []]
def L_law_k13_3 : List S := [
  .set 2 (.call f_law_crate [(.loc 0), (.loc 1)]),
  .set 3 (.calli f_law_machine 2 [(.c (.int 3))]),
  .set 4 (.calli f_law_row 2 [(.c (.int 9))]),
  .for_ (.n 5) (.seq (.tup [(.calli f_law_close 2 [(.loc 4)]), (.calli f_law_row 2 [(.c (.int 9))]), (.loc 4)])) L_law_k13_1,
  .for_ (.n 10) (.seq (.slc (.call f_needless [(.loc 3), (.loc 4)]) none (some (.c (.int 3))))) L_law_k13_2,
  .if_ (.cop .lt (.loc 1) (.c (.int 3))) [
    .set 11 (.call f_shortened [(.loc 3), (.loc 4)]),
    .if_ (.and (.cop .notn (.loc 11) (.c .non)) (.or (.cop .ge (.blt .len [(.loc 11)]) (.blt .len [(.loc 4)])) (.not (.call f_alike [(.loc 3), (.loc 4), (.loc 11)])))) [
      .ret (.c (.bl false))] []] [],
  .par [(12, (.calli f_law_sheet 2 [(.loc 3), (.c (.int 5))])), (9, (.calli f_law_dig 2 [(.bop .add (.idx (.loc 3) (.c (.int 0))) (.c (.int 1)))]))],
  .set 13 (.idx (.call f_typed_on [(.loc 3), (.loc 4), (.loc 12), (.loc 9)]) (.c (.int 0))),
  .set 14 (.lc (.loc 15) (.n 15) (.seq (.call f_marks [(.loc 3), (.loc 12)])) [(.cop .notin (.idx (.loc 15) (.c (.int 1))) (.idx (.loc 13) (.idx (.loc 15) (.c (.int 0)))))] [15]),
  .if_ (.cop .ne (.loc 14) (.lst [])) [
    .ret (.c (.bl false))] []]
/-- slots: script k crate machine one other agree apart clean column at less sheet later lost mark -/
def F_law_k13 : Fn := ⟨1, 16, false, [
  .for_ (.n 1) (.rng [(.blt .max2 [(.c (.int 1)), (.blt .min2 [(.c (.int 10)), (.blt .len [(.loc 0)])])])]) L_law_k13_3,
  .ret (.c (.bl true))]⟩
class K_law_k13 (G : Glob) (fs : Nat → Option Fn) : Prop extends K_law_crate G fs, K_law_machine G fs, K_law_row G fs, K_law_close G fs, K_law_blank G fs, K_needless G fs, K_shortened G fs, K_law_sheet G fs, K_law_dig G fs, K_typed_on G fs, K_alike G fs, K_parting G fs, K_law_agree G fs, K_marks G fs where
  e_law_k13 : fs 90 = some F_law_k13 := by rfl
def L_law_turned_0 : List S := [
  .seti 2 (.met .upper (.loc 3) []) (.met .upper (.idx (.loc 2) (.loc 3)) [])]
/-- slots: swap text table sign done -/
def F_law_turned : Fn := ⟨2, 5, false, [
  .set 2 (.dictz (.c (.str [97, 98, 99])) (.loc 0)),
  .for_ (.n 3) (.seq (.c (.str [97, 98, 99]))) L_law_turned_0,
  .ret (.met .join (.c (.str [])) [(.lc (.get2 (.loc 2) (.loc 4) (.loc 4)) (.n 4) (.seq (.loc 1)) [] [4])])]⟩
class K_law_turned (G : Glob) (fs : Nat → Option Fn) : Prop where
  e_law_turned : fs 128 = some F_law_turned := by rfl
/-- slots: swap sheet cell -/
def F_law_other : Fn := ⟨2, 3, false, [
  .ret (.blt .tuple [(.lc (.met .join (.c (.str [])) [(.blt .sorted [(.call f_law_turned [(.loc 0), (.loc 2)])])]) (.n 2) (.seq (.loc 1)) [] [2])])]⟩
class K_law_other (G : Glob) (fs : Nat → Option Fn) : Prop extends K_law_turned G fs where
  e_law_other : fs 129 = some F_law_other := by rfl
def L_law_numbers_right_0 : List S := [
  .set 6 (.call f_uses [(.loc 0), (.loc 2), (.loc 3), (.loc 5)]),
  .if_ (.cop .ne (.call f_uses [(.loc 0), (.loc 4), (.loc 3), (.call f_law_turned [(.loc 1), (.loc 5)])]) (.loc 6)) [
    .ret (.c (.bl false))] []]
def L_law_numbers_right_1 : List S := [
  .set 10 (.tup [(.idx (.loc 8) (.c (.int 0))), (.call f_law_turned [(.loc 1), (.idx (.loc 8) (.c (.int 1)))])]),
  .set 11 (.tup [(.idx (.loc 9) (.c (.int 0))), (.call f_law_turned [(.loc 1), (.idx (.loc 9) (.c (.int 1)))])]),
  .set 12 (.call f_sooner [(.loc 0), (.loc 2), (.loc 3), (.loc 8), (.loc 9)]),
  .if_ (.cop .ne (.call f_sooner [(.loc 0), (.loc 4), (.loc 3), (.loc 10), (.loc 11)]) (.loc 12)) [
    .ret (.c (.bl false))] []]
/-- slots: machine swap sight many other done times wants one two mine their word -/
def F_law_numbers_right : Fn := ⟨4, 13, false, [
  .set 4 (.tup [(.call f_law_other [(.loc 1), (.idx (.loc 2) (.c (.int 0)))]), (.idx (.loc 2) (.c (.int 1)))]),
  .if_ (.cop .ne (.call f_count [(.loc 0), (.loc 4), (.loc 3)]) (.call f_count [(.loc 0), (.loc 2), (.loc 3)])) [
    .ret (.c (.bl false))] [],
  .if_ (.cop .ne (.call f_fewest [(.loc 0), (.loc 4)]) (.call f_fewest [(.loc 0), (.loc 2)])) [
    .ret (.c (.bl false))] [],
  .if_ (.cop .ne (.call f_columns [(.loc 0), (.loc 4), (.loc 3)]) (.call f_columns [(.loc 0), (.loc 2), (.loc 3)])) [
    .ret (.c (.bl false))] [],
  .if_ (.cop .ne (.call f_bells_heard [(.loc 0), (.idx (.loc 4) (.c (.int 0))), (.loc 3)]) (.call f_bells_heard [(.loc 0), (.idx (.loc 2) (.c (.int 0))), (.loc 3)])) [
    .ret (.c (.bl false))] [],
  .for_ (.n 5) (.seq (.c (.str [32, 60, 65, 66, 67, 97, 98, 99]))) L_law_numbers_right_0,
  .set 7 (.call f_law_wants [(.idx (.loc 2) (.c (.int 0)))]),
  .for_ (.t [(.n 8), (.n 9)]) (.zip (.loc 7) (.slc (.loc 7) (some (.c (.int 1))) none)) L_law_numbers_right_1,
  .ret (.c (.bl true))]⟩
class K_law_numbers_right (G : Glob) (fs : Nat → Option Fn) : Prop extends K_law_wants G fs, K_law_other G fs, K_count G fs, K_fewest G fs, K_columns G fs, K_bells_heard G fs, K_uses G fs, K_sooner G fs, K_law_turned G fs where
  e_law_numbers_right : fs 130 = some F_law_numbers_right := by rfl
/-- slots: swap some slip -/
def F_law_all_turned : Fn := ⟨2, 3, false, [
  .ret (.blt .sorted [(.lc (.tup [(.idx (.loc 2) (.c (.int 0))), (.idx (.loc 2) (.c (.int 1))), (.call f_law_turned [(.loc 0), (.idx (.loc 2) (.c (.int 2)))])]) (.n 2) (.seq (.loc 1)) [] [2])])]⟩
class K_law_all_turned (G : Glob) (fs : Nat → Option Fn) : Prop extends K_law_turned G fs where
  e_law_all_turned : fs 131 = some F_law_all_turned := by rfl
/-- slots: crate machine swap row near back sheet column bells found other late rows -/
def F_law_rows_right : Fn := ⟨3, 13, true, [
  .par [(3, (.calli f_law_row 0 [(.c (.int 10))])), (4, (.calli f_law_row 0 [(.c (.int 10))]))],
  .set 5 (.call f_law_turned [(.loc 2), (.loc 3)]),
  .unp (.t [(.n 6), (.n 7), (.n 8)]) (.call f_typed [(.loc 1), (.loc 3)]),
  .if_ (.cop .ne (.call f_typed [(.loc 1), (.loc 5)]) (.tup [(.call f_law_other [(.loc 2), (.loc 6)]), (.loc 7), (.loc 8)])) [
    .ret (.c (.bl false))] [],
  .if_ (.cop .ne (.call f_needless [(.loc 1), (.loc 5)]) (.call f_needless [(.loc 1), (.loc 3)])) [
    .ret (.c (.bl false))] [],
  .if_ (.cop .ne (.call f_alike [(.loc 1), (.loc 5), (.call f_law_turned [(.loc 2), (.loc 4)])]) (.call f_alike [(.loc 1), (.loc 3), (.loc 4)])) [
    .ret (.c (.bl false))] [],
  .if_ (.cop .ne (.call f_law_all_turned [(.loc 2), (.call f_unseen [(.loc 1), (.loc 3)])]) (.call f_unseen [(.loc 1), (.loc 5)])) [
    .ret (.c (.bl false))] [],
  .if_ (.cop .le (.call f_law_total [(.loc 6)]) (.c (.int 8))) [
    .set 9 (.call f_explaining [(.loc 1), (.loc 4), (.tup [(.loc 6), (.c .non)])]),
    .set 10 (.tup [(.call f_law_other [(.loc 2), (.loc 6)]), (.c .non)]),
    .set 11 (.call f_explaining [(.loc 1), (.call f_law_turned [(.loc 2), (.loc 4)]), (.loc 10)]),
    .if_ (.cop .ne (.call f_law_all_turned [(.loc 2), (.loc 9)]) (.loc 11)) [
      .ret (.c (.bl false))] [],
    .set 12 (.call f_count [(.loc 1), (.tup [(.loc 6), (.c .non)]), (.blt .len [(.loc 3)])]),
    .if_ (.and (.cop .lt (.blt .len [(.loc 3)]) (.c (.int 9))) (.cop .ge (.call f_place_of [(.loc 1), (.loc 3), (.c (.bl false))]) (.loc 12))) [
      .ret (.c (.bl false))] []] [],
  .ret (.c (.bl true))]⟩
class K_law_rows_right (G : Glob) (fs : Nat → Option Fn) : Prop extends K_law_turned G fs, K_typed G fs, K_law_row G fs, K_needless G fs, K_alike G fs, K_law_all_turned G fs, K_unseen G fs, K_law_total G fs, K_explaining G fs, K_count G fs, K_law_other G fs, K_place_of G fs where
  e_law_rows_right : fs 132 = some F_law_rows_right := by rfl
def L_law_k18_0 : List S := [
  .set 2 (.call f_law_crate [(.loc 0), (.loc 1)]),
  .set 3 (.calli f_law_machine 2 [(.c (.int 5))]),
  .set 4 (.calli f_law_one_of 2 [(.lst [(.c (.str [98, 97, 99])), (.c (.str [99, 98, 97])), (.c (.str [97, 99, 98])), (.c (.str [98, 99, 97])), (.c (.str [99, 97, 98]))])]),
  .par [(5, (.calli f_law_sight 2 [(.loc 3), (.c (.int 4))])), (6, (.calli f_law_dig 2 [(.c (.int 9))]))],
  .if_ (.not (.call f_law_numbers_right [(.loc 3), (.loc 4), (.loc 5), (.loc 6)])) [
    .ret (.c (.bl false))] [],
  .if_ (.not (.calli f_law_rows_right 2 [(.loc 3), (.loc 4)])) [
    .ret (.c (.bl false))] []]
/-- slots: script k crate machine swap sight many -/
def F_law_k18 : Fn := ⟨1, 7, false, [
  .for_ (.n 1) (.rng [(.blt .max2 [(.c (.int 1)), (.blt .min2 [(.c (.int 6)), (.blt .len [(.loc 0)])])])]) L_law_k18_0,
  .ret (.c (.bl true))]⟩
class K_law_k18 (G : Glob) (fs : Nat → Option Fn) : Prop extends K_law_crate G fs, K_law_machine G fs, K_law_one_of G fs, K_law_sight G fs, K_law_dig G fs, K_law_numbers_right G fs, K_law_rows_right G fs where
  e_law_k18 : fs 90 = some F_law_k18 := by rfl
/-- slots: machine sight found many at -/
def F_law_over_so : Fn := ⟨0, 5, false, [
  .unp (.t [(.n 0), (.n 1)]) (.tup [(.tup [(.c (.int 2)), (.c (.int 2))]), (.tup [(.tup [(.c (.str [97, 98])), (.c (.str [])), (.c (.str []))]), (.c .non)])]),
  .set 2 (.lst [(.cop .eq (.lc (.call f_count [(.loc 0), (.loc 1), (.loc 3)]) (.n 3) (.rng [(.c (.int 4))]) [] [3]) (.lst [(.c (.int 0)), (.c (.int 0)), (.c (.int 4)), (.c (.int 32))]))]),
  .app 2 (.cop .eq (.lc (.call f_row_at [(.loc 0), (.loc 1), (.c (.int 2)), (.loc 4)]) (.n 4) (.rng [(.c (.int 4))]) [] [4]) (.lst [(.c (.str [65, 66])), (.c (.str [65, 98])), (.c (.str [66, 65])), (.c (.str [66, 97]))])),
  .app 2 (.and (.cop .eq (.call f_place_of [(.loc 0), (.c (.str [65, 98])), (.c (.bl false))]) (.c (.int 1))) (.cop .eq (.call f_place_of [(.loc 0), (.c (.str [65, 98])), (.c (.bl true))]) (.c (.int 1)))),
  .app 2 (.and (.cop .eq (.call f_fewest [(.loc 0), (.loc 1)]) (.c (.int 2))) (.cop .eq (.call f_fewest_row [(.loc 0), (.loc 1)]) (.c (.str [65, 66])))),
  .app 2 (.and (.cop .eq (.call f_uses [(.loc 0), (.loc 1), (.c (.int 2)), (.c (.str [65]))]) (.tup [(.c (.int 0)), (.c (.int 1))])) (.cop .isn (.call f_uses [(.loc 0), (.loc 1), (.c (.int 1)), (.c (.str [65]))]) (.c .non))),
  .app 2 (.and (.cop .eq (.call f_columns [(.loc 0), (.loc 1), (.c (.int 2))]) (.lst [(.c (.int 0)), (.c (.int 1))])) (.cop .eq (.call f_columns [(.loc 0), (.loc 1), (.c (.int 3))]) (.lst [(.c (.int 0)), (.c (.int 1)), (.c (.int 2))]))),
  .app 2 (.and (.cop .eq (.call f_bells_heard [(.loc 0), (.idx (.loc 1) (.c (.int 0))), (.c (.int 4))]) (.lst [(.c (.int 0)), (.c (.int 1))])) (.cop .eq (.call f_bells_heard [(.loc 0), (.idx (.loc 1) (.c (.int 0))), (.c (.int 5))]) (.lst [(.c (.int 0)), (.c (.int 1)), (.c (.int 2))]))),
  .ret (.bop .add (.loc 2) (.lst [(.cop .eq (.call f_sooner [(.loc 0), (.loc 1), (.c (.int 2)), (.tup [(.c (.int 0)), (.c (.str [97]))]), (.tup [(.c (.int 0)), (.c (.str [98]))])]) (.c (.str [112, 101, 114, 104, 97, 112, 115])))]))]⟩
class K_law_over_so (G : Glob) (fs : Nat → Option Fn) : Prop extends K_count G fs, K_row_at G fs, K_place_of G fs, K_fewest G fs, K_fewest_row G fs, K_uses G fs, K_columns G fs, K_bells_heard G fs, K_sooner G fs where
  e_law_over_so : fs 133 = some F_law_over_so := by rfl
/-- slots: last machine sheet found -/
def F_law_far_so : Fn := ⟨1, 4, false, [
  .set 1 (.tup [(.loc 0), (.loc 0)]),
  .set 2 (.bop .add (.bop .mul (.tup [(.c (.str []))]) (.loc 0)) (.tup [(.c (.str [99]))])),
  .set 3 (.lst [(.cop .eq (.call f_fewest [(.loc 1), (.tup [(.loc 2), (.c .non)])]) (.bop .add (.loc 0) (.c (.int 1)))), (.cop .eq (.call f_fewest_row [(.loc 1), (.tup [(.loc 2), (.c .non)])]) (.bop .add (.bop .mul (.c (.str [32])) (.loc 0)) (.c (.str [67]))))]),
  .app 3 (.and (.cop .isn (.call f_fewest [(.loc 1), (.tup [(.loc 2), (.c (.int 0))])]) (.c .non)) (.cop .eq (.call f_barring [(.loc 1), (.tup [(.loc 2), (.c (.int 0))])]) (.lst [(.tup [(.loc 0), (.c (.str [99]))])]))),
  .app 3 (.and (.cop .eq (.call f_fewest [(.loc 1), (.tup [(.loc 2), (.c (.int 2))])]) (.bop .add (.loc 0) (.c (.int 3)))) (.cop .eq (.call f_count [(.loc 1), (.tup [(.loc 2), (.c .non)]), (.bop .add (.loc 0) (.c (.int 1)))]) (.c (.int 2)))),
  .app 3 (.cop .eq (.call f_uses [(.loc 1), (.tup [(.loc 2), (.c .non)]), (.bop .add (.loc 0) (.c (.int 1))), (.c (.str [32]))]) (.tup [(.loc 0), (.loc 0)])),
  .app 3 (.and (.cop .eq (.call f_columns [(.loc 1), (.tup [(.loc 2), (.c .non)]), (.loc 0)]) (.lst [])) (.cop .eq (.call f_barring [(.loc 1), (.tup [(.loc 2), (.c .non)])]) (.lst []))),
  .app 3 (.cop .eq (.call f_typed [(.loc 1), (.bop .mul (.c (.str [32])) (.bop .add (.loc 0) (.c (.int 5))))]) (.tup [(.bop .mul (.tup [(.c (.str []))]) (.bop .add (.loc 0) (.c (.int 1)))), (.loc 0), (.c (.int 1))])),
  .ret (.bop .add (.loc 3) (.lst [(.cop .isn (.call f_machines_parting [(.loc 1), (.tup [(.loc 0), (.loc 0)])]) (.c .non)), (.cop .eq (.call f_machines_parting [(.tup [(.c (.int 5)), (.c (.int 5))]), (.tup [(.c (.int 4)), (.c (.int 4))])]) (.c (.str [32, 32, 32, 32])))]))]⟩
class K_law_far_so (G : Glob) (fs : Nat → Option Fn) : Prop extends K_fewest G fs, K_fewest_row G fs, K_uses G fs, K_typed G fs, K_barring G fs, K_count G fs, K_columns G fs, K_machines_parting G fs where
  e_law_far_so : fs 134 = some F_law_far_so := by rfl
def L_law_twos_0 : List S := [
  .set 1 (.bop .mul (.loc 1) (.c (.int 2)))]
/-- slots: many found turn -/
def F_law_twos : Fn := ⟨1, 3, false, [
  .set 1 (.c (.int 1)),
  .for_ (.n 2) (.rng [(.loc 0)]) L_law_twos_0,
  .ret (.loc 1)]⟩
class K_law_twos (G : Glob) (fs : Nat → Option Fn) : Prop where
  e_law_twos : fs 136 = some F_law_twos := by rfl
/-- slots: many machine found -/
def F_law_blank_so : Fn := ⟨1, 3, false, [
  .set 1 (.tup [(.c (.int 1)), (.c (.int 1))]),
  .set 2 (.lst [(.cop .eq (.call f_count [(.loc 1), (.tup [(.tup [(.c (.str [])), (.c (.str []))]), (.c .non)]), (.loc 0)]) (.call f_law_twos [(.loc 0)]))]),
  .app 2 (.cop .eq (.call f_uses [(.loc 1), (.tup [(.tup [(.c (.str [])), (.c (.str []))]), (.c .non)]), (.loc 0), (.c (.str [60]))]) (.tup [(.c (.int 0)), (.loc 0)])),
  .app 2 (.cop .eq (.call f_uses [(.loc 1), (.tup [(.tup [(.c (.str [])), (.c (.str []))]), (.c .non)]), (.loc 0), (.c (.str [97]))]) (.tup [(.c (.int 0)), (.c (.int 0))])),
  .ret (.bop .add (.loc 2) (.lst [(.cop .eq (.call f_columns [(.loc 1), (.tup [(.tup [(.c (.str [])), (.c (.str []))]), (.c (.int 0))]), (.loc 0)]) (.lst [(.c (.int 0))])), (.cop .eq (.call f_count [(.loc 1), (.tup [(.tup [(.c (.str [])), (.c (.str []))]), (.c (.int 0))]), (.loc 0)]) (.c (.int 1)))]))]⟩
class K_law_blank_so (G : Glob) (fs : Nat → Option Fn) : Prop extends K_count G fs, K_law_twos G fs, K_uses G fs, K_columns G fs where
  e_law_blank_so : fs 135 = some F_law_blank_so := by rfl
/-- slots: machine found -/
def F_law_slips_so : Fn := ⟨0, 2, false, [
  .set 0 (.tup [(.c (.int 2)), (.c (.int 2))]),
  .set 1 (.lst [(.cop .eq (.blt .len [(.call f_slips [(.c (.str [97, 65]))])]) (.c (.int 19))), (.cop .eq (.call f_explaining [(.loc 0), (.c (.str [97, 98])), (.tup [(.tup [(.c (.str [97, 98])), (.c (.str [])), (.c (.str []))]), (.c .non)])]) (.lst [(.tup [(.c (.str [111, 116, 104, 101, 114])), (.c (.int 0)), (.c (.str [65]))])]))]),
  .app 1 (.cop .eq (.call f_unseen [(.loc 0), (.c (.str [65]))]) (.lst [(.tup [(.c (.str [111, 116, 104, 101, 114])), (.c (.int 0)), (.c (.str [97]))]), (.tup [(.c (.str [116, 119, 105, 99, 101])), (.c (.int 0)), (.c (.str []))])])),
  .app 1 (.cop .eq (.call f_unseen [(.loc 0), (.c (.str [32]))]) (.lst [(.tup [(.c (.str [108, 101, 115, 115])), (.c (.int 0)), (.c (.str []))]), (.tup [(.c (.str [111, 116, 104, 101, 114])), (.c (.int 0)), (.c (.str [60]))]), (.tup [(.c (.str [116, 119, 105, 99, 101])), (.c (.int 0)), (.c (.str []))])])),
  .app 1 (.and (.call f_alike [(.loc 0), (.c (.str [65, 66])), (.c (.str [66, 65]))]) (.and (.cop .eq (.call f_parting [(.loc 0), (.c (.str [97, 60])), (.c (.str [65]))]) (.c (.int 1))) (.cop .eq (.call f_needless [(.loc 0), (.c (.str [65, 97, 66]))]) (.lst [(.c (.int 0))])))),
  .app 1 (.and (.cop .eq (.call f_shortened [(.loc 0), (.c (.str [65, 65, 98, 60, 60]))]) (.c (.str [65, 98, 60, 60]))) (.cop .isn (.call f_shortened [(.loc 0), (.c (.str [97, 98]))]) (.c .non))),
  .app 1 (.cop .eq (.call f_typed_on [(.loc 0), (.c (.str [60, 65])), (.tup [(.c (.str [97])), (.c (.str [])), (.c (.str [99]))]), (.c (.int 2))]) (.tup [(.tup [(.c (.str [97])), (.c (.str [97])), (.c (.str [99]))]), (.c (.int 1)), (.c (.int 0))])),
  .ret (.bop .add (.loc 1) (.lst [(.cop .eq (.call f_machines_parting [(.tup [(.c (.int 2)), (.c (.int 2))]), (.tup [(.c (.int 2)), (.c (.int 1))])]) (.c (.str [32]))), (.cop .eq (.call f_machines_parting [(.tup [(.c (.int 1)), (.c (.int 1))]), (.tup [(.c (.int 2)), (.c (.int 1))])]) (.c (.str [32, 32])))]))]⟩
class K_law_slips_so (G : Glob) (fs : Nat → Option Fn) : Prop extends K_explaining G fs, K_unseen G fs, K_alike G fs, K_typed_on G fs, K_slips G fs, K_parting G fs, K_needless G fs, K_shortened G fs, K_machines_parting G fs where
  e_law_slips_so : fs 137 = some F_law_slips_so := by rfl
def L_law_k19_0 : List S := [
  .set 2 (.call f_law_crate [(.loc 0), (.loc 1)]),
  .if_ (.or (.cop .isin (.c (.bl false)) (.call f_law_over_so [])) (.cop .isin (.c (.bl false)) (.call f_law_far_so [(.bop .add (.c (.int 1)) (.calli f_law_dig 2 [(.c (.int 5))]))]))) [
    .ret (.c (.bl false))] [],
  .if_ (.or (.cop .isin (.c (.bl false)) (.call f_law_blank_so [(.bop .add (.c (.int 1)) (.calli f_law_dig 2 [(.c (.int 20))]))])) (.cop .isin (.c (.bl false)) (.call f_law_slips_so []))) [
    .ret (.c (.bl false))] []]
/-- slots: script k crate -/
def F_law_k19 : Fn := ⟨1, 3, false, [
  .for_ (.n 1) (.rng [(.blt .max2 [(.c (.int 1)), (.blt .min2 [(.c (.int 5)), (.blt .len [(.loc 0)])])])]) L_law_k19_0,
  .ret (.c (.bl true))]⟩
class K_law_k19 (G : Glob) (fs : Nat → Option Fn) : Prop extends K_law_crate G fs, K_law_over_so G fs, K_law_far_so G fs, K_law_blank_so G fs, K_law_slips_so G fs, K_law_dig G fs where
  e_law_k19 : fs 90 = some F_law_k19 := by rfl
def F_law_kinds : Fn := ⟨1, 5, false, [
  .set 1 (.lst [(.isc (.loc 0) 5), (.isc (.loc 0) 8), (.isc (.loc 0) 1)]),
  .set 1 (.bop .add (.loc 1) (.lst [(.isc (.loc 0) 10), (.isc (.loc 0) 6), (.isc (.loc 0) 7)])),
  .set 1 (.bop .add (.loc 1) (.lst [(.isc (.loc 0) 2), (.isc (.loc 0) 3), (.isc (.loc 0) 4)])),
  .set 1 (.bop .add (.loc 1) (.lst [(.isc (.loc 0) 11), (.isc (.loc 0) 9), (.isc (.loc 0) 12)])),
  .set 1 (.bop .add (.loc 1) (.lst [(.isc (.loc 0) 13), (.isv (.loc 0))])),
  .set 2 (.lst [(.c (.str [73, 110, 118, 97, 108, 105, 100, 67, 111, 108, 117, 109, 110])), (.c (.str [73, 110, 118, 97, 108, 105, 100, 73, 110, 100, 101, 120])), (.c (.str [73, 110, 118, 97, 108, 105, 100, 77, 97, 99, 104, 105, 110, 101])), (.c (.str [73, 110, 118, 97, 108, 105, 100, 77, 97, 114, 107])), (.c (.str [73, 110, 118, 97, 108, 105, 100, 78, 117, 109, 98, 101, 114])), (.c (.str [73, 110, 118, 97, 108, 105, 100, 80, 114, 101, 115, 115]))]),
  .set 2 (.bop .add (.loc 2) (.lst [(.c (.str [73, 110, 118, 97, 108, 105, 100, 82, 111, 119])), (.c (.str [73, 110, 118, 97, 108, 105, 100, 83, 104, 101, 101, 116])), (.c (.str [73, 110, 118, 97, 108, 105, 100, 83, 105, 103, 104, 116])), (.c (.str [73, 110, 118, 97, 108, 105, 100, 83, 108, 105, 112])), (.c (.str [73, 110, 118, 97, 108, 105, 100, 84, 114, 117, 116, 104])), (.c (.str [78, 111, 116, 104, 105, 110, 103, 84, 111, 85, 110, 100, 111]))])),
  .ret (.met .join (.c (.str [32])) [(.lc (.loc 3) (.t [(.n 3), (.n 4)]) (.zipl (.bop .add (.loc 2) (.lst [(.c (.str [84, 111, 111, 77, 97, 110, 121])), (.c (.str [43]))])) (.loc 1)) [(.loc 4)] [3, 4])])]⟩
def kindS : Nat → List Nat
  | 0 => [84, 121, 112, 101, 79, 118, 101, 114, 69, 114, 114, 111, 114, 32, 43]
  | 1 => [73, 110, 118, 97, 108, 105, 100, 77, 97, 99, 104, 105, 110, 101, 32, 43]
  | 2 => [73, 110, 118, 97, 108, 105, 100, 82, 111, 119, 32, 43]
  | 3 => [73, 110, 118, 97, 108, 105, 100, 83, 104, 101, 101, 116, 32, 43]
  | 4 => [73, 110, 118, 97, 108, 105, 100, 83, 105, 103, 104, 116, 32, 43]
  | 5 => [73, 110, 118, 97, 108, 105, 100, 67, 111, 108, 117, 109, 110, 32, 43]
  | 6 => [73, 110, 118, 97, 108, 105, 100, 78, 117, 109, 98, 101, 114, 32, 43]
  | 7 => [73, 110, 118, 97, 108, 105, 100, 80, 114, 101, 115, 115, 32, 43]
  | 8 => [73, 110, 118, 97, 108, 105, 100, 73, 110, 100, 101, 120, 32, 43]
  | 9 => [73, 110, 118, 97, 108, 105, 100, 84, 114, 117, 116, 104, 32, 43]
  | 10 => [73, 110, 118, 97, 108, 105, 100, 77, 97, 114, 107, 32, 43]
  | 11 => [73, 110, 118, 97, 108, 105, 100, 83, 108, 105, 112, 32, 43]
  | 12 => [78, 111, 116, 104, 105, 110, 103, 84, 111, 85, 110, 100, 111, 32, 43]
  | 13 => [84, 111, 111, 77, 97, 110, 121, 32, 43]
  | _ => []
/-- the kinds of an error, as a text's table tells them -/
def kindG (ex : Nat → Bool) : Ex → Option (List D) := fun x => match x.pay with
  | none => if ex x.cls then some [.str (kindS x.cls)] else none
  | some _ => none
end TY
/-! S1: what the defs give: machines, rows, sheets, typing, likeness. -/
namespace TY
local macro_rules | `(tactic| simp_all only [$xs:simpLemma,*]) => `(tactic| simp -implicitDefEqProofs only [exss_nil, exss_cons, cont_nx, cont_brk, cont_ret, x_set, x_unp, x_par, x_seti, x_app, x_ext, x_ex, x_if, x_for, x_while, x_brk, x_ret, x_retn, x_raise, raise0, raise1, par_nil, par_cons, parOp_tmp, parOp_val, parOp_slot, setOs_nil, setOs_cons, setO_0s, setO_1s,
  v_loc, evl_v, evl_o, v_c, v_gl, v_fnv, v_bop, v_cop, v_chn, v_and, v_or, v_not, v_neg, v_ite, v_idx, idxO_v, idxO_t, idxO_s, idxS_v, idxS_l, idxS_ll, v_slc, o_none, o_some, v_rev, v_tup, v_lst, v_dk, v_dn, kv_nil, kv_cons, v_call, v_calli, v_callv, v_blt, v_met, v_get, v_get2, v_pop, v_isi, v_lrng, v_lc, v_lcl, v_lc2, v_dc, v_catch, catch_ok, catch_ex, v_sumv, s_nil', s_cons', os_nil, os_cons, c_nil', c_cons', i_seq', i_rng', i_enum', i_zip', i_enumzip', i_items',
  getM_eq, gMS_o, doCallI_eq, dcI_some, callI_ok, doCall_eq, callN_ok, callN_ex, ret_val, ret_tmp, ret_slot, retS_o, appM_eq, apM_l, extM_eq, exM_l, setM_eq, seM_l, ownL_eq, owL_l, fl1_none, fl1_some, trn, lct, wtst, wtrn, Option.isSome_some,
  bind_ok, bind_ex, bind_no, bind_ite, bd_ok, bd_ex, bd_no, bd_ite, lcEnd_ok, lift_some, lift_none, hold_val, hold_slot, hold_tmp, asB_bl, asI_int, frz_val, frz_tmp, frz_slot, frzS_v, frzS_o, der_slot, derS_v, derS_l, derS_n, derS_k, der_val, der_tmp, ite_tt, ite_ff, obind_some, omap_some,
  getS_zero, getS_succ, isTs, isT, cop, mapD_nil, mapD_cons, Bool.false_eq_true, if_false, if_true, startN, startI, List.map_cons, List.map_nil, List.nil_append, List.cons_append, List.append_nil, List.length_cons, List.length_nil, Nat.reduceAdd, Nat.add_zero, Nat.zero_add, Nat.reduceSub, Nat.sub_self, List.replicate_zero, List.replicate_succ,
  fin_ret, fin_nx, fin_ex, fin_ite, and_ok, or_ok, Bool.or_false, Bool.false_or, Bool.true_or, Bool.or_true, Bool.not_false, Bool.not_true, Bool.and_true, Bool.true_and, Bool.and_false, Bool.false_and, Bool.and_self, Bool.or_self, beq_self_eq_true, Int.cast_ofNat_Int,
  okd_non, okd_bl, okd_int, okd_str, okd_tup50, okd_tup49, okd_tup48, okd_lst50, okd_lst49, okds_nil, okds_cons, eqv_int, eqv_str, eqv_bl, eqv_tup, eqv_lst, item_tup0, item_tup1, blt, Rs.op, le1, le2, le3, le4, le5, addI, subI, addS, addT, addL, mulT, mulL, slcT, slcL, slcS, asS, setO_0v, setO_0t, setO_1v, setO_1t, Bool.toNat_false, Bool.toNat_true, List.length_set, store_t, stores_nil, stores_cons, store_n, store_n1, seqOf_str, seqOf_tup, seqOf_lst, isIn_ch, List.set_cons_zero, List.set_cons_succ, Nat.reduceLT, Nat.reduceLeDiff, Nat.lt_add_one, true_and, and_true, Mu.d, Int.reduceBEq, Int.reduceLT, Int.reduceLE, Int.reduceAdd, Int.reduceSub, Int.reduceNeg, decide_true, decide_false, finI_ret, finI_nx, endC_t, enC_s, ix2_0, ix2_1, item_l0, item_l1, $xs,*])
section
variable {G : Glob} {fs : Nat → Option Fn}
theorem sp_is_int [K_is_int G fs] (k : Nat) (v lo hi : Int) : callF G fs 64 (k+1) f_is_int none [.int v, .int lo, .int hi] = .ok (.val (.bl (decide (lo ≤ v) && decide (v ≤ hi)))) none := by
  rw [call_fin (K_is_int.e_is_int (G := G)) rfl rfl]
  simp_all only [F_is_int]
theorem sp_is_machine [K_is_machine G fs] (k : Nat) (a b : Int) : callF G fs 64 (k+2) f_is_machine none [.tup [.int a, .int b]] = .ok (.val (.bl (decide (1 ≤ a) && decide (a ≤ 5) && (decide (1 ≤ b) && decide (b ≤ a))))) none := by
  rw [call_fin (K_is_machine.e_is_machine (G := G)) rfl rfl]
  simp_all only [F_is_machine, sp_is_int]
def PR : List Nat := [32, 60, 65, 66, 67, 97, 98, 99]
def SG : List Nat := [97, 98, 99]
theorem gP [KG_PRESSES G] : G.gl g_PRESSES = some (.str PR) := KG_PRESSES.g_PRESSES
theorem gS [KG_SIGNS G] : G.gl g_SIGNS = some (.str SG) := KG_SIGNS.g_SIGNS
theorem gM [KG_MOST_PRESSES G] : G.gl g_MOST_PRESSES = some (.int 30) := KG_MOST_PRESSES.g_MOST_PRESSES
theorem gMM [KG_MOST_MARKS G] : G.gl g_MOST_MARKS = some (.int 8) := KG_MOST_MARKS.g_MOST_MARKS
theorem gSh [KG_SHORT G] : G.gl g_SHORT = some (.int 4) := KG_SHORT.g_SHORT
/-- of presses alone -/
def pres (s : List Nat) : Bool := s.all fun a => List.elem a PR
theorem sp_are_presses [K_are_presses G fs] (k : Nat) (s : List Nat) (hs : s.length ≤ line) : callF G fs 64 (k+1) f_are_presses none [.str s] = .ok (.val (.bl (pres s))) none := by
  rw [call_fin (K_are_presses.e_are_presses (G := G)) rfl rfl]
  simp_all only [F_are_presses]
  rw [lc_one (h := fun c => .bl (PR.elem c)) (fun c hc => ?_) hs]
  · simp_all only [allB_map, List.all_map]
    rfl
  · simp_all only [gP, TY.wipe]
    exact ⟨_, rfl, rfl⟩
def rowB (s : List Nat) : Bool := pres s && decide (s.length ≤ 30)
theorem sp_is_row [K_is_row G fs] (k : Nat) (s : List Nat) (hs : s.length ≤ line) : callF G fs 64 (k+2) f_is_row none [.str s] = .ok (.val (.bl (rowB s))) none := by
  rw [call_fin (K_is_row.e_is_row (G := G)) rfl rfl]
  simp_all only [F_is_row, sp_are_presses _ s hs, gM, hs]
  unfold rowB
  have e : decide ((s.length : Int) ≤ 30) = decide (s.length ≤ 30) := decide_eq_decide.mpr (by omega)
  rw [e]
/-- signs in their order, each once -/
def cellB' (s : List Nat) : Bool := s == SG.filter fun c => s.elem c
theorem sp_is_cell [K_is_cell G fs] (k : Nat) (s : List Nat) (hs : s.length ≤ 1000) : callF G fs 64 (k+1) f_is_cell none [.str s] = .ok (.val (.bl (cellB' s))) none := by
  rw [call_fin (K_is_cell.e_is_cell (G := G)) rfl rfl]
  simp_all only [F_is_cell, gS]
  rw [lc_if (p := fun c => s.elem c) (h := fun c => .str [c]) (fun c hc => ?_) (by decide)]
  · have hl : (SG.filter fun c => s.elem c).length ≤ line := Nat.le_trans (List.length_filter_le _ _) (by decide)
    simp_all only [met_join_ch hl]
    rfl
  · simp_all only [TY.wipe]
    refine ⟨[some (.v (.str s)), some (.v (.str [c]))], ?_, rfl⟩
    cases s.elem c <;> rfl
/-- a sheet as a value -/
abbrev dS (cs : List (List Nat)) : D := .tup (cs.map .str)
def tot (cs : List (List Nat)) : Nat := (cs.map List.length).sum
theorem tot_int (cs : List (List Nat)) : (cs.map fun c => ((c.length : Nat) : Int)).sum = (tot cs : Int) := by
  unfold tot
  induction cs with
  | nil => rfl
  | cons c cs ih => simp only [List.map_cons, List.sum_cons, ih]; omega
theorem sp_total [K_total G fs] (k : Nat) (cs : List (List Nat)) (h1 : cs.length ≤ 1000) (h2 : ∀ c ∈ cs, c.length ≤ 1000) : callF G fs 64 (k+1) f_total none [dS cs] = .ok (.val (.int (tot cs))) none := by
  rw [call_fin (K_total.e_total (G := G)) rfl rfl]
  simp_all only [F_total]
  rw [lc_one (h := fun c => .int ((c.length : Nat) : Int)) (fun c hc => ?_) (Nat.le_trans h1 (by decide))]
  · simp_all only [allI_map, tot_int]
  · have hc' : c.length ≤ line := Nat.le_trans (h2 c hc) (by decide)
    simp_all only [TY.wipe, hc', reduceIte]
    exact ⟨_, rfl, rfl⟩
def cellsB (cs : List (List Nat)) : Bool := cs.all cellB' && decide (tot cs ≤ 8)
theorem sp_are_cells [K_are_cells G fs] (k : Nat) (cs : List (List Nat)) (h1 : cs.length ≤ 1000) (h2 : ∀ c ∈ cs, c.length ≤ 1000) : callF G fs 64 (k+2) f_are_cells none [dS cs] = .ok (.val (.bl (cellsB cs))) none := by
  rw [call_fin (K_are_cells.e_are_cells (G := G)) rfl rfl]
  simp_all only [F_are_cells]
  rw [lc_one (h := fun c => .bl (cellB' c)) (fun c hc => ?_) (Nat.le_trans h1 (by decide))]
  · simp_all only [allB_map, List.all_map, TY.wipe, sp_total _ cs h1 h2, gMM]
    unfold cellsB
    have e : decide ((tot cs : Int) ≤ 8) = decide (tot cs ≤ 8) := decide_eq_decide.mpr (by omega)
    rw [e]
    rfl
  · simp_all only [TY.wipe, sp_is_cell _ c (h2 c hc)]
    exact ⟨_, rfl, rfl⟩
/-- a machine -/
abbrev dM (a b : Int) : D := .tup [.int a, .int b]
structure Mc (a b : Int) : Prop where
  b1 : 1 ≤ b
  ba : b ≤ a
  a5 : a ≤ 5
theorem Mc.bool {a b : Int} (h : Mc a b) : (decide (1 ≤ a) && decide (a ≤ 5) && (decide (1 ≤ b) && decide (b ≤ a))) = true := by
  have := h.b1; have := h.ba; have := h.a5
  simp only [Bool.and_eq_true, decide_eq_true_eq]
  omega
theorem sp_is_sheet_of [K_is_sheet_of G fs] (k : Nat) (a b : Int) (cs : List (List Nat)) (h1 : cs.length ≤ 1000) (h2 : ∀ c ∈ cs, c.length ≤ 1000) : callF G fs 64 (k+3) f_is_sheet_of none [dM a b, dS cs] = .ok (.val (.bl (cellsB cs && ((cs.length : Int) == a + 1)))) none := by
  rw [call_fin (K_is_sheet_of.e_is_sheet_of (G := G)) rfl rfl]
  simp_all only [F_is_sheet_of, sp_are_cells _ cs h1 h2, List.length_map]
theorem sp_need_machine [K_need_machine G fs] (k : Nat) {a b : Int} (m : Mc a b) : callF G fs 64 (k+3) f_need_machine none [dM a b] = .ok (.val .non) none := by
  rw [call_fin (K_need_machine.e_need_machine (G := G)) rfl rfl]
  simp_all only [F_need_machine, sp_is_machine, m.bool]
theorem sp_need_row [K_need_row G fs] (k : Nat) {s : List Nat} (h : rowB s = true) : callF G fs 64 (k+3) f_need_row none [.str s] = .ok (.val .non) none := by
  have hs : s.length ≤ line := by
    unfold rowB at h
    rw [Bool.and_eq_true, decide_eq_true_eq] at h
    exact Nat.le_trans h.2 (by decide)
  rw [call_fin (K_need_row.e_need_row (G := G)) rfl rfl]
  simp_all only [F_need_row, sp_is_row _ s hs, h]
/-- a sheet of the machine -/
structure Sh (a : Int) (cs : List (List Nat)) : Prop where
  ok : cellsB cs = true
  len : (cs.length : Int) = a + 1
  le : cs.length ≤ 1000
  cl : ∀ c ∈ cs, c.length ≤ 1000
theorem sp_need_sheet [K_need_sheet G fs] (k : Nat) {a b : Int} {cs : List (List Nat)} (h : Sh a cs) : callF G fs 64 (k+4) f_need_sheet none [dM a b, dS cs] = .ok (.val .non) none := by
  rw [call_fin (K_need_sheet.e_need_sheet (G := G)) rfl rfl]
  have e : ((cs.length : Int) == a + 1) = true := by rw [h.len]; simp
  simp_all only [F_need_sheet, sp_is_sheet_of _ a b cs h.le h.cl, h.ok, e]
theorem sp_need_column [K_need_column G fs] (k : Nat) {a b c : Int} (h0 : 0 ≤ c) (h1 : c ≤ a) : callF G fs 64 (k+2) f_need_column none [dM a b, .int c] = .ok (.val .non) none := by
  rw [call_fin (K_need_column.e_need_column (G := G)) rfl rfl]
  have e : (decide (0 ≤ c) && decide (c ≤ a)) = true := by simp [h0, h1]
  simp_all only [F_need_column, sp_is_int, e]
def nS (n : Nat) : List (List Nat) := List.replicate n []
theorem sp_blank [K_blank G fs] (k : Nat) {a b : Int} (m : Mc a b) : callF G fs 64 (k+1) f_blank none [dM a b] = .ok (.val (dS (nS (a + 1).toNat))) none := by
  rw [call_fin (K_blank.e_blank (G := G)) rfl rfl]
  have := m.b1; have := m.ba; have := m.a5
  have c : (2 ≤ a + 1 ∧ a + 1 ≤ 1000 ∧ 1 ≤ 1000 ∧ [D.str []] ≠ []) := ⟨by omega, by omega, by decide, by simp⟩
  have e : rep (a + 1).toNat [D.str []] = (nS (a + 1).toNat).map .str := by
    unfold rep nS
    generalize (a + 1).toNat = n
    induction n with
    | zero => rfl
    | succ n ih => rw [List.replicate_succ, List.flatten_cons, ih]; rfl
  simp_all only [F_blank, c, e, reduceIte, ne_eq, not_false_eq_true, reduceCtorEq]
def prt (c : Nat) : List Nat := if SG.elem (lowC c) then [lowC c] else []
theorem sp_printed [K_printed G fs] (k : Nat) {c : Nat} (h : c < 128) : callF G fs 64 (k+1) f_printed none [.str [c]] = .ok (.val (.str (prt c))) none := by
  rw [call_fin (K_printed.e_printed (G := G)) rfl rfl]
  have ha : ascii [c] = true := by simp [ascii, h]
  simp_all only [F_printed, met_low ha (by simp : [c].length ≤ 1000), gS]
  unfold prt
  cases SG.elem (lowC c) <;> rfl
def gon (c : Nat) : Bool := c == 32 || SG.elem c
theorem sp_goes_on [K_goes_on G fs] (k : Nat) (c : Nat) : callF G fs 64 (k+1) f_goes_on none [.str [c]] = .ok (.val (.bl (gon c))) none := by
  rw [call_fin (K_goes_on.e_goes_on (G := G)) rfl rfl]
  simp_all only [F_goes_on, gS]
  have e : ([c] == [32]) = (c == 32) := by cases h : c == 32 <;> simp_all
  rw [e]
  rfl
def mv (a b col : Int) (c : Nat) : Int × Bool := if c == 60 then (if 0 < col - 1 then col - 1 else 0, false) else if !gon c || col == a then (col, false) else (col + 1, col + 1 == b)
theorem sp_moved [K_moved G fs] (k : Nat) (a b col : Int) (c : Nat) : callF G fs 64 (k+2) f_moved none [dM a b, .int col, .str [c]] = .ok (.val (.tup [.int (mv a b col c).1, .bl (mv a b col c).2])) none := by
  rw [call_fin (K_moved.e_moved (G := G)) rfl rfl]
  have e : ([c] == [60]) = (c == 60) := by cases h : c == 60 <;> simp_all
  have e1 : ∀ x : Int, (if x > 0 then x else 0) = (if 0 < x then x else 0) := fun _ => rfl
  simp_all only [F_moved, sp_goes_on, e]
  unfold mv
  cases c == 60
  · cases (!gon c || col == a) <;> rfl
  · rfl
/-- the signs of a cell behind one more -/
def cell1 (z w : List Nat) : List Nat := SG.filter fun c => (z ++ w).elem c
theorem sp_with_mark [K_with_mark G fs] (k : Nat) {cs : List (List Nat)} {j : Nat} {w : List Nat} (h : j < cs.length) (h1 : cs.length ≤ 1000) (h2 : cs[j].length + w.length ≤ 2000) :
    callF G fs 64 (k+1) f_with_mark none [dS cs, .int j, .str w] = .ok (.val (dS (cs.set j (cell1 cs[j] w)))) none := by
  rw [call_fin (K_with_mark.e_with_mark (G := G)) rfl rfl]
  have hl : (SG.filter fun c => (cs[j] ++ w).elem c).length ≤ line := Nat.le_trans (List.length_filter_le _ _) (by decide)
  have hb : (cs[j].length + w.length ≤ line) = True := eq_true (Nat.le_trans h2 (by decide))
  simp_all only [F_with_mark, gS]
  rw [lc_if (p := fun c => (cs[j] ++ w).elem c) (h := fun c => .str [c]) (fun c hc => ?_) (by decide)]
  · have e1 : ((j : Int) + 1) = ((j + 1 : Nat) : Int) := by omega
    have hx : ((cs.map D.str).take j).length + 1 ≤ line := (by rw [List.length_take, List.length_map]; exact Nat.le_trans (by omega : _ ≤ 1001) (by decide))
    simp_all only [met_join_ch hl, TY.wipe, e1, cut_take, cut_drop, eq_true hx]
    have hy : (((cs.map D.str).take j) ++ [D.str (SG.filter fun c => (cs[j] ++ w).elem c)]).length + ((cs.map D.str).drop (j + 1)).length ≤ line := by
      rw [List.length_append, List.length_take, List.length_drop, List.length_map]
      exact Nat.le_trans (by simp only [List.length_cons, List.length_nil]; omega : _ ≤ 2001) (by decide)
    rw [if_pos hy, set_map h]
    rfl
  · simp_all only [TY.wipe, item_map h, hb]
    refine ⟨[some (.v (dS cs)), some (.v (.int j)), some (.v (.str w)), none, some (.v (.str [c]))], ?_, rfl⟩
    cases (cs[j] ++ w).elem c <;> rfl
/-- a step of the typist, in whole numbers -/
def mvN (a b col : Nat) (c : Nat) : Nat × Bool := if c == 60 then (col - 1, false) else if !gon c || col == a then (col, false) else (col + 1, col + 1 == b)
theorem mv_nat (a b col c : Nat) : mv a b col c = (((mvN a b col c).1 : Int), (mvN a b col c).2) := by
  unfold mv mvN
  have e1 : ((col : Int) == (a : Int)) = (col == a) := by rw [Bool.eq_iff_iff]; simp; omega
  have e2 : ((col : Int) + 1 == (b : Int)) = (col + 1 == b) := by rw [Bool.eq_iff_iff]; simp; omega
  rw [e1, e2]
  split
  · refine Prod.ext ?_ rfl
    show (if 0 < (col : Int) - 1 then (col : Int) - 1 else 0) = ((col - 1 : Nat) : Int)
    split <;> omega
  · split
    · rfl
    · refine Prod.ext ?_ rfl
      show (col : Int) + 1 = ((col + 1 : Nat) : Int)
      omega
def bi (b : Bool) : Int := if b then 1 else 0
theorem led_turn [K_led G fs] (k : Nat) {a b : Nat} {r0 : D} {cs : List (List Nat)} {col c : Nat} {n : Int} {p q : Option SV} (hc : c < 128) (h : col < cs.length) (h1 : cs.length ≤ 1000) (h2 : cs[col].length ≤ 1000) :
    trn G (callF G fs 64 (k + 2)) 64 false (.n 5) L_led_0 (.str [c]) [some (.v (dM a b)), some (.v r0), some (.v (dS cs)), some (.v (.int col)), some (.v (.int n)), p, q] =
      .ok .nx [some (.v (dM a b)), some (.v r0), some (.v (dS (cs.set col (cell1 cs[col] (prt c))))), some (.v (.int (mvN a b col c).1)), some (.v (.int (n + bi (mvN a b col c).2))), some (.v (.str [c])), some (.v (.bl (mvN a b col c).2))] := by
  have hp : cs[col].length + (prt c).length ≤ 2000 := by
    unfold prt
    split <;> simp <;> omega
  simp_all only [L_led_0, sp_printed _ hc, sp_with_mark _ h h1 hp, sp_moved, mv_nat]
  rfl
/-- the typist goes through a row -/
def ld (a b : Nat) : List Nat → List (List Nat) → Nat → Int → List (List Nat) × Nat × Int
  | [], cs, col, n => (cs, col, n)
  | c :: r, cs, col, n => ld a b r (cs.set col (cell1 (cs.getD col []) (prt c))) (mvN a b col c).1 (n + bi (mvN a b col c).2)
theorem cell1_len (z w : List Nat) : (cell1 z w).length ≤ 3 := List.length_filter_le _ _
theorem mvN_lt {a b col c n : Nat} (hn : n = a + 1) (h : col < n) : (mvN a b col c).1 < n := by
  unfold mvN
  split
  · show col - 1 < n; omega
  · split
    · exact h
    · rename_i h2
      show col + 1 < n
      simp only [Bool.or_eq_true, beq_iff_eq, not_or] at h2
      omega
theorem led_loop [K_led G fs] (k : Nat) {a b : Nat} {r0 : D} : ∀ {row : List Nat} {cs : List (List Nat)} {col : Nat} {n : Int} {p q : Option SV}, (∀ c ∈ row, c < 128) → cs.length = a + 1 → col < cs.length → cs.length ≤ 1000 → (∀ z ∈ cs, z.length ≤ 1000) →
    ∃ p' q', forL (trn G (callF G fs 64 (k + 2)) 64 false (.n 5) L_led_0) (row.map fun c => .str [c])
      [some (.v (dM a b)), some (.v r0), some (.v (dS cs)), some (.v (.int col)), some (.v (.int n)), p, q] =
      .ok none [some (.v (dM a b)), some (.v r0), some (.v (dS (ld a b row cs col n).1)), some (.v (.int (ld a b row cs col n).2.1)), some (.v (.int (ld a b row cs col n).2.2)), p', q']
  | [], cs, col, n, p, q, _, _, _, _, _ => ⟨p, q, rfl⟩
  | c :: r, cs, col, n, p, q, hr, ha, h, h1, h2 => by
    have hg : cs.getD col [] = cs[col] := by rw [List.getD_eq_getElem?_getD, List.getElem?_eq_getElem h]; rfl
    obtain ⟨p', q', e⟩ := led_loop k (a := a) (b := b) (r0 := r0) (row := r) (cs := cs.set col (cell1 (cs.getD col []) (prt c))) (col := (mvN a b col c).1) (n := n + bi (mvN a b col c).2) (p := some (.v (.str [c]))) (q := some (.v (.bl (mvN a b col c).2)))
      (fun c' hc => hr c' (List.mem_cons_of_mem _ hc)) (by rw [List.length_set]; exact ha) (by rw [List.length_set]; exact mvN_lt ha h) (by rw [List.length_set]; exact h1) (fun z hz => by
        rcases List.mem_or_eq_of_mem_set hz with hz | hz
        · exact h2 z hz
        · rw [hz]; exact Nat.le_trans (cell1_len _ _) (by decide))
    refine ⟨p', q', ?_⟩
    have ht := led_turn (G := G) (fs := fs) k (a := a) (b := b) (r0 := r0) (n := n) (p := p) (q := q) (hr c List.mem_cons_self) h h1 (h2 _ (List.getElem_mem h))
    rw [List.map_cons, forL, ht, bind_ok, ← hg]
    exact e
theorem sp_led [K_led G fs] (k : Nat) {a b : Nat} {row : List Nat} {cs : List (List Nat)} {col : Nat} (hr : ∀ c ∈ row, c < 128) (ha : cs.length = a + 1) (h : col < cs.length) (h1 : cs.length ≤ 1000) (h2 : ∀ z ∈ cs, z.length ≤ 1000) :
    callF G fs 64 (k + 3) f_led none [dM a b, .str row, dS cs, .int col] = .ok (.val (.tup [dS (ld a b row cs col 0).1, .int (ld a b row cs col 0).2.1, .int (ld a b row cs col 0).2.2])) none := by
  rw [call_fin (K_led.e_led (G := G)) rfl rfl]
  obtain ⟨p', q', e⟩ := led_loop (G := G) (fs := fs) k (b := b) (r0 := .str row) (n := 0) (p := none) (q := none) hr ha h h1 h2
  simp_all only [F_led, e]
theorem PR_lt {c : Nat} (h : PR.elem c = true) : c < 128 := by
  have h := List.elem_iff.mp h
  simp only [PR, List.mem_cons, List.not_mem_nil, or_false] at h
  omega
theorem rowB_lt {s : List Nat} (h : rowB s = true) : (∀ c ∈ s, c < 128) ∧ s.length ≤ 30 := by
  unfold rowB pres at h
  rw [Bool.and_eq_true, decide_eq_true_eq, List.all_eq_true] at h
  exact ⟨fun c hc => PR_lt (h.1 c hc), h.2⟩
/-- what the row leaves -/
abbrev dE (x : List (List Nat) × Nat × Int) : D := .tup [dS x.1, .int x.2.1, .int x.2.2]
theorem sp_typed_on [K_typed_on G fs] (k : Nat) {a b : Nat} {row : List Nat} {cs : List (List Nat)} {col : Nat} (m : Mc a b) (hr : rowB row = true) (hs : Sh a cs) (hc : col ≤ a) :
    callF G fs 64 (k + 5) f_typed_on none [dM a b, .str row, dS cs, .int col] = .ok (.val (dE (ld a b row cs col 0))) none := by
  have hl : cs.length = a + 1 := by have := hs.len; omega
  rw [call_fin (K_typed_on.e_typed_on (G := G)) rfl rfl]
  simp_all only [F_typed_on, sp_need_machine _ m, sp_need_row _ hr, sp_need_sheet (b := b) _ hs, sp_need_column (b := b) _ (by omega : (0 : Int) ≤ (col : Int)) (by omega : (col : Int) ≤ a), sp_led _ (rowB_lt hr).1 hl (by omega : col < cs.length) hs.le hs.cl]
/-- the effects of a row, column by column -/
def eff (a b : Nat) (row : List Nat) : List (List (List Nat) × Nat × Int) := (List.range (a + 1)).map fun col => ld a b row (nS (a + 1)) col 0
theorem nS_sh {a : Nat} (h : a ≤ 5) : Sh a (nS (a + 1)) := by
  have hm : ∀ c ∈ nS (a + 1), c = [] := fun c hc => (List.mem_replicate.mp hc).2
  refine ⟨?_, by simp [nS], by simp [nS]; omega, fun c hc => by rw [hm c hc]; simp⟩
  have : ∀ a : Fin 6, cellsB (nS (a.1 + 1)) = true := by decide
  exact this ⟨a, by omega⟩
theorem sp_effects [K_effects G fs] (k : Nat) {a b : Nat} {row : List Nat} (m : Mc a b) (hr : rowB row = true) : callF G fs 64 (k + 4) f_effects none [dM a b, .str row] = .ok (.tmp (.l ((eff a b row).map dE))) none := by
  have a5 : a ≤ 5 := by have := m.a5; omega
  have hs := nS_sh a5
  have hl : (nS (a + 1)).length = a + 1 := by simp [nS]
  have e : ((a : Int) + 1) = ((a + 1 : Nat) : Int) := by omega
  have e2 : ((a : Int) + 1).toNat = a + 1 := by omega
  rw [call_fin (K_effects.e_effects (G := G)) rfl rfl]
  simp_all only [F_effects, e, rng1 (by omega : a + 1 ≤ 1000)]
  rw [lc_one (h := fun col => dE (ld a b row (nS (a + 1)) col 0)) (fun col hc => ?_) (le_line (by rw [List.length_range]; omega))]
  · have er : (List.range (a + 1)).map (fun col => dE (ld a b row (nS (a + 1)) col 0)) = (eff a b row).map dE := by unfold eff; rw [List.map_map]; rfl
    rw [er]
    simp_all only [M.pure]
  · have hc := List.mem_range.mp hc
    simp_all only [TY.wipe, sp_blank _ m, e2, sp_led _ (rowB_lt hr).1 hl (by omega : col < (nS (a + 1)).length) hs.le hs.cl]
    exact ⟨_, rfl, rfl⟩
theorem eqv_dE (x y : List (List Nat) × Nat × Int) : eqv (dE x) (dE y) = decide (x = y) := by
  obtain ⟨x1, x2, x3⟩ := x
  obtain ⟨y1, y2, y3⟩ := y
  show (eqvs (x1.map D.str) (y1.map D.str) && (((x2 : Int) == (y2 : Int)) && ((x3 == y3) && true))) = _
  rw [eqvs_map eqv_strd, Bool.eq_iff_iff]
  simp
  intro _ _
  omega
theorem okd_dE (x : List (List Nat) × Nat × Int) : okd 49 (dE x) = true := by
  show (okd 48 (dS x.1) && (okd 48 (.int _) && (okd 48 (.int _) && true))) = true
  rw [okd_tup48, okds_map fun _ => okd_str]
  rfl
theorem sp_same [K_same G fs] (k : Nat) {a b : Nat} {r s : List Nat} (m : Mc a b) (hr : rowB r = true) (hs : rowB s = true) : callF G fs 64 (k + 5) f_same none [dM a b, .str r, .str s] = .ok (.val (.bl (decide (eff a b r = eff a b s)))) none := by
  rw [call_fin (K_same.e_same (G := G)) rfl rfl]
  simp_all only [F_same, sp_effects _ m hr, sp_effects _ m hs, okds_map okd_dE, eqvs_map eqv_dE]
theorem sp_need_both [K_need_both G fs] (k : Nat) {a b : Nat} {r s : List Nat} (m : Mc a b) (hr : rowB r = true) (hs : rowB s = true) : callF G fs 64 (k + 4) f_need_both none [dM a b, .str r, .str s] = .ok (.val .non) none := by
  rw [call_fin (K_need_both.e_need_both (G := G)) rfl rfl]
  simp_all only [F_need_both, sp_need_machine _ m, sp_need_row _ hr, sp_need_row _ hs]
theorem sp_alike [K_alike G fs] (k : Nat) {a b : Nat} {r s : List Nat} (m : Mc a b) (hr : rowB r = true) (hs : rowB s = true) : callF G fs 64 (k + 6) f_alike none [dM a b, .str r, .str s] = .ok (.val (.bl (decide (eff a b r = eff a b s)))) none := by
  rw [call_fin (K_alike.e_alike (G := G)) rfl rfl]
  simp_all only [F_alike, sp_need_both _ m hr hs, sp_same _ m hr hs]
/-- a crate: its stock and its wheel -/
structure Cr (x y : Int) : Prop where
  x0 : 0 ≤ x
  x1 : x < 10 ^ 225
  y0 : 0 ≤ y
  y1 : y < 2147483400
theorem item_scr {ns : List Int} {j : Nat} (h : j < ns.length) : item (.scr ns) (.int j) = some (.int ns[j]) := by
  simp only [item]
  rw [ixN_nat h]
  simp [h]
theorem p60 : bop .pow (.int 10) (.int 60) = some (.val (.int (10 ^ 60))) := rfl
theorem p45 : bop .pow (.int 10) (.int 45) = some (.val (.int (10 ^ 45))) := rfl
theorem p18 : bop .pow (.int 10) (.int 18) = some (.val (.int (10 ^ 18))) := rfl
theorem lt_big {n : Nat} (h : n < 2 ^ 1000) : n < big := Nat.lt_of_lt_of_le h (Nat.pow_le_pow_right (by decide) (by decide))
theorem mulI' {i j : Int} (h1 : i.natAbs < 2 ^ 1000) (h2 : j.natAbs < 2 ^ 1000) : bop .mul (.int i) (.int j) = some (.val (.int (i * j))) := by
  rw [mulI, if_pos ⟨lt_big h1, lt_big h2⟩]
theorem sm {i : Int} (h0 : 0 ≤ i) (h : i < 2147483400) : i.natAbs < 2 ^ 1000 := by
  have : i.natAbs < 2147483400 := by omega
  exact Nat.lt_trans this (by decide +kernel)
theorem crate_end {c z : Int} (h0 : 0 ≤ c) (h1 : c < 10 ^ 225) : ∃ x y, (if decide (10 ^ 18 ≤ c) = true then OutC.ok (.tmp (.l [.int c, .int (z % 2147483399 + 1)])) none else OutC.ok (.tmp (.l [.int 0, .int (z % 2147483399 + 1)])) none) = OutC.ok (.tmp (.l [.int x, .int y])) none ∧ Cr x y := by
  have y0 : 0 ≤ z % 2147483399 + 1 := by omega
  have y1 : z % 2147483399 + 1 < 2147483400 := by omega
  split
  · exact ⟨_, _, rfl, h0, h1, y0, y1⟩
  · exact ⟨_, _, rfl, Int.le_refl _, by decide +kernel, y0, y1⟩
theorem sp_law_crate [K_law_crate G fs] (k : Nat) {ns : List Int} {j : Nat} (hj : j < 64) : ∃ x y, callF G fs 64 (k + 1) f_law_crate none [.scr ns, .int j] = .ok (.tmp (.l [.int x, .int y])) none ∧ Cr x y := by
  rw [call_fin (K_law_crate.e_law_crate (G := G)) rfl rfl]
  have m1 : bop .mul (.int 65537) (.int j) = some (.val (.int (65537 * j))) := mulI' (by decide +kernel) (sm (by omega) (by omega))
  have m2 : bop .mul (.int 31) (.int j) = some (.val (.int (31 * j))) := mulI' (by decide +kernel) (sm (by omega) (by omega))
  have q1 : bop .mul (.int (10 ^ 60)) (.int (10 ^ 60)) = some (.val (.int (10 ^ 60 * 10 ^ 60))) := mulI' (by decide +kernel) (by decide +kernel)
  have q2 : bop .mul (.int (10 ^ 60 * 10 ^ 60)) (.int (10 ^ 60)) = some (.val (.int (10 ^ 60 * 10 ^ 60 * 10 ^ 60))) := mulI' (by decide +kernel) (by decide +kernel)
  have q3 : bop .mul (.int (10 ^ 60 * 10 ^ 60 * 10 ^ 60)) (.int (10 ^ 45)) = some (.val (.int (10 ^ 60 * 10 ^ 60 * 10 ^ 60 * 10 ^ 45))) := mulI' (by decide +kernel) (by decide +kernel)
  have d1 : ∀ z : Int, bop .mod (.int z) (.int (10 ^ 60 * 10 ^ 60 * 10 ^ 60 * 10 ^ 45)) = some (.val (.int (z % (10 ^ 60 * 10 ^ 60 * 10 ^ 60 * 10 ^ 45)))) := fun z => by rw [modI, if_pos (by decide +kernel)]
  have d2 : ∀ z : Int, bop .mod (.int z) (.int 1000151) = some (.val (.int (z % 1000151))) := fun z => by rw [modI, if_pos (by decide)]
  have d3 : ∀ z : Int, bop .mod (.int z) (.int 2147483399) = some (.val (.int (z % 2147483399))) := fun z => by rw [modI, if_pos (by decide)]
  have m3 : ∀ z : Int, bop .mul (.int (z % 2147483399)) (.int 8) = some (.val (.int (z % 2147483399 * 8))) := fun z => mulI' (sm (by omega) (by omega)) (by decide +kernel)
  by_cases h : j < ns.length
  · have hl : decide ((j : Int) < (ns.length : Int)) = true := decide_eq_true (by omega)
    simp_all only [F_law_crate, item_scr h, p60, p45, p18, m1, m2, m3, q1, q2, q3, d1, d2, d3, hl]
    have e : (10 ^ 60 * 10 ^ 60 * 10 ^ 60 * 10 ^ 45 : Int) = 10 ^ 225 := by decide +kernel
    have p : (0 : Int) < 10 ^ 225 := by decide +kernel
    rw [e]
    exact crate_end (Int.emod_nonneg _ (Int.ne_of_gt p)) (Int.emod_lt_of_pos _ p)
  · have hl : decide ((j : Int) < (ns.length : Int)) = false := decide_eq_false (by omega)
    by_cases h0 : 0 < ns.length
    · have hl0 : decide (((0 : Int)) < (ns.length : Int)) = true := decide_eq_true (by omega)
      have i0 : item (.scr ns) (.int 0) = some (.int ns[0]) := item_scr (j := 0) h0
      simp_all only [F_law_crate, i0, p60, p45, p18, m1, m2, m3, q1, q2, q3, d1, d2, d3, hl, hl0]
      have p : (10 : Int) ^ 18 < 10 ^ 225 := by decide +kernel
      have p2 : ((10 : Int) ^ 18) = 1000000000000000000 := by decide +kernel
      exact crate_end (by omega) (Int.lt_trans (by rw [p2]; omega) p)
    · have hl0 : decide (((0 : Int)) < (ns.length : Int)) = false := decide_eq_false (by omega)
      simp_all only [F_law_crate, p60, p45, p18, m1, m2, m3, q1, q2, q3, d1, d2, d3, hl, hl0]
      have p : (10 : Int) ^ 18 < 10 ^ 225 := by decide +kernel
      have p2 : ((10 : Int) ^ 18) = 1000000000000000000 := by decide +kernel
      exact crate_end (by omega) (Int.lt_trans (by rw [p2]; omega) p)
def rowsN : Nat → List (List Nat)
  | 0 => [[]]
  | n + 1 => (rowsN n).flatMap fun r => PR.map fun p => r ++ [p]
theorem rowsN_len : ∀ {n : Nat} {s : List Nat}, s ∈ rowsN n → s.length = n ∧ pres s = true
  | 0, s, h => by rw [List.mem_singleton.mp h]; exact ⟨rfl, rfl⟩
  | n + 1, s, h => by
    obtain ⟨r, hr, hs⟩ := List.mem_flatMap.mp h
    obtain ⟨p, hp, e⟩ := List.mem_map.mp hs
    obtain ⟨l, q⟩ := rowsN_len hr
    rw [← e]
    refine ⟨by rw [List.length_append, l]; rfl, ?_⟩
    unfold pres at q ⊢
    rw [List.all_append, q, Bool.true_and, List.all_cons, List.elem_eq_true_of_mem hp]
    rfl
theorem rowsN_count : ∀ n, (rowsN n).length = 8 ^ n
  | 0 => rfl
  | n + 1 => by
    have : ∀ L : List (List Nat), (L.flatMap fun r => PR.map fun p => r ++ [p]).length = 8 * L.length := by
      intro L
      induction L with
      | nil => rfl
      | cons a L ih => rw [List.flatMap_cons, List.length_append, ih, List.length_cons]; simp [PR]; omega
    rw [rowsN, this, rowsN_count n, Nat.pow_succ]
    omega
theorem rows_turn [K_rows_of G fs] (k n : Nat) {m d : D} {q : Option SV} (h : n ≤ 3) : trn G (callF G fs 64 k) 64 false (.n 2) L_rows_of_0 d [some (.v m), some (.o (.l ((rowsN n).map .str))), q, none, none] = .ok .nx [some (.v m), some (.o (.l ((rowsN (n + 1)).map .str))), some (.v d), none, none] := by
  have hc : (rowsN (n + 1)).length ≤ line := by
    rw [rowsN_count]
    exact Nat.le_trans (Nat.pow_le_pow_right (by decide) (by omega : n + 1 ≤ 4)) (by decide)
  have e : ((rowsN n).flatMap fun r => PR.map fun p => D.str (r ++ [p])) = (rowsN (n + 1)).map .str := by
    rw [rowsN, List.map_flatMap]
    congr 1
  simp_all only [L_rows_of_0]
  rw [lc_flat (h := fun r => PR.map fun p => D.str (r ++ [p])) (fun r hr => ?_) (by rw [e, List.length_map]; exact hc)]
  · rw [e]
    simp_all only [TY.wipe]
  · have hx : r.length + 1 ≤ line := by rw [(rowsN_len hr).1]; exact le_line (by omega)
    simp_all only [TY.wipe, gP, lc2t]
    refine Exists.imp (fun t' h => ⟨h.1, (congrArg (fun t => List.set t 3 none) h.2).trans rfl⟩) (comp_in (own := [4]) (h := fun p => D.str (r ++ [p])) (fun p hp => ?_) (by decide))
    simp_all only [TY.wipe, hx]
    exact ⟨_, rfl, rfl⟩
theorem rows_loop [K_rows_of G fs] (k : Nat) {m : D} : ∀ (j n : Nat) {q : Option SV}, n + j ≤ 4 → ∃ q', forL (trn G (callF G fs 64 k) 64 false (.n 2) L_rows_of_0) ((List.range j).map fun (i : Nat) => D.int ((n + i : Nat) : Int)) [some (.v m), some (.o (.l ((rowsN n).map .str))), q, none, none] =
      .ok none [some (.v m), some (.o (.l ((rowsN (n + j)).map .str))), q', none, none]
  | 0, n, q, _ => ⟨q, rfl⟩
  | j + 1, n, q, h => by
    obtain ⟨q', e⟩ := rows_loop k (m := m) j (n + 1) (q := some (.v (.int ((n + 0 : Nat) : Int)))) (by omega)
    refine ⟨q', ?_⟩
    have hr : (List.range (j + 1)).map (fun (i : Nat) => D.int ((n + i : Nat) : Int)) = D.int ((n + 0 : Nat) : Int) :: (List.range j).map fun (i : Nat) => D.int ((n + 1 + i : Nat) : Int) := by
      rw [List.range_succ_eq_map, List.map_cons, List.map_map]
      congr 2
      funext i
      show D.int ((n + (i + 1) : Nat) : Int) = _
      rw [show n + (i + 1) = n + 1 + i by omega]
    rw [hr, forL, rows_turn k n (by omega), bind_ok]
    rw [show n + (j + 1) = n + 1 + j by omega]
    exact e
theorem sp_rows_of [K_rows_of G fs] (k : Nat) {n : Nat} (h : n ≤ 4) : callF G fs 64 (k + 1) f_rows_of none [.int n] = .ok (.tmp (.l ((rowsN n).map .str))) none := by
  rw [call_fin (K_rows_of.e_rows_of (G := G)) rfl rfl]
  obtain ⟨q', e⟩ := rows_loop (G := G) (fs := fs) k (m := .int n) n 0 (q := none) (by omega)
  rw [Nat.zero_add] at e
  have e0 : (fun (i : Nat) => D.int ((0 + i : Nat) : Int)) = fun (i : Nat) => D.int i := by funext i; rw [Nat.zero_add]
  rw [e0] at e
  have ee : (rowsN 0).map D.str = [D.str []] := rfl
  rw [ee] at e
  simp_all only [F_rows_of, rng1 (by omega : n ≤ 1000), e]
/-! ### parting, needless, shortened, marks -/
def oI : Option Nat → D
  | some j => .int j
  | none => .non
theorem okds48 (cs : List (List Nat)) : okds 48 (cs.map D.str) = true := okds_map (fun _ => okd_str) cs
theorem okds47 (cs : List (List Nat)) : okds 47 (cs.map D.str) = true := okds_map (fun _ => okd_str) cs
theorem eqvs_dE (x y : List (List Nat) × Nat × Int) : eqvs [dS x.1, .int x.2.1, .int x.2.2] [dS y.1, .int y.2.1, .int y.2.2] = decide (x = y) := eqv_dE x y
theorem part_turn [K_parting G fs] (k n : Nat) {m o1 o2 : D} {x y : List (List Nat) × Nat × Int} {p q r : Option SV} : trn G (callF G fs 64 k) 64 false (.t [.n 3, .t [.n 4, .n 5]]) L_parting_0 (.tup [.int n, .tup [dE x, dE y]]) [some (.v m), some (.v o1), some (.v o2), p, q, r] =
    .ok (if x = y then .nx else .ret (.val (.int n))) [some (.v m), some (.v o1), some (.v o2), some (.v (.int n)), some (.v (dE x)), some (.v (dE y))] := by
  simp_all only [L_parting_0, okds48, eqvs_dE]
  by_cases h : x = y
  · simp [h]
  · simp [h]
theorem part_loop [K_parting G fs] (k : Nat) {m o1 o2 : D} : ∀ (xs ys : List (List (List Nat) × Nat × Int)) (n : Nat) {p q r : Option SV}, ∃ t', forL (trn G (callF G fs 64 k) 64 false (.t [.n 3, .t [.n 4, .n 5]]) L_parting_0) (enumFrom n (zipD (xs.map dE) (ys.map dE))) [some (.v m), some (.v o1), some (.v o2), p, q, r] =
      .ok ((fdiff n xs ys).map fun j => .val (.int j)) t'
  | [], ys, n, p, q, r => ⟨_, rfl⟩
  | x :: xs, [], n, p, q, r => ⟨_, rfl⟩
  | x :: xs, y :: ys, n, p, q, r => by
    rw [List.map_cons, List.map_cons, zipD, enumFrom, forL, part_turn k n, bind_ok]
    unfold fdiff
    by_cases h : x = y
    · rw [if_pos h, if_pos h]
      exact part_loop k xs ys (n + 1)
    · rw [if_neg h, if_neg h]
      exact ⟨_, rfl⟩
theorem sp_parting [K_parting G fs] (k : Nat) {a b : Nat} {r s : List Nat} (m : Mc a b) (hr : rowB r = true) (hs : rowB s = true) : callF G fs 64 (k + 5) f_parting none [dM a b, .str r, .str s] = .ok (.val (oI (fdiff 0 (eff a b r) (eff a b s)))) none := by
  rw [call_fin (K_parting.e_parting (G := G)) rfl rfl]
  obtain ⟨t', e⟩ := part_loop (G := G) (fs := fs) (k + 4) (m := dM a b) (o1 := .str r) (o2 := .str s) (eff a b r) (eff a b s) 0 (p := none) (q := none) (r := none)
  simp_all only [F_parting, sp_need_both _ m hr hs, sp_effects _ m hr, sp_effects _ m hs, lstN, e]
  cases fdiff 0 (eff a b r) (eff a b s) <;> rfl
theorem pres_sub {s t : List Nat} (h : pres s = true) (ht : ∀ c ∈ t, c ∈ s) : pres t = true := by
  unfold pres at h ⊢
  rw [List.all_eq_true] at h ⊢
  exact fun c hc => h c (ht c hc)
/-- the row without the press at i -/
def wo (s : List Nat) (i : Nat) : List Nat := s.take i ++ s.drop (i + 1)
theorem rowB_of {s : List Nat} (h : pres s = true) (l : s.length ≤ 30) : rowB s = true := by
  unfold rowB
  rw [h, decide_eq_true l]
  rfl
theorem rowB_pres {s : List Nat} (h : rowB s = true) : pres s = true := by
  unfold rowB at h
  rw [Bool.and_eq_true] at h
  exact h.1
theorem wo_row {s : List Nat} {i : Nat} (h : rowB s = true) : rowB (wo s i) = true := by
  refine rowB_of (pres_sub (rowB_pres h) fun c hc => ?_) ?_
  · rcases List.mem_append.mp hc with hc | hc
    · exact List.mem_of_mem_take hc
    · exact List.mem_of_mem_drop hc
  · have := (rowB_lt h).2
    unfold wo
    rw [List.length_append, List.length_take, List.length_drop]
    omega
theorem sp_needless [K_needless G fs] (k : Nat) {a b : Nat} {s : List Nat} (m : Mc a b) (hs : rowB s = true) : callF G fs 64 (k + 6) f_needless none [dM a b, .str s] =
    .ok (.tmp (.l (((List.range s.length).filter fun i => decide (eff a b s = eff a b (wo s i))).map fun (i : Nat) => .int i))) none := by
  have h30 := (rowB_lt hs).2
  have hl : s.length ≤ line := le_line (by omega)
  rw [call_fin (K_needless.e_needless (G := G)) rfl rfl]
  simp_all only [F_needless, sp_need_machine _ m, sp_need_row _ hs, hl, rng1 (by omega : s.length ≤ 1000)]
  rw [lc_if (p := fun i => decide (eff a b s = eff a b (wo s i))) (h := fun (i : Nat) => .int i) (fun i hi => ?_) (le_line (by rw [List.length_range]; omega))]
  · simp_all only [TY.wipe]
  · have hi := List.mem_range.mp hi
    have e1 : ((i : Int) + 1) = ((i + 1 : Nat) : Int) := by omega
    have e2 : (s.take i).length + (s.drop (i + 1)).length ≤ line := le_line (by rw [List.length_take, List.length_drop]; omega)
    have e3 : s.take i ++ s.drop (i + 1) = wo s i := rfl
    simp_all only [TY.wipe, hl, e1, cut_take, cut_drop, e2, e3, sp_same _ m hs (wo_row (i := i) hs)]
    refine ⟨[some (.v (dM a b)), some (.v (.str s)), some (.v (.int i))], ?_, rfl⟩
    cases decide (eff a b s = eff a b (wo s i)) <;> rfl
/-- a row that may stand for the other -/
def Less (a b : Nat) (s : List Nat) (n : Nat) (r : Rs) : Prop := ∃ z, r = .val (.str z) ∧ rowB z = true ∧ z.length ≤ n ∧ eff a b z = eff a b s
abbrev shT (a b : Nat) (s : List Nat) (p q : Option SV) : Tau := [some (.v (dM a b)), some (.v (.str s)), some (.o (.l ((eff a b s).map dE))), p, q]
theorem short_turn [K_shortened G fs] (k : Nat) {a b : Nat} {s z : List Nat} {p q : Option SV} (m : Mc a b) (hz : rowB z = true) :
    trn G (callF G fs 64 (k + 4)) 64 false (.n 4) L_shortened_0 (.str z) (shT a b s p q) = .ok (if eff a b z = eff a b s then .ret (.val (.str z)) else .nx) (shT a b s p (some (.v (.str z)))) := by
  simp_all only [shT, L_shortened_0, sp_effects _ m hz, okds_map okd_dE, eqvs_map eqv_dE]
  by_cases h : eff a b z = eff a b s <;> simp [h]
end
end TY
namespace TY
local macro_rules | `(tactic| simp_all only [$xs:simpLemma,*]) => `(tactic| simp -implicitDefEqProofs only [exss_nil, exss_cons, cont_nx, cont_brk, cont_ret, x_set, x_unp, x_par, x_seti, x_app, x_ext, x_ex, x_if, x_for, x_while, x_brk, x_ret, x_retn, x_raise, raise0, raise1, par_nil, par_cons, parOp_tmp, parOp_val, parOp_slot, setOs_nil, setOs_cons, setO_0s, setO_1s,
  v_loc, evl_v, evl_o, v_c, v_gl, v_fnv, v_bop, v_cop, v_chn, v_and, v_or, v_not, v_neg, v_ite, v_idx, idxO_v, idxO_t, idxO_s, idxS_v, idxS_l, idxS_ll, v_slc, o_none, o_some, v_rev, v_tup, v_lst, v_dk, v_dn, kv_nil, kv_cons, v_call, v_calli, v_callv, v_blt, v_met, v_get, v_get2, v_pop, v_isi, v_lrng, v_lc, v_lcl, v_lc2, v_dc, v_catch, catch_ok, catch_ex, v_sumv, s_nil', s_cons', os_nil, os_cons, c_nil', c_cons', i_seq', i_rng', i_enum', i_zip', i_enumzip', i_items',
  getM_eq, gMS_o, doCallI_eq, dcI_some, callI_ok, doCall_eq, callN_ok, callN_ex, ret_val, ret_tmp, ret_slot, retS_o, appM_eq, apM_l, extM_eq, exM_l, setM_eq, seM_l, ownL_eq, owL_l, fl1_none, fl1_some, trn, lct, wtst, wtrn, Option.isSome_some,
  bind_ok, bind_ex, bind_no, bind_ite, bd_ok, bd_ex, bd_no, bd_ite, lcEnd_ok, lift_some, lift_none, hold_val, hold_slot, hold_tmp, asB_bl, asI_int, frz_val, frz_tmp, frz_slot, frzS_v, frzS_o, der_slot, derS_v, derS_l, derS_n, derS_k, der_val, der_tmp, ite_tt, ite_ff, obind_some, omap_some,
  getS_zero, getS_succ, isTs, isT, cop, mapD_nil, mapD_cons, Bool.false_eq_true, if_false, if_true, startN, startI, List.map_cons, List.map_nil, List.nil_append, List.cons_append, List.append_nil, List.length_cons, List.length_nil, Nat.reduceAdd, Nat.add_zero, Nat.zero_add, Nat.reduceSub, Nat.sub_self, List.replicate_zero, List.replicate_succ,
  fin_ret, fin_nx, fin_ex, fin_ite, and_ok, or_ok, Bool.or_false, Bool.false_or, Bool.true_or, Bool.or_true, Bool.not_false, Bool.not_true, Bool.and_true, Bool.true_and, Bool.and_false, Bool.false_and, Bool.and_self, Bool.or_self, beq_self_eq_true, Int.cast_ofNat_Int,
  okd_non, okd_bl, okd_int, okd_str, okd_tup50, okd_tup49, okd_tup48, okd_lst50, okd_lst49, okds_nil, okds_cons, eqv_int, eqv_str, eqv_bl, eqv_tup, eqv_lst, item_tup0, item_tup1, blt, Rs.op, le1, le2, le3, le4, le5, addI, subI, addS, addT, addL, mulT, mulL, slcT, slcL, slcS, asS, setO_0v, setO_0t, setO_1v, setO_1t, Bool.toNat_false, Bool.toNat_true, List.length_set, store_t, stores_nil, stores_cons, store_n, store_n1, seqOf_str, seqOf_tup, seqOf_lst, isIn_ch, List.set_cons_zero, List.set_cons_succ, Nat.reduceLT, Nat.reduceLeDiff, Nat.lt_add_one, true_and, and_true, Mu.d, Int.reduceBEq, Int.reduceLT, Int.reduceLE, Int.reduceAdd, Int.reduceSub, Int.reduceNeg, decide_true, decide_false, finI_ret, finI_nx, endC_t, enC_s, ix2_0, ix2_1, item_l0, item_l1, $xs,*])
section
variable {G : Glob} {fs : Nat → Option Fn}
/-! S2: the crate and what is drawn of it. -/
abbrev crM (x y : Int) : Mu := .l [.int x, .int y]
theorem fdivI' {i j : Int} (h0 : 0 < j) (h : j.natAbs < 2 ^ 1000) : bop .fdiv (.int i) (.int j) = some (.val (.int (i / j))) := by
  rw [fdivI, if_pos ⟨h0, lt_big h⟩]
theorem modI' {i j : Int} (h0 : 0 < j) : bop .mod (.int i) (.int j) = some (.val (.int (i % j))) := by
  rw [modI, if_pos h0]
theorem p8192 (j : Nat) : (8192 : Int) ^ (j + 1) = 8192 ^ j * 8192 := Int.pow_succ _ _
theorem p8192_le {i j : Nat} (h : i ≤ j) : (8192 : Int) ^ i ≤ 8192 ^ j := by
  have : 8192 ^ i ≤ 8192 ^ j := Nat.pow_le_pow_right (by decide) h
  have := Int.ofNat_le.mpr this
  rwa [Int.natCast_pow, Int.natCast_pow] at this
theorem p8192_pos (j : Nat) : (0 : Int) < 8192 ^ j := Int.pow_pos (by decide)
abbrev digT (n x y f w : Int) : Tau := [some (.o (crM x y)), some (.v (.int n)), some (.v (.int f)), some (.v (.int w))]
theorem dig_turn (k j : Nat) {n x y f : Int} (c : Cr x y) (f0 : 0 ≤ f) (f1 : f < 8192 ^ j) (hj : j ≤ 5) :
    ∃ y' f', exss G (callF G fs 64 k) 64 true L_law_dig_0 (digT n x y f (8192 ^ j)) = .ok .nx (digT n x y' f' (8192 ^ (j + 1))) ∧ Cr x y' ∧ 0 ≤ f' ∧ f' < 8192 ^ (j + 1) := by
  have h5 := p8192_le hj
  have e5 : (8192 : Int) ^ 5 = 36893488147419103232 := by decide +kernel
  rw [e5] at h5
  have q1 : bop .mul (.int y) (.int 28629) = some (.val (.int (y * 28629))) := mulI' (sm c.y0 c.y1) (by decide +kernel)
  have q2 : bop .mul (.int f) (.int 8192) = some (.val (.int (f * 8192))) := mulI' (by
    have : f.natAbs < 36893488147419103232 := by omega
    exact Nat.lt_trans this (by decide +kernel)) (by decide +kernel)
  have q3 : bop .mul (.int (8192 ^ j)) (.int 8192) = some (.val (.int (8192 ^ j * 8192))) := mulI' (by
    have p := p8192_pos j
    have : ((8192 : Int) ^ j).natAbs < 36893488147419103233 := by omega
    exact Nat.lt_trans this (by decide +kernel)) (by decide +kernel)
  have d1 : ∀ z : Int, bop .mod (.int z) (.int 2147483399) = some (.val (.int (z % 2147483399))) := fun z => modI' (by decide)
  have d2 : ∀ z : Int, bop .fdiv (.int z) (.int 65543) = some (.val (.int (z / 65543))) := fun z => fdivI' (by decide) (by decide +kernel)
  have d3 : ∀ z : Int, bop .mod (.int z) (.int 8192) = some (.val (.int (z % 8192))) := fun z => modI' (by decide)
  have y1 : 0 ≤ (y * 28629 + 37) % 2147483399 := Int.emod_nonneg _ (by decide)
  have y2 : (y * 28629 + 37) % 2147483399 < 2147483399 := Int.emod_lt_of_pos _ (by decide)
  refine ⟨(y * 28629 + 37) % 2147483399, f * 8192 + (y * 28629 + 37) % 2147483399 / 65543 % 8192, ?_, ⟨c.x0, c.x1, y1, by omega⟩, ?_, ?_⟩
  · simp_all only [L_law_dig_0, item_l1, q1, q2, q3, d1, d2, d3, ix2_1]
    rw [p8192]
  · omega
  · rw [p8192]
    generalize (8192 : Int) ^ j = w at *
    omega
theorem lt_p {w n : Int} : (decide (w < n) || (w == 1)) = true ∨ ((decide (w < n) || (w == 1)) = false ∧ n ≤ w) := by
  cases h : decide (w < n) with
  | true => exact .inl rfl
  | false =>
    have := of_decide_eq_false h
    cases h2 : w == 1 with
    | true => exact .inl rfl
    | false => exact .inr ⟨rfl, by omega⟩
/-- a number below n -/
theorem sp_law_dig [K_law_dig G fs] (k : Nat) {n x y : Int} (c : Cr x y) (n0 : 0 < n) (n1 : n ≤ 8192 ^ 5) :
    ∃ v x' y', callF G fs 64 (k + 1) f_law_dig (some (crM x y)) [.int n] = .ok (.val (.int v)) (some (crM x' y')) ∧ Cr x' y' ∧ 0 ≤ v ∧ v < n := by
  have e5 : (8192 : Int) ^ 5 = 36893488147419103232 := by decide +kernel
  have nb : n.natAbs < 2 ^ 1000 := by
    rw [e5] at n1
    have : n.natAbs < 36893488147419103233 := by omega
    exact Nat.lt_trans this (by decide +kernel)
  have d1 : ∀ z : Int, bop .mod (.int z) (.int n) = some (.val (.int (z % n))) := fun z => modI' n0
  have d2 : ∀ z : Int, bop .fdiv (.int z) (.int n) = some (.val (.int (z / n))) := fun z => fdivI' n0 nb
  by_cases hx : 0 < x
  · have hx' : decide (0 < x) = true := decide_eq_true hx
    refine ⟨x % n, x / n, y, ?_, ⟨Int.ediv_nonneg c.x0 (by omega), ?_, c.y0, c.y1⟩, Int.emod_nonneg _ (by omega), Int.emod_lt_of_pos _ n0⟩
    · rw [call_finI (K_law_dig.e_law_dig (G := G)) rfl rfl]
      simp_all only [F_law_dig, item_l0, hx', d1, d2, ix2_0, finI_ret, endC_t, enC_s]
    · exact Int.lt_of_le_of_lt (Int.ediv_le_self _ c.x0) c.x1
  · have hx' : decide (0 < x) = false := decide_eq_false hx
    have hw : Ok (whileL (wtst G (callF G fs 64 k) (.or (.cop .lt (.loc 3) (.loc 1)) (.cop .eq (.loc 3) (.c (.int 1))))) (wtrn G (callF G fs 64 k) 64 true L_law_dig_0) 64 (digT n x y 0 1)) (fun o t => o = none ∧ ∃ y' f' w, t = digT n x y' f' w ∧ Cr x y' ∧ 0 ≤ f') := by
      refine Ok_while (n := 64) (m := 6) (fun m t => ∃ j y' f', m + j = 6 ∧ t = digT n x y' f' (8192 ^ j) ∧ Cr x y' ∧ 0 ≤ f' ∧ f' < 8192 ^ j) ⟨0, y, 0, rfl, rfl, c, by decide, by decide⟩ (by decide) ?_
      rintro m t ⟨j, y', f', hm, rfl, c', f0, f1⟩
      refine Ok.of (t := digT n x y' f' (8192 ^ j)) (a := (decide ((8192 : Int) ^ j < n) || ((8192 : Int) ^ j == 1))) (by simp_all only []) ?_
      rcases lt_p (w := 8192 ^ j) (n := n) with h | ⟨h, h2⟩
      · rw [h]
        have hj : j ≤ 5 := by
          rcases Nat.lt_or_ge 5 j with g | g
          · rw [Bool.or_eq_true, decide_eq_true_eq, beq_iff_eq] at h
            have := p8192_le (Nat.le_of_lt g)
            have e0 : (0 : Int) < 1 := by decide
            rw [e5] at this n1
            omega
          · exact g
        obtain ⟨y2, f2, e, c2, g0, g1⟩ := dig_turn (G := G) (fs := fs) k j (n := n) c' f0 f1 hj
        refine Ok.of e ?_
        exact ⟨m - 1, by omega, j + 1, y2, f2, by omega, rfl, c2, g0, g1⟩
      · rw [h]
        exact ⟨rfl, y', f', _, rfl, c', f0⟩
    obtain ⟨o, t, e, rfl, y', f', w, rfl, c', f0⟩ := hw.ex
    refine ⟨f' % n, x, y', ?_, c', Int.emod_nonneg _ (by omega), Int.emod_lt_of_pos _ n0⟩
    rw [call_finI (K_law_dig.e_law_dig (G := G)) rfl rfl]
    simp_all only [F_law_dig, item_l0, hx', e, d1, finI_ret, endC_t, enC_s]
theorem item_lst {ds : List D} {j : Nat} (h : j < ds.length) : item (.lst ds) (.int j) = some ds[j] := by
  simp only [item]
  rw [ixN_nat h]
  simp [h]
theorem item_str {s : List Nat} {j : Nat} (h : j < s.length) (hl : s.length ≤ line) : item (.str s) (.int j) = some (.str [s[j]]) := by
  simp only [item]
  rw [if_pos hl, ixN_nat h]
  simp [h]
theorem e8192 : (8192 : Int) ^ 5 = 36893488147419103232 := by decide +kernel
/-- .. as a whole number -/
theorem dig_nat [K_law_dig G fs] (k : Nat) {n : Nat} {x y : Int} (c : Cr x y) (n0 : 0 < n) (n1 : n ≤ 8192 * 8192) :
    ∃ (v : Nat) (x' y' : Int), callF G fs 64 (k + 1) f_law_dig (some (crM x y)) [.int n] = .ok (.val (.int v)) (some (crM x' y')) ∧ Cr x' y' ∧ v < n := by
  obtain ⟨v, x', y', e, c', h0, h1⟩ := sp_law_dig (G := G) (fs := fs) k (n := n) c (by omega) (by rw [e8192]; omega)
  obtain ⟨j, rfl⟩ := Int.eq_ofNat_of_zero_le h0
  exact ⟨j, x', y', e, c', by omega⟩
theorem sp_law_one_of [K_law_one_of G fs] (k : Nat) {ds : List D} {x y : Int} (c : Cr x y) (n0 : 0 < ds.length) (n1 : ds.length ≤ 1000) :
    ∃ d x' y', callF G fs 64 (k + 2) f_law_one_of (some (crM x y)) [.lst ds] = .ok (.val d) (some (crM x' y')) ∧ Cr x' y' ∧ d ∈ ds := by
  obtain ⟨v, x', y', e, c', h⟩ := dig_nat (G := G) (fs := fs) k (n := ds.length) c n0 (by omega)
  refine ⟨ds[v], x', y', ?_, c', List.getElem_mem h⟩
  rw [call_finI (K_law_one_of.e_law_one_of (G := G)) rfl rfl]
  simp_all only [F_law_one_of, e, item_lst h, finI_ret, endC_t, enC_s]
theorem one_of_s [K_law_one_of G fs] (k : Nat) {s : List Nat} {x y : Int} (c : Cr x y) (n0 : 0 < s.length) (n1 : s.length ≤ 1000) :
    ∃ a x' y', callF G fs 64 (k + 2) f_law_one_of (some (crM x y)) [.str s] = .ok (.val (.str [a])) (some (crM x' y')) ∧ Cr x' y' ∧ a ∈ s := by
  obtain ⟨v, x', y', e, c', h⟩ := dig_nat (G := G) (fs := fs) k (n := s.length) c n0 (by omega)
  refine ⟨s[v], x', y', ?_, c', List.getElem_mem h⟩
  rw [call_finI (K_law_one_of.e_law_one_of (G := G)) rfl rfl]
  simp_all only [F_law_one_of, e, item_str h (le_line n1), le_line n1, finI_ret, endC_t, enC_s]
theorem sp_law_machine [K_law_machine G fs] (k : Nat) {n : Nat} {x y : Int} (c : Cr x y) (n0 : 0 < n) (n1 : n ≤ 5) :
    ∃ (a b : Nat) (x' y' : Int), callF G fs 64 (k + 2) f_law_machine (some (crM x y)) [.int n] = .ok (.val (dM a b)) (some (crM x' y')) ∧ Cr x' y' ∧ Mc a b ∧ a ≤ n := by
  obtain ⟨v, x1, y1, e1, c1, h1⟩ := dig_nat (G := G) (fs := fs) k (n := n) c n0 (by omega)
  obtain ⟨w, x2, y2, e2, c2, h2⟩ := dig_nat (G := G) (fs := fs) k (n := 1 + v) c1 (by omega) (by omega)
  have q1 : (1 : Int) + (v : Int) = ((1 + v : Nat) : Int) := by omega
  have q2 : (1 : Int) + (w : Int) = ((1 + w : Nat) : Int) := by omega
  refine ⟨1 + v, 1 + w, x2, y2, ?_, c2, ⟨by omega, by omega, by omega⟩, by omega⟩
  rw [call_finI (K_law_machine.e_law_machine (G := G)) rfl rfl]
  simp_all only [F_law_machine, e1, q1, e2, q2, finI_ret, endC_t, enC_s]
theorem sp_law_swapped [K_law_swapped G fs] (k : Nat) {s : List Nat} (h : ascii s = true) (hl : s.length ≤ 1000) :
    callF G fs 64 (k + 1) f_law_swapped none [.str s] = .ok (.val (.str (s.map fun a => if uppC a = a then lowC a else uppC a))) none := by
  rw [call_fin (K_law_swapped.e_law_swapped (G := G)) rfl rfl]
  simp_all only [F_law_swapped]
  rw [lc_one (h := fun a => .str [if uppC a = a then lowC a else uppC a]) (fun a ha => ?_) (le_line hl)]
  · have e : (s.map fun a => D.str [if uppC a = a then lowC a else uppC a]) = (s.map fun a => if uppC a = a then lowC a else uppC a).map fun c => D.str [c] := by rw [List.map_map]; rfl
    have hl' : (s.map fun a => if uppC a = a then lowC a else uppC a).length ≤ line := by rw [List.length_map]; exact le_line hl
    simp_all only [TY.wipe, e, met_join_ch hl']
  · have ha' : ascii [a] = true := by
      unfold ascii at h ⊢
      have := List.all_eq_true.mp h a ha
      simpa using this
    simp_all only [TY.wipe, met_upp ha' (by simp : [a].length ≤ 1000), met_low ha' (by simp : [a].length ≤ 1000)]
    refine ⟨[some (.v (.str s)), some (.v (.str [a]))], ?_, rfl⟩
    by_cases g : uppC a = a
    · simp [g, Out.bind, frz]
    · have : (uppC a == a) = false := by simpa using g
      simp [g, Out.bind, frz, this]
theorem sp_law_blank [K_law_blank G fs] (k : Nat) {a b : Int} (m : Mc a b) : callF G fs 64 (k+1) f_law_blank none [dM a b] = .ok (.val (dS (nS (a + 1).toNat))) none := by
  rw [call_fin (K_law_blank.e_law_blank (G := G)) rfl rfl]
  have := m.b1; have := m.ba; have := m.a5
  have c : (2 ≤ a + 1 ∧ a + 1 ≤ 1000 ∧ 1 ≤ 1000 ∧ [D.str []] ≠ []) := ⟨by omega, by omega, by decide, by simp⟩
  have e : rep (a + 1).toNat [D.str []] = (nS (a + 1).toNat).map .str := by
    unfold rep nS
    generalize (a + 1).toNat = n
    induction n with
    | zero => rfl
    | succ n ih => rw [List.replicate_succ, List.flatten_cons, ih]; rfl
  simp_all only [F_law_blank, c, e, reduceIte, ne_eq, not_false_eq_true, reduceCtorEq]
/-- the rows' sorts -/
theorem some_row {d : D} (h : d ∈ ([.str [32, 60, 65, 66, 67, 97, 98, 99], .str [97, 65, 98, 66, 32, 60], .str [97, 98, 32, 60], .str [97, 65, 60], .str [32, 60, 97]] : List D)) : ∃ s, d = .str s ∧ pres s = true ∧ 0 < s.length ∧ s.length ≤ 1000 := by
  simp only [List.mem_cons, List.not_mem_nil, or_false] at h
  rcases h with rfl | rfl | rfl | rfl | rfl <;> exact ⟨_, rfl, by decide, by decide, by decide⟩
theorem allS_ch : ∀ {l : List D}, (∀ d ∈ l, ∃ c, d = .str [c]) → ∃ s : List Nat, l = s.map fun c => .str [c]
  | [], _ => ⟨[], rfl⟩
  | d :: l, h => by
    obtain ⟨c, rfl⟩ := h d List.mem_cons_self
    obtain ⟨s, rfl⟩ := allS_ch fun d hd => h d (List.mem_cons_of_mem _ hd)
    exact ⟨c :: s, rfl⟩
theorem sp_law_row [K_law_row G fs] (k : Nat) {n : Nat} {x y : Int} (c : Cr x y) (n1 : n ≤ 30) :
    ∃ s x' y', callF G fs 64 (k + 3) f_law_row (some (crM x y)) [.int n] = .ok (.val (.str s)) (some (crM x' y')) ∧ Cr x' y' ∧ rowB s = true ∧ s.length ≤ n := by
  obtain ⟨d, x1, y1, e1, c1, h1⟩ := sp_law_one_of (G := G) (fs := fs) k (ds := [.str [32, 60, 65, 66, 67, 97, 98, 99], .str [97, 65, 98, 66, 32, 60], .str [97, 98, 32, 60], .str [97, 65, 60], .str [32, 60, 97]]) c (by decide) (by decide)
  obtain ⟨s, rfl, p, s0, s1⟩ := some_row h1
  obtain ⟨m, x2, y2, e2, c2, h2⟩ := dig_nat (G := G) (fs := fs) (k + 1) (n := n + 1) c1 (by omega) (by omega)
  have q : (n : Int) + 1 = ((n + 1 : Nat) : Int) := by omega
  have hc : Ok (compL [3] (lct G (callF G fs 64 (k + 2)) (.calli f_law_one_of 0 [.loc 2]) (.n 3) []) ((List.range m).map fun (i : Nat) => D.int i) [] [some (.o (crM x2 y2)), some (.v (.int n)), some (.v (.str s)), none])
      (fun l t => l.length = m ∧ (∀ d ∈ l, ∃ a, d = .str [a] ∧ a ∈ s) ∧ ∃ x y q, t = [some (.o (crM x y)), some (.v (.int n)), some (.v (.str s)), q] ∧ Cr x y) := by
    refine Ok_compA (fun t => ∃ x y q, t = [some (.o (crM x y)), some (.v (.int n)), some (.v (.str s)), q] ∧ Cr x y) (fun d => ∃ a, d = .str [a] ∧ a ∈ s) ⟨x2, y2, _, rfl, c2⟩ (le_line (by rw [List.length_map, List.length_range]; omega)) ?_ fun acc t h hl hq => ⟨by rw [hl, List.length_map, List.length_range], hq, h⟩
    rintro d _ t ⟨x, y, q, rfl, c⟩
    obtain ⟨a, x3, y3, e3, c3, h3⟩ := one_of_s (G := G) (fs := fs) k c s0 s1
    refine Ok.of (a := [.str [a]]) (t := [some (.o (crM x3 y3)), some (.v (.int n)), some (.v (.str s)), some (.v d)]) ?_ ⟨⟨_, rfl, a, rfl, h3⟩, x3, y3, _, rfl, c3⟩
    simp_all only [TY.wipe, e3]
  obtain ⟨l, t, e3, hl, hq, x3, y3, q3, rfl, c3⟩ := hc.ex
  obtain ⟨z, rfl⟩ := allS_ch (l := l) fun d hd => (hq d hd).elim fun a ha => ⟨a, ha.1⟩
  have zl : z.length = m := by simpa using hl
  have zp : pres z = true := pres_sub p fun a ha => by
    obtain ⟨b, e, hb⟩ := hq (.str [a]) (List.mem_map.mpr ⟨a, ha, rfl⟩)
    cases e; exact hb
  refine ⟨z, x3, y3, ?_, c3, rowB_of zp (by omega), by omega⟩
  rw [call_finI (K_law_row.e_law_row (G := G)) rfl rfl]
  simp_all only [F_law_row, e1, q, e2, rng1 (by omega : m ≤ 1000), e3, TY.wipe, met_join_ch (le_line (by omega : z.length ≤ 1000)), finI_ret, endC_t, enC_s]
theorem cut_mid {α : Type} {cs : List α} {i n : Nat} : cut cs (some (i : Int)) (some ((i + n : Nat) : Int)) = (cs.drop i).take n := by
  simp only [cut, sIx]
  rw [if_pos (by omega), if_pos (by omega)]
  simp only [Int.toNat_natCast]
  by_cases h : i ≤ cs.length
  · rw [Nat.min_eq_left h]
    apply List.ext_getElem?
    intro j
    rw [List.getElem?_take, List.getElem?_take]
    by_cases g : j < min (i + n) cs.length - i
    · rw [if_pos g, if_pos (by omega)]
    · rw [if_neg g]
      by_cases g2 : j < n
      · rw [if_pos g2, List.getElem?_eq_none (by rw [List.length_drop]; omega)]
      · rw [if_neg g2]
  · rw [List.drop_eq_nil_of_le (by omega), List.drop_eq_nil_of_le (by omega)]
    simp
theorem pres_app {s t : List Nat} (h : pres s = true) (g : pres t = true) : pres (s ++ t) = true := by
  unfold pres at *
  rw [List.all_append, h, g]; rfl
theorem pres_take {s : List Nat} {i : Nat} (h : pres s = true) : pres (s.take i) = true := pres_sub h fun c hc => List.mem_of_mem_take hc
theorem pres_drop {s : List Nat} {i : Nat} (h : pres s = true) : pres (s.drop i) = true := pres_sub h fun c hc => List.mem_of_mem_drop hc
theorem pres_one {a : Nat} (h : a ∈ PR) : pres [a] = true := by
  unfold pres
  rw [List.all_cons, List.elem_eq_true_of_mem h]
  rfl
theorem pres_mem {s : List Nat} {a : Nat} (h : pres s = true) (g : a ∈ s) : a ∈ PR := List.elem_iff.mp (List.all_eq_true.mp h a g)
theorem swap_PR : ∀ a ∈ PR, (if uppC a = a then lowC a else uppC a) ∈ PR := by decide
theorem rowB_ascii {s : List Nat} (h : rowB s = true) : ascii s = true := by
  unfold ascii
  rw [List.all_eq_true]
  exact fun c hc => decide_eq_true ((rowB_lt h).1 c hc)
theorem sp_law_close [K_law_close G fs] (k : Nat) {s : List Nat} {x y : Int} (c : Cr x y) (hs : rowB s = true) :
    ∃ z x' y', callF G fs 64 (k + 3) f_law_close (some (crM x y)) [.str s] = .ok (.val (.str z)) (some (crM x' y')) ∧ Cr x' y' ∧ rowB z = true ∧ z.length ≤ s.length + 1 := by
  have h30 := (rowB_lt hs).2
  have hp := rowB_pres hs
  have hl : s.length ≤ line := le_line (by omega)
  have q1 : (s.length : Int) + 1 = ((s.length + 1 : Nat) : Int) := by omega
  obtain ⟨v, x1, y1, e1, c1, h1⟩ := dig_nat (G := G) (fs := fs) (k + 1) (n := s.length + 1) c (by omega) (by omega)
  obtain ⟨w, x2, y2, e2, c2, h2⟩ := dig_nat (G := G) (fs := fs) (k + 1) (n := 5) c1 (by omega) (by omega)
  have v1 : (v : Int) + 1 = ((v + 1 : Nat) : Int) := by omega
  have v2 : (v : Int) + 2 = ((v + 2 : Nat) : Int) := by omega
  have lt := List.length_take_le v s
  have ld := List.length_drop (i := v) (l := s)
  have ld1 := List.length_drop (i := v + 1) (l := s)
  have ld2 := List.length_drop (i := v + 2) (l := s)
  have lt' : (s.take v).length = min v s.length := List.length_take
  have q5 : ((5 : Nat) : Int) = 5 := rfl
  rw [q5] at e2
  have key : ∃ z x' y', exss G (callF G fs 64 (k + 2)) 64 true F_law_close.body [some (.o (crM x y)), some (.v (.str s)), none, none] = .ok (.ret (.val (.str z))) [some (.o (crM x' y')), some (.v (.str s)), some (.v (.int v)), some (.v (.int w))] ∧ Cr x' y' ∧ rowB z = true ∧ z.length ≤ s.length + 1 := by
    have hw : w = 0 ∨ w = 1 ∨ w = 2 ∨ w = 3 ∨ w = 4 := by omega
    rcases hw with rfl | rfl | rfl | rfl | rfl
    · refine ⟨s.take v ++ s.drop (v + 1), x2, y2, ?_, c2, rowB_of (pres_app (pres_take hp) (pres_drop hp)) ?_, ?_⟩
      · simp_all only [F_law_close, hl, e1, e2, q1, v1, cut_take, cut_drop, le_line (by omega : (s.take v).length + (s.drop (v + 1)).length ≤ 1000)]
      · rw [List.length_append]; omega
      · rw [List.length_append]; omega
    · by_cases g : s.length < 30
      · obtain ⟨a, x3, y3, e3, c3, h3⟩ := one_of_s (G := G) (fs := fs) k (s := [32, 60, 65, 66, 67, 97, 98, 99]) c2 (by decide) (by decide)
        have g' : decide ((s.length : Int) < 30) = true := decide_eq_true (by omega)
        refine ⟨s.take v ++ [a] ++ s.drop v, x3, y3, ?_, c3, rowB_of (pres_app (pres_app (pres_take hp) (pres_one h3)) (pres_drop hp)) ?_, ?_⟩
        · simp_all only [F_law_close, hl, e1, e2, e3, q1, g', v1, cut_take, cut_drop, List.length_append, le_line (by omega : (s.take v).length + 1 ≤ 1000), le_line (by omega : (s.take v).length + 1 + (s.drop v).length ≤ 1000)]
        · rw [List.length_append, List.length_append, List.length_singleton]; omega
        · rw [List.length_append, List.length_append, List.length_singleton]; omega
      · have g' : decide ((s.length : Int) < 30) = false := decide_eq_false (by omega)
        refine ⟨s, x2, y2, ?_, c2, hs, by omega⟩
        simp_all only [F_law_close, hl, e1, e2, q1, g']
    · have lr : ((s.drop v).take 2).length ≤ 2 := List.length_take_le _ _
      have lr' : ((s.drop v).take 2).length = min 2 (s.drop v).length := List.length_take
      refine ⟨s.take v ++ ((s.drop v).take 2).reverse ++ s.drop (v + 2), x2, y2, ?_, c2, rowB_of (pres_app (pres_app (pres_take hp) (pres_sub hp fun c hc => List.mem_of_mem_drop (List.mem_of_mem_take (List.mem_reverse.mp hc)))) (pres_drop hp)) ?_, ?_⟩
      · simp_all only [F_law_close, hl, e1, e2, q1, v2, cut_take, cut_drop, cut_mid, TY.rev, List.length_append, List.length_reverse, (by omega : ((s.drop v).take 2).length ≤ 1000), le_line (by omega : (s.take v).length + ((s.drop v).take 2).length ≤ 1000), le_line (by omega : (s.take v).length + ((s.drop v).take 2).length + (s.drop (v + 2)).length ≤ 1000)]
      · rw [List.length_append, List.length_append, List.length_reverse]; omega
      · rw [List.length_append, List.length_append, List.length_reverse]; omega
    · by_cases g : v < s.length
      · have g' : decide ((v : Int) < (s.length : Int)) = true := decide_eq_true (by omega)
        have ga : ascii [s[v]] = true := by
          have := (rowB_lt hs).1 s[v] (List.getElem_mem g)
          simp [ascii, this]
        have e3 := sp_law_swapped (G := G) (fs := fs) (k + 1) (s := [s[v]]) ga (by simp)
        refine ⟨s.take v ++ [if uppC s[v] = s[v] then lowC s[v] else uppC s[v]] ++ s.drop (v + 1), x2, y2, ?_, c2, rowB_of (pres_app (pres_app (pres_take hp) (pres_one (swap_PR _ (pres_mem hp (List.getElem_mem g))))) (pres_drop hp)) ?_, ?_⟩
        · simp_all only [F_law_close, hl, e1, e2, e3, q1, g', v1, item_str g hl, cut_take, cut_drop, List.length_append, le_line (by omega : (s.take v).length + 1 ≤ 1000), le_line (by omega : (s.take v).length + 1 + (s.drop (v + 1)).length ≤ 1000)]
        · rw [List.length_append, List.length_append, List.length_singleton]; omega
        · rw [List.length_append, List.length_append, List.length_singleton]; omega
      · have g' : decide ((v : Int) < (s.length : Int)) = false := decide_eq_false (by omega)
        refine ⟨s, x2, y2, ?_, c2, hs, by omega⟩
        simp_all only [F_law_close, hl, e1, e2, q1, g']
    · refine ⟨s, x2, y2, ?_, c2, hs, by omega⟩
      simp_all only [F_law_close, hl, e1, e2, q1]
  obtain ⟨z, x', y', e, c', hz, lz⟩ := key
  refine ⟨z, x', y', ?_, c', hz, lz⟩
  rw [call_finI (K_law_close.e_law_close (G := G)) rfl rfl]
  have e0 : startT F_law_close.slots (some (crM x y)) [.str s] = [some (.o (crM x y)), some (.v (.str s)), none, none] := rfl
  rw [e0, e]
  simp_all only []
/-! sheets -/
theorem sort_ch (l : List Nat) : ∀ r : List (List Nat), (∀ z ∈ r, ∃ c, z = [c]) → ∃ m : List Nat, (l.map fun c => [c]).foldl (fun r x => insS x r) r = m.map (fun c => [c]) ∧ (∀ c, c ∈ m ↔ c ∈ l ∨ [c] ∈ r) ∧ m.length = l.length + r.length := by
  induction l with
  | nil =>
    intro r h
    have : ∃ m : List Nat, r = m.map fun c => [c] := by
      induction r with
      | nil => exact ⟨[], rfl⟩
      | cons z r ih =>
        obtain ⟨c, rfl⟩ := h z List.mem_cons_self
        obtain ⟨m, rfl⟩ := ih fun z hz => h z (List.mem_cons_of_mem _ hz)
        exact ⟨c :: m, rfl⟩
    obtain ⟨m, rfl⟩ := this
    exact ⟨m, rfl, fun c => by simp, by simp⟩
  | cons a l ih =>
    intro r h
    have mem : ∀ (r : List (List Nat)) (z : List Nat), z ∈ insS [a] r ↔ z = [a] ∨ z ∈ r := by
      intro r
      induction r with
      | nil => intro z; simp [insS]
      | cons y r ih =>
        intro z
        unfold insS
        split
        · simp
        · rw [List.mem_cons, ih, List.mem_cons]
          constructor
          · rintro (h | h | h)
            · exact .inr (.inl h)
            · exact .inl h
            · exact .inr (.inr h)
          · rintro (h | h | h)
            · exact .inr (.inl h)
            · exact .inl h
            · exact .inr (.inr h)
    have len : ∀ (r : List (List Nat)), (insS [a] r).length = r.length + 1 := by
      intro r
      induction r with
      | nil => rfl
      | cons y r ih =>
        unfold insS
        split
        · rfl
        · rw [List.length_cons, ih, List.length_cons]
    obtain ⟨m, e, q, ln⟩ := ih (insS [a] r) fun z hz => by
      rcases (mem r z).mp hz with rfl | hz
      · exact ⟨a, rfl⟩
      · exact h z hz
    refine ⟨m, e, fun c => ?_, by rw [ln, len, List.length_cons]; omega⟩
    rw [q, mem, List.mem_cons]
    simp only [List.cons.injEq, and_true]
    constructor
    · rintro (h | h | h)
      · exact .inl (.inr h)
      · exact .inl (.inl h)
      · exact .inr h
    · rintro ((h | h) | h)
      · exact .inr (.inl h)
      · exact .inl h
      · exact .inr (.inr h)
def sortCh (l : List Nat) : List Nat := joinL [] (sortS (l.map fun c => [c]))
/-- the eight cells -/
def CELLS : List (List Nat) := [[], [97], [98], [99], [97, 98], [97, 99], [98, 99], [97, 98, 99]]
theorem cells_ok : ∀ z ∈ CELLS, cellB' z = true ∧ z.length ≤ 3 := by decide
theorem cell_add : ∀ z ∈ CELLS, ∀ c ∈ SG, z.elem c = false → sortCh (z ++ [c]) ∈ CELLS ∧ (sortCh (z ++ [c])).length = z.length + 1 := by decide
theorem cell1_in : ∀ z ∈ CELLS, ∀ w ∈ [[], [97], [98], [99]], cell1 z w ∈ CELLS := by decide
theorem cellB_in {z : List Nat} (h : cellB' z = true) : z ∈ CELLS := by
  unfold cellB' at h
  have h := beq_iff_eq.mp h
  rw [h]
  have : ∀ p q r : Bool, (SG.filter fun c => if c = 97 then p else if c = 98 then q else r) ∈ CELLS := by decide
  have e : (SG.filter fun c => z.elem c) = SG.filter fun c => if c = 97 then z.elem 97 else if c = 98 then z.elem 98 else z.elem 99 := by
    simp only [SG, List.filter_cons, List.filter_nil]
    rfl
  rw [e]
  exact this _ _ _
theorem allS_ch' (l : List Nat) : allS ((l.map fun c => [c]).map D.str) = some (l.map fun c => [c]) := by
  have := allS_map (l.map fun c => [c]) (fun x => x)
  rw [List.map_id'] at this
  exact this
theorem sort_len (l : List Nat) : ∃ m : List Nat, sortS (l.map fun c => [c]) = m.map (fun c => [c]) ∧ m.length = l.length := by
  obtain ⟨m, e, _, h⟩ := sort_ch l [] (fun _ h => absurd h (by simp))
  exact ⟨m, e, by simpa using h⟩
theorem blt_sorted {l : List Nat} (h : l.length < 64) : blt .sorted [.str l] = some (.tmp (.l ((sortCh l).map fun c => .str [c]))) := by
  obtain ⟨m, e, _⟩ := sort_len l
  simp only [blt]
  rw [if_pos h, e]
  unfold sortCh
  rw [e, joinL_nil, List.map_map]
  rfl
theorem sortS_ch (l : List Nat) : sortS (l.map fun c => [c]) = (sortCh l).map fun c => [c] := by
  obtain ⟨m, e, _⟩ := sort_len l
  unfold sortCh
  rw [e, joinL_nil]
theorem map_ch (l : List Nat) : (l.map fun c => [c]).map D.str = l.map fun c => D.str [c] := by rw [List.map_map]; rfl
theorem sortCh_len (l : List Nat) : (sortCh l).length = l.length := by
  obtain ⟨m, e, h⟩ := sort_len l
  unfold sortCh
  rw [e, joinL_nil, h]
theorem tot_set {cs : List (List Nat)} {j : Nat} {z : List Nat} (h : j < cs.length) (hz : z.length = cs[j].length + 1) : tot (cs.set j z) = tot cs + 1 := by
  unfold tot
  induction cs generalizing j with
  | nil => simp at h
  | cons c cs ih =>
    cases j with
    | zero => simp only [List.set_cons_zero, List.map_cons, List.sum_cons, List.getElem_cons_zero] at hz ⊢; omega
    | succ j => simp only [List.set_cons_succ, List.map_cons, List.sum_cons, List.getElem_cons_succ] at hz ⊢; rw [ih (by simpa using h) hz]; omega
abbrev shT' (x y : Int) (a b : Nat) (m : D) (cs : List (List Nat)) (p q r : Option SV) : Tau := [some (.o (crM x y)), some (.v (dM a b)), some (.v m), some (.o (.l (cs.map .str))), p, q, r]
theorem sheet_turn [K_law_sheet G fs] (k : Nat) {a b : Nat} {m d : D} {cs : List (List Nat)} {x y : Int} {p q r : Option SV} (c : Cr x y) (hl : cs.length = a + 1) (a5 : a ≤ 5) (hc : ∀ z ∈ cs, z ∈ CELLS) :
    ∃ cs' x' y' q' r', trn G (callF G fs 64 (k + 2)) 64 true (.n 4) L_law_sheet_0 d (shT' x y a b m cs p q r) = .ok .nx (shT' x' y' a b m cs' (some (.v d)) q' r') ∧ Cr x' y' ∧ cs'.length = a + 1 ∧ (∀ z ∈ cs', z ∈ CELLS) ∧ tot cs' ≤ tot cs + 1 := by
  obtain ⟨v, x1, y1, e1, c1, h1⟩ := dig_nat (G := G) (fs := fs) (k + 1) (n := cs.length) c (by omega) (by omega)
  obtain ⟨w, x2, y2, e2, c2, h2⟩ := one_of_s (G := G) (fs := fs) k (s := [97, 98, 99]) c1 (by decide) (by decide)
  have iv : item (.lst (cs.map D.str)) (.int v) = some (.str cs[v]) := by
    rw [item_lst (by simpa using h1)]; simp
  have ix : ixN cs.length (v : Int) = some v := ixN_nat h1
  cases g : (cs[v]).elem w with
  | true =>
    refine ⟨cs, x2, y2, some (.v (.int v)), some (.v (.str [w])), ?_, c2, hl, hc, by omega⟩
    simp_all only [shT', L_law_sheet_0, List.length_map, e1, e2, iv, g]
  | false =>
    have hz := hc cs[v] (List.getElem_mem h1)
    have lz := (cells_ok _ hz).2
    obtain ⟨n1, n2⟩ := cell_add _ hz w h2 g
    have le : cs[v].length + 1 ≤ line := le_line (by omega)
    have l64 : (cs[v] ++ [w]).length < 64 := by rw [List.length_append, List.length_singleton]; omega
    refine ⟨cs.set v (sortCh (cs[v] ++ [w])), x2, y2, some (.v (.int v)), some (.v (.str [w])), ?_, c2, by rw [List.length_set]; exact hl, fun z hz => ?_, Nat.le_of_eq (tot_set h1 n2)⟩
    · have em : (cs.map D.str).set v (.str (sortCh (cs[v] ++ [w]))) = (cs.set v (sortCh (cs[v] ++ [w]))).map D.str := by rw [List.map_set]
      have es := sortS_ch (cs[v] ++ [w])
      have lj : (sortCh (cs[v] ++ [w])).length ≤ line := by rw [sortCh_len]; exact le_line (by omega)
      simp_all only [shT', L_law_sheet_0, List.length_map, e1, e2, iv, ix, g, le, l64, es, map_ch, met_join_ch lj]
      rw [em]
    · rcases List.mem_or_eq_of_mem_set hz with hz | hz
      · exact hc z hz
      · rw [hz]; exact n1

theorem CELLS_cellsB {cs : List (List Nat)} (h : ∀ z ∈ cs, z ∈ CELLS) : cs.all cellB' = true := by
  rw [List.all_eq_true]
  exact fun z hz => (cells_ok z (h z hz)).1
theorem tot_nS (n : Nat) : tot (nS n) = 0 := by
  unfold tot nS
  induction n with
  | zero => rfl
  | succ n ih => rw [List.replicate_succ, List.map_cons, List.sum_cons, ih]; rfl
theorem sh_of {a : Nat} {cs : List (List Nat)} (h : ∀ z ∈ cs, z ∈ CELLS) (hl : cs.length = a + 1) (a5 : a ≤ 5) (t : tot cs ≤ 8) : Sh a cs := by
  refine ⟨?_, by omega, by omega, fun z hz => ?_⟩
  · unfold cellsB
    rw [CELLS_cellsB h, decide_eq_true t]; rfl
  · have := (cells_ok z (h z hz)).2
    omega
theorem sp_law_sheet [K_law_sheet G fs] (k : Nat) {a b n : Nat} {x y : Int} (c : Cr x y) (m : Mc a b) (n8 : n ≤ 8) :
    ∃ cs x' y', callF G fs 64 (k + 3) f_law_sheet (some (crM x y)) [dM a b, .int n] = .ok (.val (dS cs)) (some (crM x' y')) ∧ Cr x' y' ∧ Sh a cs ∧ cs.length = a + 1 ∧ (∀ z ∈ cs, z ∈ CELLS) ∧ tot cs ≤ n := by
  have a5 : a ≤ 5 := by have := m.a5; omega
  have q1 : (n : Int) + 1 = ((n + 1 : Nat) : Int) := by omega
  have q2 : (a : Int) + 1 = ((a + 1 : Nat) : Int) := by omega
  obtain ⟨w, x1, y1, e1, c1, h1⟩ := dig_nat (G := G) (fs := fs) (k + 1) (n := n + 1) c (by omega) (by omega)
  have er : rep (a + 1) [D.str []] = (nS (a + 1)).map .str := by
    unfold rep nS
    generalize (a + 1) = n
    induction n with
    | zero => rfl
    | succ n ih => rw [List.replicate_succ, List.flatten_cons, ih]; rfl
  have cm : (0 ≤ ((a + 1 : Nat) : Int) ∧ ((a + 1 : Nat) : Int) ≤ 1000 ∧ 1 ≤ 1000) := ⟨by omega, by omega, by decide⟩
  have hf : Ok (forL (trn G (callF G fs 64 (k + 2)) 64 true (.n 4) L_law_sheet_0) ((List.range w).map fun (i : Nat) => D.int i) (shT' x1 y1 a b (.int n) (nS (a + 1)) none none none))
      (fun o t => o = none ∧ ∃ cs x y p q r, t = shT' x y a b (.int n) cs p q r ∧ Cr x y ∧ cs.length = a + 1 ∧ (∀ z ∈ cs, z ∈ CELLS) ∧ tot cs ≤ w) := by
    refine Ok_for (fun pre t => ∃ cs x y p q r, t = shT' x y a b (.int n) cs p q r ∧ Cr x y ∧ cs.length = a + 1 ∧ (∀ z ∈ cs, z ∈ CELLS) ∧ tot cs ≤ pre.length) ?_ ?_ ?_
    · exact ⟨nS (a + 1), x1, y1, _, _, _, rfl, c1, by simp [nS], fun z hz => by rw [(List.mem_replicate.mp hz).2]; decide, by rw [tot_nS]; exact Nat.zero_le _⟩
    · rintro pre i post _ t ⟨cs, x, y, p, q, r, rfl, c, hl, hc, ht⟩
      obtain ⟨cs', x', y', q', r', e, c', hl', hc', ht'⟩ := sheet_turn (G := G) (fs := fs) k (b := b) (m := .int n) (d := .int i) (p := p) (q := q) (r := r) c hl a5 hc
      refine Ok.of e ⟨cs', x', y', _, _, _, rfl, c', hl', hc', ?_⟩
      rw [List.length_append, List.length_singleton]
      omega
    · rintro t ⟨cs, x, y, p, q, r, rfl, c, hl, hc, ht⟩
      exact ⟨rfl, cs, x, y, p, q, r, rfl, c, hl, hc, by simpa using ht⟩
  obtain ⟨o, t, e2, rfl, cs, x2, y2, p, q, r, rfl, c2, hl, hc, ht⟩ := hf.ex
  refine ⟨cs, x2, y2, ?_, c2, sh_of hc hl a5 (by omega), hl, hc, by omega⟩
  rw [call_finI (K_law_sheet.e_law_sheet (G := G)) rfl rfl]
  simp_all only [shT', F_law_sheet, q2, mulL, cm, er, q1, e1, e2, rng1 (by omega : w ≤ 1000), Int.toNat_natCast, reduceIte, and_self]
end
end TY
namespace TY
local macro_rules | `(tactic| simp_all only [$xs:simpLemma,*]) => `(tactic| simp -implicitDefEqProofs only [exss_nil, exss_cons, cont_nx, cont_brk, cont_ret, x_set, x_unp, x_par, x_seti, x_app, x_ext, x_ex, x_if, x_for, x_while, x_brk, x_ret, x_retn, x_raise, raise0, raise1, par_nil, par_cons, parOp_tmp, parOp_val, parOp_slot, setOs_nil, setOs_cons, setO_0s, setO_1s,
  v_loc, evl_v, evl_o, v_c, v_gl, v_fnv, v_bop, v_cop, v_chn, v_and, v_or, v_not, v_neg, v_ite, v_idx, idxO_v, idxO_t, idxO_s, idxS_v, idxS_l, idxS_ll, v_slc, o_none, o_some, v_rev, v_tup, v_lst, v_dk, v_dn, kv_nil, kv_cons, v_call, v_calli, v_callv, v_blt, v_met, v_get, v_get2, v_pop, v_isi, v_lrng, v_lc, v_lcl, v_lc2, v_dc, v_catch, catch_ok, catch_ex, v_sumv, s_nil', s_cons', os_nil, os_cons, c_nil', c_cons', i_seq', i_rng', i_enum', i_zip', i_enumzip', i_items',
  getM_eq, gMS_o, doCallI_eq, dcI_some, callI_ok, doCall_eq, callN_ok, callN_ex, ret_val, ret_tmp, ret_slot, retS_o, appM_eq, apM_l, extM_eq, exM_l, setM_eq, seM_l, ownL_eq, owL_l, fl1_none, fl1_some, trn, lct, wtst, wtrn, Option.isSome_some,
  bind_ok, bind_ex, bind_no, bind_ite, bd_ok, bd_ex, bd_no, bd_ite, lcEnd_ok, lift_some, lift_none, hold_val, hold_slot, hold_tmp, asB_bl, asI_int, frz_val, frz_tmp, frz_slot, frzS_v, frzS_o, der_slot, derS_v, derS_l, derS_n, derS_k, der_val, der_tmp, ite_tt, ite_ff, obind_some, omap_some,
  getS_zero, getS_succ, isTs, isT, cop, mapD_nil, mapD_cons, Bool.false_eq_true, if_false, if_true, startN, startI, List.map_cons, List.map_nil, List.nil_append, List.cons_append, List.append_nil, List.length_cons, List.length_nil, Nat.reduceAdd, Nat.add_zero, Nat.zero_add, Nat.reduceSub, Nat.sub_self, List.replicate_zero, List.replicate_succ,
  fin_ret, fin_nx, fin_ex, fin_ite, and_ok, or_ok, Bool.or_false, Bool.false_or, Bool.true_or, Bool.or_true, Bool.not_false, Bool.not_true, Bool.and_true, Bool.true_and, Bool.and_false, Bool.false_and, Bool.and_self, Bool.or_self, beq_self_eq_true, Int.cast_ofNat_Int,
  okd_non, okd_bl, okd_int, okd_str, okd_tup50, okd_tup49, okd_tup48, okd_lst50, okd_lst49, okds_nil, okds_cons, eqv_int, eqv_str, eqv_bl, eqv_tup, eqv_lst, item_tup0, item_tup1, blt, Rs.op, le1, le2, le3, le4, le5, addI, subI, addS, addT, addL, mulT, mulL, slcT, slcL, slcS, asS, setO_0v, setO_0t, setO_1v, setO_1t, Bool.toNat_false, Bool.toNat_true, List.length_set, store_t, stores_nil, stores_cons, store_n, store_n1, seqOf_str, seqOf_tup, seqOf_lst, isIn_ch, List.set_cons_zero, List.set_cons_succ, Nat.reduceLT, Nat.reduceLeDiff, Nat.lt_add_one, true_and, and_true, Mu.d, Int.reduceBEq, Int.reduceLT, Int.reduceLE, Int.reduceAdd, Int.reduceSub, Int.reduceNeg, decide_true, decide_false, finI_ret, finI_nx, endC_t, enC_s, ix2_0, ix2_1, item_l0, item_l1, $xs,*])
section
variable {G : Glob} {fs : Nat → Option Fn}
/-! S3: shortened, marks; sheets that are typed on. -/
theorem forL_first {α β : Type} {f : D → Tau → Out Fl} {g : α → D} {q : α → Option β} {rv : β → Rs} {I : Tau → Prop} : ∀ {L : List α} {t : Tau}, I t →
    (∀ a ∈ L, ∀ t, I t → ∃ t', I t' ∧ f (g a) t = .ok (fl1 ((q a).map rv)) t') → ∃ t', I t' ∧ forL f (L.map g) t = .ok ((L.findSome? q).map rv) t'
  | [], t, h, _ => ⟨t, h, rfl⟩
  | a :: L, t, h, hs => by
    obtain ⟨t', h', e⟩ := hs a List.mem_cons_self t h
    rw [List.map_cons, forL, e, bind_ok, List.findSome?_cons]
    cases q a with
    | some b => exact ⟨t', h', rfl⟩
    | none => exact forL_first h' fun b hb => hs b (List.mem_cons_of_mem _ hb)
def alikeF (a b : Nat) (s z : List Nat) : Option (List Nat) := if eff a b z = eff a b s then some z else none
def shR (a b : Nat) (s : List Nat) : Option (List Nat) := (List.range (min 5 s.length)).findSome? fun n => (rowsN n).findSome? (alikeF a b s)
def oS : Option (List Nat) → D
  | some z => .str z
  | none => .non
theorem rowsN_row {n : Nat} {s : List Nat} (h : s ∈ rowsN n) (n30 : n ≤ 30) : rowB s = true := by
  obtain ⟨l, p⟩ := rowsN_len h
  exact rowB_of p (by omega)
theorem short_mid [K_shortened G fs] (k : Nat) {a b n : Nat} {s : List Nat} {p q : Option SV} (m : Mc a b) (n4 : n ≤ 4) :
    ∃ p' q', trn G (callF G fs 64 (k + 4)) 64 false (.n 3) L_shortened_1 (.int n) (shT a b s p q) = .ok (fl1 (((rowsN n).findSome? (alikeF a b s)).map fun z => .val (.str z))) (shT a b s p' q') := by
  obtain ⟨t, ⟨q', rfl⟩, e⟩ := forL_first (f := trn G (callF G fs 64 (k + 4)) 64 false (.n 4) L_shortened_0) (g := D.str) (q := alikeF a b s) (rv := fun z => .val (.str z)) (I := fun t => ∃ q, t = shT a b s (some (.v (.int n))) q) (L := rowsN n) ⟨q, rfl⟩ (fun z hz t ⟨q, e⟩ => by
    subst e
    refine ⟨_, ⟨some (.v (.str z)), rfl⟩, ?_⟩
    rw [short_turn k m (rowsN_row hz (by omega))]
    unfold alikeF
    split <;> rfl)
  refine ⟨some (.v (.int n)), q', ?_⟩
  simp_all only [shT, L_shortened_1, sp_rows_of (k + 3) n4, e]
  cases (rowsN n).findSome? (alikeF a b s) <;> rfl
theorem sp_shortened [K_shortened G fs] (k : Nat) {a b : Nat} {s : List Nat} (m : Mc a b) (hs : rowB s = true) :
    callF G fs 64 (k + 5) f_shortened none [dM a b, .str s] = .ok (.val (oS (shR a b s))) none := by
  have h30 := (rowB_lt hs).2
  obtain ⟨t, ⟨p, q, rfl⟩, e⟩ := forL_first (f := trn G (callF G fs 64 (k + 4)) 64 false (.n 3) L_shortened_1) (g := fun (n : Nat) => D.int n) (q := fun n => (rowsN n).findSome? (alikeF a b s)) (rv := fun z => .val (.str z)) (I := fun t => ∃ p q, t = shT a b s p q) (L := List.range (min 5 s.length)) (t := shT a b s none none) ⟨_, _, rfl⟩ (fun n hn t ⟨p, q, e⟩ => by
    subst e
    have hn := List.mem_range.mp hn
    obtain ⟨p', q', e'⟩ := short_mid (G := G) (fs := fs) k (a := a) (b := b) (n := n) (s := s) (p := p) (q := q) m (by omega)
    exact ⟨_, ⟨p', q', rfl⟩, e'⟩)
  have em : (if (s.length : Int) < 5 then (s.length : Int) else 5) = ((min 5 s.length : Nat) : Int) := by split <;> omega
  rw [call_fin (K_shortened.e_shortened (G := G)) rfl rfl]
  simp_all only [shT, F_shortened, gSh, sp_need_machine _ m, sp_need_row _ hs, sp_effects _ m hs, le_line (by omega : s.length ≤ 1000), em, rng1 (by omega : min 5 s.length ≤ 1000), e]
  unfold shR
  cases (List.range (min 5 s.length)).findSome? fun n => (rowsN n).findSome? (alikeF a b s) <;> rfl
theorem shR_some {a b : Nat} {s z : List Nat} (h : shR a b s = some z) : rowB z = true ∧ z.length < s.length ∧ eff a b z = eff a b s := by
  obtain ⟨n, hn, h⟩ := List.exists_of_findSome?_eq_some h
  obtain ⟨z', hz, h⟩ := List.exists_of_findSome?_eq_some h
  have hn := List.mem_range.mp hn
  unfold alikeF at h
  split at h
  · cases h
    refine ⟨rowsN_row hz (by omega), ?_, by assumption⟩
    rw [(rowsN_len hz).1]; omega
  · cases h
/-! marks -/
def mks (n : Nat) : List (List Nat) → List (Nat × Nat)
  | [] => []
  | c :: cs => c.map (fun s => (n, s)) ++ mks (n + 1) cs
abbrev dK (m : Nat × Nat) : D := .tup [.int m.1, .str [m.2]]
theorem marks_turn [K_marks_of G fs] (k n : Nat) {m : D} {c : List Nat} {acc : List D} {p q : Option SV} (hc : c.length ≤ 1000) (ha : acc.length + c.length ≤ line) :
    trn G (callF G fs 64 k) 64 false (.t [.n 2, .n 3]) L_marks_of_0 (.tup [.int n, .str c]) [some (.v m), some (.o (.l acc)), p, q, none] = .ok .nx [some (.v m), some (.o (.l (acc ++ (c.map (fun s => (n, s))).map dK))), some (.v (.int n)), some (.v (.str c)), none] := by
  simp_all only [L_marks_of_0]
  rw [lc_one (h := fun s => dK (n, s)) (fun s hs => ?_) (le_line hc)]
  · have e1 : (c.map fun s => dK (n, s)) = (c.map (fun s => (n, s))).map dK := by rw [List.map_map]; rfl
    simp_all only [TY.wipe, List.length_map, ha]
    rw [e1]
  · simp_all only [TY.wipe]
    exact ⟨_, rfl, rfl⟩
theorem marks_loop [K_marks_of G fs] (k : Nat) {m : D} : ∀ (cs : List (List Nat)) (n : Nat) {acc : List D} {p q : Option SV}, (∀ c ∈ cs, c.length ≤ 1000) → acc.length + 1000 * cs.length ≤ line →
    ∃ p' q', forL (trn G (callF G fs 64 k) 64 false (.t [.n 2, .n 3]) L_marks_of_0) (enumFrom n (cs.map D.str)) [some (.v m), some (.o (.l acc)), p, q, none] =
      .ok none [some (.v m), some (.o (.l (acc ++ (mks n cs).map dK))), p', q', none]
  | [], n, acc, p, q, _, _ => ⟨p, q, by simp [mks, enumFrom, forL]⟩
  | c :: cs, n, acc, p, q, h, hl => by
    have hc := h c List.mem_cons_self
    rw [List.length_cons] at hl
    obtain ⟨p', q', e⟩ := marks_loop k (m := m) cs (n + 1) (acc := acc ++ (c.map (fun s => (n, s))).map dK) (p := some (.v (.int n))) (q := some (.v (.str c))) (fun c hc => h c (List.mem_cons_of_mem _ hc)) (by simp; omega)
    refine ⟨p', q', ?_⟩
    rw [List.map_cons, enumFrom, forL, marks_turn k n hc (by omega), bind_ok]
    rw [mks, List.map_append, ← List.append_assoc]
    exact e
theorem sp_marks_of [K_marks_of G fs] (k : Nat) {cs : List (List Nat)} (h1 : cs.length ≤ 1000) (h2 : ∀ c ∈ cs, c.length ≤ 1000) : callF G fs 64 (k + 1) f_marks_of none [dS cs] = .ok (.tmp (.l ((mks 0 cs).map dK))) none := by
  obtain ⟨p', q', e⟩ := marks_loop (G := G) (fs := fs) k (m := dS cs) cs 0 (acc := []) (p := none) (q := none) h2 (by simp; exact Nat.le_trans (Nat.mul_le_mul (Nat.le_refl 1000) h1) (by decide))
  rw [call_fin (K_marks_of.e_marks_of (G := G)) rfl rfl]
  rw [List.nil_append] at e
  simp_all only [F_marks_of, seqN, e, (by decide : 0 ≤ line)]
theorem sp_marks [K_marks G fs] (k : Nat) {a b : Int} {cs : List (List Nat)} (m : Mc a b) (h : Sh a cs) : callF G fs 64 (k + 5) f_marks none [dM a b, dS cs] = .ok (.tmp (.l ((mks 0 cs).map dK))) none := by
  rw [call_fin (K_marks.e_marks (G := G)) rfl rfl]
  simp_all only [F_marks, sp_need_machine _ m, sp_need_sheet (b := b) _ h, sp_marks_of _ h.le h.cl]
theorem mks_mem {n : Nat} {x : Nat × Nat} : ∀ {cs : List (List Nat)} {n : Nat}, x ∈ mks n cs → ∃ j, ∃ h : j < cs.length, x.1 = n + j ∧ x.2 ∈ cs[j]
  | [], n, h => absurd h (by simp [mks])
  | c :: cs, n, h => by
    rcases List.mem_append.mp h with h | h
    · obtain ⟨s, hs, rfl⟩ := List.mem_map.mp h
      exact ⟨0, by simp, rfl, hs⟩
    · obtain ⟨j, hj, h1, h2⟩ := mks_mem (n := n) h
      exact ⟨j + 1, by simpa using hj, by omega, by simpa using h2⟩
/-! typing on a sheet -/
theorem cell1_nil : ∀ z ∈ CELLS, cell1 z [] = z := by decide
theorem cell1_cell1 : ∀ z ∈ CELLS, ∀ b ∈ CELLS, ∀ w ∈ [[], [97], [98], [99]], cell1 (cell1 z b) w = cell1 z (cell1 b w) := by decide
theorem prt_in (c : Nat) : prt c ∈ [[], [97], [98], [99]] := by
  unfold prt
  split
  · rename_i h
    have h := List.elem_iff.mp h
    simp only [SG, List.mem_cons, List.not_mem_nil, or_false] at h
    rcases h with h | h | h <;> rw [h] <;> decide
  · decide
theorem ld_union {a b : Nat} : ∀ (row : List Nat) {zs bs : List (List Nat)} {col : Nat} {n : Int}, (∀ z ∈ zs, z ∈ CELLS) → (∀ z ∈ bs, z ∈ CELLS) → zs.length = bs.length → col < bs.length → bs.length = a + 1 →
    ld a b row (List.zipWith cell1 zs bs) col n = (List.zipWith cell1 zs (ld a b row bs col n).1, (ld a b row bs col n).2) ∧ (∀ z ∈ (ld a b row bs col n).1, z ∈ CELLS) ∧ (ld a b row bs col n).1.length = bs.length
  | [], zs, bs, col, n, _, hb, _, _, _ => ⟨rfl, hb, rfl⟩
  | c :: row, zs, bs, col, n, hz, hb, hl, hc, ha => by
    have g1 : bs.getD col [] = bs[col] := by rw [List.getD_eq_getElem?_getD, List.getElem?_eq_getElem hc]; rfl
    have hcz : col < zs.length := by omega
    have g2 : (List.zipWith cell1 zs bs).getD col [] = cell1 zs[col] bs[col] := by
      rw [List.getD_eq_getElem?_getD, List.getElem?_eq_getElem (by rw [List.length_zipWith]; omega)]
      simp
    have e : (List.zipWith cell1 zs bs).set col (cell1 (cell1 zs[col] bs[col]) (prt c)) = List.zipWith cell1 zs (bs.set col (cell1 bs[col] (prt c))) := by
      rw [cell1_cell1 _ (hz _ (List.getElem_mem hcz)) _ (hb _ (List.getElem_mem hc)) _ (prt_in c)]
      apply List.ext_getElem?
      intro i
      rw [List.getElem?_set, List.getElem?_zipWith, List.getElem?_zipWith, List.getElem?_set]
      by_cases h : col = i
      · subst h
        rw [if_pos rfl, if_pos rfl, if_pos (by rw [List.length_zipWith]; omega), if_pos hc, List.getElem?_eq_getElem hcz]
      · rw [if_neg h, if_neg h]
    have hb' : ∀ z ∈ bs.set col (cell1 bs[col] (prt c)), z ∈ CELLS := fun z h => by
      rcases List.mem_or_eq_of_mem_set h with h | h
      · exact hb z h
      · rw [h]; exact cell1_in _ (hb _ (List.getElem_mem hc)) _ (prt_in c)
    obtain ⟨h1, h2, h3⟩ := ld_union row (zs := zs) (bs := bs.set col (cell1 bs[col] (prt c))) (col := (mvN a b col c).1) (n := n + bi (mvN a b col c).2) hz hb' (by rw [List.length_set]; exact hl) (by rw [List.length_set]; exact mvN_lt ha hc) (by rw [List.length_set]; exact ha)
    rw [ld, g2, e, h1]
    rw [ld, g1]
    exact ⟨rfl, h2, by rw [h3, List.length_set]⟩
theorem zip_nS : ∀ {zs : List (List Nat)}, (∀ z ∈ zs, z ∈ CELLS) → List.zipWith cell1 zs (nS zs.length) = zs
  | [], _ => rfl
  | z :: zs, h => by
    show cell1 z [] :: List.zipWith cell1 zs (nS zs.length) = z :: zs
    rw [cell1_nil z (h z List.mem_cons_self), zip_nS fun z hz => h z (List.mem_cons_of_mem _ hz)]
theorem nS_CELLS (n : Nat) : ∀ z ∈ nS n, z ∈ CELLS := fun z hz => by rw [(List.mem_replicate.mp hz).2]; decide
/-- what a row leaves on a sheet, told by what it leaves on a blank one -/
theorem ld_on {a b : Nat} (row : List Nat) {zs : List (List Nat)} {col : Nat} {n : Int} (hz : ∀ z ∈ zs, z ∈ CELLS) (hl : zs.length = a + 1) (hc : col ≤ a) :
    ld a b row zs col n = (List.zipWith cell1 zs (ld a b row (nS (a + 1)) col n).1, (ld a b row (nS (a + 1)) col n).2) := by
  have h := (ld_union row (zs := zs) (bs := nS (a + 1)) (a := a) (b := b) (col := col) (n := n) hz (nS_CELLS _) (by simp [nS, hl]) (by simp [nS]; omega) (by simp [nS])).1
  have e : List.zipWith cell1 zs (nS (a + 1)) = zs := by
    have := zip_nS hz
    rwa [hl] at this
  rw [e] at h
  exact h
theorem eff_at {a b : Nat} {r s : List Nat} (h : eff a b r = eff a b s) {col : Nat} (hc : col ≤ a) : ld a b r (nS (a + 1)) col 0 = ld a b s (nS (a + 1)) col 0 := by
  have := congrArg (fun l => l[col]?) h
  simp only [eff, List.getElem?_map, List.getElem?_range (by omega : col < a + 1), Option.map_some, Option.some.injEq] at this
  exact this
theorem eff_on {a b : Nat} {r s : List Nat} (h : eff a b r = eff a b s) {zs : List (List Nat)} {col : Nat} (hz : ∀ z ∈ zs, z ∈ CELLS) (hl : zs.length = a + 1) (hc : col ≤ a) : ld a b r zs col 0 = ld a b s zs col 0 := by
  rw [ld_on r hz hl hc, ld_on s hz hl hc, eff_at h hc]
/-- a mark stays -/
theorem cell1_keep : ∀ z ∈ CELLS, ∀ b ∈ CELLS, ∀ c ∈ z, (cell1 z b).elem c = true := by decide
end
end TY
namespace TY
local macro_rules | `(tactic| simp_all only [$xs:simpLemma,*]) => `(tactic| simp -implicitDefEqProofs only [exss_nil, exss_cons, cont_nx, cont_brk, cont_ret, x_set, x_unp, x_par, x_seti, x_app, x_ext, x_ex, x_if, x_for, x_while, x_brk, x_ret, x_retn, x_raise, raise0, raise1, par_nil, par_cons, parOp_tmp, parOp_val, parOp_slot, setOs_nil, setOs_cons, setO_0s, setO_1s,
  v_loc, evl_v, evl_o, v_c, v_gl, v_fnv, v_bop, v_cop, v_chn, v_and, v_or, v_not, v_neg, v_ite, v_idx, idxO_v, idxO_t, idxO_s, idxS_v, idxS_l, idxS_ll, v_slc, o_none, o_some, v_rev, v_tup, v_lst, v_dk, v_dn, kv_nil, kv_cons, v_call, v_calli, v_callv, v_blt, v_met, v_get, v_get2, v_pop, v_isi, v_lrng, v_lc, v_lcl, v_lc2, v_dc, v_catch, catch_ok, catch_ex, v_sumv, s_nil', s_cons', os_nil, os_cons, c_nil', c_cons', i_seq', i_rng', i_enum', i_zip', i_enumzip', i_items',
  getM_eq, gMS_o, doCallI_eq, dcI_some, callI_ok, doCall_eq, callN_ok, callN_ex, ret_val, ret_tmp, ret_slot, retS_o, appM_eq, apM_l, extM_eq, exM_l, setM_eq, seM_l, ownL_eq, owL_l, fl1_none, fl1_some, trn, lct, wtst, wtrn, Option.isSome_some,
  bind_ok, bind_ex, bind_no, bind_ite, bd_ok, bd_ex, bd_no, bd_ite, lcEnd_ok, lift_some, lift_none, hold_val, hold_slot, hold_tmp, asB_bl, asI_int, frz_val, frz_tmp, frz_slot, frzS_v, frzS_o, der_slot, derS_v, derS_l, derS_n, derS_k, der_val, der_tmp, ite_tt, ite_ff, obind_some, omap_some,
  getS_zero, getS_succ, isTs, isT, cop, mapD_nil, mapD_cons, Bool.false_eq_true, if_false, if_true, startN, startI, List.map_cons, List.map_nil, List.nil_append, List.cons_append, List.append_nil, List.length_cons, List.length_nil, Nat.reduceAdd, Nat.add_zero, Nat.zero_add, Nat.reduceSub, Nat.sub_self, List.replicate_zero, List.replicate_succ,
  fin_ret, fin_nx, fin_ex, fin_ite, and_ok, or_ok, Bool.or_false, Bool.false_or, Bool.true_or, Bool.or_true, Bool.not_false, Bool.not_true, Bool.and_true, Bool.true_and, Bool.and_false, Bool.false_and, Bool.and_self, Bool.or_self, beq_self_eq_true, Int.cast_ofNat_Int,
  okd_non, okd_bl, okd_int, okd_str, okd_tup50, okd_tup49, okd_tup48, okd_lst50, okd_lst49, okds_nil, okds_cons, eqv_int, eqv_str, eqv_bl, eqv_tup, eqv_lst, item_tup0, item_tup1, blt, Rs.op, le1, le2, le3, le4, le5, addI, subI, addS, addT, addL, mulT, mulL, slcT, slcL, slcS, asS, setO_0v, setO_0t, setO_1v, setO_1t, Bool.toNat_false, Bool.toNat_true, List.length_set, store_t, stores_nil, stores_cons, store_n, store_n1, seqOf_str, seqOf_tup, seqOf_lst, isIn_ch, List.set_cons_zero, List.set_cons_succ, Nat.reduceLT, Nat.reduceLeDiff, Nat.lt_add_one, true_and, and_true, Mu.d, Int.reduceBEq, Int.reduceLT, Int.reduceLE, Int.reduceAdd, Int.reduceSub, Int.reduceNeg, decide_true, decide_false, finI_ret, finI_nx, endC_t, enC_s, ix2_0, ix2_1, item_l0, item_l1, $xs,*])
section
variable {G : Glob} {fs : Nat → Option Fn}
/-! S4: what the defs give of any values. -/
/-- plain at its outside -/
def pl : D → Bool
  | .dk _ => false
  | .dn _ => false
  | .fn _ => false
  | .scr _ => false
  | .exc _ => false
  | _ => true
/-! plain, at most n deep, nothing longer than 1000 -/
mutual
def pv : Nat → D → Bool
  | _, .non => true
  | _, .bl _ => true
  | _, .int _ => true
  | _, .str s => decide (s.length ≤ 1000)
  | n, .tup xs => match n with
    | 0 => false
    | n + 1 => decide (xs.length ≤ 1000) && pvs n xs
  | n, .lst xs => match n with
    | 0 => false
    | n + 1 => decide (xs.length ≤ 1000) && pvs n xs
  | _, .dk _ => false
  | _, .dn _ => false
  | _, .fn _ => false
  | _, .scr _ => false
  | _, .exc _ => false
termination_by structural _ d => d
def pvs : Nat → List D → Bool
  | _, [] => true
  | n, x :: xs => pv n x && pvs n xs
termination_by structural _ ds => ds
end
theorem pvs_nil {n : Nat} : pvs n [] = true := by cases n <;> rfl
theorem pvs_cons {n : Nat} {d : D} {ds : List D} : pvs n (d :: ds) = (pv n d && pvs n ds) := by cases n <;> rfl
theorem pvs_all {n : Nat} : ∀ {ds : List D}, pvs n ds = true ↔ ∀ d ∈ ds, pv n d = true
  | [] => by simp [pvs_nil]
  | d :: ds => by rw [pvs_cons, Bool.and_eq_true, pvs_all]; simp
theorem pv_pl {n : Nat} {d : D} (h : pv n d = true) : pl d = true := by
  cases d <;> first | rfl | (cases n <;> cases h)
mutual
theorem pv_okd : ∀ (n : Nat) (d : D), pv n d = true → okd n d = true
  | n, .non, _ => okd_non
  | n, .bl _, _ => okd_bl
  | n, .int _, _ => okd_int
  | n, .str _, _ => okd_str
  | 0, .tup xs, h => by cases h
  | n + 1, .tup xs, h => by
    have h : (decide (xs.length ≤ 1000) && pvs n xs) = true := h
    rw [Bool.and_eq_true] at h
    exact pvs_okds n xs h.2
  | 0, .lst xs, h => by cases h
  | n + 1, .lst xs, h => by
    have h : (decide (xs.length ≤ 1000) && pvs n xs) = true := h
    rw [Bool.and_eq_true] at h
    exact pvs_okds n xs h.2
  | n, .dk _, h => by cases n <;> cases h
  | n, .dn _, h => by cases n <;> cases h
  | n, .fn _, h => by cases n <;> cases h
  | n, .scr _, h => by cases n <;> cases h
  | n, .exc _, h => by cases n <;> cases h
theorem pvs_okds : ∀ (n : Nat) (ds : List D), pvs n ds = true → okds n ds = true
  | n, [], _ => okds_nil
  | n, d :: ds, h => by
    rw [pvs_cons, Bool.and_eq_true] at h
    rw [okds_cons, pv_okd n d h.1, pvs_okds n ds h.2]; rfl
end
theorem pv_tup {n : Nat} {xs : List D} : pv (n + 1) (.tup xs) = (decide (xs.length ≤ 1000) && pvs n xs) := rfl
theorem pv_lst {n : Nat} {xs : List D} : pv (n + 1) (.lst xs) = (decide (xs.length ≤ 1000) && pvs n xs) := rfl
theorem pv_str {n : Nat} {s : List Nat} : pv n (.str s) = decide (s.length ≤ 1000) := by cases n <;> rfl
theorem pv_tup' {n : Nat} {xs : List D} (h : pv n (.tup xs) = true) : ∃ m, n = m + 1 ∧ xs.length ≤ 1000 ∧ ∀ x ∈ xs, pv m x = true := by
  cases n with
  | zero => cases h
  | succ n =>
    rw [pv_tup, Bool.and_eq_true, decide_eq_true_eq, pvs_all] at h
    exact ⟨n, rfl, h.1, h.2⟩
theorem pv_lst' {n : Nat} {xs : List D} (h : pv n (.lst xs) = true) : ∃ m, n = m + 1 ∧ xs.length ≤ 1000 ∧ ∀ x ∈ xs, pv m x = true := by
  cases n with
  | zero => cases h
  | succ n =>
    rw [pv_lst, Bool.and_eq_true, decide_eq_true_eq, pvs_all] at h
    exact ⟨n, rfl, h.1, h.2⟩
def isIntD (lo hi : Int) : D → Bool
  | .int v => decide (lo ≤ v) && decide (v ≤ hi)
  | _ => false
theorem sp_is_int_any [K_is_int G fs] (k : Nat) {d : D} {lo hi : Int} (h : pl d = true) : callF G fs 64 (k+1) f_is_int none [d, .int lo, .int hi] = .ok (.val (.bl (isIntD lo hi d))) none := by
  rw [call_fin (K_is_int.e_is_int (G := G)) rfl rfl]
  cases d <;> first | (cases h; done) | simp_all only [F_is_int, isIntD]
def isMachD : D → Bool
  | .tup [a, b] => isIntD 1 5 a && (match a with
    | .int v => isIntD 1 v b
    | _ => false)
  | _ => false
theorem isIntD_int {lo hi : Int} {d : D} (h : isIntD lo hi d = true) : ∃ v, d = .int v ∧ lo ≤ v ∧ v ≤ hi := by
  cases d <;> first | (cases h; done) | skip
  rename_i v
  unfold isIntD at h
  rw [Bool.and_eq_true, decide_eq_true_eq, decide_eq_true_eq] at h
  exact ⟨v, rfl, h.1, h.2⟩
theorem sp_is_machine_any [K_is_machine G fs] (k : Nat) {n : Nat} {d : D} (h : pv n d = true) : callF G fs 64 (k+2) f_is_machine none [d] = .ok (.val (.bl (isMachD d))) none := by
  rw [call_fin (K_is_machine.e_is_machine (G := G)) rfl rfl]
  cases d <;> first | (cases n <;> cases h; done) | skip
  case tup xs =>
    obtain ⟨m, rfl, hl, hx⟩ := pv_tup' h
    match xs, hx with
    | [], _ => simp_all only [F_is_machine]; rfl
    | [a], _ => simp_all only [F_is_machine]; rfl
    | a :: b :: c :: r, _ =>
      have e : (((r.length + 1 + 1 + 1 : Nat) : Int) == 2) = false := by
        rw [beq_eq_false_iff_ne]; omega
      simp_all only [F_is_machine, e]
      rfl
    | [a, b], hx =>
      have ha := pv_pl (hx a (by simp))
      have hb := pv_pl (hx b (by simp))
      have e2 : (((2 : Nat) : Int) == 2) = true := rfl
      cases e : isIntD 1 5 a with
      | false =>
        have e3 : isMachD (.tup [a, b]) = false := by simp only [isMachD, e]; rfl
        simp_all only [F_is_machine, e2, e3, sp_is_int_any k (lo := 1) (hi := 5) ha, e]
      | true =>
        obtain ⟨v, rfl, h1, h2⟩ := isIntD_int e
        have e3 : isMachD (.tup [.int v, b]) = isIntD 1 v b := by simp only [isMachD, e, Bool.true_and]
        simp_all only [F_is_machine, e2, e3, sp_is_int_any k (lo := 1) (hi := 5) ha, sp_is_int_any k (lo := 1) (hi := v) hb, e]
  all_goals (simp_all only [F_is_machine]; rfl)
theorem sp_need_machine_ex [K_need_machine G fs] (k : Nat) {n : Nat} {d : D} (h : pv n d = true) (hb : isMachD d = false) : callF G fs 64 (k+3) f_need_machine none [d] = .ex ⟨x_InvalidMachine, none⟩ := by
  rw [call_fin (K_need_machine.e_need_machine (G := G)) rfl rfl]
  simp_all only [F_need_machine, sp_is_machine_any k h, hb]
def isRowD : D → Bool
  | .str s => rowB s
  | _ => false
theorem str_le {n : Nat} {s : List Nat} (h : pv n (.str s) = true) : s.length ≤ 1000 := by rw [pv_str, decide_eq_true_eq] at h; exact h
def arePrD : D → Bool
  | .str s => pres s
  | _ => false
theorem sp_are_presses_any [K_are_presses G fs] (k : Nat) {n : Nat} {d : D} (h : pv n d = true) : callF G fs 64 (k+1) f_are_presses none [d] = .ok (.val (.bl (arePrD d))) none := by
  cases d <;> first | (cases n <;> cases h; done) | skip
  case str s => exact sp_are_presses k s (le_line (str_le h))
  all_goals
    rw [call_fin (K_are_presses.e_are_presses (G := G)) rfl rfl]
    simp_all only [F_are_presses]
    rfl
theorem sp_is_row_any [K_is_row G fs] (k : Nat) {n : Nat} {d : D} (h : pv n d = true) : callF G fs 64 (k+2) f_is_row none [d] = .ok (.val (.bl (isRowD d))) none := by
  cases d <;> first | (cases n <;> cases h; done) | skip
  case str s => exact sp_is_row k s (le_line (str_le h))
  all_goals
    rw [call_fin (K_is_row.e_is_row (G := G)) rfl rfl]
    simp_all only [F_is_row, sp_are_presses_any k h]
    rfl
theorem sp_need_row_ex [K_need_row G fs] (k : Nat) {n : Nat} {d : D} (h : pv n d = true) (hb : isRowD d = false) : callF G fs 64 (k+3) f_need_row none [d] = .ex ⟨x_InvalidRow, none⟩ := by
  rw [call_fin (K_need_row.e_need_row (G := G)) rfl rfl]
  simp_all only [F_need_row, sp_is_row_any k h, hb]
def isCellD : D → Bool
  | .str s => cellB' s
  | _ => false
theorem sp_is_cell_any [K_is_cell G fs] (k : Nat) {n : Nat} {d : D} (h : pv n d = true) : callF G fs 64 (k+1) f_is_cell none [d] = .ok (.val (.bl (isCellD d))) none := by
  cases d <;> first | (cases n <;> cases h; done) | skip
  case str s => exact sp_is_cell k s (str_le h)
  all_goals
    rw [call_fin (K_is_cell.e_is_cell (G := G)) rfl rfl]
    simp_all only [F_is_cell]
    rfl
/-- the cells of a value, if they are such -/
def cellsOf : List D → Option (List (List Nat))
  | [] => some []
  | .str s :: r => if cellB' s then (cellsOf r).map (s :: ·) else none
  | _ :: _ => none
theorem cellsOf_some : ∀ {xs : List D} {cs : List (List Nat)}, cellsOf xs = some cs → xs = cs.map .str ∧ cs.all cellB' = true
  | [], cs, h => by cases h; exact ⟨rfl, rfl⟩
  | x :: r, cs, h => by
    cases x <;> first | (cases h; done) | skip
    rename_i s
    unfold cellsOf at h
    split at h
    case isFalse => cases h
    rename_i hs
    cases e : cellsOf r with
    | none => rw [e] at h; cases h
    | some z =>
      rw [e] at h
      cases h
      obtain ⟨h1, h2⟩ := cellsOf_some e
      exact ⟨by rw [h1]; rfl, by rw [List.all_cons, hs, h2]; rfl⟩
theorem cellsOf_none : ∀ {xs : List D}, cellsOf xs = none → xs.all isCellD = false
  | [], h => by cases h
  | x :: r, h => by
    cases x <;> first | rfl | skip
    rename_i s
    unfold cellsOf at h
    show (cellB' s && r.all isCellD) = false
    split at h
    · cases e : cellsOf r with
      | none => rw [cellsOf_none e, Bool.and_false]
      | some z => rw [e] at h; cases h
    · rename_i hs
      simp only [Bool.not_eq_true] at hs
      rw [hs]; rfl
theorem cellsOf_map : ∀ {cs : List (List Nat)}, cs.all cellB' = true → cellsOf (cs.map .str) = some cs
  | [], _ => rfl
  | c :: cs, h => by
    rw [List.all_cons, Bool.and_eq_true] at h
    show (if cellB' c then (cellsOf (cs.map .str)).map (c :: ·) else none) = _
    rw [if_pos h.1, cellsOf_map h.2]; rfl
def areCellsD : D → Bool
  | .tup xs => match cellsOf xs with
    | some cs => decide (tot cs ≤ 8)
    | none => false
  | _ => false
theorem sp_are_cells_any [K_are_cells G fs] (k : Nat) {n : Nat} {d : D} (h : pv n d = true) : callF G fs 64 (k+2) f_are_cells none [d] = .ok (.val (.bl (areCellsD d))) none := by
  cases d <;> first | (cases n <;> cases h; done) | skip
  case tup xs =>
    obtain ⟨m, rfl, hl, hx⟩ := pv_tup' h
    cases e : cellsOf xs with
    | some cs =>
      obtain ⟨rfl, h2⟩ := cellsOf_some e
      have hh : ∀ c ∈ cs, c.length ≤ 1000 := fun c hc => str_le (hx (.str c) (List.mem_map_of_mem hc))
      rw [sp_are_cells k cs (by simpa using hl) hh]
      simp only [areCellsD, e, cellsB, h2, Bool.true_and]
    | none =>
      have q := cellsOf_none e
      have qa : ((xs.map isCellD).all id) = false := by rw [List.all_map]; exact q
      rw [call_fin (K_are_cells.e_are_cells (G := G)) rfl rfl]
      simp_all only [F_are_cells]
      conv => lhs; rw [← List.map_id xs]
      rw [lc_one (h := fun d => .bl (isCellD d)) (fun x hx' => ?_) (le_line hl)]
      · simp_all only [allB_map, qa, TY.wipe, areCellsD, e]
      · simp_all only [TY.wipe, id_eq, sp_is_cell_any _ (hx x hx')]
        exact ⟨_, rfl, rfl⟩
  all_goals
    rw [call_fin (K_are_cells.e_are_cells (G := G)) rfl rfl]
    simp_all only [F_are_cells]
    rfl
def lenD : D → Nat
  | .tup xs => xs.length
  | .lst xs => xs.length
  | .str s => s.length
  | _ => 0
def isSheetD (a : Nat) (d : D) : Bool := areCellsD d && (lenD d == a + 1)
theorem areCellsD_tup {d : D} (h : areCellsD d = true) : ∃ cs, d = dS cs ∧ cellsB cs = true := by
  cases d <;> first | (cases h; done) | skip
  rename_i xs
  simp only [areCellsD] at h
  cases e : cellsOf xs with
  | none => rw [e] at h; cases h
  | some cs =>
    rw [e] at h
    obtain ⟨rfl, h2⟩ := cellsOf_some e
    exact ⟨cs, rfl, by unfold cellsB; rw [h2]; exact h⟩
theorem sp_is_sheet_of_any [K_is_sheet_of G fs] (k : Nat) {n a b : Nat} {d : D} (h : pv n d = true) : callF G fs 64 (k+3) f_is_sheet_of none [dM a b, d] = .ok (.val (.bl (isSheetD a d))) none := by
  rw [call_fin (K_is_sheet_of.e_is_sheet_of (G := G)) rfl rfl]
  cases e : areCellsD d with
  | false =>
    have q : isSheetD a d = false := by unfold isSheetD; rw [e]; rfl
    simp_all only [F_is_sheet_of, sp_are_cells_any k h, e, q]
  | true =>
    obtain ⟨cs, rfl, _⟩ := areCellsD_tup e
    have q1 : (((cs.length : Nat) : Int) == (a : Int) + 1) = (cs.length == a + 1) := by rw [Bool.eq_iff_iff]; simp; omega
    have q : isSheetD a (dS cs) = (cs.length == a + 1) := by unfold isSheetD; rw [e]; simp [lenD]
    simp_all only [F_is_sheet_of, sp_are_cells_any k h, e, q, q1, List.length_map]
theorem isSheetD_sh {a : Nat} {d : D} {n : Nat} (hp : pv n d = true) (h : isSheetD a d = true) (a5 : a ≤ 5) : ∃ cs, d = dS cs ∧ Sh a cs := by
  unfold isSheetD at h
  rw [Bool.and_eq_true] at h
  obtain ⟨cs, rfl, hc⟩ := areCellsD_tup h.1
  obtain ⟨m, rfl, h1, h2⟩ := pv_tup' hp
  have hl := h.2
  simp only [lenD, List.length_map, beq_iff_eq] at hl
  exact ⟨cs, rfl, hc, by omega, by omega, fun c hc => str_le (h2 (.str c) (List.mem_map_of_mem hc))⟩
theorem sp_need_sheet_ex [K_need_sheet G fs] (k : Nat) {n a b : Nat} {d : D} (h : pv n d = true) (hb : isSheetD a d = false) : callF G fs 64 (k+4) f_need_sheet none [dM a b, d] = .ex ⟨x_InvalidSheet, none⟩ := by
  rw [call_fin (K_need_sheet.e_need_sheet (G := G)) rfl rfl]
  simp_all only [F_need_sheet, sp_is_sheet_of_any k h, hb]
theorem gMB [KG_MOST_BELLS G] : G.gl g_MOST_BELLS = some (.int 5) := KG_MOST_BELLS.g_MOST_BELLS
def isSightD (a : Nat) : D → Bool
  | .tup [s, b] => isSheetD a s && (isNon b || isIntD 0 5 b)
  | _ => false
theorem sp_is_sight_of_any [K_is_sight_of G fs] (k : Nat) {n a b : Nat} {d : D} (h : pv n d = true) : callF G fs 64 (k+4) f_is_sight_of none [dM a b, d] = .ok (.val (.bl (isSightD a d))) none := by
  rw [call_fin (K_is_sight_of.e_is_sight_of (G := G)) rfl rfl]
  cases d <;> first | (cases n <;> cases h; done) | skip
  case tup xs =>
    obtain ⟨m, rfl, hl, hx⟩ := pv_tup' h
    match xs, hx with
    | [], _ => simp_all only [F_is_sight_of]; rfl
    | [a], _ => simp_all only [F_is_sight_of]; rfl
    | a :: b :: c :: r, _ =>
      have e : (((r.length + 1 + 1 + 1 : Nat) : Int) == 2) = false := by
        rw [beq_eq_false_iff_ne]; omega
      simp_all only [F_is_sight_of, e]
      rfl
    | [s, w], hx =>
      have hs := hx s (by simp)
      have hw := pv_pl (hx w (by simp))
      have e2 : (((2 : Nat) : Int) == 2) = true := rfl
      cases e : isSheetD a s with
      | false =>
        have e3 : isSightD a (.tup [s, w]) = false := by simp only [isSightD, e]; rfl
        simp_all only [F_is_sight_of, e2, e3, sp_is_sheet_of_any (b := b) k hs, e]
      | true =>
        have e3 : isSightD a (.tup [s, w]) = (isNon w || isIntD 0 5 w) := by simp only [isSightD, e, Bool.true_and]
        cases ew : isNon w with
        | true => simp_all only [F_is_sight_of, e2, e3, sp_is_sheet_of_any (b := b) k hs, e, ew]
        | false => simp_all only [F_is_sight_of, e2, e3, sp_is_sheet_of_any (b := b) k hs, sp_is_int_any (k + 2) (lo := 0) (hi := 5) hw, e, ew, gMB]
  all_goals (simp_all only [F_is_sight_of]; rfl)
theorem sp_need_sight_ex [K_need_sight G fs] (k : Nat) {n a b : Nat} {d : D} (h : pv n d = true) (hb : isSightD a d = false) : callF G fs 64 (k+5) f_need_sight none [dM a b, d] = .ex ⟨x_InvalidSight, none⟩ := by
  rw [call_fin (K_need_sight.e_need_sight (G := G)) rfl rfl]
  simp_all only [F_need_sight, sp_is_sight_of_any k h, hb]
theorem sp_need_sight_ok [K_need_sight G fs] (k : Nat) {n a b : Nat} {d : D} (h : pv n d = true) (hb : isSightD a d = true) : callF G fs 64 (k+5) f_need_sight none [dM a b, d] = .ok (.val .non) none := by
  rw [call_fin (K_need_sight.e_need_sight (G := G)) rfl rfl]
  simp_all only [F_need_sight, sp_is_sight_of_any k h, hb]
theorem sp_need_column_ex [K_need_column G fs] (k : Nat) {a b : Nat} {d : D} (h : pl d = true) (hb : isIntD 0 a d = false) : callF G fs 64 (k+2) f_need_column none [dM a b, d] = .ex ⟨x_InvalidColumn, none⟩ := by
  rw [call_fin (K_need_column.e_need_column (G := G)) rfl rfl]
  simp_all only [F_need_column, sp_is_int_any k h, hb]
theorem sp_need_number_ex [K_need_number G fs] (k : Nat) {d : D} (h : pl d = true) (hb : isIntD 0 30 d = false) : callF G fs 64 (k+2) f_need_number none [d] = .ex ⟨x_InvalidNumber, none⟩ := by
  rw [call_fin (K_need_number.e_need_number (G := G)) rfl rfl]
  simp_all only [F_need_number, gM, sp_is_int_any k h, hb]
theorem sp_need_number_ok [K_need_number G fs] (k : Nat) {n : Nat} (hb : n ≤ 30) : callF G fs 64 (k+2) f_need_number none [.int n] = .ok (.val .non) none := by
  rw [call_fin (K_need_number.e_need_number (G := G)) rfl rfl]
  have e : (decide ((0 : Int) ≤ (n : Int)) && decide ((n : Int) ≤ 30)) = true := by rw [Bool.and_eq_true, decide_eq_true_eq, decide_eq_true_eq]; omega
  simp_all only [F_need_number, gM, sp_is_int, e]
theorem sp_need_index_ex [K_need_index G fs] (k : Nat) {d : D} {n : Int} (h : pl d = true) (hb : isIntD 0 (n - 1) d = false) : callF G fs 64 (k+2) f_need_index none [d, .int n] = .ex ⟨x_InvalidIndex, none⟩ := by
  rw [call_fin (K_need_index.e_need_index (G := G)) rfl rfl]
  simp_all only [F_need_index, sp_is_int_any k h, hb]
theorem sp_need_index_ok [K_need_index G fs] (k : Nat) {i n : Nat} (h : i < n) : callF G fs 64 (k+2) f_need_index none [.int i, .int n] = .ok (.val .non) none := by
  rw [call_fin (K_need_index.e_need_index (G := G)) rfl rfl]
  have e : (decide ((0 : Int) ≤ (i : Int)) && decide ((i : Int) ≤ (n : Int) - 1)) = true := by rw [Bool.and_eq_true, decide_eq_true_eq, decide_eq_true_eq]; omega
  simp_all only [F_need_index, sp_is_int, e]
def isPressD : D → Bool
  | .str [c] => PR.elem c
  | _ => false
theorem sp_is_press_any [K_is_press G fs] (k : Nat) {n : Nat} {d : D} (h : pv n d = true) : callF G fs 64 (k+1) f_is_press none [d] = .ok (.val (.bl (isPressD d))) none := by
  rw [call_fin (K_is_press.e_is_press (G := G)) rfl rfl]
  cases d <;> first | (cases n <;> cases h; done) | skip
  case str s =>
    have hl := le_line (str_le h)
    match s, hl with
    | [], _ => simp_all only [F_is_press, (by decide : 0 ≤ line)]; rfl
    | [c], _ =>
      have e : (((1 : Nat) : Int) == 1) = true := rfl
      simp_all only [F_is_press, gP, e]
      rfl
    | a :: b :: r, hl =>
      have e : (((r.length + 1 + 1 : Nat) : Int) == 1) = false := by rw [beq_eq_false_iff_ne]; omega
      have hl : r.length + 1 + 1 ≤ line := hl
      simp_all only [F_is_press, gP, e, hl]
      rfl
  all_goals (simp_all only [F_is_press]; rfl)
theorem sp_need_press_ex [K_need_press G fs] (k : Nat) {n : Nat} {d : D} (h : pv n d = true) (hb : isPressD d = false) : callF G fs 64 (k+2) f_need_press none [d] = .ex ⟨x_InvalidPress, none⟩ := by
  rw [call_fin (K_need_press.e_need_press (G := G)) rfl rfl]
  simp_all only [F_need_press, sp_is_press_any k h, hb]
theorem sp_need_press_ok [K_need_press G fs] (k : Nat) {n : Nat} {d : D} (h : pv n d = true) (hb : isPressD d = true) : callF G fs 64 (k+2) f_need_press none [d] = .ok (.val .non) none := by
  rw [call_fin (K_need_press.e_need_press (G := G)) rfl rfl]
  simp_all only [F_need_press, sp_is_press_any k h, hb]
theorem sp_at_first [K_at_first G fs] (k : Nat) {a b : Nat} {row : List Nat} (m : Mc a b) (hr : rowB row = true) : callF G fs 64 (k + 4) f_at_first none [dM a b, .str row] = .ok (.val (dE (ld a b row (nS (a + 1)) 0 0))) none := by
  have a5 : a ≤ 5 := by have := m.a5; omega
  have hs := nS_sh a5
  have e2 : ((a : Int) + 1).toNat = a + 1 := by omega
  have hl : (nS (a + 1)).length = a + 1 := by simp [nS]
  rw [call_fin (K_at_first.e_at_first (G := G)) rfl rfl]
  have hled := sp_led (G := G) (fs := fs) k (b := b) (rowB_lt hr).1 hl (by omega : 0 < (nS (a + 1)).length) hs.le hs.cl
  have q0 : ((0 : Nat) : Int) = 0 := rfl
  rw [q0] at hled
  simp_all only [F_at_first, sp_blank _ m, e2, hled]
theorem sp_typed [K_typed G fs] (k : Nat) {a b : Nat} {row : List Nat} (m : Mc a b) (hr : rowB row = true) : callF G fs 64 (k + 5) f_typed none [dM a b, .str row] = .ok (.val (dE (ld a b row (nS (a + 1)) 0 0))) none := by
  rw [call_fin (K_typed.e_typed (G := G)) rfl rfl]
  simp_all only [F_typed, sp_need_machine _ m, sp_need_row _ hr, sp_at_first k m hr]
theorem sp_typed_ex [K_typed G fs] (k : Nat) {a b n : Nat} {d : D} (m : Mc a b) (h : pv n d = true) (hb : isRowD d = false) : callF G fs 64 (k + 4) f_typed none [dM a b, d] = .ex ⟨x_InvalidRow, none⟩ := by
  rw [call_fin (K_typed.e_typed (G := G)) rfl rfl]
  simp_all only [F_typed, sp_need_machine _ m, sp_need_row_ex k h hb]
theorem sp_typed_on_ex1 [K_typed_on G fs] (k : Nat) {a b n : Nat} {d s c : D} (m : Mc a b) (h : pv n d = true) (hb : isRowD d = false) : callF G fs 64 (k + 4) f_typed_on none [dM a b, d, s, c] = .ex ⟨x_InvalidRow, none⟩ := by
  rw [call_fin (K_typed_on.e_typed_on (G := G)) rfl rfl]
  simp_all only [F_typed_on, sp_need_machine _ m, sp_need_row_ex k h hb]
theorem sp_typed_on_ex2 [K_typed_on G fs] (k : Nat) {a b n : Nat} {row : List Nat} {s c : D} (m : Mc a b) (hr : rowB row = true) (h : pv n s = true) (hb : isSheetD a s = false) : callF G fs 64 (k + 5) f_typed_on none [dM a b, .str row, s, c] = .ex ⟨x_InvalidSheet, none⟩ := by
  rw [call_fin (K_typed_on.e_typed_on (G := G)) rfl rfl]
  simp_all only [F_typed_on, sp_need_machine _ m, sp_need_row _ hr, sp_need_sheet_ex k h hb]
theorem sp_typed_on_ex3 [K_typed_on G fs] (k : Nat) {a b : Nat} {row : List Nat} {cs : List (List Nat)} {c : D} (m : Mc a b) (hr : rowB row = true) (hs : Sh a cs) (h : pl c = true) (hb : isIntD 0 a c = false) : callF G fs 64 (k + 5) f_typed_on none [dM a b, .str row, dS cs, c] = .ex ⟨x_InvalidColumn, none⟩ := by
  rw [call_fin (K_typed_on.e_typed_on (G := G)) rfl rfl]
  simp_all only [F_typed_on, sp_need_machine _ m, sp_need_row _ hr, sp_need_sheet (b := b) _ hs, sp_need_column_ex (b := b) _ h hb]
theorem tau_et (l : Tau) : l = (List.range l.length).map (getS l) := by
  apply List.ext_getElem?
  intro i
  rw [List.getElem?_map]
  by_cases h : i < l.length
  · rw [List.getElem?_range h, List.getElem?_eq_getElem h, Option.map_some]
    unfold getS
    rw [List.getElem?_eq_getElem h]; rfl
  · rw [List.getElem?_eq_none (by omega), List.getElem?_eq_none (by rw [List.length_range]; omega)]; rfl
end
end TY
namespace TY
local macro_rules | `(tactic| simp_all only [$xs:simpLemma,*]) => `(tactic| simp -implicitDefEqProofs only [exss_nil, exss_cons, cont_nx, cont_brk, cont_ret, x_set, x_unp, x_par, x_seti, x_app, x_ext, x_ex, x_if, x_for, x_while, x_brk, x_ret, x_retn, x_raise, raise0, raise1, par_nil, par_cons, parOp_tmp, parOp_val, parOp_slot, setOs_nil, setOs_cons, setO_0s, setO_1s,
  v_loc, evl_v, evl_o, v_c, v_gl, v_fnv, v_bop, v_cop, v_chn, v_and, v_or, v_not, v_neg, v_ite, v_idx, idxO_v, idxO_t, idxO_s, idxS_v, idxS_l, idxS_ll, v_slc, o_none, o_some, v_rev, v_tup, v_lst, v_dk, v_dn, kv_nil, kv_cons, v_call, v_calli, v_callv, v_blt, v_met, v_get, v_get2, v_pop, v_isi, v_lrng, v_lc, v_lcl, v_lc2, v_dc, v_catch, catch_ok, catch_ex, v_sumv, s_nil', s_cons', os_nil, os_cons, c_nil', c_cons', i_seq', i_rng', i_enum', i_zip', i_enumzip', i_items',
  getM_eq, gMS_o, doCallI_eq, dcI_some, callI_ok, doCall_eq, callN_ok, callN_ex, ret_val, ret_tmp, ret_slot, retS_o, appM_eq, apM_l, extM_eq, exM_l, setM_eq, seM_l, ownL_eq, owL_l, fl1_none, fl1_some, trn, lct, wtst, wtrn, Option.isSome_some,
  bind_ok, bind_ex, bind_no, bind_ite, bd_ok, bd_ex, bd_no, bd_ite, lcEnd_ok, lift_some, lift_none, hold_val, hold_slot, hold_tmp, asB_bl, asI_int, frz_val, frz_tmp, frz_slot, frzS_v, frzS_o, der_slot, derS_v, derS_l, derS_n, derS_k, der_val, der_tmp, ite_tt, ite_ff, obind_some, omap_some,
  getS_zero, getS_succ, isTs, isT, cop, mapD_nil, mapD_cons, Bool.false_eq_true, if_false, if_true, startN, startI, List.map_cons, List.map_nil, List.nil_append, List.cons_append, List.append_nil, List.length_cons, List.length_nil, Nat.reduceAdd, Nat.add_zero, Nat.zero_add, Nat.reduceSub, Nat.sub_self, List.replicate_zero, List.replicate_succ,
  fin_ret, fin_nx, fin_ex, fin_ite, and_ok, or_ok, Bool.or_false, Bool.false_or, Bool.true_or, Bool.or_true, Bool.not_false, Bool.not_true, Bool.and_true, Bool.true_and, Bool.and_false, Bool.false_and, Bool.and_self, Bool.or_self, beq_self_eq_true, Int.cast_ofNat_Int,
  okd_non, okd_bl, okd_int, okd_str, okd_tup50, okd_tup49, okd_tup48, okd_lst50, okd_lst49, okds_nil, okds_cons, eqv_int, eqv_str, eqv_bl, eqv_tup, eqv_lst, item_tup0, item_tup1, blt, Rs.op, le1, le2, le3, le4, le5, addI, subI, addS, addT, addL, mulT, mulL, slcT, slcL, slcS, asS, setO_0v, setO_0t, setO_1v, setO_1t, Bool.toNat_false, Bool.toNat_true, List.length_set, store_t, stores_nil, stores_cons, store_n, store_n1, seqOf_str, seqOf_tup, seqOf_lst, isIn_ch, List.set_cons_zero, List.set_cons_succ, Nat.reduceLT, Nat.reduceLeDiff, Nat.lt_add_one, true_and, and_true, Mu.d, Int.reduceBEq, Int.reduceLT, Int.reduceLE, Int.reduceAdd, Int.reduceSub, Int.reduceNeg, decide_true, decide_false, finI_ret, finI_nx, endC_t, enC_s, ix2_0, ix2_1, item_l0, item_l1, $xs,*])
section
variable {G : Glob} {fs : Nat → Option Fn}
theorem PR_c {c : Nat} (h : PR.elem c = true) : c = 32 ∨ c = 60 ∨ c = 65 ∨ c = 66 ∨ c = 67 ∨ c = 97 ∨ c = 98 ∨ c = 99 := by
  have := List.elem_iff.mp h
  simpa [PR] using this
theorem sp_law_sign [K_law_sign G fs] (k : Nat) {c : Nat} (h : PR.elem c = true) : callF G fs 64 (k+1) f_law_sign none [.str [c]] = .ok (.val (.str (prt c))) none := by
  rw [call_fin (K_law_sign.e_law_sign (G := G)) rfl rfl]
  rcases PR_c h with rfl | rfl | rfl | rfl | rfl | rfl | rfl | rfl <;> rfl
theorem eqii (i j : Nat) : ((i : Int) == (j : Int)) = (i == j) := by rw [Bool.eq_iff_iff]; simp; omega
theorem eqii1 (i j : Nat) : ((i : Int) + 1 == (j : Int)) = (i + 1 == j) := by rw [Bool.eq_iff_iff]; simp; omega
def abcU : D := .lst [.str [65], .str [66], .str [67]]
theorem sp_law_goes [K_law_goes G fs] (k : Nat) (a b col : Nat) {c : Nat} (h : PR.elem c = true) : callF G fs 64 (k+1) f_law_goes none [dM a b, .int col, .str [c]] = .ok (.val (.tup [.int (mvN a b col c).1, .bl (mvN a b col c).2])) none := by
  rw [call_fin (K_law_goes.e_law_goes (G := G)) rfl rfl]
  have i2 : ([c] == [60]) = (c == 60) := by cases h : c == 60 <;> simp_all
  have q1 := eqii col a
  have q2 := eqii1 col b
  unfold mvN
  cases e60 : (c == 60) with
  | true =>
    rw [e60] at i2
    by_cases hp : (0 : Int) < col
    · have hd : decide ((0 : Int) < col) = true := decide_eq_true hp
      simp_all only [F_law_goes, i2, hd]
      have e : (col : Int) - 1 = ((col - 1 : Nat) : Int) := by omega
      rw [e]
    · have hd : decide ((0 : Int) < col) = false := decide_eq_false hp
      simp_all only [F_law_goes, i2, hd]
      have e : col = 0 := by omega
      subst e; rfl
  | false =>
    rw [e60] at i2
    cases eg : gon c with
    | false =>
      have i1 : isIn (D.str [c]) (D.lst [D.str [65], D.str [66], D.str [67]]) = some true := by
        rcases PR_c h with rfl | rfl | rfl | rfl | rfl | rfl | rfl | rfl <;> first | rfl | (exact absurd eg (by decide)) | (exact absurd e60 (by decide))
      simp_all only [F_law_goes, i2, i1]
      all_goals rfl
    | true =>
      have i1 : isIn (D.str [c]) (D.lst [D.str [65], D.str [66], D.str [67]]) = some false := by
        rcases PR_c h with rfl | rfl | rfl | rfl | rfl | rfl | rfl | rfl <;> first | rfl | (exact absurd eg (by decide)) | (exact absurd e60 (by decide))
      cases ea : (col == a) with
      | true =>
        rw [ea] at q1
        simp_all only [F_law_goes, i2, i1, q1, q2]
        all_goals rfl
      | false =>
        rw [ea] at q1
        simp_all only [F_law_goes, i2, i1, q1, q2]
        all_goals rfl
/-- a cell as the law holds it: its signs in the order in which they came -/
def chD (c : Nat) : D := .str [c]
def ins1 (z w : List Nat) : List Nat := match w with
  | [s] => if z.elem s then z else z ++ [s]
  | _ => z
theorem okds_ch : ∀ z : List Nat, okds 50 (z.map chD) = true
  | [] => rfl
  | c :: z => by
    show (okd 50 (chD c) && okds 50 (z.map chD)) = true
    rw [okds_ch z]
    rfl
theorem isIn_chs (s : Nat) (z : List Nat) : isIn (D.str [s]) (D.lst (z.map chD)) = some (z.elem s) := by
  show (if okd 50 (D.str [s]) && okds 50 (z.map chD) then some ((z.map chD).any fun y => eqv y (D.str [s])) else none) = _
  rw [okds_ch]
  show some ((z.map chD).any fun y => eqv y (D.str [s])) = _
  congr 1
  induction z with
  | nil => rfl
  | cons c z ih =>
    show (eqv (chD c) (D.str [s]) || (z.map chD).any fun y => eqv y (D.str [s])) = _
    rw [ih, List.elem_cons]
    have e : eqv (chD c) (D.str [s]) = (s == c) := by
      show ([c] == [s]) = (s == c)
      rw [Bool.eq_iff_iff]
      constructor <;> intro h <;> simp_all
    rw [e]
    cases s == c <;> rfl
theorem prt_c {c : Nat} (h : PR.elem c = true) : prt c = [] ∨ ∃ s, prt c = [s] := by
  rcases PR_c h with rfl | rfl | rfl | rfl | rfl | rfl | rfl | rfl <;> first | exact .inl rfl | exact .inr ⟨_, rfl⟩
/-! ### what is appended to an inner list -/
section
variable {cf : CallF} {wf : Nat} {io : Bool} {t : Tau} {a b : E} {i : Nat}
def llIx (j : Int) : Option Mu → Option Nat
  | some (.ll xss) => ixN xss.length j
  | _ => none
theorem x_app2 : exs G cf wf io (.app2 i a b) t = (ev G cf a t).bd fun x t => (asI x t).bd fun j t => (lift (llIx j (getM t i)) t).bd fun j t => (ev G cf b t).bd fun x t => (frz x t).bd fun d t => (app2M i j d t).bd fun _ t => .ok .nx t := by
  have e : ∀ j : Int, (match getM t i with
      | some (.ll xss) => ixN xss.length j
      | _ => none) = llIx j (getM t i) := fun j => by
    cases getM t i with
    | none => rfl
    | some m => cases m <;> rfl
  rfl
theorem llIx_ll {xss : List (List D)} {j : Int} : llIx j (some (.ll xss)) = ixN xss.length j := rfl
def ap2 (i j : Nat) (v : D) (t : Tau) : Option Mu → Out Unit
  | some (.ll xss) => match xss[j]? with
    | some xs => if xs.length < line then .ok () (t.set i (some (.o (.ll (xss.set j (xs ++ [v])))))) else .no
    | none => .no
  | _ => .no
theorem app2M_eq {j : Nat} {v : D} : app2M i j v t = ap2 i j v t (getM t i) := by
  unfold app2M
  cases getM t i with
  | none => rfl
  | some m => cases m <;> rfl
def derSb (j : Nat) : Option SV → Option D
  | some (.o (.ll xss)) => (xss[j]?).map .lst
  | some (.v (.lst xs)) => xs[j]?
  | _ => none
theorem der_sub {j : Nat} : der t (.sub i j) = derSb j (getS t i) := by
  simp only [der]
  cases getS t i with
  | none => rfl
  | some s => cases s with
    | v d => cases d <;> rfl
    | o m => cases m <;> rfl
theorem derSb_ll {j : Nat} {xss : List (List D)} : derSb j (some (.o (.ll xss))) = (xss[j]?).map .lst := rfl
end
/-- the cells in the law: signs as they came -/
abbrev zD (zs : List (List Nat)) : Mu := .ll (zs.map fun z => z.map chD)
theorem zD_get {zs : List (List Nat)} {col : Nat} (hc : col < zs.length) : ((zs.map fun z => z.map chD)[col]?).map D.lst = some (.lst (zs[col].map chD)) := by
  simp [hc]
theorem ap2_z {i : Nat} {t : Tau} {zs : List (List Nat)} {col s : Nat} (hc : col < zs.length) (hl : zs[col].length ≤ 3) : ap2 i col (.str [s]) t (some (zD zs)) = .ok () (t.set i (some (.o (zD (zs.set col (zs[col] ++ [s])))))) := by
  unfold ap2
  have e : (zs.map fun z => z.map chD)[col]? = some (zs[col].map chD) := by simp [hc]
  simp only [e]
  rw [if_pos (by rw [List.length_map]; exact Nat.lt_of_le_of_lt hl (by decide))]
  have e2 : ((zs.map fun z => z.map chD).set col (zs[col].map chD ++ [D.str [s]])) = (zs.set col (zs[col] ++ [s])).map fun z => z.map chD := by rw [List.map_set, List.map_append]; rfl
  rw [e2]
theorem lt_turn [K_law_typed G fs] (k : Nat) {a b : Nat} {r0 s0 : D} {zs : List (List Nat)} {col c : Nat} {n : Int} {q6 q7 q8 q9 : Option SV} (h : PR.elem c = true) (hc : col < zs.length) (hl : zs[col].length ≤ 3) :
    trn G (callF G fs 64 (k + 1)) 64 false (.n 7) L_law_typed_0 (.str [c]) [some (.v (dM a b)), some (.v r0), some (.v s0), some (.v (.int col)), some (.o (zD zs)), some (.v (.int n)), q6, q7, q8, q9] =
      .ok .nx [some (.v (dM a b)), some (.v r0), some (.v s0), some (.v (.int (mvN a b col c).1)), some (.o (zD (zs.set col (ins1 zs[col] (prt c))))), some (.v (.int (n + bi (mvN a b col c).2))), q6, some (.v (.str [c])), some (.v (.str (prt c))), some (.v (.bl (mvN a b col c).2))] := by
  rcases prt_c h with hp | ⟨s, hp⟩
  · simp_all only [L_law_typed_0, sp_law_sign _ h, sp_law_goes _ _ _ _ h, hp]
    have e : zs.set col (ins1 zs[col] []) = zs := List.set_getElem_self hc
    rw [e]
    rfl
  · have hn : isIn (D.str [s]) (D.lst (zs[col].map chD)) = some (zs[col].elem s) := isIn_chs s _
    have hi : ixN (zs.map fun z => z.map chD).length (col : Int) = some col := ixN_nat (by simpa using hc)
    have hi2 : ixN zs.length (col : Int) = some col := ixN_nat hc
    have hs : (([s] : List Nat) == []) = false := rfl
    have ha : ∀ (i : Nat) (t : Tau), ap2 i col (.str [s]) t (some (zD zs)) = .ok () (t.set i (some (.o (zD (zs.set col (zs[col] ++ [s])))))) := fun i t => ap2_z hc hl
    cases hz : zs[col].elem s
    · have e : zs.set col (ins1 zs[col] [s]) = zs.set col (zs[col] ++ [s]) := by simp only [ins1, hz]; rfl
      simp_all only [L_law_typed_0, sp_law_sign _ h, sp_law_goes _ _ _ _ h, hp, x_app2, llIx_ll, app2M_eq, der_sub, derSb_ll, hi, hi2, zD_get hc, hn, hs, ha, hz, e, List.length_map]
      rfl
    · have e : zs.set col (ins1 zs[col] [s]) = zs := by simp only [ins1, hz]; exact List.set_getElem_self hc
      simp_all only [L_law_typed_0, sp_law_sign _ h, sp_law_goes _ _ _ _ h, hp, der_sub, derSb_ll, hi, hi2, zD_get hc, hn, hs, hz, e, List.length_map]
      rfl
/-- the signs of a cell in the law, in order -/
def norm (z : List Nat) : List Nat := SG.filter fun c => z.elem c
/-- all ways in which a cell can stand in the law -/
def ZS : List (List Nat) := [[], [97], [98], [99], [97, 98], [97, 99], [98, 97], [98, 99], [99, 97], [99, 98], [97, 98, 99], [97, 99, 98], [98, 97, 99], [98, 99, 97], [99, 97, 98], [99, 98, 97]]
theorem ZS_step : ∀ z ∈ ZS, ∀ w ∈ [[], [97], [98], [99]], ins1 z w ∈ ZS ∧ cell1 (norm z) w = norm (ins1 z w) := by decide
theorem ZS_len : ∀ z ∈ ZS, z.length ≤ 3 ∧ sortCh z = norm z := by decide
theorem CELLS_ZS : ∀ z ∈ CELLS, z ∈ ZS ∧ norm z = z := by decide
/-- the law's typist -/
def lz (a b : Nat) : List Nat → List (List Nat) → Nat → Int → List (List Nat) × Nat × Int
  | [], zs, col, n => (zs, col, n)
  | c :: r, zs, col, n => lz a b r (zs.set col (ins1 (zs.getD col []) (prt c))) (mvN a b col c).1 (n + bi (mvN a b col c).2)
theorem lz_ld {a b : Nat} : ∀ (row : List Nat) {zs : List (List Nat)} {col : Nat} {n : Int}, (∀ z ∈ zs, z ∈ ZS) → zs.length = a + 1 → col < zs.length →
    ld a b row (zs.map norm) col n = ((lz a b row zs col n).1.map norm, (lz a b row zs col n).2) ∧ (∀ z ∈ (lz a b row zs col n).1, z ∈ ZS) ∧ (lz a b row zs col n).1.length = a + 1
  | [], zs, col, n, hz, hl, _ => ⟨rfl, hz, hl⟩
  | c :: r, zs, col, n, hz, hl, hc => by
    have hg : zs.getD col [] = zs[col] := by rw [List.getD_eq_getElem?_getD, List.getElem?_eq_getElem hc]; rfl
    have hg2 : (zs.map norm).getD col [] = norm zs[col] := by rw [List.getD_eq_getElem?_getD, List.getElem?_map, List.getElem?_eq_getElem hc]; rfl
    have s := ZS_step _ (hz _ (List.getElem_mem hc)) _ (prt_in c)
    have q := lz_ld (a := a) (b := b) r (zs := zs.set col (ins1 zs[col] (prt c))) (col := (mvN a b col c).1) (n := n + bi (mvN a b col c).2) (fun z h => by
      rcases List.mem_or_eq_of_mem_set h with h | h
      · exact hz z h
      · rw [h]; exact s.1) (by rw [List.length_set]; exact hl) (by rw [List.length_set]; exact mvN_lt hl hc)
    rw [ld, lz, hg, hg2, s.2]
    rw [List.map_set] at q
    exact q
theorem lt_loop [K_law_typed G fs] (k : Nat) {a b : Nat} {r0 s0 : D} : ∀ {row : List Nat} {zs : List (List Nat)} {col : Nat} {n : Int} {q6 q7 q8 q9 : Option SV}, (∀ c ∈ row, PR.elem c = true) → (∀ z ∈ zs, z ∈ ZS) → zs.length = a + 1 → col < zs.length →
    ∃ p6 p7 p8 p9, forL (trn G (callF G fs 64 (k + 1)) 64 false (.n 7) L_law_typed_0) (row.map fun c => .str [c])
      [some (.v (dM a b)), some (.v r0), some (.v s0), some (.v (.int col)), some (.o (zD zs)), some (.v (.int n)), q6, q7, q8, q9] =
      .ok none [some (.v (dM a b)), some (.v r0), some (.v s0), some (.v (.int (lz a b row zs col n).2.1)), some (.o (zD (lz a b row zs col n).1)), some (.v (.int (lz a b row zs col n).2.2)), p6, p7, p8, p9]
  | [], zs, col, n, q6, q7, q8, q9, _, _, _, _ => ⟨q6, q7, q8, q9, rfl⟩
  | c :: r, zs, col, n, q6, q7, q8, q9, hr, hz, hl, hc => by
    have hg : zs.getD col [] = zs[col] := by rw [List.getD_eq_getElem?_getD, List.getElem?_eq_getElem hc]; rfl
    have s := ZS_step _ (hz _ (List.getElem_mem hc)) _ (prt_in c)
    obtain ⟨p6, p7, p8, p9, e⟩ := lt_loop k (a := a) (b := b) (r0 := r0) (s0 := s0) (row := r) (zs := zs.set col (ins1 zs[col] (prt c))) (col := (mvN a b col c).1) (n := n + bi (mvN a b col c).2) (q6 := q6) (q7 := some (.v (.str [c]))) (q8 := some (.v (.str (prt c)))) (q9 := some (.v (.bl (mvN a b col c).2)))
      (fun c' h => hr c' (List.mem_cons_of_mem _ h)) (fun z h => by
      rcases List.mem_or_eq_of_mem_set h with h | h
      · exact hz z h
      · rw [h]; exact s.1) (by rw [List.length_set]; exact hl) (by rw [List.length_set]; exact mvN_lt hl hc)
    refine ⟨p6, p7, p8, p9, ?_⟩
    rw [List.map_cons, forL, lt_turn k (hr c List.mem_cons_self) hc (ZS_len _ (hz _ (List.getElem_mem hc))).1, bind_ok, lz, hg]
    exact e
/-- a comprehension of lists of its own -/
theorem lcl_map {α : Type} {own : List Nat} {f : D → Tau → Out (List (List D))} {L : List α} {g : α → D} {h : α → List D} {τ : Tau} (hf : ∀ a ∈ L, ∃ t', f (g a) (TY.wipe τ own) = .ok [h a] t' ∧ TY.wipe t' own = TY.wipe τ own) (hl : L.length ≤ line) :
    ∃ t', compL own f (L.map g) [] τ = .ok (L.map h) t' ∧ TY.wipe t' own = TY.wipe τ own := by
  have key : ∀ (L : List α) (acc : List (List D)) (τ' : Tau), (∀ a ∈ L, ∃ t', f (g a) (TY.wipe τ own) = .ok [h a] t' ∧ TY.wipe t' own = TY.wipe τ own) → TY.wipe τ' own = TY.wipe τ own → acc.length + L.length ≤ line →
      ∃ t', compL own f (L.map g) acc τ' = .ok (acc ++ L.map h) t' ∧ TY.wipe t' own = TY.wipe τ own := by
    intro L
    induction L with
    | nil => intro acc τ' _ hw _; exact ⟨τ', by simp [compL], hw⟩
    | cons a L ih =>
      intro acc τ' hf hw hl
      obtain ⟨t1, e1, w1⟩ := hf a List.mem_cons_self
      rw [List.length_cons] at hl
      obtain ⟨t', e, w⟩ := ih (acc ++ [h a]) t1 (fun b hb => hf b (List.mem_cons_of_mem _ hb)) w1 (by rw [List.length_append, List.length_singleton]; omega)
      refine ⟨t', ?_, w⟩
      rw [List.map_cons]
      unfold compL
      rw [hw, e1]
      simp only
      rw [if_pos (by rw [List.length_singleton]; omega), e]
      simp
  simpa using key L [] τ hf rfl (by simpa using hl)
theorem ZS_sorted {z : List Nat} (h : z ∈ ZS) : blt .sorted [.lst (z.map chD)] = some (.tmp (.l ((norm z).map fun c => .str [c]))) := by
  simp only [ZS, List.mem_cons, List.not_mem_nil, or_false] at h
  rcases h with rfl | rfl | rfl | rfl | rfl | rfl | rfl | rfl | rfl | rfl | rfl | rfl | rfl | rfl | rfl | rfl <;> rfl
theorem norm_len (z : List Nat) : (norm z).length ≤ line := Nat.le_trans (List.length_filter_le _ _) (by decide)
theorem sp_law_typed [K_law_typed G fs] (k : Nat) {a b : Nat} {row : List Nat} {cs : List (List Nat)} {col : Nat} (hr : rowB row = true) (hz : ∀ z ∈ cs, z ∈ CELLS) (hl : cs.length = a + 1) (a5 : a ≤ 5) (hc : col ≤ a) :
    callF G fs 64 (k + 2) f_law_typed none [dM a b, .str row, dS cs, .int col] = .ok (.val (dE (ld a b row cs col 0))) none := by
  have hzs : ∀ z ∈ cs, z ∈ ZS := fun z h => (CELLS_ZS z (hz z h)).1
  have hn : cs.map norm = cs := by
    conv => rhs; rw [← List.map_id cs]
    exact List.map_congr_left fun z h => (CELLS_ZS z (hz z h)).2
  have hpr : ∀ c ∈ row, PR.elem c = true := by
    unfold rowB pres at hr
    rw [Bool.and_eq_true, List.all_eq_true] at hr
    exact hr.1
  obtain ⟨e1, e2, e3⟩ := lz_ld (a := a) (b := b) row (n := 0) hzs hl (by omega : col < cs.length)
  rw [hn] at e1
  obtain ⟨p6, p7, p8, p9, el⟩ := lt_loop (G := G) (fs := fs) k (a := a) (b := b) (r0 := .str row) (s0 := dS cs) (row := row) (n := 0) (q6 := none) (q7 := none) (q8 := none) (q9 := none) hpr hzs hl (by omega : col < cs.length)
  generalize lz a b row cs col 0 = L at e1 e2 e3 el
  obtain ⟨zs, c', n'⟩ := L
  rw [call_fin (K_law_typed.e_law_typed (G := G)) rfl rfl, e1]
  have hf : ∀ z ∈ cs, ∃ t', lclt G (callF G fs 64 (k + 1)) (.blt .list [(.loc 6)]) (.n 6) [] (.str z) (TY.wipe [some (.v (dM a b)), some (.v (.str row)), some (.v (dS cs)), some (.v (.int col)), none, none, none, none, none, none] [6]) = .ok [z.map chD] t' ∧ TY.wipe t' [6] = TY.wipe [some (.v (dM a b)), some (.v (.str row)), some (.v (dS cs)), some (.v (.int col)), none, none, none, none, none, none] [6] := by
    intro z hz'
    have h3 : z.length ≤ 1000 := Nat.le_trans (cells_ok z (hz z hz')).2 (by decide)
    refine ⟨[some (.v (dM a b)), some (.v (.str row)), some (.v (dS cs)), some (.v (.int col)), none, none, some (.v (.str z)), none, none, none], ?_, rfl⟩
    simp_all only [lclt, TY.wipe, h3]
    rfl
  obtain ⟨t', ei, wi⟩ := lcl_map (own := [6]) hf (le_line (by omega))
  have wi : TY.wipe t' [6] = [some (.v (dM a b)), some (.v (.str row)), some (.v (dS cs)), some (.v (.int col)), none, none, none, none, none, none] := wi
  have e3 : zs.length = a + 1 := e3
  have hl2 : zs.length ≤ line := le_line (by omega)
  have hl3 : ((zs.map norm).map D.str).length ≤ line := le_line (by rw [List.length_map, List.length_map]; omega)
  have em : (zs.map fun z => z.map chD).map D.lst = zs.map (fun z => .lst (z.map chD)) := by rw [List.map_map]; rfl
  simp_all only [F_law_typed, frzS, ei, wi, el, em]
  rw [lc_one (h := fun z => .str (norm z)) (fun z hz' => ?_) hl2]
  · have eq : (zs.map fun z => D.str (norm z)) = (zs.map norm).map D.str := by rw [List.map_map]; rfl
    simp_all only [TY.wipe, eq]
  · have hz2 := e2 z hz'
    have hs := ZS_sorted hz2
    simp only [blt] at hs
    simp_all only [TY.wipe, hs, met_join_ch (norm_len z)]
    refine ⟨[some (.v (dM a b)), some (.v (.str row)), some (.v (dS cs)), some (.v (.int c')), some (.v (.lst (zs.map fun z => .lst (z.map chD)))), some (.v (.int n')), some (.v (.lst (z.map chD))), p7, p8, p9], ?_, rfl⟩
    rfl
end
end TY
namespace TY
def gls : Nat → Option D
  | 0 => some (.str [32, 60, 65, 66, 67, 97, 98, 99])
  | 1 => some (.str [97, 98, 99])
  | 2 => some (.int 30)
  | 3 => some (.int 8)
  | _ => none
def exB (n : Nat) : Bool := n == 1 || n == 2 || n == 3 || n == 5
def G0 : Glob := ⟨gls, kindG exB, exB⟩
def fs : Nat → Option Fn
  | 0 => some F_is_int
  | 1 => some F_is_machine
  | 3 => some F_are_presses
  | 4 => some F_is_row
  | 5 => some F_is_cell
  | 6 => some F_total
  | 7 => some F_are_cells
  | 8 => some F_is_sheet_of
  | 10 => some F_need_machine
  | 11 => some F_need_row
  | 12 => some F_need_sheet
  | 14 => some F_need_column
  | 22 => some F_blank
  | 23 => some F_printed
  | 24 => some F_goes_on
  | 25 => some F_moved
  | 26 => some F_with_mark
  | 27 => some F_led
  | 28 => some F_at_first
  | 29 => some F_typed
  | 30 => some F_typed_on
  | 76 => some F_law_crate
  | 77 => some F_law_dig
  | 78 => some F_law_one_of
  | 79 => some F_law_machine
  | 80 => some F_law_row
  | 81 => some F_law_goes
  | 82 => some F_law_sign
  | 83 => some F_law_typed
  | 84 => some F_law_blank
  | 85 => some F_law_at_first
  | 87 => some F_law_sheet
  | 90 => some F_law_k02
  | _ => none
/-- .. without the law's own def: what is called -/
def fb : Nat → Option Fn
  | 0 => some F_is_int
  | 1 => some F_is_machine
  | 3 => some F_are_presses
  | 4 => some F_is_row
  | 5 => some F_is_cell
  | 6 => some F_total
  | 7 => some F_are_cells
  | 8 => some F_is_sheet_of
  | 10 => some F_need_machine
  | 11 => some F_need_row
  | 12 => some F_need_sheet
  | 14 => some F_need_column
  | 22 => some F_blank
  | 23 => some F_printed
  | 24 => some F_goes_on
  | 25 => some F_moved
  | 26 => some F_with_mark
  | 27 => some F_led
  | 28 => some F_at_first
  | 29 => some F_typed
  | 30 => some F_typed_on
  | 76 => some F_law_crate
  | 77 => some F_law_dig
  | 78 => some F_law_one_of
  | 79 => some F_law_machine
  | 80 => some F_law_row
  | 81 => some F_law_goes
  | 82 => some F_law_sign
  | 83 => some F_law_typed
  | 84 => some F_law_blank
  | 85 => some F_law_at_first
  | 87 => some F_law_sheet
  | _ => none
instance i_law : K_law_k02 G0 fs := {}
end TY
namespace TY
local macro_rules | `(tactic| simp_all only [$xs:simpLemma,*]) => `(tactic| simp -implicitDefEqProofs only [exss_nil, exss_cons, cont_nx, cont_brk, cont_ret, x_set, x_unp, x_par, x_seti, x_app, x_ext, x_ex, x_if, x_for, x_while, x_brk, x_ret, x_retn, x_raise, raise0, raise1, par_nil, par_cons, parOp_tmp, parOp_val, parOp_slot, setOs_nil, setOs_cons, setO_0s, setO_1s,
  v_loc, evl_v, evl_o, v_c, v_gl, v_fnv, v_bop, v_cop, v_chn, v_and, v_or, v_not, v_neg, v_ite, v_idx, idxO_v, idxO_t, idxO_s, idxS_v, idxS_l, idxS_ll, v_slc, o_none, o_some, v_rev, v_tup, v_lst, v_dk, v_dn, kv_nil, kv_cons, v_call, v_calli, v_callv, v_blt, v_met, v_get, v_get2, v_pop, v_isi, v_lrng, v_lc, v_lcl, v_lc2, v_dc, v_catch, catch_ok, catch_ex, v_sumv, s_nil', s_cons', os_nil, os_cons, c_nil', c_cons', i_seq', i_rng', i_enum', i_zip', i_enumzip', i_items',
  getM_eq, gMS_o, doCallI_eq, dcI_some, callI_ok, doCall_eq, callN_ok, callN_ex, ret_val, ret_tmp, ret_slot, retS_o, appM_eq, apM_l, extM_eq, exM_l, setM_eq, seM_l, ownL_eq, owL_l, fl1_none, fl1_some, trn, lct, wtst, wtrn, Option.isSome_some,
  bind_ok, bind_ex, bind_no, bind_ite, bd_ok, bd_ex, bd_no, bd_ite, lcEnd_ok, lift_some, lift_none, hold_val, hold_slot, hold_tmp, asB_bl, asI_int, frz_val, frz_tmp, frz_slot, frzS_v, frzS_o, der_slot, derS_v, derS_l, derS_n, derS_k, der_val, der_tmp, ite_tt, ite_ff, obind_some, omap_some,
  getS_zero, getS_succ, isTs, isT, cop, mapD_nil, mapD_cons, Bool.false_eq_true, if_false, if_true, startN, startI, List.map_cons, List.map_nil, List.nil_append, List.cons_append, List.append_nil, List.length_cons, List.length_nil, Nat.reduceAdd, Nat.add_zero, Nat.zero_add, Nat.reduceSub, Nat.sub_self, List.replicate_zero, List.replicate_succ,
  fin_ret, fin_nx, fin_ex, fin_ite, and_ok, or_ok, Bool.or_false, Bool.false_or, Bool.true_or, Bool.or_true, Bool.not_false, Bool.not_true, Bool.and_true, Bool.true_and, Bool.and_false, Bool.false_and, Bool.and_self, Bool.or_self, beq_self_eq_true, Int.cast_ofNat_Int,
  okd_non, okd_bl, okd_int, okd_str, okd_tup50, okd_tup49, okd_tup48, okd_lst50, okd_lst49, okds_nil, okds_cons, eqv_int, eqv_str, eqv_bl, eqv_tup, eqv_lst, item_tup0, item_tup1, blt, Rs.op, le1, le2, le3, le4, le5, addI, subI, addS, addT, addL, mulT, mulL, slcT, slcL, slcS, asS, setO_0v, setO_0t, setO_1v, setO_1t, Bool.toNat_false, Bool.toNat_true, List.length_set, store_t, stores_nil, stores_cons, store_n, store_n1, seqOf_str, seqOf_tup, seqOf_lst, isIn_ch, List.set_cons_zero, List.set_cons_succ, Nat.reduceLT, Nat.reduceLeDiff, Nat.lt_add_one, true_and, and_true, Mu.d, Int.reduceBEq, Int.reduceLT, Int.reduceLE, Int.reduceAdd, Int.reduceSub, Int.reduceNeg, decide_true, decide_false, finI_ret, finI_nx, endC_t, enC_s, ix2_0, ix2_1, item_l0, item_l1, $xs,*])
section
variable {G : Glob} {fs : Nat → Option Fn}
theorem sp_law_at_first [K_law_at_first G fs] (k : Nat) {a b : Nat} {row : List Nat} (m : Mc a b) (hr : rowB row = true) : callF G fs 64 (k + 3) f_law_at_first none [dM a b, .str row] = .ok (.val (dE (ld a b row (nS (a + 1)) 0 0))) none := by
  have a5 : a ≤ 5 := by have := m.a5; omega
  have e2 : ((a : Int) + 1).toNat = a + 1 := by omega
  have h := sp_law_typed (G := G) (fs := fs) k (b := b) (col := 0) hr (nS_CELLS (a + 1)) (by simp [nS] : (nS (a + 1)).length = a + 1) a5 (Nat.zero_le a)
  have q0 : ((0 : Nat) : Int) = 0 := rfl
  rw [q0] at h
  rw [call_fin (K_law_at_first.e_law_at_first (G := G)) rfl rfl]
  simp_all only [F_law_at_first, sp_law_blank _ m, e2, h]
theorem eqv_dE_self (x : List (List Nat) × Nat × Int) : eqv (dE x) (dE x) = true := by rw [eqv_dE]; simp
abbrev t02 (ns : List Int) (kk : D) (x y : Int) (a b : Nat) (q4 q5 q6 q7 q8 : Option SV) : Tau := [some (.v (.scr ns)), some (.v kk), some (.o (crM x y)), some (.v (dM a b)), q4, q5, q6, q7, q8]
theorem k02_turn [K_law_k02 G fs] (k : Nat) {ns : List Int} {kk : D} {x y : Int} {a b : Nat} {q4 q5 q6 q7 q8 : Option SV} {d : D} (c : Cr x y) (m : Mc a b) :
    ∃ x' y' row cs q7', trn G (callF G fs 64 (k + 6)) 64 false (.n 4) L_law_k02_1 d (t02 ns kk x y a b q4 q5 q6 q7 q8) = .ok .nx (t02 ns kk x' y' a b (some (.v d)) (some (.v (.str row))) (some (.v (dS cs))) q7' q8) ∧ Cr x' y' ∧ rowB row = true ∧ Sh a cs ∧ cs.length = a + 1 := by
  have a5 : a ≤ 5 := by have := m.a5; omega
  obtain ⟨row, x1, y1, e1, c1, hr, _⟩ := sp_law_row (G := G) (fs := fs) (k + 3) (n := 30) c (by decide)
  obtain ⟨cs, x2, y2, e2, c2, hs, hl, hc, _⟩ := sp_law_sheet (G := G) (fs := fs) (k + 3) (n := 8) c1 m (by decide)
  have q30 : ((30 : Nat) : Int) = 30 := rfl
  have q8' : ((8 : Nat) : Int) = 8 := rfl
  rw [q30] at e1
  rw [q8'] at e2
  have ea : ((a : Int) + 1) = ((a + 1 : Nat) : Int) := by omega
  have hf : Ok (forL (trn G (callF G fs 64 (k + 6)) 64 false (.n 7) L_law_k02_0) ((List.range (a + 1)).map fun (i : Nat) => D.int i) (t02 ns kk x2 y2 a b (some (.v d)) (some (.v (.str row))) (some (.v (dS cs))) q7 q8))
      (fun o t => o = none ∧ ∃ q7', t = t02 ns kk x2 y2 a b (some (.v d)) (some (.v (.str row))) (some (.v (dS cs))) q7' q8) := by
    refine Ok_for (fun _ t => ∃ q7', t = t02 ns kk x2 y2 a b (some (.v d)) (some (.v (.str row))) (some (.v (dS cs))) q7' q8) ⟨_, rfl⟩ ?_ fun t h => ⟨rfl, h⟩
    rintro pre i post e t ⟨q, rfl⟩
    have hi : i ≤ a := by
      have : i ∈ List.range (a + 1) := by rw [e]; simp
      have := List.mem_range.mp this
      omega
    refine Ok.of (a := .nx) (t := t02 ns kk x2 y2 a b (some (.v d)) (some (.v (.str row))) (some (.v (dS cs))) (some (.v (.int i))) q8) ?_ ⟨_, rfl⟩
    simp_all only [t02, L_law_k02_0, sp_typed_on (k + 1) m hr hs hi, sp_law_typed (k + 4) hr hc hl a5 hi, okds48, okds47, eqvs_dE, decide_true]
  obtain ⟨o, t, e3, rfl, q7', rfl⟩ := hf.ex
  refine ⟨x2, y2, row, cs, q7', ?_, c2, hr, hs, hl⟩
  simp_all only [t02, L_law_k02_1, e1, e2, sp_typed (k + 1) m hr, sp_law_at_first (k + 3) m hr, okds48, okds47, eqvs_dE, decide_true, ea, rng1 (by omega : a + 1 ≤ 1000), e3]
theorem kd2 : G0.kinds ⟨2, none⟩ = some [.str [73, 110, 118, 97, 108, 105, 100, 82, 111, 119, 32, 43]] := rfl
theorem kd3 : G0.kinds ⟨3, none⟩ = some [.str [73, 110, 118, 97, 108, 105, 100, 83, 104, 101, 101, 116, 32, 43]] := rfl
theorem kd5 : G0.kinds ⟨5, none⟩ = some [.str [73, 110, 118, 97, 108, 105, 100, 67, 111, 108, 117, 109, 110, 32, 43]] := rfl
theorem eqvs_one (a b : D) : eqvs [a] [b] = eqv a b := by simp [eqvs]
theorem k02_bad2 (k : Nat) {ns : List Int} {kk d : D} {x y : Int} {a b : Nat} {q4 q5 q6 q7 q8 : Option SV} (m : Mc a b) (hp : pv 50 d = true) (hb : isRowD d = false) :
    trn G0 (callF G0 TY.fs 64 (k + 6)) 64 false (.n 8) L_law_k02_2 d (t02 ns kk x y a b q4 q5 q6 q7 q8) = .ok .nx (t02 ns kk x y a b q4 q5 q6 q7 (some (.v d))) := by
  simp_all only [t02, L_law_k02_2, sp_typed_ex (k + 2) m hp hb, sp_typed_on_ex1 (k + 2) m hp hb, kd2, eqvs_one]
theorem k02_bad3 (k : Nat) {ns : List Int} {kk d : D} {x y : Int} {a b : Nat} {q4 q6 q7 q8 : Option SV} {row : List Nat} (m : Mc a b) (hr : rowB row = true) (hp : pv 50 d = true) (hb : isSheetD a d = false) :
    trn G0 (callF G0 TY.fs 64 (k + 6)) 64 false (.n 8) L_law_k02_3 d (t02 ns kk x y a b q4 (some (.v (.str row))) q6 q7 q8) = .ok .nx (t02 ns kk x y a b q4 (some (.v (.str row))) q6 q7 (some (.v d))) := by
  simp_all only [t02, L_law_k02_3, sp_typed_on_ex2 (k + 1) m hr hp hb, kd3, eqvs_one]
theorem k02_bad4 (k : Nat) {ns : List Int} {kk d : D} {x y : Int} {a b : Nat} {q4 q7 q8 : Option SV} {row : List Nat} {cs : List (List Nat)} (m : Mc a b) (hr : rowB row = true) (hs : Sh a cs) (hp : pl d = true) (hb : isIntD 0 a d = false) :
    trn G0 (callF G0 TY.fs 64 (k + 6)) 64 false (.n 8) L_law_k02_4 d (t02 ns kk x y a b q4 (some (.v (.str row))) (some (.v (dS cs))) q7 q8) = .ok .nx (t02 ns kk x y a b q4 (some (.v (.str row))) (some (.v (dS cs))) q7 (some (.v d))) := by
  simp_all only [t02, L_law_k02_4, sp_typed_on_ex3 (k + 1) m hr hs hp hb, kd5, eqvs_one]
def a31 : List Nat := List.replicate 31 97
def baS (n : Nat) : List (List Nat) := List.replicate n [98, 97]
theorem mulA : bop .mul (.str [97]) (.int 31) = some (.val (.str a31)) := rfl
theorem mulBa {n : Nat} (h : 2 ≤ n ∧ n ≤ 1000) : bop .mul (.tup [.str [98, 97]]) (.int n) = some (.val (dS (baS n))) := by
  have e : rep n [D.str [98, 97]] = (List.replicate n [98, 97]).map .str := by
    unfold rep
    induction n with
    | zero => rfl
    | succ n ih =>
      clear h ih
      induction n with
      | zero => rfl
      | succ n ih => rw [List.replicate_succ, List.flatten_cons, ih]; rfl
  rw [mulT, if_pos ⟨by omega, by omega, by simp, by simp⟩, Int.toNat_natCast, e]
  rfl
theorem forL_nx {f : D → Tau → Out Fl} {st : Option SV → Tau} : ∀ {ds : List D} {q : Option SV}, (∀ d ∈ ds, ∀ q, f d (st q) = .ok .nx (st (some (.v d)))) → ∃ q', forL f ds (st q) = .ok none (st q')
  | [], q, _ => ⟨q, rfl⟩
  | d :: ds, q, h => by
    obtain ⟨q', e⟩ := forL_nx (ds := ds) (q := some (.v d)) (fun d' hd q => h d' (List.mem_cons_of_mem _ hd) q)
    exact ⟨q', by rw [forL, h d List.mem_cons_self, bind_ok]; exact e⟩
theorem pv_dS {cs : List (List Nat)} (h : cs.length ≤ 1000) (h2 : ∀ c ∈ cs, c.length ≤ 1000) : pv 50 (dS cs) = true := by
  rw [pv_tup, Bool.and_eq_true, decide_eq_true_eq, pvs_all]
  refine ⟨by simpa using h, fun d hd => ?_⟩
  obtain ⟨c, hc, rfl⟩ := List.mem_map.mp hd
  rw [pv_str, decide_eq_true_eq]
  exact h2 c hc
theorem pv_lS {cs : List (List Nat)} (h : cs.length ≤ 1000) (h2 : ∀ c ∈ cs, c.length ≤ 1000) : pv 50 (.lst (cs.map .str)) = true := by
  rw [pv_lst, Bool.and_eq_true, decide_eq_true_eq, pvs_all]
  refine ⟨by simpa using h, fun d hd => ?_⟩
  obtain ⟨c, hc, rfl⟩ := List.mem_map.mp hd
  rw [pv_str, decide_eq_true_eq]
  exact h2 c hc
theorem isSheetD_len {a : Nat} {cs : List (List Nat)} (h : cs.length ≠ a + 1) : isSheetD a (dS cs) = false := by
  unfold isSheetD
  have : (lenD (dS cs) == a + 1) = false := by rw [beq_eq_false_iff_ne]; simpa [lenD] using h
  rw [this, Bool.and_false]
theorem isSheetD_ba {a n : Nat} (h : 1 ≤ n) : isSheetD a (dS (baS n)) = false := by
  obtain ⟨n, rfl⟩ : ∃ m, n = m + 1 := ⟨n - 1, by omega⟩
  unfold isSheetD
  have : areCellsD (dS (baS (n + 1))) = false := rfl
  rw [this, Bool.false_and]
theorem k02_turn5 (k : Nat) {ns : List Int} {j : Nat} {t : Tau} (hj : j < 64) (hl : t.length = 9) (h0 : getS t 0 = some (.v (.scr ns))) :
    ∃ t', trn G0 (callF G0 TY.fs 64 (k + 6)) 64 false (.n 1) L_law_k02_5 (.int j) t = .ok .nx t' ∧ t'.length = 9 ∧ getS t' 0 = some (.v (.scr ns)) := by
  have et : t = [getS t 0, getS t 1, getS t 2, getS t 3, getS t 4, getS t 5, getS t 6, getS t 7, getS t 8] := (tau_et t).trans (by rw [hl]; rfl)
  rw [h0] at et
  generalize getS t = q at et h0
  subst et
  obtain ⟨x0, y0, e0, c0⟩ := sp_law_crate (G := G0) (fs := TY.fs) (k + 5) (ns := ns) hj
  obtain ⟨a, b, x1, y1, e1, c1, m, a5⟩ := sp_law_machine (G := G0) (fs := TY.fs) (k + 4) (n := 5) c0 (by decide) (by decide)
  have q5' : ((5 : Nat) : Int) = 5 := rfl
  rw [q5'] at e1
  obtain ⟨xa, ya, ra, sa, qa, ta, ca, hra, hsa, hla⟩ := k02_turn (G := G0) (fs := TY.fs) k (ns := ns) (kk := .int j) (q4 := q 4) (q5 := q 5) (q6 := q 6) (q7 := q 7) (q8 := q 8) (d := .int 0) c1 m
  obtain ⟨xb, yb, rb, sb, qb, tb, cb, hrb, hsb, hlb⟩ := k02_turn (G := G0) (fs := TY.fs) k (ns := ns) (kk := .int j) (q4 := some (.v (.int 0))) (q5 := some (.v (.str ra))) (q6 := some (.v (dS sa))) (q7 := qa) (q8 := q 8) (d := .int 1) ca m
  obtain ⟨xc, yc, rc, sc, qc, tc, cc, hrc, hsc, hlc⟩ := k02_turn (G := G0) (fs := TY.fs) k (ns := ns) (kk := .int j) (q4 := some (.v (.int 1))) (q5 := some (.v (.str rb))) (q6 := some (.v (dS sb))) (q7 := qb) (q8 := q 8) (d := .int 2) cb m
  obtain ⟨xd, yd, rd, sd, qd, td, cd, hrd, hsd, hld⟩ := k02_turn (G := G0) (fs := TY.fs) k (ns := ns) (kk := .int j) (q4 := some (.v (.int 2))) (q5 := some (.v (.str rc))) (q6 := some (.v (dS sc))) (q7 := qc) (q8 := q 8) (d := .int 3) cc m
  have r4 : rng [.int 4] = some [.int 0, .int 1, .int 2, .int 3] := rfl
  have f1 : forL (trn G0 (callF G0 TY.fs 64 (k + 6)) 64 false (.n 4) L_law_k02_1) [.int 0, .int 1, .int 2, .int 3] (t02 ns (.int j) x1 y1 a b (q 4) (q 5) (q 6) (q 7) (q 8)) = .ok none (t02 ns (.int j) xd yd a b (some (.v (.int 3))) (some (.v (.str rd))) (some (.v (dS sd))) qd (q 8)) := by
    rw [forL, ta, bind_ok, forL, tb, bind_ok, forL, tc, bind_ok, forL, td, bind_ok, forL]
  obtain ⟨qe, f2⟩ := forL_nx (f := trn G0 (callF G0 TY.fs 64 (k + 6)) 64 false (.n 8) L_law_k02_2) (ds := [.non, .str [100], .lst [.str [97]], .str a31, .tup [.str [97]], .int 5]) (st := t02 ns (.int j) xd yd a b (some (.v (.int 3))) (some (.v (.str rd))) (some (.v (dS sd))) qd) (q := q 8) (fun d hd q => by
    have : pv 50 d = true ∧ isRowD d = false := by
      simp only [List.mem_cons, List.not_mem_nil, or_false] at hd
      rcases hd with rfl | rfl | rfl | rfl | rfl | rfl <;> exact ⟨rfl, rfl⟩
    exact k02_bad2 k m this.1 this.2)
  have hsd1 : pv 50 (dS (sd.drop 1)) = true := pv_dS (by rw [List.length_drop]; have := hsd.le; omega) fun c hc => hsd.cl c (List.mem_of_mem_drop hc)
  have hs3 : ∀ d ∈ [D.non, dS (sd.drop 1), .lst (sd.map .str), dS (baS (a + 1))], pv 50 d = true ∧ isSheetD a d = false := by
    intro d hd
    simp only [List.mem_cons, List.not_mem_nil, or_false] at hd
    rcases hd with rfl | rfl | rfl | rfl
    · exact ⟨rfl, rfl⟩
    · exact ⟨hsd1, isSheetD_len (by rw [List.length_drop]; omega)⟩
    · exact ⟨pv_lS hsd.le hsd.cl, rfl⟩
    · exact ⟨pv_dS (by unfold baS; rw [List.length_replicate]; omega) (fun c hc => by rw [(List.mem_replicate.mp hc).2]; decide), isSheetD_ba (by omega)⟩
  obtain ⟨qf, f3⟩ := forL_nx (f := trn G0 (callF G0 TY.fs 64 (k + 6)) 64 false (.n 8) L_law_k02_3) (ds := [.non, dS (sd.drop 1), .lst (sd.map .str), dS (baS (a + 1))]) (st := t02 ns (.int j) xd yd a b (some (.v (.int 3))) (some (.v (.str rd))) (some (.v (dS sd))) qd) (q := qe) (fun d hd q => k02_bad3 k m hrd (hs3 d hd).1 (hs3 d hd).2)
  have hs4 : ∀ d ∈ [D.non, .int (-1), .int ((a : Int) + 1), .bl true, .str [48]], pl d = true ∧ isIntD 0 a d = false := by
    intro d hd
    simp only [List.mem_cons, List.not_mem_nil, or_false] at hd
    rcases hd with rfl | rfl | rfl | rfl | rfl
    · exact ⟨rfl, rfl⟩
    · exact ⟨rfl, rfl⟩
    · refine ⟨rfl, ?_⟩
      show (decide ((0 : Int) ≤ (a : Int) + 1) && decide ((a : Int) + 1 ≤ a)) = false
      have : decide ((a : Int) + 1 ≤ a) = false := decide_eq_false (by omega)
      rw [this, Bool.and_false]
    · exact ⟨rfl, rfl⟩
    · exact ⟨rfl, rfl⟩
  obtain ⟨qg, f4⟩ := forL_nx (f := trn G0 (callF G0 TY.fs 64 (k + 6)) 64 false (.n 8) L_law_k02_4) (ds := [.non, .int (-1), .int ((a : Int) + 1), .bl true, .str [48]]) (st := t02 ns (.int j) xd yd a b (some (.v (.int 3))) (some (.v (.str rd))) (some (.v (dS sd))) qd) (q := qf) (fun d hd q => k02_bad4 k m hrd hsd (hs4 d hd).1 (hs4 d hd).2)
  have hld' : sd.length = a + 1 := hld
  have cd1 : cut (sd.map D.str) (some (1 : Int)) none = (sd.drop 1).map .str := by
    rw [List.map_drop]; exact cut_drop (j := 1)
  have e6 : (6 ≤ line) = True := eq_true (by decide)
  have h1 := m.b1
  have h2 := m.ba
  have mb := mulBa (n := a + 1) ⟨by omega, by omega⟩
  rw [← hld'] at mb f3
  refine ⟨t02 ns (.int j) xd yd a b (some (.v (.int 3))) (some (.v (.str rd))) (some (.v (dS sd))) qd qg, ?_, rfl, rfl⟩
  simp_all only [t02, L_law_k02_5, e0, e1, r4, f1, mulA, f2, cd1, mb, List.length_map, f3, f4, e6]
theorem law_k02 (k : Nat) (ns : List Int) (hn : ns.length ≤ 63) : callF G0 TY.fs 64 (k + 7) f_law none [.scr ns] = .ok (.val (.bl true)) none := by
  have hf : Ok (forL (trn G0 (callF G0 TY.fs 64 (k + 6)) 64 false (.n 1) L_law_k02_5) ((List.range (max 1 (min 15 ns.length))).map fun (i : Nat) => D.int i) (startT 9 none [.scr ns])) (fun o t => o = none ∧ t.length = 9 ∧ getS t 0 = some (.v (.scr ns))) := by
    refine Ok_for (fun _ t => t.length = 9 ∧ getS t 0 = some (.v (.scr ns))) ⟨rfl, rfl⟩ ?_ fun t h => ⟨rfl, h⟩
    rintro pre i post e t ⟨hl, h0⟩
    have hi : i < 64 := by
      have : i ∈ List.range (max 1 (min 15 ns.length)) := by rw [e]; simp
      have := List.mem_range.mp this
      omega
    obtain ⟨t', e', h⟩ := k02_turn5 k hi hl h0
    exact Ok.of e' h
  obtain ⟨o, t, e, rfl, _, _⟩ := hf.ex
  have es : startT 9 none [.scr ns] = [some (.v (.scr ns)), none, none, none, none, none, none, none, none] := rfl
  rw [es] at e
  have e1 : (if (ns.length : Int) < 15 then (ns.length : Int) else 15) = ((min 15 ns.length : Nat) : Int) := by split <;> omega
  have e2 : (if ((min 15 ns.length : Nat) : Int) > 1 then ((min 15 ns.length : Nat) : Int) else 1) = ((max 1 (min 15 ns.length) : Nat) : Int) := by split <;> omega
  have q2 : callF G0 TY.fs 64 (k + 6) f_typed none [.tup [.int 2, .int 2], .str [97, 98, 60, 60, 32, 32]] = .ok (.val (dE (ld 2 2 [97, 98, 60, 60, 32, 32] (nS 3) 0 0))) none := sp_typed (G := G0) (fs := TY.fs) (k + 1) (a := 2) (b := 2) ⟨by decide, by decide, by decide⟩ rfl
  have q3 : dE (ld 2 2 [97, 98, 60, 60, 32, 32] (nS 3) 0 0) = .tup [dS [[97], [98], []], .int 2, .int 2] := rfl
  have q4 : eqv (.tup [dS [[97], [98], []], .int 2, .int 2]) (.tup [dS [[97], [98], []], .int 2, .int 2]) = true := rfl
  rw [q3] at q2
  rw [call_fin (K_law_k02.e_law_k02 (G := G0)) rfl rfl]
  simp_all only [F_law_k02, e1, e2, rng1 (by omega : max 1 (min 15 ns.length) ≤ 1000), e, q2]
  rfl
theorem law_holds (ns : List Int) (hn : ns.length ≤ 63) : callF G0 TY.fs 64 31 f_law none [.scr ns] = .ok (.val (.bl true)) none := law_k02 24 ns hn
end
end TY
/-! TyC: how a value by value stands in the abstract heap; owned things; what an evaluation leaves as it was. -/
namespace TY
open PySem PySem.Spec PyProof.Rows L2

abbrev sS (s : List Nat) : Str := ⟨s.toArray⟩
/-- a key of a dict with texts for keys -/
def keyK : D → Option Key
  | .str s => some (.inr (sS s))
  | .int i => some (.inl i)
  | _ => none
/-! a tuple as a key -/
mutual
def nk : D → NestedKey
  | .int i => .num i
  | .str s => .text (sS s)
  | .tup xs => .tup (nks xs)
  | _ => .none
termination_by structural d => d
def nks : List D → List NestedKey
  | [] => []
  | x :: xs => nk x :: nks xs
termination_by structural ds => ds
end
/-- a dict whose keys are tuples: its very object; each key, its tuple, its value -/
def DNo (P : Program) (w : World) (a : Addr) (o : Obj) (l : List (NestedKey × Addr × V)) : HO := .ext fun h => h.get? a = some o ∧ (a == sysModules) = false ∧ l.length ≤ sizeLine ∧
  ∃ xs : List (NestedKey × Addr × Value), Paired (fun (p : NestedKey × Addr × V) (q : NestedKey × Addr × Value) => p.1 = q.1 ∧ p.2.1 = q.2.1 ∧ RelV p.2.2 q.2.2) l xs ∧
    ∃ es ep, o.ExactDict ∧ o.data = .dict es ep ∧ es.toList = xs.map (entryOfKey (nestedKind P w)) ∧ (xs.map (·.1)).Nodup
/-- a tuple of the written part -/
def KTup (K : PySem.W.Frag) (a : Addr) (xs : List V) : Prop :=
  ∃ (o : Obj) (its : Array Value) (n : Nat), K.lookup a = some o ∧ o.cls = .type "tuple" ∧ o.data = .seq its n ∧ its.size ≤ sizeLine ∧ Vals xs its.toList

def KLst (K : PySem.W.Frag) (a : Addr) (xs : List V) : Prop :=
  ∃ (o : Obj) (its : Array Value) (n : Nat), K.lookup a = some o ∧ o.cls = .type "list" ∧ o.dict = none ∧ o.data = .seq its n ∧ its.size ≤ sizeLine ∧ Vals xs its.toList

/-- where one stands: the program, the world, the written part, where each def stands, each error class -/
structure Wh where
  P : Program
  w : World
  K : PySem.W.Frag
  fa : Nat → Option Addr
  xa : Nat → Option Addr
  T : List (Addr × Str)
  hx : Option (Addr × Obj × Nat)
abbrev AP := Addr → Prop
/-- tracked, and no table of code objects -/
def Trk (H : Hp) (b : Addr) : Prop := ∃ o, H b = some o ∧ ∀ ps, o ≠ .tbl ps
theorem Trk.no {H : Hp} {b : Addr} (t : Trk H b) (h : H b = none) : False := by
  obtain ⟨o, e, _⟩ := t
  rw [h] at e; cases e
theorem Trk.of {H H' : Hp} {b : Addr} (t : Trk H b) (h : H' b = H b) : Trk H' b := by
  obtain ⟨o, e, n⟩ := t
  exact ⟨o, h.trans e, n⟩
/-- a fact that names its object is not the fact of a code object -/
theorem ext_ne_code {p : Heap → Prop} {a : Addr} {o : Obj} (hp : ∀ h, p h → h.get? a = some o) (c : Addr) (q : Str) : HO.ext p ≠ LamX.CodeO c q := by
  intro z
  unfold LamX.CodeO at z
  have z := HO.ext.inj z
  have key : ∀ v : Value, o = { cls := v, data := .fields #[.none, .str q default] } := fun v => by
    have g : ∀ b, b < c + a + 1 → (Heap.mk (Array.replicate (c + a + 1) { cls := v, data := .fields #[.none, .str q default] }) {}).get? b = some { cls := v, data := .fields #[.none, .str q default] } := fun b hb => by
      unfold Heap.get?
      simp only [Array.getElem?_replicate, if_pos hb]
    have h1 := hp (Heap.mk (Array.replicate (c + a + 1) { cls := v, data := .fields #[.none, .str q default] }) {}) (by rw [z]; exact ⟨_, _, _, g c (Nat.lt_succ_of_le (Nat.le_add_right c a)), rfl, rfl⟩)
    rw [g a (Nat.lt_succ_of_le (Nat.le_add_left a c))] at h1
    exact (Option.some.inj h1).symm
  have e := (key .none).symm.trans (key (.bool true))
  have e := congrArg Obj.cls e
  cases e
theorem dno_ne_code {P : Program} {w : World} {a : Addr} {o : Obj} {l : List (NestedKey × Addr × V)} (c : Addr) (q : Str) : DNo P w a o l ≠ LamX.CodeO c q := ext_ne_code (fun _ h => h.1) c q
/-- what may be written: neither a table nor a code object -/
def Wn (H : Hp) (b : Addr) : Prop := ∀ u, H b = some u → (∀ ps, u ≠ .tbl ps) ∧ ∀ c q, u ≠ LamX.CodeO c q
theorem Wn.none {H : Hp} {b : Addr} (h : H b = none) : Wn H b := fun u e => nomatch h.symm.trans e
theorem Wn.lst {H : Hp} {b : Addr} {vs : List V} (h : H b = some (.lst vs)) : Wn H b := fun u e => by
  rw [h] at e; cases e
  exact ⟨fun ps z => (nomatch z), fun c q z => by unfold LamX.CodeO at z; cases z⟩
theorem Wn.dK {H : Hp} {b : Addr} {vs : List (Key × V)} (h : H b = some (.dK vs)) : Wn H b := fun u e => by
  rw [h] at e; cases e
  exact ⟨fun ps z => (nomatch z), fun c q z => by unfold LamX.CodeO at z; cases z⟩
theorem Wn.dn {H : Hp} {P : Program} {w : World} {a b : Addr} {o : Obj} {l : List (NestedKey × Addr × V)} (h : H b = some (DNo P w a o l)) : Wn H b := fun u e => by
  rw [h] at e; cases e
  exact ⟨fun ps z => (by unfold DNo at z; cases z), fun c q => dno_ne_code c q⟩
theorem tabs_upd {T : List (Addr × Str)} {H : Hp} {p : Addr} {o : HO} (t : LamX.Tabs T H) (w : Wn H p) : LamX.Tabs T (upd H p o) := fun q hq => by
  obtain ⟨ps, h1, h2, h3⟩ := t q hq
  have n1 : q.1 ≠ p := fun z => (w _ (by rw [← z]; exact h1)).1 ps rfl
  refine ⟨ps, by rw [upd_ne n1]; exact h1, h2, fun pos cv hc => ?_⟩
  obtain ⟨c, e1, e2⟩ := h3 pos cv hc
  have n2 : c ≠ p := fun z => (w _ (by rw [← z]; exact e2)).2 _ _ rfl
  exact ⟨c, e1, by rw [upd_ne n2]; exact e2⟩
/-- all that F holds is tracked; the tables of code objects are told -/
structure Tk (Z : Wh) (F : AP) (H : Hp) : Prop where
  t : ∀ b, F b → Trk H b
  tab : LamX.Tabs Z.T H
theorem Tk.no {Z : Wh} {F : AP} {H : Hp} {b : Addr} (t : Tk Z F H) (h : H b = none) : ¬ F b := fun f => (t.t b f).no h
section
variable (Z : Wh) (H : Hp) (F : AP)
mutual
/-- v is d; all that can change and is part of it lies in F -/
def Rp : V → D → Prop
  | v, .non => v = .non
  | v, .bl b => v = .bl b
  | v, .int i => v = .int i
  | v, .str s => v = .str (sS s)
  | v, .tup xs => ∃ a vs, v = .ref a ∧ ((F a ∧ Rd H a (.tup vs)) ∨ KTup Z.K a vs) ∧ Rps vs xs
  | v, .lst xs => ∃ a vs, v = .ref a ∧ F a ∧ H a = some (.lst vs) ∧ Rps vs xs
  | v, .dk kvs => ∃ a l, v = .ref a ∧ F a ∧ Rd H a (.dK l) ∧ Rpk l kvs
  | v, .dn kvs => ∃ a o l, v = .ref a ∧ F a ∧ H a = some (DNo Z.P Z.w a o l) ∧ Rpn l kvs
  | v, .fn f => ∃ a, Z.fa f = some a ∧ v = .ref a
  | v, .scr ns => ∃ a, v = .ref a ∧ ((F a ∧ Rd H a (.lst (ns.map V.int))) ∨ KLst Z.K a (ns.map V.int))
  | v, .exc n => ∃ a o, Z.hx = some (a, o, n) ∧ v = .ref a
termination_by structural _ d => d
def Rps : List V → List D → Prop
  | [], [] => True
  | v :: vs, d :: ds => Rp v d ∧ Rps vs ds
  | _, _ => False
termination_by structural _ ds => ds
def Rpk : List (Key × V) → List (D × D) → Prop
  | [], [] => True
  | p :: l, q :: r => Rpk1 p q ∧ Rpk l r
  | _, _ => False
termination_by structural _ r => r
def Rpk1 : Key × V → D × D → Prop
  | p, (k, d) => keyK k = some p.1 ∧ Rp p.2 d
termination_by structural _ q => q
def Rpn : List (NestedKey × Addr × V) → List (D × D) → Prop
  | [], [] => True
  | p :: l, q :: r => Rpn1 p q ∧ Rpn l r
  | _, _ => False
termination_by structural _ r => r
def Rpn1 : NestedKey × Addr × V → D × D → Prop
  | p, (k, d) => p.1 = nk k ∧ okKey k = true ∧ Rp (.ref p.2.1) k ∧ Rp p.2.2 d
termination_by structural _ q => q
end
/-- lists, each owned -/
def Rll : List Addr → List (List D) → Prop
  | [], [] => True
  | a :: as, xs :: xss => (∃ vs, H a = some (.lst vs) ∧ Rps Z H F vs xs) ∧ Rll as xss
  | _, _ => False
/-- v is an owned thing that holds m; its own addresses are bs -/
def RpM (v : V) (bs : List Addr) : Mu → Prop
  | .l xs => ∃ a vs, v = .ref a ∧ bs = [a] ∧ H a = some (.lst vs) ∧ Rps Z H F vs xs
  | .ll xss => ∃ a as, v = .ref a ∧ bs = a :: as ∧ H a = some (.lst (as.map V.ref)) ∧ Rll Z H F as xss
  | .k kvs => ∃ a l, v = .ref a ∧ bs = [a] ∧ H a = some (.dK l) ∧ Rpk Z H F l kvs
  | .n kvs => ∃ a o l, v = .ref a ∧ bs = [a] ∧ H a = some (DNo Z.P Z.w a o l) ∧ Rpn Z H F l kvs
structure Own (v : V) (bs : List Addr) (m : Mu) : Prop where
  rp : RpM Z H F v bs m
  nd : bs.Nodup
  nf : ∀ b ∈ bs, ¬ F b
end

/-! ### what depends on F alone stays -/
structure Stay (F : AP) (H : Hp) (F' : AP) (H' : Hp) : Prop where
  f : ∀ a, F a → F' a
  h : ∀ a, F a → H' a = H a
theorem Stay.refl {F : AP} {H : Hp} : Stay F H F H := ⟨fun _ h => h, fun _ _ => rfl⟩
theorem Stay.trans {F F1 F2 : AP} {H H1 H2 : Hp} (a : Stay F H F1 H1) (b : Stay F1 H1 F2 H2) : Stay F H F2 H2 :=
  ⟨fun x h => b.f x (a.f x h), fun x h => (b.h x (a.f x h)).trans (a.h x h)⟩
section
variable {Z : Wh} {H H' : Hp} {F F' : AP}
theorem Rd.stay {a : Addr} {o : HO} (e : H' a = H a) (h : Rd H a o) : Rd H' a o := by
  rcases h with h | ⟨u, h⟩
  · exact .inl (e.trans h)
  · exact .inr ⟨u, e.trans h⟩
mutual
theorem Rp.stay (s : Stay F H F' H') : ∀ (d : D) (v : V), Rp Z H F v d → Rp Z H' F' v d
  | .non, _, h => h
  | .bl _, _, h => h
  | .int _, _, h => h
  | .str _, _, h => h
  | .fn _, _, h => h
  | .tup xs, _, h => by
    obtain ⟨a, vs, e, h1, h2⟩ := h
    refine ⟨a, vs, e, ?_, Rps.stay s xs vs h2⟩
    rcases h1 with ⟨f, r⟩ | r
    · exact .inl ⟨s.f a f, Rd.stay (s.h a f) r⟩
    · exact .inr r
  | .lst xs, _, h => by
    obtain ⟨a, vs, e, f, r, h2⟩ := h
    exact ⟨a, vs, e, s.f a f, (s.h a f).trans r, Rps.stay s xs vs h2⟩
  | .scr ns, _, h => by
    obtain ⟨a, e, h1⟩ := h
    refine ⟨a, e, ?_⟩
    rcases h1 with ⟨f, r⟩ | r
    · exact .inl ⟨s.f a f, Rd.stay (s.h a f) r⟩
    · exact .inr r
  | .exc _, _, h => h
  | .dk kvs, _, h => by
    obtain ⟨a, l, e, f, r, h2⟩ := h
    exact ⟨a, l, e, s.f a f, Rd.stay (s.h a f) r, Rpk.stay s kvs l h2⟩
  | .dn kvs, _, h => by
    obtain ⟨a, o, l, e, f, r, h2⟩ := h
    exact ⟨a, o, l, e, s.f a f, (s.h a f).trans r, Rpn.stay s kvs l h2⟩
termination_by structural d => d
theorem Rps.stay (s : Stay F H F' H') : ∀ (ds : List D) (vs : List V), Rps Z H F vs ds → Rps Z H' F' vs ds
  | [], [], _ => True.intro
  | _ :: _, [], h => h.elim
  | [], _ :: _, h => h.elim
  | d :: ds, v :: vs, h => ⟨Rp.stay s d v h.1, Rps.stay s ds vs h.2⟩
termination_by structural ds => ds
theorem Rpk.stay (s : Stay F H F' H') : ∀ (ds : List (D × D)) (vs : List (Key × V)), Rpk Z H F vs ds → Rpk Z H' F' vs ds
  | [], [], _ => True.intro
  | _ :: _, [], h => h.elim
  | [], _ :: _, h => h.elim
  | d :: ds, v :: vs, h => ⟨Rpk1.stay s d v h.1, Rpk.stay s ds vs h.2⟩
termination_by structural ds => ds
theorem Rpk1.stay (s : Stay F H F' H') : ∀ (d : D × D) (v : Key × V), Rpk1 Z H F v d → Rpk1 Z H' F' v d
  | (_, d), v, h => ⟨h.1, Rp.stay s d v.2 h.2⟩
termination_by structural d => d
theorem Rpn.stay (s : Stay F H F' H') : ∀ (ds : List (D × D)) (vs : List (NestedKey × Addr × V)), Rpn Z H F vs ds → Rpn Z H' F' vs ds
  | [], [], _ => True.intro
  | _ :: _, [], h => h.elim
  | [], _ :: _, h => h.elim
  | d :: ds, v :: vs, h => ⟨Rpn1.stay s d v h.1, Rpn.stay s ds vs h.2⟩
termination_by structural ds => ds
theorem Rpn1.stay (s : Stay F H F' H') : ∀ (d : D × D) (v : NestedKey × Addr × V), Rpn1 Z H F v d → Rpn1 Z H' F' v d
  | (k, d), v, h => ⟨h.1, h.2.1, Rp.stay s k (.ref v.2.1) h.2.2.1, Rp.stay s d v.2.2 h.2.2.2⟩
termination_by structural d => d
end
theorem Rll.stay (s : Stay F H F' H') : ∀ (as : List Addr) (xss : List (List D)), (∀ a ∈ as, H' a = H a) → Rll Z H F as xss → Rll Z H' F' as xss
  | [], [], _, _ => True.intro
  | _ :: _, [], _, h => h.elim
  | [], _ :: _, _, h => h.elim
  | a :: as, xs :: xss, k, ⟨⟨vs, e, r⟩, h⟩ => ⟨⟨vs, (k a List.mem_cons_self).trans e, Rps.stay s xs vs r⟩, Rll.stay s as xss (fun b hb => k b (List.mem_cons_of_mem _ hb)) h⟩
theorem RpM.stay {v : V} {bs : List Addr} {m : Mu} (s : Stay F H F' H') (k : ∀ b ∈ bs, H' b = H b) (h : RpM Z H F v bs m) : RpM Z H' F' v bs m := by
  cases m with
  | l xs =>
    obtain ⟨a, vs, e, rfl, ha, r⟩ := h
    exact ⟨a, vs, e, rfl, (k a List.mem_cons_self).trans ha, Rps.stay s xs vs r⟩
  | ll xss =>
    obtain ⟨a, as, e, rfl, ha, r⟩ := h
    exact ⟨a, as, e, rfl, (k a List.mem_cons_self).trans ha, Rll.stay s as xss (fun b hb => k b (List.mem_cons_of_mem _ hb)) r⟩
  | k kvs =>
    obtain ⟨a, l, e, rfl, ha, r⟩ := h
    exact ⟨a, l, e, rfl, (k a List.mem_cons_self).trans ha, Rpk.stay s kvs l r⟩
  | n kvs =>
    obtain ⟨a, o, l, e, rfl, ha, r⟩ := h
    exact ⟨a, o, l, e, rfl, (k a List.mem_cons_self).trans ha, Rpn.stay s kvs l r⟩
theorem Rll.trk : ∀ (as : List Addr) (xss : List (List D)), Rll Z H F as xss → ∀ a ∈ as, Trk H a
  | [], _, _ => fun _ h => absurd h (by simp)
  | a :: as, [], h => h.elim
  | a :: as, xs :: xss, ⟨⟨vs, e, _⟩, h⟩ => fun b hb => by
    rcases List.mem_cons.mp hb with rfl | hb
    · exact ⟨_, e, fun ps z => nomatch z⟩
    · exact Rll.trk as xss h b hb
/-- what is owned is tracked -/
theorem RpM.trk {v : V} {bs : List Addr} {m : Mu} (h : RpM Z H F v bs m) : ∀ b ∈ bs, Trk H b := by
  cases m with
  | l xs =>
    obtain ⟨a, vs, e, rfl, ha, r⟩ := h
    intro b hb
    rw [List.mem_singleton.mp hb]
    exact ⟨_, ha, by first | exact fun ps z => nomatch z | (intro ps z; unfold DNo at z; cases z)⟩
  | ll xss =>
    obtain ⟨a, as, e, rfl, ha, r⟩ := h
    intro b hb
    rcases List.mem_cons.mp hb with rfl | hb
    · exact ⟨_, ha, fun ps z => nomatch z⟩
    · exact Rll.trk as xss r b hb
  | k kvs =>
    obtain ⟨a, l, e, rfl, ha, r⟩ := h
    intro b hb
    rw [List.mem_singleton.mp hb]
    exact ⟨_, ha, by first | exact fun ps z => nomatch z | (intro ps z; unfold DNo at z; cases z)⟩
  | n kvs =>
    obtain ⟨a, o, l, e, rfl, ha, r⟩ := h
    intro b hb
    rw [List.mem_singleton.mp hb]
    exact ⟨_, ha, by first | exact fun ps z => nomatch z | (intro ps z; unfold DNo at z; cases z)⟩
theorem Rll.wn : ∀ (as : List Addr) (xss : List (List D)), Rll Z H F as xss → ∀ a ∈ as, Wn H a
  | [], _, _ => fun _ h => absurd h (by simp)
  | a :: as, [], h => h.elim
  | a :: as, xs :: xss, ⟨⟨vs, e, _⟩, h⟩ => fun b hb => by
    rcases List.mem_cons.mp hb with rfl | hb
    · exact .lst e
    · exact Rll.wn as xss h b hb
theorem RpM.wn {v : V} {bs : List Addr} {m : Mu} (h : RpM Z H F v bs m) : ∀ b ∈ bs, Wn H b := by
  cases m with
  | l xs =>
    obtain ⟨a, vs, e, rfl, ha, r⟩ := h
    intro b hb
    rw [List.mem_singleton.mp hb]
    exact .lst ha
  | ll xss =>
    obtain ⟨a, as, e, rfl, ha, r⟩ := h
    intro b hb
    rcases List.mem_cons.mp hb with rfl | hb
    · exact .lst ha
    · exact Rll.wn as xss r b hb
  | k kvs =>
    obtain ⟨a, l, e, rfl, ha, r⟩ := h
    intro b hb
    rw [List.mem_singleton.mp hb]
    exact .dK ha
  | n kvs =>
    obtain ⟨a, o, l, e, rfl, ha, r⟩ := h
    intro b hb
    rw [List.mem_singleton.mp hb]
    exact .dn ha
theorem RpM.ref {v : V} {bs : List Addr} {m : Mu} (h : RpM Z H F v bs m) : ∃ a, v = .ref a ∧ a ∈ bs := by
  cases m with
  | l xs => obtain ⟨a, _, e, rfl, _⟩ := h; exact ⟨a, e, List.mem_cons_self⟩
  | ll xss => obtain ⟨a, _, e, rfl, _⟩ := h; exact ⟨a, e, List.mem_cons_self⟩
  | k kvs => obtain ⟨a, _, e, rfl, _⟩ := h; exact ⟨a, e, List.mem_cons_self⟩
  | n kvs => obtain ⟨a, _, _, e, rfl, _⟩ := h; exact ⟨a, e, List.mem_cons_self⟩
/-- frozen: its addresses come into F -/
theorem Rll.frz : ∀ (as : List Addr) (xss : List (List D)), (∀ a ∈ as, F a) → Rll Z H F as xss → Rps Z H F (as.map V.ref) (xss.map D.lst)
  | [], [], _, _ => True.intro
  | _ :: _, [], _, h => h.elim
  | [], _ :: _, _, h => h.elim
  | a :: as, xs :: xss, k, ⟨⟨vs, e, r⟩, h⟩ => ⟨⟨a, vs, rfl, k a List.mem_cons_self, e, r⟩, Rll.frz as xss (fun b hb => k b (List.mem_cons_of_mem _ hb)) h⟩
theorem RpM.frz {v : V} {bs : List Addr} {m : Mu} (h : RpM Z H F v bs m) (s : ∀ a, F a → F' a) (k : ∀ b ∈ bs, F' b) : Rp Z H F' v m.d := by
  have st : Stay F H F' H := ⟨s, fun _ _ => rfl⟩
  have h := h.stay st fun _ _ => rfl
  cases m with
  | l xs => obtain ⟨a, vs, e, rfl, ha, r⟩ := h; exact ⟨a, vs, e, k a List.mem_cons_self, ha, r⟩
  | ll xss => obtain ⟨a, as, e, rfl, ha, r⟩ := h; exact ⟨a, as.map V.ref, e, k a List.mem_cons_self, ha, Rll.frz as xss (fun b hb => k b (List.mem_cons_of_mem _ hb)) r⟩
  | k kvs => obtain ⟨a, l, e, rfl, ha, r⟩ := h; exact ⟨a, l, e, k a List.mem_cons_self, .inl ha, r⟩
  | n kvs => obtain ⟨a, o, l, e, rfl, ha, r⟩ := h; exact ⟨a, o, l, e, k a List.mem_cons_self, ha, r⟩
end

/-! ### the state -/
/-- what each slot owns -/
abbrev Ow := Nat → List Addr
section
variable (Z : Wh)
structure Rl (F : AP) (O : Ow) (τ : Tau) (σ : L2.St) (H : Hp) : Prop where
  len : σ.length = τ.length
  val : ∀ i d, getS τ i = some (.v d) → ∃ v, σ[i]? = some (some v) ∧ Rp Z H F v d
  own : ∀ i m, getS τ i = some (.o m) → ∃ v, σ[i]? = some (some v) ∧ Own Z H F v (O i) m
  non : ∀ i, (∀ m, getS τ i ≠ some (.o m)) → O i = []
  dis : ∀ i j b, b ∈ O i → b ∈ O j → i = j
  trk : Tk Z F H
end
/-- what an evaluation leaves: F's things as they were; what was tracked, not in F and not owned as it was, and not part of what came (cs) -/
structure Ext (F : AP) (O : Ow) (H : Hp) (F' : AP) (O' : Ow) (H' : Hp) (cs : List Addr) : Prop where
  st : Stay F H F' H'
  rest : ∀ b o, H b = some o → ¬ F b → (∀ i, b ∉ O i) → (hn : ∀ ps, o ≠ .tbl ps := by first | assumption | exact fun ps z => nomatch z) → H' b = some o ∧ ¬ F' b ∧ (∀ i, b ∉ O' i) ∧ b ∉ cs
theorem Ext.refl {F : AP} {O : Ow} {H : Hp} : Ext F O H F O H [] := ⟨.refl, fun b o h1 h2 h3 _ => ⟨h1, h2, h3, by simp⟩⟩
theorem Ext.trans {F F1 F2 : AP} {O O1 O2 : Ow} {H H1 H2 : Hp} {c1 c2 : List Addr} (a : Ext F O H F1 O1 H1 c1) (b : Ext F1 O1 H1 F2 O2 H2 c2) : Ext F O H F2 O2 H2 c2 :=
  ⟨a.st.trans b.st, fun x o h1 h2 h3 h4 => let ⟨g1, g2, g3, _⟩ := a.rest x o h1 h2 h3; b.rest x o g1 g2 g3⟩
theorem Ext.drop {F F1 : AP} {O O1 : Ow} {H H1 : Hp} {c1 : List Addr} (a : Ext F O H F1 O1 H1 c1) : Ext F O H F1 O1 H1 [] :=
  ⟨a.st, fun x o h1 h2 h3 h4 => let ⟨g1, g2, g3, _⟩ := a.rest x o h1 h2 h3; ⟨g1, g2, g3, by simp⟩⟩
/-- only new things came -/
structure New (F : AP) (H : Hp) (F' : AP) (H' : Hp) (cs : List Addr) : Prop where
  f : ∀ a, F a → F' a
  h : ∀ a o, H a = some o → H' a = some o
  n : ∀ a, F' a → F a ∨ H a = none
  c : ∀ a ∈ cs, H a = none
  t : ∀ a, F' a → F a ∨ Trk H' a
theorem New.refl {F : AP} {H : Hp} : New F H F H [] := ⟨fun _ h => h, fun _ _ h => h, fun _ h => .inl h, fun _ h => absurd h (by simp), fun _ h => .inl h⟩
theorem New.stay {Z : Wh} {F F' : AP} {H H' : Hp} {cs : List Addr} (n : New F H F' H' cs) (t : Tk Z F H) : Stay F H F' H' := ⟨n.f, fun a fa => by
  obtain ⟨o, e, _⟩ := t.t a fa
  rw [n.h a o e, e]⟩
theorem New.tk {Z : Wh} {F F' : AP} {H H' : Hp} {cs : List Addr} (n : New F H F' H' cs) (t : Tk Z F H) : Tk Z F' H' := ⟨fun b fb => (n.t b fb).elim (fun z => by
  obtain ⟨o, e, q⟩ := t.t b z
  exact ⟨o, n.h b o e, q⟩) id, t.tab.ext n.h⟩
section
variable {Z : Wh} {F F' : AP} {O : Ow} {τ : Tau} {σ : L2.St} {H H' : Hp} {cs : List Addr}
theorem New.ext (n : New F H F' H' cs) (R : Rl Z F O τ σ H) : Ext F O H F' O H' cs :=
  ⟨n.stay R.trk, fun b o h1 h2 h3 _ => ⟨n.h b o h1, (fun f => (n.n b f).elim h2 (fun z => (nomatch z.symm.trans h1))), h3, (fun z => (nomatch (n.c b z).symm.trans h1))⟩⟩
theorem Rl.ownTrk (R : Rl Z F O τ σ H) {i : Nat} {b : Addr} (hb : b ∈ O i) : Trk H b ∧ ¬ F b := by
  cases e : getS τ i with
  | none => rw [R.non i (fun m z => by rw [e] at z; cases z)] at hb; simp at hb
  | some s =>
    cases s with
    | v d => rw [R.non i (fun m z => by rw [e] at z; cases z)] at hb; simp at hb
    | o m =>
      obtain ⟨v, _, w⟩ := R.own i m e
      exact ⟨w.rp.trk b hb, w.nf b hb⟩
theorem New.rl (n : New F H F' H' cs) (R : Rl Z F O τ σ H) : Rl Z F' O τ σ H' := by
  have st := n.stay R.trk
  refine ⟨R.len, fun i d e => ?_, fun i m e => ?_, R.non, R.dis, n.tk R.trk⟩
  · obtain ⟨v, h1, h2⟩ := R.val i d e
    exact ⟨v, h1, Rp.stay st d v h2⟩
  · obtain ⟨v, h1, w⟩ := R.own i m e
    have k : ∀ b ∈ O i, H' b = H b := fun b hb => by
      obtain ⟨o, q, _⟩ := w.rp.trk b hb
      rw [n.h b o q, q]
    refine ⟨v, h1, w.rp.stay st k, w.nd, fun b hb f => ?_⟩
    rcases n.n b f with z | z
    · exact w.nf b hb z
    · exact (w.rp.trk b hb).no z
end
/-- one new frozen thing -/
theorem New.one {F : AP} {H : Hp} {p : Addr} {o : HO} (hp : H p = none) (hn : ∀ ps, o ≠ .tbl ps := by first | assumption | exact fun ps z => nomatch z | (intro ps z; unfold DNo at z; cases z)) : New F H (fun a => F a ∨ a = p) (upd H p o) [] :=
  ⟨fun _ h => .inl h, fun a u h => by rw [upd_ne (ne_of_none h hp)]; exact h, fun a h => h.elim .inl fun e => .inr (by rw [e]; exact hp), fun _ h => absurd h (by simp), fun a h => h.elim .inl fun e => .inr ⟨o, by rw [e, upd_same], hn⟩⟩
/-- one new owned thing -/
theorem New.tmp {F : AP} {H : Hp} {p : Addr} {o : HO} (hp : H p = none) : New F H F (upd H p o) [p] :=
  ⟨fun _ h => h, fun a u h => by rw [upd_ne (ne_of_none h hp)]; exact h, fun a h => .inl h, fun a h => by rw [List.mem_singleton.mp h]; exact hp, fun a h => .inl h⟩

/-! ### operands -/
section
variable (Z : Wh)
/-- v is the operand x; cs: what it owns as a thing by itself -/
def RpO (F : AP) (τ : Tau) (σ : L2.St) (H : Hp) (v : V) (cs : List Addr) : Op → Prop
  | .val d => cs = [] ∧ Rp Z H F v d
  | .slot i => cs = [] ∧ σ[i]? = some (some v)
  | .sub i j => cs = [] ∧ ∃ a vs, σ[i]? = some (some (.ref a)) ∧ H a = some (.lst vs) ∧ vs[j]? = some v
  | .tmp m => Own Z H F v cs m
/-- v is to be read as d, whoever owns it -/
def Rq (F : AP) (H : Hp) (v : V) : D → Prop
  | .non => v = .non
  | .bl b => v = .bl b
  | .int i => v = .int i
  | .str s => v = .str (sS s)
  | .tup xs => ∃ a vs, v = .ref a ∧ ((F a ∧ Rd H a (.tup vs)) ∨ KTup Z.K a vs) ∧ Rps Z H F vs xs
  | .lst xs => ∃ a vs, v = .ref a ∧ H a = some (.lst vs) ∧ Rps Z H F vs xs
  | .dk kvs => ∃ a l, v = .ref a ∧ Rd H a (.dK l) ∧ Rpk Z H F l kvs
  | .dn kvs => ∃ a o l, v = .ref a ∧ H a = some (DNo Z.P Z.w a o l) ∧ Rpn Z H F l kvs
  | .fn f => ∃ a, Z.fa f = some a ∧ v = .ref a
  | .scr ns => ∃ a, v = .ref a ∧ SqL Z.K H a (ns.map V.int)
  | .exc n => ∃ a o, Z.hx = some (a, o, n) ∧ v = .ref a
end
section
variable {Z : Wh} {F F' : AP} {O O' : Ow} {τ τ' : Tau} {σ : L2.St} {H H' : Hp} {cs : List Addr} {v : V} {d : D}
theorem Rp.rq (h : Rp Z H F v d) : Rq Z F H v d := by
  cases d with
  | non => exact h
  | bl b => exact h
  | int i => exact h
  | str s => exact h
  | fn f => exact h
  | scr ns =>
    obtain ⟨a, e, h1⟩ := h
    exact ⟨a, e, h1.elim (fun z => .inl z.2) .inr⟩
  | exc n => exact h
  | tup xs => exact h
  | lst xs => obtain ⟨a, vs, e, _, h1, h2⟩ := h; exact ⟨a, vs, e, h1, h2⟩
  | dk xs => obtain ⟨a, vs, e, _, h1, h2⟩ := h; exact ⟨a, vs, e, h1, h2⟩
  | dn xs => obtain ⟨a, o, vs, e, _, h1, h2⟩ := h; exact ⟨a, o, vs, e, h1, h2⟩
theorem RpM.rq {bs : List Addr} {m : Mu} (h : RpM Z H F v bs m) (hm : ∀ xss, m ≠ .ll xss) : Rq Z F H v m.d := by
  cases m with
  | l xs => obtain ⟨a, vs, e, _, ha, r⟩ := h; exact ⟨a, vs, e, ha, r⟩
  | ll xss => exact absurd rfl (hm xss)
  | k xs => obtain ⟨a, vs, e, _, ha, r⟩ := h; exact ⟨a, vs, e, .inl ha, r⟩
  | n xs => obtain ⟨a, o, vs, e, _, ha, r⟩ := h; exact ⟨a, o, vs, e, ha, r⟩
theorem Rps.get : ∀ {vs : List V} {ds : List D} {i : Nat} {d : D}, Rps Z H F vs ds → ds[i]? = some d → ∃ v, vs[i]? = some v ∧ Rp Z H F v d
  | [], [], _, _, _, e => by simp at e
  | _ :: _, [], _, _, h, _ => h.elim
  | [], _ :: _, _, _, h, _ => h.elim
  | v :: vs, d :: ds, 0, _, h, e => by
    simp only [List.getElem?_cons_zero, Option.some.injEq] at e
    subst e
    exact ⟨v, rfl, h.1⟩
  | v :: vs, d :: ds, i + 1, _, h, e => by
    simp only [List.getElem?_cons_succ] at e ⊢
    exact Rps.get h.2 e
theorem Rps.len : ∀ {vs : List V} {ds : List D}, Rps Z H F vs ds → vs.length = ds.length
  | [], [], _ => rfl
  | _ :: _, [], h => h.elim
  | [], _ :: _, h => h.elim
  | v :: vs, d :: ds, h => congrArg (· + 1) (Rps.len h.2)
theorem Rll.get : ∀ {as : List Addr} {xss : List (List D)} {i : Nat} {xs : List D}, Rll Z H F as xss → xss[i]? = some xs → ∃ a vs, as[i]? = some a ∧ H a = some (.lst vs) ∧ Rps Z H F vs xs
  | [], [], _, _, _, e => by simp at e
  | _ :: _, [], _, _, h, _ => h.elim
  | [], _ :: _, _, _, h, _ => h.elim
  | a :: as, x :: xss, 0, _, h, e => by
    simp only [List.getElem?_cons_zero, Option.some.injEq] at e
    subst e
    obtain ⟨vs, e1, e2⟩ := h.1
    exact ⟨a, vs, rfl, e1, e2⟩
  | a :: as, x :: xss, i + 1, _, h, e => by
    simp only [List.getElem?_cons_succ] at e ⊢
    exact Rll.get h.2 e
theorem Rll.len : ∀ {as : List Addr} {xss : List (List D)}, Rll Z H F as xss → as.length = xss.length
  | [], [], _ => rfl
  | _ :: _, [], h => h.elim
  | [], _ :: _, h => h.elim
  | a :: as, x :: xss, h => congrArg (· + 1) (Rll.len h.2)
theorem sqT {a : Addr} {vs : List V} (h : (F a ∧ Rd H a (.tup vs)) ∨ KTup Z.K a vs) : SqT Z.K H a vs := h.elim (fun z => .inl z.2) .inr
/-- an operand, read -/
theorem RpO.der {x : Op} (R : Rl Z F O τ σ H) (h : RpO Z F τ σ H v cs x) (e : der τ x = some d) : Rq Z F H v d := by
  cases x with
  | val d' =>
    cases e
    exact h.2.rq
  | tmp m =>
    have w : Own Z H F v cs m := h
    cases m with
    | l xs => cases e; exact w.rp.rq (m := .l xs) (fun _ z => nomatch z)
    | ll xss => cases e
    | k xs => cases e; exact w.rp.rq (m := .k xs) (fun _ z => nomatch z)
    | n xs => cases e; exact w.rp.rq (m := .n xs) (fun _ z => nomatch z)
  | slot i =>
    obtain ⟨_, hv⟩ := h
    unfold TY.der at e
    simp only at e
    split at e
    · rename_i d' q
      cases e
      obtain ⟨u, h1, h2⟩ := R.val i _ q
      rw [hv] at h1; cases h1
      exact h2.rq
    · rename_i xs q
      cases e
      obtain ⟨u, h1, w⟩ := R.own i _ q
      rw [hv] at h1; cases h1
      exact w.rp.rq (m := .l xs) (fun _ z => nomatch z)
    · rename_i xs q
      cases e
      obtain ⟨u, h1, w⟩ := R.own i _ q
      rw [hv] at h1; cases h1
      exact w.rp.rq (m := .k xs) (fun _ z => nomatch z)
    · rename_i xs q
      cases e
      obtain ⟨u, h1, w⟩ := R.own i _ q
      rw [hv] at h1; cases h1
      exact w.rp.rq (m := .n xs) (fun _ z => nomatch z)
    · cases e
  | sub i j =>
    obtain ⟨_, a, vs, hv, hr, hj⟩ := h
    unfold TY.der at e
    simp only at e
    split at e
    · rename_i xss q
      obtain ⟨u, h1, w⟩ := R.own i _ q
      rw [hv] at h1; cases h1
      obtain ⟨b, as, e1, e2, e3, e4⟩ := w.rp
      cases e1
      have hx : vs = as.map V.ref := by
        rw [e3] at hr; cases hr; rfl
      cases q2 : xss[j]? with
      | none => rw [q2] at e; cases e
      | some xs =>
        rw [q2] at e
        cases e
        obtain ⟨b', vs', g1, g2, g3⟩ := Rll.get e4 q2
        rw [hx, List.getElem?_map, g1] at hj
        cases hj
        exact ⟨b', vs', rfl, g2, g3⟩
    · rename_i xs q
      obtain ⟨u, h1, h2⟩ := R.val i _ q
      rw [hv] at h1; cases h1
      obtain ⟨b, ws, e1, _, e3, e4⟩ := h2
      cases e1
      have hx : vs = ws := by
        rw [e3] at hr; cases hr; rfl
      subst hx
      obtain ⟨z, g1, g2⟩ := e4.get e
      rw [g1] at hj; cases hj
      exact g2.rq
    · cases e
/-- an operand waits -/
theorem RpO.carry {x : Op} {c2 : List Addr} (h : RpO Z F τ σ H v cs x) (hh : hold x τ = .ok x τ) (e : Ext F O H F' O' H' c2) (hc : ∀ b ∈ cs, ∀ i, b ∉ O i) : RpO Z F' τ' σ H' v cs x ∧ (∀ b ∈ cs, (∀ i, b ∉ O' i) ∧ b ∉ c2) := by
  cases x with
  | val d' => exact ⟨⟨h.1, h.2.stay e.st⟩, fun b hb => by rw [h.1] at hb; simp at hb⟩
  | slot i => exact ⟨h, fun b hb => by rw [h.1] at hb; simp at hb⟩
  | sub i j => cases hh
  | tmp m =>
    have w : Own Z H F v cs m := h
    have q : ∀ b ∈ cs, H' b = H b ∧ ¬ F' b ∧ (∀ i, b ∉ O' i) ∧ b ∉ c2 := fun b hb => by
      obtain ⟨o, g, hn⟩ := w.rp.trk b hb
      rw [g]
      exact e.rest b o g (w.nf b hb) (hc b hb)
    exact ⟨⟨w.rp.stay e.st fun b hb => (q b hb).1, w.nd, fun b hb => (q b hb).2.1⟩, fun b hb => ⟨(q b hb).2.2.1, (q b hb).2.2.2⟩⟩
end
end TY
/-! TyD: what an evaluation asks, as a reading. -/
namespace TY
open PySem PySem.Spec PyProof.Rows L2

section
variable (Z : Wh)
/-- an exception: its class; its own dict where it has a number -/
def RpX (x : Ex) (cls : Value) (d : Option Addr) (H : Hp) : Prop :=
  ∃ C, Z.xa x.cls = some C ∧ cls = .ref C ∧ match x.pay with
    | none => d = none
    | some n => ∃ dd, d = some dd ∧ H dd = some (.xd [("limit", .int n)])
abbrev RRel (Y α : Type) := AP → Ow → Tau → Hp → Y → List Addr → α → Prop
def rO (σ : L2.St) : RRel V Op := fun F O τ H v cs x => RpO Z F τ σ H v cs x ∧ ∀ b ∈ cs, ∀ i, b ∉ O i
def rDs : RRel (List V) (List D) := fun F _ _ H vs cs ds => cs = [] ∧ Rps Z H F vs ds
def rE (α : Type) : RRel α α := fun _ _ _ _ y cs x => cs = [] ∧ y = x
def Post {Y α : Type} (RR : RRel Y α) (W : WX) (σ : L2.St) (F : AP) (O : Ow) (H : Hp) (out : Out α) (C : Y → Hp → Prop) : Prop := match out with
  | .ok x τ' => ∀ y cs F' O' H', Ext F O H F' O' H' cs → Rl Z F' O' τ' σ H' → RR F' O' τ' H' y cs x → C y H'
  | .ex x τ' => ∀ cls d F' O' H', Ext F O H F' O' H' [] → Rl Z F' O' τ' σ H' → RpX Z x cls d H' → W cls d σ H'
  | .no => False
end
section
variable {Z : Wh} {Y α Y2 β : Type} {RR : RRel Y α} {R2' : RRel Y2 β} {W : WX} {σ : L2.St} {F F' : AP} {O O' : Ow} {H H' : Hp} {τ : Tau}
theorem Post.mono {out : Out α} {C C' : Y → Hp → Prop} (h : Post Z RR W σ F O H out C) (k : ∀ y H, C y H → C' y H) : Post Z RR W σ F O H out C' := by
  cases out with
  | ok x t => exact fun y cs F' O' H' e r q => k y H' (h y cs F' O' H' e r q)
  | ex x t => exact h
  | no => exact h
theorem Post.weak {out : Out α} {cs : List Addr} {C : Y → Hp → Prop} (e : Ext F O H F' O' H' cs) (h : Post Z RR W σ F O H out C) : Post Z RR W σ F' O' H' out C := by
  cases out with
  | ok x t => exact fun y cs F' O' H' e' r q => h y cs F' O' H' (e.trans e') r q
  | ex x t => exact fun cls d F' O' H' e' r q => h cls d F' O' H' (e.trans e') r q
  | no => exact h
theorem Post.bind {out : Out α} {f : α → Tau → Out β} {C : Y2 → Hp → Prop} (h : Post Z R2' W σ F O H (out.bind f) C) :
    Post Z RR W σ F O H out (fun y H1 => ∃ F1 O1 τ1 x cs, Ext F O H F1 O1 H1 cs ∧ Rl Z F1 O1 τ1 σ H1 ∧ RR F1 O1 τ1 H1 y cs x ∧ out = .ok x τ1 ∧ Post Z R2' W σ F O H (f x τ1) C) := by
  cases out with
  | ok x t => exact fun y cs F1 O1 H1 e r q => ⟨F1, O1, t, x, cs, e, r, q, rfl, h⟩
  | ex x t => exact h
  | no => exact h
/-- .. where it is no step of the program: a state that is given -/
theorem Post.lift {γ : Type} {o : Option γ} {f : γ → Tau → Out β} {C : Y2 → Hp → Prop} (h : Post Z R2' W σ F O H ((TY.lift o τ).bind f) C) : ∃ a, o = some a ∧ Post Z R2' W σ F O H (f a τ) C := by
  cases o with
  | none => exact h.elim
  | some a => exact ⟨a, rfl, h⟩
theorem Post.lift0 {o : Option α} {C : Y → Hp → Prop} (h : Post Z RR W σ F O H (TY.lift o τ) C) : ∃ a, o = some a ∧ Post Z RR W σ F O H (.ok a τ) C := by
  cases o with
  | none => exact h.elim
  | some a => exact ⟨a, rfl, h⟩
theorem Post.asB {x : Op} {f : Bool → Tau → Out β} {C : Y2 → Hp → Prop} (h : Post Z R2' W σ F O H ((TY.asB x τ).bind f) C) : ∃ b, x = .val (.bl b) ∧ Post Z R2' W σ F O H (f b τ) C := by
  unfold TY.asB at h
  split at h
  · exact ⟨_, rfl, h⟩
  · exact h.elim
theorem Post.asI {x : Op} {f : Int → Tau → Out β} {C : Y2 → Hp → Prop} (h : Post Z R2' W σ F O H ((TY.asI x τ).bind f) C) : ∃ b, x = .val (.int b) ∧ Post Z R2' W σ F O H (f b τ) C := by
  unfold TY.asI at h
  split at h
  · exact ⟨_, rfl, h⟩
  · exact h.elim
theorem Post.hold {x : Op} {f : Op → Tau → Out β} {C : Y2 → Hp → Prop} (h : Post Z R2' W σ F O H ((TY.hold x τ).bind f) C) : TY.hold x τ = .ok x τ ∧ Post Z R2' W σ F O H (f x τ) C := by
  cases x with
  | sub i j => exact h.elim
  | _ => exact ⟨rfl, h⟩
theorem Post.done {x : α} {C : Y → Hp → Prop} {y : Y} {cs : List Addr} (h : Post Z RR W σ F O H (.ok x τ) C) (R : Rl Z F O τ σ H) (n : New F H F' H' cs) (r : RR F' O τ H' y cs x) : C y H' := h y cs F' O H' (n.ext R) (n.rl R) r
theorem Post.done0 {x : α} {C : Y → Hp → Prop} {y : Y} (h : Post Z RR W σ F O H (.ok x τ) C) (R : Rl Z F O τ σ H) (r : RR F O τ H y [] x) : C y H := h y [] F O H .refl R r
end

theorem getS_set {τ : Tau} {i j : Nat} {s : SV} : getS (τ.set i (some s)) j = if i = j ∧ i < τ.length then some s else getS τ j := by
  unfold getS
  by_cases e : i = j
  · subst e
    by_cases l : i < τ.length
    · rw [List.getElem?_set_self l, if_pos ⟨rfl, l⟩]; rfl
    · rw [if_neg (fun z => l z.2), List.getElem?_eq_none (by simpa using l), List.getElem?_eq_none (by simpa using l)]
  · rw [List.getElem?_set_ne e, if_neg (fun z => e z.1)]
theorem getS_set0 {τ : Tau} {i j : Nat} : getS (τ.set i none) j = if i = j then none else getS τ j := by
  unfold getS
  by_cases e : i = j
  · subst e
    rw [if_pos rfl]
    by_cases l : i < τ.length
    · rw [List.getElem?_set_self l]; rfl
    · rw [List.getElem?_eq_none (by simpa using l)]; rfl
  · rw [List.getElem?_set_ne e, if_neg e]
theorem getS_lt {τ : Tau} {i : Nat} {s : SV} (h : getS τ i = some s) : i < τ.length := by
  unfold getS at h
  by_cases l : i < τ.length
  · exact l
  · rw [List.getElem?_eq_none (by simpa using l)] at h; cases h
/-- a slot's owned things are given up, all else stays -/
def clr (O : Ow) (i : Nat) : Ow := fun j => if j = i then [] else O j
theorem clr_ne {O : Ow} {i j : Nat} (h : j ≠ i) : clr O i j = O j := if_neg h
theorem clr_self {O : Ow} {i : Nat} : clr O i i = [] := if_pos rfl
theorem clr_sub {O : Ow} {i j : Nat} {b : Addr} (h : b ∈ clr O i j) : b ∈ O j ∧ j ≠ i := by
  by_cases e : j = i
  · rw [e, clr_self] at h; simp at h
  · rw [clr_ne e] at h; exact ⟨h, e⟩
section
variable {Z : Wh} {F : AP} {O : Ow} {H : Hp} {τ : Tau} {σ : L2.St}
/-- the slot i is frozen: its own things come into F -/
theorem Rl.freeze {i : Nat} {m : Mu} (R : Rl Z F O τ σ H) (e : getS τ i = some (.o m)) :
    Rl Z (fun a => F a ∨ a ∈ O i) (clr O i) (τ.set i (some (.v m.d))) σ H ∧ Ext F O H (fun a => F a ∨ a ∈ O i) (clr O i) H [] ∧ ∃ v, σ[i]? = some (some v) ∧ Rp Z H (fun a => F a ∨ a ∈ O i) v m.d := by
  have li := getS_lt e
  obtain ⟨v, hv, w⟩ := R.own i m e
  have hr : Rp Z H (fun a => F a ∨ a ∈ O i) v m.d := w.rp.frz (fun _ h => .inl h) fun b hb => .inr hb
  have st : Stay F H (fun a => F a ∨ a ∈ O i) H := ⟨fun _ h => .inl h, fun _ _ => rfl⟩
  refine ⟨⟨by rw [List.length_set]; exact R.len, fun j d q => ?_, fun j m' q => ?_, fun j q => ?_, fun j k b h1 h2 => R.dis j k b (clr_sub h1).1 (clr_sub h2).1, ⟨fun b hb => ?_, R.trk.tab⟩⟩, ⟨st, fun b o h1 h2 h3 _ => ⟨h1, fun z => z.elim h2 (h3 i), fun j z => h3 j (clr_sub z).1, by simp⟩⟩, v, hv, hr⟩
  · rw [getS_set] at q
    split at q
    · rename_i c
      cases q
      rw [← c.1]
      exact ⟨v, hv, hr⟩
    · obtain ⟨u, g1, g2⟩ := R.val j d q
      exact ⟨u, g1, g2.stay st⟩
  · rw [getS_set] at q
    split at q
    · cases q
    · rename_i c
      have ne : j ≠ i := fun z => c ⟨z.symm, li⟩
      obtain ⟨u, g1, g2⟩ := R.own j m' q
      rw [clr_ne ne]
      exact ⟨u, g1, g2.rp.stay st fun _ _ => rfl, g2.nd, fun b hb z => z.elim (g2.nf b hb) fun hi => ne (R.dis j i b hb hi)⟩
  · by_cases ne : j = i
    · rw [ne]; exact clr_self
    · rw [clr_ne ne]
      refine R.non j fun m' z => q m' ?_
      rw [getS_set, if_neg fun z => ne z.1.symm]
      exact z
  · rcases hb with hb | hb
    · exact R.trk.t b hb
    · exact w.rp.trk b hb
/-- giving a value away -/
theorem frz_ok {F0 : AP} {O0 : Ow} {H0 : Hp} {x : Op} {v : V} {cs : List Addr} {d : D} {τ' : Tau} (E : Ext F0 O0 H0 F O H cs) (R : Rl Z F O τ σ H) (r : rO Z σ F O τ H v cs x) (h : TY.frz x τ = .ok d τ') :
    ∃ F' O', Ext F0 O0 H0 F' O' H [] ∧ Rl Z F' O' τ' σ H ∧ Rp Z H F' v d := by
  obtain ⟨r, dis⟩ := r
  cases x with
  | val d' =>
    cases h
    exact ⟨F, O, E.drop, R, r.2⟩
  | tmp m =>
    cases h
    have w : Own Z H F v cs m := r
    have st : Stay F H (fun a => F a ∨ a ∈ cs) H := ⟨fun _ h => .inl h, fun _ _ => rfl⟩
    refine ⟨fun a => F a ∨ a ∈ cs, O, ⟨E.st.trans st, fun b o h1 h2 h3 h4 => ?_⟩, ⟨R.len, fun j d q => ?_, fun j m' q => ?_, R.non, R.dis, ⟨fun b hb => ?_, R.trk.tab⟩⟩, w.rp.frz (fun _ h => .inl h) fun b hb => .inr hb⟩
    · obtain ⟨g1, g2, g3, g4⟩ := E.rest b o h1 h2 h3
      exact ⟨g1, fun z => z.elim g2 g4, g3, by simp⟩
    · obtain ⟨u, g1, g2⟩ := R.val j d q
      exact ⟨u, g1, g2.stay st⟩
    · obtain ⟨u, g1, g2⟩ := R.own j m' q
      exact ⟨u, g1, g2.rp.stay st fun _ _ => rfl, g2.nd, fun b hb z => z.elim (g2.nf b hb) fun hi => dis b hi j hb⟩
    · rcases hb with hb | hb
      · exact R.trk.t b hb
      · exact w.rp.trk b hb
  | slot i =>
    unfold TY.frz at h
    simp only at h
    split at h
    · rename_i d' q
      cases h
      obtain ⟨u, g1, g2⟩ := R.val i _ q
      rw [r.2] at g1; cases g1
      exact ⟨F, O, E.drop, R, g2⟩
    · rename_i m q
      cases h
      obtain ⟨R', E', u, g1, g2⟩ := R.freeze q
      rw [r.2] at g1; cases g1
      exact ⟨_, _, E.trans E', R', g2⟩
    · cases h
  | sub i j =>
    unfold TY.frz at h
    simp only at h
    split at h
    · rename_i xs q
      obtain ⟨_, a, vs, hv, hr, hj⟩ := r
      obtain ⟨u, h1, h2⟩ := R.val i _ q
      rw [hv] at h1; cases h1
      obtain ⟨b, ws, e1, _, e3, e4⟩ := h2
      cases e1
      have hx : vs = ws := by
        rw [e3] at hr; cases hr; rfl
      subst hx
      split at h
      · rename_i d' q2
        cases h
        obtain ⟨z, g1, g2⟩ := e4.get q2
        rw [g1] at hj; cases hj
        exact ⟨F, O, E.drop, R, g2⟩
      · cases h
    · cases h
theorem Post.frz {Y2 β : Type} {R2' : RRel Y2 β} {W : WX} {F0 : AP} {O0 : Ow} {H0 : Hp} {x : Op} {v : V} {cs : List Addr} {f : D → Tau → Out β} {C : Y2 → Hp → Prop} (E : Ext F0 O0 H0 F O H cs) (R : Rl Z F O τ σ H) (r : rO Z σ F O τ H v cs x)
    (h : Post Z R2' W σ F0 O0 H0 ((TY.frz x τ).bind f) C) : ∃ F' O' τ' d, Ext F0 O0 H0 F' O' H [] ∧ Rl Z F' O' τ' σ H ∧ Rp Z H F' v d ∧ TY.frz x τ = .ok d τ' ∧ Post Z R2' W σ F' O' H (f d τ') C := by
  have nx : ∀ e t, TY.frz x τ ≠ .ex e t := fun e t z => by
    unfold TY.frz at z
    split at z <;> first | cases z | (split at z <;> first | cases z | (split at z <;> cases z))
  cases q : TY.frz x τ with
  | ok d t =>
    obtain ⟨F', O', e, r', p⟩ := frz_ok E R r q
    rw [q] at h
    exact ⟨F', O', t, d, e, r', p, rfl, Post.weak e h⟩
  | ex e t => exact absurd q (nx e t)
  | no => rw [q] at h; exact h.elim
end
end TY
/-! TyO: the operators, by values. -/
namespace TY
open PySem PySem.Spec PyProof.Rows L2

theorem line_eq : sizeLine = line := by decide
theorem sS_len (s : List Nat) : (sS s).length = s.length := by show s.toArray.size = s.length; simp
theorem sS_app (a b : List Nat) : sS a ++ sS b = sS (a ++ b) := by
  show (⟨a.toArray ++ b.toArray⟩ : Str) = ⟨(a ++ b).toArray⟩
  congr 1; simp
theorem sS_inj {a b : List Nat} : sS a = sS b ↔ a = b := by
  constructor
  · intro h
    have h2 : a.toArray = b.toArray := congrArg Str.cps h
    simpa using congrArg Array.toList h2
  · intro h; rw [h]
/-- where a context stands -/
structure At0 (Z : Wh) (X : Cx) : Prop where
  p : X.prog = Z.P
  w : X.w = Z.w
  k : X.K = Z.K
  nd : X.N.Nodup
  hu : X.A.units + 70 < cLine
  fn : ∀ f a, Z.fa f = some a → True
/-- .. where no error is handled -/
structure At (Z : Wh) (X : Cx) : Prop extends At0 Z X where
  cm : X.calm = true
instance {Z : Wh} {X : Cx} : Coe (At Z X) (At0 Z X) := ⟨At.toAt0⟩
section
variable {Z : Wh} {X : Cx} {F F' : AP} {H H' : Hp}
theorem Rps.append : ∀ {vs ws : List V} {xs ys : List D}, Rps Z H F vs xs → Rps Z H F ws ys → Rps Z H F (vs ++ ws) (xs ++ ys)
  | [], _, [], _, _, h => h
  | _ :: _, _, [], _, h, _ => h.elim
  | [], _, _ :: _, _, h, _ => h.elim
  | _ :: _, _, _ :: _, _, h, g => ⟨h.1, Rps.append h.2 g⟩
theorem Rps.rep {vs : List V} {xs : List D} (h : Rps Z H F vs xs) : ∀ n : Nat, Rps Z H F (List.replicate n vs).flatten (List.replicate n xs).flatten
  | 0 => True.intro
  | n + 1 => by
    rw [List.replicate_succ, List.replicate_succ, List.flatten_cons, List.flatten_cons]
    exact h.append (Rps.rep h n)
/-- what is given: a value that is new or part of what is given -/
def Gv (Z : Wh) (F : AP) (H : Hp) (r : Op) (Q : VK) : Prop := ∀ v F' H' cs, New F H F' H' cs → RpO Z F' [] [] H' v cs r → Q v H'
theorem Gv.int {i : Int} {Q : VK} (h : Gv Z F H (.val (.int i)) Q) : Q (.int i) H := h _ F H [] .refl ⟨rfl, rfl⟩
theorem Gv.bl {i : Bool} {Q : VK} (h : Gv Z F H (.val (.bl i)) Q) : Q (.bl i) H := h _ F H [] .refl ⟨rfl, rfl⟩
theorem Gv.str {i : List Nat} {Q : VK} (h : Gv Z F H (.val (.str i)) Q) : Q (.str (sS i)) H := h _ F H [] .refl ⟨rfl, rfl⟩
theorem Gv.non {Q : VK} (h : Gv Z F H (.val .non) Q) : Q .non H := h _ F H [] .refl ⟨rfl, rfl⟩
theorem Gv.lst {xs : List D} {vs : List V} {Q : VK} {p : Addr} (t : Tk Z F H) (r : Rps Z H F vs xs) (hp : H p = none) (h : Gv Z F H (.tmp (.l xs)) Q) : Q (.ref p) (upd H p (.lst vs)) :=
  h _ F _ [p] (New.tmp hp) ⟨⟨p, vs, rfl, rfl, upd_same, Rps.stay ((New.tmp (o := .lst vs) hp).stay t) _ _ r⟩, by simp, fun b hb f => by
    rw [List.mem_singleton.mp hb] at f
    exact t.no hp f⟩
theorem Gv.tup {xs : List D} {vs : List V} {Q : VK} {p : Addr} (t : Tk Z F H) (r : Rps Z H F vs xs) (hp : H p = none) (h : Gv Z F H (.val (.tup xs)) Q) : Q (.ref p) (upd H p (.tup vs)) :=
  h _ _ _ [] (New.one hp) ⟨rfl, p, vs, rfl, .inl ⟨.inr rfl, .inl upd_same⟩, Rps.stay ((New.one (o := .tup vs) hp).stay t) _ _ r⟩
theorem SqT.rp {a : Addr} {vs : List V} {xs : List D} (h : (F a ∧ Rd H a (.tup vs)) ∨ KTup Z.K a vs) (r : Rps Z H F vs xs) : Rp Z H F (.ref a) (.tup xs) := ⟨a, vs, rfl, h, r⟩
end

def boA : BO → Operator
  | .add => .Add | .sub => .Sub | .mul => .Mult | .fdiv => .FloorDiv | .mod => .Mod | .pow => .Pow | .bor => .BitOr
def coA : CO → CmpOp
  | .eq => .Eq | .ne => .NotEq | .lt => .Lt | .le => .LtE | .gt => .Gt | .ge => .GtE | .isin => .In | .notin => .NotIn | .isn => .Is | .notn => .IsNot
/-- by values -/
def rB (Z : Wh) (o : BO) : R2 := fun x y H Q => ∃ F d1 d2 r, Tk Z F H ∧ Rq Z F H x d1 ∧ Rq Z F H y d2 ∧ bop o d1 d2 = some r ∧ Gv Z F H r Q
theorem ltbig {i : Int} (h : i.natAbs < big) : i.natAbs < 2 ^ 9000 := h
section
variable {Z : Wh} {X : Cx}
theorem rep_fold (s : List Nat) (n : Nat) : ∀ acc : List Nat, (List.replicate n s.toArray).foldl (· ++ ·) acc.toArray = (acc ++ (List.replicate n s).flatten).toArray := by
  induction n with
  | zero => intro acc; simp
  | succ n ih =>
    intro acc
    rw [List.replicate_succ, List.foldl_cons, List.replicate_succ, List.flatten_cons, ← List.append_assoc, ← ih (acc ++ s)]
    congr 1; simp
theorem str_mul {pins : List (Addr × Obj)} {σ : L2.St} {H : Hp} {s : Shared} {a : List Nat} {n : Int} {t u : Tok} {Q : VK} (I : Inv X pins σ H s) (h0 : 0 ≤ n) (h1 : n ≤ 1000) (h2 : a.length ≤ 1000) (q : Q (.str (sS (rep n.toNat a))) H) :
    wpAny (model X.prog X.w) X.A (binaryOp .Mult (.str (sS a) t) (.int n u)) (EP X pins σ Q) X.xe s := by
  refine SB.mul (x := sS a) ⟨?_, fun k1 k2 => ?_, fun k1 k2 => ?_⟩ fun t' k => ?_
  · rw [Bool.or_eq_false_iff]
    exact ⟨decide_eq_false (by omega), decide_eq_false (by omega)⟩
  · rw [sS_len]
    have m : (a.length : Int) * n ≤ 1000 * 1000 := Int.mul_le_mul (by omega) h1 h0 (by omega)
    have : (a.length : Int) ≤ (2 ^ 63 - 1) / n := Int.le_ediv_of_mul_le (by omega) (by omega)
    omega
  · rw [sS_len]
    unfold Builtin.Str.tooLong
    have : a.length * n.toNat ≤ 1000 * 1000 := Nat.mul_le_mul h2 (by omega)
    have e : sizeLine = 16777216 := line_eq
    exact decide_eq_false (by omega)
  · refine ⟨.str (Txt.mul (sS a) n), H, I.tok k, ⟨t', rfl⟩, ?_⟩
    have e : Txt.mul (sS a) n = sS (rep n.toNat a) := by
      unfold Txt.mul
      by_cases c : n < 1
      · have : n = 0 := by omega
        subst this
        rw [if_pos c]; rfl
      · rw [if_neg c]
        split
        · rename_i g
          rw [Bool.or_eq_true] at g
          rcases g with g | g
          · have : n = 1 := by simpa using g
            subst this
            show sS a = sS (List.replicate 1 a).flatten
            simp
          · have : a.length = 0 := by rw [sS_len] at g; simpa using g
            have := List.eq_nil_of_length_eq_zero this
            subst this
            unfold rep
            simp
        · show (⟨(List.replicate n.toNat a.toArray).foldl (· ++ ·) #[]⟩ : Str) = _
          have := rep_fold a n.toNat []
          rw [List.nil_append] at this
          rw [show (#[] : Array Nat) = ([] : List Nat).toArray from rfl, this]
          rfl
    rw [e]
    exact q
theorem op_b (A : At0 Z X) (o : BO) : OpR X (binaryOp (boA o)) (rB Z o) := by
  intro pins s σ H x y v u Q I rx ry h
  obtain ⟨F, d1, d2, r, t, h1, h2, hb, q⟩ := h
  unfold bop at hb
  split at hb
  · -- int + int
    cases hb
    exact op_add pins s σ H x y v u Q I rx ry ⟨_, _, h1, h2, q.int⟩
  · split at hb
    · rename_i hl
      cases hb
      refine op_add_str pins s σ H x y v u Q I rx ry ⟨_, _, h1, h2, ?_, ?_⟩
      · rw [sS_len, sS_len, line_eq]; exact hl
      · rw [sS_app]; exact q.str
    · cases hb
  · split at hb
    · rename_i hl
      cases hb
      obtain ⟨a, vs, rfl, e1, r1⟩ := h1
      obtain ⟨b, ws, rfl, e2, r2⟩ := h2
      refine op_cat pins s σ H _ _ v u Q I rx ry ⟨a, b, vs, ws, rfl, rfl, e1, e2, ?_, fun p hp => q.lst t (r1.append r2) hp⟩
      rw [r1.len, r2.len, line_eq]; exact hl
    · cases hb
  · split at hb
    · rename_i hl
      cases hb
      obtain ⟨a, vs, rfl, e1, r1⟩ := h1
      obtain ⟨b, ws, rfl, e2, r2⟩ := h2
      refine op_catA pins s σ H _ _ v u Q I rx ry ⟨a, b, vs, ws, rfl, rfl, A.k ▸ sqT e1, A.k ▸ sqT e2, ?_, fun z => ?_, fun z z2 => ?_, fun _ _ p hp => q.tup t (r1.append r2) hp⟩
      · rw [r1.len, r2.len, line_eq]; exact hl
      · subst z
        have z2 := List.eq_nil_of_length_eq_zero r1.len.symm
        subst z2
        exact q _ F H [] .refl ⟨rfl, b, ws, rfl, e2, r2⟩
      · subst z2
        have z3 := List.eq_nil_of_length_eq_zero r2.len.symm
        subst z3
        rw [List.append_nil] at q
        exact q _ F H [] .refl ⟨rfl, a, vs, rfl, e1, r1⟩
    · cases hb
  · cases hb
    exact op_sub pins s σ H x y v u Q I rx ry ⟨_, _, h1, h2, q.int⟩
  · split at hb
    · rename_i hl
      cases hb
      exact op_mulW pins s σ H x y v u Q I rx ry ⟨_, _, h1, h2, wide_mul hl.1 hl.2 (by decide) (by decide) (by decide), q.int⟩
    · cases hb
  · split at hb
    · rename_i hl
      cases hb
      cases h1
      cases h2
      obtain ⟨t1, rfl⟩ := rx
      obtain ⟨t2, rfl⟩ := ry
      exact str_mul I hl.1 hl.2.1 hl.2.2 q.str
    · cases hb
  · split at hb
    · rename_i hl
      cases hb
      obtain ⟨a, vs, rfl, e1, r1⟩ := h1
      cases h2
      refine op_repT pins s σ H _ _ v u Q I rx ry ⟨a, _, vs, rfl, rfl, A.k ▸ sqT e1, fun z => hl.2.2.2 (by have := r1.len; rw [z] at this; exact List.eq_nil_of_length_eq_zero this.symm), hl.1, hl.2.1, by rw [r1.len]; exact hl.2.2.1, fun p hp => q.tup t (r1.rep _) hp⟩
    · cases hb
  · split at hb
    · rename_i hl
      cases hb
      obtain ⟨a, vs, rfl, e1, r1⟩ := h1
      cases h2
      refine op_rep pins s σ H _ _ v u Q I rx ry ⟨a, _, vs, rfl, rfl, e1, by omega, by omega, ?_, fun p hp => q.lst t (r1.rep _) hp⟩
      rw [r1.len, line_eq]
      exact Nat.le_trans (Nat.mul_le_mul hl.2.2 (Int.toNat_le.mpr hl.2.1)) (by decide)
    · cases hb
  · split at hb
    · rename_i hl
      cases hb
      exact op_fdivW pins s σ H x y v u Q I rx ry ⟨_, _, h1, h2, wide_div hl.1 hl.2 (by decide) (by decide), q.int⟩
    · cases hb
  · split at hb
    · rename_i hl
      cases hb
      exact op_mod pins s σ H x y v u Q I rx ry ⟨_, _, h1, h2, hl, q.int⟩
    · cases hb
  · split at hb
    · rename_i hl
      cases hb
      exact op_pow pins s σ H x y v u Q I rx ry ⟨_, _, h1, h2, ⟨hl.1, by omega, by omega⟩, q.int⟩
    · cases hb
  · rename_i i j
    unfold bitOr at hb
    split at hb
    · rename_i a b
      cases hb
      refine op_or pins s σ H x y v u Q I rx ry ⟨_, _, h1, h2, ?_⟩
      have e : Builtin.bitOr (Int.ofNat a) (Int.ofNat b) = Int.ofNat (a ||| b) := Bits.bitOr_pp (x := Int.ofNat a) (y := Int.ofNat b) (Int.natCast_nonneg _) (Int.natCast_nonneg _)
      exact Eq.mpr (congrArg (fun z => Q (V.int z) H) e) q.int
    · cases hb
  · cases hb
end
end TY
/-! TyDn: dicts whose keys are tuples, by values. -/
namespace TY
open PySem PySem.Spec PyProof.Rows L2
/-! ### keys -/
mutual
theorem nk_eq : ∀ (a b : D) (n m : Nat), okk n a = true → okk m b = true → (nk a = nk b ↔ eqv a b = true)
  | .int i, b, n, m, ha, hb => by
    cases b <;> first
      | (simp [okk] at hb; done)
      | simp [nk, eqv]
  | .str s, b, n, m, ha, hb => by
    cases b with
    | str t => simp only [nk, eqv, NestedKey.text.injEq, sS_inj, beq_iff_eq]
    | _ => first | (simp [okk] at hb; done) | simp [nk, eqv]
  | .tup xs, b, n, m, ha, hb => by
    cases b with
    | tup ys =>
      cases n with
      | zero => simp [okk] at ha
      | succ n =>
        cases m with
        | zero => simp [okk] at hb
        | succ m =>
          simp only [nk, eqv, NestedKey.tup.injEq]
          exact nks_eq xs ys n m (by simpa [okk] using ha) (by simpa [okk] using hb)
    | _ => first | (simp [okk] at hb; done) | simp [nk, eqv]
  | .non, _, _, _, h, _ => by simp [okk] at h
  | .bl _, _, _, _, h, _ => by simp [okk] at h
  | .lst _, _, _, _, h, _ => by simp [okk] at h
  | .dk _, _, _, _, h, _ => by simp [okk] at h
  | .dn _, _, _, _, h, _ => by simp [okk] at h
  | .fn _, _, _, _, h, _ => by simp [okk] at h
  | .scr _, _, _, _, h, _ => by simp [okk] at h
  | .exc _, _, _, _, h, _ => by simp [okk] at h
termination_by structural a => a
theorem nks_eq : ∀ (as bs : List D) (n m : Nat), okks n as = true → okks m bs = true → (nks as = nks bs ↔ eqvs as bs = true)
  | [], [], _, _, _, _ => by simp [nks, eqvs]
  | [], _ :: _, _, _, _, _ => by simp [nks, eqvs]
  | _ :: _, [], _, _, _, _ => by simp [nks, eqvs]
  | a :: as, b :: bs, n, m, h, g => by
    have h' : okk n a = true ∧ okks n as = true := by simpa [okks] using h
    have g' : okk m b = true ∧ okks m bs = true := by simpa [okks] using g
    simp only [nks, eqvs, List.cons.injEq, Bool.and_eq_true, nk_eq a b n m h'.1 g'.1, nks_eq as bs n m h'.2 g'.2]
termination_by structural as => as
end
theorem okKey_ok {d : D} (h : okKey d = true) : isTup d = true ∧ okk 8 d = true := by
  unfold okKey at h
  exact Bool.and_eq_true_iff.mp h
theorem key_eq {a b : D} (ha : okKey a = true) (hb : okKey b = true) : nk a = nk b ↔ eqv a b = true := nk_eq a b 8 8 (okKey_ok ha).2 (okKey_ok hb).2
section
variable {Z : Wh} {X : Cx} {F F' : AP} {H H' : Hp} {pins : List (Addr × Obj)} {σ : L2.St} {s : Shared}
mutual
theorem Rp.nkey (A : At0 Z X) (I : Inv X pins σ H s) : ∀ (d : D) (n : Nat) (v : V) (u : Value), okk n d = true → Rp Z H F v d → RelV v u → NestedIs s.heap (nk d) u ∧ (nk d).depth ≤ n
  | .int i, n, _, _, _, h, r => by cases h; obtain ⟨t, rfl⟩ := r; exact ⟨.int i t, Nat.zero_le _⟩
  | .str x, n, _, _, _, h, r => by cases h; obtain ⟨t, rfl⟩ := r; exact ⟨.text _ t, Nat.zero_le _⟩
  | .tup xs, n, _, _, k, h, r => by
    obtain ⟨a, vs, rfl, h1, h2⟩ := h
    cases r
    cases n with
    | zero => simp [okk] at k
    | succ n =>
      obtain ⟨its, rv, ⟨o, ho, hc, n', hd⟩, _⟩ := I.tuple (A.k ▸ sqT h1)
      obtain ⟨q1, q2⟩ := Rps.nkeys A I xs n vs its (by simpa [okk] using k) h2 rv
      exact ⟨.tup ho hc hd (by simpa using q1), by simp only [nk, NestedKey.depth]; omega⟩
  | .non, _, _, _, h, _, _ => by simp [okk] at h
  | .bl _, _, _, _, h, _, _ => by simp [okk] at h
  | .lst _, _, _, _, h, _, _ => by simp [okk] at h
  | .dk _, _, _, _, h, _, _ => by simp [okk] at h
  | .dn _, _, _, _, h, _, _ => by simp [okk] at h
  | .fn _, _, _, _, h, _, _ => by simp [okk] at h
  | .scr _, _, _, _, h, _, _ => by simp [okk] at h
  | .exc _, _, _, _, h, _, _ => by simp [okk] at h
termination_by structural d => d
theorem Rps.nkeys (A : At0 Z X) (I : Inv X pins σ H s) : ∀ (ds : List D) (n : Nat) (vs : List V) (us : List Value), okks n ds = true → Rps Z H F vs ds → Vals vs us → NestedAll s.heap (nks ds) us ∧ NestedKey.depthAll (nks ds) ≤ n
  | [], _, [], _, _, _, r => by cases r; exact ⟨.nil, Nat.zero_le _⟩
  | [], _, _ :: _, _, _, h, _ => h.elim
  | _ :: _, _, [], _, _, h, _ => h.elim
  | d :: ds, n, v :: vs, _, k, h, r => by
    have k' : okk n d = true ∧ okks n ds = true := by simpa [okks] using k
    cases r with
    | cons r1 r2 =>
      obtain ⟨q1, q2⟩ := Rp.nkey A I d n v _ k'.1 h.1 r1
      obtain ⟨p1, p2⟩ := Rps.nkeys A I ds n vs _ k'.2 h.2 r2
      exact ⟨.cons q1 p1, by simp only [nks, NestedKey.depthAll]; omega⟩
termination_by structural ds => ds
end
/-- a key's own tuple -/
theorem Rp.keyIs (A : At0 Z X) (I : Inv X pins σ H s) {d : D} {v : V} {u : Value} (k : okKey d = true) (h : Rp Z H F v d) (r : RelV v u) : ∃ a, v = .ref a ∧ u = .ref a ∧ (nestedKind X.prog X.w).is s.heap (nk d) a := by
  obtain ⟨k1, k2⟩ := okKey_ok k
  cases d with
  | tup xs =>
    obtain ⟨a, vs, e, _⟩ := id h
    subst e
    cases r
    obtain ⟨q1, q2⟩ := Rp.nkey A I (.tup xs) 8 _ _ k2 h rfl
    exact ⟨a, rfl, rfl, q1, q2⟩
  | _ => cases k1
/-! ### what a dict holds -/
abbrev PN := Paired (fun (p : NestedKey × Addr × V) (q : NestedKey × Addr × Value) => p.1 = q.1 ∧ p.2.1 = q.2.1 ∧ RelV p.2.2 q.2.2)
theorem PN.keys {l : List (NestedKey × Addr × V)} {xs : List (NestedKey × Addr × Value)} (h : PN l xs) : l.map (·.1) = xs.map (·.1) := by
  induction h with
  | nil => rfl
  | cons r _ ih => rw [List.map_cons, List.map_cons, ih, r.1]
theorem PN.len {l : List (NestedKey × Addr × V)} {xs : List (NestedKey × Addr × Value)} (h : PN l xs) : l.length = xs.length := by
  induction h with
  | nil => rfl
  | cons r _ ih => rw [List.length_cons, List.length_cons, ih]
theorem Rpn.len : ∀ {kvs : List (D × D)} {l : List (NestedKey × Addr × V)}, Rpn Z H F l kvs → l.length = kvs.length
  | [], [], _ => rfl
  | _ :: _, [], h => h.elim
  | [], _ :: _, h => h.elim
  | _ :: _, _ :: _, h => congrArg (· + 1) (Rpn.len h.2)
/-- the keys stand -/
theorem Rpn.is (A : At0 Z X) (I : Inv X pins σ H s) : ∀ {kvs : List (D × D)} {l : List (NestedKey × Addr × V)} {xs : List (NestedKey × Addr × Value)}, Rpn Z H F l kvs → PN l xs → ∀ x ∈ xs, (nestedKind X.prog X.w).is s.heap x.1 x.2.1
  | _, _, [], _, _ => fun x hx => absurd hx (by simp)
  | [], _ :: _, _ :: _, h, _ => h.elim
  | (k, d) :: kvs, p :: l, q :: xs, h, r => by
    cases r with
    | cons r1 r2 =>
      intro x hx
      rcases List.mem_cons.mp hx with rfl | hx
      · obtain ⟨e1, e2, e3, _⟩ := h.1
        obtain ⟨a, e4, e5, e6⟩ := Rp.keyIs A I e2 e3 (u := .ref p.2.1) rfl
        cases e4
        rw [← r1.1, ← r1.2.1, e1]
        exact e6
      · exact Rpn.is A I h.2 r2 x hx
theorem dno_at (A : At0 Z X) (I : Inv X pins σ H s) {a : Addr} {o : Obj} {l : List (NestedKey × Addr × V)} (h : H a = some (DNo Z.P Z.w a o l)) : s.heap.get? a = some o ∧ (a == sysModules) = false ∧ l.length ≤ sizeLine ∧
    ∃ xs, PN l xs ∧ ∃ es ep, o.ExactDict ∧ o.data = .dict es ep ∧ es.toList = xs.map (entryOfKey (nestedKind X.prog X.w)) ∧ (xs.map (·.1)).Nodup := by
  rw [A.p, A.w]
  exact (I.hok a _ h).1
theorem dno_of (A : At0 Z X) (I : Inv X pins σ H s) {a : Addr} {o : Obj} {l : List (NestedKey × Addr × V)} {kvs : List (D × D)} (h : H a = some (DNo Z.P Z.w a o l)) (r : Rpn Z H F l kvs) :
    (a == sysModules) = false ∧ l.length ≤ sizeLine ∧ ∃ xs, PN l xs ∧ s.heap.DictOfH (nestedKind X.prog X.w) a xs ∧ (xs.map (·.1)).Nodup := by
  obtain ⟨h1, h2, h3, xs, h4, es, ep, h5, h6, h7, h8⟩ := dno_at A I h
  exact ⟨h2, h3, xs, h4, ⟨o, es, ep, h1, h5, h6, h7, Rpn.is A I r h4, h8⟩, h8⟩
theorem look_ok : ∀ {kvs : List (D × D)} {l : List (NestedKey × Addr × V)} {xs : List (NestedKey × Addr × Value)} {k : D}, Rpn Z H F l kvs → PN l xs → okKey k = true →
    (∀ d, lookD k kvs = some d → ∃ p v, atKey xs (nk k) = some p ∧ RelV v p.2 ∧ Rp Z H F v d) ∧ (lookD k kvs = none → atKey xs (nk k) = none)
  | [], [], [], k, _, _, _ => ⟨fun d e => (nomatch e), fun _ => rfl⟩
  | [], _ :: _, _, _, h, _, _ => h.elim
  | _ :: _, [], _, _, h, _, _ => h.elim
  | (a, b) :: kvs, p :: l, q :: xs, k, h, r, hk => by
    cases r with
    | cons r1 r2 =>
      obtain ⟨e1, e2, e3, e4⟩ := h.1
      have ih := look_ok (k := k) h.2 r2 hk
      unfold lookD
      have ek := key_eq e2 hk
      by_cases g : eqv a k = true
      · rw [if_pos g]
        have : q.1 = nk k := by rw [← r1.1, e1]; exact ek.mpr g
        refine ⟨fun d e => ⟨q.2, p.2.2, ?_, r1.2.2, ?_⟩, fun e => (nomatch e)⟩
        · simp [atKey, List.find?_cons, this]
        · cases e; exact e4
      · rw [if_neg g]
        have : ¬ q.1 = nk k := fun z => g (ek.mp (by rw [← e1, r1.1]; exact z))
        have ea : atKey (q :: xs) (nk k) = atKey xs (nk k) := by simp [atKey, List.find?_cons, this]
        rw [ea]
        exact ih
/-- a key comes to have a value -/
def putL (k : NestedKey) (b : Addr) (v : V) : List (NestedKey × Addr × V) → List (NestedKey × Addr × V)
  | [] => [(k, b, v)]
  | p :: r => if p.1 = k then (p.1, p.2.1, v) :: r else p :: putL k b v r
theorem storedH_cons {q : NestedKey × Addr × Value} {xs : List (NestedKey × Addr × Value)} {k : NestedKey} {b : Addr} {u : Value} : storedH (q :: xs) k b u = if q.1 = k then (q.1, q.2.1, u) :: xs.map (putAt k u) else q :: storedH xs k b u := by
  by_cases g : q.1 = k
  · rw [if_pos g]
    have e : atKey (q :: xs) k = some q.2 := by simp [atKey, List.find?_cons, g]
    rw [storedH_old e, List.map_cons, putAt, if_pos g]
  · rw [if_neg g]
    have e : atKey (q :: xs) k = atKey xs k := by simp [atKey, List.find?_cons, g]
    unfold storedH
    rw [e]
    split
    · rw [List.map_cons, putAt, if_neg g]
    · rfl
theorem PN.put {k : NestedKey} {b : Addr} {v : V} {u : Value} (rv : RelV v u) : ∀ {l : List (NestedKey × Addr × V)} {xs : List (NestedKey × Addr × Value)}, PN l xs → (xs.map (·.1)).Nodup → PN (putL k b v l) (storedH xs k b u)
  | [], [], _, _ => by rw [storedH_new rfl]; exact .cons ⟨rfl, rfl, rv⟩ .nil
  | p :: l, q :: xs, r, hn => by
    cases r with
    | cons r1 r2 =>
      rw [List.map_cons, List.nodup_cons] at hn
      rw [storedH_cons]
      unfold putL
      rw [r1.1]
      by_cases g : q.1 = k
      · rw [if_pos g, if_pos g, map_putAt_of_not_mem xs k u (by rw [← g]; exact hn.1)]
        exact .cons ⟨rfl, r1.2.1, rv⟩ r2
      · rw [if_neg g, if_neg g]
        exact .cons r1 (PN.put rv r2 hn.2)
theorem Rpn.put {k d : D} {b : Addr} {v : V} (hk : okKey k = true) (pk : Rp Z H F (.ref b) k) (pv : Rp Z H F v d) : ∀ {kvs : List (D × D)} {l : List (NestedKey × Addr × V)}, Rpn Z H F l kvs → Rpn Z H F (putL (nk k) b v l) (putD k d kvs)
  | [], [], _ => ⟨⟨rfl, hk, pk, pv⟩, True.intro⟩
  | [], _ :: _, h => h.elim
  | _ :: _, [], h => h.elim
  | (a, c) :: kvs, p :: l, h => by
    obtain ⟨e1, e2, e3, e4⟩ := h.1
    have ek := key_eq e2 hk
    unfold putL putD
    by_cases g : eqv a k = true
    · rw [if_pos g, if_pos (by rw [e1]; exact ek.mpr g)]
      exact ⟨⟨e1, e2, e3, pv⟩, h.2⟩
    · rw [if_neg g, if_neg (by rw [e1]; exact fun z => g (ek.mp z))]
      exact ⟨h.1, Rpn.put hk pk pv h.2⟩
theorem putL_len (k : NestedKey) (b : Addr) (v : V) : ∀ l : List (NestedKey × Addr × V), (putL k b v l).length ≤ l.length + 1
  | [] => Nat.le_refl _
  | p :: l => by
    unfold putL
    split
    · simp
    · have := putL_len k b v l
      simp only [List.length_cons]; omega
/-- what stands behind a store is tracked -/
theorem dno_new {a : Addr} {o : Obj} {l : List (NestedKey × Addr × V)} {xs : List (NestedKey × Addr × Value)} {h' : Heap} (hd : (a == sysModules) = false) (hl : l.length ≤ sizeLine) (r : PN l xs) {es : Array DictEntry} {ep : Nat} (ho : h'.get? a = some o) (he : o.ExactDict) (hdt : o.data = .dict es ep)
    (hes : es.toList = xs.map (entryOfKey (nestedKind X.prog X.w))) (hn : (xs.map (·.1)).Nodup) {H' : Hp} : ObjOk X.prog X.w H' h' a (DNo X.prog X.w a o l) :=
  ⟨⟨ho, hd, hl, xs, r, es, ep, he, hdt, hes, hn⟩, ⟨o, ho⟩, fun h1 h2 ⟨q1, q2⟩ st => ⟨st _ q1, q2⟩⟩
theorem dno_of_H {a : Addr} {l : List (NestedKey × Addr × V)} {xs : List (NestedKey × Addr × Value)} {h' : Heap} (hd : (a == sysModules) = false) (hl : l.length ≤ sizeLine) (r : PN l xs) (hm : h'.DictOfH (nestedKind X.prog X.w) a xs) :
    ∃ o, ∀ H' : Hp, ObjOk X.prog X.w H' h' a (DNo X.prog X.w a o l) := by
  obtain ⟨o, es, ep, ho, he, hdt, hes, _, hn⟩ := hm
  exact ⟨o, fun H' => dno_new hd hl r ho he hdt hes hn⟩
end
/-! ### reading and storing -/
section
variable {Z : Wh} {X : Cx} {F F' : AP} {H H' : Hp} {pins : List (Addr × Obj)} {σ : L2.St} {s : Shared}
theorem Rq.key {d : D} {v : V} (k : okKey d = true) (h : Rq Z F H v d) : Rp Z H F v d := by
  cases d with
  | tup xs => exact h
  | _ => cases (okKey_ok k).1
theorem room8 (A : At0 Z X) : (nestedKind X.prog X.w).room X.A.in1 := by
  have := A.hu
  show X.A.units + 1 + 8 < cLine
  omega
theorem room8' (A : At0 Z X) : (nestedKind X.prog X.w).room X.A := by
  have := A.hu
  show X.A.units + 8 < cLine
  omega
/-- d[k], by values -/
theorem dn_getItem (A : At0 Z X) (I : Inv X pins σ H s) {kvs : List (D × D)} {k d : D} {x y : V} {v u : Value} {Q : Value → Shared → Prop} (rx : RelV x v) (ry : RelV y u) (h1 : Rq Z F H x (.dn kvs)) (h2 : Rp Z H F y k) (hk : okKey k = true) (hl : lookD k kvs = some d)
    (q : ∀ w' s' z, Inv X pins σ H s' → RelV z w' → Rp Z H F z d → Q w' s') : s.TypeIs v "dict" ∧ wpAny (model X.prog X.w) X.A (getItem v u) Q X.xe s := by
  obtain ⟨a, o, l, rfl, e, r⟩ := h1
  cases rx
  obtain ⟨b, rfl, rfl, hb⟩ := Rp.keyIs A I hk h2 ry
  obtain ⟨hd, hz, xs, pn, dd, hn⟩ := dno_of A I e r
  obtain ⟨p, z, e1, e2, e3⟩ := (look_ok r pn hk).1 d hl
  exact ⟨dd.typeIs, wpAny_getItem_heap (room8 A) hb dd e1 (q _ _ z (I.tok _) e2 e3)⟩
/-- k in d -/
theorem dn_in (A : At0 Z X) (I : Inv X pins σ H s) (neg : Bool) {kvs : List (D × D)} {k : D} {x y : V} {v u : Value} {Q : Value → Shared → Prop} (rx : RelV x v) (ry : RelV y u) (h1 : Rq Z F H x (.dn kvs)) (h2 : Rp Z H F y k) (hk : okKey k = true)
    (q : ∀ s', Inv X pins σ H s' → Q (.bool (if neg then !(lookD k kvs).isSome else (lookD k kvs).isSome)) s') : wpAny (model X.prog X.w) X.A (compareOp (if neg then .NotIn else .In) u v) Q X.xe s := by
  obtain ⟨a, o, l, rfl, e, r⟩ := h1
  cases rx
  obtain ⟨b, rfl, rfl, hb⟩ := Rp.keyIs A I hk h2 ry
  obtain ⟨hd, hz, xs, pn, dd, hn⟩ := dno_of A I e r
  have es : (atKey xs (nk k)).isSome = (lookD k kvs).isSome := by
    cases hl : lookD k kvs with
    | none => rw [(look_ok r pn hk).2 hl]; rfl
    | some d => obtain ⟨p, z, e1, _⟩ := (look_ok r pn hk).1 d hl; rw [e1]; rfl
  cases neg with
  | false => exact wpAny_in_heap (room8 A) hb hd dd (by rw [es]; exact q _ (I.tok _))
  | true =>
    show wpAny _ _ (do return .bool (!(← contains (.ref a) (.ref b)))) Q _ s
    exact wpAny_bind (wpAny_contains_heap (room8 A) hb hd dd (wpAny_pure (by rw [es]; exact q _ (I.tok _))))
/-- d.get(k), d.get(k, x) -/
theorem dn_get (A : At0 Z X) (I : Inv X pins σ H s) {kvs : List (D × D)} {k e : D} {x y : V} {v u : Value} {more : List Value} {zr : V} {z' : Value} {Q : Value → Shared → Prop} (hm : more = [] ∧ z' = .none ∨ more = [z']) (rx : RelV x v) (ry : RelV y u) (rz : RelV zr z') (h1 : Rq Z F H x (.dn kvs)) (h2 : Rp Z H F y k) (h3 : Rp Z H F zr e) (hk : okKey k = true)
    (q : ∀ w' s' z, Inv X pins σ H s' → RelV z w' → Rp Z H F z ((lookD k kvs).getD e) → Q w' s') : wpAny (model X.prog X.w) X.A (call (.builtin "dict.get") (v :: u :: more)) Q X.xe s := by
  obtain ⟨a, o, l, rfl, ea, r⟩ := h1
  cases rx
  obtain ⟨b, rfl, rfl, hb⟩ := Rp.keyIs A I hk h2 ry
  obtain ⟨hd, hz, xs, pn, dd, hn⟩ := dno_of A I ea r
  have key : ∀ s', Inv X pins σ H s' → Q (((atKey xs (nk k)).map (·.2)).getD z') s' := fun s' I' => by
    cases hl : lookD k kvs with
    | none =>
      rw [hl] at q
      rw [(look_ok r pn hk).2 hl]
      exact q _ _ _ I' rz h3
    | some d =>
      rw [hl] at q
      obtain ⟨p, z, e1, e2, e3⟩ := (look_ok r pn hk).1 d hl
      rw [e1]
      exact q _ _ _ I' e2 e3
  rcases hm with ⟨rfl, rfl⟩ | rfl
  · exact call_meetsIn PySem.F.slot_dict_get dd.typeIs PySem.F.entry_dict_get (PySem.F.args_dict_get_2 _ _) (meetsH_dict_get (nestedKind X.prog X.w) a b hd) ⟨room8 A, nk k, xs, hb, dd, key _ (I.tok _)⟩
  · exact call_meetsIn PySem.F.slot_dict_get dd.typeIs PySem.F.entry_dict_get (PySem.F.args_dict_get_3 _ _ _) (meetsH_dict_get_default (nestedKind X.prog X.w) a b hd z') ⟨room8 A, nk k, xs, hb, dd, key _ (I.tok _)⟩
/-- what a store leaves -/
theorem dn_wrote (A : At0 Z X) (I : Inv X pins σ H s) {a b : Addr} {o : Obj} {l : List (NestedKey × Addr × V)} {kvs : List (D × D)} {k : D} {zv : V} {u : Value} (e : H a = some (DNo Z.P Z.w a o l)) (r : Rpn Z H F l kvs) (rv : RelV zv u) (hl : l.length < sizeLine) {xs : List (NestedKey × Addr × Value)} (pn : PN l xs) (hn : (xs.map (·.1)).Nodup)
    (hd : (a == sysModules) = false) {h' : Heap} {t' : Nat} (dd : h'.DictOfH (nestedKind X.prog X.w) a (storedH xs (nk k) b u)) (hs : Heap.SameBut a s.heap h') : ∃ o', Inv X pins σ (upd H a (DNo Z.P Z.w a o' (putL (nk k) b zv l))) { s with heap := h', toks := t' } := by
  have hl' : (putL (nk k) b zv l).length ≤ sizeLine := by have := putL_len (nk k) b zv l; omega
  obtain ⟨o', ho'⟩ := dno_of_H (X := X) hd hl' (pn.put rv hn) dd
  have he : ∃ q, h'.get? a = some q := let ⟨q, _, _, hq, _⟩ := dd; ⟨q, hq⟩
  refine ⟨o', ?_⟩
  rw [← A.p, ← A.w]
  exact I.write (x := a) (e := a) (by rw [e]; exact True.intro) (.inl rfl) (fun c q hc z => (hs.2 c hc).trans z) he (ho' _)
theorem dn_setItem (A : At0 Z X) (I : Inv X pins σ H s) {a : Addr} {o : Obj} {l : List (NestedKey × Addr × V)} {kvs : List (D × D)} {k : D} {y zv : V} {iv u : Value} {Q : Unit → Shared → Prop} (e : H a = some (DNo Z.P Z.w a o l)) (r : Rpn Z H F l kvs) (h2 : Rp Z H F y k) (hk : okKey k = true) (ry : RelV y iv) (rv : RelV zv u) (hl : l.length < sizeLine)
    (q : ∀ o' b s', y = .ref b → Inv X pins σ (upd H a (DNo Z.P Z.w a o' (putL (nk k) b zv l))) s' → Q () s') : wpAny (model X.prog X.w) X.A (setItem (.ref a) iv u) Q X.xe s := by
  obtain ⟨b, rfl, rfl, hb⟩ := Rp.keyIs A I hk h2 ry
  obtain ⟨hd, hz, xs, pn, dd, hn⟩ := dno_of A I e r
  refine wpAny_setItem_heap (hsz := by rw [← pn.len]; exact hz) (room8 A) hb dd fun h' dd' hs => ?_
  obtain ⟨o', I'⟩ := dn_wrote (k := k) A I e r rv hl pn hn hd dd' hs
  exact q o' b _ rfl I'
/-- the same by dictSet (displays, comprehensions) -/
theorem dn_dictSet (A : At0 Z X) (I : Inv X pins σ H s) {a : Addr} {o : Obj} {l : List (NestedKey × Addr × V)} {kvs : List (D × D)} {k : D} {y zv : V} {iv u : Value} {Q : Unit → Shared → Prop} (e : H a = some (DNo Z.P Z.w a o l)) (r : Rpn Z H F l kvs) (h2 : Rp Z H F y k) (hk : okKey k = true) (ry : RelV y iv) (rv : RelV zv u) (hl : l.length < sizeLine)
    (q : ∀ o' b s', y = .ref b → Inv X pins σ (upd H a (DNo Z.P Z.w a o' (putL (nk k) b zv l))) s' → Q () s') : wpAny (model X.prog X.w) X.A (dictSet a iv u) Q X.xe s := by
  obtain ⟨b, rfl, rfl, hb⟩ := Rp.keyIs A I hk h2 ry
  obtain ⟨hd, hz, xs, pn, dd, hn⟩ := dno_of A I e r
  refine wpAny_dictSet_heap (hsz := by rw [← pn.len]; exact hz) (room8' A) hb dd fun h' dd' hs => ?_
  obtain ⟨o', I'⟩ := dn_wrote (k := k) A I e r rv hl pn hn hd dd' hs
  exact q o' b _ rfl I'
/-- a new dict -/
theorem dn_laid (A : At0 Z X) (I : Inv X pins σ H s) : ∃ o, Inv X pins σ (upd H s.heap.objs.size (DNo Z.P Z.w s.heap.objs.size o [])) { s with heap := s.heap.push { cls := .type "dict", data := .dict #[] } } := by
  have hd : (s.heap.objs.size == sysModules) = false := beq_eq_false_iff_ne.mpr (Ne.symm (Nat.ne_of_lt I.big))
  obtain ⟨o, ho⟩ := dno_of_H (X := X) (l := []) hd (Nat.zero_le _) .nil (Heap.DictOfH.new s.heap)
  refine ⟨o, ?_⟩
  rw [← A.p, ← A.w]
  exact I.laid (a := s.heap.objs.size) (t' := s.toks) (fun _ _ q => Heap.get?_push_of_some _ q) (Nat.le_refl _) (ho _)
end
end TY
/-! TyP: comparisons, by values. -/
namespace TY
open PySem PySem.Spec PyProof.Rows L2
mutual
def py : D → PyData
  | .bl b => .bool b
  | .int i => .int i
  | .str s => .str (sS s)
  | .tup xs => .tuple (pys xs)
  | .lst xs => .list (pys xs)
  | _ => .none
termination_by structural d => d
def pys : List D → List PyData
  | [] => []
  | x :: xs => py x :: pys xs
termination_by structural ds => ds
end
mutual
theorem py_plain : ∀ (d : D) (n : Nat), okd n d = true → (py d).plain = true ∧ (py d).depth ≤ n
  | .non, _, _ => ⟨rfl, Nat.zero_le _⟩
  | .bl _, _, _ => ⟨rfl, Nat.zero_le _⟩
  | .int _, _, _ => ⟨rfl, Nat.zero_le _⟩
  | .str _, _, _ => ⟨rfl, Nat.zero_le _⟩
  | .tup xs, 0, h => by simp [okd] at h
  | .lst xs, 0, h => by simp [okd] at h
  | .tup xs, n + 1, h => by
    have q := pys_plain xs n (by simpa [okd] using h)
    exact ⟨by simp only [py, PyData.plain]; exact q.1, by simp only [py, PyData.depth]; omega⟩
  | .lst xs, n + 1, h => by
    have q := pys_plain xs n (by simpa [okd] using h)
    exact ⟨by simp only [py, PyData.plain]; exact q.1, by simp only [py, PyData.depth]; omega⟩
  | .dk _, _, h => by simp [okd] at h
  | .dn _, _, h => by simp [okd] at h
  | .fn _, _, h => by simp [okd] at h
  | .scr _, _, h => by simp [okd] at h
  | .exc _, _, h => by simp [okd] at h
termination_by structural d => d
theorem pys_plain : ∀ (ds : List D) (n : Nat), okds n ds = true → PyData.plainAll (pys ds) = true ∧ PyData.depthAll (pys ds) ≤ n
  | [], _, _ => ⟨rfl, Nat.zero_le _⟩
  | d :: ds, n, h => by
    have h' : okd n d = true ∧ okds n ds = true := by simpa [okds] using h
    have q1 := py_plain d n h'.1
    have q2 := pys_plain ds n h'.2
    refine ⟨by simp only [pys, PyData.plainAll, q1.1, q2.1, Bool.and_self], ?_⟩
    simp only [pys, PyData.depthAll]
    omega
termination_by structural ds => ds
end
theorem beq_dec {α : Type} [DecidableEq α] (a b : α) : (a == b) = decide (a = b) := by
  by_cases h : a = b
  · subst h; simp
  · rw [decide_eq_false h]; exact beq_eq_false_iff_ne.mpr h
theorem str_beq (a b : List Nat) : PyData.eqv (.str (sS a)) (.str (sS b)) = (a == b) := by
  show (sS a == sS b) = (a == b)
  rw [beq_dec]
  by_cases e : a = b
  · subst e; simp
  · rw [decide_eq_false fun z => e (sS_inj.mp z)]
    exact (beq_eq_false_iff_ne.mpr e).symm
mutual
theorem py_eqv : ∀ (d e : D) (n m : Nat), okd n d = true → okd m e = true → PyData.eqv (py d) (py e) = eqv d e
  | .non, e, n, m, hd, he => by cases e <;> first | rfl | (simp [okd] at he)
  | .bl b, e, n, m, hd, he => by cases e <;> first | rfl | (simp [okd] at he)
  | .int i, e, n, m, hd, he => by cases e <;> first | rfl | (simp [okd] at he)
  | .str s, e, n, m, hd, he => by
    cases e <;> first
      | rfl
      | (simp [okd] at he; done)
      | exact str_beq _ _
  | .tup xs, e, n, m, hd, he => by
    cases e with
    | tup ys =>
      cases n with
      | zero => simp [okd] at hd
      | succ n =>
        cases m with
        | zero => simp [okd] at he
        | succ m => exact pys_eqv xs ys n m (by simpa [okd] using hd) (by simpa [okd] using he)
    | _ => first | rfl | (simp [okd] at he; done)
  | .lst xs, e, n, m, hd, he => by
    cases e with
    | lst ys =>
      cases n with
      | zero => simp [okd] at hd
      | succ n =>
        cases m with
        | zero => simp [okd] at he
        | succ m => exact pys_eqv xs ys n m (by simpa [okd] using hd) (by simpa [okd] using he)
    | _ => first | rfl | (simp [okd] at he; done)
  | .dk _, _, _, _, h, _ => by simp [okd] at h
  | .dn _, _, _, _, h, _ => by simp [okd] at h
  | .fn _, _, _, _, h, _ => by simp [okd] at h
  | .scr _, _, _, _, h, _ => by simp [okd] at h
  | .exc _, _, _, _, h, _ => by simp [okd] at h
termination_by structural d => d
theorem pys_eqv : ∀ (ds es : List D) (n m : Nat), okds n ds = true → okds m es = true → PyData.eqvAll (pys ds) (pys es) = eqvs ds es
  | [], [], _, _, _, _ => rfl
  | [], _ :: _, _, _, _, _ => rfl
  | _ :: _, [], _, _, _, _ => rfl
  | d :: ds, e :: es, n, m, h, g => by
    have h' : okd n d = true ∧ okds n ds = true := by simpa [okds] using h
    have g' : okd m e = true ∧ okds m es = true := by simpa [okds] using g
    show (PyData.eqv (py d) (py e) && PyData.eqvAll (pys ds) (pys es)) = (eqv d e && eqvs ds es)
    rw [py_eqv d e n m h'.1 g'.1, pys_eqv ds es n m h'.2 g'.2]
termination_by structural ds => ds
end
section
variable {Z : Wh} {X : Cx} {F : AP} {H : Hp} {pins : List (Addr × Obj)} {σ : L2.St} {s : Shared}
mutual
theorem Rp.reads (A : At0 Z X) (I : Inv X pins σ H s) : ∀ (d : D) (n : Nat) (v : V) (u : Value), okd n d = true → Rp Z H F v d → RelV v u → ∃ as, Reads s.heap u (py d) as
  | .non, _, _, _, _, h, r => by cases h; cases r; exact ⟨_, Reads.none⟩
  | .bl b, _, _, _, _, h, r => by cases h; cases r; exact ⟨_, Reads.bool b⟩
  | .int i, _, _, _, _, h, r => by cases h; obtain ⟨t, rfl⟩ := r; exact ⟨_, Reads.int i t⟩
  | .str x, _, _, _, _, h, r => by cases h; obtain ⟨t, rfl⟩ := r; exact ⟨_, Reads.str _ t⟩
  | .tup xs, n, _, _, k, h, r => by
    obtain ⟨a, vs, rfl, h1, h2⟩ := h
    cases r
    cases n with
    | zero => simp [okd] at k
    | succ n =>
      obtain ⟨its, rv, ⟨o, ho, hc, n', hd⟩, _⟩ := I.tuple (A.k ▸ sqT h1)
      obtain ⟨as, hr⟩ := Rps.reads A I xs n vs its (by simpa [okd] using k) h2 rv
      exact ⟨_, Reads.tuple ho hc hd hr⟩
  | .lst xs, n, _, _, k, h, r => by
    obtain ⟨a, vs, rfl, _, h1, h2⟩ := h
    cases r
    cases n with
    | zero => simp [okd] at k
    | succ n =>
      obtain ⟨its, rv, ⟨o, n', ho, hc, _, hd⟩, _⟩ := I.list (SqL.of h1)
      obtain ⟨as, hr⟩ := Rps.reads A I xs n vs its (by simpa [okd] using k) h2 rv
      exact ⟨_, Reads.list ho hc hd hr⟩
  | .dk _, _, _, _, h, _, _ => by simp [okd] at h
  | .dn _, _, _, _, h, _, _ => by simp [okd] at h
  | .fn _, _, _, _, h, _, _ => by simp [okd] at h
  | .scr _, _, _, _, h, _, _ => by simp [okd] at h
  | .exc _, _, _, _, h, _, _ => by simp [okd] at h
termination_by structural d => d
theorem Rps.reads (A : At0 Z X) (I : Inv X pins σ H s) : ∀ (ds : List D) (n : Nat) (vs : List V) (us : List Value), okds n ds = true → Rps Z H F vs ds → Vals vs us → ∃ as, ReadsAll s.heap us (pys ds) as
  | [], _, [], _, _, _, r => by cases r; exact ⟨_, ReadsAll.nil⟩
  | [], _, _ :: _, _, _, h, _ => h.elim
  | _ :: _, _, [], _, _, h, _ => h.elim
  | d :: ds, n, v :: vs, _, k, h, r => by
    have k' : okd n d = true ∧ okds n ds = true := by simpa [okds] using k
    cases r with
    | cons r1 r2 =>
      obtain ⟨as, q1⟩ := Rp.reads A I d n v _ k'.1 h.1 r1
      obtain ⟨bs, q2⟩ := Rps.reads A I ds n vs _ k'.2 h.2 r2
      exact ⟨_, ReadsAll.cons q1 q2⟩
termination_by structural ds => ds
end
theorem Rq.reads (A : At0 Z X) (I : Inv X pins σ H s) {d : D} {n : Nat} {v : V} {u : Value} (k : okd n d = true) (h : Rq Z F H v d) (r : RelV v u) : ∃ as, Reads s.heap u (py d) as := by
  cases d with
  | lst xs =>
    obtain ⟨a, vs, rfl, h1, h2⟩ := h
    cases r
    cases n with
    | zero => simp [okd] at k
    | succ n =>
      obtain ⟨its, rv, ⟨o, n', ho, hc, _, hd⟩, _⟩ := I.list (SqL.of h1)
      obtain ⟨as, hr⟩ := Rps.reads A I xs n vs its (by simpa [okd] using k) h2 rv
      exact ⟨_, Reads.list ho hc hd hr⟩
  | tup xs => exact Rp.reads A I _ n v u k h r
  | non => exact Rp.reads (F := F) A I _ n v u k h r
  | bl b => exact Rp.reads (F := F) A I (.bl b) n v u k h r
  | int b => exact Rp.reads (F := F) A I (.int b) n v u k h r
  | str b => exact Rp.reads (F := F) A I (.str b) n v u k h r
  | dk _ => simp [okd] at k
  | dn _ => simp [okd] at k
  | fn _ => simp [okd] at k
  | scr _ => simp [okd] at k
  | exc _ => simp [okd] at k
end
theorem pys_any (x : D) (n m : Nat) (hx : okd n x = true) : ∀ ys : List D, okds m ys = true → ((pys ys).any fun y => PyData.eqv y (py x)) = ys.any fun y => eqv y x
  | [], _ => rfl
  | y :: ys, h => by
    have h' : okd m y = true ∧ okds m ys = true := by simpa [okds] using h
    show (PyData.eqv (py y) (py x) || (pys ys).any fun y => PyData.eqv y (py x)) = (eqv y x || ys.any fun y => eqv y x)
    rw [py_eqv y x m n h'.1 hx, pys_any x n m hx ys h'.2]
theorem ltL_eq : ∀ a b : List Nat, ltL a b = decide (a < b)
  | [], [] => by simp [ltL]
  | [], _ :: _ => by simp [ltL]
  | _ :: _, [] => by simp [ltL]
  | x :: xs, y :: ys => by
    unfold ltL
    by_cases e : x = y
    · subst e
      rw [if_pos rfl, ltL_eq xs ys]
      simp [List.cons_lt_cons_iff]
    · rw [if_neg e]
      refine decide_eq_decide.mpr ?_
      rw [List.cons_lt_cons_iff]
      exact ⟨.inl, fun h => h.elim id fun z => absurd z.1 e⟩

/-- by values -/
def rC (Z : Wh) (o : CO) : R2 := fun x y H Q => ∃ F d1 d2 r, Tk Z F H ∧ Rq Z F H x d1 ∧ Rq Z F H y d2 ∧ cop o d1 d2 = some r ∧ Q (.bl r) H
section
variable {Z : Wh} {X : Cx}
theorem isNon_eq {F : AP} {H : Hp} {v : V} {d : D} (h : Rq Z F H v d) : isNon d = decide (v = .non) := by
  cases d with
  | non => cases h; rfl
  | bl _ => cases h; rfl
  | int _ => cases h; rfl
  | str _ => cases h; rfl
  | fn _ => obtain ⟨a, _, rfl⟩ := h; rfl
  | scr _ => obtain ⟨a, rfl, _⟩ := h; rfl
  | exc _ => obtain ⟨a, _, _, rfl⟩ := h; rfl
  | tup _ => obtain ⟨a, _, rfl, _⟩ := h; rfl
  | lst _ => obtain ⟨a, _, rfl, _⟩ := h; rfl
  | dk _ => obtain ⟨a, _, rfl, _⟩ := h; rfl
  | dn _ => obtain ⟨a, _, _, rfl, _⟩ := h; rfl
/-- x in y: what is told of it -/
theorem in_ok (A : At0 Z X) (neg : Bool) {pins : List (Addr × Obj)} {s : Shared} {σ : L2.St} {H : Hp} {x y : V} {v u : Value} {Q : VK} {F : AP} {d1 d2 : D} {r : Bool} (I : Inv X pins σ H s) (rx : RelV x v) (ry : RelV y u) (h1 : Rq Z F H x d1) (h2 : Rq Z F H y d2)
    (hb : isIn d1 d2 = some r) (q : Q (.bl (if neg then !r else r)) H) : wpAny (model X.prog X.w) X.A (compareOp (if neg then .NotIn else .In) v u) (EP X pins σ Q) X.xe s := by
  have hu := A.hu
  unfold isIn at hb
  split at hb
  · split at hb
    · rename_i ys hk
      have hk' := Bool.and_eq_true_iff.mp hk
      cases hb
      obtain ⟨as, ra⟩ := Rq.reads A I (d := .lst ys) (n := 51) (by simpa [okd] using hk'.2) h2 ry
      obtain ⟨bs, rb⟩ := Rq.reads A I hk'.1 h1 rx
      have p1 := pys_plain ys _ hk'.2
      have p2 := py_plain d1 _ hk'.1
      have e := pys_any d1 50 50 hk'.1 ys hk'.2
      cases neg with
      | false => exact SeqAt.in_list_data ra rb p1.1 p2.1 (by omega) (by rw [e]; exact ⟨.bl _, H, I, rfl, q⟩)
      | true => exact SeqAt.notIn_list_data ra rb p1.1 p2.1 (by omega) (by rw [e]; exact ⟨.bl _, H, I, rfl, q⟩)
    · cases hb
  · split at hb
    · rename_i ys hk
      have hk' := Bool.and_eq_true_iff.mp hk
      cases hb
      obtain ⟨as, ra⟩ := Rq.reads A I (d := .tup ys) (n := 51) (by simpa [okd] using hk'.2) h2 ry
      obtain ⟨bs, rb⟩ := Rq.reads A I hk'.1 h1 rx
      have p1 := pys_plain ys _ hk'.2
      have p2 := py_plain d1 _ hk'.1
      have e := pys_any d1 50 50 hk'.1 ys hk'.2
      cases neg with
      | false => exact SeqAt.in_tuple_data ra rb p1.1 p2.1 (by omega) (by rw [e]; exact ⟨.bl _, H, I, rfl, q⟩)
      | true => exact SeqAt.notIn_tuple_data ra rb p1.1 p2.1 (by omega) (by rw [e]; exact ⟨.bl _, H, I, rfl, q⟩)
    · cases hb
  · split at hb
    · rename_i kvs hk
      cases hb
      refine dn_in A I neg ry rx h2 (Rq.key hk h1) hk fun s' I' => ⟨.bl (if neg then !(lookD d1 kvs).isSome else (lookD d1 kvs).isSome), H, I', ?_, q⟩
      cases neg <;> rfl
    · cases hb
  · rename_i c z
    cases hb
    cases h1
    cases h2
    have e : (List.elem c z) = decide (c ∈ (sS z).cps.toList) := by
      show List.elem c z = decide (c ∈ z)
      by_cases g : c ∈ z
      · rw [decide_eq_true g]; exact List.elem_iff.mpr g
      · rw [decide_eq_false g]; exact Bool.eq_false_iff.mpr fun z => g (List.elem_iff.mp z)
    rw [e] at q
    cases neg with
    | false => exact op_in_sign pins s σ H _ _ v u Q I rx ry ⟨c, sS z, rfl, rfl, q⟩
    | true => exact op_notIn_sign pins s σ H _ _ v u Q I rx ry ⟨c, sS z, rfl, rfl, q⟩
  · cases hb
theorem op_co (A : At0 Z X) (o : CO) : OpR X (compareOp (coA o)) (rC Z o) := by
  intro pins s σ H x y v u Q I rx ry h
  obtain ⟨F, d1, d2, r, t, h1, h2, hb, q⟩ := h
  have hu := A.hu
  unfold cop at hb
  split at hb
  · split at hb
    · rename_i hk
      have hk' := Bool.and_eq_true_iff.mp hk
      cases hb
      obtain ⟨as, ra⟩ := Rq.reads A I hk'.1 h1 rx
      obtain ⟨bs, rb⟩ := Rq.reads A I hk'.2 h2 ry
      have p1 := py_plain d1 _ hk'.1
      have p2 := py_plain d2 _ hk'.2
      exact SeqAt.eq_plain ra rb p1.1 p2.1 (by omega) (by rw [py_eqv d1 d2 _ _ hk'.1 hk'.2]; exact ⟨.bl _, H, I, rfl, q⟩)
    · cases hb
  · split at hb
    · rename_i hk
      have hk' := Bool.and_eq_true_iff.mp hk
      cases hb
      obtain ⟨as, ra⟩ := Rq.reads A I hk'.1 h1 rx
      obtain ⟨bs, rb⟩ := Rq.reads A I hk'.2 h2 ry
      have p1 := py_plain d1 _ hk'.1
      have p2 := py_plain d2 _ hk'.2
      exact SeqAt.ne_plain ra rb p1.1 p2.1 (by omega) (by rw [py_eqv d1 d2 _ _ hk'.1 hk'.2]; exact ⟨.bl _, H, I, rfl, q⟩)
    · cases hb
  · cases hb
    exact op_lt pins s σ H x y v u Q I rx ry ⟨_, _, h1, h2, q⟩
  · rename_i a b
    cases hb
    refine op_lt_str pins s σ H x y v u Q I rx ry ⟨_, _, h1, h2, ?_⟩
    rw [ltL_eq] at q
    exact q
  · cases hb
    exact op_le pins s σ H x y v u Q I rx ry ⟨_, _, h1, h2, q⟩
  · cases hb
    exact op_gt pins s σ H x y v u Q I rx ry ⟨_, _, h1, h2, q⟩
  · cases hb
    exact op_ge pins s σ H x y v u Q I rx ry ⟨_, _, h1, h2, q⟩
  · exact in_ok A false I rx ry h1 h2 hb q
  · rename_i a b
    cases e : isIn d1 d2 with
    | none => rw [e] at hb; cases hb
    | some r' =>
      rw [e] at hb
      cases hb
      exact in_ok A true I rx ry h1 h2 e q
  · cases hb
    rw [isNon_eq h1] at q
    exact op_isN pins s σ H x y v u Q I rx ry ⟨h2, q⟩
  · cases hb
    rw [isNon_eq h1] at q
    exact op_notN pins s σ H x y v u Q I rx ry ⟨h2, q⟩
  · cases hb
end
end TY
/-! TyQ: items, slices, kinds, built-in functions and methods, by values. -/
namespace TY
open PySem PySem.Spec PyProof.Rows L2
theorem ixN_eq (n : Nat) (i : Int) : L2.ixN n i = TY.ixN n i := by
  unfold L2.ixN TY.ixN
  by_cases h : 0 ≤ i
  · rw [if_pos h, if_pos h]
  · rw [if_neg h, if_neg h]
    by_cases g : -(n : Int) ≤ i
    · rw [if_pos g, if_pos (by omega)]
    · rw [if_neg g, if_neg (by omega)]
theorem sIx_eq (n d : Nat) (o : Option Int) : HT.sIx n d o = TY.sIx n d o := by
  cases o with
  | none => rfl
  | some i =>
    show (if i < 0 then (i + (n : Int)).toNat else min i.toNat n) = (if 0 ≤ i then min i.toNat n else (i + (n : Int)).toNat)
    by_cases h : 0 ≤ i
    · rw [if_pos h, if_neg (by omega)]
    · rw [if_neg h, if_pos (by omega)]
section
variable {Z : Wh} {X : Cx} {F : AP} {H : Hp}
theorem Rps.drop : ∀ {vs : List V} {xs : List D} (n : Nat), Rps Z H F vs xs → Rps Z H F (vs.drop n) (xs.drop n)
  | _, _, 0, h => h
  | [], [], n + 1, h => h
  | _ :: _, [], _, h => h.elim
  | [], _ :: _, _, h => h.elim
  | _ :: _, _ :: _, n + 1, h => Rps.drop n h.2
theorem Rps.take : ∀ {vs : List V} {xs : List D} (n : Nat), Rps Z H F vs xs → Rps Z H F (vs.take n) (xs.take n)
  | _, _, 0, _ => by simp only [List.take_zero]; exact True.intro
  | [], [], n + 1, h => h
  | _ :: _, [], _, h => h.elim
  | [], _ :: _, _, h => h.elim
  | _ :: _, _ :: _, n + 1, h => ⟨h.1, Rps.take n h.2⟩
theorem Rps.cut {vs : List V} {xs : List D} (lo hi : Option Int) (h : Rps Z H F vs xs) : Rps Z H F (cutV vs lo hi) (cut xs lo hi) := by
  unfold cutV TY.cut
  rw [sIx_eq, sIx_eq, h.len]
  exact (h.drop _).take _
theorem Rps.rev : ∀ {vs : List V} {xs : List D}, Rps Z H F vs xs → Rps Z H F vs.reverse xs.reverse
  | [], [], h => h
  | _ :: _, [], h => h.elim
  | [], _ :: _, h => h.elim
  | _ :: _, _ :: _, h => by
    rw [List.reverse_cons, List.reverse_cons]
    exact (Rps.rev h.2).append ⟨h.1, True.intro⟩
theorem Rps.at {vs : List V} {xs : List D} {i : Int} {d : D} (h : Rps Z H F vs xs) (e : ((TY.ixN xs.length i).bind fun j => xs[j]?) = some d) : ∃ v, atI vs i = some v ∧ Rp Z H F v d := by
  unfold atI
  rw [ixN_eq, h.len]
  cases q : TY.ixN xs.length i with
  | none => rw [q] at e; cases e
  | some j =>
    rw [q] at e
    obtain ⟨v, h1, h2⟩ := h.get (i := j) e
    exact ⟨v, h1, h2⟩

/-! ### items -/
/-- the end of o[i], o a dict -/
theorem dn_subTail {prog : Program} {w : World} {A' : Around} {E : Value → Shared → Prop} {s : Shared} {value slice : Expr} {o i : Value} {Q : Value → Shared → Prop} (hT : s.TypeIs o "dict") (hs : subscripted slice false o i = operate [o, i] (getItem o i))
    (h : wpAny (model prog w) A' (getItem o i) Q E s) : wpAny (model prog w) A' (subscriptTail value slice o i) Q E s := by
  unfold subscriptTail
  refine wpAny_bind ?_
  rw [getitemInPython_of_ne hT.not_modules]
  refine wpAny_bind (wpAny_specialOf hT PySem.F.slot_dict_getitem.lookup ?_)
  have tail : wpAny (model prog w) A' (subscripted slice false o i) (fun r s₃ => wpAny (model prog w) A' (letTemporaryGo value o r >>= fun _ => pure r) Q E s₃) E s := by
    rw [hs]
    exact wpAny_operating (wpAny_mono h (fun r s₃ h₃ => wpAny_bind (wpAny_letTemporaryGo (wpAny_pure h₃))) fun _ _ z => z)
  first
    | exact wpAny_pure (wpAny_bind tail)
    | exact wpAny_bind (wpAny_pure (wpAny_bind tail))
    | exact wpAny_bind tail
/-- a dict with texts for keys, asked -/
theorem dk_look : ∀ {kvs : List (D × D)} {l : List (Key × V)} {z : List Nat} {d : D}, Rpk Z H F l kvs → lookD (.str z) kvs = some d → ∃ v, valV l (.inr (sS z)) = some v ∧ Rp Z H F v d
  | [], _, _, _, _, e => nomatch e
  | _ :: _, [], _, _, h, _ => h.elim
  | (k, b) :: kvs, p :: l, z, d, h, e => by
    obtain ⟨e1, e2⟩ := h.1
    unfold lookD at e
    cases k with
    | str x =>
      have e1 : some (Sum.inr (sS x)) = some p.1 := e1
      have e1 := (Option.some.inj e1).symm
      by_cases g : eqv (.str x) (.str z) = true
      · rw [if_pos g] at e
        cases e
        have : x = z := by simpa [eqv] using g
        subst this
        exact ⟨p.2, valV_pos e1, e2⟩
      · rw [if_neg g] at e
        obtain ⟨v, q1, q2⟩ := dk_look h.2 e
        refine ⟨v, ?_, q2⟩
        rw [valV_neg fun z' => g ?_]
        · exact q1
        · rw [e1] at z'
          have := sS_inj.mp (Sum.inr.inj z')
          simp [eqv, this]
    | int x =>
      have e1 : some (Sum.inl x) = some p.1 := e1
      have e1 := (Option.some.inj e1).symm
      rw [if_neg (by simp [eqv])] at e
      obtain ⟨v, q1, q2⟩ := dk_look h.2 e
      refine ⟨v, ?_, q2⟩
      rw [valV_neg fun z' => by rw [e1] at z'; cases z']
      exact q1
    | _ => cases e1
def rI (Z : Wh) : R2 := fun x y H Q => ∃ F d1 d2 r, Tk Z F H ∧ Rq Z F H x d1 ∧ Rq Z F H y d2 ∧ item d1 d2 = some r ∧ ∀ v, Rp Z H F v r → Q v H
theorem ix_d (A : At0 Z X) : IxR X (rI Z) := by
  intro value slice pins s σ H x y v u Q I rx ry h hs
  obtain ⟨F, d1, d2, r, t, h1, h2, hb, q⟩ := h
  unfold item at hb
  split at hb
  · obtain ⟨a, vs, rfl, e1, r1⟩ := h1
    cases h2
    obtain ⟨z, g1, g2⟩ := r1.at hb
    exact ix_list value slice pins s σ H _ _ v u Q I rx ry ⟨a, vs, _, z, rfl, rfl, SqL.of e1, g1, q z g2⟩ hs
  · obtain ⟨a, vs, rfl, e1, r1⟩ := h1
    cases h2
    obtain ⟨z, g1, g2⟩ := r1.at hb
    exact ix_tup value slice pins s σ H _ _ v u Q I rx ry ⟨a, vs, _, z, rfl, rfl, A.k ▸ sqT e1, g1, q z g2⟩ hs
  · rename_i ns i
    obtain ⟨a, rfl, e1⟩ := h1
    cases h2
    cases e : TY.ixN ns.length i with
    | none => rw [e] at hb; cases hb
    | some j =>
      rw [e] at hb
      cases e2 : ns[j]? with
      | none => simp only [Option.bind, e2] at hb; cases hb
      | some n =>
        simp only [Option.bind, e2] at hb
        cases hb
        refine ix_list value slice pins s σ H _ _ v u Q I rx ry ⟨a, ns.map V.int, i, .int n, rfl, rfl, A.k ▸ e1, ?_, q _ rfl⟩ hs
        unfold atI
        rw [ixN_eq, List.length_map, e]
        show (ns.map V.int)[j]? = _
        rw [List.getElem?_map, e2]; rfl
  · split at hb
    · rename_i z i hl
      cases h1
      cases h2
      cases e : TY.ixN z.length i with
      | none => rw [e] at hb; cases hb
      | some j =>
        rw [e] at hb
        cases e2 : z[j]? with
        | none => simp only [Option.bind, e2] at hb; cases hb
        | some c =>
          simp only [Option.bind, e2] at hb
          cases hb
          refine ix_str value slice pins s σ H _ _ v u Q I rx ry ⟨sS z, i, c, rfl, rfl, by rw [sS_len, line_eq]; exact hl, ?_, q (.str (sS [c])) rfl⟩ hs
          unfold atI
          rw [ixN_eq]
          show (TY.ixN z.length i).bind _ = _
          rw [e]; exact e2
    · cases hb
  · split at hb
    · rename_i kvs hk
      obtain ⟨tT, _⟩ := dn_getItem A I (Q := fun _ _ => True) rx ry h1 (Rq.key hk h2) hk hb fun _ _ _ _ _ _ => True.intro
      have go : ∀ {E : Value → Shared → Prop}, wpAny (model X.prog X.w) X.A (getItem v u) (fun r' s' => ∃ z, Inv X pins σ H s' ∧ RelV z r' ∧ Rp Z H F z r) X.xe s := fun {E} => (dn_getItem A I rx ry h1 (Rq.key hk h2) hk hb fun w' s' z I' rz pz => ⟨z, I', rz, pz⟩).2
      refine dn_subTail tT hs (wpAny_mono (go (E := X.xe)) (fun r' s' ⟨z, I', rz, pz⟩ => ⟨z, H, I', rz, q z pz⟩) fun _ _ e => e)
    · cases hb
  · obtain ⟨a, l, rfl, e, r1⟩ := h1
    cases h2
    obtain ⟨w0, g1, g2⟩ := dk_look r1 hb
    have g : DGet H a (.str (sS _)) (some w0) := .inl ⟨l, .inr (sS _), e, rfl, g1.symm⟩
    cases rx
    exact dn_subTail (dict_typeIs I g) hs (d_getItem (by have := A.hu; omega) I g ry fun w' s' I' rw' => ⟨w0, H, I', rw', q w0 g2⟩)
  · cases hb

/-! ### slices -/
def rS (Z : Wh) : V → Option Int → Option Int → Hp → VK → Prop := fun x lo hi H Q => ∃ F d r, Tk Z F H ∧ Rq Z F H x d ∧ slice d lo hi = some r ∧ Gv Z F H r Q
theorem sl_d (A : At0 Z X) : SlR X (rS Z) := by
  intro pins s σ H x v vl vu lo hi sl Q I rx hs pl pu h
  obtain ⟨F, d, r, t, h1, hb, q⟩ := h
  unfold TY.slice at hb
  split at hb
  · cases hb
    obtain ⟨a, vs, rfl, e1, r1⟩ := h1
    exact sl_list pins s σ H _ v vl vu lo hi sl Q I rx hs pl pu ⟨a, vs, rfl, SqL.of e1, fun p hp => q.lst t (r1.cut lo hi) hp⟩
  · rename_i xs
    cases hb
    obtain ⟨a, vs, rfl, e1, r1⟩ := h1
    refine sl_tupA pins s σ H _ v vl vu lo hi sl Q I rx hs pl pu ⟨a, vs, rfl, A.k ▸ sqT e1, fun z => ?_, fun _ p hp => q.tup t (r1.cut lo hi) hp⟩
    have e : TY.cut xs lo hi = xs := by
      unfold TY.cut
      rw [← sIx_eq, ← sIx_eq, ← r1.len, z.1, z.2, List.drop_zero, Nat.sub_zero, r1.len, List.take_length]
    rw [e] at q
    exact q _ F H [] .refl ⟨rfl, a, vs, rfl, e1, r1⟩
  · split at hb
    · rename_i z hl
      cases hb
      cases h1
      refine sl_str pins s σ H _ v vl vu lo hi sl Q I rx hs pl pu ⟨sS z, rfl, by rw [sS_len, line_eq]; exact hl, ?_⟩
      have e : cutS (sS z) lo hi = sS (TY.cut z lo hi) := by
        unfold cutS TY.cut
        rw [sIx_eq, sIx_eq, sS_len]
      rw [e]
      exact q.str
    · cases hb
  · cases hb

/-! ### kinds -/
def tyS : Ty → String
  | .int => "int" | .bool => "bool" | .str => "str" | .tuple => "tuple" | .list => "list"
def dT : D → String
  | .non => "NoneType" | .bl _ => "bool" | .int _ => "int" | .str _ => "str" | .tup _ => "tuple" | .lst _ => "list" | _ => ""
theorem isT_kit {t : Ty} {d : D} {b : Bool} (h : isT t d = some b) : kitB (dT d) (tyS t) = some b := by
  cases t <;> cases d <;> first | (cases h; done) | (cases h; (try simp only [dT, tyS]); decide +kernel)
theorem isTs_kit {K : PySem.W.Frag} {d : D} : ∀ {ts : List Ty} {b : Bool}, isTs ts d = some b → PySem.W.kitAny K (.type (dT d)) (ts.map fun t => .type (tyS t)) = some b
  | [], _, h => h
  | t :: ts, b, h => by
    unfold isTs at h
    cases e : isT t d with
    | none => rw [e] at h; cases h
    | some b1 =>
      rw [e] at h
      cases e2 : isTs ts d with
      | none => simp only [Option.bind, e2] at h; cases h
      | some c =>
        simp only [Option.bind, e2] at h
        cases h
        refine kitAny_cons (kit_ty (isT_kit e)) (fun z => ?_) (fun z => ?_)
        · subst z
          show _ = some (false || c)
          rw [Bool.false_or]
          exact isTs_kit e2
        · subst z
          rfl
theorem tyx_of {Z : Wh} {F : AP} {H : Hp} {v : V} {d : D} {t : Ty} {b : Bool} (h : Rq Z F H v d) (e : isT t d = some b) : TyX Z.K H v (.type (dT d)) := by
  cases d with
  | non => cases h; exact .base .non
  | bl _ => cases h; exact .base (.bl _)
  | int _ => cases h; exact .base (.int _)
  | str _ => cases h; exact .base (.str _)
  | lst _ => obtain ⟨a, vs, rfl, e, _⟩ := h; exact .base (.lst e)
  | tup _ =>
    obtain ⟨a, vs, rfl, e, _⟩ := h
    rcases e with ⟨_, e | ⟨o, e⟩⟩ | ⟨o, its, n, h1, h2, _⟩
    · exact .base (.tup e)
    · exact .fTuple e
    · exact .kTuple h1 h2
  | dk _ => cases t <;> cases e
  | dn _ => cases t <;> cases e
  | fn _ => cases t <;> cases e
  | scr _ => cases t <;> cases e
  | exc _ => cases t <;> cases e

/-! ### built-in functions -/
def Rqs (Z : Wh) (F : AP) (H : Hp) : List V → List D → Prop
  | [], [] => True
  | v :: vs, d :: ds => Rq Z F H v d ∧ Rqs Z F H vs ds
  | _, _ => False
def blV : Blt → Value
  | .abs => .builtin "abs" | .int => .type "int" | .min2 => .builtin "min" | .max2 => .builtin "max" | .minl => .builtin "min" | .maxl => .builtin "max" | .len => .builtin "len" | .sum => .builtin "sum" | .all => .builtin "all" | .any => .builtin "any"
  | .sorted => .builtin "sorted" | .sortset => .builtin "sorted" | .tuple => .type "tuple" | .list => .type "list" | .dictp => .type "dict" | .str => .type "str"
def rBl (Z : Wh) (b : Blt) : List V → Hp → VK → Prop := fun xs H Q => ∃ F ds r, Tk Z F H ∧ Rqs Z F H xs ds ∧ blt b ds = some r ∧ Gv Z F H r Q
theorem Rqs.one {xs : List V} {d : D} (h : Rqs Z F H xs [d]) : ∃ v, xs = [v] ∧ Rq Z F H v d := by
  cases xs with
  | nil => exact h.elim
  | cons v vs =>
    cases vs with
    | nil => exact ⟨v, rfl, h.1⟩
    | cons _ _ => exact h.2.elim
theorem Rqs.two {xs : List V} {d e : D} (h : Rqs Z F H xs [d, e]) : ∃ v w, xs = [v, w] ∧ Rq Z F H v d ∧ Rq Z F H w e := by
  cases xs with
  | nil => exact h.elim
  | cons v vs =>
    obtain ⟨w, rfl, h2⟩ := Rqs.one h.2
    exact ⟨v, w, rfl, h.1, h2⟩
theorem allI_rps : ∀ {vs : List V} {ds : List D} {l : List Int}, Rps Z H F vs ds → allI ds = some l → vs = l.map V.int
  | [], [], _, _, e => by cases e; rfl
  | _ :: _, [], _, h, _ => h.elim
  | [], _ :: _, _, h, _ => h.elim
  | v :: vs, d :: ds, l, h, e => by
    cases d with
    | int i =>
      simp only [allI] at e
      cases q : allI ds with
      | none => rw [q] at e; cases e
      | some r =>
        rw [q] at e
        cases e
        have := allI_rps h.2 q
        rw [this, h.1]; rfl
    | _ => cases e
theorem allS_rps : ∀ {vs : List V} {ds : List D} {l : List (List Nat)}, Rps Z H F vs ds → allS ds = some l → vs = (l.map sS).map V.str
  | [], [], _, _, e => by cases e; rfl
  | _ :: _, [], _, h, _ => h.elim
  | [], _ :: _, _, h, _ => h.elim
  | v :: vs, d :: ds, l, h, e => by
    cases d with
    | str i =>
      simp only [allS] at e
      cases q : allS ds with
      | none => rw [q] at e; cases e
      | some r =>
        rw [q] at e
        cases e
        have := allS_rps h.2 q
        rw [this, h.1]; rfl
    | _ => cases e
theorem allB_rps : ∀ {vs : List V} {ds : List D} {l : List Bool}, Rps Z H F vs ds → allB ds = some l → vs = l.map V.bl
  | [], [], _, _, e => by cases e; rfl
  | _ :: _, [], _, h, _ => h.elim
  | [], _ :: _, _, h, _ => h.elim
  | v :: vs, d :: ds, l, h, e => by
    cases d with
    | bl i =>
      simp only [allB] at e
      cases q : allB ds with
      | none => rw [q] at e; cases e
      | some r =>
        rw [q] at e
        cases e
        have := allB_rps h.2 q
        rw [this, h.1]; rfl
    | _ => cases e
theorem rps_ints : ∀ l : List Int, Rps Z H F (l.map V.int) (l.map D.int)
  | [] => True.intro
  | _ :: l => ⟨rfl, rps_ints l⟩
theorem rps_strs : ∀ l : List (List Nat), Rps Z H F ((l.map sS).map V.str) (l.map D.str)
  | [] => True.intro
  | _ :: l => ⟨rfl, rps_strs l⟩
end
theorem maxL_of {l : List Int} {m m' : Int} (e : maxL l = some m) (h1 : m' ∈ l) (h2 : ∀ y ∈ l, y ≤ m') : m' = m := by
  cases l with
  | nil => cases e
  | cons x r =>
    cases e
    have key : ∀ (r : List Int) (x : Int), (r.foldl (fun m y => if m < y then y else m) x) ∈ x :: r ∧ ∀ y ∈ x :: r, y ≤ r.foldl (fun m y => if m < y then y else m) x := by
      intro r
      induction r with
      | nil => intro x; exact ⟨List.mem_singleton.mpr rfl, fun y hy => by rw [List.mem_singleton.mp hy]; exact Int.le_refl _⟩
      | cons z r ih =>
        intro x
        rw [List.foldl_cons]
        obtain ⟨a, b⟩ := ih (if x < z then z else x)
        constructor
        · rcases List.mem_cons.mp a with a | a
          · rw [a]
            split
            · simp
            · simp
          · exact List.mem_cons_of_mem _ (List.mem_cons_of_mem _ a)
        · intro y hy
          have hx := b _ List.mem_cons_self
          rcases List.mem_cons.mp hy with hy | hy
          · rw [hy]; split at hx <;> rename_i c <;> (try rw [if_pos c]) <;> (try rw [if_neg c]) <;> omega
          · rcases List.mem_cons.mp hy with hy | hy
            · rw [hy]; split at hx <;> rename_i c <;> (try rw [if_pos c]) <;> (try rw [if_neg c]) <;> omega
            · exact b y (List.mem_cons_of_mem _ hy)
    obtain ⟨a, b⟩ := key r x
    have := b m' h1
    have := h2 _ a
    omega
theorem minL_of {l : List Int} {m m' : Int} (e : minL l = some m) (h1 : m' ∈ l) (h2 : ∀ y ∈ l, m' ≤ y) : m' = m := by
  cases l with
  | nil => cases e
  | cons x r =>
    cases e
    have key : ∀ (r : List Int) (x : Int), (r.foldl (fun m y => if y < m then y else m) x) ∈ x :: r ∧ ∀ y ∈ x :: r, r.foldl (fun m y => if y < m then y else m) x ≤ y := by
      intro r
      induction r with
      | nil => intro x; exact ⟨List.mem_singleton.mpr rfl, fun y hy => by rw [List.mem_singleton.mp hy]; exact Int.le_refl _⟩
      | cons z r ih =>
        intro x
        rw [List.foldl_cons]
        obtain ⟨a, b⟩ := ih (if z < x then z else x)
        constructor
        · rcases List.mem_cons.mp a with a | a
          · rw [a]
            split
            · simp
            · simp
          · exact List.mem_cons_of_mem _ (List.mem_cons_of_mem _ a)
        · intro y hy
          have hx := b _ List.mem_cons_self
          rcases List.mem_cons.mp hy with hy | hy
          · rw [hy]; split at hx <;> rename_i c <;> (try rw [if_pos c]) <;> (try rw [if_neg c]) <;> omega
          · rcases List.mem_cons.mp hy with hy | hy
            · rw [hy]; split at hx <;> rename_i c <;> (try rw [if_pos c]) <;> (try rw [if_neg c]) <;> omega
            · exact b y (List.mem_cons_of_mem _ hy)
    obtain ⟨a, b⟩ := key r x
    have := b m' h1
    have := h2 _ a
    omega
end TY
/-! TySo: sorted(text); sorted lists of texts. -/
namespace TY
open PySem PySem.Spec PyProof.Rows L2
theorem ltL_irrefl : ∀ a : List Nat, ltL a a = false
  | [] => rfl
  | x :: r => by unfold ltL; simp [ltL_irrefl r]
section
variable {X : Cx}
theorem strs_of_sign {z : List Nat} {acc : Array Value} (h : ItemsOf (SignAt (sS z)) acc (sS z).cps.size) : StrsAre acc.toList (z.map fun c => sS [c]) := by
  have hl : acc.toList.length = (z.map fun c => sS [c]).length := by
    rw [Array.length_toList, h.1]; show z.toArray.size = _; simp
  refine strs_at hl fun j v e => ?_
  obtain ⟨c, u, h1, h2⟩ := h.2 j v (by rw [← Array.getElem?_toList]; exact e)
  have h1 : z.toArray[j]? = some c := h1
  rw [List.getElem?_toArray] at h1
  exact ⟨sS [c], u, by rw [List.getElem?_map, h1]; rfl, h2⟩
theorem call_listText (hcalm : X.calm = true) : CallR X (.type "list") (fun xs H Q => ∃ z : List Nat, xs = [.str (sS z)] ∧ z.length ≤ 1000 ∧ ∀ p, H p = none → Q (.ref p) (upd H p (.lst (z.map fun c => .str (sS [c]))))) := by
  intro pins s σ H xs us Q I r h
  obtain ⟨z, rfl, hz, q⟩ := h
  obtain ⟨u, rfl, t, rfl⟩ := Vals.one r
  have hs : (sS z).cps.size ≤ sizeLine := by
    show z.toArray.size ≤ sizeLine
    rw [List.size_toArray]
    exact Nat.le_trans hz (by decide)
  refine call_list_str (hn := hs) (I.ok.hd hcalm) (sS z) t fun h' tk acc c' hk hl hacc => ?_
  have hS := strs_of_sign hacc
  refine ⟨.ref _, upd H s.heap.objs.size (.lst (z.map fun c => .str (sS [c]))), I.laid (t' := tk) hk (Nat.le_refl _) ⟨by rw [List.length_map]; exact Nat.le_trans hz (by decide), acc.toList, c', ?_, by rw [Array.toArray_toList]; exact hl⟩, rfl, q _ (I.hok.fresh (Nat.le_refl _))⟩
  have := vals_of_strs hS
  rw [List.map_map] at this
  exact this
theorem call_sortedText (hcalm : X.calm = true) : CallR X (.builtin "sorted") (fun xs H Q => ∃ z : List Nat, xs = [.str (sS z)] ∧ z.length < 64 ∧ ∀ ys p, ys.Perm (z.map fun c => sS [c]) → sortedS ys = true → H p = none → Q (.ref p) (upd H p (.lst (ys.map V.str)))) := by
  intro pins s σ H xs us Q I r h
  obtain ⟨z, rfl, h64, q⟩ := h
  obtain ⟨u, rfl, t, rfl⟩ := Vals.one r
  have hz : (sS z).cps.size ≤ sizeLine := by
    show z.toArray.size ≤ sizeLine
    rw [List.size_toArray]
    exact Nat.le_trans (Nat.le_of_lt h64) (by decide)
  refine Calls.call_function_entry PyProof.Rows.kind_sorted PyProof.Rows.plain_sorted PyProof.Rows.entry_sorted (PyProof.Rows.args_sorted1 _) ?_
  unfold Builtin.«sorted»
  refine wpAny_bind (m := checkCount "sorted" 1 1 _) (wpAny_pure ?_)
  refine wpAny_bind (wpAny_collect_str (A := X.A.in1) (hn := hz) (I.ok.hd hcalm) (sS z) t fun s' acc hk hg hd ho hacc => ?_)
  obtain ⟨h', g', d', tk, o'⟩ := s'
  replace hg : g' = s.gens := hg
  replace hd : d' = s.drawn := hd
  replace ho : o' = s.os := ho
  subst hg hd ho
  replace hk : ∀ b o, s.heap.get? b = some o → h'.get? b = some o := hk
  have hS := strs_of_sign hacc
  have hal : acc.toList.length = z.length := by rw [hS.length, List.length_map]
  have I1 : Inv X pins σ H { s with heap := h', toks := tk } := I.kept hk
  refine wpAny_bind (wpAny_newList ?_ (by rw [hal, sizeLine_eq]; omega))
  have ho : (h'.push (seqObj "list" acc.toList.toArray 0)).get? h'.objs.size = some (seqObj "list" acc.toList.toArray 0) := Heap.get?_push_size _ rfl
  show wpAny _ _ _ _ _ { s with heap := h'.push (seqObj "list" acc.toList.toArray 0), toks := tk }
  refine wpAny_bind (wpAny_holding (wpAny_call_entry PyProof.Rows.slot_list_sort ⟨_, ho, rfl⟩ PyProof.Rows.entry_list_sort
    (list_sort_treeK strKind_oneLt (s := { s with heap := h'.push (seqObj "list" acc.toList.toArray 0), toks := tk }) ho hS.keysOf (fun a b rest e => keyKind_strs (by rw [← e]; exact hS)) (by rw [hal]; exact h64) fun st' hp hs => ⟨_, rfl, ?_⟩)
    (PyProof.Rows.args_list_sort _)))
  obtain ⟨ys, g1, g2, g3⟩ := sorted_out_str hS hp hs
  obtain ⟨e', he'⟩ := PyProof.Rows.sortedHeap_at (vs := acc.toList) (out := (arrOf st').map (·.2)) ho
  have hlen : (ys.map V.str).length ≤ sizeLine := by
    rw [List.length_map, g2.length_eq, List.length_map]
    exact Nat.le_trans (Nat.le_of_lt h64) (by decide)
  refine wpAny_pure ⟨_, rfl, .ref h'.objs.size, upd H h'.objs.size (.lst (ys.map V.str)), I1.laid (t' := tk) (fun b w e => ?_) (Nat.le_refl _)
    (show ObjOk X.prog X.w _ _ _ (.lst (ys.map V.str)) from ⟨hlen, ((arrOf st').map (·.2)).toList, e', vals_of_strs g1, by rw [Array.toArray_toList]; exact he'⟩), rfl, q ys _ g2 g3 (I1.hok.fresh (Nat.le_refl _))⟩
  have hb : b < h'.objs.size := Heap.lt_size e
  rw [PyProof.Rows.sortedHeap_old (Nat.ne_of_lt hb) (by rw [Heap.size_push]; exact Nat.lt_succ_of_lt hb)]
  exact Heap.get?_push_of_some _ e
end
/-! ### the sorted list is the one of insertions -/
theorem ltL_trans : ∀ {a b c : List Nat}, ltL a b = true → ltL b c = true → ltL a c = true := by
  intro a b c h1 h2
  rw [ltL_eq] at *
  simp only [decide_eq_true_eq] at *
  exact List.lt_trans h1 h2
theorem ltL_total : ∀ a b : List Nat, ltL a b = true ∨ a = b ∨ ltL b a = true
  | [], [] => .inr (.inl rfl)
  | [], _ :: _ => .inl rfl
  | _ :: _, [] => .inr (.inr rfl)
  | x :: r, y :: s => by
    unfold ltL
    rcases Nat.lt_trichotomy x y with h | h | h
    · exact .inl (by simp [h, Nat.ne_of_lt h])
    · subst h
      rcases ltL_total r s with h | h | h
      · exact .inl (by simp [h])
      · exact .inr (.inl (by rw [h]))
      · exact .inr (.inr (by simp [h]))
    · exact .inr (.inr (by simp [h, Nat.ne_of_lt h]))
def leL (a b : List Nat) : Prop := ltL b a = false
theorem leL_trans {a b c : List Nat} (h1 : leL a b) (h2 : leL b c) : leL a c := by
  unfold leL at *
  cases q : ltL c a with
  | false => rfl
  | true =>
    rcases ltL_total b c with h | h | h
    · rw [ltL_trans h q] at h1; cases h1
    · rw [h, q] at h1; cases h1
    · rw [h] at h2; cases h2
theorem leL_anti {a b : List Nat} (h1 : leL a b) (h2 : leL b a) : a = b := by
  unfold leL at *
  rcases ltL_total a b with h | h | h
  · rw [h] at h2; cases h2
  · exact h
  · rw [h] at h1; cases h1
theorem insS_perm (x : List Nat) : ∀ l : List (List Nat), (insS x l).Perm (x :: l)
  | [] => .refl _
  | y :: r => by
    unfold insS
    split
    · exact .refl _
    · exact ((insS_perm x r).cons y).trans (List.Perm.swap _ _ _)
theorem insS_sorted (x : List Nat) : ∀ {l : List (List Nat)}, l.Pairwise leL → (insS x l).Pairwise leL
  | [], _ => by simp [insS]
  | y :: r, h => by
    obtain ⟨h1, h2⟩ := List.pairwise_cons.mp h
    unfold insS
    split
    · rename_i hc
      have xy : leL x y := by
        unfold leL
        cases q : ltL y x with
        | false => rfl
        | true => have := ltL_trans hc q; rw [ltL_irrefl] at this; cases this
      exact List.pairwise_cons.mpr ⟨fun z hz => by
        rcases List.mem_cons.mp hz with rfl | hz
        · exact xy
        · exact leL_trans xy (h1 z hz), h⟩
    · rename_i hc
      refine List.pairwise_cons.mpr ⟨fun z hz => ?_, insS_sorted x h2⟩
      rcases List.mem_cons.mp ((insS_perm x r).mem_iff.mp hz) with rfl | hz
      · unfold leL; simpa using hc
      · exact h1 z hz
theorem sortS_foldl : ∀ (l acc : List (List Nat)), acc.Pairwise leL → (l.foldl (fun r x => insS x r) acc).Perm (l ++ acc) ∧ (l.foldl (fun r x => insS x r) acc).Pairwise leL
  | [], acc, h => ⟨.refl _, h⟩
  | x :: l, acc, h => by
    obtain ⟨p, s⟩ := sortS_foldl l (insS x acc) (insS_sorted x h)
    exact ⟨p.trans ((List.Perm.append_left l (insS_perm x acc)).trans List.perm_middle), s⟩
theorem ltCps_eq : ∀ a b : List Nat, ltCps a b = ltL a b
  | [], [] => by unfold ltCps ltL; rfl
  | [], _ :: _ => by unfold ltCps ltL; rfl
  | _ :: _, [] => by unfold ltCps ltL; rfl
  | x :: r, y :: s => by
    unfold ltCps ltL
    rw [ltCps_eq r s]
    rcases Nat.lt_trichotomy x y with h | h | h
    · simp [h, Nat.ne_of_lt h]
    · simp [h]
    · have h1 : ¬ x < y := by omega
      have h2 : ¬ x = y := by omega
      simp [h1, h2]
theorem risingS_pw : ∀ {ys : List (List Nat)} {p : List Nat}, risingS (sS p) (ys.map sS) = true → (p :: ys).Pairwise leL
  | [], p, _ => by simp
  | x :: r, p, h => by
    rw [List.map_cons, risingS, Bool.and_eq_true, Bool.not_eq_true'] at h
    have ih := risingS_pw h.2
    have hx : leL p x := by
      have := h.1
      rw [ltCps_eq] at this
      exact this
    refine List.pairwise_cons.mpr ⟨fun z hz => ?_, ih⟩
    rcases List.mem_cons.mp hz with rfl | hz
    · exact hx
    · exact leL_trans hx ((List.pairwise_cons.mp ih).1 z hz)
theorem sortedS_pw : ∀ {ys : List (List Nat)}, sortedS (ys.map sS) = true → ys.Pairwise leL
  | [], _ => .nil
  | p :: ys, h => risingS_pw h
theorem sortS_ok (l : List (List Nat)) {ys : List Str} (p : ys.Perm (l.map sS)) (s : sortedS ys = true) : ys = (sortS l).map sS := by
  have hm : ∃ zs : List (List Nat), ys = zs.map sS := ⟨ys.map fun y => y.cps.toList, by
    rw [List.map_map]
    conv => lhs; rw [← List.map_id ys]
    apply List.map_congr_left
    intro y _
    show y = sS y.cps.toList
    unfold sS
    simp⟩
  obtain ⟨zs, rfl⟩ := hm
  have inj : Function.Injective sS := fun a b h => sS_inj.mp h
  have pz : zs.Perm l := by
    have := p.map fun y : Str => y.cps.toList
    rw [List.map_map, List.map_map] at this
    have e : ((fun y : Str => y.cps.toList) ∘ sS) = id := by funext a; simp [sS]
    rw [e, List.map_id, List.map_id] at this
    exact this
  obtain ⟨p2, s2⟩ := sortS_foldl l [] .nil
  rw [List.append_nil] at p2
  have := (pz.trans p2.symm).eq_of_pairwise (fun x y _ _ h1 h2 => leL_anti h1 h2) (sortedS_pw s) s2
  rw [this]
  rfl
end TY
/-! TyE: expressions: what the evaluator gives, the model gives (simple forms). -/
namespace TY
open PySem PySem.Spec PyProof.Rows L2
section
variable {Z : Wh} {G : Glob} {cf : CallF} {W : WX} {X : Cx}
variable (Z G cf W) in
def rdE (e : E) : TE := fun σ H Q => ∃ F O τ, Rl Z F O τ σ H ∧ Post Z (rO Z σ) W σ F O H (ev G cf e τ) Q
variable (Z G cf W) in
def rdDs (es : List E) : TA := fun σ H Q => ∃ F O τ, Rl Z F O τ σ H ∧ Post Z (rDs Z) W σ F O H (evs G cf es τ) Q
/-- operands in a row: each as it stands behind all -/
def rOs (Z : Wh) (σ : L2.St) : RRel (List V) (List Op) := fun F O τ H vs _ xs => ∀ ds, xs.mapM (der τ) = some ds → Rqs Z F H vs ds
variable (Z G cf W) in
def rdOs (es : List E) : TA := fun σ H Q => ∃ F O τ, Rl Z F O τ σ H ∧ Post Z (rOs Z σ) W σ F O H (evos G cf es τ) Q
theorem _root_.L2.PE.imp {e : Expr} {t t' : TE} (h : PE X e t) (k : ∀ σ H Q, t' σ H Q → t σ H Q) : PE X e t' := ⟨fun pins s σ H Q I q => h.run pins s σ H Q I (k σ H Q q)⟩
theorem _root_.L2.PA.imp {e : List Expr} {t t' : TA} (h : PA X e t) (k : ∀ σ H Q, t' σ H Q → t σ H Q) : PA X e t' := ⟨fun pos pins s σ H Q I q => h.run pos pins s σ H Q I (k σ H Q q)⟩
theorem _root_.L2.PT.imp {e : Expr} {t t' : TT} (h : PT X e t) (k : ∀ σ H Q, t' σ H Q → t σ H Q) : PT X e t' := ⟨fun pins s σ H Q I q => h.run pins s σ H Q I (k σ H Q q)⟩
theorem _root_.L2.PW.imp {e : Expr} {t t' : TT} (h : PW X e t) (k : ∀ σ H Q, t' σ H Q → t σ H Q) : PW X e t' := ⟨fun wh pins s σ H Q I q => h.run wh pins s σ H Q I (k σ H Q q)⟩
theorem Rl.tk {F : AP} {O : Ow} {τ : Tau} {σ : L2.St} {H : Hp} (R : Rl Z F O τ σ H) : Tk Z F H := R.trk
/-- the last step of an operation: its value is given -/
theorem Post.gv {σ : L2.St} {F0 : AP} {O0 : Ow} {H0 : Hp} {F : AP} {O : Ow} {H : Hp} {τ : Tau} {r : Op} {cs : List Addr} {Q : VK} (E : Ext F0 O0 H0 F O H cs) (R : Rl Z F O τ σ H) (h : Post Z (rO Z σ) W σ F0 O0 H0 (.ok r τ) Q) (hr : ∀ i, r ≠ .slot i) (hs : ∀ i j, r ≠ .sub i j) : Gv Z F H r Q := by
  intro v F' H' cs' n q
  refine h v cs' F' O H' (E.trans (n.ext R)) (n.rl R) ⟨?_, fun b hb i hi => ?_⟩
  · cases r with
    | val d => exact q
    | tmp m => exact q
    | slot i => exact absurd rfl (hr i)
    | sub i j => exact absurd rfl (hs i j)
  · exact (R.ownTrk hi).1.no (n.c b hb)
/-- a value that is part of what stands is given -/
theorem Post.rp {σ : L2.St} {F0 : AP} {O0 : Ow} {H0 : Hp} {F : AP} {O : Ow} {H : Hp} {τ : Tau} {d : D} {v : V} {cs : List Addr} {Q : VK} (E : Ext F0 O0 H0 F O H cs) (R : Rl Z F O τ σ H) (h : Post Z (rO Z σ) W σ F0 O0 H0 (.ok (.val d) τ) Q) (p : Rp Z H F v d) : Q v H :=
  h v [] F O H E.drop R ⟨⟨rfl, p⟩, fun _ hb => absurd hb (by simp)⟩
theorem Post.bl {σ : L2.St} {F0 : AP} {O0 : Ow} {H0 : Hp} {F : AP} {O : Ow} {H : Hp} {τ : Tau} {b : Bool} {cs : List Addr} {Q : VK} (E : Ext F0 O0 H0 F O H cs) (R : Rl Z F O τ σ H) (h : Post Z (rO Z σ) W σ F0 O0 H0 (.ok (.val (.bl b)) τ) Q) : Q (.bl b) H := Post.rp E R h rfl

/-! ### names, constants -/
theorem e_loc {i : Nat} {x : Str} {pos : Pos} (hN : X.N[i]? = some x) (hv : Vis X.env.scope x) (hd : (x == ("__debug__" : Str)) = false) (hcd : (x == ("__classdict__" : Str)) = false) : PE X (.Name x pos) (rdE Z G cf W (.loc i)) := by
  refine (pe_var hN hv hd hcd).imp fun σ H Q ⟨F, O, τ, R, h⟩ => ?_
  simp only [ev] at h
  split at h
  · rename_i d q
    obtain ⟨v, h1, h2⟩ := R.val i d q
    exact ⟨v, h1, Post.rp .refl R h h2⟩
  · rename_i m q
    obtain ⟨v, h1, h2⟩ := R.own i m q
    exact ⟨v, h1, h v [] F O H .refl R ⟨⟨rfl, h1⟩, fun _ hb => absurd hb (by simp)⟩⟩
  · exact h.elim
theorem e_c {d : D} {c : Const} {j : Nat} {pos : Pos} {v : V} (hp : PE X (.Constant c j pos) (tC v)) (hr : ∀ F H, Rp Z H F v d) : PE X (.Constant c j pos) (rdE Z G cf W (.c d)) := by
  refine hp.imp fun σ H Q ⟨F, O, τ, R, h⟩ => ?_
  simp only [ev] at h
  exact Post.rp .refl R h (hr F H)
theorem e_gl {g : Nat} {x : Str} {pos : Pos} {u : Value} {v : V} {d : D} (hg : Gl X x) (hm : X.mg x = some u) (r : RelV v u) (hG : G.gl g = some d) (hr : ∀ F H, Rp Z H F v d) (hd : (x == ("__debug__" : Str)) = false) : PE X (.Name x pos) (rdE Z G cf W (.gl g)) := by
  refine (pe_glob hg hm r hd).imp fun σ H Q ⟨F, O, τ, R, h⟩ => ?_
  simp only [ev] at h
  obtain ⟨a, e, h⟩ := Post.lift0 h
  rw [hG] at e
  cases e
  exact Post.rp .refl R h (hr F H)
theorem e_fnv {f : Nat} {x : Str} {pos : Pos} {a : Addr} (hg : Gl X x) (hm : X.mg x = some (.ref a)) (hf : Z.fa f = some a) (hd : (x == ("__debug__" : Str)) = false) : PE X (.Name x pos) (rdE Z G cf W (.fnv f)) := by
  refine (pe_glob (v := .ref a) hg hm rfl hd).imp fun σ H Q ⟨F, O, τ, R, h⟩ => ?_
  simp only [ev] at h
  exact Post.rp .refl R h ⟨a, hf, rfl⟩

/-! ### operators -/
variable {a b c : E} {a' b' c' : Expr} {pos : Pos}
theorem bop_new {o : BO} {d1 d2 : D} {r : Op} (h : bop o d1 d2 = some r) : (∀ i, r ≠ .slot i) ∧ ∀ i j, r ≠ .sub i j := by
  unfold bop at h
  split at h <;> first
    | (cases h; done)
    | (cases h; exact ⟨fun _ z => (nomatch z), fun _ _ z => (nomatch z)⟩)
    | (split at h <;> first
        | (cases h; done)
        | (cases h; exact ⟨fun _ z => (nomatch z), fun _ _ z => (nomatch z)⟩))
    | (obtain ⟨z, _, rfl⟩ := Option.map_eq_some_iff.mp h; exact ⟨fun _ z => (nomatch z), fun _ _ z => (nomatch z)⟩)
theorem e_bop {o : BO} (A : At0 Z X) (ha : PE X a' (rdE Z G cf W a)) (hb : PE X b' (rdE Z G cf W b)) : PE X (.BinOp a' (boA o) b' pos) (rdE Z G cf W (.bop o a b)) := by
  refine (pe_op (op_b A o) ha hb).imp fun σ H Q ⟨F, O, τ, R, h⟩ => ?_
  simp only [ev] at h
  refine ⟨F, O, τ, R, (Post.bind h).mono fun x H1 ⟨F1, O1, τ1, x1, c1, E1, R1, r1, _, h1⟩ => ?_⟩
  obtain ⟨hh, h1⟩ := Post.hold h1
  refine ⟨F1, O1, τ1, R1, (Post.bind (Post.weak E1 h1)).mono fun y H2 ⟨F2, O2, τ2, x2, c2, E2, R2, r2, _, h2⟩ => ?_⟩
  obtain ⟨r, e, h2⟩ := Post.lift0 h2
  cases q1 : der τ2 x1 with
  | none => rw [q1] at e; cases e
  | some d1 =>
    cases q2 : der τ2 x2 with
    | none => simp only [q1, q2, Option.bind] at e; cases e
    | some d2 =>
      simp only [q1, q2, Option.bind] at e
      have r1' := (r1.1.carry (τ' := τ2) hh E2 r1.2).1
      exact ⟨F2, d1, d2, r, R2.tk, r1'.der R2 q1, r2.1.der R2 q2, e, Post.gv E2 R2 h2 (bop_new e).1 (bop_new e).2⟩
theorem cop_rd {o : CO} {σ : L2.St} {H : Hp} {Q : VK} (h : rdE Z G cf W (.cop o a b) σ H Q) : tOp (rC Z o) (rdE Z G cf W a) (rdE Z G cf W b) σ H Q := by
  obtain ⟨F, O, τ, R, h⟩ := h
  simp only [ev] at h
  refine ⟨F, O, τ, R, (Post.bind h).mono fun x H1 ⟨F1, O1, τ1, x1, c1, E1, R1, r1, _, h1⟩ => ?_⟩
  obtain ⟨hh, h1⟩ := Post.hold h1
  refine ⟨F1, O1, τ1, R1, (Post.bind (Post.weak E1 h1)).mono fun y H2 ⟨F2, O2, τ2, x2, c2, E2, R2, r2, _, h2⟩ => ?_⟩
  obtain ⟨r, e, h2⟩ := Post.lift0 h2
  cases q1 : der τ2 x1 with
  | none => rw [q1] at e; cases e
  | some d1 =>
    cases q2 : der τ2 x2 with
    | none => simp only [q1, q2, Option.bind] at e; cases e
    | some d2 =>
      simp only [q1, q2, Option.bind] at e
      obtain ⟨k, ek, rfl⟩ := Option.map_eq_some_iff.mp e
      have r1' := (r1.1.carry (τ' := τ2) hh E2 r1.2).1
      exact ⟨F2, d1, d2, k, R2.tk, r1'.der R2 q1, r2.1.der R2 q2, ek, Post.bl E2 R2 h2⟩
theorem e_cop {o : CO} (A : At0 Z X) (ha : PE X a' (rdE Z G cf W a)) (hb : PE X b' (rdE Z G cf W b)) (hm : behindInMarks (coA o) b' = false) : PE X (.Compare a' [coA o] [b'] pos) (rdE Z G cf W (.cop o a b)) :=
  (pe_cmpR (op_co A o) ha hb hm).imp fun σ H Q h => cop_rd h
theorem e_and {rest : List Expr} (ha : PE X a' (rdE Z G cf W a)) (hb : PE X (.BoolOp .And (b' :: rest) pos) (rdE Z G cf W b)) : PE X (.BoolOp .And (a' :: b' :: rest) pos) (rdE Z G cf W (.and a b)) := by
  refine (pe_and ha hb).imp fun σ H Q ⟨F, O, τ, R, h⟩ => ?_
  simp only [ev] at h
  refine ⟨F, O, τ, R, (Post.bind h).mono fun x H1 ⟨F1, O1, τ1, x1, c1, E1, R1, r1, _, h1⟩ => ?_⟩
  obtain ⟨k, rfl, h1⟩ := Post.asB h1
  obtain rfl : x = .bl k := r1.1.2
  refine ⟨k, rfl, ?_⟩
  cases k with
  | true => exact iteT ⟨F1, O1, τ1, R1, Post.weak E1 h1⟩
  | false => exact iteF (Post.bl E1 R1 h1)
theorem e_or {rest : List Expr} (ha : PE X a' (rdE Z G cf W a)) (hb : PE X (.BoolOp .Or (b' :: rest) pos) (rdE Z G cf W b)) : PE X (.BoolOp .Or (a' :: b' :: rest) pos) (rdE Z G cf W (.or a b)) := by
  refine (pe_or ha hb).imp fun σ H Q ⟨F, O, τ, R, h⟩ => ?_
  simp only [ev] at h
  refine ⟨F, O, τ, R, (Post.bind h).mono fun x H1 ⟨F1, O1, τ1, x1, c1, E1, R1, r1, _, h1⟩ => ?_⟩
  obtain ⟨k, rfl, h1⟩ := Post.asB h1
  obtain rfl : x = .bl k := r1.1.2
  refine ⟨k, rfl, ?_⟩
  cases k with
  | true => exact iteT (Post.bl E1 R1 h1)
  | false => exact iteF ⟨F1, O1, τ1, R1, Post.weak E1 h1⟩
theorem e_not (ha : PE X a' (rdE Z G cf W a)) : PE X (.UnaryOp .Not a' pos) (rdE Z G cf W (.not a)) := by
  refine (pe_not ha).imp fun σ H Q ⟨F, O, τ, R, h⟩ => ?_
  simp only [ev] at h
  refine ⟨F, O, τ, R, (Post.bind h).mono fun x H1 ⟨F1, O1, τ1, x1, c1, E1, R1, r1, _, h1⟩ => ?_⟩
  obtain ⟨k, rfl, h1⟩ := Post.asB h1
  obtain rfl : x = .bl k := r1.1.2
  exact ⟨k, rfl, Post.bl E1 R1 h1⟩
theorem e_neg (ha : PE X a' (rdE Z G cf W a)) : PE X (.UnaryOp .USub a' pos) (rdE Z G cf W (.neg a)) := by
  refine (pe_un un_neg ha).imp fun σ H Q ⟨F, O, τ, R, h⟩ => ?_
  simp only [ev] at h
  refine ⟨F, O, τ, R, (Post.bind h).mono fun x H1 ⟨F1, O1, τ1, x1, c1, E1, R1, r1, _, h1⟩ => ?_⟩
  obtain ⟨k, rfl, h1⟩ := Post.asI h1
  obtain rfl : x = .int k := r1.1.2
  exact ⟨k, rfl, Post.rp E1 R1 h1 rfl⟩
theorem chn_rd {o1 o2 : CO} {σ : L2.St} {H : Hp} {Q : VK} (h : rdE Z G cf W (.chn o1 o2 a b c) σ H Q) : tChain (rC Z o1) (rC Z o2) (rdE Z G cf W a) (rdE Z G cf W b) (rdE Z G cf W c) σ H Q := by
  obtain ⟨F, O, τ, R, h⟩ := h
  simp only [ev] at h
  refine ⟨F, O, τ, R, (Post.bind h).mono fun x H1 ⟨F1, O1, τ1, x1, c1, E1, R1, r1, _, h1⟩ => ?_⟩
  obtain ⟨hh, h1⟩ := Post.hold h1
  refine ⟨F1, O1, τ1, R1, (Post.bind (Post.weak E1 h1)).mono fun y H2 ⟨F2, O2, τ2, x2, c2, E2, R2, r2, _, h2⟩ => ?_⟩
  obtain ⟨hh2, h2⟩ := Post.hold h2
  obtain ⟨k, e, h2⟩ := Post.lift h2
  cases q1 : der τ2 x1 with
  | none => rw [q1] at e; cases e
  | some d1 =>
    cases q2 : der τ2 x2 with
    | none => simp only [q1, q2, Option.bind] at e; cases e
    | some d2 =>
      simp only [q1, q2, Option.bind] at e
      have r1' := (r1.1.carry (τ' := τ2) hh E2 r1.2).1
      refine ⟨F2, d1, d2, k, R2.tk, r1'.der R2 q1, r2.1.der R2 q2, e, k, rfl, ?_⟩
      cases k with
      | false => exact iteF (Post.bl E2 R2 h2)
      | true =>
        refine iteT ⟨F2, O2, τ2, R2, (Post.bind (Post.weak E2 h2)).mono fun z H3 ⟨F3, O3, τ3, x3, c3, E3, R3, r3, _, h3⟩ => ?_⟩
        obtain ⟨r, e3, h3⟩ := Post.lift0 h3
        cases q3 : der τ3 x2 with
        | none => rw [q3] at e3; cases e3
        | some d3 =>
          cases q4 : der τ3 x3 with
          | none => simp only [q3, q4, Option.bind] at e3; cases e3
          | some d4 =>
            simp only [q3, q4, Option.bind] at e3
            obtain ⟨k2, ek, rfl⟩ := Option.map_eq_some_iff.mp e3
            have r2' := (r2.1.carry (τ' := τ3) hh2 E3 r2.2).1
            exact ⟨F3, d3, d4, k2, R3.tk, r2'.der R3 q3, r3.1.der R3 q4, ek, Post.bl E3 R3 h3⟩
theorem e_chn {o1 o2 : CO} (A : At0 Z X) (ha : PE X a' (rdE Z G cf W a)) (hb : PE X b' (rdE Z G cf W b)) (hc : PE X c' (rdE Z G cf W c)) (hm : lastMarks [coA o1, coA o2] [b', c'] = false) :
    PE X (.Compare a' [coA o1, coA o2] [b', c'] pos) (rdE Z G cf W (.chn o1 o2 a b c)) := (pe_chain (op_co A o1) (op_co A o2) ha hb hc hm).imp fun σ H Q h => chn_rd h
/-! ### tests -/
variable (Z G cf W) in
def rdT (e : E) : TT := fun σ H Q => ∃ F O τ, Rl Z F O τ σ H ∧ Post Z (rE Bool) W σ F O H ((ev G cf e τ).bind asB) Q
theorem rdT_of {σ : L2.St} {H : Hp} {Q : Bool → Hp → Prop} (h : rdT Z G cf W a σ H Q) : rdE Z G cf W a σ H fun x H1 => ∃ k, x = .bl k ∧ Q k H1 := by
  obtain ⟨F, O, τ, R, h⟩ := h
  refine ⟨F, O, τ, R, (Post.bind h).mono fun x H1 ⟨F1, O1, τ1, x1, c1, E1, R1, r1, _, h1⟩ => ?_⟩
  unfold asB at h1
  split at h1
  · exact ⟨_, r1.1.2, h1 _ [] F1 O1 H1 E1.drop R1 ⟨rfl, rfl⟩⟩
  · exact h1.elim
theorem t_val (ha : PE X a' (rdE Z G cf W a)) (he : ∀ whole, isTrue a' X.env whole = (do let v ← whole; standAt a'.pos; holding [v] (truthy v))) : PT X a' (rdT Z G cf W a) :=
  (pt_val ha he).imp fun σ H Q h => rdT_of h
theorem t_cop {o : CO} (A : At0 Z X) (ha : PE X a' (rdE Z G cf W a)) (hb : PE X b' (rdE Z G cf W b)) (hm : behindInMarks (coA o) b' = false) : PT X (.Compare a' [coA o] [b'] pos) (rdT Z G cf W (.cop o a b)) :=
  (pt_cmpR (op_co A o) ha hb hm).imp fun σ H Q h => cop_rd (rdT_of h)
theorem t_chn {o1 o2 : CO} (A : At0 Z X) (ha : PE X a' (rdE Z G cf W a)) (hb : PE X b' (rdE Z G cf W b)) (hc : PE X c' (rdE Z G cf W c)) (hm : lastMarks [coA o1, coA o2] [b', c'] = false) :
    PT X (.Compare a' [coA o1, coA o2] [b', c'] pos) (rdT Z G cf W (.chn o1 o2 a b c)) := (pt_chain (op_co A o1) (op_co A o2) ha hb hc hm).imp fun σ H Q h => chn_rd (rdT_of h)
theorem t_and1 (hp : PT X a' (rdT Z G cf W a)) : PW X (.BoolOp .And [a'] pos) (rdT Z G cf W a) := pw_and1 hp
theorem t_or1 (hp : PT X a' (rdT Z G cf W a)) : PW X (.BoolOp .Or [a'] pos) (rdT Z G cf W a) := pw_or1 hp
theorem t_two {f : Bool → Tau → Out Op} {σ : L2.St} {H : Hp} {Q : Bool → Hp → Prop} (h : ∃ F O τ, Rl Z F O τ σ H ∧ Post Z (rE Bool) W σ F O H ((((ev G cf a τ).bind fun x t => (asB x t).bind f)).bind asB) Q) :
    rdT Z G cf W a σ H fun k H1 => ∃ F O τ, Rl Z F O τ σ H1 ∧ Post Z (rE Bool) W σ F O H1 ((f k τ).bind asB) Q := by
  obtain ⟨F, O, τ, R, h⟩ := h
  refine ⟨F, O, τ, R, ?_⟩
  have e : (((ev G cf a τ).bind fun x t => (asB x t).bind f).bind asB) = ((ev G cf a τ).bind asB).bind fun k t => (f k t).bind asB := by
    cases ev G cf a τ with
    | ok x t =>
      show ((asB x t).bind f).bind asB = ((asB x t).bind fun k t => (f k t).bind asB)
      cases asB x t <;> rfl
    | ex x t => rfl
    | no => rfl
  rw [e] at h
  exact (Post.bind h).mono fun k H1 ⟨F1, O1, τ1, x1, c1, E1, R1, r1, _, h1⟩ => by
    obtain ⟨_, rfl⟩ := r1
    exact ⟨F1, O1, τ1, R1, Post.weak E1 h1⟩
theorem t_bl {σ : L2.St} {H : Hp} {Q : Bool → Hp → Prop} {k : Bool} (h : ∃ F O τ, Rl Z F O τ σ H ∧ Post Z (rE Bool) W σ F O H ((Out.ok (Op.val (.bl k)) τ).bind asB) Q) : Q k H := by
  obtain ⟨F, O, τ, R, h⟩ := h
  exact h k [] F O H .refl R ⟨rfl, rfl⟩
theorem t_and {rest : List Expr} (ha : PT X a' (rdT Z G cf W a)) (hb : PW X (.BoolOp .And (b' :: rest) pos) (rdT Z G cf W b)) : PW X (.BoolOp .And (a' :: b' :: rest) pos) (rdT Z G cf W (.and a b)) := by
  refine (pw_and ha hb).imp fun σ H Q ⟨F, O, τ, R, h⟩ => ?_
  simp only [ev] at h
  obtain ⟨F', O', τ', R', h'⟩ := t_two ⟨F, O, τ, R, h⟩
  refine ⟨F', O', τ', R', h'.mono fun k H1 z => ?_⟩
  cases k with
  | true => exact iteT z
  | false => exact iteF (t_bl z)
theorem t_or {rest : List Expr} (ha : PT X a' (rdT Z G cf W a)) (hb : PW X (.BoolOp .Or (b' :: rest) pos) (rdT Z G cf W b)) : PW X (.BoolOp .Or (a' :: b' :: rest) pos) (rdT Z G cf W (.or a b)) := by
  refine (pw_or ha hb).imp fun σ H Q ⟨F, O, τ, R, h⟩ => ?_
  simp only [ev] at h
  obtain ⟨F', O', τ', R', h'⟩ := t_two ⟨F, O, τ, R, h⟩
  refine ⟨F', O', τ', R', h'.mono fun k H1 z => ?_⟩
  cases k with
  | true => exact iteT (t_bl z)
  | false => exact iteF z
theorem t_not (ha : PT X a' (rdT Z G cf W a)) : PT X (.UnaryOp .Not a' pos) (rdT Z G cf W (.not a)) := by
  refine (pt_not ha).imp fun σ H Q ⟨F, O, τ, R, h⟩ => ?_
  simp only [ev] at h
  obtain ⟨F', O', τ', R', h'⟩ := t_two ⟨F, O, τ, R, h⟩
  exact ⟨F', O', τ', R', h'.mono fun k H1 z => t_bl z⟩
theorem e_ite (hc : PT X c' (rdT Z G cf W c)) (ha : PE X a' (rdE Z G cf W a)) (hb : PE X b' (rdE Z G cf W b)) : PE X (.IfExp c' a' b' pos) (rdE Z G cf W (.ite c a b)) := by
  refine (pe_ifExp hc ha hb).imp fun σ H Q ⟨F, O, τ, R, h⟩ => ?_
  simp only [ev] at h
  have e : ((ev G cf c τ).bind fun x t => (asB x t).bind fun r t => if r = true then ev G cf a t else ev G cf b t) = ((ev G cf c τ).bind asB).bind fun r t => if r = true then ev G cf a t else ev G cf b t := by
    cases ev G cf c τ <;> rfl
  rw [e] at h
  refine ⟨F, O, τ, R, (Post.bind h).mono fun k H1 ⟨F1, O1, τ1, x1, c1, E1, R1, r1, _, h1⟩ => ?_⟩
  obtain ⟨_, rfl⟩ := r1
  cases k with
  | true => exact iteT ⟨F1, O1, τ1, R1, Post.weak E1 h1⟩
  | false => exact iteF ⟨F1, O1, τ1, R1, Post.weak E1 h1⟩
end
end TY
/-! TyF: arguments, displays, items, slices, kinds, built-in functions. -/
namespace TY
open PySem PySem.Spec PyProof.Rows L2
section
variable {Z : Wh} {G : Glob} {cf : CallF} {W : WX} {X : Cx} {a b c : E} {a' b' c' : Expr} {pos : Pos} {es : List E} {es' : List Expr}
theorem star_of {e : Expr} (h : ∀ x p, e ≠ .Starred x p) (es : List Expr) (env : Env) : starEach (e :: es) env = (false, eval e env) :: starEach es env := by
  cases e <;> first | rfl | exact absurd rfl (h _ _)
def noStar : Expr → Bool
  | .Starred _ _ => false
  | _ => true
theorem noStar_ne {e : Expr} (h : noStar e = true) : ∀ x p, e ≠ .Starred x p := by
  intro x p z; rw [z] at h; cases h
theorem stars_of {env : Env} {pos : Pos} : ∀ {es : List Expr}, es.all noStar = true → (backTo pos (starEach es env)).any (·.1) = false
  | [], _ => rfl
  | e :: es, h => by
    have h' := Bool.and_eq_true_iff.mp (show (noStar e && es.all noStar) = true from h)
    rw [star_of (noStar_ne h'.1)]
    show (false || (backTo pos (starEach es env)).any (·.1)) = false
    rw [stars_of h'.2]; rfl

/-! ### arguments -/
theorem a_nil : PA X [] (rdDs Z G cf W []) := pa_nil.imp fun σ H Q ⟨F, O, τ, R, h⟩ => by
  simp only [evs] at h
  exact h [] [] F O H .refl R ⟨rfl, True.intro⟩
theorem a_cons (ha : PE X a' (rdE Z G cf W a)) (hs : PA X es' (rdDs Z G cf W es)) (hn : noStar a' = true) : PA X (a' :: es') (rdDs Z G cf W (a :: es)) := by
  refine (pa_cons ha hs (star_of (noStar_ne hn) _ _)).imp fun σ H Q ⟨F, O, τ, R, h⟩ => ?_
  simp only [evs] at h
  refine ⟨F, O, τ, R, (Post.bind h).mono fun x H1 ⟨F1, O1, τ1, x1, c1, E1, R1, r1, _, h1⟩ => ?_⟩
  obtain ⟨F2, O2, τ2, d, E2, R2, p2, _, h2⟩ := Post.frz E1 R1 r1 h1
  refine ⟨F2, O2, τ2, R2, (Post.bind h2).mono fun xs H3 ⟨F3, O3, τ3, ds, c3, E3, R3, r3, _, h3⟩ => ?_⟩
  exact h3 (x :: xs) [] F3 O3 H3 E3.drop R3 ⟨rfl, p2.stay E3.st, r3.2⟩
theorem o_nil : PA X [] (rdOs Z G cf W []) := pa_nil.imp fun σ H Q ⟨F, O, τ, R, h⟩ => by
  simp only [evos] at h
  exact h [] [] F O H .refl R fun ds e => by cases e; exact True.intro
theorem mapM_cons {τ : Tau} {x : Op} {xs : List Op} {ds : List D} (e : (x :: xs).mapM (der τ) = some ds) : ∃ d r, der τ x = some d ∧ xs.mapM (der τ) = some r ∧ ds = d :: r := by
  rw [List.mapM_cons] at e
  cases q : der τ x with
  | none => rw [q] at e; cases e
  | some d =>
    rw [q] at e
    cases q2 : xs.mapM (der τ) with
    | none => rw [q2] at e; cases e
    | some r => rw [q2] at e; cases e; exact ⟨d, r, rfl, rfl, rfl⟩
theorem o_cons (ha : PE X a' (rdE Z G cf W a)) (hs : PA X es' (rdOs Z G cf W es)) (hn : noStar a' = true) : PA X (a' :: es') (rdOs Z G cf W (a :: es)) := by
  refine (pa_cons ha hs (star_of (noStar_ne hn) _ _)).imp fun σ H Q ⟨F, O, τ, R, h⟩ => ?_
  simp only [evos] at h
  refine ⟨F, O, τ, R, (Post.bind h).mono fun x H1 ⟨F1, O1, τ1, x1, c1, E1, R1, r1, _, h1⟩ => ?_⟩
  obtain ⟨hh, h1⟩ := Post.hold h1
  refine ⟨F1, O1, τ1, R1, (Post.bind (Post.weak E1 h1)).mono fun xs H3 ⟨F3, O3, τ3, ds, c3, E3, R3, r3, _, h3⟩ => ?_⟩
  have r1' := (r1.1.carry (τ' := τ3) hh E3 r1.2).1
  exact h3 (x :: xs) [] F3 O3 H3 E3.drop R3 fun ds' e => by
    obtain ⟨d, r, e1, e2, rfl⟩ := mapM_cons e
    exact ⟨r1'.der R3 e1, r3 r e2⟩

/-! ### displays -/
theorem e_tup {x1} (hs : PA X es' (rdDs Z G cf W es)) : PE X (.Tuple es' x1 pos) (rdE Z G cf W (.tup es)) := by
  refine (pe_tup hs).imp fun σ H Q ⟨F, O, τ, R, h⟩ => ?_
  simp only [ev] at h
  refine ⟨F, O, τ, R, (Post.bind h).mono fun xs H1 ⟨F1, O1, τ1, ds, c1, E1, R1, r1, _, h1⟩ => ?_⟩
  split at h1
  · rename_i hl
    refine ⟨by rw [r1.2.len, line_eq]; exact hl, fun p hp => ?_⟩
    exact Gv.tup R1.tk r1.2 hp (Post.gv E1 R1 h1 (fun _ z => nomatch z) (fun _ _ z => nomatch z))
  · exact h1.elim
theorem e_lst (hs : PA X es' (rdDs Z G cf W es)) : PE X (.List es' pos) (rdE Z G cf W (.lst es)) := by
  refine (pe_lst hs).imp fun σ H Q ⟨F, O, τ, R, h⟩ => ?_
  simp only [ev] at h
  refine ⟨F, O, τ, R, (Post.bind h).mono fun xs H1 ⟨F1, O1, τ1, ds, c1, E1, R1, r1, _, h1⟩ => ?_⟩
  split at h1
  · rename_i hl
    refine ⟨by rw [r1.2.len, line_eq]; exact hl, fun p hp => ?_⟩
    exact Gv.lst R1.tk r1.2 hp (Post.gv E1 R1 h1 (fun _ z => nomatch z) (fun _ _ z => nomatch z))
  · exact h1.elim

/-! ### items -/
def plainIx : Expr → Bool
  | .Slice _ _ _ _ => false
  | _ => true
theorem plainIx_ok {e : Expr} (h : plainIx e = true) : PlainIx e := by
  intro o i
  cases e <;> first | rfl | (cases h)
theorem ix_any (A : At0 Z X) : IxR X (fun x y H Q => rI Z x y H Q ∨ rIxL X.K x y H Q) := (ix_d A).or ix_list
theorem e_idx (A : At0 Z X) (ha : PE X a' (rdE Z G cf W a)) (hb : PE X b' (rdE Z G cf W b)) (hx : plainIx b' = true) : PE X (.Subscript a' b' pos) (rdE Z G cf W (.idx a b)) := by
  refine (pe_ix (ix_any A) ha hb (plainIx_ok hx)).imp fun σ H Q ⟨F, O, τ, R, h⟩ => ?_
  simp only [ev] at h
  refine ⟨F, O, τ, R, (Post.bind h).mono fun x H1 ⟨F1, O1, τ1, x1, c1, E1, R1, r1, w1, h1⟩ => ?_⟩
  obtain ⟨hh, h1⟩ := Post.hold h1
  refine ⟨F1, O1, τ1, R1, (Post.bind (Post.weak E1 h1)).mono fun y H2 ⟨F2, O2, τ2, x2, c2, E2, R2, r2, w2, h2⟩ => ?_⟩
  have r1' := (r1.1.carry (τ' := τ2) hh E2 r1.2).1
  have gen : ∀ {h : Option Op}, h = ((der τ2 x1).bind fun x => (der τ2 x2).bind fun y => (item x y).map .val) → Post Z (rO Z σ) W σ F1 O1 H1 (lift h τ2) Q → rI Z x y H2 Q := by
    intro h e h2
    obtain ⟨r, e', h2⟩ := Post.lift0 h2
    rw [e] at e'
    cases q1 : der τ2 x1 with
    | none => rw [q1] at e'; cases e'
    | some d1 =>
      cases q2 : der τ2 x2 with
      | none => simp only [q1, q2, Option.bind] at e'; cases e'
      | some d2 =>
        simp only [q1, q2, Option.bind] at e'
        obtain ⟨k, ek, rfl⟩ := Option.map_eq_some_iff.mp e'
        exact ⟨F2, d1, d2, k, R2.tk, r1'.der R2 q1, r2.1.der R2 q2, ek, fun v pv => Post.rp E2 R2 h2 pv⟩
  cases x1 with
  | slot i =>
    cases x2 with
    | val d =>
      cases d with
      | int j =>
        simp only at h2
        split at h2
        · rename_i xss q
          obtain ⟨k, e, h2⟩ := Post.lift0 h2
          obtain ⟨n, en, rfl⟩ := Option.map_eq_some_iff.mp e
          obtain ⟨v, hv, w⟩ := R2.own i _ q
          have hx1 : σ[i]? = some (some x) := r1'.2
          rw [hx1] at hv
          cases hv
          obtain ⟨p, as, rfl, e2, e3, e4⟩ := w.rp
          obtain rfl : y = .int j := r2.1.2
          have hn : n < as.length := by
            rw [e4.len]
            unfold TY.ixN at en
            split at en
            · split at en
              · cases en; omega
              · cases en
            · split at en
              · cases en; omega
              · cases en
          have ha : (as.map V.ref)[n]? = some (.ref as[n]) := by rw [List.getElem?_map, List.getElem?_eq_getElem hn]; rfl
          refine .inr ⟨p, as.map V.ref, j, .ref as[n], rfl, rfl, SqL.of e3, ?_, ?_⟩
          · unfold atI
            rw [ixN_eq, List.length_map, e4.len, en]
            exact ha
          · exact h2 (.ref as[n]) [] F2 O2 H2 E2.drop R2 ⟨⟨rfl, p, as.map V.ref, hx1, e3, ha⟩, fun _ hb => absurd hb (by simp)⟩
        · exact .inl (gen rfl h2)
      | _ => exact .inl (gen rfl h2)
    | _ => exact .inl (gen rfl h2)
  | _ => exact .inl (gen rfl h2)

/-! ### slices -/
variable {lo hi : Option E} {lo' hi' : Option Expr}
variable (Z G cf W) in
def rdP (o : Option E) : TO := fun σ H Q => ∃ F O τ, Rl Z F O τ σ H ∧ Post Z (rE (Option Int)) W σ F O H (evo G cf o τ) Q
theorem _root_.L2.PO.imp {e : Option Expr} {t t' : TO} (h : PO X e t) (k : ∀ σ H Q, t' σ H Q → t σ H Q) : PO X e t' := ⟨fun pins s σ H Q I q => h.run pins s σ H Q I (k σ H Q q)⟩
theorem p_none : PO X none (rdP Z G cf W none) := po_none.imp fun σ H Q ⟨F, O, τ, R, h⟩ => by
  simp only [evo] at h
  exact h none [] F O H .refl R ⟨rfl, rfl⟩
theorem p_some (ha : PE X a' (rdE Z G cf W a)) : PO X (some a') (rdP Z G cf W (some a)) := by
  refine (po_some ha).imp fun σ H Q ⟨F, O, τ, R, h⟩ => ?_
  simp only [evo] at h
  refine ⟨F, O, τ, R, (Post.bind h).mono fun x H1 ⟨F1, O1, τ1, x1, c1, E1, R1, r1, _, h1⟩ => ?_⟩
  obtain ⟨k, rfl, h1⟩ := Post.asI h1
  exact ⟨k, r1.1.2, h1 (some k) [] F1 O1 H1 E1.drop R1 ⟨rfl, rfl⟩⟩
theorem slice_new {d : D} {l h : Option Int} {r : Op} (e : slice d l h = some r) : (∀ i, r ≠ .slot i) ∧ ∀ i j, r ≠ .sub i j := by
  unfold TY.slice at e
  split at e <;> first
    | (cases e; done)
    | (cases e; exact ⟨fun _ z => (nomatch z), fun _ _ z => (nomatch z)⟩)
    | (split at e <;> first
        | (cases e; done)
        | (cases e; exact ⟨fun _ z => (nomatch z), fun _ _ z => (nomatch z)⟩))
theorem e_slc {p2 : Pos} (A : At0 Z X) (ha : PE X a' (rdE Z G cf W a)) (hl : PO X lo' (rdP Z G cf W lo)) (hh : PO X hi' (rdP Z G cf W hi)) : PE X (.Subscript a' (.Slice lo' hi' none p2) pos) (rdE Z G cf W (.slc a lo hi)) := by
  refine (pe_slice (sl_d A) ha hl hh).imp fun σ H Q ⟨F, O, τ, R, h⟩ => ?_
  simp only [ev] at h
  refine ⟨F, O, τ, R, (Post.bind h).mono fun x H1 ⟨F1, O1, τ1, x1, c1, E1, R1, r1, _, h1⟩ => ?_⟩
  obtain ⟨hd, h1⟩ := Post.hold h1
  refine ⟨F1, O1, τ1, R1, (Post.bind (Post.weak E1 h1)).mono fun l H2 ⟨F2, O2, τ2, x2, c2, E2, R2, r2, _, h2⟩ => ?_⟩
  obtain ⟨_, rfl⟩ := r2
  refine ⟨F2, O2, τ2, R2, (Post.bind (Post.weak E2 h2)).mono fun u H3 ⟨F3, O3, τ3, x3, c3, E3, R3, r3, _, h3⟩ => ?_⟩
  obtain ⟨_, rfl⟩ := r3
  obtain ⟨r, e, h3⟩ := Post.lift0 h3
  cases q1 : der τ3 x1 with
  | none => rw [q1] at e; cases e
  | some d =>
    rw [q1] at e
    have ca := r1.1.carry (τ' := τ3) hd (E2.trans E3) r1.2
    exact ⟨F3, d, r, R3.tk, ca.1.der R3 q1, e, Post.gv E3 R3 h3 (slice_new e).1 (slice_new e).2⟩

/-! ### built-in functions -/
theorem rq_rp {F : AP} {H : Hp} {v : V} {xs : List D} (h : Rq Z F H v (.tup xs)) : Rp Z H F v (.tup xs) := h
theorem sS_map (l : List (List Nat)) : (l.map sS).map (·.length) = l.map (·.length) := by
  rw [List.map_map]; exact List.map_congr_left fun x _ => sS_len x
/-- the built-in functions that are told here -/
def bltOk : Blt → List D → Bool
  | .sorted, [.str _] => false
  | .sortset, _ => false
  | .dictp, _ => false
  | .list, [.str _] => false
  | _, _ => true
theorem insI_perm (x : Int) : ∀ l : List Int, (insI x l).Perm (x :: l)
  | [] => .refl _
  | y :: r => by
    unfold insI
    split
    · exact ((insI_perm x r).cons y).trans (.swap x y r)
    · exact .refl _
theorem insI_le {x z : Int} : ∀ {l : List Int}, (∀ y ∈ l, z ≤ y) → z ≤ x → ∀ y ∈ insI x l, z ≤ y := fun {l} h hx y hy => by
  rcases List.mem_cons.mp ((insI_perm x l).mem_iff.mp hy) with rfl | hy
  · exact hx
  · exact h y hy
theorem insI_sorted (x : Int) : ∀ {l : List Int}, l.Pairwise (· ≤ ·) → (insI x l).Pairwise (· ≤ ·)
  | [], _ => List.pairwise_singleton _ _
  | y :: r, h => by
    rw [List.pairwise_cons] at h
    unfold insI
    split
    · rename_i c
      exact List.pairwise_cons.mpr ⟨insI_le h.1 c, insI_sorted x h.2⟩
    · rename_i c
      exact List.pairwise_cons.mpr ⟨fun z hz => by
        rcases List.mem_cons.mp hz with rfl | hz
        · omega
        · have := h.1 z hz; omega, List.pairwise_cons.mpr h⟩
theorem sortI_ok (l : List Int) : (sortI l).Perm l ∧ (sortI l).Pairwise (· ≤ ·) := by
  have key : ∀ (l acc : List Int), acc.Pairwise (· ≤ ·) → (l.foldl (fun r x => insI x r) acc).Perm (acc ++ l) ∧ (l.foldl (fun r x => insI x r) acc).Pairwise (· ≤ ·) := by
    intro l
    induction l with
    | nil => intro acc h; rw [List.append_nil]; exact ⟨.refl _, h⟩
    | cons x r ih =>
      intro acc h
      rw [List.foldl_cons]
      obtain ⟨p, q⟩ := ih (insI x acc) (insI_sorted x h)
      refine ⟨p.trans ?_, q⟩
      exact (((insI_perm x acc).append_right r).trans (List.perm_middle.symm))
  have := key l [] List.Pairwise.nil
  rw [List.nil_append] at this
  exact this
theorem sorted_unique {l m : List Int} (p : l.Perm m) (a : l.Pairwise (· ≤ ·)) (b : m.Pairwise (· ≤ ·)) : l = m := p.eq_of_pairwise (fun x y _ _ h1 h2 => Int.le_antisymm h1 h2) a b
end
end TY
/-! TyG: built-in functions, kinds, methods of texts. -/
namespace TY
open PySem PySem.Spec PyProof.Rows L2
section
variable {Z : Wh} {G : Glob} {cf : CallF} {W : WX} {X : Cx} {a b c : E} {a' b' c' : Expr} {pos : Pos} {es : List E} {es' : List Expr}
theorem Str_map (l : List (List Nat)) : (l.map (.str : List Nat → D)) = l.map D.str := rfl
theorem call_d (A : At Z X) (f : Blt) : CallR X (blV f) (rBl Z f) := by
  intro pins s σ H xs us Q I rx h
  obtain ⟨F, ds, r, t, h1, hb, q⟩ := h
  have hc := A.cm
  unfold blt at hb
  split at hb
  · cases hb
    obtain ⟨v, rfl, e⟩ := h1.one
    exact call_abs pins s σ H _ us Q I rx ⟨_, by rw [e], q.int⟩
  · cases hb
    obtain ⟨v, rfl, e⟩ := h1.one
    exact call_int1 pins s σ H _ us Q I rx (.inl ⟨_, by rw [e], q.int⟩)
  · cases hb
    obtain ⟨v, rfl, e⟩ := h1.one
    exact call_int1 pins s σ H _ us Q I rx (.inr ⟨_, by rw [e], q.int⟩)
  · cases hb
    obtain ⟨v, w, rfl, e, e2⟩ := h1.two
    exact call_min2 hc pins s σ H _ us Q I rx ⟨_, _, by rw [e, e2], q.int⟩
  · cases hb
    obtain ⟨v, w, rfl, e, e2⟩ := h1.two
    exact call_max2 hc pins s σ H _ us Q I rx ⟨_, _, by rw [e, e2], q.int⟩
  · obtain ⟨v, rfl, a, vs, rfl, e1, r1⟩ := h1.one
    obtain ⟨l, el, e⟩ := Option.bind_eq_some_iff.mp hb
    obtain ⟨m, em, rfl⟩ := Option.map_eq_some_iff.mp e
    rw [allI_rps r1 el] at e1
    refine cr_min hc pins s σ H _ us Q I rx ⟨a, l, rfl, SqL.of e1, ?_, fun m' h1 h2 => ?_⟩
    · cases l with
      | nil => cases em
      | cons x r => exact Nat.succ_pos _
    · rw [minL_of em h1 h2]; exact q.int
  · obtain ⟨v, rfl, a, vs, rfl, e1, r1⟩ := h1.one
    obtain ⟨l, el, e⟩ := Option.bind_eq_some_iff.mp hb
    obtain ⟨m, em, rfl⟩ := Option.map_eq_some_iff.mp e
    rw [allI_rps r1 el] at e1
    refine cr_max hc pins s σ H _ us Q I rx ⟨a, l, rfl, SqL.of e1, ?_, fun m' h1 h2 => ?_⟩
    · cases l with
      | nil => cases em
      | cons x r => exact Nat.succ_pos _
    · rw [maxL_of em h1 h2]; exact q.int
  · cases hb
    obtain ⟨v, rfl, a, vs, rfl, e1, r1⟩ := h1.one
    refine call_len_seq pins s σ H _ us Q I rx ⟨a, vs, rfl, .inl (SqL.of e1), ?_⟩
    rw [r1.len]; exact q.int
  · cases hb
    obtain ⟨v, rfl, a, vs, rfl, e1, r1⟩ := h1.one
    refine call_len_seq pins s σ H _ us Q I rx ⟨a, vs, rfl, .inr (A.k ▸ sqT e1), ?_⟩
    rw [r1.len]; exact q.int
  · cases hb
    obtain ⟨v, rfl, a, rfl, e1⟩ := h1.one
    refine call_len_seq pins s σ H _ us Q I rx ⟨a, _, rfl, .inl (A.k ▸ e1), ?_⟩
    rw [List.length_map]; exact q.int
  · split at hb
    · rename_i z hl
      cases hb
      obtain ⟨v, rfl, e⟩ := h1.one
      refine call_len_str pins s σ H _ us Q I rx ⟨sS z, by rw [e], by rw [sS_len, line_eq]; exact hl, ?_⟩
      rw [sS_len]; exact q.int
    · cases hb
  · obtain ⟨v, rfl, a, vs, rfl, e1, r1⟩ := h1.one
    obtain ⟨l, el, rfl⟩ := Option.map_eq_some_iff.mp hb
    rw [allI_rps r1 el] at e1
    exact cr_sum hc pins s σ H _ us Q I rx ⟨a, l, rfl, SqL.of e1, q.int⟩
  · obtain ⟨v, rfl, a, vs, rfl, e1, r1⟩ := h1.one
    obtain ⟨l, el, rfl⟩ := Option.map_eq_some_iff.mp hb
    rw [allB_rps r1 el] at e1
    exact cr_all hc pins s σ H _ us Q I rx ⟨a, l, rfl, SqL.of e1, q.bl⟩
  · obtain ⟨v, rfl, a, vs, rfl, e1, r1⟩ := h1.one
    obtain ⟨l, el, rfl⟩ := Option.map_eq_some_iff.mp hb
    rw [allB_rps r1 el] at e1
    exact cr_any hc pins s σ H _ us Q I rx ⟨a, l, rfl, SqL.of e1, q.bl⟩
  · obtain ⟨v, rfl, a, vs, rfl, e1, r1⟩ := h1.one
    split at hb
    · rename_i l el
      cases hb
      rw [allI_rps r1 el] at e1
      refine cr_sortedI pins s σ H _ us Q I rx ⟨a, l, rfl, SqL.of e1, fun ns' p hp hs np => ?_⟩
      rw [sorted_unique (hp.trans (sortI_ok l).1.symm) hs (sortI_ok l).2]
      exact q.lst t (rps_ints _) np
    · split at hb
      · rename_i l el
        split at hb
        · rename_i h64
          cases hb
          rw [allS_rps r1 el] at e1
          refine cr_sortedS pins s σ H _ us Q I rx ⟨a, l.map sS, rfl, SqL.of e1, by rw [List.length_map]; exact h64, fun ys p hp hs np => ?_⟩
          rw [sortS_ok l hp hs]
          exact q.lst t (rps_strs _) np
        · cases hb
      · cases hb
  · split at hb
    · rename_i z h64
      cases hb
      obtain ⟨v, rfl, e⟩ := h1.one
      refine call_sortedText hc pins s σ H _ us Q I rx ⟨z, by rw [e], h64, fun ys p hp hs np => ?_⟩
      have hp' : ys.Perm ((z.map fun c => [c]).map sS) := by rw [List.map_map]; exact hp
      rw [sortS_ok _ hp' hs]
      exact q.lst t (rps_strs _) np
    · cases hb
  · cases hb
    obtain ⟨v, rfl, a, vs, rfl, e1, r1⟩ := h1.one
    exact call_tuple_of pins s σ H _ us Q I rx ⟨a, vs, rfl, .inl ⟨SqL.of e1, fun p np => q.tup t r1 np⟩⟩
  · cases hb
    obtain ⟨v, rfl, a, vs, rfl, e1, r1⟩ := h1.one
    exact call_tuple_of pins s σ H _ us Q I rx ⟨a, vs, rfl, .inr ⟨A.k ▸ sqT e1, q _ F H [] .refl ⟨rfl, a, vs, rfl, e1, r1⟩⟩⟩
  · cases hb
    obtain ⟨v, rfl, a, vs, rfl, e1, r1⟩ := h1.one
    exact call_list_of pins s σ H _ us Q I rx ⟨a, vs, rfl, .inl (SqL.of e1), fun p np => q.lst t r1 np⟩
  · cases hb
    obtain ⟨v, rfl, a, vs, rfl, e1, r1⟩ := h1.one
    exact call_list_of pins s σ H _ us Q I rx ⟨a, vs, rfl, .inr (A.k ▸ sqT e1), fun p np => q.lst t r1 np⟩
  · split at hb
    · rename_i z hz
      cases hb
      obtain ⟨v, rfl, e⟩ := h1.one
      refine call_listText hc pins s σ H _ us Q I rx ⟨z, by rw [e], hz, fun p np => ?_⟩
      have e2 : (z.map fun c => V.str (sS [c])) = ((z.map fun c => [c]).map fun y => V.str (sS y)) := by rw [List.map_map]; rfl
      have e3 : (z.map fun c => D.str [c]) = ((z.map fun c => [c]).map D.str) := by rw [List.map_map]; rfl
      rw [e3] at q
      rw [e2]
      refine q.lst t ?_ np
      generalize (z.map fun c => [c]) = l
      clear e2 e3 q hz
      induction l with
      | nil => exact True.intro
      | cons y r ih => exact ⟨rfl, ih⟩
    · cases hb
  · cases hb
theorem blt_new {f : Blt} {ds : List D} {r : Op} (e : blt f ds = some r) : (∀ i, r ≠ .slot i) ∧ ∀ i j, r ≠ .sub i j := by
  unfold blt at e
  split at e <;> first
    | (cases e; done)
    | (cases e; exact ⟨fun _ z => (nomatch z), fun _ _ z => (nomatch z)⟩)
    | (obtain ⟨l, el, e⟩ := Option.bind_eq_some_iff.mp e; obtain ⟨m, em, rfl⟩ := Option.map_eq_some_iff.mp e; exact ⟨fun _ z => (nomatch z), fun _ _ z => (nomatch z)⟩)
    | (obtain ⟨l, el, rfl⟩ := Option.map_eq_some_iff.mp e; exact ⟨fun _ z => (nomatch z), fun _ _ z => (nomatch z)⟩)
    | (split at e <;> first
        | (cases e; done)
        | (cases e; exact ⟨fun _ z => (nomatch z), fun _ _ z => (nomatch z)⟩)
        | (split at e <;> first
            | (cases e; done)
            | (split at e <;> first
                | (cases e; done)
                | (cases e; exact ⟨fun _ z => (nomatch z), fun _ _ z => (nomatch z)⟩))))
def blN : Blt → Str
  | .abs => "abs" | .int => "int" | .min2 => "min" | .max2 => "max" | .minl => "min" | .maxl => "max" | .len => "len" | .sum => "sum" | .all => "all" | .any => "any"
  | .sorted => "sorted" | .sortset => "sorted" | .tuple => "tuple" | .list => "list" | .dictp => "dict" | .str => "str"
theorem blN_boot (f : Blt) : bootBuiltins (blN f) = some (blV f) ∧ blN f ≠ "__name__" ∧ (blN f == ("__debug__" : Str)) = false := by
  cases f <;> exact ⟨by decide +kernel, by decide +kernel, by decide +kernel⟩
theorem e_blt {f : Blt} {p : Pos} (A : At Z X) (hg : Gl X (blN f)) (hm : X.mg (blN f) = none) (hs : PA X (a' :: es') (rdOs Z G cf W es)) (hn : noStar a' = true) (hns : es'.all noStar = true) :
    PE X (.Call (.Name (blN f) p) (a' :: es') [] pos) (rdE Z G cf W (.blt f es)) := by
  obtain ⟨h1, h2, h3⟩ := blN_boot f
  have key : PE X (.Call (.Name (blN f) p) (a' :: es') [] pos) (tCB (rBl Z f) (rdOs Z G cf W es)) := by
    have e1 := star_of (noStar_ne hn) es' X.env
    have e2 := stars_of (env := X.env) (pos := pos) hns
    have hd := call_d A f
    cases f <;> first
      | exact pe_callB hd hg hm h1 hs h2 h3 e1 e2
      | exact pe_callTy hd hg hm h1 hs h2 h3 e1 e2
  refine key.imp fun σ H Q ⟨F, O, τ, R, h⟩ => ?_
  simp only [ev] at h
  refine ⟨F, O, τ, R, (Post.bind h).mono fun xs H1 ⟨F1, O1, τ1, xs1, c1, E1, R1, r1, _, h1⟩ => ?_⟩
  obtain ⟨r, e, h1⟩ := Post.lift0 h1
  obtain ⟨ds, e1, e2⟩ := Option.bind_eq_some_iff.mp e
  exact ⟨F1, ds, r, R1.tk, r1 ds e1, e2, Post.gv E1 R1 h1 (blt_new e2).1 (blt_new e2).2⟩
end
end TY
/-! TyH: kinds, methods of texts. -/
namespace TY
open PySem PySem.Spec PyProof.Rows L2
section
variable {Z : Wh} {G : Glob} {cf : CallF} {W : WX} {X : Cx} {a b c : E} {a' b' c' : Expr} {pos : Pos} {es : List E} {es' : List Expr}
def tyN (t : Ty) : Str := match t with
  | .int => "int" | .bool => "bool" | .str => "str" | .tuple => "tuple" | .list => "list"
theorem tyN_boot (t : Ty) : bootBuiltins (tyN t) = some (.type (tyS t)) ∧ tyN t ≠ "__name__" ∧ (tyN t == ("__debug__" : Str)) = false := by
  cases t <;> exact ⟨by decide +kernel, by decide +kernel, by decide +kernel⟩
theorem e_isi1 {t : Ty} {p p2 : Pos} (A : At0 Z X) (hg : Gl X "isinstance") (hm : X.mg "isinstance" = none) (hgt : Gl X (tyN t)) (hmt : X.mg (tyN t) = none) (ha : PE X a' (rdE Z G cf W a)) (hn : noStar a' = true) :
    PE X (.Call (.Name "isinstance" p) [a', .Name (tyN t) p2] [] pos) (rdE Z G cf W (.isi a [t])) := by
  obtain ⟨h1, h2, h3⟩ := tyN_boot t
  have ht : PE X (.Name (tyN t) p2) (tC (.ty (tyS t))) := pe_bltn hgt hmt h1 rfl h2 h3
  have e1 := star_of (noStar_ne hn) [.Name (tyN t) p2] X.env
  refine (pe_callB call_isi hg hm (by decide +kernel) (pa_cons ha (pa_cons ht pa_nil rfl) e1) (by decide) (by decide) e1 rfl).imp fun σ H Q ⟨F, O, τ, R, h⟩ => ?_
  simp only [ev] at h
  refine ⟨F, O, τ, R, (Post.bind h).mono fun x H1 ⟨F1, O1, τ1, x1, c1, E1, R1, r1, _, h1⟩ => ?_⟩
  obtain ⟨r, e, h1⟩ := Post.lift0 h1
  obtain ⟨d, e1, e2⟩ := Option.bind_eq_some_iff.mp e
  obtain ⟨k, ek, rfl⟩ := Option.map_eq_some_iff.mp e2
  have ek' : isT t d = some k := by
    unfold isTs at ek
    cases q : isT t d with
    | none => rw [q] at ek; cases ek
    | some k' =>
      rw [q] at ek
      simp only [isTs, Option.bind, Option.map] at ek
      cases ek
      rw [Bool.or_false]
  exact ⟨x, .ty (tyS t), .type (dT d), .type (tyS t), k, rfl, .ty _, A.k ▸ tyx_of (r1.1.der R1 e1) ek', kit_ty (isT_kit ek'), Post.bl E1 R1 h1⟩
/-- isinstance of the error that is handled: D its class -/
def rIsX (K : PySem.W.Frag) (a D : Addr) : List V → Hp → VK → Prop := fun xs H Q => ∃ (c : V) (cv : Value) (b : Bool), xs = [.ref a, c] ∧ (∀ u, RelV c u → u = cv) ∧ PySem.W.kitOne K (.ref D) cv = some b ∧ Q (.bl b) H
theorem call_isX {X : Cx} {a D : Addr} {oe : Obj} (hp : (a, oe) ∈ X.pn) (hz : Zc (.ref D) none oe) (hf : ∃ vs, oe.data = .fields vs) (C : ExcC X.K D) : CallR X (.builtin "isinstance") (rIsX X.K a D) := by
  intro pins s σ H xs us Q I r h
  obtain ⟨c, cv, b, rfl, hcv, e, q⟩ := h
  cases r with
  | cons rx rr =>
    cases rr with
    | cons rt rr =>
      cases rr
      cases rx
      have ec := hcv _ rt
      subst ec
      obtain ⟨vs, hv⟩ := hf
      have hget := (I.pin _ (List.mem_append_left _ hp)).1
      have J : PySem.W.InstAt s.heap a oe D none := by
        obtain ⟨oc, od, oda, osl⟩ := oe
        obtain ⟨h1, h2⟩ := hz
        dsimp only at h1 h2 hv
        subst h1 h2 hv
        exact ⟨hget, rfl, rfl, trivial⟩
      exact PySem.W.kia_one (PySem.W.handS_kitx_exc C.hg C.hk C.hs C.hd C.ha C.hn C.ht C.hm) I.kIn J e (fun z => nomatch z) fun tk => ⟨.bl b, H, I.kept (t' := tk) fun _ _ z => z, rfl, q⟩
/-- the error that is handled, in the context -/
structure Hx (Z : Wh) (X : Cx) (G : Glob) (a : Addr) (oe : Obj) (m : Nat) (C : Addr) : Prop where
  hx : Z.hx = some (a, oe, m)
  pn : (a, oe) ∈ X.pn
  zc : Zc (.ref C) none oe
  fl : ∃ vs, oe.data = .fields vs
  cl : ExcC X.K C
/-- the name of an own error class, in a test of one of C, the m-th -/
structure Xi (X : Cx) (C : Addr) (m n : Nat) (x : Str) : Prop where
  ex : ∃ Cn, X.mg x = some (.ref Cn) ∧ PySem.W.kitOne X.K (.ref C) (.ref Cn) = some (m == n)
  db : (x == ("__debug__" : Str)) = false
section
variable {q : Addr} {oe : Obj} {m : Nat} {C : Addr}
theorem e_isc {n : Nat} {x : Str} {p p2 : Pos} (B : Hx Z X G q oe m C) (hg : Gl X "isinstance") (hm : X.mg "isinstance" = none) (hx : Gl X x) (K : Xi X C m n x) (ha : PE X a' (rdE Z G cf W a)) (hn : noStar a' = true) :
    PE X (.Call (.Name "isinstance" p) [a', .Name x p2] [] pos) (rdE Z G cf W (.isc a n)) := by
  obtain ⟨Cn, hmx, hk⟩ := K.ex
  have ht : PE X (.Name x p2) (tC (.ref Cn)) := pe_glob hx hmx rfl K.db
  have e1 := star_of (noStar_ne hn) [.Name x p2] X.env
  refine (pe_callB (call_isX B.pn B.zc B.fl B.cl) hg hm (by decide +kernel) (pa_cons ha (pa_cons ht pa_nil rfl) e1) (by decide) (by decide) e1 rfl).imp fun σ H Q ⟨F, O, τ, R, h⟩ => ?_
  simp only [ev] at h
  refine ⟨F, O, τ, R, (Post.bind h).mono fun x H1 ⟨F1, O1, τ1, x1, c1, E1, R1, r1, _, h1⟩ => ?_⟩
  obtain ⟨r, e, h1⟩ := Post.lift0 h1
  obtain ⟨d, e1, e2⟩ := Option.bind_eq_some_iff.mp e
  obtain ⟨m', e3, e4⟩ := Option.bind_eq_some_iff.mp e2
  split at e4
  case isFalse => cases e4
  cases e4
  cases d <;> cases e3
  obtain ⟨a, o, e5, rfl⟩ := r1.1.der R1 e1
  rw [B.hx] at e5
  cases e5
  exact ⟨.ref Cn, .ref Cn, _, rfl, fun u z => z, hk, Post.bl E1 R1 h1⟩
theorem e_isv {p p2 : Pos} (B : Hx Z X G q oe m C) (hg : Gl X "isinstance") (hm : X.mg "isinstance" = none) (hgt : Gl X "ValueError") (hmt : X.mg "ValueError" = none) (K : PySem.W.kitOne X.K (.ref C) (.type "ValueError") = some true) (ha : PE X a' (rdE Z G cf W a)) (hn : noStar a' = true) :
    PE X (.Call (.Name "isinstance" p) [a', .Name "ValueError" p2] [] pos) (rdE Z G cf W (.isv a)) := by
  have ht : PE X (.Name "ValueError" p2) (tC (.ty "ValueError")) := pe_bltn hgt hmt (by decide +kernel) rfl (by decide +kernel) (by decide +kernel)
  have e1 := star_of (noStar_ne hn) [.Name "ValueError" p2] X.env
  refine (pe_callB (call_isX B.pn B.zc B.fl B.cl) hg hm (by decide +kernel) (pa_cons ha (pa_cons ht pa_nil rfl) e1) (by decide) (by decide) e1 rfl).imp fun σ H Q ⟨F, O, τ, R, h⟩ => ?_
  simp only [ev] at h
  refine ⟨F, O, τ, R, (Post.bind h).mono fun x H1 ⟨F1, O1, τ1, x1, c1, E1, R1, r1, _, h1⟩ => ?_⟩
  obtain ⟨r, e, h1⟩ := Post.lift0 h1
  obtain ⟨d, e1, e2⟩ := Option.bind_eq_some_iff.mp e
  obtain ⟨m', e3, e4⟩ := Option.bind_eq_some_iff.mp e2
  split at e4
  case isFalse => cases e4
  cases e4
  cases d <;> cases e3
  obtain ⟨a, o, e5, rfl⟩ := r1.1.der R1 e1
  rw [B.hx] at e5
  cases e5
  exact ⟨.ty "ValueError", .type "ValueError", _, rfl, fun u z => z, K, Post.bl E1 R1 h1⟩
end
theorem e_isi2 {t u : Ty} {k0 : Nat} {p p1 p2 p3 : Pos} (A : At0 Z X) (hg : Gl X "isinstance") (hm : X.mg "isinstance" = none) (hgt : Gl X (tyN t)) (hmt : X.mg (tyN t) = none) (hgu : Gl X (tyN u)) (hmu : X.mg (tyN u) = none) (ha : PE X a' (rdE Z G cf W a)) (hn : noStar a' = true) :
    PE X (.Call (.Name "isinstance" p) [a', .Tuple [.Name (tyN t) p1, .Name (tyN u) p2] k0 p3] [] pos) (rdE Z G cf W (.isi a [t, u])) := by
  obtain ⟨h1, h2, h3⟩ := tyN_boot t
  obtain ⟨g1, g2, g3⟩ := tyN_boot u
  have ht : PE X (.Name (tyN t) p1) (tC (.ty (tyS t))) := pe_bltn hgt hmt h1 rfl h2 h3
  have hu : PE X (.Name (tyN u) p2) (tC (.ty (tyS u))) := pe_bltn hgu hmu g1 rfl g2 g3
  have e1 := star_of (noStar_ne hn) [.Tuple [.Name (tyN t) p1, .Name (tyN u) p2] k0 p3] X.env
  refine (pe_callB call_isiT hg hm (by decide +kernel) (pa_cons ha (pa_cons (pe_tup (pa_cons ht (pa_cons hu pa_nil rfl) rfl)) pa_nil rfl) e1) (by decide) (by decide) e1 rfl).imp fun σ H Q ⟨F, O, τ, R, h⟩ => ?_
  simp only [ev] at h
  refine ⟨F, O, τ, R, (Post.bind h).mono fun x H1 ⟨F1, O1, τ1, x1, c1, E1, R1, r1, _, h1⟩ => ?_⟩
  obtain ⟨r, e, h1⟩ := Post.lift0 h1
  obtain ⟨d, e1, e2⟩ := Option.bind_eq_some_iff.mp e
  obtain ⟨k, ek, rfl⟩ := Option.map_eq_some_iff.mp e2
  have hd := r1.1.der R1 e1
  refine ⟨by show 2 ≤ sizeLine; decide, fun tp np => ?_⟩
  have n := New.one (F := F1) (o := HO.tup [V.ty (tyS t), V.ty (tyS u)]) np
  have st := n.stay R1.tk
  have hd2 : Rq Z (fun a => F1 a ∨ a = tp) (upd H1 tp (HO.tup [V.ty (tyS t), V.ty (tyS u)])) x d := by
    cases d with
    | lst xs =>
      obtain ⟨p, vs, rfl, e3, e4⟩ := hd
      exact ⟨p, vs, rfl, by rw [upd_ne (ne_of_none e3 np)]; exact e3, Rps.stay st _ _ e4⟩
    | tup xs => exact Rp.stay st (.tup xs) x hd
    | dk xs =>
      obtain ⟨p, vs, rfl, e3, e4⟩ := hd
      refine ⟨p, vs, rfl, ?_, Rpk.stay st _ _ e4⟩
      rcases e3 with e3 | ⟨o, e3⟩
      · exact .inl (by rw [upd_ne (ne_of_none e3 np)]; exact e3)
      · exact .inr ⟨o, by rw [upd_ne (ne_of_none e3 np)]; exact e3⟩
    | dn xs =>
      obtain ⟨p, o, vs, rfl, e3, e4⟩ := hd
      exact ⟨p, o, vs, rfl, by rw [upd_ne (ne_of_none e3 np)]; exact e3, Rpn.stay st _ _ e4⟩
    | scr xs =>
      obtain ⟨p, rfl, e3⟩ := hd
      refine ⟨p, rfl, ?_⟩
      rcases e3 with (e3 | ⟨o, e3⟩) | e3
      · exact .inl (.inl (by rw [upd_ne (ne_of_none e3 np)]; exact e3))
      · exact .inl (.inr ⟨o, by rw [upd_ne (ne_of_none e3 np)]; exact e3⟩)
      · exact .inr e3
    | _ => exact hd
  have ek' : ∃ k', isT t d = some k' := by
    unfold isTs at ek
    cases q : isT t d with
    | none => rw [q] at ek; cases ek
    | some k' => exact ⟨k', rfl⟩
  obtain ⟨k', ek'⟩ := ek'
  refine ⟨x, tp, [.ty (tyS t), .ty (tyS u)], .type (dT d), [.type (tyS t), .type (tyS u)], k, rfl, upd_same, .cons (.ty _) (.cons (.ty _) .nil), A.k ▸ tyx_of hd2 ek', isTs_kit (ts := [t, u]) ek, ?_⟩
  exact h1 (.bl k) [] _ O1 _ (E1.drop.trans (n.ext R1)) (n.rl R1) ⟨⟨rfl, rfl⟩, fun _ hb => absurd hb (by simp)⟩

/-! ### methods of texts -/
def baseOk : Expr → Bool
  | .Call _ [] _ _ => false
  | _ => true
theorem base_of {o : Expr} {x : Str} {env : Env} {w : Sem Value} (h : baseOk o = true) : attributeBase o x env w = w := by
  cases o <;> first
    | rfl
    | (rename_i f args kws p
       cases args with
       | nil => cases h
       | cons _ _ => cases f <;> rfl)
theorem ascii_lt {s : List Nat} (h : ascii s = true) : ∀ c ∈ (sS s).cps.toList, c < 128 := fun c hc => by
  have hc : c ∈ s := hc
  exact of_decide_eq_true (List.all_eq_true.mp h c hc)
theorem low_eq {s : List Nat} (h : ascii s = true) : Txt.lower (sS s) = sS (s.map lowC) := by
  rw [lower_ascii (ascii_lt h)]
  show (⟨s.toArray.map lo1⟩ : Str) = ⟨(s.map lowC).toArray⟩
  congr 1
  simp
  exact fun _ _ => rfl
theorem upp_eq {s : List Nat} (h : ascii s = true) : Txt.upper (sS s) = sS (s.map uppC) := by
  rw [upper_ascii (ascii_lt h)]
  show (⟨s.toArray.map up1⟩ : Str) = ⟨(s.map uppC).toArray⟩
  congr 1
  simp
  exact fun _ _ => rfl
theorem e_lower {apos : Pos} (ho : PE X a' (rdE Z G cf W a)) (hb : baseOk a' = true) (hl : (apos.endLine == pos.line) = true) : PE X (.Call (.Attribute a' "lower" apos) [] [] pos) (rdE Z G cf W (.met .lower a [])) := by
  refine (pe_lower ho (base_of hb) hl).imp fun σ H Q ⟨F, O, τ, R, h⟩ => ?_
  simp only [ev, evs] at h
  refine ⟨F, O, τ, R, (Post.bind h).mono fun x H1 ⟨F1, O1, τ1, x1, c1, E1, R1, r1, _, h1⟩ => ?_⟩
  obtain ⟨hh, h1⟩ := Post.hold h1
  obtain ⟨s, e, h1⟩ := Post.lift h1
  obtain ⟨d, e1, e2⟩ := Option.bind_eq_some_iff.mp e
  obtain ⟨r, e3, h1⟩ := Post.lift0 (show Post Z (rO Z σ) W σ F O H (lift (met .lower s []) τ1) Q from h1)
  cases d with
  | str s' =>
    cases e2
    obtain rfl : x = .str (sS s) := r1.1.der R1 e1
    simp only [met] at e3
    split at e3
    · rename_i hc
      cases e3
      have hc := Bool.and_eq_true_iff.mp hc
      refine ⟨⟨_, rfl⟩, sS s, rfl, rfl, ?_, ?_⟩
      · rw [sS_len]; have := of_decide_eq_true hc.2; omega
      · rw [low_eq hc.1]; exact Post.rp E1 R1 h1 rfl
    · cases e3
  | _ => cases e2
theorem e_upper {apos : Pos} (ho : PE X a' (rdE Z G cf W a)) (hb : baseOk a' = true) (hl : (apos.endLine == pos.line) = true) : PE X (.Call (.Attribute a' "upper" apos) [] [] pos) (rdE Z G cf W (.met .upper a [])) := by
  refine (pe_upper ho (base_of hb) hl).imp fun σ H Q ⟨F, O, τ, R, h⟩ => ?_
  simp only [ev, evs] at h
  refine ⟨F, O, τ, R, (Post.bind h).mono fun x H1 ⟨F1, O1, τ1, x1, c1, E1, R1, r1, _, h1⟩ => ?_⟩
  obtain ⟨hh, h1⟩ := Post.hold h1
  obtain ⟨s, e, h1⟩ := Post.lift h1
  obtain ⟨d, e1, e2⟩ := Option.bind_eq_some_iff.mp e
  obtain ⟨r, e3, h1⟩ := Post.lift0 (show Post Z (rO Z σ) W σ F O H (lift (met .upper s []) τ1) Q from h1)
  cases d with
  | str s' =>
    cases e2
    obtain rfl : x = .str (sS s) := r1.1.der R1 e1
    simp only [met] at e3
    split at e3
    · rename_i hc
      cases e3
      have hc := Bool.and_eq_true_iff.mp hc
      refine ⟨⟨_, rfl⟩, sS s, rfl, rfl, ?_, ?_⟩
      · rw [sS_len]; have := of_decide_eq_true hc.2; omega
      · rw [upp_eq hc.1]; exact Post.rp E1 R1 h1 rfl
    · cases e3
  | _ => cases e2
theorem join_eq (sep : List Nat) (l : List (List Nat)) : Txt.join (sS sep) (l.map sS) = sS (joinL sep l) := by
  have key : ∀ (r : List (List Nat)) (x : List Nat), (r.map sS).foldl (fun (acc : Array Nat) (p : Str) => acc ++ (sS sep).cps ++ p.cps) x.toArray = (joinL sep (x :: r)).toArray := by
    intro r
    induction r with
    | nil => intro x; rfl
    | cons y r ih =>
      intro x
      rw [List.map_cons, List.foldl_cons]
      have e : x.toArray ++ (sS sep).cps ++ (sS y).cps = (x ++ sep ++ y).toArray := by
        show x.toArray ++ sep.toArray ++ y.toArray = _
        simp
      rw [e, ih]
      congr 1
      cases r with
      | nil => show x ++ sep ++ y = x ++ sep ++ joinL sep [y]; rfl
      | cons z r =>
        show x ++ sep ++ y ++ sep ++ joinL sep (z :: r) = x ++ sep ++ (y ++ sep ++ joinL sep (z :: r))
        simp [List.append_assoc]
  unfold Txt.join
  cases l with
  | nil => rfl
  | cons x r => exact congrArg Str.mk (key r x)
theorem e_join {apos : Pos} (ho : PE X a' (rdE Z G cf W a)) (he : PE X b' (rdE Z G cf W b)) (hn : noStar b' = true) (hb : baseOk a' = true) (hl : (apos.endLine == pos.line) = true) : PE X (.Call (.Attribute a' "join" apos) [b'] [] pos) (rdE Z G cf W (.met .join a [b])) := by
  refine (pe_join ho he (star_of (noStar_ne hn) [] _) (base_of hb) hl).imp fun σ H Q ⟨F, O, τ, R, h⟩ => ?_
  simp only [ev, evs] at h
  refine ⟨F, O, τ, R, (Post.bind h).mono fun x H1 ⟨F1, O1, τ1, x1, c1, E1, R1, r1, _, h1⟩ => ?_⟩
  obtain ⟨hh, h1⟩ := Post.hold h1
  obtain ⟨s, e, h1⟩ := Post.lift h1
  obtain ⟨d, e1, e2⟩ := Option.bind_eq_some_iff.mp e
  obtain ⟨s', rfl⟩ : ∃ s', d = .str s' := by
    cases d <;> first | exact ⟨_, rfl⟩ | cases e2
  cases e2
  obtain rfl : x = .str (sS s) := r1.1.der R1 e1
  have h1 : Post Z (rO Z σ) W σ F O H ((ev G cf b τ1).bind fun y t => (frz y t).bind fun d t => lift (met .join s [d]) t) Q := by
    have e : ((((ev G cf b τ1).bind fun x t => (frz x t).bind fun d t => (Out.ok ([] : List D) t).bind fun ds t => .ok (d :: ds) t)).bind fun ds t => lift (met .join s ds) t) =
        ((ev G cf b τ1).bind fun y t => (frz y t).bind fun d t => lift (met .join s [d]) t) := by
      cases ev G cf b τ1 with
      | ok y t =>
        show (((frz y t).bind _).bind _) = ((frz y t).bind _)
        cases frz y t <;> rfl
      | ex _ _ => rfl
      | no => rfl
    exact e ▸ h1
  refine ⟨⟨_, rfl⟩, F1, O1, τ1, R1, (Post.bind (Post.weak E1 h1)).mono fun y H2 ⟨F2, O2, τ2, x2, c2, E2, R2, r2, _, h2⟩ => ?_⟩
  obtain ⟨F3, O3, τ3, d, E3, R3, p3, _, h3⟩ := Post.frz E2 R2 r2 h2
  obtain ⟨r, e, h3⟩ := Post.lift0 h3
  cases d with
  | lst xs =>
    simp only [met] at e
    obtain ⟨l, el, e⟩ := Option.bind_eq_some_iff.mp e
    split at e
    · rename_i hc
      cases e
      obtain ⟨p, vs, rfl, _, e4, e5⟩ := p3
      rw [allS_rps e5 el] at e4
      refine ⟨sS s, p, l.map sS, rfl, rfl, .inl (SqL.of e4), ?_, ?_⟩
      · rw [sS_map, List.length_map, sS_len]; exact hc
      · rw [join_eq]; exact Post.rp .refl R3 h3 rfl
    · cases e
  | _ => cases e
end
end TY
/-! TyI: calls of defs. -/
namespace TY
open PySem PySem.Spec PyProof.Rows L2
/-- a call's effect: F's things stay; what was tracked, not in F and not handed in to be changed stays, and is no part of what comes -/
structure ExtC (Z : Wh) (F : AP) (bs : List Addr) (H : Hp) (F' : AP) (bs' : List Addr) (H' : Hp) (cs : List Addr) : Prop where
  st : Stay F H F' H'
  rest : ∀ b o, H b = some o → ¬ F b → b ∉ bs → (hn : ∀ ps, o ≠ .tbl ps := by first | assumption | exact fun ps z => nomatch z) → H' b = some o ∧ ¬ F' b ∧ b ∉ bs' ∧ b ∉ cs
  tk : Tk Z F' H'
  dj : ∀ b ∈ cs, b ∉ bs'
section
variable (Z : Wh)
def RpR (F : AP) (H : Hp) (v : V) (cs : List Addr) : Rs → Prop
  | .val d => cs = [] ∧ Rp Z H F v d
  | .tmp m => Own Z H F v cs m
/-- what stands at the argument that was handed in to be changed -/
def RpI (F : AP) (H : Hp) (vs : List V) (bs : List Addr) : Option Mu → Prop
  | none => bs = []
  | some m => ∃ v r, vs = v :: r ∧ Own Z H F v bs m
/-- the other arguments -/
def rst (m : Option Mu) (vs : List V) : List V := match m with
  | none => vs
  | some _ => vs.drop 1
/-- what a def promises: what the evaluator says -/
def spC (n : Nat) (out : Option Mu → List D → OutC) : Sp := fun vs H Q E => vs.length = n ∧ ∃ F m ds bs, Tk Z F H ∧ RpI Z F H vs bs m ∧ Rps Z H F (rst m vs) ds ∧
  match out m ds with
  | .ok r m' => ∀ v cs F' bs' H', ExtC Z F bs H F' bs' H' cs → RpR Z F' H' v cs r → RpI Z F' H' vs bs' m' → Q v H'
  | .ex x => ∀ cls d F' bs' H', ExtC Z F bs H F' bs' H' [] → RpX Z x cls d H' → E cls d H'
  | .no => False
end
section
variable {Z : Wh} {G : Glob} {cf : CallF} {W : WX} {X : Cx} {a b c : E} {a' b' c' : Expr} {pos : Pos} {es : List E} {es' : List Expr}
theorem RpR.op {F : AP} {O : Ow} {τ : Tau} {σ : L2.St} {H : Hp} {v : V} {cs : List Addr} {r : Rs} (h : RpR Z F H v cs r) : RpO Z F τ σ H v cs r.op := by
  cases r <;> exact h
theorem ExtC.ext {F F' : AP} {O : Ow} {H H' : Hp} {bs' cs : List Addr} (e : ExtC Z F [] H F' bs' H' cs) : Ext F O H F' O H' cs :=
  ⟨e.st, fun b o h1 h2 h3 h4 => let ⟨g1, g2, _, g4⟩ := e.rest b o h1 h2 (by simp); ⟨g1, g2, h3, g4⟩⟩
theorem ExtC.rl {F F' : AP} {O : Ow} {τ : Tau} {σ : L2.St} {H H' : Hp} {bs' cs : List Addr} (e : ExtC Z F [] H F' bs' H' cs) (R : Rl Z F O τ σ H) : Rl Z F' O τ σ H' ∧ ∀ b ∈ cs, ∀ i, b ∉ O i := by
  have own : ∀ i b, b ∈ O i → H' b = H b ∧ ¬ F' b ∧ b ∉ cs := fun i b hb => by
    obtain ⟨⟨o, q, hn⟩, nf⟩ := R.ownTrk hb
    obtain ⟨g1, g2, _, g4⟩ := e.rest b o q nf (by simp)
    exact ⟨g1.trans q.symm, g2, g4⟩
  refine ⟨⟨R.len, fun i d q => ?_, fun i m q => ?_, R.non, R.dis, e.tk⟩, fun b hb i hi => (own i b hi).2.2 hb⟩
  · obtain ⟨v, h1, h2⟩ := R.val i d q
    exact ⟨v, h1, h2.stay e.st⟩
  · obtain ⟨v, h1, w⟩ := R.own i m q
    exact ⟨v, h1, w.rp.stay e.st fun b hb => (own i b hb).1, w.nd, fun b hb => (own i b hb).2.1⟩
/-- a call of a def whose arguments are given away -/
theorem call_rd {f n : Nat} {σ : L2.St} {F0 F : AP} {O0 O : Ow} {H0 H : Hp} {τ : Tau} {vs : List V} {ds : List D} {Q : VK} {cs : List Addr} (E : Ext F0 O0 H0 F O H cs) (R : Rl Z F O τ σ H) (r : Rps Z H F vs ds) (hn : vs.length = n)
    (h : Post Z (rO Z σ) W σ F0 O0 H0 (doCall cf f ds τ) Q) : spC Z n (cf f) vs H Q (WE W σ) := by
  refine ⟨hn, F, none, ds, [], R.tk, rfl, r, ?_⟩
  unfold doCall at h
  cases q : cf f none ds with
  | ok rs m =>
    rw [q] at h
    cases m with
    | some m => exact h.elim
    | none =>
      intro v cs' F' bs' H' e p _
      obtain ⟨R', dj⟩ := e.rl R
      exact h v cs' F' O H' (E.trans e.ext) R' ⟨RpR.op (O := O) p, dj⟩
  | ex x =>
    rw [q] at h
    intro cls d F' bs' H' e p
    obtain ⟨R', dj⟩ := e.rl R
    exact h cls d F' O H' (E.trans e.ext) R' p
  | no => rw [q] at h; exact h.elim
/-- .. whose first argument is handed in to be changed -/
theorem calli_rd {f n i : Nat} {σ : L2.St} {F0 F : AP} {O0 O : Ow} {H0 H : Hp} {τ : Tau} {v0 : V} {vs : List V} {ds : List D} {Q : VK} {cs : List Addr} (E : Ext F0 O0 H0 F O H cs) (R : Rl Z F O τ σ H) (hv : σ[i]? = some (some v0)) (r : Rps Z H F vs ds) (hn : vs.length + 1 = n)
    (h : Post Z (rO Z σ) W σ F0 O0 H0 (doCallI cf f i ds τ) Q) : spC Z n (cf f) (v0 :: vs) H Q (WE W σ) := by
  unfold doCallI at h
  cases g : getM τ i with
  | none => rw [g] at h; exact h.elim
  | some m =>
    rw [g] at h
    simp only at h
    have gs : getS τ i = some (.o m) := by
      unfold getM at g
      split at g
      · cases g; assumption
      · cases g
    obtain ⟨v, hv', w⟩ := R.own i m gs
    rw [hv] at hv'; cases hv'
    refine ⟨hn, F, some m, ds, O i, R.tk, ⟨v0, vs, rfl, w⟩, r, ?_⟩
    cases q : cf f (some m) ds with
    | no => rw [q] at h; exact h.elim
    | ex x => rw [q] at h; exact h.elim
    | ok rs mo =>
      rw [q] at h
      cases mo with
      | none => exact h.elim
      | some m' =>
        intro v cs' F' bs' H' e p pi
        obtain ⟨u, r', e0, w'⟩ := pi
        cases e0
        let O' : Ow := fun j => if j = i then bs' else O j
        have oi : O' i = bs' := if_pos rfl
        have oj : ∀ j, j ≠ i → O' j = O j := fun j hj => if_neg hj
        have own : ∀ j b, j ≠ i → b ∈ O j → H' b = H b ∧ ¬ F' b ∧ b ∉ bs' ∧ b ∉ cs' := fun j b hj hb => by
          obtain ⟨⟨o, q, hn⟩, nf⟩ := R.ownTrk hb
          rw [q]
          exact e.rest b o q nf fun z => hj (R.dis j i b hb z)
        have X1 : Ext F O H F' O' H' cs' := ⟨e.st, fun b o h1 h2 h3 h4 => by
          obtain ⟨g1, g2, g3, g4⟩ := e.rest b o h1 h2 (h3 i)
          refine ⟨g1, g2, fun j z => ?_, g4⟩
          by_cases hj : j = i
          · rw [hj, oi] at z; exact g3 z
          · rw [oj j hj] at z; exact h3 j z⟩
        have li := getS_lt gs
        have R1 : Rl Z F' O' (τ.set i (some (.o m'))) σ H' := by
          refine ⟨by rw [List.length_set]; exact R.len, fun j d q => ?_, fun j k q => ?_, fun j q => ?_, fun j k b h1 h2 => ?_, e.tk⟩
          · rw [getS_set] at q
            split at q
            · cases q
            · obtain ⟨v', h1, h2⟩ := R.val j d q
              exact ⟨v', h1, h2.stay e.st⟩
          · rw [getS_set] at q
            split at q
            · rename_i c
              cases q
              rw [← c.1, oi]
              exact ⟨v0, hv, w'⟩
            · rename_i c
              have ne : j ≠ i := fun z => c ⟨z.symm, li⟩
              obtain ⟨v', h1, w2⟩ := R.own j k q
              rw [oj j ne]
              exact ⟨v', h1, w2.rp.stay e.st fun b hb => (own j b ne hb).1, w2.nd, fun b hb => (own j b ne hb).2.1⟩
          · by_cases ne : j = i
            · exact absurd (by rw [getS_set, if_pos ⟨ne.symm, li⟩]) (q m')
            · rw [oj j ne]
              refine R.non j fun k z => q k ?_
              rw [getS_set, if_neg fun z => ne z.1.symm]
              exact z
          · by_cases hj : j = i
            · by_cases hk : k = i
              · rw [hj, hk]
              · rw [hj, oi] at h1
                rw [oj k hk] at h2
                exact absurd h1 (own k b hk h2).2.2.1
            · by_cases hk : k = i
              · rw [hk, oi] at h2
                rw [oj j hj] at h1
                exact absurd h2 (own j b hj h1).2.2.1
              · rw [oj j hj] at h1
                rw [oj k hk] at h2
                exact R.dis j k b h1 h2
        refine h v cs' F' O' H' (E.trans X1) R1 ⟨RpR.op (O := O') p, fun b hb j hj => ?_⟩
        by_cases ne : j = i
        · rw [ne, oi] at hj; exact e.dj b hb hj
        · rw [oj j ne] at hj; exact (own j b ne hj).2.2.2 hb
/-- a def that is known: where it stands, what it promises -/
structure Kn (Z : Wh) (X : Cx) (cf : CallF) (k f : Nat) (x : Str) (n : Nat) : Prop where
  ex : ∃ (p : Addr) (fd : FuncData) (ps : List Str), Z.fa f = some p ∧ X.mg x = some (.ref p) ∧ PySem.W.keepIn X.K (.ref p) = true ∧ Binds X.K fd ps [] ∧ FnOk X.prog X.w X.K X.mg X.base (L2N.CX X.prog X.w) k p fd ps (spC Z n (cf f))
  db : (x == ("__debug__" : Str)) = false
theorem evs_len : ∀ {es : List E} {τ τ' : Tau} {ds : List D}, evs G cf es τ = .ok ds τ' → ds.length = es.length
  | [], _, _, _, h => by simp only [evs] at h; cases h; rfl
  | e :: es, τ, τ', ds, h => by
    simp only [evs] at h
    cases q : ev G cf e τ with
    | no => rw [q] at h; cases h
    | ex _ _ => rw [q] at h; cases h
    | ok x t =>
      rw [q] at h
      simp only [Out.bind] at h
      cases q2 : frz x t with
      | no => rw [q2] at h; cases h
      | ex _ _ => rw [q2] at h; cases h
      | ok d t2 =>
        rw [q2] at h
        simp only at h
        cases q3 : evs G cf es t2 with
        | no => rw [q3] at h; cases h
        | ex _ _ => rw [q3] at h; cases h
        | ok r t3 =>
          rw [q3] at h
          cases h
          show r.length + 1 = es.length + 1
          rw [evs_len q3]
theorem e_call {f k n : Nat} {x : Str} {p : Pos} (kn : Kn Z X cf k f x n) (hr : Room k X.A) (tk : L2N.Takes X W) (hg : Gl X x) (hs : PA X (a' :: es') (rdDs Z G cf W es)) (hn : noStar a' = true) (hns : es'.all noStar = true) (hl : es.length = n) :
    PE X (.Call (.Name x p) (a' :: es') [] pos) (rdE Z G cf W (.call f es)) := by
  obtain ⟨q, fd, ps, h1, h2, h3, h4, h5⟩ := kn.ex
  refine (pe_callS h5 hr hg h2 h3 h4 (fun σ => L2N.passAt tk σ) hs kn.db (star_of (noStar_ne hn) _ _) (stars_of hns)).imp fun σ H Q ⟨F, O, τ, R, h⟩ => ?_
  simp only [ev] at h
  refine ⟨F, O, τ, R, (Post.bind h).mono fun xs H1 ⟨F1, O1, τ1, ds, c1, E1, R1, r1, w, h1⟩ => ?_⟩
  exact call_rd E1 R1 r1.2 (by rw [r1.2.len, evs_len w]; exact hl) h1
/-- f() -/
theorem e_call0 {f k : Nat} {x : Str} {p : Pos} (kn : Kn Z X cf k f x 0) (hr : Room k X.A) (tk : L2N.Takes X W) (hg : Gl X x) : PE X (.Call (.Name x p) [] [] pos) (rdE Z G cf W (.call f [])) := by
  obtain ⟨q, fd, ps, h1, h2, h3, h4, h5⟩ := kn.ex
  refine ⟨fun pins s σ H Q I ⟨F, O, τ, R, h⟩ => ?_⟩
  simp only [ev, evs] at h
  refine wpAny_Call_Name_kw (ld_glob I hg h2 ?_ kn.db)
  exact PySem.W.callWith_K0 I.kIn h3 (run_fnS (us := []) (vs := []) h5 hr h4 (L2N.passAt tk σ) I .nil (call_rd (ds := []) .refl R (vs := []) True.intro rfl h))
theorem e_calli {f k n i : Nat} {x y : Str} {p p2 : Pos} (kn : Kn Z X cf k f x n) (hr : Room k X.A) (tk : L2N.Takes X W) (hg : Gl X x) (hN : X.N[i]? = some y) (hv : Vis X.env.scope y) (hd : (y == ("__debug__" : Str)) = false) (hcd : (y == ("__classdict__" : Str)) = false)
    (hs : PA X es' (rdDs Z G cf W es)) (hns : es'.all noStar = true) (hl : es.length + 1 = n) : PE X (.Call (.Name x p) (.Name y p2 :: es') [] pos) (rdE Z G cf W (.calli f i es)) := by
  obtain ⟨q, fd, ps, h1, h2, h3, h4, h5⟩ := kn.ex
  refine (pe_callS h5 hr hg h2 h3 h4 (fun σ => L2N.passAt tk σ) (pa_cons (pe_var hN hv hd hcd) hs rfl) kn.db rfl (stars_of hns)).imp fun σ H Q ⟨F, O, τ, R, h⟩ => ?_
  simp only [ev] at h
  split at h
  · rename_i g
    have gs : ∃ m, getS τ i = some (.o m) := by
      unfold getM at g
      split at g
      · exact ⟨_, by assumption⟩
      · cases g
    obtain ⟨m, gs⟩ := gs
    obtain ⟨v, hv, _⟩ := R.own i m gs
    refine ⟨v, hv, F, O, τ, R, (Post.bind h).mono fun xs H1 ⟨F1, O1, τ1, ds, c1, E1, R1, r1, w, h1⟩ => ?_⟩
    exact calli_rd E1 R1 hv r1.2 (by rw [r1.2.len, evs_len w]; exact hl) h1
  · exact h.elim
end
end TY
/-! TyS: statements. -/
namespace TY
open PySem PySem.Spec PyProof.Rows L2
section
variable {Z : Wh} {F : AP} {O : Ow} {H : Hp} {τ : Tau} {σ : L2.St}
/-- a slot comes to hold a frozen value -/
theorem Rl.setv {i : Nat} {v : V} {d : D} (R : Rl Z F O τ σ H) (p : Rp Z H F v d) : Rl Z F (clr O i) (τ.set i (some (.v d))) (σ.set i (some v)) H ∧ Ext F O H F (clr O i) H [] := by
  refine ⟨⟨by rw [List.length_set, List.length_set]; exact R.len, fun j e q => ?_, fun j m q => ?_, fun j q => ?_, fun j k b h1 h2 => R.dis j k b (clr_sub h1).1 (clr_sub h2).1, R.trk⟩, ⟨.refl, fun b o h1 h2 h3 _ => ⟨h1, h2, fun j z => h3 j (clr_sub z).1, by simp⟩⟩⟩
  · rw [getS_set] at q
    split at q
    · rename_i c
      cases q
      refine ⟨v, ?_, p⟩
      rw [← c.1, List.getElem?_set_self (by rw [R.len]; exact c.2)]
    · rename_i c
      obtain ⟨u, h1, h2⟩ := R.val j e q
      refine ⟨u, ?_, h2⟩
      rw [List.getElem?_set_ne fun z => c ⟨z, by rw [z]; exact getS_lt q⟩]
      exact h1
  · rw [getS_set] at q
    split at q
    · cases q
    · rename_i c
      have ne : j ≠ i := fun z => c ⟨z.symm, by rw [← z]; exact getS_lt q⟩
      obtain ⟨u, h1, w⟩ := R.own j m q
      rw [clr_ne ne]
      refine ⟨u, ?_, w⟩
      rw [List.getElem?_set_ne ne.symm]
      exact h1
  · by_cases ne : j = i
    · rw [ne]; exact clr_self
    · rw [clr_ne ne]
      refine R.non j fun m z => q m ?_
      rw [getS_set, if_neg fun z => ne z.1.symm]
      exact z
/-- a slot comes to own a thing that came by itself -/
theorem Rl.seto {F0 : AP} {O0 : Ow} {H0 : Hp} {i : Nat} {v : V} {m : Mu} {cs : List Addr} (E : Ext F0 O0 H0 F O H cs) (R : Rl Z F O τ σ H) (w : Own Z H F v cs m) (dj : ∀ b ∈ cs, ∀ j, b ∉ O j) (hi : i < τ.length) :
    ∃ O', Rl Z F O' (τ.set i (some (.o m))) (σ.set i (some v)) H ∧ Ext F0 O0 H0 F O' H [] ∧ (∀ j, j ≠ i → O' j = O j) ∧ O' i = cs := by
  let O' : Ow := fun j => if j = i then cs else O j
  have oi : O' i = cs := if_pos rfl
  have oj : ∀ j, j ≠ i → O' j = O j := fun j hj => if_neg hj
  refine ⟨O', ⟨by rw [List.length_set, List.length_set]; exact R.len, fun j e q => ?_, fun j k q => ?_, fun j q => ?_, fun j k b h1 h2 => ?_, R.trk⟩, ⟨E.st, fun b o h1 h2 h3 h4 => ?_⟩, oj, oi⟩
  · rw [getS_set] at q
    split at q
    · cases q
    · rename_i c
      obtain ⟨u, h1, h2⟩ := R.val j e q
      refine ⟨u, ?_, h2⟩
      rw [List.getElem?_set_ne fun z => c ⟨z, hi⟩]
      exact h1
  · rw [getS_set] at q
    split at q
    · rename_i c
      cases q
      refine ⟨v, ?_, ?_⟩
      · rw [← c.1, List.getElem?_set_self (by rw [R.len]; exact hi)]
      · rw [← c.1, oi]; exact w
    · rename_i c
      have ne : j ≠ i := fun z => c ⟨z.symm, hi⟩
      obtain ⟨u, h1, w2⟩ := R.own j k q
      rw [oj j ne]
      refine ⟨u, ?_, w2⟩
      rw [List.getElem?_set_ne ne.symm]
      exact h1
  · by_cases ne : j = i
    · exact absurd (by rw [getS_set, if_pos ⟨ne.symm, hi⟩]) (q m)
    · rw [oj j ne]
      refine R.non j fun m z => q m ?_
      rw [getS_set, if_neg fun z => ne z.1.symm]
      exact z
  · by_cases hj : j = i
    · by_cases hk : k = i
      · rw [hj, hk]
      · rw [hj, oi] at h1
        rw [oj k hk] at h2
        exact absurd h2 (dj b h1 k)
    · by_cases hk : k = i
      · rw [hk, oi] at h2
        rw [oj j hj] at h1
        exact absurd h1 (dj b h2 j)
      · rw [oj j hj] at h1
        rw [oj k hk] at h2
        exact R.dis j k b h1 h2
  · obtain ⟨g1, g2, g3, g4⟩ := E.rest b o h1 h2 h3
    refine ⟨g1, g2, fun j z => ?_, by simp⟩
    by_cases hj : j = i
    · rw [hj, oi] at z; exact g4 z
    · rw [oj j hj] at z; exact g3 j z
/-- a slot's own thing is written -/
theorem Rl.wr {i : Nat} {v : V} {m m' : Mu} {a : Addr} {o : HO} (R : Rl Z F O τ σ H) (e : getS τ i = some (.o m)) (ha : a ∈ O i) (hv : σ[i]? = some (some v)) (w : RpM Z (upd H a o) F v (O i) m') :
    Rl Z F O (τ.set i (some (.o m'))) σ (upd H a o) ∧ Ext F O H F O (upd H a o) [] := by
  have li := getS_lt e
  obtain ⟨v', hv', w0⟩ := R.own i m e
  have st : Stay F H F (upd H a o) := ⟨fun _ h => h, fun b fb => upd_ne fun z => w0.nf a ha (by rw [← z]; exact fb)⟩
  have ne : ∀ j b, j ≠ i → b ∈ O j → b ≠ a := fun j b hj hb z => hj (R.dis j i b hb (by rw [z]; exact ha))
  refine ⟨⟨by rw [List.length_set]; exact R.len, fun j d q => ?_, fun j k q => ?_, fun j q => ?_, R.dis, ⟨fun b fb => ?_, tabs_upd R.trk.tab (w0.rp.wn a ha)⟩⟩, ⟨st, fun b u h1 h2 h3 _ => ⟨by rw [upd_ne fun z => h3 i (by rw [z]; exact ha)]; exact h1, h2, h3, by simp⟩⟩⟩
  · rw [getS_set] at q
    split at q
    · cases q
    · obtain ⟨u, h1, h2⟩ := R.val j d q
      exact ⟨u, h1, h2.stay st⟩
  · rw [getS_set] at q
    split at q
    · rename_i c
      cases q
      rw [← c.1]
      exact ⟨v, hv, w, w0.nd, w0.nf⟩
    · rename_i c
      have nj : j ≠ i := fun z => c ⟨z.symm, li⟩
      obtain ⟨u, h1, w2⟩ := R.own j k q
      exact ⟨u, h1, w2.rp.stay st fun b hb => upd_ne (ne j b nj hb), w2.nd, w2.nf⟩
  · by_cases nj : j = i
    · exact absurd (by rw [getS_set, if_pos ⟨nj.symm, li⟩]) (q m')
    · refine R.non j fun k z => q k ?_
      rw [getS_set, if_neg fun z => nj z.1.symm]
      exact z
  · exact (R.trk.t b fb).of (upd_ne fun z => w0.nf a ha (by rw [← z]; exact fb))
end

section
variable (Z : Wh) (G : Glob) (cf : CallF) (wf : Nat) (io : Bool) (s0 : Option (Option V)) (W : WX)
/-- what a statement leaves -/
def PostS (F : AP) (O : Ow) (H : Hp) (out : Out Fl) (E : Ends) : Prop := match out with
  | .ok .nx τ' => ∀ σ' F' O' H', Ext F O H F' O' H' [] → Rl Z F' O' τ' σ' H' → (io = true → σ'[0]? = s0) → E.nx σ' H'
  | .ok .brk τ' => ∀ σ' F' O' H', Ext F O H F' O' H' [] → Rl Z F' O' τ' σ' H' → (io = true → σ'[0]? = s0) → E.bk σ' H'
  | .ok (.ret r) τ' => ∀ v cs σ' F' O' H', Ext F O H F' O' H' cs → Rl Z F' O' τ' σ' H' → (io = true → σ'[0]? = s0) → RpR Z F' H' v cs r → (∀ b ∈ cs, ∀ i, b ∉ O' i) → E.rt v H'
  | .ex x τ' => ∀ cls d σ' F' O' H', Ext F O H F' O' H' [] → Tk Z F' H' → RpX Z x cls d H' → W cls d σ' H'
  | .no => False
def rdS (m : M Fl) : TS := fun E σ H => (io = true → σ[0]? = s0) ∧ ∃ F O τ, Rl Z F O τ σ H ∧ PostS Z io s0 W F O H (m τ) E
end
section
variable {Z : Wh} {G : Glob} {cf : CallF} {wf : Nat} {io : Bool} {s0 : Option (Option V)} {W : WX} {X : Cx} {a b c : E} {a' b' c' : Expr} {pos : Pos} {es : List E} {es' : List Expr}
theorem _root_.L2.PS.imp {e : Stmt} {t t' : TS} (h : PS X e t) (k : ∀ D σ H, t' D σ H → t D σ H) : PS X e t' := ⟨fun pins s σ H Q I q => h.run pins s σ H Q I (k Q σ H q)⟩
theorem _root_.L2.PSs.imp {e : List Stmt} {t t' : TS} (h : PSs X e t) (k : ∀ D σ H, t' D σ H → t D σ H) : PSs X e t' := ⟨fun pins s σ H Q I q => h.run pins s σ H Q I (k Q σ H q)⟩
theorem PostS.weak {F F' : AP} {O O' : Ow} {H H' : Hp} {out : Out Fl} {cs : List Addr} {E : Ends} (e : Ext F O H F' O' H' cs) (h : PostS Z io s0 W F O H out E) : PostS Z io s0 W F' O' H' out E := by
  cases out with
  | ok fl t =>
    cases fl with
    | nx => exact fun σ' F2 O2 H2 e2 r q => h σ' F2 O2 H2 (e.trans e2) r q
    | brk => exact fun σ' F2 O2 H2 e2 r q => h σ' F2 O2 H2 (e.trans e2) r q
    | ret r => exact fun v c2 σ' F2 O2 H2 e2 r q p => h v c2 σ' F2 O2 H2 (e.trans e2) r q p
  | ex x t => exact fun cls d σ' F2 O2 H2 e2 k r => h cls d σ' F2 O2 H2 (e.trans e2) k r
  | no => exact h
/-- an evaluation ahead of the rest of a statement -/
theorem PostS.bind {Y α : Type} {RR : RRel Y α} {σ : L2.St} {F : AP} {O : Ow} {H : Hp} {out : Out α} {f : α → Tau → Out Fl} {E : Ends} (h : PostS Z io s0 W F O H (out.bind f) E) :
    Post Z RR W σ F O H out (fun y H1 => ∃ F1 O1 τ1 x cs, Ext F O H F1 O1 H1 cs ∧ Rl Z F1 O1 τ1 σ H1 ∧ RR F1 O1 τ1 H1 y cs x ∧ out = .ok x τ1 ∧ PostS Z io s0 W F O H (f x τ1) E) := by
  cases out with
  | ok x t => exact fun y cs F1 O1 H1 e r q => ⟨F1, O1, t, x, cs, e, r, q, rfl, h⟩
  | ex x t => exact fun cls d F1 O1 H1 e r p => h cls d σ F1 O1 H1 e r.trk p
  | no => exact h
theorem PostS.lift {α : Type} {F : AP} {O : Ow} {H : Hp} {τ : Tau} {o : Option α} {f : α → Tau → Out Fl} {E : Ends} (h : PostS Z io s0 W F O H ((TY.lift o τ).bind f) E) : ∃ a, o = some a ∧ PostS Z io s0 W F O H (f a τ) E := by
  cases o with
  | none => exact h.elim
  | some a => exact ⟨a, rfl, h⟩
theorem PostS.frz {σ : L2.St} {F0 F : AP} {O0 O : Ow} {H0 H : Hp} {τ : Tau} {x : Op} {v : V} {cs : List Addr} {f : D → Tau → Out Fl} {E : Ends} (X1 : Ext F0 O0 H0 F O H cs) (R : Rl Z F O τ σ H) (r : rO Z σ F O τ H v cs x)
    (h : PostS Z io s0 W F0 O0 H0 ((TY.frz x τ).bind f) E) : ∃ F' O' τ' d, Ext F0 O0 H0 F' O' H [] ∧ Rl Z F' O' τ' σ H ∧ Rp Z H F' v d ∧ TY.frz x τ = .ok d τ' ∧ PostS Z io s0 W F' O' H (f d τ') E := by
  have nx : ∀ e t, TY.frz x τ ≠ .ex e t := fun e t z => by
    unfold TY.frz at z
    split at z <;> first | cases z | (split at z <;> first | cases z | (split at z <;> cases z))
  cases q : TY.frz x τ with
  | ok d t =>
    obtain ⟨F', O', e, r', p⟩ := frz_ok X1 R r q
    rw [q] at h
    exact ⟨F', O', t, d, e, r', p, rfl, PostS.weak e h⟩
  | ex e t => exact absurd q (nx e t)
  | no => rw [q] at h; exact h.elim
theorem frz_tau {x : Op} {τ τ' : Tau} {d : D} (h : TY.frz x τ = .ok d τ') : τ'.length = τ.length := by
  unfold TY.frz at h
  split at h
  · cases h; rfl
  · split at h
    · cases h; rfl
    · cases h; rw [List.length_set]
    · cases h
  · split at h
    · split at h
      · cases h; rfl
      · cases h
    · cases h
  · cases h; rfl

/-! ### sequences -/
theorem s_nil : PSs X [] (rdS Z io s0 W (exss G cf wf io [])) := pss_nil.imp fun E σ H ⟨h0, F, O, τ, R, h⟩ => by
  simp only [exss] at h
  exact h σ F O H .refl R h0
theorem s_cons {st : S} {ss : List S} {st' : Stmt} {ss' : List Stmt} (h1 : PS X st' (rdS Z io s0 W (exs G cf wf io st))) (h2 : PSs X ss' (rdS Z io s0 W (exss G cf wf io ss))) : PSs X (st' :: ss') (rdS Z io s0 W (exss G cf wf io (st :: ss))) := by
  refine (pss_cons h1 h2).imp fun E σ H ⟨h0, F, O, τ, R, h⟩ => ?_
  simp only [exss] at h
  refine ⟨h0, F, O, τ, R, ?_⟩
  cases q : exs G cf wf io st τ with
  | no => rw [q] at h; exact h.elim
  | ex x t => rw [q] at h; exact h
  | ok fl t =>
    rw [q] at h
    cases fl with
    | nx => exact fun σ' F' O' H' e r z => ⟨z, F', O', t, r, PostS.weak e h⟩
    | brk => exact h
    | ret r => exact h

/-! ### simple statements -/
theorem st_ex {e' : Expr} (he : PE X e' (rdE Z G cf W a)) (hs : swapsWith e' none pos.line X.env = pure false) : PS X (.Expr e' pos) (rdS Z io s0 W (exs G cf wf io (.ex a))) := by
  refine (ps_expr he hs).imp fun E σ H ⟨h0, F, O, τ, R, h⟩ => ?_
  simp only [exs] at h
  exact ⟨F, O, τ, R, (PostS.bind h).mono fun x H1 ⟨F1, O1, τ1, x1, c1, E1, R1, r1, _, h1⟩ => h1 σ F1 O1 H1 E1.drop R1 h0⟩
theorem st_if {ss1 ss2 : List S} {ss1' ss2' : List Stmt} (hc : PT X c' (rdT Z G cf W c)) (h1 : PSs X ss1' (rdS Z io s0 W (exss G cf wf io ss1))) (h2 : PSs X ss2' (rdS Z io s0 W (exss G cf wf io ss2))) :
    PS X (.If c' ss1' ss2' pos) (rdS Z io s0 W (exs G cf wf io (.if_ c ss1 ss2))) := by
  refine (ps_if hc h1 h2).imp fun E σ H ⟨h0, F, O, τ, R, h⟩ => ?_
  simp only [exs] at h
  have e : ((ev G cf c τ).bind fun x t => (asB x t).bind fun r t => if r = true then exss G cf wf io ss1 t else exss G cf wf io ss2 t) = ((ev G cf c τ).bind asB).bind fun r t => if r = true then exss G cf wf io ss1 t else exss G cf wf io ss2 t := by
    cases ev G cf c τ <;> rfl
  rw [e] at h
  refine ⟨F, O, τ, R, (PostS.bind h).mono fun k H1 ⟨F1, O1, τ1, x1, c1, E1, R1, r1, _, h1⟩ => ?_⟩
  obtain ⟨_, rfl⟩ := r1
  cases k with
  | true => exact iteT ⟨h0, F1, O1, τ1, R1, PostS.weak E1 h1⟩
  | false => exact iteF ⟨h0, F1, O1, τ1, R1, PostS.weak E1 h1⟩
theorem st_brk : PS X (.Break pos) (rdS Z io s0 W (exs G cf wf io .brk)) := ps_break.imp fun E σ H ⟨h0, F, O, τ, R, h⟩ => by
  simp only [exs] at h
  exact h σ F O H .refl R h0
theorem st_retn : PS X (.Return none pos) (rdS Z io s0 W (exs G cf wf io .retn)) := ps_retN.imp fun E σ H ⟨h0, F, O, τ, R, h⟩ => by
  simp only [exs] at h
  exact h .non [] σ F O H .refl R h0 ⟨rfl, rfl⟩ fun _ hb => absurd hb (by simp)
theorem st_ret (he : PE X a' (rdE Z G cf W a)) : PS X (.Return (some a') pos) (rdS Z io s0 W (exs G cf wf io (.ret a))) := by
  refine (ps_ret he).imp fun E σ H ⟨h0, F, O, τ, R, h⟩ => ?_
  simp only [exs] at h
  refine ⟨F, O, τ, R, (PostS.bind h).mono fun x H1 ⟨F1, O1, τ1, x1, c1, E1, R1, r1, _, h1⟩ => ?_⟩
  unfold retO at h1
  split at h1
  · exact h1 x [] σ F1 O1 H1 E1.drop R1 h0 ⟨rfl, r1.1.2⟩ fun _ hb => absurd hb (by simp)
  · exact h1 x c1 σ F1 O1 H1 E1 R1 h0 r1.1 r1.2
  · rename_i i _
    split at h1
    · exact h1.elim
    · split at h1
      · rename_i d q
        obtain ⟨v, g1, g2⟩ := R1.val i d q
        rw [r1.1.2] at g1; cases g1
        exact h1 x [] σ F1 O1 H1 E1.drop R1 h0 ⟨rfl, g2⟩ fun _ hb => absurd hb (by simp)
      · rename_i m q
        obtain ⟨v, g1, w⟩ := R1.own i m q
        rw [r1.1.2] at g1; cases g1
        have R2 : Rl Z F1 (clr O1 i) (τ1.set i none) σ H1 := by
          refine ⟨by rw [List.length_set]; exact R1.len, fun j d q => ?_, fun j m q => ?_, fun j q => ?_, fun j k b h1 h2 => R1.dis j k b (clr_sub h1).1 (clr_sub h2).1, R1.trk⟩
          · rw [getS_set0] at q
            split at q
            · cases q
            · exact R1.val j d q
          · rw [getS_set0] at q
            split at q
            · cases q
            · rename_i ne
              rw [clr_ne fun z => ne z.symm]
              exact R1.own j m q
          · by_cases ne : j = i
            · rw [ne]; exact clr_self
            · rw [clr_ne ne]
              refine R1.non j fun m z => q m ?_
              rw [getS_set0, if_neg fun z => ne z.symm]
              exact z
        refine h1 x (O1 i) σ F1 (clr O1 i) H1 ⟨E1.st, fun b o h1 h2 h3 h4 => ?_⟩ R2 h0 w fun b hb j hj => ?_
        · obtain ⟨g1, g2, g3, _⟩ := E1.rest b o h1 h2 h3
          exact ⟨g1, g2, fun j z => g3 j (clr_sub z).1, g3 i⟩
        · obtain ⟨hj1, hj2⟩ := clr_sub hj
          exact hj2 (R1.dis j i b hj1 hb)
      · exact h1.elim
  · exact h1.elim
/-- a slot is set to an operand -/
theorem setO_ok {E : Ends} {i : Nat} {σ : L2.St} {F0 F : AP} {O0 O : Ow} {H0 H : Hp} {τ : Tau} {x : Op} {v : V} {cs : List Addr} {f : Unit → Tau → Out Fl} (X1 : Ext F0 O0 H0 F O H cs) (R : Rl Z F O τ σ H) (r : rO Z σ F O τ H v cs x) (h0 : io = true → σ[0]? = s0)
    (h : PostS Z io s0 W F0 O0 H0 ((setO io.toNat i x τ).bind f) E) : ∃ F' O' τ', Rl Z F' O' τ' (σ.set i (some v)) H ∧ Ext F0 O0 H0 F' O' H [] ∧ (io = true → (σ.set i (some v))[0]? = s0) ∧ PostS Z io s0 W F' O' H (f () τ') E := by
  unfold setO at h
  split at h
  · rename_i hi
    have z0 : io = true → (σ.set i (some v))[0]? = s0 := fun e => by
      rw [e] at hi
      have : i ≠ 0 := by have := hi.1; intro z; rw [z] at this; exact absurd this (by decide)
      rw [List.getElem?_set_ne this]
      exact h0 e
    split at h
    · rename_i m
      obtain ⟨O', R', E', _⟩ := Rl.seto X1 R r.1 r.2 hi.2
      exact ⟨F, O', _, R', E', z0, PostS.weak E' h⟩
    · have h' : PostS Z io s0 W F0 O0 H0 ((TY.frz x τ).bind fun d t => f () (t.set i (some (.v d)))) E := by
        have e : (((TY.frz x τ).bind fun d t => (Out.ok () (t.set i (some (.v d))) : Out Unit))).bind f = (TY.frz x τ).bind fun d t => f () (t.set i (some (.v d))) := by
          cases TY.frz x τ <;> rfl
        exact e ▸ h
      obtain ⟨F', O', τ', d, E', R', p, _, h2⟩ := PostS.frz X1 R r h'
      obtain ⟨R2, E2⟩ := R'.setv (i := i) p
      exact ⟨F', clr O' i, _, R2, E'.trans E2, z0, PostS.weak E2 h2⟩
  · exact h.elim
theorem set_rd {i : Nat} {E : Ends} {σ : L2.St} {H : Hp} (h : rdS Z io s0 W (exs G cf wf io (.set i a)) E σ H) : rdE Z G cf W a σ H fun x H1 => gName i x σ H1 E.nx := by
  obtain ⟨h0, F, O, τ, R, h⟩ := h
  simp only [exs] at h
  refine ⟨F, O, τ, R, (PostS.bind h).mono fun x H1 ⟨F1, O1, τ1, x1, c1, E1, R1, r1, _, h1⟩ => ?_⟩
  obtain ⟨F', O', τ', R', E', z0, h2⟩ := setO_ok E1 R1 r1 h0 h1
  exact h2 _ F' O' H1 .refl R' z0
theorem st_set {i : Nat} {x : Str} {p : Pos} (hN : X.N.Nodup) (hi : X.N[i]? = some x) (hx : Loc X.env.scope x) (he : PE X a' (rdE Z G cf W a)) (hs : swapsWith a' (some (.Name x p)) pos.line X.env = pure false) (hf : X.fn x = true ∨ X.env.scope.names.lookup x = some .local) :
    PS X (.Assign [.Name x p] a' pos) (rdS Z io s0 W (exs G cf wf io (.set i a))) := (ps_set hN hi hx he hs hf).imp fun E σ H h => set_rd h
end
end TY
/-! TyT: targets; stores; methods of a list; raise. -/
namespace TY
open PySem PySem.Spec PyProof.Rows L2
theorem _root_.L2.PG.imp {X : Cx} {e : Expr} {t t' : TG} (h : PG X e t) (k : ∀ v σ H Q, t' v σ H Q → t v σ H Q) : PG X e t' := ⟨fun pins s σ H v u Q I r q => h.run pins s σ H v u Q I r (k v σ H Q q)⟩
theorem _root_.L2.PGs.imp {X : Cx} {e : List Expr} {t t' : TGs} (h : PGs X e t) (k : ∀ v σ H Q, t' v σ H Q → t v σ H Q) : PGs X e t' := ⟨fun pins s σ H v u Q I r q => h.run pins s σ H v u Q I r (k v σ H Q q)⟩
mutual
def T.ns : T → List Nat
  | .n i => [i]
  | .t ts => T.nss ts
def T.nss : List T → List Nat
  | [] => []
  | a :: r => a.ns ++ T.nss r
end
/-- all but these names stay -/
structure Same (lo : Nat) (ns : List Nat) (σ σ' : L2.St) : Prop where
  len : σ'.length = σ.length
  at' : ∀ j, j ∉ ns → σ'[j]? = σ[j]?
  io : lo = 1 → σ'[0]? = σ[0]?
section
variable (Z : Wh) (lo : Nat)
def rdG (tg : T) : TG := fun v σ H Q => ∃ F O τ d τ', Rl Z F O τ σ H ∧ Rp Z H F v d ∧ store lo tg d τ = some τ' ∧ ∀ σ' O', Rl Z F O' τ' σ' H → Ext F O H F O' H [] → Same lo tg.ns σ σ' → Q σ' H
def rdGs (tgs : List T) : TGs := fun vs σ H Q => ∃ F O τ ds τ', Rl Z F O τ σ H ∧ Rps Z H F vs ds ∧ stores lo tgs ds τ = some τ' ∧ ∀ σ' O', Rl Z F O' τ' σ' H → Ext F O H F O' H [] → Same lo (T.nss tgs) σ σ' → Q σ' H
end
theorem Rps.set {Z : Wh} {F : AP} {H : Hp} {u : V} {d : D} : ∀ {vs : List V} {xs : List D} (n : Nat), Rps Z H F vs xs → Rp Z H F u d → Rps Z H F (vs.set n u) (xs.set n d)
  | [], [], _, _, _ => True.intro
  | [], _ :: _, _, h, _ => h.elim
  | _ :: _, [], _, h, _ => h.elim
  | _ :: _, _ :: _, 0, h, p => ⟨p, h.2⟩
  | _ :: _, _ :: _, n + 1, h, p => ⟨h.1, Rps.set n h.2 p⟩
section
variable {Z : Wh} {G : Glob} {cf : CallF} {wf : Nat} {io : Bool} {s0 : Option (Option V)} {W : WX} {X : Cx} {a b c : E} {a' b' c' : Expr} {pos : Pos} {es : List E} {es' : List Expr} {lo : Nat}
theorem g_name {i : Nat} {x : Str} (hN : X.N.Nodup) (hi : X.N[i]? = some x) (hx : Loc X.env.scope x) (hf : X.fn x = true ∨ X.env.scope.names.lookup x = some .local) : PG X (.Name x pos) (rdG Z lo (.n i)) :=
  (pg_name hN hi hx hf).imp fun v σ H Q ⟨F, O, τ, d, τ', R, r, e, k⟩ => by
    unfold store at e
    split at e
    · rename_i c
      cases e
      obtain ⟨R2, E2⟩ := R.setv (i := i) r
      refine k _ _ R2 E2 ⟨List.length_set, fun j hj => List.getElem?_set_ne fun z => hj (by simp [T.ns, z]), fun z => ?_⟩
      have : i ≠ 0 := by omega
      rw [List.getElem?_set_ne this]
    · cases e
theorem g_nil : PGs X [] (rdGs Z lo []) := pgs_nil.imp fun v σ H Q ⟨F, O, τ, ds, τ', R, r, e, k⟩ => by
  cases ds with
  | nil =>
    cases e
    cases v with
    | nil => exact ⟨rfl, k σ O R .refl ⟨rfl, fun _ _ => rfl, fun _ => rfl⟩⟩
    | cons _ _ => exact r.elim
  | cons d ds => cases e
theorem g_cons {t : T} {ts : List T} (h1 : PG X a' (rdG Z lo t)) (h2 : PGs X es' (rdGs Z lo ts)) (hs : (assignEach (a' :: es') X.env).map (·.2) = assign a' X.env :: (assignEach es' X.env).map (·.2)) : PGs X (a' :: es') (rdGs Z lo (t :: ts)) :=
  (pgs_cons h1 h2 hs).imp fun v σ H Q ⟨F, O, τ, ds, τ', R, r, e, k⟩ => by
    cases ds with
    | nil => cases e
    | cons d ds =>
      cases v with
      | nil => exact r.elim
      | cons v vs =>
        simp only [stores] at e
        cases q : store lo t d τ with
        | none => rw [q] at e; cases e
        | some t1 =>
          rw [q] at e
          refine ⟨v, vs, rfl, F, O, τ, d, t1, R, r.1, q, fun σ1 O1 R1 E1 z1 => ⟨F, O1, t1, ds, τ', R1, r.2, e, fun σ2 O2 R2 E2 z2 => k σ2 O2 R2 (E1.trans E2) ⟨z2.len.trans z1.len, fun j hj => (z2.at' j fun z => hj (by simp only [T.nss, List.mem_append]; exact .inr z)).trans (z1.at' j fun z => hj (by simp only [T.nss, List.mem_append]; exact .inl z)), fun l => (z2.io l).trans (z1.io l)⟩⟩⟩
theorem stores_len : ∀ {ts : List T} {ds : List D} {τ τ' : Tau}, stores lo ts ds τ = some τ' → ds.length = ts.length
  | [], [], _, _, _ => rfl
  | [], _ :: _, _, _, e => nomatch e
  | _ :: _, [], _, _, e => nomatch e
  | t :: ts, d :: ds, τ, τ', e => by
    simp only [stores] at e
    cases q : store lo t d τ with
    | none => rw [q] at e; cases e
    | some t1 => rw [q] at e; rw [List.length_cons, List.length_cons, stores_len (ts := ts) e]
theorem g_tup {k : Nat} {ts : List T} (hc : X.calm = true) (hk : X.K = Z.K) (h : PGs X es' (rdGs Z lo ts)) (hn : (assignEach es' X.env).length = ts.length) (hst : (assignEach es' X.env).findIdx? (·.1) = none) : PG X (.Tuple es' k pos) (rdG Z lo (.t ts)) :=
  (pg_tup hc h hn hst).imp fun v σ H Q ⟨F, O, τ, d, τ', R, r, e, k⟩ => by
    cases d with
    | tup ds =>
      simp only [store] at e
      obtain ⟨a, vs, ea, ha, rs⟩ := r
      refine ⟨a, vs, ea, by rw [hk]; exact sqT ha, by rw [rs.len]; exact stores_len e, F, O, τ, ds, τ', R, rs, e, k⟩
    | _ => cases e
theorem st_unp {tg : T} {tg' : Expr} (he : PE X a' (rdE Z G cf W a)) (hg : PG X tg' (rdG Z io.toNat tg)) (hs : swapsWithSole [tg'] a' pos.line X.env = pure false) (hw : swappedStores [tg'] a' X.env = pure none) (h1 : (assignEach [tg'] X.env).map (·.2) = [assign tg' X.env]) :
    PS X (.Assign [tg'] a' pos) (rdS Z io s0 W (exs G cf wf io (.unp tg a))) := by
  refine (ps_asg he hg hs hw h1).imp fun E σ H ⟨h0, F, O, τ, R, h⟩ => ?_
  simp only [exs] at h
  refine ⟨F, O, τ, R, (PostS.bind h).mono fun x H1 ⟨F1, O1, τ1, x1, c1, E1, R1, r1, _, h1⟩ => ?_⟩
  obtain ⟨F', O', τ', d, E', R', p, _, h2⟩ := PostS.frz E1 R1 r1 h1
  obtain ⟨t', et, h3⟩ := PostS.lift h2
  refine ⟨F', O', τ', d, t', R', p, et, fun σ' O2 R2 E2 z => ?_⟩
  exact h3 σ' F' O2 H1 E2 R2 fun l => (z.io (by rw [l]; rfl)).trans (h0 l)
/-- o[k] = v: of a dict -/
def rSetN (Z : Wh) : TSet := fun o i v H Q => ∃ F a ob l kvs d, o = .ref a ∧ H a = some (DNo Z.P Z.w a ob l) ∧ Rpn Z H F l kvs ∧ Rp Z H F i d ∧ okKey d = true ∧ l.length < sizeLine ∧ ∀ o' b, i = .ref b → Q (upd H a (DNo Z.P Z.w a o' (putL (nk d) b v l)))
/-- of a list, of a dict -/
def rSetA (Z : Wh) : TSet := fun o i v H Q => rSetL o i v H Q ∨ rSetN Z o i v H Q
theorem set_a (A : At Z X) : PSet X (rSetA Z) := by
  intro pins s σ H o i v ov iv u Q I ro ri rv h
  rcases h with h | ⟨F, a, ob, l, kvs, d, rfl, e, r, p, hk, hl, q⟩
  · exact set_list pins s σ H o i v ov iv u Q I ro ri rv h
  · cases ro
    exact dn_setItem A I e r p hk ri rv hl fun o' b s' eb I' => ⟨_, I', q o' b eb⟩
theorem getM_own {Z : Wh} {F : AP} {O : Ow} {τ : Tau} {σ : L2.St} {H : Hp} {i : Nat} {m : Mu} (R : Rl Z F O τ σ H) (g : getM τ i = some m) : getS τ i = some (.o m) ∧ ∃ v, σ[i]? = some (some v) ∧ Own Z H F v (O i) m := by
  unfold getM at g
  split at g
  · cases g
    exact ⟨by assumption, R.own i _ (by assumption)⟩
  · cases g
/-- l[k] = v -/
theorem st_seti (A : At Z X) {i : Nat} {x : Str} {p sp : Pos} (hN : X.N[i]? = some x) (hv : Vis X.env.scope x) (hd : (x == ("__debug__" : Str)) = false) (hcd : (x == ("__classdict__" : Str)) = false)
    (he : PE X a' (rdE Z G cf W a)) (hk : PE X b' (rdE Z G cf W b)) (hs : swapsWithSole [.Subscript (.Name x p) b' sp] a' pos.line X.env = pure false) (hw : swappedStores [.Subscript (.Name x p) b' sp] a' X.env = pure none)
    (h1 : (assignEach [.Subscript (.Name x p) b' sp] X.env).map (·.2) = [assign (.Subscript (.Name x p) b' sp) X.env])
    (ha : ∀ v, assign (.Subscript (.Name x p) b' sp) X.env v = (do
      let ov ← holding [v] (eval (.Name x p) X.env)
      let iv ← holding [v, ov] (eval b' X.env)
      standAt sp
      holding [v, ov, iv] (setItem ov iv v)
      release [v, ov, iv] [])) :
    PS X (.Assign [.Subscript (.Name x p) b' sp] a' pos) (rdS Z io s0 W (exs G cf wf io (.seti i b a))) := by
  refine (ps_asg he (pg_sub (pe_var hN hv hd hcd) hk (set_a A) ha) hs hw h1).imp fun E σ H ⟨h0, F, O, τ, R, h⟩ => ?_
  simp only [exs] at h
  refine ⟨F, O, τ, R, (PostS.bind h).mono fun u H1 ⟨F1, O1, τ1, x1, c1, E1, R1, r1, _, h1⟩ => ?_⟩
  obtain ⟨F2, O2, τ2, d, E2, R2, p2, _, h2⟩ := PostS.frz E1 R1 r1 h1
  split at h2
  · rename_i g
    obtain ⟨m0, g⟩ := Option.isSome_iff_exists.mp g
    obtain ⟨_, v0, hv0, _⟩ := getM_own R2 g
    refine ⟨v0, hv0, F2, O2, τ2, R2, (PostS.bind h2).mono fun y H3 ⟨F3, O3, τ3, x3, c3, E3, R3, r3, _, h3⟩ => ?_⟩
    obtain ⟨F4, O4, τ4, k4, E4, R4, p4, _, h4⟩ := PostS.frz E3 R3 r3 h3
    have pv := p2.stay E4.st
    unfold setM at h4
    cases gm : getM τ4 i with
    | none => rw [gm] at h4; exact h4.elim
    | some mm =>
      rw [gm] at h4
      obtain ⟨gs, v5, hv5, w5⟩ := getM_own R4 gm
      rw [hv0] at hv5; cases hv5
      cases mm with
      | l xs =>
        cases k4 with
        | int j =>
          refine .inl ?_
          obtain ⟨q, vs, e1, e2, e3, e4⟩ := id w5.rp
          cases p4
          simp only at h4
          split at h4
          · rename_i n hn
            have hq : q ∈ O4 i := by rw [e2]; exact List.mem_cons_self
            refine ⟨q, vs, j, n, e1, rfl, e3, by rw [ixN_eq, e4.len]; exact hn, ?_⟩
            obtain ⟨R5, E5⟩ := Rl.wr (m' := .l (xs.set n d)) (o := .lst (vs.set n u)) R4 gs hq hv0 (by
              refine ⟨q, _, e1, e2, upd_same, ?_⟩
              have st : Stay F4 H3 F4 (upd H3 q (.lst (vs.set n u))) := ⟨fun _ z => z, fun b fb => upd_ne fun z => w5.nf q hq (by rw [← z]; exact fb)⟩
              exact Rps.set n (Rps.stay st _ _ e4) (pv.stay st))
            exact h4 σ F4 O4 _ E5 R5 h0
          · exact h4.elim
        | _ => exact h4.elim
      | n kvs =>
        refine .inr ?_
        obtain ⟨q, ob, l, e1, e2, e3, e4⟩ := id w5.rp
        simp only at h4
        split at h4
        · rename_i hc
          have hq : q ∈ O4 i := by rw [e2]; exact List.mem_cons_self
          refine ⟨F4, q, ob, l, kvs, k4, e1, e3, e4, p4, hc.1, by rw [e4.len, line_eq]; exact hc.2, fun o' b eb => ?_⟩
          subst eb
          obtain ⟨R5, E5⟩ := Rl.wr (m' := .n (putD k4 d kvs)) (o := DNo Z.P Z.w q o' (putL (nk k4) b u l)) R4 gs hq hv0 (by
            have st : Stay F4 H3 F4 (upd H3 q (DNo Z.P Z.w q o' (putL (nk k4) b u l))) := ⟨fun _ z => z, fun c fc => upd_ne fun z => w5.nf q hq (by rw [← z]; exact fc)⟩
            exact ⟨q, o', _, e1, e2, upd_same, Rpn.put hc.1 (p4.stay st) (pv.stay st) (Rpn.stay st _ _ e4)⟩)
          exact h4 σ F4 O4 _ E5 R5 h0
        · exact h4.elim
      | _ => exact h4.elim
  · exact h2.elim
theorem ownL_own {F : AP} {O : Ow} {τ : Tau} {σ : L2.St} {H : Hp} {i : Nat} (R : Rl Z F O τ σ H) (g : ownL τ i = true) : ∃ q vs, σ[i]? = some (some (.ref q)) ∧ H q = some (.lst vs) := by
  unfold ownL at g
  split at g
  · rename_i xs gm
    obtain ⟨_, v0, hv0, w0⟩ := getM_own R gm
    obtain ⟨q, vs, e1, _, e3, _⟩ := w0.rp
    rw [e1] at hv0
    exact ⟨q, vs, hv0, e3⟩
  · cases g
/-- xs.append(e) -/
theorem st_app {i : Nat} {x : Str} {p ap cp : Pos} (hN : X.N[i]? = some x) (hv : Vis X.env.scope x) (hd : (x == ("__debug__" : Str)) = false) (hcd : (x == ("__classdict__" : Str)) = false)
    (he : PE X a' (rdE Z G cf W a)) (hn : noStar a' = true) (hl : (ap.endLine == cp.line) = true) (hs : swapsWith (.Call (.Attribute (.Name x p) "append" ap) [a'] [] cp) none pos.line X.env = pure false)
    (hfew : ((backTo cp (starEach [a'] X.env)).all (fun x => !x.1) && (backToKw cp (keywordEach [] X.env)).all (fun x => x.1.isSome)
      && decide (([a'] : List Expr).length + ([] : List Keyword).length + (if ([] : List Keyword).isEmpty then 0 else 1) < 30)) = true) :
    PS X (.Expr (.Call (.Attribute (.Name x p) "append" ap) [a'] [] cp) pos) (rdS Z io s0 W (exs G cf wf io (.app i a))) := by
  refine (ps_expr (pe_bm F.plainAttrs_list F.slot_list_append F.type_list_append (fun pins s σ H x xs v us Q => mt_append pins s σ H x xs v us Q) (pe_var hN hv hd hcd) (pa_cons he pa_nil (star_of (noStar_ne hn) _ _)) rfl hfew hl (star_of (noStar_ne hn) _ _) rfl) hs).imp fun E σ H ⟨h0, F, O, τ, R, h⟩ => ?_
  simp only [exs] at h
  split at h
  · rename_i g
    obtain ⟨q, vs0, hv0, hq0⟩ := ownL_own R g
    refine ⟨.ref q, hv0, .inl ⟨rfl, vs0, SqL.of hq0⟩, F, O, τ, R, (PostS.bind h).mono fun y H3 ⟨F3, O3, τ3, x3, c3, E3, R3, r3, _, h3⟩ => ?_⟩
    obtain ⟨F4, O4, τ4, k4, E4, R4, p4, _, h4⟩ := PostS.frz E3 R3 r3 h3
    unfold appM at h4
    split at h4
    · rename_i xs gm
      obtain ⟨gs, v5, hv5, w5⟩ := getM_own R4 gm
      rw [hv0] at hv5; cases hv5
      obtain ⟨q', vs, e1, e2, e3, e4⟩ := id w5.rp
      cases e1
      split at h4
      · rename_i hz
        have hq : q ∈ O4 i := by rw [e2]; exact List.mem_cons_self
        refine ⟨q, vs, y, rfl, rfl, e3, by rw [e4.len, line_eq]; exact hz, ?_⟩
        obtain ⟨R5, E5⟩ := Rl.wr (m' := .l (xs ++ [k4])) (o := .lst (vs ++ [y])) R4 gs hq hv0 (by
          refine ⟨q, _, rfl, e2, upd_same, ?_⟩
          have st : Stay F4 H3 F4 (upd H3 q (.lst (vs ++ [y]))) := ⟨fun _ z => z, fun b fb => upd_ne fun z => w5.nf q hq (by rw [← z]; exact fb)⟩
          exact Rps.append (Rps.stay st _ _ e4) ⟨Rp.stay st _ _ p4, True.intro⟩)
        exact h4 σ F4 O4 _ E5 R5 h0
      · exact h4.elim
    · exact h4.elim
  · exact h.elim
/-- xs.extend(e) -/
theorem st_ext {i : Nat} {x : Str} {p ap cp : Pos} (hN : X.N[i]? = some x) (hv : Vis X.env.scope x) (hd : (x == ("__debug__" : Str)) = false) (hcd : (x == ("__classdict__" : Str)) = false)
    (he : PE X a' (rdE Z G cf W a)) (hn : noStar a' = true) (hl : (ap.endLine == cp.line) = true) (hs : swapsWith (.Call (.Attribute (.Name x p) "extend" ap) [a'] [] cp) none pos.line X.env = pure false)
    (hfew : ((backTo cp (starEach [a'] X.env)).all (fun x => !x.1) && (backToKw cp (keywordEach [] X.env)).all (fun x => x.1.isSome)
      && decide (([a'] : List Expr).length + ([] : List Keyword).length + (if ([] : List Keyword).isEmpty then 0 else 1) < 30)) = true) :
    PS X (.Expr (.Call (.Attribute (.Name x p) "extend" ap) [a'] [] cp) pos) (rdS Z io s0 W (exs G cf wf io (.ext i a))) := by
  refine (ps_expr (pe_bm F.plainAttrs_list F.slot_list_extend F.type_list_extend (fun pins s σ H x xs v us Q => mt_extend pins s σ H x xs v us Q) (pe_var hN hv hd hcd) (pa_cons he pa_nil (star_of (noStar_ne hn) _ _)) rfl hfew hl (star_of (noStar_ne hn) _ _) rfl) hs).imp fun E σ H ⟨h0, F, O, τ, R, h⟩ => ?_
  simp only [exs] at h
  split at h
  · rename_i g
    obtain ⟨q, vs0, hv0, hq0⟩ := ownL_own R g
    refine ⟨.ref q, hv0, .inl ⟨rfl, vs0, SqL.of hq0⟩, F, O, τ, R, (PostS.bind h).mono fun y H3 ⟨F3, O3, τ3, x3, c3, E3, R3, r3, _, h3⟩ => ?_⟩
    obtain ⟨F4, O4, τ4, k4, E4, R4, p4, _, h4⟩ := PostS.frz E3 R3 r3 h3
    unfold extM at h4
    split at h4
    · rename_i xs ys gm _
      obtain ⟨gs, v5, hv5, w5⟩ := getM_own R4 gm
      rw [hv0] at hv5; cases hv5
      obtain ⟨q', vs, e1, e2, e3, e4⟩ := id w5.rp
      cases e1
      obtain ⟨b, ws, f1, f2, f3, f4⟩ := id p4
      split at h4
      · rename_i hz
        have hq : q ∈ O4 i := by rw [e2]; exact List.mem_cons_self
        refine ⟨q, b, vs, ws, rfl, by rw [f1], e3, f3, by rw [e4.len, f4.len, line_eq]; exact hz, ?_⟩
        obtain ⟨R5, E5⟩ := Rl.wr (m' := .l (xs ++ ys)) (o := .lst (vs ++ ws)) R4 gs hq hv0 (by
          refine ⟨q, _, rfl, e2, upd_same, ?_⟩
          have st : Stay F4 H3 F4 (upd H3 q (.lst (vs ++ ws))) := ⟨fun _ z => z, fun b fb => upd_ne fun z => w5.nf q hq (by rw [← z]; exact fb)⟩
          exact Rps.append (Rps.stay st _ _ e4) (Rps.stay st _ _ f4))
        exact h4 σ F4 O4 _ E5 R5 h0
      · exact h4.elim
    · exact h4.elim
  · exact h.elim
end
end TY
/-! TyU: what is walked; for, while. -/
namespace TY
open PySem PySem.Spec PyProof.Rows L2
/-- the walk J gives the values ds, one a turn, as long as F's things stay -/
structure Gives (Z : Wh) (J : It) (F : AP) (H : Hp) (ds : List D) : Prop where
  go : ∀ F' H' i, Stay F H F' H' → i < ds.length → J.go i H'
  stop : ∀ F' H', Stay F H F' H' → J.stop ds.length H'
  yld : ∀ F' H' i x H'' d, Stay F H F' H' → Tk Z F' H' → ds[i]? = some d → J.yld i H' x H'' → ∃ F'', New F' H' F'' H'' [] ∧ Rp Z H'' F'' x d
theorem Gives.stay {Z : Wh} {J : It} {F F' : AP} {H H' : Hp} {ds : List D} (g : Gives Z J F H ds) (s : Stay F H F' H') : Gives Z J F' H' ds :=
  ⟨fun F2 H2 i s2 => g.go F2 H2 i (s.trans s2), fun F2 H2 s2 => g.stop F2 H2 (s.trans s2), fun F2 H2 i x H3 d s2 => g.yld F2 H2 i x H3 d (s.trans s2)⟩
section
variable (Z : Wh) (G : Glob) (cf : CallF) (W : WX)
def rIt (Z : Wh) : RRel It (List D) := fun F _ _ H J cs ds => cs = [] ∧ Gives Z J F H ds
def rdI (it : I) : TI := fun σ H R => ∃ F O τ, Rl Z F O τ σ H ∧ Post Z (rIt Z) W σ F O H (evi G cf it τ) R
end
theorem _root_.L2.PI.imp {X : Cx} {tg e : Expr} {t t' : TI} (h : PI X tg e t) (k : ∀ σ H Q, t' σ H Q → t σ H Q) : PI X tg e t' := ⟨fun pins s σ H Q I q => h.run pins s σ H Q I (k σ H Q q)⟩
section
variable {Z : Wh} {G : Glob} {cf : CallF} {wf : Nat} {io : Bool} {s0 : Option (Option V)} {W : WX} {X : Cx} {a b c : E} {a' b' c' tg : Expr} {pos : Pos} {es : List E} {es' : List Expr}
/-! ### dicts, walked -/
/-- the keys of the dict at d -/
def Itn (P : Program) (w : World) (d : Addr) (o : Obj) (l : List (NestedKey × Addr × V)) : It :=
  ⟨fun i H => H d = some (DNo P w d o l) ∧ i < l.length, fun i H x H' => H' = H ∧ ∃ p, l[i]? = some p ∧ x = .ref p.2.1, fun i H => H d = some (DNo P w d o l) ∧ l.length ≤ i⟩
/-- its pairs, each a new tuple -/
def Itm (P : Program) (w : World) (d : Addr) (o : Obj) (l : List (NestedKey × Addr × V)) : It :=
  ⟨fun i H => H d = some (DNo P w d o l) ∧ i < l.length, fun i H x H' => ∃ T p, l[i]? = some p ∧ x = .ref T ∧ H T = none ∧ H' = upd H T (.tup [.ref p.2.1, p.2.2]), fun i H => H d = some (DNo P w d o l) ∧ l.length ≤ i⟩
theorem PN.get {l : List (NestedKey × Addr × V)} {xs : List (NestedKey × Addr × Value)} (h : PN l xs) : ∀ {i : Nat} {p : NestedKey × Addr × V}, l[i]? = some p → ∃ q, xs[i]? = some q ∧ p.1 = q.1 ∧ p.2.1 = q.2.1 ∧ RelV p.2.2 q.2.2 := by
  induction h with
  | nil => intro i p e; simp at e
  | cons r _ ih =>
    intro i p e
    cases i with
    | zero => simp only [List.getElem?_cons_zero, Option.some.injEq] at e; subst e; exact ⟨_, rfl, r⟩
    | succ i => simp only [List.getElem?_cons_succ] at e; exact ih e
/-- the very entries of a tracked dict -/
theorem dno_es {X : Cx} {pins : List (Addr × Obj)} {σ : L2.St} {H : Hp} {s : Shared} (I : Inv X pins σ H s) {d : Addr} {o : Obj} {l : List (NestedKey × Addr × V)} (h : H d = some (DNo X.prog X.w d o l)) : (d == sysModules) = false ∧ s.heap.get? d = some o ∧ o.ExactDict ∧ l.length ≤ sizeLine ∧
    ∃ (es : Array DictEntry) (ep : Nat), o.data = .dict es ep ∧ es.size = l.length ∧ ∀ (i : Nat) (p : NestedKey × Addr × V), l[i]? = some p → ∃ (en : DictEntry) (u : Value), es[i]? = some en ∧ en.key = .ref p.2.1 ∧ en.val = u ∧ RelV p.2.2 u := by
  obtain ⟨q1, q2, q3, xs, q4, es, ep, q5, q6, q7, q8⟩ := (I.hok d _ h).1
  refine ⟨q2, q1, q5, q3, es, ep, q6, by rw [size_of_entries q7]; exact (PN.len q4).symm, fun i p e => ?_⟩
  obtain ⟨q, e1, e2, e3, e4⟩ := PN.get q4 e
  have en := entry_at q7 i
  rw [e1] at en
  exact ⟨_, _, en, by rw [e3]; rfl, rfl, e4⟩
section
variable {P : Program} {w : World} {K : PySem.W.Frag} {tg : Expr} {d : Addr} {o : Obj} {l : List (NestedKey × Addr × V)} {es : Array DictEntry} {ep : Nat}
theorem turn_n (it : Addr) (hod : o.data = .dict es ep) : Turn P w K tg (Itn P w d o l) [it] it (fun i h => h.IsKeyIter it d i l.length ep) where
  mem := by simp
  obj := fun i h st b hb => by
    obtain rfl : b = it := by simpa using hb
    obtain ⟨oi, e1, e2, e3⟩ := st
    exact ⟨oi, e1, fun v z => by rw [e3] at z; cases z⟩
  keep := fun i h h' st k => st.at fun oi e => k it (by simp) oi e
  item := by
    intro X eP ew eK hc i pins s σ H E I hf st hg
    subst eP ew eK
    obtain ⟨hd, hi⟩ := hg
    obtain ⟨f0, f1, f2, f3, f4, f5⟩ := hf it (by simp)
    obtain ⟨hs, hgd, hx, _, es', ep', hdt, hsz, ent⟩ := dno_es I hd
    obtain ⟨rfl, rfl⟩ := dict_ep hod hdt
    have hp := List.getElem?_eq_getElem hi
    obtain ⟨en, u, hen, hkey, _⟩ := ent i _ hp
    refine next_key_item st hgd hdt hsz hen fun h' st' sb => ?_
    have I1 : Inv X pins σ H { s with heap := h' } := I.turned (t' := s.toks) (fun b ob hb e => (sb.2 b hb).trans e) f0 f1 f3 f4 f5
    obtain ⟨oi, e, c, dd⟩ := id st'
    exact ⟨en.key, rfl, go_of (s := { s with heap := h' }) e c dd (by decide) ⟨.ref _, H, I1, hkey, ⟨rfl, _, hp, rfl⟩, st', fun b hb => (hf b hb).1⟩⟩
  done := by
    intro X eP ew eK hc i pins s σ H E I hf st hg
    subst eP ew eK
    obtain ⟨hd, hi⟩ := hg
    obtain ⟨f0, f1, f2, f3, f4, f5⟩ := hf it (by simp)
    obtain ⟨hs, hgd, hx, _, es', ep', hdt, hsz, ent⟩ := dno_es I hd
    obtain ⟨rfl, rfl⟩ := dict_ep hod hdt
    exact next_key_end (I.ok.hd hc) st hgd hdt hsz hi fun h' eb => ⟨rfl, I.turned (t' := s.toks) (fun b ob hb e => eb b ob hb e) f0 f1 f3 f4 f5⟩
  self := (turn_keys (P := P) (w := w) (K := K) (tg := tg) (d := d) (o := o) (kvs := l.map fun p => (Sum.inl 0, p.2.2)) it hod).self |> fun h A i s Q E st hq => h A i s Q E (by rw [List.length_map]; exact st) hq
theorem turn_m {elts : List Expr} {kk : Nat} {tpos : Pos} (it : Addr) (hod : o.data = .dict es ep) : Turn P w K (.Tuple elts kk tpos) (Itm P w d o l) [it] it (fun i h => ∃ ok ov, IsItemIter h it d i l.length ep ok ov) where
  mem := by simp
  obj := fun i h st b hb => by
    obtain rfl : b = it := by simpa using hb
    obtain ⟨ok, ov, e⟩ := st
    exact ⟨_, e, fun v z => nomatch z⟩
  keep := fun i h h' st k => let ⟨ok, ov, e⟩ := st; ⟨ok, ov, k it (by simp) _ e⟩
  item := by
    intro X eP ew eK hc i pins s σ H E I hf st hg
    subst eP ew eK
    obtain ⟨hd, hi⟩ := hg
    obtain ⟨hs, hgd, hx, _, es', ep', hdt, hsz, ent⟩ := dno_es I hd
    obtain ⟨rfl, rfl⟩ := dict_ep hod hdt
    have hp := List.getElem?_eq_getElem hi
    obtain ⟨en, u, hen, hkey, hval, ru⟩ := ent i _ hp
    obtain ⟨ok, ov, he⟩ := st
    rw [← hsz] at he
    have hlt : it < s.heap.objs.size := Heap.lt_size he
    have hi' : i < es'.size := by rw [hsz]; exact hi
    have hee : es'[i] = en := by rw [Array.getElem?_eq_getElem hi'] at hen; exact Option.some.inj hen
    refine DT.nextI he ⟨o, hgd, hx, hdt⟩ hi' fun h' ho hT hz hk => ?_
    rw [hee, hkey, hval] at ho hT
    refine ⟨_, rfl, wpAny_letOwnedTupleGo_items (s := { s with heap := h' }) ho fun h'' he' sb => ?_⟩
    have hT2 : h''.get? s.heap.objs.size = some { cls := .type "tuple", data := .seq #[.ref l[i].2.1, u] } := (sb.2 _ (Nat.ne_of_gt hlt)).trans hT
    have new : ObjOk X.prog X.w (upd H s.heap.objs.size (.tup [.ref l[i].2.1, l[i].2.2])) h'' s.heap.objs.size (.tup [.ref l[i].2.1, l[i].2.2]) :=
      ⟨by show 2 ≤ sizeLine; decide, [.ref l[i].2.1, u], .cons rfl (.cons ru .nil), ⟨_, hT2, rfl, _, rfl⟩⟩
    have I1 : Inv X pins σ (upd H s.heap.objs.size (.tup [.ref l[i].2.1, l[i].2.2])) { s with heap := h'' } :=
      I.turnedNew (t' := s.toks) (ch := [it]) (fun b ob hb e => (sb.2 b (by simpa using hb)).trans (hk b ob (by simpa using hb) e)) hf (Nat.le_refl _) new
    refine ⟨.ref s.heap.objs.size, _, I1, rfl, ⟨_, _, hp, rfl, I.hok.fresh (Nat.le_refl _), rfl⟩, ⟨.ref l[i].2.1, u, ?_⟩, fun b hb => ?_⟩
    · rw [← hsz]; exact he'
    · obtain rfl : b = it := by simpa using hb
      rw [upd_ne (Nat.ne_of_lt hlt)]
      exact (hf b (by simp)).1
  done := by
    intro X eP ew eK hc i pins s σ H E I hf st hg
    subst eP ew eK
    obtain ⟨hd, hi⟩ := hg
    obtain ⟨f0, f1, f2, f3, f4, f5⟩ := hf it (by simp)
    obtain ⟨hs, hgd, hx, _, es', ep', hdt, hsz, ent⟩ := dno_es I hd
    obtain ⟨rfl, rfl⟩ := dict_ep hod hdt
    obtain ⟨ok, ov, he⟩ := st
    rw [← hsz] at he
    exact DT.endI (I.ok.hd hc) he ⟨o, hgd, hx, hdt⟩ (by rw [hsz]; exact hi) fun h' eb => ⟨rfl, I.turned (t' := s.toks) (fun b ob hb e => eb b ob hb e) f0 f1 f3 f4 f5⟩
  self := fun A i s Q E st h => let ⟨_, _, e⟩ := st; PySem.W.kcp_self e h
end
/-! ### sources -/
/-- a list, a tuple or a text -/
def iSeq (P : Program) (w : World) (K : PySem.W.Frag) (te : TE) : TI := fun σ H R => te σ H fun x H1 => (∃ a, x = .ref a ∧ (∃ xs, SqL K H1 a xs) ∧ R (Itl K a) H1) ∨ (∃ a, x = .ref a ∧ (∃ xs, SqT K H1 a xs) ∧ R (Itt K a) H1) ∨ (∃ s, x = .str s ∧ R (Its s) H1) ∨ ∃ d o l, x = .ref d ∧ H1 d = some (DNo P w d o l) ∧ R (Itn P w d o l) H1
theorem pi_seq {te : TE} (he : PE X a' te) : PI X tg a' (iSeq X.prog X.w X.K te) := by
  refine ⟨fun pins s σ H R I h => thn (he.run pins s σ H _ I h) fun v s1 ⟨x, H1, I1, r1, q1⟩ => ?_⟩
  rcases q1 with ⟨l, rfl, ⟨xs, hq⟩, q⟩ | ⟨l, rfl, ⟨xs, hq⟩, q⟩ | ⟨t, rfl, q⟩ | ⟨d, o, l, rfl, hd, q⟩
  · cases r1
    obtain ⟨its, _, hl, _⟩ := I1.list hq
    exact wpAny_pyIter_list hl.isList (pi_one (tk := s1.toks) I1 _ (turn_list l _) ⟨_, Heap.get?_push_size _ rfl, rfl, rfl⟩ q)
  · cases r1
    obtain ⟨its, _, hl, _⟩ := I1.tuple hq
    exact wpAny_pyIter_tuple (show s1.heap.IsTuple l its.toArray from hl) (pi_one (tk := s1.toks) I1 _ (turn_tuple l _) ⟨_, Heap.get?_push_size _ rfl, rfl, rfl⟩ q)
  · obtain ⟨k, rfl⟩ := r1
    by_cases hc : t.cps.all (· < 128) = true
    · exact wpAny_pyIter_ascii hc (pi_one (tk := s1.toks) I1 _ (turn_str _ t k "str_ascii_iterator" (.inl rfl)) ⟨_, Heap.get?_push_size _ rfl, rfl, rfl⟩ q)
    · exact wpAny_pyIter_wide (by simpa using hc) (pi_one (tk := s1.toks) I1 _ (turn_str _ t k "str_iterator" (.inr rfl)) ⟨_, Heap.get?_push_size _ rfl, rfl, rfl⟩ q)
  · cases r1
    obtain ⟨hs, hgd, hx, _, es, ep, hdt, hsz, _⟩ := dno_es I1 hd
    refine iter_keys hs hgd hx hdt (pi_one (tk := s1.toks) I1 _ (turn_n _ hdt) ⟨_, Heap.get?_push_size _ rfl, rfl, ?_⟩ q)
    rw [hsz] <;> rfl
theorem Rpn.get : ∀ {kvs : List (D × D)} {l : List (NestedKey × Addr × V)} {i : Nat} {q : D × D} {F : AP} {H : Hp}, Rpn Z H F l kvs → kvs[i]? = some q → ∃ p, l[i]? = some p ∧ Rp Z H F (.ref p.2.1) q.1 ∧ Rp Z H F p.2.2 q.2
  | [], [], i, q, F, H, _, e => by simp at e
  | [], _ :: _, _, _, _, _, h, _ => h.elim
  | _ :: _, [], _, _, _, _, h, _ => h.elim
  | (k, d) :: kvs, p :: l, i, q, F, H, h, e => by
    cases i with
    | zero => simp only [List.getElem?_cons_zero, Option.some.injEq] at e; subst e; exact ⟨p, rfl, h.1.2.2.1, h.1.2.2.2⟩
    | succ i => simp only [List.getElem?_cons_succ] at e ⊢; exact Rpn.get h.2 e
theorem gives_n {F : AP} {H : Hp} {d : Addr} {o : Obj} {l : List (NestedKey × Addr × V)} {kvs : List (D × D)} (fd : F d) (e : H d = some (DNo Z.P Z.w d o l)) (r : Rpn Z H F l kvs) : Gives Z (Itn Z.P Z.w d o l) F H (kvs.map Prod.fst) := by
  have at' : ∀ {F' H'}, Stay F H F' H' → H' d = some (DNo Z.P Z.w d o l) := fun st => (st.h d fd).trans e
  refine ⟨fun F' H' i st hi => ⟨at' st, by rw [List.length_map] at hi; rw [r.len]; exact hi⟩, fun F' H' st => ⟨at' st, by rw [List.length_map, r.len]; exact Nat.le_refl _⟩, fun F' H' i x H'' y st tk hd z => ?_⟩
  obtain ⟨rfl, p, hp, rfl⟩ := z
  rw [List.getElem?_map] at hd
  obtain ⟨q, hq, rfl⟩ := Option.map_eq_some_iff.mp hd
  obtain ⟨p', e1, e2, _⟩ := Rpn.get r hq
  rw [hp] at e1; cases e1
  exact ⟨F', .refl, e2.stay st⟩
theorem gives_m {F : AP} {H : Hp} {d : Addr} {o : Obj} {l : List (NestedKey × Addr × V)} {kvs : List (D × D)} (fd : F d) (e : H d = some (DNo Z.P Z.w d o l)) (r : Rpn Z H F l kvs) : Gives Z (Itm Z.P Z.w d o l) F H (kvs.map fun p => .tup [p.1, p.2]) := by
  have at' : ∀ {F' H'}, Stay F H F' H' → H' d = some (DNo Z.P Z.w d o l) := fun st => (st.h d fd).trans e
  refine ⟨fun F' H' i st hi => ⟨at' st, by rw [List.length_map] at hi; rw [r.len]; exact hi⟩, fun F' H' st => ⟨at' st, by rw [List.length_map, r.len]; exact Nat.le_refl _⟩, fun F' H' i x H'' y st tk hd z => ?_⟩
  obtain ⟨T, p, hp, rfl, hT, rfl⟩ := z
  rw [List.getElem?_map] at hd
  obtain ⟨q, hq, rfl⟩ := Option.map_eq_some_iff.mp hd
  obtain ⟨p', e1, e2, e3⟩ := Rpn.get r hq
  rw [hp] at e1; cases e1
  have n1 : New F' H' (fun a => F' a ∨ a = T) (upd H' T (.tup [.ref p.2.1, p.2.2])) [] := New.one hT
  exact ⟨_, n1, T, _, rfl, .inl ⟨.inr rfl, .inl upd_same⟩, (e2.stay st).stay (n1.stay tk), (e3.stay st).stay (n1.stay tk), True.intro⟩
theorem gives_lst {K : PySem.W.Frag} {F : AP} {H : Hp} {l : Addr} {vs : List V} {xs : List D} (fl : F l) (e : H l = some (.lst vs)) (r : Rps Z H F vs xs) : Gives Z (Itl K l) F H xs := by
  have at' : ∀ {F' H'}, Stay F H F' H' → SqL K H' l vs := fun st => SqL.of ((st.h l fl).trans e)
  refine ⟨fun F' H' i st hi => ?_, fun F' H' st => ⟨vs, at' st, by rw [r.len]; exact Nat.le_refl _⟩, fun F' H' i x H'' d st tk hd y => ?_⟩
  · obtain ⟨v, h1, h2⟩ := r.get (i := i) (List.getElem?_eq_getElem hi)
    exact ⟨vs, v, at' st, h1⟩
  · obtain ⟨rfl, y⟩ := y
    obtain ⟨v, h1, h2⟩ := r.get hd
    have := y vs (at' st)
    rw [h1] at this; cases this
    exact ⟨F', .refl, h2.stay st⟩
theorem gives_tup {F : AP} {H : Hp} {l : Addr} {vs : List V} {xs : List D} (ha : (F l ∧ Rd H l (.tup vs)) ∨ KTup Z.K l vs) (r : Rps Z H F vs xs) : Gives Z (Itt Z.K l) F H xs := by
  have at' : ∀ {F' H'}, Stay F H F' H' → SqT Z.K H' l vs := fun st => ha.elim (fun z => .inl (Rd.stay (st.h l z.1) z.2)) .inr
  refine ⟨fun F' H' i st hi => ?_, fun F' H' st => ⟨vs, at' st, by rw [r.len]; exact Nat.le_refl _⟩, fun F' H' i x H'' d st tk hd y => ?_⟩
  · obtain ⟨v, h1, h2⟩ := r.get (i := i) (List.getElem?_eq_getElem hi)
    exact ⟨vs, v, at' st, h1⟩
  · obtain ⟨rfl, y⟩ := y
    obtain ⟨v, h1, h2⟩ := r.get hd
    have := y vs (at' st)
    rw [h1] at this; cases this
    exact ⟨F', .refl, h2.stay st⟩
theorem gives_str {F : AP} {H : Hp} {s : List Nat} : Gives Z (Its (sS s)) F H (s.map fun c => .str [c]) := by
  refine ⟨fun F' H' i st hi => ?_, fun F' H' st => ?_, fun F' H' i x H'' d st tk hd y => ?_⟩
  · show i < s.toArray.size
    simpa using hi
  · show s.toArray.size ≤ _
    simp
  · obtain ⟨rfl, c, hc, rfl⟩ := y
    rw [List.getElem?_map] at hd
    have hc : s.toArray[i]? = some c := hc
    rw [List.getElem?_toArray] at hc
    rw [hc] at hd
    cases hd
    exact ⟨F', .refl, rfl⟩
theorem i_seq (A : At Z X) (he : PE X a' (rdE Z G cf W a)) : PI X tg a' (rdI Z G cf W (.seq a)) := (pi_seq he).imp fun σ H R ⟨F, O, τ, R0, h⟩ => by
  simp only [evi] at h
  refine ⟨F, O, τ, R0, (Post.bind h).mono fun v H1 ⟨F1, O1, τ1, x1, c1, E1, R1, r1, _, h1⟩ => ?_⟩
  obtain ⟨F2, O2, τ2, d, E2, R2, p2, _, h2⟩ := Post.frz E1 R1 r1 h1
  obtain ⟨ds, e, h3⟩ := Post.lift0 h2
  unfold seqOf at e
  split at e
  · cases e
    obtain ⟨l, vs, rfl, fl, el, r⟩ := p2
    exact .inl ⟨l, rfl, ⟨vs, SqL.of el⟩, h3.done0 R2 ⟨rfl, gives_lst fl el r⟩⟩
  · cases e
    obtain ⟨l, vs, rfl, hl, r⟩ := p2
    refine .inr (.inl ⟨l, rfl, ⟨vs, by rw [A.k]; exact sqT hl⟩, h3.done0 R2 ⟨rfl, ?_⟩⟩)
    rw [A.k]
    exact gives_tup hl r
  · cases e
    cases p2
    exact .inr (.inr (.inl ⟨_, rfl, h3.done0 R2 ⟨rfl, gives_str⟩⟩))
  · cases e
    obtain ⟨d, o, l, rfl, fd, ed, r⟩ := p2
    refine .inr (.inr (.inr ⟨d, o, l, rfl, by rw [A.p, A.w]; exact ed, h3.done0 R2 ⟨rfl, ?_⟩⟩))
    rw [A.p, A.w]
    exact gives_n fd ed r
  · cases e
/-- d.items() -/
def iItm (P : Program) (w : World) (te : TE) : TI := fun σ H R => te σ H fun x H1 => ∃ d o l, x = .ref d ∧ H1 d = some (DNo P w d o l) ∧ R (Itm P w d o l) H1
theorem pi_itm {te : TE} {elts : List Expr} {kk : Nat} {tpos apos cpos : Pos} (he : PE X a' te) (hbase : attributeBase a' "items" X.env (eval a' X.env) = eval a' X.env) (hline : (apos.endLine == cpos.line) = true) :
    PI X (.Tuple elts kk tpos) (.Call (.Attribute a' "items" apos) [] [] cpos) (iItm X.prog X.w te) := by
  refine ⟨fun pins s σ H R I h => ?_⟩
  refine wpAny_Call_method (T := "dict") (id := "dict.items") hbase rfl hline F.plainAttrs_dict F.slot_dict_items F.type_dict_items (thn (he.run pins s σ H _ I h) fun u s1 ⟨x, H1, I1, rx, d, o, l, ex, hd, q⟩ => ?_)
  subst ex
  obtain rfl : u = Value.ref d := rx
  obtain ⟨hs, hgd, hx, _, es, ep, hdt, hsz, _⟩ := dno_es I1 hd
  have hraw : DT.Raw s1.heap d es ep := ⟨o, hgd, hx, hdt⟩
  refine ⟨hraw.typeIs, fun c q => by cases q; exact ⟨o, hgd, hx.2.1⟩, ?_⟩
  have I2 : Inv X pins σ H1 { s1 with heap := s1.heap.push { cls := .type "dict_items", data := .fields #[.ref d] } } := I1.kept (t' := s1.toks) fun b ob q => Heap.get?_push_of_some _ q
  show wpAny _ _ (callWith cpos (.builtin "dict.items") [.ref d] [] []) _ X.xe s1
  refine Calls.callWith_builtin rfl (PySem.evalArgs_none (DT.callItems hs hraw ?_))
  refine DT.iterI (d := d) ⟨_, Heap.get?_push_size _ rfl, rfl, rfl⟩ (hraw.push _) (pi_one (tk := s1.toks) I2 _ (turn_m _ hdt) ⟨.none, .none, ?_⟩ q)
  rw [← hsz]
  exact Heap.get?_push_size _ rfl
theorem i_items {elts : List Expr} {kk : Nat} {tpos apos cpos : Pos} (A : At Z X) (he : PE X a' (rdE Z G cf W a)) (hbase : attributeBase a' "items" X.env (eval a' X.env) = eval a' X.env) (hline : (apos.endLine == cpos.line) = true) :
    PI X (.Tuple elts kk tpos) (.Call (.Attribute a' "items" apos) [] [] cpos) (rdI Z G cf W (.items a)) := (pi_itm he hbase hline).imp fun σ H R ⟨F, O, τ, R0, h⟩ => by
  simp only [evi] at h
  refine ⟨F, O, τ, R0, (Post.bind h).mono fun v H1 ⟨F1, O1, τ1, x1, c1, E1, R1, r1, _, h1⟩ => ?_⟩
  obtain ⟨F2, O2, τ2, d0, E2, R2, p2, _, h2⟩ := Post.frz E1 R1 r1 h1
  cases d0 with
  | dn kvs =>
    obtain ⟨d, o, l, rfl, fd, ed, r⟩ := p2
    refine ⟨d, o, l, rfl, by rw [A.p, A.w]; exact ed, ?_⟩
    rw [A.p, A.w]
    exact Post.done0 h2 R2 ⟨rfl, gives_m fd ed r⟩
  | _ => exact h2.elim
theorem gives_rng {F : AP} {H : Hp} {lo : Int} {n : Nat} {ds : List D} (hn : ds = (List.range n).map fun (k : Nat) => .int (lo + k)) : Gives Z (Itr lo n) F H ds := by
  subst hn
  refine ⟨fun F' H' i st hi => by (have z : i < n := by simpa using hi); exact z, fun F' H' st => ?_, fun F' H' i x H'' d st tk hd y => ?_⟩
  · show n ≤ _
    simp
  · obtain ⟨rfl, rfl⟩ := y
    rw [List.getElem?_map] at hd
    obtain ⟨k, hk, rfl⟩ := Option.map_eq_some_iff.mp hd
    rw [List.getElem?_range] at hk
    · cases hk; exact ⟨F', .refl, rfl⟩
    · have := (List.getElem?_eq_some_iff.mp hk).1
      simpa using this
theorem lo62_ok {i : Int} (h : lo62 i = true) : -(2 ^ 62) ≤ i ∧ i < 2 ^ 62 := by
  unfold lo62 at h
  simpa using h
theorem i_rng1 {p : Pos} (hg : Gl X "range") (hm : X.mg "range" = none) (hs : PA X [a'] (rdDs Z G cf W [a])) (hn : noStar a' = true) : PI X tg (.Call (.Name "range" p) [a'] [] pos) (rdI Z G cf W (.rng [a])) :=
  (pi_range1 hg hm hs (star_of (noStar_ne hn) _ _)).imp fun σ H R ⟨F, O, τ, R0, h⟩ => by
    simp only [evi] at h
    refine ⟨F, O, τ, R0, (Post.bind h).mono fun vs H1 ⟨F1, O1, τ1, ds, c1, E1, R1, r1, w, h1⟩ => ?_⟩
    obtain ⟨_, r1⟩ := r1
    obtain ⟨l, e, h2⟩ := Post.lift0 h1
    have hl := evs_len w
    unfold rng at e
    split at e
    · rename_i j
      split at e
      · rename_i hj
        obtain ⟨q1, q2⟩ := lo62_ok hj
        cases e
        cases vs with
        | nil => exact r1.elim
        | cons v vs =>
          cases vs with
          | cons _ _ => exact r1.2.elim
          | nil =>
            have e1 : v = .int j := r1.1
            refine ⟨j, by rw [e1], q1, q2, ?_⟩
            exact (Post.weak E1 h2).done0 R1 ⟨rfl, gives_rng (by simp)⟩
      · cases e
    · simp at hl
    · simp at hl
    · cases e
theorem i_rng2 {p : Pos} (hg : Gl X "range") (hm : X.mg "range" = none) (hs : PA X [a', b'] (rdDs Z G cf W [a, b])) (hn : noStar a' = true) (hn2 : noStar b' = true) : PI X tg (.Call (.Name "range" p) [a', b'] [] pos) (rdI Z G cf W (.rng [a, b])) :=
  (pi_range2 hg hm hs (by rw [star_of (noStar_ne hn), star_of (noStar_ne hn2)]; rfl) (star_of (noStar_ne hn2) _ _)).imp fun σ H R ⟨F, O, τ, R0, h⟩ => by
    simp only [evi] at h
    refine ⟨F, O, τ, R0, (Post.bind h).mono fun vs H1 ⟨F1, O1, τ1, ds, c1, E1, R1, r1, w, h1⟩ => ?_⟩
    obtain ⟨_, r1⟩ := r1
    obtain ⟨l, e, h2⟩ := Post.lift0 h1
    have hl := evs_len w
    unfold rng at e
    split at e
    · simp at hl
    · rename_i i j
      split at e
      · rename_i hj
        rw [Bool.and_eq_true] at hj
        obtain ⟨q1, q2⟩ := lo62_ok hj.1
        obtain ⟨q3, q4⟩ := lo62_ok hj.2
        cases e
        cases vs with
        | nil => exact r1.elim
        | cons v vs =>
          cases vs with
          | nil => exact r1.2.elim
          | cons v2 vs =>
            cases vs with
            | cons _ _ => exact r1.2.2.elim
            | nil =>
              have e1 : v = .int i := r1.1
              have e2 : v2 = .int j := r1.2.1
              refine ⟨i, j, by rw [e1, e2], ⟨q1, q2, q3, q4⟩, ?_⟩
              exact (Post.weak E1 h2).done0 R1 ⟨rfl, gives_rng rfl⟩
      · cases e
    · simp at hl
    · cases e
theorem gives_rngC {F : AP} {H : Hp} {lo c : Int} {n : Nat} {ds : List D} (hn : ds = (List.range n).map fun (k : Nat) => .int (lo + k * c)) : Gives Z (Itc lo c n) F H ds := by
  subst hn
  refine ⟨fun F' H' i st hi => by (have z : i < n := by simpa using hi); exact z, fun F' H' st => ?_, fun F' H' i x H'' d st tk hd y => ?_⟩
  · show n ≤ _
    simp
  · obtain ⟨rfl, rfl⟩ := y
    rw [List.getElem?_map] at hd
    obtain ⟨k, hk, rfl⟩ := Option.map_eq_some_iff.mp hd
    rw [List.getElem?_range] at hk
    · cases hk; exact ⟨F', .refl, rfl⟩
    · have := (List.getElem?_eq_some_iff.mp hk).1
      simpa using this
theorem i_rng3 {p : Pos} (hg : Gl X "range") (hm : X.mg "range" = none) (hs : PA X [a', b', c'] (rdDs Z G cf W [a, b, c])) (hn : noStar a' = true) (hn2 : noStar b' = true) (hn3 : noStar c' = true) : PI X tg (.Call (.Name "range" p) [a', b', c'] [] pos) (rdI Z G cf W (.rng [a, b, c])) :=
  (pi_range3 hg hm hs (star_of (noStar_ne hn) _ _) (stars_of (by simp [hn2, hn3]))).imp fun σ H R ⟨F, O, τ, R0, h⟩ => by
    simp only [evi] at h
    refine ⟨F, O, τ, R0, (Post.bind h).mono fun vs H1 ⟨F1, O1, τ1, ds, c1, E1, R1, r1, w, h1⟩ => ?_⟩
    obtain ⟨_, r1⟩ := r1
    obtain ⟨l, e, h2⟩ := Post.lift0 h1
    have hl := evs_len w
    unfold rng at e
    split at e
    · simp at hl
    · simp at hl
    · rename_i i j
      split at e
      · rename_i hj
        rw [Bool.and_eq_true] at hj
        obtain ⟨q1, q2⟩ := lo62_ok hj.1
        obtain ⟨q3, q4⟩ := lo62_ok hj.2
        cases e
        cases vs with
        | nil => exact r1.elim
        | cons v vs =>
          cases vs with
          | nil => exact r1.2.elim
          | cons v2 vs =>
            cases vs with
            | nil => exact r1.2.2.elim
            | cons v3 vs =>
              cases vs with
              | cons _ _ => exact r1.2.2.2.elim
              | nil =>
                have e1 : v = .int i := r1.1
                have e2 : v2 = .int j := r1.2.1
                have e3 : v3 = .int (-1) := r1.2.2.1
                refine ⟨i, j, -1, _, by rw [e1, e2, e3], RgC.neg q1 q2 q3 q4, ?_⟩
                exact (Post.weak E1 h2).done0 R1 ⟨rfl, gives_rngC rfl⟩
      · cases e
    · cases e

/-! ### for -/
theorem forL_drop {f : D → Tau → Out Fl} {ds : List D} {i : Nat} {d : D} {t : Tau} (h : ds[i]? = some d) : forL f (ds.drop i) t = (f d t).bind fun fl t => match fl with
    | .nx => forL f (ds.drop (i + 1)) t
    | .brk => .ok none t
    | .ret r => .ok (some r) t := by
  obtain ⟨hi, rfl⟩ := List.getElem?_eq_some_iff.mp h
  rw [List.drop_eq_getElem_cons hi]
  rfl
theorem st_for {it : I} {tgx : T} {it' : Expr} {ss : List S} {ss' : List Stmt} (hp : PassesOwn (model X.prog X.w) X.A X.env X.xe) (hc : X.calm = true) (hi : PI X tg it' (rdI Z G cf W it)) (hg : PG X tg (rdG Z io.toNat tgx)) (hb : PSs X ss' (rdS Z io s0 W (exss G cf wf io ss)))
    (hs : ∀ x, foldedSetIterable it' X.env x = pure x) : PS X (.For tg it' ss' [] pos) (rdS Z io s0 W (exs G cf wf io (.for_ tgx it ss))) := by
  refine (ps_for hp hc hi hg hb hs).imp fun E σ H ⟨h0, F, O, τ, R, h⟩ => ?_
  simp only [exs] at h
  refine ⟨F, O, τ, R, (PostS.bind h).mono fun J H1 ⟨F1, O1, τ1, ds, c1, E1, R1, r1, _, h1⟩ => ?_⟩
  obtain ⟨rfl, gv⟩ := r1
  let f : D → Tau → Out Fl := fun d t => (lift (store io.toNat tgx d t) t).bind fun t' _ => exss G cf wf io ss t'
  refine ⟨fun i m σ H => m = ds.length - i ∧ i ≤ ds.length ∧ (io = true → σ[0]? = s0) ∧ ∃ F2 O2 τ2, Rl Z F2 O2 τ2 σ H ∧ Stay F1 H1 F2 H ∧ PostS Z io s0 W F2 O2 H ((forL f (ds.drop i) τ2).bind fun o t => .ok (fl1 o) t) E,
    ⟨ds.length, rfl, Nat.zero_le _, h0, F1, O1, τ1, R1, .refl, PostS.weak E1 h1⟩, ?_⟩
  rintro i m σ2 H2 ⟨rfl, hile, z0, F2, O2, τ2, R2, st, h2⟩
  by_cases hlt : i < ds.length
  · refine .inr ⟨gv.go _ _ _ st hlt, fun σ' H' => (io = true → σ'[0]? = s0) ∧ ∃ F3 O3 τ3, Rl Z F3 O3 τ3 σ' H' ∧ Stay F1 H1 F3 H' ∧ PostS Z io s0 W F3 O3 H' ((forL f (ds.drop (i + 1)) τ3).bind fun o t => .ok (fl1 o) t) E,
      fun σ' H' ⟨g0, g⟩ => ⟨ds.length - (i + 1), by omega, rfl, hlt, g0, g⟩, fun x H3 y => ?_⟩
    have hd := List.getElem?_eq_getElem hlt
    obtain ⟨F3, N3, p3⟩ := gv.yld _ _ _ _ _ _ st R2.trk hd y
    rw [forL_drop hd] at h2
    have R3 := N3.rl R2
    have E3 := N3.ext R2
    have e : ((f ds[i] τ2).bind fun fl t => match fl with
        | .nx => forL f (ds.drop (i + 1)) t
        | .brk => .ok none t
        | .ret r => .ok (some r) t).bind (fun o t => (.ok (fl1 o) t : Out Fl)) = (lift (store io.toNat tgx ds[i] τ2) τ2).bind fun t' _ => (exss G cf wf io ss t').bind fun fl t => match fl with
        | .nx => (forL f (ds.drop (i + 1)) t).bind fun o t => .ok (fl1 o) t
        | .brk => .ok .nx t
        | .ret r => .ok (.ret r) t := by
      show (((lift (store io.toNat tgx ds[i] τ2) τ2).bind fun t' _ => exss G cf wf io ss t').bind _).bind _ = _
      cases store io.toNat tgx ds[i] τ2 with
      | none => rfl
      | some t' =>
        show ((exss G cf wf io ss t').bind _).bind _ = (exss G cf wf io ss t').bind _
        cases exss G cf wf io ss t' with
        | no => rfl
        | ex x t => rfl
        | ok fl t => cases fl <;> rfl
    rw [e] at h2
    obtain ⟨t', et, h4⟩ := PostS.lift (PostS.weak E3 h2)
    refine ⟨F3, O2, τ2, ds[i], t', R3, p3, et, fun σ4 O4 R4 E4 sm => ?_⟩
    have z4 : io = true → σ4[0]? = s0 := fun l => (sm.io (by rw [l]; rfl)).trans (z0 l)
    refine ⟨z4, F3, O4, t', R4, ?_⟩
    have h5 := PostS.weak E4 h4
    have st4 : Stay F1 H1 F3 H3 := st.trans E3.st
    cases q : exss G cf wf io ss t' with
    | no => rw [q] at h5; exact h5.elim
    | ex x t => rw [q] at h5; exact h5
    | ok fl t =>
      rw [q] at h5
      cases fl with
      | nx => exact fun σ' F' O' H' e r z => ⟨z, F', O', t, r, st4.trans e.st, PostS.weak e h5⟩
      | brk => exact fun σ' F' O' H' e r z => h5 σ' F' O' H' e r z
      | ret r => exact h5
  · have e : i = ds.length := by omega
    subst e
    refine .inl ⟨gv.stop _ _ st, ?_⟩
    rw [List.drop_length] at h2
    exact h2 σ2 F2 O2 H2 .refl R2 z0

/-! ### while -/
theorem st_while {ss : List S} {ss' : List Stmt} (hp : PassesOwn (model X.prog X.w) X.A X.env X.xe) (hc : PT X c' (rdT Z G cf W c)) (hb : PSs X ss' (rdS Z io s0 W (exss G cf wf io ss))) : PS X (.While c' ss' [] pos) (rdS Z io s0 W (exs G cf wf io (.while_ c ss))) := by
  refine (ps_while hp hc hb).imp fun E σ H ⟨h0, F, O, τ, R, h⟩ => ?_
  simp only [exs] at h
  let cc : Tau → Out Bool := fun t => (ev G cf c t).bind asB
  let f : Tau → Out Fl := fun t => exss G cf wf io ss t
  refine ⟨fun m σ H => (io = true → σ[0]? = s0) ∧ ∃ F2 O2 τ2, Rl Z F2 O2 τ2 σ H ∧ PostS Z io s0 W F2 O2 H ((whileL cc f m τ2).bind fun o t => .ok (fl1 o) t) E, ⟨wf, h0, F, O, τ, R, h⟩, ?_⟩
  rintro m σ2 H2 ⟨z0, F2, O2, τ2, R2, h2⟩
  cases m with
  | zero => exact h2.elim
  | succ m =>
    have e : (whileL cc f (m + 1) τ2).bind (fun o t => (.ok (fl1 o) t : Out Fl)) = (cc τ2).bind fun b t => if b = true then (f t).bind fun fl t => (match fl with
        | .nx => (whileL cc f m t).bind fun o t => .ok (fl1 o) t
        | .brk => .ok .nx t
        | .ret r => .ok (.ret r) t) else .ok .nx t := by
      show ((cc τ2).bind _).bind _ = _
      cases cc τ2 with
      | no => rfl
      | ex x t => rfl
      | ok b t =>
        cases b with
        | false => rfl
        | true =>
          show ((f t).bind _).bind _ = (f t).bind _
          cases f t with
          | no => rfl
          | ex x t => rfl
          | ok fl t => cases fl <;> rfl
    rw [e] at h2
    refine ⟨F2, O2, τ2, R2, (PostS.bind h2).mono fun k H3 ⟨F3, O3, τ3, x3, c3, E3, R3, r3, _, h3⟩ => ?_⟩
    obtain ⟨_, rfl⟩ := r3
    cases k with
    | false => exact h3 σ2 F3 O3 H3 E3.drop R3 z0
    | true =>
      refine ⟨fun σ' H' => (io = true → σ'[0]? = s0) ∧ ∃ F4 O4 τ4, Rl Z F4 O4 τ4 σ' H' ∧ PostS Z io s0 W F4 O4 H' ((whileL cc f m τ4).bind fun o t => .ok (fl1 o) t) E, fun σ' H' g => ⟨m, Nat.lt_succ_self m, g⟩, z0, F3, O3, τ3, R3, ?_⟩
      have h5 := PostS.weak E3 h3
      have h5 : PostS Z io s0 W F3 O3 H3 ((exss G cf wf io ss τ3).bind fun fl t => (match fl with
        | .nx => (whileL cc f m t).bind fun o t => .ok (fl1 o) t
        | .brk => .ok .nx t
        | .ret r => .ok (.ret r) t)) E := h5
      cases q : exss G cf wf io ss τ3 with
      | no => rw [q] at h5; exact h5.elim
      | ex x t => rw [q] at h5; exact h5
      | ok fl t =>
        rw [q] at h5
        cases fl with
        | nx => exact fun σ' F' O' H' e r z => ⟨z, F', O', t, r, PostS.weak e h5⟩
        | brk => exact fun σ' F' O' H' e r z => h5 σ' F' O' H' e r z
        | ret r => exact h5
end
end TY
/-! TyV: list comprehensions. -/
namespace TY
open PySem PySem.Spec PyProof.Rows L2
def W0 : WX := fun _ _ _ _ => False
/-! ### slots forgotten -/
def clrs (O : Ow) (vs : List Nat) : Ow := fun j => if j ∈ vs then [] else O j
theorem wipeS_at {σ : L2.St} {j : Nat} : ∀ {vs : List Nat}, (L2.wipe σ vs)[j]? = if j ∈ vs ∧ j < σ.length then some none else σ[j]?
  | [] => by simp [L2.wipe]
  | v :: vs => by
    unfold L2.wipe
    by_cases e : v = j
    · subst e
      by_cases l : v < σ.length
      · rw [List.getElem?_set_self (by rw [L2.wipe_length]; exact l), if_pos ⟨by simp, l⟩]
      · rw [List.getElem?_eq_none (by rw [List.length_set, L2.wipe_length]; omega), if_neg fun z => l z.2, List.getElem?_eq_none (by omega)]
    · rw [List.getElem?_set_ne e, wipeS_at]
      have : j ∈ v :: vs ↔ j ∈ vs := by simp [Ne.symm e]
      simp only [this]
theorem wipeS_eq {σ σ' : L2.St} {vs : List Nat} (hl : σ'.length = σ.length) (h : ∀ j, j ∉ vs → σ'[j]? = σ[j]?) : L2.wipe σ' vs = L2.wipe σ vs := by
  apply List.ext_getElem?
  intro j
  rw [wipeS_at, wipeS_at, hl]
  by_cases hj : j ∈ vs ∧ j < σ.length
  · rw [if_pos hj, if_pos hj]
  · rw [if_neg hj, if_neg hj]
    by_cases hv : j ∈ vs
    · have : ¬ j < σ.length := fun z => hj ⟨hv, z⟩
      rw [List.getElem?_eq_none (by omega), List.getElem?_eq_none (by omega)]
    · exact h j hv
theorem wipeT_len {τ : Tau} : ∀ {vs : List Nat}, (TY.wipe τ vs).length = τ.length
  | [] => rfl
  | v :: vs => by unfold TY.wipe; rw [List.length_set, wipeT_len]
theorem wipeT_at {τ : Tau} {j : Nat} : ∀ {vs : List Nat}, getS (TY.wipe τ vs) j = if j ∈ vs then none else getS τ j
  | [] => by simp [TY.wipe]
  | v :: vs => by
    unfold TY.wipe
    rw [getS_set0, wipeT_at]
    by_cases e : v = j
    · subst e; rw [if_pos rfl, if_pos (by simp)]
    · rw [if_neg e]
      have : j ∈ v :: vs ↔ j ∈ vs := by simp [Ne.symm e]
      simp only [this]
section
variable {Z : Wh} {F : AP} {O : Ow} {H : Hp} {τ : Tau} {σ σ' : L2.St} {own : List Nat}
/-- .. in the reading, the names' values wherever they may be -/
theorem Rl.wipe (R : Rl Z F O τ σ H) (hl : σ'.length = σ.length) (h : ∀ j, j ∉ own → σ'[j]? = σ[j]?) : Rl Z F (clrs O own) (TY.wipe τ own) σ' H := by
  refine ⟨by rw [wipeT_len, hl]; exact R.len, fun i d q => ?_, fun i m q => ?_, fun i q => ?_, fun i j b h1 h2 => ?_, R.trk⟩
  · rw [wipeT_at] at q
    split at q
    · cases q
    · rename_i hi
      rw [h i hi]; exact R.val i d q
  · rw [wipeT_at] at q
    split at q
    · cases q
    · rename_i hi
      rw [h i hi]
      unfold clrs
      rw [if_neg hi]; exact R.own i m q
  · unfold clrs
    by_cases hi : i ∈ own
    · rw [if_pos hi]
    · rw [if_neg hi]
      refine R.non i fun m z => q m ?_
      rw [wipeT_at, if_neg hi]; exact z
  · unfold clrs at h1 h2
    split at h1
    · simp at h1
    · split at h2
      · simp at h2
      · exact R.dis i j b h1 h2
theorem Rl.sig (R : Rl Z F O τ σ H) (hl : σ'.length = σ.length) (h : ∀ j, getS τ j ≠ none → σ'[j]? = σ[j]?) : Rl Z F O τ σ' H :=
  ⟨hl.trans R.len, fun i d q => by rw [h i (by rw [q]; exact fun z => nomatch z)]; exact R.val i d q, fun i m q => by rw [h i (by rw [q]; exact fun z => nomatch z)]; exact R.own i m q, R.non, R.dis, R.trk⟩
theorem clrs_sub {b : Addr} {i : Nat} (h : b ∈ clrs O own i) : b ∈ O i := by
  unfold clrs at h
  split at h
  · simp at h
  · exact h
theorem Ext.clrs {F' : AP} {O' : Ow} {H' : Hp} {cs : List Addr} (e : Ext F O H F' O' H' cs) : Ext F O H F' (TY.clrs O' own) H' cs :=
  ⟨e.st, fun b o h1 h2 h3 h4 => let ⟨g1, g2, g3, g4⟩ := e.rest b o h1 h2 h3; ⟨g1, g2, fun i z => g3 i (clrs_sub z), g4⟩⟩
/-- a thing of nobody's is written -/
theorem Rl.out {p : Addr} {o : HO} (R : Rl Z F O τ σ H) (nf : ¬ F p) (no : ∀ i, p ∉ O i) (wn : Wn H p := by first | exact .none (by assumption) | exact .lst (by assumption)) (hno : ∀ ps, o ≠ .tbl ps := by exact fun ps z => nomatch z) : Rl Z F O τ σ (upd H p o) := by
  have st : Stay F H F (upd H p o) := ⟨fun _ h => h, fun b fb => upd_ne fun z => nf (by rw [← z]; exact fb)⟩
  refine ⟨R.len, fun i d q => ?_, fun i m q => ?_, R.non, R.dis, ⟨fun b fb => ?_, tabs_upd R.trk.tab wn⟩⟩
  · obtain ⟨v, h1, h2⟩ := R.val i d q
    exact ⟨v, h1, h2.stay st⟩
  · obtain ⟨v, h1, w⟩ := R.own i m q
    exact ⟨v, h1, w.rp.stay st fun b hb => upd_ne fun z => no i (by rw [← z]; exact hb), w.nd, w.nf⟩
  · exact (R.trk.t b fb).of (upd_ne fun z => nf (by rw [← z]; exact fb))
theorem upd_id {p : Addr} {o : HO} (h : H p = some o) : upd H p o = H := by
  funext b
  by_cases e : b = p
  · rw [e, upd_same, h]
  · rw [upd_ne e]
end
section
variable {Z : Wh} {X : Cx}
theorem At.blk (A : At Z X) (s : Shared) (H : Hp) (scope : Scope) (ce : Env) (fp : List Addr) : At Z (X.blk s H scope ce fp) := ⟨⟨A.p, A.w, A.k, A.nd, A.hu, A.fn⟩, A.cm⟩
end
section
variable (Z : Wh) (G : Glob) (cf : CallF) (W : WX)
def rdC (cs : List E) : TT := fun σ H Q => ∃ F O τ, Rl Z F O τ σ H ∧ Post Z (rE Bool) W σ F O H (evc G cf cs τ) Q
end
section
variable {Z : Wh} {G : Glob} {cf : CallF} {wf : Nat} {io : Bool} {s0 : Option (Option V)} {W : WX} {X : Cx} {a b c : E} {a' b' c' tg : Expr} {pos : Pos} {es : List E} {es' : List Expr}
theorem _root_.L2.PTs.imp {e : List Expr} {t t' : TT} (h : PTs X e t) (k : ∀ σ H Q, t' σ H Q → t σ H Q) : PTs X e t' := ⟨fun pins s σ H Q I q => h.run pins s σ H Q I (k σ H Q q)⟩
theorem c_nil : PTs X [] (rdC Z G cf W []) := pts_nil.imp fun σ H Q ⟨F, O, τ, R, h⟩ => by
  simp only [evc] at h
  exact h.done0 R ⟨rfl, rfl⟩
theorem c_one (h : PT X a' (rdT Z G cf W a)) : PTs X [a'] (rdC Z G cf W [a]) := (pts_one h).imp fun σ H Q ⟨F, O, τ, R, h⟩ => by
  simp only [evc] at h
  refine ⟨F, O, τ, R, ?_⟩
  have e : ((ev G cf a τ).bind fun x t => (asB x t).bind fun b t => if b = true then .ok true t else .ok false t) = (ev G cf a τ).bind asB := by
    cases ev G cf a τ with
    | no => rfl
    | ex x t => rfl
    | ok x t =>
      show (asB x t).bind _ = asB x t
      unfold asB
      split
      · rename_i k
        cases k <;> rfl
      · rfl
  rw [← e]
  exact h
theorem compL_drop {α : Type} {own : List Nat} {f : D → Tau → Out (List α)} {ds : List D} {i : Nat} {d : D} {acc : List α} {t : Tau} (h : ds[i]? = some d) : compL own f (ds.drop i) acc t = match f d (TY.wipe t own) with
    | .ok x t => if acc.length + x.length ≤ line then compL own f (ds.drop (i + 1)) (acc ++ x) t else .no
    | _ => .no := by
  obtain ⟨hi, rfl⟩ := List.getElem?_eq_some_iff.mp h
  rw [List.drop_eq_getElem_cons hi]
  rfl
theorem Post.self {Y α : Type} {RR : RRel Y α} {σ : L2.St} {F : AP} {O : Ow} {H : Hp} {out : Out α} {x : α} {t : Tau} (q : out = .ok x t) : Post Z RR W σ F O H out (fun y H1 => ∃ F1 O1 cs, Ext F O H F1 O1 H1 cs ∧ Rl Z F1 O1 t σ H1 ∧ RR F1 O1 t H1 y cs x) := by
  subst q
  exact fun y cs F' O' H' e r rr => ⟨F', O', cs, e, r, rr⟩
/-- the turn of [el for tg in .. if cs] -/
def lcF (G : Glob) (cf : CallF) (el : E) (tg : T) (cs : List E) : D → Tau → Out (List D) := fun d t => (lift (store 0 tg d t) t).bind fun t' _ => (evc G cf cs t').bind fun b t => if b then (ev G cf el t).bind fun x t => (TY.frz x t).bind fun x t => .ok [x] t else .ok [] t
theorem lc_rd {el : E} {tgx : T} {it : I} {cs : List E} {own : List Nat} {σ : L2.St} {H : Hp} {Q : VK} (hns : ∀ j ∈ tgx.ns, j ∈ own) (h : rdE Z G cf W (.lc el tgx it cs own) σ H Q) :
    tLc (rdI Z G cf W it) (rdG Z 0 tgx) (rdC Z G cf W0 cs) (rdE Z G cf W0 el) own σ H Q := by
  obtain ⟨F, O, τ, R, h⟩ := h
  simp only [ev] at h
  refine ⟨F, O, τ, R, (Post.bind h).mono fun J H1 ⟨F1, O1, τ1, ds, c1, E1, R1, r1, _, h1⟩ => ?_⟩
  obtain ⟨rfl, gv⟩ := r1
  intro p hp
  have h1 : Post Z (rO Z σ) W σ F1 O1 H1 ((compL own (lcF G cf el tgx cs) ds [] τ1).bind fun l t => .ok (.tmp (.l l)) (TY.wipe t own)) Q := Post.weak E1 h1
  let Wi : Nat → Hp → Prop := fun i H => ∃ F2 O2 τ2 acc avs, Rl Z F2 O2 (TY.wipe τ2 own) (L2.wipe σ own) H ∧ Ext F1 O1 H1 F2 O2 H [] ∧ H p = some (.lst avs) ∧ Rps Z H F2 avs acc ∧ ¬ F2 p ∧ (∀ i, p ∉ O2 i) ∧
    Post Z (rO Z σ) W σ F1 O1 H1 ((compL own (lcF G cf el tgx cs) (ds.drop i) acc τ2).bind fun l t => .ok (.tmp (.l l)) (TY.wipe t own)) Q
  have np : ¬ F1 p ∧ ∀ i, p ∉ O1 i := ⟨R1.trk.no hp, fun i z => (R1.ownTrk z).1.no hp⟩
  have wl : (L2.wipe σ own).length = σ.length := L2.wipe_length σ own
  have wa : ∀ j, j ∉ own → (L2.wipe σ own)[j]? = σ[j]? := fun j hj => by rw [wipeS_at, if_neg fun z => hj z.1]
  have w1 : Wi 0 (upd H1 p (.lst [])) := by
    have R1' := (R1.wipe (own := own) wl wa).out (o := .lst []) np.1 (fun i z => np.2 i (clrs_sub z))
    refine ⟨F1, clrs O1 own, τ1, [], [], R1', ⟨⟨fun _ z => z, fun b fb => upd_ne fun z => np.1 (by rw [← z]; exact fb)⟩, fun b o g1 g2 g3 _ => ⟨by rw [upd_ne (ne_of_none g1 hp)]; exact g1, g2, fun i z => g3 i (clrs_sub z), by simp⟩⟩, upd_same, True.intro, np.1, fun i z => np.2 i (clrs_sub z), h1⟩
  refine ⟨fun i m H => m = ds.length - i ∧ i ≤ ds.length ∧ Wi i H, ⟨ds.length, rfl, Nat.zero_le _, w1⟩, ?_⟩
  rintro i m H2 ⟨rfl, hile, F2, O2, τ2, acc, avs, R2, E2, hp2, ra, nf2, no2, h2⟩
  by_cases hlt : i < ds.length
  · refine .inr ⟨gv.go _ _ _ E2.st hlt, Wi (i + 1), fun H' g => ⟨ds.length - (i + 1), by omega, rfl, hlt, g⟩, fun x H3 y => ?_⟩
    have hd := List.getElem?_eq_getElem hlt
    obtain ⟨F3, N3, p3⟩ := gv.yld _ _ _ _ _ _ E2.st R2.trk hd y
    rw [compL_drop hd] at h2
    have R3 := N3.rl R2
    have E3 := N3.ext R2
    cases q : lcF G cf el tgx cs ds[i] (TY.wipe τ2 own) with
    | no => rw [q] at h2; exact h2.elim
    | ex x t => rw [q] at h2; exact h2.elim
    | ok xs t =>
      rw [q] at h2
      simp only at h2
      split at h2
      case isFalse => exact h2.elim
      rename_i hz
      unfold lcF at q
      cases et : store 0 tgx ds[i] (TY.wipe τ2 own) with
      | none => rw [et] at q; cases q
      | some t' =>
        rw [et] at q
        have q : ((evc G cf cs t').bind fun b t => if b then (ev G cf el t).bind fun x t => (TY.frz x t).bind fun x t => .ok [x] t else .ok [] t) = .ok xs t := q
        refine ⟨F3, O2, TY.wipe τ2 own, ds[i], t', R3, p3, et, fun σ4 O4 R4 E4 sm => ⟨?_, F3, O4, t', R4, ?_⟩⟩
        · exact wipeS_eq (sm.len.trans wl) fun j hj => (sm.at' j fun z => hj (hns j z)).trans (wa j hj)
        have fin : ∀ ys H6, (∃ F6 O6 cs, Ext F3 O4 H3 F6 O6 H6 cs ∧ Rl Z F6 O6 t σ4 H6 ∧ rDs Z F6 O6 t H6 ys cs xs) → avs.length + ys.length ≤ sizeLine ∧ H6 p = some (.lst avs) ∧ Wi (i + 1) (upd H6 p (.lst (avs ++ ys))) := fun ys H6 ⟨F6, O6, c6, E6, R6, r6⟩ => by
          obtain ⟨rfl, r6⟩ := r6
          have E7 : Ext F2 O2 H2 F6 O6 H6 [] := (E3.trans E4).trans E6
          obtain ⟨g1, g2, g3, _⟩ := E7.rest p _ hp2 nf2 no2
          have st6 : Stay F6 H6 F6 (upd H6 p (.lst (avs ++ ys))) := ⟨fun _ z => z, fun b fb => upd_ne fun z => g2 (by rw [← z]; exact fb)⟩
          have R7 : Rl Z F6 (clrs O6 own) (TY.wipe t own) (L2.wipe σ own) H6 := R6.wipe (by rw [wl, sm.len, wl]) fun j hj => (sm.at' j fun z => hj (hns j z)).symm
          have E8 := E2.trans E7
          refine ⟨by rw [ra.len, r6.len, line_eq]; exact hz, g1, F6, clrs O6 own, t, acc ++ xs, avs ++ ys, R7.out g2 fun i z => g3 i (clrs_sub z), ⟨E8.st.trans st6, fun b o k1 k2 k3 k4 => ?_⟩, upd_same, Rps.stay st6 _ _ (Rps.append (Rps.stay E7.st _ _ ra) r6), g2, fun i z => g3 i (clrs_sub z), h2⟩
          obtain ⟨m1, m2, m3, _⟩ := E8.rest b o k1 k2 k3
          exact ⟨by rw [upd_ne (ne_of_none k1 hp)]; exact m1, m2, fun i z => m3 i (clrs_sub z), by simp⟩
        have hq := Post.self (Z := Z) (RR := rDs Z) (W := W0) (σ := σ4) (F := F3) (O := O4) (H := H3) q
        refine (Post.bind hq).mono fun k H5 ⟨F5, O5, τ5, x5, c5, E5, R5, r5, _, h5⟩ => ?_
        obtain ⟨_, rfl⟩ := r5
        cases k with
        | false =>
          obtain ⟨_, g1, g2⟩ := fin [] H5 (h5 [] [] F5 O5 H5 E5.drop R5 ⟨rfl, True.intro⟩)
          rw [List.append_nil, upd_id g1] at g2
          exact g2
        | true =>
          refine ⟨F5, O5, τ5, R5, (Post.bind (Post.weak E5 h5)).mono fun v H6 ⟨F6, O6, τ6, x6, c6, E6, R6, r6, _, h6⟩ => ?_⟩
          obtain ⟨F7, O7, τ7, d, E7, R7, p7, _, h7⟩ := Post.frz E6 R6 r6 h6
          obtain ⟨g0, g1, g2⟩ := fin [v] H6 (h7.done0 R7 ⟨rfl, p7, True.intro⟩)
          exact ⟨avs, g1, g0, g2⟩
  · have e : i = ds.length := by omega
    subst e
    refine .inl ⟨gv.stop _ _ E2.st, ?_⟩
    rw [List.drop_length] at h2
    exact h2 (.ref p) [p] F2 O2 H2 ⟨E2.st, fun b o k1 k2 k3 k4 => let ⟨m1, m2, m3, _⟩ := E2.rest b o k1 k2 k3; ⟨m1, m2, m3, fun z => ne_of_none k1 hp (List.mem_singleton.mp z)⟩⟩
      (R2.sig wl.symm fun j hj => by
        rw [wipeT_at] at hj
        split at hj
        · exact absurd rfl hj
        · rename_i hi; exact (wa j hi).symm)
      ⟨⟨⟨p, avs, rfl, rfl, hp2, ra⟩, by simp, fun b hb => by rw [List.mem_singleton.mp hb]; exact nf2⟩, fun b hb i => by rw [List.mem_singleton.mp hb]; exact no2 i⟩
section
variable {elt' it' : Expr} {ifs' : List Expr} {scope : Scope} {ow : List (Str × Nat)} {el : E} {tgx : T} {it : I} {cs : List E} {own : List Nat}
theorem e_lc (A : At Z X) (hi : PI X tg it' (rdI Z G cf W it)) (ok : blkC X.N X.env.scope scope ow = true) (ho : ow.map (·.2) = own) (hns : tgx.ns.all own.contains = true)
    (hg : ∀ (s : Shared) (H : Hp) (C : Addr) (cl : List (Str × Addr)) (fp : List Addr), PG (X.blk s H scope (compEnvC scope cl C X.env) fp) tg (rdG Z 0 tgx))
    (ht : ∀ (s : Shared) (H : Hp) (C : Addr) (cl : List (Str × Addr)) (fp : List Addr), PTs (X.blk s H scope (compEnvC scope cl C X.env) fp) ifs' (rdC Z G cf W0 cs))
    (he : ∀ (s : Shared) (H : Hp) (C : Addr) (cl : List (Str × Addr)) (fp : List Addr), PE (X.blk s H scope (compEnvC scope cl C X.env) fp) elt' (rdE Z G cf W0 el)) (hs : ∀ x, foldedSetIterable it' X.env x = pure x) :
    PE X (.ListComp elt' [⟨tg, it', ifs', 0⟩] scope pos) (rdE Z G cf W (.lc el tgx it cs own)) :=
  (pe_lc A.cm A.nd hi (blkOk_by ok) hg ht he hs).imp fun σ H Q h => by
    rw [ho]
    exact lc_rd (fun j hj => by have := List.all_eq_true.mp hns j hj; simpa using this) h
theorem st_lc {i : Nat} {y : Str} {py lpos : Pos} (A : At Z X) (hy : X.N[i]? = some y) (hyl : X.env.scope.names.lookup y = some .local)
    (hsw : swapsWith (.ListComp elt' [⟨tg, it', ifs', 0⟩] scope lpos) (some (.Name y py)) pos.line X.env = pure true)
    (hi : PI X tg it' (rdI Z G cf W it)) (ok : blkC X.N X.env.scope scope ow = true) (ho : ow.map (·.2) = own) (hns : tgx.ns.all own.contains = true)
    (hg : ∀ (s : Shared) (H : Hp) (C : Addr) (cl : List (Str × Addr)) (fp : List Addr), PG (X.blk s H scope (compEnvC scope cl C X.env) fp) tg (rdG Z 0 tgx))
    (ht : ∀ (s : Shared) (H : Hp) (C : Addr) (cl : List (Str × Addr)) (fp : List Addr), PTs (X.blk s H scope (compEnvC scope cl C X.env) fp) ifs' (rdC Z G cf W0 cs))
    (he : ∀ (s : Shared) (H : Hp) (C : Addr) (cl : List (Str × Addr)) (fp : List Addr), PE (X.blk s H scope (compEnvC scope cl C X.env) fp) elt' (rdE Z G cf W0 el)) (hs : ∀ x, foldedSetIterable it' X.env x = pure x) :
    PS X (.Assign [.Name y py] (.ListComp elt' [⟨tg, it', ifs', 0⟩] scope lpos) pos) (rdS Z io s0 W (exs G cf wf io (.set i (.lc el tgx it cs own)))) :=
  (ps_setLc A.cm A.nd hy hyl hsw hi (blkOk_by ok) hg ht he hs).imp fun D σ H h => by
    rw [ho]
    exact lc_rd (fun j hj => by have := List.all_eq_true.mp hns j hj; simpa using this) (set_rd h)
end
end
end TY
/-! TyW: raise; a def keeps what the evaluator says. -/
namespace TY
open PySem PySem.Spec PyProof.Rows L2
/-- an own error class without a maker of its own, known by its name -/
structure Xn (Z : Wh) (X : Cx) (n : Nat) (x : Str) : Prop where
  ex : ∃ (B newId initId : String) (bmB : List Value) (C : Addr), ExcBaseFacts B newId initId bmB ∧ PySem.W.excIn X.K C bmB newId = true ∧ X.mg x = some (.ref C) ∧ PySem.W.keepIn X.K (.ref C) = true ∧ Raises X (.ref C) ∧ Z.xa n = some C
  db : (x == ("__debug__" : Str)) = false
theorem Kn.blk {Z : Wh} {X : Cx} {cf : CallF} {k f n : Nat} {x : Str} (K : Kn Z X cf k f x n) (s : Shared) (H : Hp) (scope : Scope) (ce : Env) (fp : List Addr) : Kn Z (X.blk s H scope ce fp) cf k f x n := ⟨K.ex, K.db⟩
section
variable {Z : Wh} {G : Glob} {cf : CallF} {wf : Nat} {io : Bool} {s0 : Option (Option V)} {W : WX} {X : Cx} {pos : Pos}
theorem st_raise {n j : Nat} {x m : Str} {p p2 cp : Pos} (A : At Z X) (tk : L2N.Takes X W) (K : Xn Z X n x) (hg : Gl X x) : PS X (.Raise (some (.Call (.Name x p) [.Constant (.str m) j p2] [] cp)) none pos) (rdS Z io s0 W (exs G cf wf io (.raise n []))) := by
  obtain ⟨B, newId, initId, bmB, C, F, q, gC, kC, r, hx⟩ := K.ex
  refine (L2N.ps_raise A.cm tk (L2N.pmk_own F q gC kC r hg K.db)).imp fun E σ H ⟨h0, Fr, O, τ, R, h⟩ => ?_
  simp only [exs, evs] at h
  exact h (.ref C) none σ Fr O H .refl R.trk ⟨C, hx, rfl, rfl⟩
end
section
variable {Z : Wh} {F : AP} {H : Hp} {vs : List V} {ds : List D}
theorem getS_map {n : Nat} {i : Nat} {s : SV} (h : getS (ds.map (fun d => some (SV.v d)) ++ List.replicate n none) i = some s) : ∃ d, s = .v d ∧ ds[i]? = some d := by
  unfold getS at h
  by_cases l : i < ds.length
  · rw [List.getElem?_append_left (by simpa using l), List.getElem?_map, List.getElem?_eq_getElem l] at h
    cases h
    exact ⟨_, rfl, List.getElem?_eq_getElem l⟩
  · rw [List.getElem?_append_right (by simpa using l), List.getElem?_replicate] at h
    split at h <;> cases h
theorem start_at {N : List Str} {i : Nat} {v : V} (h : vs[i]? = some v) : (L2.start N vs)[i]? = some (some v) := by
  unfold L2.start
  have l := (List.getElem?_eq_some_iff.mp h).1
  rw [List.getElem?_append_left (by simpa using l), List.getElem?_map, h]; rfl
theorem start_len {N ps : List Str} {sc : Scope} (S : FnScope N ps sc) (hv : vs.length = ps.length) : (L2.start N vs).length = N.length := by
  have hpl : ps.length ≤ N.length := by have := congrArg List.length S.pre; rw [List.length_take] at this; omega
  unfold L2.start
  rw [List.length_append, List.length_map, List.length_replicate]; omega
end
/-- a def that may raise, from its body's proof -/
theorem okN {P : Program} {w : World} {K : PySem.W.Frag} {mg : Str → Option Value} {base : Heap} {x : Str} {st : Stmt} {p : Addr} {fd : FuncData} {N ps : List Str} {k : Nat} {sp : Sp} (F : Fun K x x st p fd) (S : FnScope N ps (defScope st)) (len : ∀ vs H Q E, sp vs H Q E → vs.length = ps.length)
    (bd : ∀ (cdv : Value) (A : Around) (outer : List Env) (s : Shared) (H : Hp) (vs : List V) (Q : VK) (E : XK), Room k (A.deeper (envOfC x (defScope st) s.heap.objs.size p cdv)) → sp vs H Q E →
      ∃ t, PSs (cxOf (L2N.CX P w) P w K mg base N x (defScope st) p cdv A outer s H E) (defBody st) t ∧ t { nx := fun _ H' => Q .non H', rt := Q } (L2.start N vs) H) : FnOk P w K mg base (L2N.CX P w) (k + 1) p fd ps sp := by
  obtain ⟨_, _, _, _, _, _, cdv, _, _, rfl, lk, hc⟩ := F.ex
  exact fn_of lk hc S len (bd cdv)
/-- what is asked of a def is what its body's reading asks -/
theorem spC_rd {Z : Wh} {G : Glob} {fs : Nat → Option Fn} {wf f k : Nat} {N ps : List Str} {sc : Scope} {fn : Fn} (S : FnScope N ps sc) (hf : fs f = some fn) (hp : ps.length = fn.par) (hN : N.length = fn.slots) {vs : List V} {H : Hp} {Q : VK} {E : XK}
    (hsp : spC Z fn.par (callF G fs wf (k + 1) f) vs H Q E) : rdS Z fn.io (L2.start N vs)[0]? (fun cls d _ H => E cls d H) (exss G (callF G fs wf k) wf fn.io fn.body) { nx := fun _ H' => Q .non H', rt := Q } (L2.start N vs) H := by
  obtain ⟨hv, Fr, m, ds, bs, tk, ri, rs, h⟩ := hsp
  simp only [callF, hf, runF] at h
  by_cases hc : m.isSome = fn.io ∧ ds.length + m.isSome.toNat = fn.par
  case neg => rw [if_neg hc] at h; exact h.elim
  rw [if_pos hc] at h
  obtain ⟨hio, hpar⟩ := hc
  have hl := start_len (vs := vs) S (by rw [hp]; exact hv)
  cases m with
  | none =>
    have hio : fn.io = false := hio.symm
    have hds : ds.length = fn.par := hpar
    have hbs : bs = [] := ri
    subst hbs
    have R : Rl Z Fr (fun _ => []) (startT fn.slots none ds) (L2.start N vs) H := by
      refine ⟨?_, fun i d q => ?_, fun i m q => ?_, fun _ _ => rfl, fun i j b hb => absurd hb (by simp), tk⟩
      · rw [hl]
        have hpl : ps.length ≤ N.length := by have := congrArg List.length S.pre; rw [List.length_take] at this; omega
        simp only [startT, List.nil_append, List.length_append, List.length_map, List.length_replicate, Option.isSome_none, Bool.toNat_false]
        omega
      · obtain ⟨d', e, hd⟩ := getS_map (show getS (ds.map (fun d => some (SV.v d)) ++ List.replicate (fn.slots - (ds.length + 0)) none) i = some (.v d) from q)
        cases e
        obtain ⟨v, h1, h2⟩ := rs.get hd
        exact ⟨v, start_at h1, h2⟩
      · obtain ⟨d', e, hd⟩ := getS_map (show getS (ds.map (fun d => some (SV.v d)) ++ List.replicate (fn.slots - (ds.length + 0)) none) i = some (.o m) from q)
        cases e
    have cv : ∀ {F' : AP} {O' : Ow} {H' : Hp} {cs : List Addr}, Ext Fr (fun _ => []) H F' O' H' cs → Tk Z F' H' → ExtC Z Fr [] H F' [] H' cs := fun e t =>
      ⟨e.st, fun b o h1 h2 _ h4 => let ⟨g1, g2, _, g4⟩ := e.rest b o h1 h2 (fun _ => by simp); ⟨g1, g2, by simp, g4⟩, t, fun _ _ => by simp⟩
    refine ⟨fun _ => rfl, Fr, fun _ => [], startT fn.slots none ds, R, ?_⟩
    cases q : exss G (callF G fs wf k) wf fn.io fn.body (startT fn.slots none ds) with
    | no => rw [q] at h; exact h.elim
    | ex x t =>
      rw [q] at h
      simp only [hio] at h
      exact fun cls d σ' F' O' H' e tk' r => h cls d F' [] H' ⟨e.st, fun b o h1 h2 _ h4 => let ⟨g1, g2, _, g4⟩ := e.rest b o h1 h2 (fun _ => by simp); ⟨g1, g2, by simp, g4⟩, tk', fun _ hb => absurd hb (by simp)⟩ r
    | ok fl t =>
      rw [q] at h
      cases fl with
      | brk => exact h.elim
      | nx =>
        simp only [endC, hio] at h
        exact fun σ' F' O' H' e r _ => h .non [] F' [] H' (cv e r.trk) ⟨rfl, rfl⟩ rfl
      | ret r0 =>
        simp only [endC, hio] at h
        exact fun v cs σ' F' O' H' e r _ rr _ => h v cs F' [] H' (cv e r.trk) rr rfl
  | some m0 =>
    have hio : fn.io = true := hio.symm
    have hds : ds.length + 1 = fn.par := hpar
    obtain ⟨v0, r0, e0, w0⟩ := ri
    subst e0
    have rs : Rps Z H Fr r0 ds := rs
    let O0 : Ow := fun i => if i = 0 then bs else []
    have o0 : ∀ {b i}, b ∈ O0 i → i = 0 ∧ b ∈ bs := fun {b i} hb => by
      by_cases e : i = 0
      · subst e; exact ⟨rfl, hb⟩
      · have : O0 i = [] := if_neg e
        rw [this] at hb; simp at hb
    have g0 : ∀ i, getS (startT fn.slots (some m0) ds) (i + 1) = getS (ds.map (fun d => some (SV.v d)) ++ List.replicate (fn.slots - (ds.length + 1)) none) i := fun i => rfl
    have R : Rl Z Fr O0 (startT fn.slots (some m0) ds) (L2.start N (v0 :: r0)) H := by
      refine ⟨?_, fun i d q => ?_, fun i m q => ?_, fun i q => ?_, fun i j b hb hc => (o0 hb).1.trans (o0 hc).1.symm, tk⟩
      · rw [hl]
        have hpl : ps.length ≤ N.length := by have := congrArg List.length S.pre; rw [List.length_take] at this; omega
        simp only [startT, List.length_append, List.length_map, List.length_replicate, Option.isSome_some, Bool.toNat_true, List.length_cons, List.length_nil]
        omega
      · cases i with
        | zero => cases q
        | succ i =>
          rw [g0] at q
          obtain ⟨d', e, hd⟩ := getS_map q
          cases e
          obtain ⟨v, h1, h2⟩ := rs.get hd
          exact ⟨v, start_at (by simpa using h1), h2⟩
      · cases i with
        | zero =>
          have q : some (SV.o m0) = some (.o m) := q
          cases q
          exact ⟨v0, start_at rfl, w0⟩
        | succ i =>
          rw [g0] at q
          obtain ⟨d', e, hd⟩ := getS_map q
          cases e
      · cases i with
        | zero => exact absurd rfl (q m0)
        | succ i => rfl
    have cv : ∀ {F' : AP} {O' : Ow} {H' : Hp} {cs : List Addr}, Ext Fr O0 H F' O' H' cs → Tk Z F' H' → (∀ b ∈ cs, ∀ i, b ∉ O' i) → ExtC Z Fr bs H F' (O' 0) H' cs := fun e t dj =>
      ⟨e.st, fun b o h1 h2 h3 h4 => let ⟨g1, g2, g3, g4⟩ := e.rest b o h1 h2 (fun i z => h3 (o0 z).2); ⟨g1, g2, g3 0, g4⟩, t, fun b hb => dj b hb 0⟩
    refine ⟨fun _ => rfl, Fr, O0, startT fn.slots (some m0) ds, R, ?_⟩
    have own' : ∀ {F' : AP} {O' : Ow} {t : Tau} {σ' : L2.St} {H' : Hp} {m' : Mu}, Rl Z F' O' t σ' H' → σ'[0]? = (L2.start N (v0 :: r0))[0]? → getM t 0 = some m' → RpI Z F' H' (v0 :: r0) (O' 0) (some m') := fun R' z g => by
      obtain ⟨_, v, hv', w'⟩ := getM_own R' g
      rw [z, start_at (i := 0) rfl] at hv'
      cases hv'
      exact ⟨v0, r0, rfl, w'⟩
    cases q : exss G (callF G fs wf k) wf fn.io fn.body (startT fn.slots (some m0) ds) with
    | no => rw [q] at h; exact h.elim
    | ex x t =>
      rw [q] at h
      simp only [hio] at h
      exact h.elim
    | ok fl t =>
      rw [q] at h
      cases fl with
      | brk => exact h.elim
      | nx =>
        simp only [endC, hio, if_true] at h
        cases g : getM t 0 with
        | none => rw [g] at h; exact h.elim
        | some m' =>
          rw [g] at h
          exact fun σ' F' O' H' e r z => h .non [] F' (O' 0) H' (cv e r.trk fun _ hb => absurd hb (by simp)) ⟨rfl, rfl⟩ (own' r (z hio) g)
      | ret rr0 =>
        simp only [endC, hio, if_true] at h
        cases g : getM t 0 with
        | none => rw [g] at h; exact h.elim
        | some m' =>
          rw [g] at h
          exact fun v cs σ' F' O' H' e r z rr dj => h v cs F' (O' 0) H' (cv e r.trk dj) rr (own' r (z hio) g)
theorem def_ok {Z : Wh} {P : Program} {w : World} {K : PySem.W.Frag} {mg : Str → Option Value} {base : Heap} {G : Glob} {fs : Nat → Option Fn} {wf f k : Nat} {x : Str} {st : Stmt} {p : Addr} {fd : FuncData} {N ps : List Str} {fn : Fn}
    (F : Fun K x x st p fd) (S : FnScope N ps (defScope st)) (hf : fs f = some fn) (hp : ps.length = fn.par) (hN : N.length = fn.slots)
    (body : ∀ (cdv : Value) (A : Around) (outer : List Env) (s : Shared) (H : Hp) (E : XK) (s0 : Option (Option V)), Room k (A.deeper (envOfC x (defScope st) s.heap.objs.size p cdv)) →
      PSs (cxOf (L2N.CX P w) P w K mg base N x (defScope st) p cdv A outer s H E) (defBody st) (rdS Z fn.io s0 (fun cls d _ H => E cls d H) (exss G (callF G fs wf k) wf fn.io fn.body))) :
    FnOk P w K mg base (L2N.CX P w) (k + 1) p fd ps (spC Z fn.par (callF G fs wf (k + 1) f)) := by
  refine okN F S (fun vs H Q E h => by rw [hp]; exact h.1) fun cdv A outer s H vs Q E hr hsp => ⟨_, body cdv A outer s H E (L2.start N vs)[0]? hr, spC_rd S hf hp hN hsp⟩
end TY
/-! TyX: the rules, as the printed proofs use them. -/
namespace TY
open PySem PySem.Spec PyProof.Rows L2
theorem takesN0 {X : Cx} : L2N.Takes X (fun _ _ _ _ => False) := fun _ _ x => by
  obtain ⟨_, _, _, _, _, _, _, _, _, _, _, _, _, _, _, _, z⟩ := x
  exact False.elim z
/-! ### names -/
def fNs : List Str := ["is_int", "is_machine", "is_press", "are_presses", "is_row", "is_cell", "total", "are_cells", "is_sheet_of", "is_sight_of", "need_machine", "need_row", "need_sheet", "need_sight", "need_column", "need_number", "need_press", "need_index", "marks_of", "is_sheet", "is_sight", "marks"]
def xNs : List Str := ["TypeOverError", "InvalidMachine", "InvalidRow", "InvalidSheet", "InvalidSight", "InvalidColumn", "InvalidNumber", "InvalidPress", "InvalidIndex", "InvalidTruth", "InvalidMark", "InvalidSlip", "NothingToUndo", "TooMany"]
def gNs : List Str := ["PRESSES", "SIGNS", "MOST_PRESSES", "MOST_MARKS", "MOST_BELLS", "BEGIN", "SHORT", "MOST_TYPED"]
def bNs : List Str := ["abs", "int", "min", "max", "len", "sum", "all", "any", "sorted", "set", "tuple", "list", "dict", "str", "bool", "range", "enumerate", "zip", "isinstance"]
def locB (sc : Scope) (x : Str) : Bool := match sc.names.lookup x with
  | some .local => true
  | some .cell => true
  | _ => false
def visB (sc : Scope) (x : Str) : Bool := (match sc.names.lookup x with
  | some .local => true
  | some .cell => true
  | some .free => true
  | _ => false) && !(x == ("__debug__" : Str)) && !(x == ("__classdict__" : Str))
def glB (sc : Scope) (x : Str) : Bool := (match sc.names.lookup x with
  | some .globalImplicit => true
  | _ => false) && !(x == ("__debug__" : Str))
theorem loc_of {sc : Scope} {x : Str} (h : locB sc x = true) : Loc sc x := by
  unfold locB at h
  split at h
  · exact .inl (by assumption)
  · exact .inr (by assumption)
  · cases h
theorem vis_of {sc : Scope} {x : Str} (h : visB sc x = true) : Vis sc x ∧ (x == ("__debug__" : Str)) = false ∧ (x == ("__classdict__" : Str)) = false := by
  unfold visB at h
  simp only [Bool.and_eq_true, Bool.not_eq_true'] at h
  refine ⟨?_, h.1.2, h.2⟩
  have h := h.1.1
  split at h
  · exact .inl (by assumption)
  · exact .inr (.inl (by assumption))
  · exact .inr (.inr (by assumption))
  · cases h
theorem gl_of {X : Cx} {x : Str} (h : glB X.env.scope x = true) : Gl X x ∧ (x == ("__debug__" : Str)) = false := by
  unfold glB at h
  simp only [Bool.and_eq_true, Bool.not_eq_true'] at h
  refine ⟨?_, h.2⟩
  have h := h.1
  split at h
  · assumption
  · cases h
def cellB (scope : Scope) : Str → Bool := fun x => scope.names.lookup x == some .cell
/-- what a body stands on -/
structure Bd (Z : Wh) (G : Glob) (fN : Nat → Str) (fs : Nat → Option Fn) (cf : CallF) (k : Nat) (X : Cx) (N : List Str) (sc : Scope) (nf : Str → Bool) (W : WX) : Prop where
  A : At Z X
  n : X.N = N
  s : X.env.scope = sc
  sk : sc.kind = .function
  fn : X.fn = nf
  hr : Room k X.A
  hp : PassesOwn (model X.prog X.w) X.A X.env X.xe
  tk : L2N.Takes X W
  kn : ∀ f n, (fs f).map Fn.par = some n → Kn Z X cf k f (fN f) n
  bl : ∀ x, bNs.elem x = true → X.mg x = none
  gl : ∀ g d, G.gl g = some d → ∃ u v, X.mg (gNs.getD g "") = some u ∧ RelV v u ∧ ∀ F H, Rp Z H F v d
  xn : ∀ n, G.ex n = true → Xn Z X n (xNs.getD n "")
theorem Bd.blk {Z : Wh} {G : Glob} {fN : Nat → Str} {fs : Nat → Option Fn} {cf : CallF} {k : Nat} {X : Cx} {N : List Str} {sc : Scope} {nf : Str → Bool} {W : WX} (b : Bd Z G fN fs cf k X N sc nf W) (scope : Scope) (hk : scope.kind = .function)
    (s : Shared) (H : Hp) (C : Addr) (cl : List (Str × Addr)) (fp : List Addr) :
    Bd Z G fN fs cf k (X.blk s H scope (compEnvC scope cl C X.env) fp) N (relS scope sc) (cellB scope) W0 where
  A := b.A.blk _ _ _ _ _
  n := b.n
  s := by rw [← b.s]; rfl
  sk := hk
  fn := rfl
  hr := b.hr
  hp := PassesOwn.never
  tk := takesN0
  kn := fun f n h => (b.kn f n h).blk _ _ _ _ _
  bl := b.bl
  gl := b.gl
  xn := fun n h => ⟨(b.xn n h).ex, (b.xn n h).db⟩
/-! ### side conditions -/
def tvB : Expr → Bool
  | .Name _ _ => true
  | .Call _ _ _ _ => true
  | .Subscript _ _ _ => true
  | .Constant _ _ _ => true
  | _ => false
theorem tv_of {e : Expr} {env : Env} (h : tvB e = true) (whole : Sem Value) : isTrue e env whole = (do let v ← whole; standAt e.pos; holding [v] (truthy v)) := by
  cases e <;> first | rfl | cases h
def swB : Expr → Bool
  | .ListComp _ _ _ _ => false
  | .SetComp _ _ _ _ => false
  | .DictComp _ _ _ _ _ => false
  | _ => true
theorem sw_of {e : Expr} (h : swB e = true) (t : Option Expr) (l : Nat) (env : Env) : swapsWith e t l env = pure false := by
  cases e <;> first | rfl | cases h
def nameB : Expr → Bool
  | .Name _ _ => true
  | _ => false
theorem swt_of {e : Expr} {ts : List Expr} {k : Nat} {p : Pos} (l : Nat) (env : Env) : swapsWithSole [.Tuple ts k p] e l env = pure false := by
  show swapsWith e (some (.Tuple ts k p)) l env = pure false
  cases e <;> rfl
theorem sws_of {e o i : Expr} {p : Pos} (l : Nat) (env : Env) : swapsWithSole [.Subscript o i p] e l env = pure false := by
  show swapsWith e (some (.Subscript o i p)) l env = pure false
  cases e <;> rfl
def notTup : Expr → Bool
  | .Tuple _ _ _ => false
  | _ => true
theorem sst_of {e t : Expr} (h : notTup e = true) (env : Env) : swappedStores [t] e env = pure none := by
  unfold swappedStores
  cases t <;> cases e <;> first | rfl | cases h
theorem sss_of {e o i : Expr} {p : Pos} (env : Env) : swappedStores [.Subscript o i p] e env = pure none := rfl
/-- a tuple of constants -/
theorem ssc_of {ts vs : List Expr} {k1 k2 : Nat} {p1 p2 : Pos} (h : vs.all (foldedForSure 8) = true) (env : Env) : swappedStores [.Tuple ts k1 p1] (.Tuple vs k2 p2) env = pure none := by
  simp only [swappedStores]
  split
  · rfl
  · split
    · rfl
    · split
      · rfl
      · first | rfl | (rw [if_pos h]; rfl)
def fsB : Expr → Bool
  | .Set _ _ _ => false
  | _ => true
theorem fs_of {e : Expr} {env : Env} (h : fsB e = true) (x : Value) : foldedSetIterable e env x = pure x := by
  cases e <;> first | rfl | cases h
def kwB (es : List Expr) : Bool := es.all noStar
theorem ae_of {ts : List Expr} {env : Env} (h : ts.all noStar = true) : (assignEach ts env).length = ts.length ∧ (assignEach ts env).findIdx? (·.1) = none := by
  induction ts with
  | nil => exact ⟨rfl, rfl⟩
  | cons t r ih =>
    simp only [List.all_cons, Bool.and_eq_true] at h
    obtain ⟨h1, h2⟩ := ih h.2
    have e : assignEach (t :: r) env = (false, assign t env) :: assignEach r env := by
      cases t <;> first | rfl | cases h.1
    rw [e]
    refine ⟨by simp [h1], ?_⟩
    rw [List.findIdx?_cons]
    simp [h2]
theorem ae1_of {t : Expr} {ts : List Expr} {env : Env} (h : noStar t = true) : (assignEach (t :: ts) env).map (·.2) = assign t env :: (assignEach ts env).map (·.2) := by
  cases t <;> first | rfl | cases h
section
variable {Z : Wh} {G : Glob} {fN : Nat → Str} {fs : Nat → Option Fn} {cf : CallF} {k wf : Nat} {io : Bool} {s0 : Option (Option V)} {X : Cx} {N : List Str} {sc : Scope} {nf : Str → Bool} {W : WX} {a b c : E} {a' b' c' tg : Expr} {pos p : Pos} {es : List E} {es' : List Expr} {x y : Str}
/-! ### expressions -/
theorem Bd.l (B : Bd Z G fN fs cf k X N sc nf W) (i : Nat) (h1 : N[i]? = some x := by rfl) (h2 : visB sc x = true := by decide +kernel) : PE X (.Name x pos) (rdE Z G cf W (.loc i)) := by
  obtain ⟨q1, q2, q3⟩ := vis_of h2
  exact e_loc (by rw [B.n]; exact h1) (by rw [B.s]; exact q1) q2 q3
theorem ci {i : Int} {j : Nat} : PE X (.Constant (.int i) j pos) (rdE Z G cf W (.c (.int i))) := e_c pe_int fun _ _ => rfl
theorem cs {s : List Nat} {m : Str} {j : Nat} (h : m = sS s := by decide +kernel) : PE X (.Constant (.str m) j pos) (rdE Z G cf W (.c (.str s))) := e_c pe_str fun _ _ => by rw [h]; rfl
theorem cb {b : Bool} {j : Nat} : PE X (.Constant (.bool b) j pos) (rdE Z G cf W (.c (.bl b))) := e_c pe_bl fun _ _ => rfl
theorem cn {j : Nat} : PE X (.Constant .none j pos) (rdE Z G cf W (.c .non)) := e_c pe_non fun _ _ => rfl
theorem Bd.g (B : Bd Z G fN fs cf k X N sc nf W) (g : Nat) {d : D} (hG : G.gl g = some d := by rfl) (hx : gNs.getD g "" = x := by rfl) (h2 : glB sc x = true := by decide +kernel) : PE X (.Name x pos) (rdE Z G cf W (.gl g)) := by
  obtain ⟨q1, q2⟩ := gl_of (X := X) (by rw [B.s]; exact h2)
  obtain ⟨u, v, e1, e2, e3⟩ := B.gl g d hG
  exact e_gl q1 (by rw [← hx]; exact e1) e2 hG e3 q2
theorem Bd.fv (B : Bd Z G fN fs cf k X N sc nf W) (f : Nat) {n : Nat} (hf : (fs f).map Fn.par = some n := by rfl) (hx : fN f = x := by rfl) (h2 : glB sc x = true := by decide +kernel) : PE X (.Name x pos) (rdE Z G cf W (.fnv f)) := by
  obtain ⟨q1, q2⟩ := gl_of (X := X) (by rw [B.s]; exact h2)
  obtain ⟨q, fd, ps, h1, h3, _⟩ := (B.kn f n hf).ex
  exact e_fnv q1 (by rw [← hx]; exact h3) h1 q2
theorem Bd.op (B : Bd Z G fN fs cf k X N sc nf W) (o : BO) (ha : PE X a' (rdE Z G cf W a)) (hb : PE X b' (rdE Z G cf W b)) : PE X (.BinOp a' (boA o) b' pos) (rdE Z G cf W (.bop o a b)) := e_bop B.A ha hb
theorem Bd.cp (B : Bd Z G fN fs cf k X N sc nf W) (o : CO) (ha : PE X a' (rdE Z G cf W a)) (hb : PE X b' (rdE Z G cf W b)) (hm : behindInMarks (coA o) b' = false := by rfl) : PE X (.Compare a' [coA o] [b'] pos) (rdE Z G cf W (.cop o a b)) := e_cop B.A ha hb hm
theorem Bd.ch (B : Bd Z G fN fs cf k X N sc nf W) (o1 o2 : CO) (ha : PE X a' (rdE Z G cf W a)) (hb : PE X b' (rdE Z G cf W b)) (hc : PE X c' (rdE Z G cf W c)) (hm : lastMarks [coA o1, coA o2] [b', c'] = false := by rfl) : PE X (.Compare a' [coA o1, coA o2] [b', c'] pos) (rdE Z G cf W (.chn o1 o2 a b c)) := e_chn B.A ha hb hc hm
theorem Bd.ix (B : Bd Z G fN fs cf k X N sc nf W) (ha : PE X a' (rdE Z G cf W a)) (hb : PE X b' (rdE Z G cf W b)) (hx : plainIx b' = true := by rfl) : PE X (.Subscript a' b' pos) (rdE Z G cf W (.idx a b)) := e_idx B.A ha hb hx
theorem Bd.sl (B : Bd Z G fN fs cf k X N sc nf W) {lo hi : Option E} {lo' hi' : Option Expr} {p2 : Pos} (ha : PE X a' (rdE Z G cf W a)) (hl : PO X lo' (rdP Z G cf W lo)) (hh : PO X hi' (rdP Z G cf W hi)) : PE X (.Subscript a' (.Slice lo' hi' none p2) pos) (rdE Z G cf W (.slc a lo hi)) := e_slc B.A ha hl hh
theorem ac (ha : PE X a' (rdE Z G cf W a)) (hs : PA X es' (rdDs Z G cf W es)) (hn : noStar a' = true := by rfl) : PA X (a' :: es') (rdDs Z G cf W (a :: es)) := a_cons ha hs hn
theorem oc (ha : PE X a' (rdE Z G cf W a)) (hs : PA X es' (rdOs Z G cf W es)) (hn : noStar a' = true := by rfl) : PA X (a' :: es') (rdOs Z G cf W (a :: es)) := o_cons ha hs hn
theorem Bd.ca (B : Bd Z G fN fs cf k X N sc nf W) (f : Nat) (hs : PA X (a' :: es') (rdDs Z G cf W es)) (hf : (fs f).map Fn.par = some es.length := by rfl) (hx : fN f = x := by rfl) (h2 : glB sc x = true := by decide +kernel) (hn : noStar a' = true := by rfl) (hns : es'.all noStar = true := by rfl) :
    PE X (.Call (.Name x p) (a' :: es') [] pos) (rdE Z G cf W (.call f es)) := by
  obtain ⟨q1, q2⟩ := gl_of (X := X) (by rw [B.s]; exact h2)
  subst hx
  exact e_call (B.kn f _ hf) B.hr B.tk q1 hs hn hns rfl
theorem Bd.c0 (B : Bd Z G fN fs cf k X N sc nf W) (f : Nat) (hf : (fs f).map Fn.par = some 0 := by rfl) (hx : fN f = x := by rfl) (h2 : glB sc x = true := by decide +kernel) : PE X (.Call (.Name x p) [] [] pos) (rdE Z G cf W (.call f [])) := by
  obtain ⟨q1, q2⟩ := gl_of (X := X) (by rw [B.s]; exact h2)
  subst hx
  exact e_call0 (B.kn f _ hf) B.hr B.tk q1
theorem Bd.cl (B : Bd Z G fN fs cf k X N sc nf W) (f i : Nat) {p2 : Pos} (hs : PA X es' (rdDs Z G cf W es)) (hf : (fs f).map Fn.par = some (es.length + 1) := by rfl) (hx : fN f = x := by rfl) (h1 : N[i]? = some y := by rfl) (h2 : glB sc x = true := by decide +kernel) (h3 : visB sc y = true := by decide +kernel) (hns : es'.all noStar = true := by rfl) :
    PE X (.Call (.Name x p) (.Name y p2 :: es') [] pos) (rdE Z G cf W (.calli f i es)) := by
  obtain ⟨q1, q2⟩ := gl_of (X := X) (by rw [B.s]; exact h2)
  obtain ⟨r1, r2, r3⟩ := vis_of h3
  subst hx
  exact e_calli (B.kn f _ hf) B.hr B.tk q1 (by rw [B.n]; exact h1) (by rw [B.s]; exact r1) r2 r3 hs hns rfl
theorem Bd.bt (B : Bd Z G fN fs cf k X N sc nf W) (f : Blt) (hs : PA X (a' :: es') (rdOs Z G cf W es)) (h2 : glB sc (blN f) = true := by decide +kernel) (h3 : bNs.elem (blN f) = true := by decide +kernel) (hn : noStar a' = true := by rfl) (hns : es'.all noStar = true := by rfl) :
    PE X (.Call (.Name (blN f) p) (a' :: es') [] pos) (rdE Z G cf W (.blt f es)) := by
  obtain ⟨q1, q2⟩ := gl_of (X := X) (by rw [B.s]; exact h2)
  exact e_blt B.A q1 (B.bl _ h3) hs hn hns
theorem Bd.is1 (B : Bd Z G fN fs cf k X N sc nf W) (t : Ty) {p2 : Pos} (ha : PE X a' (rdE Z G cf W a)) (h1 : glB sc "isinstance" = true := by decide +kernel) (h2 : glB sc (tyN t) = true := by decide +kernel) (h3 : bNs.elem (tyN t) = true := by decide +kernel) (hn : noStar a' = true := by rfl) :
    PE X (.Call (.Name "isinstance" p) [a', .Name (tyN t) p2] [] pos) (rdE Z G cf W (.isi a [t])) :=
  e_isi1 B.A (gl_of (by rw [B.s]; exact h1)).1 (B.bl _ (by decide +kernel)) (gl_of (by rw [B.s]; exact h2)).1 (B.bl _ h3) ha hn
theorem Bd.is2 (B : Bd Z G fN fs cf k X N sc nf W) (t u : Ty) {k0 : Nat} {p1 p2 p3 : Pos} (ha : PE X a' (rdE Z G cf W a)) (h1 : glB sc "isinstance" = true := by decide +kernel) (h2 : glB sc (tyN t) = true := by decide +kernel) (h3 : bNs.elem (tyN t) = true := by decide +kernel) (h4 : glB sc (tyN u) = true := by decide +kernel) (h5 : bNs.elem (tyN u) = true := by decide +kernel) (hn : noStar a' = true := by rfl) :
    PE X (.Call (.Name "isinstance" p) [a', .Tuple [.Name (tyN t) p1, .Name (tyN u) p2] k0 p3] [] pos) (rdE Z G cf W (.isi a [t, u])) :=
  e_isi2 B.A (gl_of (by rw [B.s]; exact h1)).1 (B.bl _ (by decide +kernel)) (gl_of (by rw [B.s]; exact h2)).1 (B.bl _ h3) (gl_of (by rw [B.s]; exact h4)).1 (B.bl _ h5) ha hn
theorem mlo {ap : Pos} (ho : PE X a' (rdE Z G cf W a)) (hb : baseOk a' = true := by rfl) (hl : (ap.endLine == pos.line) = true := by rfl) : PE X (.Call (.Attribute a' "lower" ap) [] [] pos) (rdE Z G cf W (.met .lower a [])) := e_lower ho hb hl
theorem mup {ap : Pos} (ho : PE X a' (rdE Z G cf W a)) (hb : baseOk a' = true := by rfl) (hl : (ap.endLine == pos.line) = true := by rfl) : PE X (.Call (.Attribute a' "upper" ap) [] [] pos) (rdE Z G cf W (.met .upper a [])) := e_upper ho hb hl
theorem mjo {ap : Pos} (ho : PE X a' (rdE Z G cf W a)) (he : PE X b' (rdE Z G cf W b)) (hn : noStar b' = true := by rfl) (hb : baseOk a' = true := by rfl) (hl : (ap.endLine == pos.line) = true := by rfl) : PE X (.Call (.Attribute a' "join" ap) [b'] [] pos) (rdE Z G cf W (.met .join a [b])) := e_join ho he hn hb hl
theorem one {op : BoolOp} (h : PE X a' (rdE Z G cf W a)) : PE X (.BoolOp op [a'] pos) (rdE Z G cf W a) := pe_one h
/-! ### tests -/
theorem tv (h : PE X a' (rdE Z G cf W a)) (ht : tvB a' = true := by rfl) : PT X a' (rdT Z G cf W a) := t_val h fun w => tv_of ht w
theorem Bd.tc (B : Bd Z G fN fs cf k X N sc nf W) (o : CO) (ha : PE X a' (rdE Z G cf W a)) (hb : PE X b' (rdE Z G cf W b)) (hm : behindInMarks (coA o) b' = false := by rfl) : PT X (.Compare a' [coA o] [b'] pos) (rdT Z G cf W (.cop o a b)) := t_cop B.A ha hb hm
theorem Bd.tch (B : Bd Z G fN fs cf k X N sc nf W) (o1 o2 : CO) (ha : PE X a' (rdE Z G cf W a)) (hb : PE X b' (rdE Z G cf W b)) (hc : PE X c' (rdE Z G cf W c)) (hm : lastMarks [coA o1, coA o2] [b', c'] = false := by rfl) : PT X (.Compare a' [coA o1, coA o2] [b', c'] pos) (rdT Z G cf W (.chn o1 o2 a b c)) := t_chn B.A ha hb hc hm
/-! ### statements -/
def stB (sc : Scope) (nf : Str → Bool) (x : Str) : Bool := match sc.names.lookup x with
  | some .local => true
  | some .cell => nf x
  | _ => false
theorem Bd.stx (B : Bd Z G fN fs cf k X N sc nf W) (h : stB sc nf x = true) : Loc sc x ∧ (X.fn x = true ∨ sc.names.lookup x = some .local) := by
  unfold stB at h
  split at h
  · exact ⟨.inl (by assumption), .inr (by assumption)⟩
  · exact ⟨.inr (by assumption), .inl (by rw [B.fn]; exact h)⟩
  · cases h
theorem Bd.st (B : Bd Z G fN fs cf k X N sc nf W) (i : Nat) (he : PE X a' (rdE Z G cf W a)) (h1 : N[i]? = some x := by rfl) (h2 : stB sc nf x = true := by decide +kernel) (hs : swB a' = true := by rfl) : PS X (.Assign [.Name x p] a' pos) (rdS Z io s0 W (exs G cf wf io (.set i a))) :=
  st_set (by exact B.A.nd) (by rw [B.n]; exact h1) (by rw [B.s]; exact (B.stx h2).1) he (sw_of hs _ _ _) (by rw [B.s]; exact (B.stx h2).2)
theorem Bd.xs (B : Bd Z G fN fs cf k X N sc nf W) (he : PE X a' (rdE Z G cf W a)) (hs : swB a' = true := by rfl) : PS X (.Expr a' pos) (rdS Z io s0 W (exs G cf wf io (.ex a))) := st_ex he (sw_of hs _ _ _)
theorem Bd.gn (B : Bd Z G fN fs cf k X N sc nf W) (i : Nat) {lo : Nat} (h1 : N[i]? = some x := by rfl) (h2 : stB sc nf x = true := by decide +kernel) : PG X (.Name x pos) (rdG Z lo (.n i)) := g_name B.A.nd (by rw [B.n]; exact h1) (by rw [B.s]; exact (B.stx h2).1) (by rw [B.s]; exact (B.stx h2).2)
theorem gc {t : T} {ts : List T} {lo : Nat} (h1 : PG X a' (rdG Z lo t)) (h2 : PGs X es' (rdGs Z lo ts)) (hn : noStar a' = true := by rfl) : PGs X (a' :: es') (rdGs Z lo (t :: ts)) := g_cons h1 h2 (ae1_of hn)
theorem Bd.gt (B : Bd Z G fN fs cf k X N sc nf W) {kk : Nat} {ts : List T} {lo : Nat} (h : PGs X es' (rdGs Z lo ts)) (hn : es'.all noStar = true := by rfl) (hl : es'.length = ts.length := by rfl) : PG X (.Tuple es' kk pos) (rdG Z lo (.t ts)) := g_tup B.A.cm B.A.k h ((ae_of hn).1.trans hl) (ae_of hn).2
theorem Bd.up (B : Bd Z G fN fs cf k X N sc nf W) {ts : T} {ts' : List Expr} {k1 : Nat} {p1 : Pos} (hg : PG X (.Tuple ts' k1 p1) (rdG Z io.toNat ts)) (he : PE X a' (rdE Z G cf W a)) (hw : notTup a' = true := by rfl) : PS X (.Assign [.Tuple ts' k1 p1] a' pos) (rdS Z io s0 W (exs G cf wf io (.unp ts a))) :=
  st_unp he hg (swt_of _ _) (sst_of hw _) rfl
theorem Bd.upc (B : Bd Z G fN fs cf k X N sc nf W) {ts : T} {ts' vs : List Expr} {k1 k2 : Nat} {p1 p2 : Pos} (hg : PG X (.Tuple ts' k1 p1) (rdG Z io.toNat ts)) (he : PE X (.Tuple vs k2 p2) (rdE Z G cf W a)) (hw : vs.all (foldedForSure 8) = true := by rfl) : PS X (.Assign [.Tuple ts' k1 p1] (.Tuple vs k2 p2) pos) (rdS Z io s0 W (exs G cf wf io (.unp ts a))) :=
  st_unp he hg (swt_of _ _) (ssc_of hw _) rfl
theorem Bd.si (B : Bd Z G fN fs cf k X N sc nf W) (i : Nat) {sp : Pos} (he : PE X a' (rdE Z G cf W a)) (hk : PE X b' (rdE Z G cf W b)) (h1 : N[i]? = some x := by rfl) (h2 : visB sc x = true := by decide +kernel) (hx : plainIx b' = true := by rfl) : PS X (.Assign [.Subscript (.Name x p) b' sp] a' pos) (rdS Z io s0 W (exs G cf wf io (.seti i b a))) := by
  obtain ⟨q1, q2, q3⟩ := vis_of h2
  exact st_seti B.A (by rw [B.n]; exact h1) (by rw [B.s]; exact q1) q2 q3 he hk (sws_of _ _) (sss_of _) rfl (fun v => by cases b' <;> first | rfl | cases hx)
theorem Bd.ap (B : Bd Z G fN fs cf k X N sc nf W) (i : Nat) {ap cp : Pos} (he : PE X a' (rdE Z G cf W a)) (h1 : N[i]? = some x := by rfl) (h2 : visB sc x = true := by decide +kernel) (hn : noStar a' = true := by rfl) (hl : (ap.endLine == cp.line) = true := by rfl) : PS X (.Expr (.Call (.Attribute (.Name x p) "append" ap) [a'] [] cp) pos) (rdS Z io s0 W (exs G cf wf io (.app i a))) := by
  obtain ⟨q1, q2, q3⟩ := vis_of h2
  refine st_app (by rw [B.n]; exact h1) (by rw [B.s]; exact q1) q2 q3 he hn hl rfl ?_
  rw [star_of (noStar_ne hn)]; rfl
theorem Bd.xt (B : Bd Z G fN fs cf k X N sc nf W) (i : Nat) {ap cp : Pos} (he : PE X a' (rdE Z G cf W a)) (h1 : N[i]? = some x := by rfl) (h2 : visB sc x = true := by decide +kernel) (hn : noStar a' = true := by rfl) (hl : (ap.endLine == cp.line) = true := by rfl) : PS X (.Expr (.Call (.Attribute (.Name x p) "extend" ap) [a'] [] cp) pos) (rdS Z io s0 W (exs G cf wf io (.ext i a))) := by
  obtain ⟨q1, q2, q3⟩ := vis_of h2
  refine st_ext (by rw [B.n]; exact h1) (by rw [B.s]; exact q1) q2 q3 he hn hl rfl ?_
  rw [star_of (noStar_ne hn)]; rfl
theorem Bd.fo (B : Bd Z G fN fs cf k X N sc nf W) {it : I} {tgx : T} {it' : Expr} {ss : List S} {ss' : List Stmt} (hi : PI X tg it' (rdI Z G cf W it)) (hg : PG X tg (rdG Z io.toNat tgx)) (hb : PSs X ss' (rdS Z io s0 W (exss G cf wf io ss))) (hs : fsB it' = true := by rfl) : PS X (.For tg it' ss' [] pos) (rdS Z io s0 W (exs G cf wf io (.for_ tgx it ss))) :=
  st_for B.hp B.A.cm hi hg hb (fs_of hs)
theorem Bd.wh (B : Bd Z G fN fs cf k X N sc nf W) {ss : List S} {ss' : List Stmt} (hc : PT X c' (rdT Z G cf W c)) (hb : PSs X ss' (rdS Z io s0 W (exss G cf wf io ss))) : PS X (.While c' ss' [] pos) (rdS Z io s0 W (exs G cf wf io (.while_ c ss))) := st_while B.hp hc hb
theorem Bd.ra (B : Bd Z G fN fs cf k X N sc nf W) (n : Nat) {m : Str} {j : Nat} {p2 cp : Pos} (hn : G.ex n = true := by rfl) (hx : xNs.getD n "" = x := by rfl) (h2 : glB sc x = true := by decide +kernel) : PS X (.Raise (some (.Call (.Name x p) [.Constant (.str m) j p2] [] cp)) none pos) (rdS Z io s0 W (exs G cf wf io (.raise n []))) := by
  obtain ⟨q1, q2⟩ := gl_of (X := X) (by rw [B.s]; exact h2)
  subst hx
  exact st_raise B.A B.tk (B.xn n hn) q1
/-! ### sources -/
theorem Bd.sq (B : Bd Z G fN fs cf k X N sc nf W) (he : PE X a' (rdE Z G cf W a)) : PI X tg a' (rdI Z G cf W (.seq a)) := i_seq B.A he
theorem Bd.r1 (B : Bd Z G fN fs cf k X N sc nf W) (hs : PA X [a'] (rdDs Z G cf W [a])) (h1 : glB sc "range" = true := by decide +kernel) (hn : noStar a' = true := by rfl) : PI X tg (.Call (.Name "range" p) [a'] [] pos) (rdI Z G cf W (.rng [a])) :=
  i_rng1 (gl_of (by rw [B.s]; exact h1)).1 (B.bl _ (by decide +kernel)) hs hn
theorem Bd.r2 (B : Bd Z G fN fs cf k X N sc nf W) (hs : PA X [a', b'] (rdDs Z G cf W [a, b])) (h1 : glB sc "range" = true := by decide +kernel) (hn : noStar a' = true := by rfl) (hn2 : noStar b' = true := by rfl) : PI X tg (.Call (.Name "range" p) [a', b'] [] pos) (rdI Z G cf W (.rng [a, b])) :=
  i_rng2 (gl_of (by rw [B.s]; exact h1)).1 (B.bl _ (by decide +kernel)) hs hn hn2
theorem Bd.r3 (B : Bd Z G fN fs cf k X N sc nf W) (hs : PA X [a', b', c'] (rdDs Z G cf W [a, b, c])) (h1 : glB sc "range" = true := by decide +kernel) (hn : noStar a' = true := by rfl) (hn2 : noStar b' = true := by rfl) (hn3 : noStar c' = true := by rfl) : PI X tg (.Call (.Name "range" p) [a', b', c'] [] pos) (rdI Z G cf W (.rng [a, b, c])) :=
  i_rng3 (gl_of (by rw [B.s]; exact h1)).1 (B.bl _ (by decide +kernel)) hs hn hn2 hn3
/-! ### comprehensions -/
def capB (scope : Scope) : Bool := match scope.kind with | .function => true | _ => false
theorem cap_of {scope : Scope} (h : capB scope = true) : scope.kind = .function := by
  unfold capB at h
  split at h
  · assumption
  · cases h
theorem Bd.lc (B : Bd Z G fN fs cf k X N sc nf W) {elt' it' : Expr} {ifs' : List Expr} {scope : Scope} {el : E} {tgx : T} {it : I} {cs : List E} {own : List Nat} (ow : List (Str × Nat)) (hi : PI X tg it' (rdI Z G cf W it))
    (hin : ∀ {Y : Cx}, Bd Z G fN fs cf k Y N (relS scope sc) (cellB scope) W0 → PG Y tg (rdG Z 0 tgx) ∧ PTs Y ifs' (rdC Z G cf W0 cs) ∧ PE Y elt' (rdE Z G cf W0 el))
    (ok : blkC N sc scope ow = true := by decide +kernel) (hc : capB scope = true := by rfl) (ho : ow.map (·.2) = own := by rfl) (hns : tgx.ns.all own.contains = true := by rfl) (hs : fsB it' = true := by rfl) :
    PE X (.ListComp elt' [⟨tg, it', ifs', 0⟩] scope pos) (rdE Z G cf W (.lc el tgx it cs own)) :=
  e_lc B.A hi (by rw [B.n, B.s]; exact ok) ho hns (fun s H C cl fp => (hin (B.blk scope (cap_of hc) s H C cl fp)).1) (fun s H C cl fp => (hin (B.blk scope (cap_of hc) s H C cl fp)).2.1) (fun s H C cl fp => (hin (B.blk scope (cap_of hc) s H C cl fp)).2.2) (fs_of hs)
def swlB (sc scope : Scope) (y : Str) : Bool := (match sc.names.lookup y with | some .local => true | _ => false) && !(scope.names.any fun (n, k) => n == y && (k == .local || k == .cell))
theorem Bd.slc (B : Bd Z G fN fs cf k X N sc nf W) (i : Nat) {py lpos : Pos} {elt' it' : Expr} {ifs' : List Expr} {scope : Scope} {el : E} {tgx : T} {it : I} {cs : List E} {own : List Nat} (ow : List (Str × Nat)) (hi : PI X tg it' (rdI Z G cf W it))
    (hin : ∀ {Y : Cx}, Bd Z G fN fs cf k Y N (relS scope sc) (cellB scope) W0 → PG Y tg (rdG Z 0 tgx) ∧ PTs Y ifs' (rdC Z G cf W0 cs) ∧ PE Y elt' (rdE Z G cf W0 el))
    (hy : N[i]? = some y := by rfl) (hsw : swlB sc scope y = true := by decide +kernel) (hln : (py.line == lpos.line) = true := by rfl)
    (ok : blkC N sc scope ow = true := by decide +kernel) (hc : capB scope = true := by rfl) (ho : ow.map (·.2) = own := by rfl) (hns : tgx.ns.all own.contains = true := by rfl) (hs : fsB it' = true := by rfl) :
    PS X (.Assign [.Name y py] (.ListComp elt' [⟨tg, it', ifs', 0⟩] scope lpos) pos) (rdS Z io s0 W (exs G cf wf io (.set i (.lc el tgx it cs own)))) := by
  unfold swlB at hsw
  rw [Bool.and_eq_true, Bool.not_eq_true'] at hsw
  have hl : sc.names.lookup y = some .local := by
    have h := hsw.1
    split at h
    · assumption
    · cases h
  exact st_lc B.A (by rw [B.n]; exact hy) (by rw [B.s]; exact hl) (sw_true (by rw [B.s]; exact B.sk) (by rw [B.s]; exact hl) hln hsw.2) hi (by rw [B.n, B.s]; exact ok) ho hns (fun s H C cl fp => (hin (B.blk scope (cap_of hc) s H C cl fp)).1) (fun s H C cl fp => (hin (B.blk scope (cap_of hc) s H C cl fp)).2.1) (fun s H C cl fp => (hin (B.blk scope (cap_of hc) s H C cl fp)).2.2) (fs_of hs)
end
end TY
/-! TyPar: a, b = e, f. -/
namespace TY
open PySem PySem.Spec PyProof.Rows L2
/-- a value or a thing by itself -/
def RpVT (Z : Wh) (F : AP) (H : Hp) (v : V) (cs : List Addr) : Op → Prop
  | .val d => cs = [] ∧ Rp Z H F v d
  | .tmp m => Own Z H F v cs m
  | _ => False
def RpP (Z : Wh) (F : AP) (H : Hp) : List V → List Addr → List (Nat × Op) → Prop
  | [], cs, [] => cs = []
  | v :: vs, cs, p :: l => ∃ c1 c2, cs = c1 ++ c2 ∧ RpVT Z F H v c1 p.2 ∧ RpP Z F H vs c2 l ∧ ∀ b ∈ c1, b ∉ c2
  | _, _, _ => False
def rPar (Z : Wh) : RRel (List V) (List (Nat × Op)) := fun F O _ H vs cs l => RpP Z F H vs cs l ∧ ∀ b ∈ cs, ∀ i, b ∉ O i
section
variable (Z : Wh) (G : Glob) (cf : CallF) (W : WX)
def rdPar (l : List (Nat × E)) : TA := fun σ H Q => ∃ F O τ, Rl Z F O τ σ H ∧ Post Z (rPar Z) W σ F O H (evpar G cf l τ) Q
end
theorem Ext.app {F F1 F2 : AP} {O O1 O2 : Ow} {H H1 H2 : Hp} {c1 c2 : List Addr} (a : Ext F O H F1 O1 H1 c1) (b : Ext F1 O1 H1 F2 O2 H2 c2) : Ext F O H F2 O2 H2 (c1 ++ c2) :=
  ⟨a.st.trans b.st, fun x o h1 h2 h3 h4 => let ⟨g1, g2, g3, g4⟩ := a.rest x o h1 h2 h3; let ⟨k1, k2, k3, k4⟩ := b.rest x o g1 g2 g3; ⟨k1, k2, k3, fun z => (List.mem_append.mp z).elim g4 k4⟩⟩
theorem RpVT.trk {Z : Wh} {F : AP} {H : Hp} {v : V} {cs : List Addr} {x : Op} (h : RpVT Z F H v cs x) : ∀ b ∈ cs, Trk H b ∧ ¬ F b := by
  cases x with
  | val d => intro b hb; rw [h.1] at hb; simp at hb
  | tmp m => exact fun b hb => ⟨(show Own Z H F v cs m from h).rp.trk b hb, (show Own Z H F v cs m from h).nf b hb⟩
  | slot i => exact h.elim
  | sub i j => exact h.elim
theorem RpVT.carry {Z : Wh} {F F' : AP} {O O' : Ow} {H H' : Hp} {v : V} {cs c2 : List Addr} {x : Op} (h : RpVT Z F H v cs x) (dj : ∀ b ∈ cs, ∀ i, b ∉ O i) (e : Ext F O H F' O' H' c2) : RpVT Z F' H' v cs x ∧ (∀ b ∈ cs, ∀ i, b ∉ O' i) ∧ ∀ b ∈ cs, b ∉ c2 := by
  have k : ∀ b ∈ cs, H' b = H b ∧ ¬ F' b ∧ (∀ i, b ∉ O' i) ∧ b ∉ c2 := fun b hb => by
    obtain ⟨⟨o, q, hn⟩, nf⟩ := h.trk b hb
    rw [q]
    exact e.rest b o q nf (dj b hb)
  refine ⟨?_, fun b hb => (k b hb).2.2.1, fun b hb => (k b hb).2.2.2⟩
  cases x with
  | val d => exact ⟨h.1, h.2.stay e.st⟩
  | tmp m =>
    have w : Own Z H F v cs m := h
    exact ⟨w.rp.stay e.st fun b hb => (k b hb).1, w.nd, fun b hb => (k b hb).2.1⟩
  | slot i => exact h.elim
  | sub i j => exact h.elim
def lclB (sc : Scope) (x : Str) : Bool := match sc.names.lookup x with
  | some .local => true
  | _ => false
theorem lcl_of {sc : Scope} {x : Str} (h : lclB sc x = true) : sc.names.lookup x = some .local := by
  unfold lclB at h
  split at h
  · assumption
  · cases h
section
variable {Z : Wh} {G : Glob} {fN : Nat → Str} {fs : Nat → Option Fn} {cf : CallF} {k wf : Nat} {io : Bool} {s0 : Option (Option V)} {X : Cx} {N : List Str} {sc : Scope} {nf : Str → Bool} {W : WX} {a b c : E} {a' b' c' tg : Expr} {pos p : Pos} {es : List E} {es' : List Expr} {x y z : Str}
theorem pp_nil : PA X [] (rdPar Z G cf W []) := pa_nil.imp fun σ H Q ⟨F, O, τ, R, h⟩ => by
  simp only [evpar] at h
  exact h [] [] F O H .refl R ⟨rfl, fun _ hb => absurd hb (by simp)⟩
theorem pc {i : Nat} {l : List (Nat × E)} (ha : PE X a' (rdE Z G cf W a)) (hs : PA X es' (rdPar Z G cf W l)) (hn : noStar a' = true := by rfl) : PA X (a' :: es') (rdPar Z G cf W ((i, a) :: l)) := by
  refine (pa_cons ha hs (star_of (noStar_ne hn) _ _)).imp fun σ H Q ⟨F, O, τ, R, h⟩ => ?_
  simp only [evpar] at h
  refine ⟨F, O, τ, R, (Post.bind h).mono fun v H1 ⟨F1, O1, τ1, x1, c1, E1, R1, r1, _, h1⟩ => ?_⟩
  have key : ∃ F2 O2 τ2 x2 c2, Ext F O H F2 O2 H1 c2 ∧ Rl Z F2 O2 τ2 σ H1 ∧ RpVT Z F2 H1 v c2 x2 ∧ (∀ b ∈ c2, ∀ i, b ∉ O2 i) ∧ Post Z (rPar Z) W σ F O H ((evpar G cf l τ2).bind fun l t => .ok ((i, x2) :: l) t) Q := by
    have fr : Post Z (rPar Z) W σ F O H (((TY.frz x1 τ1).bind fun d t => (.ok (.val d) t : Out Op)).bind fun x t => (evpar G cf l t).bind fun l t => .ok ((i, x) :: l) t) Q → ∃ F2 O2 τ2 x2 c2, Ext F O H F2 O2 H1 c2 ∧ Rl Z F2 O2 τ2 σ H1 ∧ RpVT Z F2 H1 v c2 x2 ∧ (∀ b ∈ c2, ∀ i, b ∉ O2 i) ∧ Post Z (rPar Z) W σ F O H ((evpar G cf l τ2).bind fun l t => .ok ((i, x2) :: l) t) Q := fun h1 => by
      have e : ((TY.frz x1 τ1).bind fun d t => (.ok (.val d) t : Out Op)).bind (fun x t => (evpar G cf l t).bind fun l t => .ok ((i, x) :: l) t) = (TY.frz x1 τ1).bind fun d t => (evpar G cf l t).bind fun l t => .ok ((i, .val d) :: l) t := by
        cases TY.frz x1 τ1 <;> rfl
      rw [e] at h1
      cases q : TY.frz x1 τ1 with
      | no => rw [q] at h1; exact h1.elim
      | ex x t => exact absurd q (by
          unfold TY.frz
          intro z
          split at z <;> first | cases z | (split at z <;> first | cases z | (split at z <;> cases z)))
      | ok d t =>
        rw [q] at h1
        obtain ⟨F2, O2, E2, R2, p2⟩ := frz_ok E1 R1 r1 q
        exact ⟨F2, O2, t, .val d, [], E2, R2, ⟨rfl, p2⟩, fun _ hb => absurd hb (by simp), h1⟩
    cases x1 with
    | tmp m => exact ⟨F1, O1, τ1, .tmp m, c1, E1, R1, r1.1, r1.2, h1⟩
    | val d => exact fr h1
    | slot i => exact fr h1
    | sub i j => exact fr h1
  obtain ⟨F2, O2, τ2, x2, c2, E2, R2, r2, dj, h2⟩ := key
  refine ⟨F2, O2, τ2, R2, ?_⟩
  cases q : evpar G cf l τ2 with
  | no => rw [q] at h2; exact h2.elim
  | ex x t => rw [q] at h2; exact fun cls d F' O' H' e r p => h2 cls d F' O' H' (E2.trans e) r p
  | ok l3 t =>
    rw [q] at h2
    exact fun vs c3 F3 O3 H3 E3 R3 r3 => by
      obtain ⟨q1, q2, q3⟩ := r2.carry dj E3
      exact h2 (v :: vs) (c2 ++ c3) F3 O3 H3 (E2.app E3) R3 ⟨⟨c2, c3, rfl, q1, r3.1, q3⟩, fun b hb i => (List.mem_append.mp hb).elim (fun z => q2 b z i) fun z => r3.2 b z i⟩
/-- one of them is stored -/
theorem setO_vt {E : Ends} {i : Nat} {σ : L2.St} {F0 F : AP} {O0 O : Ow} {H0 H : Hp} {τ : Tau} {x : Op} {v : V} {cs c2 : List Addr} {f : Unit → Tau → Out Fl} (X1 : Ext F0 O0 H0 F O H (cs ++ c2)) (R : Rl Z F O τ σ H) (r : RpVT Z F H v cs x) (dj : ∀ b ∈ cs, ∀ i, b ∉ O i)
    (h : PostS Z io s0 W F0 O0 H0 ((setO io.toNat i x τ).bind f) E) : ∃ O' τ', Rl Z F O' τ' (σ.set i (some v)) H ∧ Ext F0 O0 H0 F O' H c2 ∧ (io = true → i ≠ 0) ∧ (∀ b, (∀ j, b ∉ O j) → b ∉ cs → ∀ j, b ∉ O' j) ∧ PostS Z io s0 W F0 O0 H0 (f () τ') E := by
  unfold setO at h
  split at h
  · rename_i hi
    have i0 : io = true → i ≠ 0 := fun e => by
      rw [e] at hi
      have := hi.1; intro z; rw [z] at this; exact absurd this (by decide)
    have X2 : Ext F0 O0 H0 F O H cs := ⟨X1.st, fun b o h1 h2 h3 h4 => let ⟨g1, g2, g3, g4⟩ := X1.rest b o h1 h2 h3; ⟨g1, g2, g3, fun z => g4 (List.mem_append_left _ z)⟩⟩
    cases x with
    | tmp m =>
      obtain ⟨O', R', E', hO, hOi⟩ := Rl.seto X2 R r dj hi.2
      refine ⟨O', _, R', ⟨X1.st, fun b o h1 h2 h3 h4 => ?_⟩, i0, fun b hb hc j hj => ?_, h⟩
      · obtain ⟨g1, g2, g3, g4⟩ := X1.rest b o h1 h2 h3
        refine ⟨g1, g2, fun j z => ?_, fun z => g4 (List.mem_append_right _ z)⟩
        by_cases e : j = i
        · rw [e, hOi] at z; exact g4 (List.mem_append_left _ z)
        · rw [hO j e] at z; exact g3 j z
      · by_cases e : j = i
        · rw [e, hOi] at hj; exact hc hj
        · rw [hO j e] at hj; exact hb j hj
    | val d =>
      obtain ⟨R2, E2⟩ := R.setv (i := i) r.2
      refine ⟨clr O i, _, R2, ⟨X1.st, fun b o h1 h2 h3 h4 => ?_⟩, i0, fun b hb hc j hj => hb j (clr_sub hj).1, h⟩
      obtain ⟨g1, g2, g3, g4⟩ := X1.rest b o h1 h2 h3
      exact ⟨g1, g2, fun j z => g3 j (clr_sub z).1, fun z => g4 (List.mem_append_right _ z)⟩
    | slot i => exact r.elim
    | sub i j => exact r.elim
  · exact h.elim
theorem par_rd2 {i j : Nat} {E : Ends} {σ : L2.St} {H : Hp} (h : rdS Z io s0 W (exs G cf wf io (.par [(i, a), (j, b)])) E σ H) : tPar i j (rdPar Z G cf W [(i, a), (j, b)]) E σ H := by
  obtain ⟨h0, F, O, τ, R, h⟩ := h
  simp only [exs] at h
  have hl : ∀ {l : List (Nat × Op)} {t : Tau}, evpar G cf [(i, a), (j, b)] τ = .ok l t → ∃ x y, l = [(i, x), (j, y)] := fun {l t} q => by
    simp only [evpar] at q
    cases q1 : ev G cf a τ with
    | no => rw [q1] at q; cases q
    | ex _ _ => rw [q1] at q; cases q
    | ok x1 t1 =>
      rw [q1] at q
      simp only [Out.bind] at q
      split at q
      · rename_i x2 t2 _
        cases q3 : ev G cf b t2 with
        | no => rw [q3] at q; cases q
        | ex _ _ => rw [q3] at q; cases q
        | ok x3 t3 =>
          rw [q3] at q
          simp only at q
          split at q
          · rename_i l4 t4 q4
            split at q4
            · cases q4; cases q; exact ⟨_, _, rfl⟩
            · cases q4
            · cases q4
          · cases q
          · cases q
      · cases q
      · cases q
  refine ⟨F, O, τ, R, (PostS.bind h).mono fun vs H1 ⟨F1, O1, τ1, l, c1, E1, R1, r1, w, h1⟩ => ?_⟩
  obtain ⟨x, y, rfl⟩ := hl w
  obtain ⟨r1, dj⟩ := r1
  cases vs with
  | nil => exact r1.elim
  | cons v vs =>
    cases vs with
    | nil => obtain ⟨_, _, _, _, h, _⟩ := r1; exact h.elim
    | cons u vs =>
      cases vs with
      | cons _ _ => obtain ⟨_, _, _, _, ⟨_, _, _, _, h, _⟩, _⟩ := r1; exact h.elim
      | nil =>
        obtain ⟨k1, k2, rfl, rx, ⟨k3, k4, rfl, ry, hk4, d2⟩, d1⟩ := r1
        have hk4 : k4 = [] := hk4
        subst hk4
        rw [List.append_nil] at *
        refine ⟨v, u, rfl, ?_⟩
        simp only [setOs] at h1
        have e1 : ((setO io.toNat i x τ1).bind fun _ t => (setO io.toNat j y t).bind fun _ t => (M.pure () t : Out Unit)).bind (fun _ t => (.ok Fl.nx t : Out Fl)) = (setO io.toNat i x τ1).bind fun _ t => (setO io.toNat j y t).bind fun _ t => .ok .nx t := by
          cases setO io.toNat i x τ1 with
          | no => rfl
          | ex _ _ => rfl
          | ok a t => show ((setO io.toNat j y t).bind _).bind _ = (setO io.toNat j y t).bind _; cases setO io.toNat j y t <;> rfl
        rw [e1] at h1
        obtain ⟨O2, τ2, R2, E2, i0, dj2, h2⟩ := setO_vt E1 R1 rx (fun b hb => dj b (List.mem_append_left _ hb)) h1
        obtain ⟨O3, τ3, R3, E3, j0, _, h3⟩ := setO_vt (c2 := []) (by rw [List.append_nil]; exact E2) R2 ry (fun b hb => dj2 b (dj b (List.mem_append_right _ hb)) fun z => d1 b z hb) h2
        refine h3 _ F1 O3 H1 E3 R3 fun e => ?_
        rw [List.getElem?_set_ne (j0 e), List.getElem?_set_ne (i0 e)]
        exact h0 e
theorem sw2_of {env : Env} {k1 k2 : Nat} {p1 p2 px py : Pos} (hb : env.blockKind = .function) (hx : env.kindOf x = some .local) (hy : env.kindOf y = some .local) (hl : (py.line == px.line) = true) (hd : [x, y].eraseDups.length = 2) (ha : noStar a' = true) (hb' : noStar b' = true)
    (hf : [a', b'].all (foldedForSure 8) = false) (hc : [a', b'].all (constantsAlone 8) = false) : swappedStores [.Tuple [.Name x px, .Name y py] k1 p1] (.Tuple [a', b'] k2 p2) env = pure (some [x, y]) := by
  have hl : py.line = px.line := by simpa using hl
  have sa : ∀ e : Expr, noStar e = true → (match e with | .Starred _ _ => true | _ => false) = false := fun e h => by cases e <;> first | rfl | cases h
  simp only [swappedStores]
  rw [if_neg (by simp [hb])]
  rw [if_neg (by simp only [List.any_cons, List.any_nil, Bool.or_false, Bool.or_eq_true, not_or, Bool.not_eq_true]; exact ⟨sa _ ha, sa _ hb'⟩)]
  simp [hx, hy, hl, Expr.pos, hf, hc]
  exact fun h => absurd hd h
theorem Bd.pr2 (B : Bd Z G fN fs cf k X N sc nf W) (i j : Nat) {px py pt pt2 : Pos} {kt k2 : Nat} (ha : PA X [a', b'] (rdPar Z G cf W [(i, a), (j, b)])) (h1 : N[i]? = some x := by rfl) (h2 : N[j]? = some y := by rfl) (hx : lclB sc x = true := by decide +kernel) (hy : lclB sc y = true := by decide +kernel)
    (hl : (py.line == px.line) = true := by rfl) (hd : [x, y].eraseDups.length = 2 := by decide +kernel) (na : noStar a' = true := by rfl) (nb : noStar b' = true := by rfl) (hf : [a', b'].all (foldedForSure 8) = false := by rfl) (hc : [a', b'].all (constantsAlone 8) = false := by rfl) (hij : (i == j) = false := by rfl) :
    PS X (.Assign [.Tuple [.Name x px, .Name y py] kt pt] (.Tuple [a', b'] k2 pt2) pos) (rdS Z io s0 W (exs G cf wf io (.par [(i, a), (j, b)]))) := by
  have lx := lcl_of hx
  have ly := lcl_of hy
  have bk : X.env.blockKind = .function := by unfold Env.blockKind; rw [B.s, B.sk]; rfl
  refine (ps_par B.A.cm B.A.nd (by rw [B.n]; exact h1) (by rw [B.n]; exact h2) (by simpa using hij) (by rw [B.s]; exact lx) (by rw [B.s]; exact ly) ha
    (sw2_of bk (by show X.env.scope.names.lookup x = _; rw [B.s]; exact lx) (by show X.env.scope.names.lookup y = _; rw [B.s]; exact ly) hl hd na nb hf hc) (swt_of _ _)).imp fun E σ H h => par_rd2 h
/-! three -/
theorem sw3_of {env : Env} {k1 k2 : Nat} {p1 p2 px py pz : Pos} (hb : env.blockKind = .function) (hx : env.kindOf x = some .local) (hy : env.kindOf y = some .local) (hz : env.kindOf z = some .local) (hl : (py.line == px.line) = true) (hl2 : (pz.line == px.line) = true) (hd : [x, y, z].eraseDups.length = 3) (ha : noStar a' = true) (hb' : noStar b' = true) (hc' : noStar c' = true)
    (hf : [a', b', c'].all (foldedForSure 8) = false) (hc : [a', b', c'].all (constantsAlone 8) = false) : swappedStores [.Tuple [.Name x px, .Name y py, .Name z pz] k1 p1] (.Tuple [a', b', c'] k2 p2) env = pure (some [x, y, z]) := by
  have hl : py.line = px.line := by simpa using hl
  have hl2 : pz.line = px.line := by simpa using hl2
  have sa : ∀ e : Expr, noStar e = true → (match e with | .Starred _ _ => true | _ => false) = false := fun e h => by cases e <;> first | rfl | cases h
  simp only [swappedStores]
  rw [if_neg (by simp [hb])]
  rw [if_neg (by simp only [List.any_cons, List.any_nil, Bool.or_false, Bool.or_eq_true, not_or, Bool.not_eq_true]; exact ⟨sa _ ha, sa _ hb', sa _ hc'⟩)]
  simp [hx, hy, hz, hl, hl2, Expr.pos, hf, hc]
  exact fun h => absurd hd h
/-- the names that come out are those that went in -/
theorem evpar_ix : ∀ {ies : List (Nat × E)} {τ t : Tau} {l : List (Nat × Op)}, evpar G cf ies τ = .ok l t → l.map (·.1) = ies.map (·.1)
  | [], τ, t, l, q => by simp only [evpar] at q; cases q; rfl
  | (i, e) :: r, τ, t, l, q => by
    simp only [evpar] at q
    cases q1 : ev G cf e τ with
    | no => rw [q1] at q; cases q
    | ex _ _ => rw [q1] at q; cases q
    | ok x1 t1 =>
      rw [q1] at q
      simp only [Out.bind] at q
      split at q
      · rename_i x2 t2 _
        cases q3 : evpar G cf r t2 with
        | no => rw [q3] at q; cases q
        | ex _ _ => rw [q3] at q; cases q
        | ok l3 t3 =>
          rw [q3] at q
          cases q
          rw [List.map_cons, List.map_cons, evpar_ix q3]
      · cases q
      · cases q
theorem par_rd3 {i j m : Nat} {E : Ends} {σ : L2.St} {H : Hp} (h : rdS Z io s0 W (exs G cf wf io (.par [(i, a), (j, b), (m, c)])) E σ H) : tPar3 i j m (rdPar Z G cf W [(i, a), (j, b), (m, c)]) E σ H := by
  obtain ⟨h0, F, O, τ, R, h⟩ := h
  simp only [exs] at h
  refine ⟨F, O, τ, R, (PostS.bind h).mono fun vs H1 ⟨F1, O1, τ1, l, c1, E1, R1, r1, w, h1⟩ => ?_⟩
  have hl := evpar_ix w
  match l, hl with
  | [(i1, x), (j1, y), (m1, z)], hl =>
    simp only [List.map_cons, List.map_nil, List.cons.injEq, and_true] at hl
    obtain ⟨rfl, rfl, rfl⟩ := hl
    obtain ⟨r1, dj⟩ := r1
    match vs, r1 with
    | [v, u, t], ⟨k1, k2, e1, rx, ⟨k3, k4, e2, ry, ⟨k5, k6, e3, rz, e4, _⟩, d2⟩, d1⟩ =>
      have e4 : k6 = [] := e4
      subst e4
      subst e3
      subst e2
      subst e1
      refine ⟨v, u, t, rfl, ?_⟩
      simp only [setOs] at h1
      have e1 : ((setO io.toNat i1 x τ1).bind fun _ t => (setO io.toNat j1 y t).bind fun _ t => (setO io.toNat m1 z t).bind fun _ t => (M.pure () t : Out Unit)).bind (fun _ t => (.ok Fl.nx t : Out Fl)) = (setO io.toNat i1 x τ1).bind fun _ t => (setO io.toNat j1 y t).bind fun _ t => (setO io.toNat m1 z t).bind fun _ t => .ok .nx t := by
        cases setO io.toNat i1 x τ1 with
        | no => rfl
        | ex _ _ => rfl
        | ok a t =>
          show ((setO io.toNat j1 y t).bind _).bind _ = (setO io.toNat j1 y t).bind _
          cases setO io.toNat j1 y t with
          | no => rfl
          | ex _ _ => rfl
          | ok a t =>
            show ((setO io.toNat m1 z t).bind _).bind _ = (setO io.toNat m1 z t).bind _
            cases setO io.toNat m1 z t <;> rfl
      rw [e1] at h1
      obtain ⟨O2, τ2, R2, E2, i0, dj2, h2⟩ := setO_vt E1 R1 rx (fun b hb => dj b (List.mem_append_left _ hb)) h1
      have z2 : ∀ b, b ∈ k3 ++ (k5 ++ []) → ∀ i, b ∉ O2 i := fun b hb => dj2 b (dj b (List.mem_append_right _ hb)) fun z => d1 b z hb
      obtain ⟨O3, τ3, R3, E3, j0, dj3, h3⟩ := setO_vt E2 R2 ry (fun b hb => z2 b (List.mem_append_left _ hb)) h2
      obtain ⟨O4, τ4, R4, E4, m0, _, h4⟩ := setO_vt E3 R3 rz (fun b hb => dj3 b (z2 b (List.mem_append_right _ (List.mem_append_left _ hb))) fun z => d2 b z (List.mem_append_left _ hb)) h3
      refine h4 _ F1 O4 H1 E4 R4 fun e => ?_
      rw [List.getElem?_set_ne (m0 e), List.getElem?_set_ne (j0 e), List.getElem?_set_ne (i0 e)]
      exact h0 e
theorem Bd.pr3 (B : Bd Z G fN fs cf k X N sc nf W) (i j m : Nat) {px py pz pt pt2 : Pos} {kt k2 : Nat} (ha : PA X [a', b', c'] (rdPar Z G cf W [(i, a), (j, b), (m, c)])) (h1 : N[i]? = some x := by rfl) (h2 : N[j]? = some y := by rfl) (h3 : N[m]? = some z := by rfl) (hx : lclB sc x = true := by decide +kernel) (hy : lclB sc y = true := by decide +kernel) (hz : lclB sc z = true := by decide +kernel)
    (hl : (py.line == px.line) = true := by rfl) (hl2 : (pz.line == px.line) = true := by rfl) (hd : [x, y, z].eraseDups.length = 3 := by decide +kernel) (na : noStar a' = true := by rfl) (nb : noStar b' = true := by rfl) (nc : noStar c' = true := by rfl) (hf : [a', b', c'].all (foldedForSure 8) = false := by rfl) (hc : [a', b', c'].all (constantsAlone 8) = false := by rfl)
    (hij : (i == j) = false := by rfl) (him : (i == m) = false := by rfl) (hjm : (j == m) = false := by rfl) :
    PS X (.Assign [.Tuple [.Name x px, .Name y py, .Name z pz] kt pt] (.Tuple [a', b', c'] k2 pt2) pos) (rdS Z io s0 W (exs G cf wf io (.par [(i, a), (j, b), (m, c)]))) := by
  have lx := lcl_of hx
  have ly := lcl_of hy
  have lz := lcl_of hz
  have bk : X.env.blockKind = .function := by unfold Env.blockKind; rw [B.s, B.sk]; rfl
  refine (ps_par3 B.A.cm B.A.nd (by rw [B.n]; exact h1) (by rw [B.n]; exact h2) (by rw [B.n]; exact h3) (by simpa using hij) (by simpa using him) (by simpa using hjm) (by rw [B.s]; exact lx) (by rw [B.s]; exact ly) (by rw [B.s]; exact lz) ha
    (sw3_of bk (by show X.env.scope.names.lookup x = _; rw [B.s]; exact lx) (by show X.env.scope.names.lookup y = _; rw [B.s]; exact ly) (by show X.env.scope.names.lookup z = _; rw [B.s]; exact lz) hl hl2 hd na nb nc hf hc) (swt_of _ _)).imp fun E σ H h => par_rd3 h
end
end TY
/-! TyL: a list comprehension of two clauses. -/
namespace TY
open PySem PySem.Spec PyProof.Rows L2
theorem wipeT_get {τ : Tau} {j : Nat} : ∀ {vs : List Nat}, (TY.wipe τ vs)[j]? = if j ∈ vs ∧ j < τ.length then some none else τ[j]?
  | [] => by simp [TY.wipe]
  | v :: vs => by
    unfold TY.wipe
    by_cases e : v = j
    · subst e
      by_cases l : v < τ.length
      · rw [List.getElem?_set_self (by rw [wipeT_len]; exact l), if_pos ⟨by simp, l⟩]
      · rw [List.getElem?_eq_none (by rw [List.length_set, wipeT_len]; omega), if_neg fun z => l z.2, List.getElem?_eq_none (by omega)]
    · rw [List.getElem?_set_ne e, wipeT_get]
      have : j ∈ v :: vs ↔ j ∈ vs := by simp [Ne.symm e]
      simp only [this]
theorem wipeT_wipe {τ : Tau} {v1 vs : List Nat} (h : ∀ j ∈ v1, j ∈ vs) : TY.wipe (TY.wipe τ v1) vs = TY.wipe τ vs := by
  apply List.ext_getElem?
  intro j
  rw [wipeT_get, wipeT_get, wipeT_len, wipeT_get]
  by_cases c : j ∈ vs ∧ j < τ.length
  · rw [if_pos c, if_pos c]
  · rw [if_neg c, if_neg c, if_neg fun z => c ⟨h j z.1, z.2⟩]
theorem compL_len {α : Type} {own : List Nat} {f : D → Tau → Out (List α)} : ∀ {ds : List D} {acc xs : List α} {τ t : Tau}, compL own f ds acc τ = .ok xs t → acc.length ≤ xs.length
  | [], acc, xs, τ, t, q => by cases q; exact Nat.le_refl _
  | d :: ds, acc, xs, τ, t, q => by
    unfold compL at q
    split at q
    · split at q
      · have := compL_len q
        rw [List.length_append] at this
        omega
      · cases q
    · cases q
theorem Ext.out {F F' : AP} {O O' : Ow} {H H' : Hp} {cs : List Addr} {p : Addr} {o : HO} (e : Ext F O H F' O' H' cs) (nf : ¬ F p) (no : ∀ i, p ∉ O i) (hp : Trk H p) : Ext F O (upd H p o) F' O' (upd H' p o) cs := by
  obtain ⟨u, hu, hnu⟩ := hp
  obtain ⟨g1, g2, g3, g4⟩ := e.rest p u hu nf no
  refine ⟨⟨e.st.f, fun a fa => ?_⟩, fun b w h1 h2 h3 h4 => ?_⟩
  · have : a ≠ p := fun z => nf (by rw [← z]; exact fa)
    rw [upd_ne this, upd_ne this]; exact e.st.h a fa
  · by_cases eb : b = p
    · rw [eb, upd_same] at h1
      rw [eb, upd_same]
      exact ⟨h1, g2, g3, g4⟩
    · rw [upd_ne eb] at h1
      rw [upd_ne eb]
      exact e.rest b w h1 h2 h3
theorem Stay.un {F F' : AP} {H H' : Hp} {p : Addr} {o : HO} (s : Stay F H F' (upd H' p o)) (nf : ¬ F p) : Stay F H F' H' :=
  ⟨s.f, fun a fa => by have := s.h a fa; rw [upd_ne fun z => nf (by rw [← z]; exact fa)] at this; exact this⟩
/-- the turn of the outer clause -/
def lc2F (G : Glob) (cf : CallF) (el : E) (tg : T) (cs : List E) (tg1 : T) (it1 : I) (cs1 : List E) (own1 : List Nat) : D → Tau → Out (List D) := fun d t => (lift (store 0 tg d t) t).bind fun t' _ => (evc G cf cs t').bind fun b t => if b then (evi G cf it1 t).bind fun es t =>
      compL own1 (lcF G cf el tg1 cs1) es [] t else .ok [] t
section
variable {Z : Wh} {G : Glob} {cf : CallF} {W : WX}
/-- the inner loop -/
theorem inner_rd {el : E} {tg1 : T} {cs1 : List E} {own1 : List Nat} {σ : L2.St} {F : AP} {O : Ow} {τ t : Tau} {H : Hp} {J : It} {es xs : List D} {p : Addr} {avs : List V} {Nx : Hp → Prop} (hns : ∀ j ∈ tg1.ns, j ∈ own1)
    (R : Rl Z F O τ σ H) (gv : Gives Z J F H es) (hp : H p = some (.lst avs)) (nf : ¬ F p) (no : ∀ i, p ∉ O i) (q : compL own1 (lcF G cf el tg1 cs1) es [] τ = .ok xs t) (hz : avs.length + xs.length ≤ line)
    (fin : ∀ F2 O2 H2 bvs, Rl Z F2 O2 (TY.wipe t own1) (L2.wipe σ own1) H2 → Ext F O H F2 O2 (upd H2 p (.lst avs)) [] → H2 p = some (.lst (avs ++ bvs)) → Rps Z H2 F2 bvs xs → ¬ F2 p → (∀ i, p ∉ O2 i) → Nx H2) :
    ∃ W1 : Nat → Nat → Hp → Prop, (∃ m, W1 0 m H) ∧ ∀ j k H, W1 j k H → (J.stop j H ∧ Nx H) ∨ (J.go j H ∧ ∃ Nx1 : Hp → Prop, (∀ H', Nx1 H' → ∃ k', k' < k ∧ W1 (j + 1) k' H') ∧ ∀ x H', J.yld j H x H' → rdG Z 0 tg1 x (L2.wipe σ own1) H' fun σ3 H5 =>
      L2.wipe σ3 own1 = L2.wipe σ own1 ∧ rdC Z G cf W0 cs1 σ3 H5 fun b H6 => if b = true then rdE Z G cf W0 el σ3 H6 fun y H7 => ∃ acc, H7 p = some (.lst acc) ∧ acc.length < sizeLine ∧ Nx1 (upd H7 p (.lst (acc ++ [y]))) else Nx1 H6) := by
  have wl : (L2.wipe σ own1).length = σ.length := L2.wipe_length σ own1
  have wa : ∀ j, j ∉ own1 → (L2.wipe σ own1)[j]? = σ[j]? := fun j hj => by rw [wipeS_at, if_neg fun z => hj z.1]
  let Wi : Nat → Hp → Prop := fun j H2 => ∃ F2 O2 τ2 acc bvs, Rl Z F2 O2 (TY.wipe τ2 own1) (L2.wipe σ own1) H2 ∧ Ext F O H F2 O2 (upd H2 p (.lst avs)) [] ∧ H2 p = some (.lst (avs ++ bvs)) ∧ Rps Z H2 F2 bvs acc ∧ ¬ F2 p ∧ (∀ i, p ∉ O2 i) ∧
    compL own1 (lcF G cf el tg1 cs1) (es.drop j) acc τ2 = .ok xs t
  have w1 : Wi 0 H := by
    refine ⟨F, clrs O own1, τ, [], [], R.wipe wl wa, ?_, by rw [List.append_nil]; exact hp, True.intro, nf, fun i z => no i (clrs_sub z), q⟩
    rw [upd_id hp]
    exact Ext.clrs .refl
  refine ⟨fun j k H => k = es.length - j ∧ j ≤ es.length ∧ Wi j H, ⟨es.length, rfl, Nat.zero_le _, w1⟩, ?_⟩
  rintro j k H2 ⟨rfl, hile, F2, O2, τ2, acc, bvs, R2, E2, hp2, ra, nf2, no2, q2⟩
  have st2 : Stay F H F2 H2 := E2.st.un nf
  by_cases hlt : j < es.length
  · refine .inr ⟨gv.go _ _ _ st2 hlt, Wi (j + 1), fun H' g => ⟨es.length - (j + 1), by omega, rfl, hlt, g⟩, fun x H3 y => ?_⟩
    have hd := List.getElem?_eq_getElem hlt
    obtain ⟨F3, N3, p3⟩ := gv.yld _ _ _ _ _ _ st2 R2.trk hd y
    rw [compL_drop hd] at q2
    have R3 := N3.rl R2
    have E3 := N3.ext R2
    cases q4 : lcF G cf el tg1 cs1 es[j] (TY.wipe τ2 own1) with
    | no => rw [q4] at q2; cases q2
    | ex _ _ => rw [q4] at q2; cases q2
    | ok x1 t1 =>
      rw [q4] at q2
      simp only at q2
      split at q2
      case isFalse => cases q2
      have hlen := compL_len q2
      rw [List.length_append] at hlen
      unfold lcF at q4
      cases et : store 0 tg1 es[j] (TY.wipe τ2 own1) with
      | none => rw [et] at q4; cases q4
      | some t' =>
        rw [et] at q4
        have q4 : ((evc G cf cs1 t').bind fun b t => if b then (ev G cf el t).bind fun x t => (TY.frz x t).bind fun x t => .ok [x] t else .ok [] t) = .ok x1 t1 := q4
        refine ⟨F3, O2, TY.wipe τ2 own1, es[j], t', R3, p3, et, fun σ4 O4 R4 E4 sm => ⟨?_, F3, O4, t', R4, ?_⟩⟩
        · exact wipeS_eq (sm.len.trans wl) fun i hi => (sm.at' i fun z => hi (hns i z)).trans (wa i hi)
        have step : ∀ ys H6, (∃ F6 O6 cs, Ext F3 O4 H3 F6 O6 H6 cs ∧ Rl Z F6 O6 t1 σ4 H6 ∧ rDs Z F6 O6 t1 H6 ys cs x1) → (avs ++ bvs).length + ys.length ≤ sizeLine ∧ H6 p = some (.lst (avs ++ bvs)) ∧ Wi (j + 1) (upd H6 p (.lst ((avs ++ bvs) ++ ys))) := fun ys H6 ⟨F6, O6, c6, E6, R6, r6⟩ => by
          obtain ⟨rfl, r6⟩ := r6
          have E7 : Ext F2 O2 H2 F6 O6 H6 [] := (E3.trans E4).trans E6
          obtain ⟨g1, g2, g3, _⟩ := E7.rest p _ hp2 nf2 no2
          have st6 : Stay F6 H6 F6 (upd H6 p (.lst ((avs ++ bvs) ++ ys))) := ⟨fun _ z => z, fun b fb => upd_ne fun z => g2 (by rw [← z]; exact fb)⟩
          have R7 : Rl Z F6 (clrs O6 own1) (TY.wipe t1 own1) (L2.wipe σ own1) H6 := R6.wipe (by rw [wl, sm.len, wl]) fun i hi => (sm.at' i fun z => hi (hns i z)).symm
          have E8 : Ext F O H F6 O6 (upd H6 p (.lst avs)) [] := E2.trans (E7.out nf2 no2 ⟨_, hp2, fun ps z => nomatch z⟩)
          refine ⟨?_, g1, F6, clrs O6 own1, t1, acc ++ x1, bvs ++ ys, R7.out g2 fun i z => g3 i (clrs_sub z), ?_, ?_, Rps.stay st6 _ _ (Rps.append (Rps.stay E7.st _ _ ra) r6), g2, fun i z => g3 i (clrs_sub z), q2⟩
          · rw [List.length_append, ra.len, r6.len, line_eq]; omega
          · rw [upd_upd]; exact E8.clrs
          · rw [upd_same, List.append_assoc]
        have hq := Post.self (Z := Z) (RR := rDs Z) (W := W0) (σ := σ4) (F := F3) (O := O4) (H := H3) q4
        refine (Post.bind hq).mono fun k H5 ⟨F5, O5, τ5, x5, c5, E5, R5, r5, _, h5⟩ => ?_
        obtain ⟨_, rfl⟩ := r5
        cases k with
        | false =>
          obtain ⟨_, g1, g2⟩ := step [] H5 (h5 [] [] F5 O5 H5 E5.drop R5 ⟨rfl, True.intro⟩)
          rw [List.append_nil, upd_id g1] at g2
          exact g2
        | true =>
          refine ⟨F5, O5, τ5, R5, (Post.bind (Post.weak E5 h5)).mono fun v H6 ⟨F6, O6, τ6, x6, c6, E6, R6, r6, _, h6⟩ => ?_⟩
          obtain ⟨F7, O7, τ7, d, E7, R7, p7, _, h7⟩ := Post.frz E6 R6 r6 h6
          obtain ⟨g0, g1, g2⟩ := step [v] H6 (h7.done0 R7 ⟨rfl, p7, True.intro⟩)
          exact ⟨avs ++ bvs, g1, g0, g2⟩
  · have e : j = es.length := by omega
    subst e
    rw [List.drop_length] at q2
    cases q2
    exact .inl ⟨gv.stop _ _ st2, fin F2 O2 H2 bvs R2 E2 hp2 ra nf2 no2⟩
theorem lc2_rd {el : E} {tgx tg1 : T} {it it1 : I} {cs cs1 : List E} {own own1 : List Nat} {σ : L2.St} {H : Hp} {Q : VK} (hns : ∀ j ∈ tgx.ns, j ∈ own) (hns1 : ∀ j ∈ tg1.ns, j ∈ own1) (ho : ∀ j ∈ own1, j ∈ own) (h : rdE Z G cf W (.lc2 el tgx it cs tg1 it1 cs1 own own1) σ H Q) :
    tLc2 (rdI Z G cf W it) (rdG Z 0 tgx) (rdC Z G cf W0 cs) (rdI Z G cf W0 it1) (rdG Z 0 tg1) (rdC Z G cf W0 cs1) (rdE Z G cf W0 el) own own1 σ H Q := by
  obtain ⟨F, O, τ, R, h⟩ := h
  simp only [ev] at h
  refine ⟨F, O, τ, R, (Post.bind h).mono fun J H1 ⟨F1, O1, τ1, ds, c1, E1, R1, r1, _, h1⟩ => ?_⟩
  obtain ⟨rfl, gv⟩ := r1
  intro p hp
  have h1 : Post Z (rO Z σ) W σ F1 O1 H1 ((compL own (lc2F G cf el tgx cs tg1 it1 cs1 own1) ds [] τ1).bind fun l t => .ok (.tmp (.l l)) (TY.wipe t own)) Q := Post.weak E1 h1
  let Wi : Nat → Hp → Prop := fun i H => ∃ F2 O2 τ2 acc avs, Rl Z F2 O2 (TY.wipe τ2 own) (L2.wipe σ own) H ∧ Ext F1 O1 H1 F2 O2 H [] ∧ H p = some (.lst avs) ∧ Rps Z H F2 avs acc ∧ ¬ F2 p ∧ (∀ i, p ∉ O2 i) ∧
    Post Z (rO Z σ) W σ F1 O1 H1 ((compL own (lc2F G cf el tgx cs tg1 it1 cs1 own1) (ds.drop i) acc τ2).bind fun l t => .ok (.tmp (.l l)) (TY.wipe t own)) Q
  have np : ¬ F1 p ∧ ∀ i, p ∉ O1 i := ⟨R1.trk.no hp, fun i z => (R1.ownTrk z).1.no hp⟩
  have wl : (L2.wipe σ own).length = σ.length := L2.wipe_length σ own
  have wa : ∀ j, j ∉ own → (L2.wipe σ own)[j]? = σ[j]? := fun j hj => by rw [wipeS_at, if_neg fun z => hj z.1]
  have w1 : Wi 0 (upd H1 p (.lst [])) := by
    have R1' := (R1.wipe (own := own) wl wa).out (o := .lst []) np.1 (fun i z => np.2 i (clrs_sub z))
    exact ⟨F1, clrs O1 own, τ1, [], [], R1', ⟨⟨fun _ z => z, fun b fb => upd_ne fun z => np.1 (by rw [← z]; exact fb)⟩, fun b o g1 g2 g3 _ => ⟨by rw [upd_ne (ne_of_none g1 hp)]; exact g1, g2, fun i z => g3 i (clrs_sub z), by simp⟩⟩, upd_same, True.intro, np.1, fun i z => np.2 i (clrs_sub z), h1⟩
  refine ⟨fun i m H => m = ds.length - i ∧ i ≤ ds.length ∧ Wi i H, ⟨ds.length, rfl, Nat.zero_le _, w1⟩, ?_⟩
  rintro i m H2 ⟨rfl, hile, F2, O2, τ2, acc, avs, R2, E2, hp2, ra, nf2, no2, h2⟩
  by_cases hlt : i < ds.length
  · refine .inr ⟨gv.go _ _ _ E2.st hlt, Wi (i + 1), fun H' g => ⟨ds.length - (i + 1), by omega, rfl, hlt, g⟩, fun x H3 y => ?_⟩
    have hd := List.getElem?_eq_getElem hlt
    obtain ⟨F3, N3, p3⟩ := gv.yld _ _ _ _ _ _ E2.st R2.trk hd y
    rw [compL_drop hd] at h2
    have R3 := N3.rl R2
    have E3 := N3.ext R2
    cases q : lc2F G cf el tgx cs tg1 it1 cs1 own1 ds[i] (TY.wipe τ2 own) with
    | no => rw [q] at h2; exact h2.elim
    | ex x t => rw [q] at h2; exact h2.elim
    | ok xs t =>
      rw [q] at h2
      simp only at h2
      split at h2
      case isFalse => exact h2.elim
      rename_i hz
      unfold lc2F at q
      cases et : store 0 tgx ds[i] (TY.wipe τ2 own) with
      | none => rw [et] at q; cases q
      | some t' =>
        rw [et] at q
        have q : ((evc G cf cs t').bind fun b t => if b then (evi G cf it1 t).bind fun es t => compL own1 (lcF G cf el tg1 cs1) es [] t else .ok [] t) = .ok xs t := q
        refine ⟨F3, O2, TY.wipe τ2 own, ds[i], t', R3, p3, et, fun σ4 O4 R4 E4 sm => ⟨?_, F3, O4, t', R4, ?_⟩⟩
        · exact wipeS_eq (sm.len.trans wl) fun j hj => (sm.at' j fun z => hj (hns j z)).trans (wa j hj)
        cases q1 : evc G cf cs t' with
        | no => rw [q1] at q; cases q
        | ex _ _ => rw [q1] at q; cases q
        | ok bb τ5 =>
          rw [q1] at q
          have q : (if bb then (evi G cf it1 τ5).bind fun es t => compL own1 (lcF G cf el tg1 cs1) es [] t else .ok [] τ5) = .ok xs t := q
          refine (Post.self (Z := Z) (RR := rE Bool) (W := W0) (σ := σ4) (F := F3) (O := O4) (H := H3) (out := Out.ok bb τ5) rfl).mono fun k H5 ⟨F5, O5, c5, E5, R5, r5⟩ => ?_
          obtain ⟨rfl, rfl⟩ := r5
          have E35 : Ext F2 O2 H2 F5 O5 H5 [] := (E3.trans E4).trans E5
          obtain ⟨g1, g2, g3, _⟩ := E35.rest p _ hp2 nf2 no2
          cases k with
          | false =>
            rw [if_neg Bool.false_ne_true] at q
            cases q
            have R7 : Rl Z F5 (clrs O5 own) (TY.wipe t own) (L2.wipe σ own) H5 := R5.wipe (by rw [wl, sm.len, wl]) fun j hj => (sm.at' j fun z => hj (hns j z)).symm
            refine ⟨F5, clrs O5 own, t, acc, avs, R7, (E2.trans E35).clrs, g1, Rps.stay E35.st _ _ ra, g2, fun i z => g3 i (clrs_sub z), ?_⟩
            rw [List.append_nil] at h2
            exact h2
          | true =>
            rw [if_pos rfl] at q
            cases q2 : evi G cf it1 τ5 with
            | no => rw [q2] at q; cases q
            | ex _ _ => rw [q2] at q; cases q
            | ok es τ6 =>
              rw [q2] at q
              have q : compL own1 (lcF G cf el tg1 cs1) es [] τ6 = .ok xs t := q
              refine ⟨F5, O5, τ5, R5, (Post.self (Z := Z) (RR := rIt Z) (W := W0) (σ := σ4) (F := F5) (O := O5) (H := H5) q2).mono fun J1 H6 ⟨F6, O6, c6, E6, R6, r6⟩ => ?_⟩
              obtain ⟨rfl, gv1⟩ := r6
              have E26 : Ext F2 O2 H2 F6 O6 H6 [] := E35.trans E6
              obtain ⟨k1, k2, k3, _⟩ := E26.rest p _ hp2 nf2 no2
              refine inner_rd hns1 R6 gv1 k1 k2 k3 q (by rw [ra.len]; exact hz) fun F8 O8 H8 bvs R8 E8 hp8 r8 nf8 no8 => ?_
              have st8 : Stay F6 H6 F8 H8 := E8.st.un k2
              have hl4 : σ4.length = σ.length := sm.len.trans wl
              have R9 : Rl Z F8 (clrs O8 own) (TY.wipe t own) (L2.wipe σ own) H8 := by
                have := R8.wipe (own := own) (σ' := L2.wipe σ own) (by rw [wl, L2.wipe_length, hl4]) fun j hj => by
                  have hj1 : j ∉ own1 := fun z => hj (ho j z)
                  rw [show (L2.wipe σ4 own1)[j]? = σ4[j]? from by rw [wipeS_at, if_neg fun z => hj1 z.1]]
                  exact (sm.at' j fun z => hj (hns j z)).symm
                rw [wipeT_wipe ho] at this
                exact this
              have E10 : Ext F1 O1 H1 F8 O8 (upd H8 p (.lst avs)) [] := (E2.trans E26).trans E8
              refine ⟨F8, clrs O8 own, t, acc ++ xs, avs ++ bvs, R9, ⟨E10.st.un np.1, fun b o m1 m2 m3 m4 => ?_⟩, hp8, Rps.append (Rps.stay (E26.st.trans st8) _ _ ra) r8, nf8, fun i z => no8 i (clrs_sub z), h2⟩
              obtain ⟨n1, n2, n3, _⟩ := E10.rest b o m1 m2 m3
              exact ⟨by rw [upd_ne (ne_of_none m1 hp)] at n1; exact n1, n2, fun i z => n3 i (clrs_sub z), by simp⟩
  · have e : i = ds.length := by omega
    subst e
    refine .inl ⟨gv.stop _ _ E2.st, ?_⟩
    rw [List.drop_length] at h2
    exact h2 (.ref p) [p] F2 O2 H2 ⟨E2.st, fun b o k1 k2 k3 k4 => let ⟨m1, m2, m3, _⟩ := E2.rest b o k1 k2 k3; ⟨m1, m2, m3, fun z => ne_of_none k1 hp (List.mem_singleton.mp z)⟩⟩
      (R2.sig wl.symm fun j hj => by
        rw [wipeT_at] at hj
        split at hj
        · exact absurd rfl hj
        · rename_i hi; exact (wa j hi).symm)
      ⟨⟨⟨p, avs, rfl, rfl, hp2, ra⟩, by simp, fun b hb => by rw [List.mem_singleton.mp hb]; exact nf2⟩, fun b hb i => by rw [List.mem_singleton.mp hb]; exact no2 i⟩
end
section
variable {Z : Wh} {G : Glob} {fN : Nat → Str} {fs : Nat → Option Fn} {cf : CallF} {k wf : Nat} {io : Bool} {s0 : Option (Option V)} {X : Cx} {N : List Str} {sc : Scope} {nf : Str → Bool} {W : WX} {tg : Expr} {pos : Pos} {y : Str}
theorem sub_of {l m : List Nat} (h : l.all m.contains = true) : ∀ j ∈ l, j ∈ m := fun j hj => by have := List.all_eq_true.mp h j hj; simpa using this
theorem Bd.lc2 (B : Bd Z G fN fs cf k X N sc nf W) {elt' it' tg1 it1' : Expr} {ifs' ifs1' : List Expr} {scope : Scope} {el : E} {tgx tgx1 : T} {it it1 : I} {cs cs1 : List E} {own own1 : List Nat} (ow : List (Str × Nat)) (hi : PI X tg it' (rdI Z G cf W it))
    (hin : ∀ {Y : Cx}, Bd Z G fN fs cf k Y N (relS scope sc) (cellB scope) W0 → PG Y tg (rdG Z 0 tgx) ∧ PTs Y ifs' (rdC Z G cf W0 cs) ∧ PI Y tg1 it1' (rdI Z G cf W0 it1) ∧ PG Y tg1 (rdG Z 0 tgx1) ∧ PTs Y ifs1' (rdC Z G cf W0 cs1) ∧ PE Y elt' (rdE Z G cf W0 el))
    (ok : blkC N sc scope ow = true := by decide +kernel) (hc : capB scope = true := by rfl) (ho : ow.map (·.2) = own := by rfl) (hns : tgx.ns.all own.contains = true := by rfl) (hns1 : tgx1.ns.all own1.contains = true := by rfl) (h1 : own1.all own.contains = true := by rfl) (hs : fsB it' = true := by rfl) (hs1 : fsB it1' = true := by rfl) :
    PE X (.ListComp elt' [⟨tg, it', ifs', 0⟩, ⟨tg1, it1', ifs1', 0⟩] scope pos) (rdE Z G cf W (.lc2 el tgx it cs tgx1 it1 cs1 own own1)) := by
  have hb := fun s H C cl fp => hin (B.blk scope (cap_of hc) s H C cl fp)
  exact (pe_lc2 B.A.cm B.A.nd hi (blkOk_by (by rw [B.n, B.s]; exact ok)) (vs1 := own1) (by rw [ho]; exact sub_of h1) (fun s H C cl fp => (hb s H C cl fp).1) (fun s H C cl fp => (hb s H C cl fp).2.1) (fun s H C cl fp => (hb s H C cl fp).2.2.1) (fun s H C cl fp => (hb s H C cl fp).2.2.2.1) (fun s H C cl fp => (hb s H C cl fp).2.2.2.2.1) (fun s H C cl fp => (hb s H C cl fp).2.2.2.2.2) (fs_of hs) (fun env => fs_of hs1)).imp fun σ H Q h => by
    rw [ho]
    exact lc2_rd (sub_of hns) (sub_of hns1) (sub_of h1) h
theorem Bd.slc2 (B : Bd Z G fN fs cf k X N sc nf W) (i : Nat) {py lpos : Pos} {elt' it' tg1 it1' : Expr} {ifs' ifs1' : List Expr} {scope : Scope} {el : E} {tgx tgx1 : T} {it it1 : I} {cs cs1 : List E} {own own1 : List Nat} (ow : List (Str × Nat)) (hi : PI X tg it' (rdI Z G cf W it))
    (hin : ∀ {Y : Cx}, Bd Z G fN fs cf k Y N (relS scope sc) (cellB scope) W0 → PG Y tg (rdG Z 0 tgx) ∧ PTs Y ifs' (rdC Z G cf W0 cs) ∧ PI Y tg1 it1' (rdI Z G cf W0 it1) ∧ PG Y tg1 (rdG Z 0 tgx1) ∧ PTs Y ifs1' (rdC Z G cf W0 cs1) ∧ PE Y elt' (rdE Z G cf W0 el))
    (hy : N[i]? = some y := by rfl) (hsw : swlB sc scope y = true := by decide +kernel) (hln : (py.line == lpos.line) = true := by rfl)
    (ok : blkC N sc scope ow = true := by decide +kernel) (hc : capB scope = true := by rfl) (ho : ow.map (·.2) = own := by rfl) (hns : tgx.ns.all own.contains = true := by rfl) (hns1 : tgx1.ns.all own1.contains = true := by rfl) (h1 : own1.all own.contains = true := by rfl) (hs : fsB it' = true := by rfl) (hs1 : fsB it1' = true := by rfl) :
    PS X (.Assign [.Name y py] (.ListComp elt' [⟨tg, it', ifs', 0⟩, ⟨tg1, it1', ifs1', 0⟩] scope lpos) pos) (rdS Z io s0 W (exs G cf wf io (.set i (.lc2 el tgx it cs tgx1 it1 cs1 own own1)))) := by
  have hb := fun s H C cl fp => hin (B.blk scope (cap_of hc) s H C cl fp)
  unfold swlB at hsw
  rw [Bool.and_eq_true, Bool.not_eq_true'] at hsw
  have hl : sc.names.lookup y = some .local := by
    have h := hsw.1
    split at h
    · assumption
    · cases h
  exact (ps_setLc2 B.A.cm B.A.nd (by rw [B.n]; exact hy) (by rw [B.s]; exact hl) (sw_true (by rw [B.s]; exact B.sk) (by rw [B.s]; exact hl) hln hsw.2) hi (blkOk_by (by rw [B.n, B.s]; exact ok)) (vs1 := own1) (by rw [ho]; exact sub_of h1) (fun s H C cl fp => (hb s H C cl fp).1) (fun s H C cl fp => (hb s H C cl fp).2.1) (fun s H C cl fp => (hb s H C cl fp).2.2.1) (fun s H C cl fp => (hb s H C cl fp).2.2.2.1) (fun s H C cl fp => (hb s H C cl fp).2.2.2.2.1) (fun s H C cl fp => (hb s H C cl fp).2.2.2.2.2) (fs_of hs) (fun env => fs_of hs1)).imp fun D σ H h => by
    rw [ho]
    exact lc2_rd (sub_of hns) (sub_of hns1) (sub_of h1) (set_rd h)
end
end TY
/-! TyGt: d.get(k), d.get(k, x); displays of dicts. -/
namespace TY
open PySem PySem.Spec PyProof.Rows L2
section
variable {Z : Wh} {X : Cx} {F F' : AP} {H H' : Hp} {pins : List (Addr × Obj)} {σ : L2.St} {s : Shared}
theorem isDic_at (A : At Z X) (I : Inv X pins σ H s) {d : D} {b : Bool} {x : V} {u : Value} (h : Rq Z F H x d) (hb : isDic d = some b) (rx : RelV x u) :
    s.TypeIs u "dict" ∧ ∀ c, u = .ref c → ∃ ob, s.heap.get? c = some ob ∧ ob.dict = none := by
  cases d with
  | dk kvs =>
    obtain ⟨a, l, rfl, e, _⟩ := h
    cases rx
    obtain ⟨t1, t2, _⟩ := isD_at I (.inl ⟨l, e⟩)
    exact ⟨t1, t2⟩
  | dn kvs =>
    obtain ⟨a, o, l, rfl, e, r⟩ := h
    cases rx
    obtain ⟨_, _, xs, _, dd, _⟩ := dno_of A I e r
    refine ⟨dd.typeIs, fun c q => ?_⟩
    cases q
    obtain ⟨ob, _, _, h1, h2, _⟩ := dd
    exact ⟨ob, h1, h2.2.1⟩
  | _ => cases hb
theorem dk_none : ∀ {kvs : List (D × D)} {l : List (Key × V)} {z : List Nat}, Rpk Z H F l kvs → lookD (.str z) kvs = none → valV l (.inr (sS z)) = none
  | [], [], _, _, _ => rfl
  | [], _ :: _, _, h, _ => h.elim
  | _ :: _, [], _, h, _ => h.elim
  | (k, b) :: kvs, p :: l, z, h, e => by
    obtain ⟨e1, e2⟩ := h.1
    unfold lookD at e
    split at e
    · cases e
    · rename_i g
      rw [valV_neg fun z' => g ?_]
      · exact dk_none h.2 e
      · cases k with
        | str x =>
          have e1 : some (Sum.inr (sS x)) = some p.1 := e1
          rw [← Option.some.inj e1] at z'
          have := sS_inj.mp (Sum.inr.inj z')
          simp [eqv, this]
        | int x =>
          have e1 : some (Sum.inl x) = some p.1 := e1
          rw [← Option.some.inj e1] at z'
          cases z'
        | _ => cases e1
/-- d.get(k), d.get(k, x) of either kind of dict -/
theorem any_get (A : At Z X) (I : Inv X pins σ H s) {d k e r : D} {x y zr : V} {v u z' : Value} {more : List Value} {Q : Value → Shared → Prop} (hm : more = [] ∧ z' = .none ∧ zr = .non ∨ more = [z']) (rx : RelV x v) (ry : RelV y u) (rz : RelV zr z')
    (h1 : Rq Z F H x d) (h2 : Rp Z H F y k) (h3 : Rp Z H F zr e) (hr : getD' d k e = some r) (q : ∀ w' s' z, Inv X pins σ H s' → RelV z w' → Rp Z H F z r → Q w' s') : wpAny (model X.prog X.w) X.A (call (.builtin "dict.get") (v :: u :: more)) Q X.xe s := by
  cases d with
  | dk kvs =>
    cases k with
    | str t =>
      cases hr
      obtain ⟨a, l, rfl, ea, rl⟩ := h1
      cases h2
      cases rx
      have hu : X.A.units + 1 < cLine := by have := A.hu; omega
      have key : ∃ o, DGet H a (.str (sS t)) o ∧ Rp Z H F (o.getD zr) ((lookD (.str t) kvs).getD e) := by
        cases hl : lookD (.str t) kvs with
        | none => exact ⟨none, .inl ⟨l, .inr (sS t), ea, rfl, (dk_none rl hl).symm⟩, h3⟩
        | some d => obtain ⟨w0, g1, g2⟩ := dk_look rl hl; exact ⟨some w0, .inl ⟨l, .inr (sS t), ea, rfl, g1.symm⟩, g2⟩
      obtain ⟨o, g, p⟩ := key
      rcases hm with ⟨rfl, rfl, rfl⟩ | rfl
      · exact d_get1 hu I g ry fun w' s' I' rw' => q w' s' _ I' rw' p
      · exact d_get2 hu I g ry rz fun w' s' I' rw' => q w' s' _ I' rw' p
    | _ => cases hr
  | dn kvs =>
    have hr : (if okKey k then some ((lookD k kvs).getD e) else none) = some r := hr
    split at hr
    · rename_i hk
      cases hr
      exact dn_get A I (hm.imp (fun z => ⟨z.1, z.2.1⟩) id) rx ry rz h1 h2 h3 hk q
    · cases hr
  | _ => cases hr
def tGet1 (Z : Wh) (td ty : TE) : TE := fun σ H Q => td σ H fun x H1 => (∃ F d b, Rq Z F H1 x d ∧ isDic d = some b) ∧ ty σ H1 fun y H2 => ∃ F d k r, Rq Z F H2 x d ∧ Rp Z H2 F y k ∧ getD' d k .non = some r ∧ ∀ v, Rp Z H2 F v r → Q v H2
def tGet2 (Z : Wh) (td ty tx : TE) : TE := fun σ H Q => td σ H fun x H1 => (∃ F d b, Rq Z F H1 x d ∧ isDic d = some b) ∧ ty σ H1 fun y H2 => tx σ H2 fun z H3 => ∃ F d k e r, Rq Z F H3 x d ∧ Rp Z H3 F y k ∧ Rp Z H3 F z e ∧ getD' d k e = some r ∧ ∀ v, Rp Z H3 F v r → Q v H3
variable {o e f : Expr} {apos cpos : Pos} {td ty tx : TE}
theorem pe_get1 (A : At Z X) (ho : PE X o td) (he : PE X e ty) (m : M1 X o "get" apos e cpos) : PE X (.Call (.Attribute o "get" apos) [e] [] cpos) (tGet1 Z td ty) := by
  refine ⟨fun pins s σ H Q I h => ?_⟩
  refine wpAny_Call_method m.base m.few m.line PySem.F.plainAttrs_dict PySem.F.slot_dict_get PySem.F.type_dict_get (thn (ho.run pins s σ H _ I h) fun u s1 ⟨x, H1, I1, rx, d0, q1⟩ => ?_)
  obtain ⟨F, d, b, hq, hd⟩ := d0
  obtain ⟨t1, t2⟩ := isDic_at A I1 hq hd rx
  refine ⟨t1, t2, ?_⟩
  rw [m.trees]
  refine Calls.callWith_builtin rfl (Calls.evalArgs_plain (Calls.spliced_cons (thn (he.run pins s1 σ H1 _ I1 q1) fun iv s2 ⟨y, H2, I2, ry, q2⟩ => Calls.spliced_nil ?_)))
  obtain ⟨F2, d2, k, r, g1, g2, g3, q3⟩ := q2
  exact any_get (z' := .none) (zr := .non) A I2 (.inl ⟨rfl, rfl, rfl⟩) rx ry rfl g1 g2 (e := .non) rfl g3 fun w' s3 z I3 rz pz => ⟨z, H2, I3, rz, q3 z pz⟩
theorem pe_get2 (A : At Z X) (ho : PE X o td) (he : PE X e ty) (hf : PE X f tx) (m : M2 X o "get" apos e f cpos) : PE X (.Call (.Attribute o "get" apos) [e, f] [] cpos) (tGet2 Z td ty tx) := by
  refine ⟨fun pins s σ H Q I h => ?_⟩
  refine wpAny_Call_method m.base m.few m.line PySem.F.plainAttrs_dict PySem.F.slot_dict_get PySem.F.type_dict_get (thn (ho.run pins s σ H _ I h) fun u s1 ⟨x, H1, I1, rx, d0, q1⟩ => ?_)
  obtain ⟨F, d, b, hq, hd⟩ := d0
  obtain ⟨t1, t2⟩ := isDic_at A I1 hq hd rx
  refine ⟨t1, t2, ?_⟩
  rw [m.trees]
  refine Calls.callWith_builtin rfl (Calls.evalArgs_plain (Calls.spliced_cons (thn (he.run pins s1 σ H1 _ I1 q1) fun iv s2 ⟨y, H2, I2, ry, q2⟩ =>
    Calls.spliced_cons (thn (hf.run pins s2 σ H2 _ I2 q2) fun fv s3 ⟨z, H3, I3, rz, q3⟩ => Calls.spliced_nil ?_))))
  obtain ⟨F2, d2, k, e0, r, g1, g2, g4, g3, q4⟩ := q3
  exact any_get A I3 (.inr rfl) rx ry rz g1 g2 g4 g3 fun w' s4 z I4 rz pz => ⟨z, H3, I4, rz, q4 z pz⟩
end
section
variable {Z : Wh} {G : Glob} {cf : CallF} {wf : Nat} {W : WX} {X : Cx} {a b c : E} {a' b' c' : Expr} {pos : Pos}
theorem m1_of {o e : Expr} {m : Str} {ap cp : Pos} (hb : baseOk o = true) (hn : noStar e = true) (hl : (ap.endLine == cp.line) = true) : M1 X o m ap e cp := by
  have h := star_of (noStar_ne hn) [] X.env
  refine ⟨base_of hb, ?_, hl, ?_⟩
  · rw [h]; rfl
  · rw [h]; rfl
theorem m2_of {o e f : Expr} {m : Str} {ap cp : Pos} (hb : baseOk o = true) (hn : noStar e = true) (hf : noStar f = true) (hl : (ap.endLine == cp.line) = true) : M2 X o m ap e f cp := by
  have h1 := star_of (noStar_ne hn) [f] X.env
  have h2 := star_of (noStar_ne hf) [] X.env
  refine ⟨base_of hb, ?_, hl, ?_⟩
  · rw [h1, h2]; rfl
  · rw [h1, h2]; rfl
theorem e_get {ap : Pos} (A : At Z X) (ha : PE X a' (rdE Z G cf W a)) (hk : PE X b' (rdE Z G cf W b)) (hb : baseOk a' = true) (hn : noStar b' = true) (hl : (ap.endLine == pos.line) = true) : PE X (.Call (.Attribute a' "get" ap) [b'] [] pos) (rdE Z G cf W (.get a b)) := by
  refine (pe_get1 A ha hk (m1_of hb hn hl)).imp fun σ H Q ⟨F, O, τ, R, h⟩ => ?_
  simp only [ev] at h
  refine ⟨F, O, τ, R, (Post.bind h).mono fun x H1 ⟨F1, O1, τ1, x1, c1, E1, R1, r1, _, h1⟩ => ?_⟩
  obtain ⟨hh, h1⟩ := Post.hold h1
  obtain ⟨bb, eb, h1⟩ := Post.lift h1
  obtain ⟨d0, e1, e2⟩ := Option.bind_eq_some_iff.mp eb
  refine ⟨⟨F1, d0, bb, r1.1.der R1 e1, e2⟩, F1, O1, τ1, R1, (Post.bind (Post.weak E1 h1)).mono fun y H2 ⟨F2, O2, τ2, x2, c2, E2, R2, r2, _, h2⟩ => ?_⟩
  obtain ⟨F3, O3, τ3, k, E3, R3, p3, _, h3⟩ := Post.frz E2 R2 r2 h2
  obtain ⟨r, e, h3⟩ := Post.lift0 h3
  obtain ⟨d, e3, e4⟩ := Option.bind_eq_some_iff.mp e
  obtain ⟨r', e5, rfl⟩ := Option.map_eq_some_iff.mp e4
  have r1' := (r1.1.carry (τ' := τ3) hh E3 r1.2).1
  exact ⟨F3, d, k, r', r1'.der R3 e3, p3, e5, fun v pv => Post.rp .refl R3 h3 pv⟩
theorem e_get2 {ap : Pos} (A : At Z X) (ha : PE X a' (rdE Z G cf W a)) (hk : PE X b' (rdE Z G cf W b)) (hc : PE X c' (rdE Z G cf W c)) (hb : baseOk a' = true) (hn : noStar b' = true) (hn2 : noStar c' = true) (hl : (ap.endLine == pos.line) = true) : PE X (.Call (.Attribute a' "get" ap) [b', c'] [] pos) (rdE Z G cf W (.get2 a b c)) := by
  refine (pe_get2 A ha hk hc (m2_of hb hn hn2 hl)).imp fun σ H Q ⟨F, O, τ, R, h⟩ => ?_
  simp only [ev] at h
  refine ⟨F, O, τ, R, (Post.bind h).mono fun x H1 ⟨F1, O1, τ1, x1, c1, E1, R1, r1, _, h1⟩ => ?_⟩
  obtain ⟨hh, h1⟩ := Post.hold h1
  obtain ⟨bb, eb, h1⟩ := Post.lift h1
  obtain ⟨d0, e1, e2⟩ := Option.bind_eq_some_iff.mp eb
  refine ⟨⟨F1, d0, bb, r1.1.der R1 e1, e2⟩, F1, O1, τ1, R1, (Post.bind (Post.weak E1 h1)).mono fun y H2 ⟨F2, O2, τ2, x2, c2, E2, R2, r2, _, h2⟩ => ?_⟩
  obtain ⟨F3, O3, τ3, k, E3, R3, p3, _, h3⟩ := Post.frz E2 R2 r2 h2
  refine ⟨F3, O3, τ3, R3, (Post.bind h3).mono fun z H4 ⟨F4, O4, τ4, x4, c4, E4, R4, r4, _, h4⟩ => ?_⟩
  obtain ⟨F5, O5, τ5, e0, E5, R5, p5, _, h5⟩ := Post.frz E4 R4 r4 h4
  obtain ⟨r, e, h5⟩ := Post.lift0 h5
  obtain ⟨d, e3, e4⟩ := Option.bind_eq_some_iff.mp e
  obtain ⟨r', e5, rfl⟩ := Option.map_eq_some_iff.mp e4
  have r1' := (r1.1.carry (τ' := τ5) hh (E3.trans E5) r1.2).1
  exact ⟨F5, d, k, e0, r', r1'.der R5 e3, p3.stay E5.st, p5, e5, fun v pv => Post.rp .refl R5 h5 pv⟩
/-! ### displays -/
/-- {} -/
theorem e_dn0 (A : At Z X) : PE X (.Dict [] [] pos) (rdE Z G cf W (.dn [])) := by
  refine ⟨fun pins s σ H Q I ⟨F, O, τ, R, h⟩ => ?_⟩
  simp only [ev, evkv] at h
  obtain ⟨o, I'⟩ := dn_laid A.toAt0 I
  have hp := I.hok.fresh (Nat.le_refl s.heap.objs.size)
  refine wpAny_Dict_empty ⟨.ref s.heap.objs.size, _, I', rfl, ?_⟩
  have h : Post Z (rO Z σ) W σ F O H (.ok (.tmp (.n [])) τ) Q := h
  refine (Post.gv .refl R h (fun _ z => nomatch z) fun _ _ z => nomatch z) _ F _ [s.heap.objs.size] (New.tmp hp) ⟨⟨_, o, [], rfl, rfl, upd_same, True.intro⟩, by simp, fun b hb f => ?_⟩
  rw [List.mem_singleton.mp hb] at f
  exact R.trk.no hp f
/-- {k: v} -/
def tDn1 (Z : Wh) (tk tv : TE) : TE := fun σ H Q => ∀ p o, H p = none → tPairs [(tk, tv)] σ (upd H p (DNo Z.P Z.w p o [])) fun ps H2 => ∃ x y, ps = [(x, y)] ∧ H2 p = some (DNo Z.P Z.w p o []) ∧ ∃ F d, Rp Z H2 F x d ∧ okKey d = true ∧ ∀ o' b, x = .ref b → Q (.ref p) (upd H2 p (DNo Z.P Z.w p o' [(nk d, b, y)]))
theorem pe_dn1 (A : At Z X) {k v : Expr} {tk tv : TE} (hk : PE X k tk) (hv : PE X v tv) : PE X (.Dict [some k] [v] pos) (tDn1 Z tk tv) := by
  refine ⟨fun pins s σ H Q I q => ?_⟩
  obtain ⟨o, I'⟩ := dn_laid A.toAt0 I
  have hp := I.hok.fresh (Nat.le_refl s.heap.objs.size)
  refine wpAny_Dict_any rfl rfl (by simp) (by simp) ?_
  refine thn ((pps_cons (pos := pos) hk hv pps_nil).run pins _ σ _ _ I' (q s.heap.objs.size o hp)) fun vs s2 ⟨ps, H2, I2, rel, x, y, eps, e2, F, d, p1, k1, q2⟩ => ?_
  subst eps
  cases rel with
  | cons r1 r2 =>
    cases r2
    show wpAny _ _ (storeAll _ [_]) _ _ _
    unfold storeAll
    rw [List.forIn_cons]
    refine wpAny_bind (wpAny_bind (dn_dictSet (F := F) A I2 e2 (kvs := []) True.intro p1 k1 r1.1 r1.2 (by show 0 < sizeLine; decide) fun o' b s' eb I3 => wpAny_pure ?_))
    show wpAny _ _ (forIn ([] : List (Value × Value)) PUnit.unit _) _ _ _
    rw [List.forIn_nil]
    exact wpAny_pure ⟨.ref s.heap.objs.size, _, I3, rfl, q2 o' b eb⟩
theorem e_dn1 (A : At Z X) (hk : PE X a' (rdE Z G cf W a)) (hv : PE X b' (rdE Z G cf W b)) : PE X (.Dict [some a'] [b'] pos) (rdE Z G cf W (.dn [(a, b)])) := by
  refine (pe_dn1 A hk hv).imp fun σ H Q ⟨F, O, τ, R, h⟩ => ?_
  simp only [ev, evkv, evp] at h
  intro p o hp
  have nf0 : ¬ F p := R.trk.no hp
  have no0 : ∀ i, p ∉ O i := fun i hb => (R.ownTrk hb).1.no hp
  have n0 : New F H F (upd H p (DNo Z.P Z.w p o [])) [p] := New.tmp hp
  have R0 := n0.rl R
  have E0 : Ext F O H F O (upd H p (DNo Z.P Z.w p o [])) [] := (n0.ext R).drop
  have h' : Post Z (rO Z σ) W σ F O H ((ev G cf a τ).bind fun x t => (frz x t).bind fun x t => (ev G cf b t).bind fun y t => (frz y t).bind fun y t => if ([(x, y)] : List (D × D)).length ≤ 15 then lift ((kvD okKey [(x, y)]).map fun l => Op.tmp (.n (l.foldl (fun r p => putD p.1 p.2 r) []))) t else .no) Q := by
    have e : ((((ev G cf a τ).bind fun x t => (frz x t).bind fun x t => (ev G cf b t).bind fun y t => (frz y t).bind fun y t => Out.ok (x, y) t).bind fun kv t => (Out.ok ([] : List (D × D)) t).bind fun l t => .ok (kv :: l) t).bind fun ps t => if ps.length ≤ 15 then lift ((kvD okKey ps).map fun l => Op.tmp (.n (l.foldl (fun r p => putD p.1 p.2 r) []))) t else .no) =
        ((ev G cf a τ).bind fun x t => (frz x t).bind fun x t => (ev G cf b t).bind fun y t => (frz y t).bind fun y t => if ([(x, y)] : List (D × D)).length ≤ 15 then lift ((kvD okKey [(x, y)]).map fun l => Op.tmp (.n (l.foldl (fun r p => putD p.1 p.2 r) []))) t else .no) := by
      cases ev G cf a τ with
      | no => rfl
      | ex x t => rfl
      | ok x t =>
        show ((((frz x t).bind _).bind _).bind _) = ((frz x t).bind _)
        cases frz x t with
        | no => rfl
        | ex x t => rfl
        | ok x t =>
          show ((((ev G cf b t).bind _).bind _).bind _) = ((ev G cf b t).bind _)
          cases ev G cf b t with
          | no => rfl
          | ex x t => rfl
          | ok y t =>
            show ((((frz y t).bind _).bind _).bind _) = ((frz y t).bind _)
            cases frz y t <;> rfl
    rw [← e]
    exact h
  refine ⟨F, O, τ, R0, (Post.bind (Post.weak E0 h')).mono fun x H1 ⟨F1, O1, τ1, x1, c1, E1, R1, r1, v1, h1⟩ => ?_⟩
  obtain ⟨F2, O2, τ2, d, E2, R2, p2, v2, h2⟩ := Post.frz E1 R1 r1 h1
  refine ⟨F2, O2, τ2, R2, (Post.bind h2).mono fun y H3 ⟨F3, O3, τ3, x3, c3, E3, R3, r3, v3, h3⟩ => ?_⟩
  obtain ⟨F4, O4, τ4, d4, E4, R4, p4, v4, h4⟩ := Post.frz E3 R3 r3 h3
  have E5 := E2.trans E4
  obtain ⟨g1, g2, g3, _⟩ := E5.rest p _ upd_same nf0 no0 (fun ps z => by unfold DNo at z; cases z)
  have h5 : Post Z (rO Z σ) W σ F O H (lift ((kvD okKey [(d, d4)]).map fun l => Op.tmp (.n (l.foldl (fun r p => putD p.1 p.2 r) []))) τ4) Q := by
    rw [v1] at h'
    have h' : Post Z (rO Z σ) W σ F O H ((frz x1 τ1).bind _) Q := h'
    rw [v2] at h'
    have h' : Post Z (rO Z σ) W σ F O H ((ev G cf b τ2).bind _) Q := h'
    rw [v3] at h'
    have h' : Post Z (rO Z σ) W σ F O H ((frz x3 τ3).bind _) Q := h'
    rw [v4] at h'
    exact h'
  obtain ⟨r, e, h5⟩ := Post.lift0 h5
  obtain ⟨l, el, rfl⟩ := Option.map_eq_some_iff.mp e
  unfold kvD at el
  split at el
  · rename_i hkk
    cases el
    refine ⟨x, y, rfl, g1, F4, d, p2.stay E4.st, hkk, fun o' b eb => ?_⟩
    subst eb
    have st : Stay F4 H3 F4 (upd H3 p (DNo Z.P Z.w p o' [(nk d, b, y)])) := ⟨fun _ z => z, fun c fc => upd_ne fun z => g2 (by rw [← z]; exact fc)⟩
    have E6 := E0.trans E5
    refine h5 (.ref p) [p] F4 O4 _ ⟨E6.st.trans st, fun b o k1 k2 k3 k4 => ?_⟩ (R4.out g2 g3 (.dn g1) (fun ps z => by unfold DNo at z; cases z)) ⟨⟨⟨p, o', _, rfl, rfl, upd_same, ⟨rfl, hkk, (p2.stay E4.st).stay st, p4.stay st⟩, True.intro⟩, by simp, fun b hb => by rw [List.mem_singleton.mp hb]; exact g2⟩, fun b hb i => by rw [List.mem_singleton.mp hb]; exact g3 i⟩
    obtain ⟨m1, m2, m3, _⟩ := E6.rest b o k1 k2 k3
    have nb := ne_of_none k1 hp
    exact ⟨by rw [upd_ne nb]; exact m1, m2, m3, by simpa using nb⟩
  · cases el
end
end TY
/-! TyLl: a list of new lists by a comprehension; append to one of them; displays with texts for keys. -/
namespace TY
open PySem PySem.Spec PyProof.Rows L2
section
variable {Z : Wh} {G : Glob} {cf : CallF} {wf : Nat} {io : Bool} {s0 : Option (Option V)} {W : WX} {X : Cx} {a b c : E} {a' b' c' tg : Expr} {pos : Pos} {es : List E} {es' : List Expr}
theorem Rll.append {F : AP} {H : Hp} : ∀ {as bs : List Addr} {xs ys : List (List D)}, Rll Z H F as xs → Rll Z H F bs ys → Rll Z H F (as ++ bs) (xs ++ ys)
  | [], _, [], _, _, h => h
  | _ :: _, _, [], _, h, _ => h.elim
  | [], _, _ :: _, _, h, _ => h.elim
  | _ :: _, _, _ :: _, _, h, g => ⟨h.1, Rll.append h.2 g⟩
/-- the turn of [list(..) for tg in .. if cs] -/
def lclF (G : Glob) (cf : CallF) (el : E) (tg : T) (cs : List E) : D → Tau → Out (List (List D)) := fun d t => (lift (store 0 tg d t) t).bind fun t' _ => (evc G cf cs t').bind fun b t => if b then (ev G cf el t).bind fun x t => match x with
      | .tmp (.l xs) => .ok [xs] t
      | _ => .no else .ok [] t
/-- new lists in a row -/
def rLs (Z : Wh) : RRel (List V) (List (List D)) := fun F O _ H vs cs xss => ∃ as, vs = as.map V.ref ∧ cs = as ∧ Rll Z H F as xss ∧ as.Nodup ∧ (∀ b ∈ as, ¬ F b) ∧ ∀ b ∈ as, ∀ i, b ∉ O i
theorem lcl_rd {el : E} {tgx : T} {it : I} {cs : List E} {own : List Nat} {σ : L2.St} {H : Hp} {Q : VK} (hns : ∀ j ∈ tgx.ns, j ∈ own) (h : rdE Z G cf W (.lcl el tgx it cs own) σ H Q) :
    tLc (rdI Z G cf W it) (rdG Z 0 tgx) (rdC Z G cf W0 cs) (rdE Z G cf W0 el) own σ H Q := by
  obtain ⟨F, O, τ, R, h⟩ := h
  simp only [ev] at h
  refine ⟨F, O, τ, R, (Post.bind h).mono fun J H1 ⟨F1, O1, τ1, ds, c1, E1, R1, r1, _, h1⟩ => ?_⟩
  obtain ⟨rfl, gv⟩ := r1
  intro p hp
  have h1 : Post Z (rO Z σ) W σ F1 O1 H1 ((compL own (lclF G cf el tgx cs) ds [] τ1).bind fun l t => .ok (.tmp (.ll l)) (TY.wipe t own)) Q := Post.weak E1 h1
  let Wi : Nat → Hp → Prop := fun i H => ∃ F2 O2 τ2 acc as, Rl Z F2 O2 (TY.wipe τ2 own) (L2.wipe σ own) H ∧ Ext F1 O1 H1 F2 O2 H as ∧ H p = some (.lst (as.map V.ref)) ∧ Rll Z H F2 as acc ∧ ¬ F2 p ∧ (∀ i, p ∉ O2 i) ∧
    (as.Nodup ∧ p ∉ as ∧ (∀ b ∈ as, ¬ F2 b) ∧ ∀ b ∈ as, ∀ i, b ∉ O2 i) ∧
    Post Z (rO Z σ) W σ F1 O1 H1 ((compL own (lclF G cf el tgx cs) (ds.drop i) acc τ2).bind fun l t => .ok (.tmp (.ll l)) (TY.wipe t own)) Q
  have np : ¬ F1 p ∧ ∀ i, p ∉ O1 i := ⟨R1.trk.no hp, fun i z => (R1.ownTrk z).1.no hp⟩
  have wl : (L2.wipe σ own).length = σ.length := L2.wipe_length σ own
  have wa : ∀ j, j ∉ own → (L2.wipe σ own)[j]? = σ[j]? := fun j hj => by rw [wipeS_at, if_neg fun z => hj z.1]
  have w1 : Wi 0 (upd H1 p (.lst [])) := by
    have R1' := (R1.wipe (own := own) wl wa).out (o := .lst []) np.1 (fun i z => np.2 i (clrs_sub z))
    refine ⟨F1, clrs O1 own, τ1, [], [], R1', ⟨⟨fun _ z => z, fun b fb => upd_ne fun z => np.1 (by rw [← z]; exact fb)⟩, fun b o g1 g2 g3 _ => ⟨by rw [upd_ne (ne_of_none g1 hp)]; exact g1, g2, fun i z => g3 i (clrs_sub z), by simp⟩⟩, upd_same, True.intro, np.1, fun i z => np.2 i (clrs_sub z), ⟨List.nodup_nil, by simp, by simp, by simp⟩, h1⟩
  refine ⟨fun i m H => m = ds.length - i ∧ i ≤ ds.length ∧ Wi i H, ⟨ds.length, rfl, Nat.zero_le _, w1⟩, ?_⟩
  rintro i m H2 ⟨rfl, hile, F2, O2, τ2, acc, as, R2, E2, hp2, ra, nf2, no2, ⟨nd, npa, nfa, noa⟩, h2⟩
  by_cases hlt : i < ds.length
  · refine .inr ⟨gv.go _ _ _ E2.st hlt, Wi (i + 1), fun H' g => ⟨ds.length - (i + 1), by omega, rfl, hlt, g⟩, fun x H3 y => ?_⟩
    have hd := List.getElem?_eq_getElem hlt
    obtain ⟨F3, N3, p3⟩ := gv.yld _ _ _ _ _ _ E2.st R2.trk hd y
    rw [compL_drop hd] at h2
    have R3 := N3.rl R2
    have E3 := N3.ext R2
    cases q : lclF G cf el tgx cs ds[i] (TY.wipe τ2 own) with
    | no => rw [q] at h2; exact h2.elim
    | ex x t => rw [q] at h2; exact h2.elim
    | ok xs t =>
      rw [q] at h2
      simp only at h2
      split at h2
      case isFalse => exact h2.elim
      rename_i hz
      unfold lclF at q
      cases et : store 0 tgx ds[i] (TY.wipe τ2 own) with
      | none => rw [et] at q; cases q
      | some t' =>
        rw [et] at q
        have q : ((evc G cf cs t').bind fun b t => if b then (ev G cf el t).bind fun x t => match x with
          | .tmp (.l xs) => .ok [xs] t
          | _ => .no else .ok [] t) = .ok xs t := q
        refine ⟨F3, O2, TY.wipe τ2 own, ds[i], t', R3, p3, et, fun σ4 O4 R4 E4 sm => ⟨?_, F3, O4, t', R4, ?_⟩⟩
        · exact wipeS_eq (sm.len.trans wl) fun j hj => (sm.at' j fun z => hj (hns j z)).trans (wa j hj)
        have fin : ∀ bs H6, (∃ F6 O6 cs, Ext F3 O4 H3 F6 O6 H6 cs ∧ Rl Z F6 O6 t σ4 H6 ∧ rLs Z F6 O6 t H6 (bs.map V.ref) cs xs ∧ cs = bs) → as.length + bs.length ≤ sizeLine ∧ H6 p = some (.lst (as.map V.ref)) ∧ Wi (i + 1) (upd H6 p (.lst ((as ++ bs).map V.ref))) := fun bs H6 ⟨F6, O6, c6, E6, R6, r6, ec⟩ => by
          obtain ⟨as', ea, ec', r6, nd6, nf6, no6⟩ := r6
          have : as' = bs := ec'.symm.trans ec
          subst this
          subst ec
          have E7 : Ext F2 O2 H2 F6 O6 H6 c6 := (E3.trans E4).trans E6
          obtain ⟨g1, g2, g3, g4⟩ := E7.rest p _ hp2 nf2 no2
          have hal := Rll.trk as acc ra
          have keep : ∀ b ∈ as, H6 b = H2 b ∧ ¬ F6 b ∧ (∀ i, b ∉ O6 i) ∧ b ∉ c6 := fun b hb => by
            obtain ⟨o, ho, hno⟩ := hal b hb
            obtain ⟨m1, m2, m3, m4⟩ := E7.rest b o ho (nfa b hb) (noa b hb)
            exact ⟨m1.trans ho.symm, m2, m3, m4⟩
          have st6 : Stay F6 H6 F6 (upd H6 p (.lst ((as ++ c6).map V.ref))) := ⟨fun _ z => z, fun b fb => upd_ne fun z => g2 (by rw [← z]; exact fb)⟩
          have R7 : Rl Z F6 (clrs O6 own) (TY.wipe t own) (L2.wipe σ own) H6 := R6.wipe (by rw [wl, sm.len, wl]) fun j hj => (sm.at' j fun z => hj (hns j z)).symm
          have E8 := E2.trans E7
          have ne6 : ∀ b ∈ c6, b ≠ p := fun b hb z => g4 (by rw [← z]; exact hb)
          have nea : ∀ b ∈ as, b ≠ p := fun b hb z => npa (by rw [← z]; exact hb)
          have r7 : Rll Z (upd H6 p (.lst ((as ++ c6).map V.ref))) F6 (as ++ c6) (acc ++ xs) := by
            refine Rll.append (Rll.stay (E7.st.trans st6) as acc (fun b hb => by rw [upd_ne (nea b hb)]; exact (keep b hb).1) ra) (Rll.stay st6 c6 xs (fun b hb => upd_ne (ne6 b hb)) r6)
          have E9 := E2.app E7
          refine ⟨by rw [show as.length = acc.length from ra.len, r6.len, line_eq]; exact hz, g1, F6, clrs O6 own, t, acc ++ xs, as ++ c6, R7.out g2 fun i z => g3 i (clrs_sub z), ⟨E8.st.trans st6, fun b o k1 k2 k3 k4 => ?_⟩, upd_same, r7, g2, fun i z => g3 i (clrs_sub z), ⟨?_, ?_, ?_, ?_⟩, h2⟩
          · obtain ⟨m1, m2, m3, m4⟩ := E9.rest b o k1 k2 k3
            exact ⟨by rw [upd_ne (ne_of_none k1 hp)]; exact m1, m2, fun i z => m3 i (clrs_sub z), m4⟩
          · exact List.nodup_append.mpr ⟨nd, nd6, fun b hb c hc z => (keep b hb).2.2.2 (by rw [z]; exact hc)⟩
          · exact fun z => (List.mem_append.mp z).elim npa g4
          · exact fun b hb => (List.mem_append.mp hb).elim (fun z => (keep b z).2.1) (nf6 b)
          · exact fun b hb i z => (List.mem_append.mp hb).elim (fun w => (keep b w).2.2.1 i (clrs_sub z)) (fun w => no6 b w i (clrs_sub z))
        have hq := Post.self (Z := Z) (RR := rLs Z) (W := W0) (σ := σ4) (F := F3) (O := O4) (H := H3) q
        refine (Post.bind hq).mono fun k H5 ⟨F5, O5, τ5, x5, c5, E5, R5, r5, _, h5⟩ => ?_
        obtain ⟨_, rfl⟩ := r5
        cases k with
        | false =>
          obtain ⟨F6, O6, c6, E6, R6, r6⟩ := h5 [] [] F5 O5 H5 E5.drop R5 ⟨[], rfl, rfl, True.intro, List.nodup_nil, by simp, by simp⟩
          obtain ⟨as', ea, ec', r6'⟩ := r6
          have ea' : as' = [] := by simpa using ea.symm
          obtain ⟨_, g1, g2⟩ := fin [] H5 ⟨F6, O6, c6, E6, R6, ⟨as', ea, ec', r6'⟩, ec'.trans ea'⟩
          rw [List.append_nil, upd_id g1] at g2
          exact g2
        | true =>
          refine ⟨F5, O5, τ5, R5, (Post.bind (Post.weak E5 h5)).mono fun v H6 ⟨F6, O6, τ6, x6, c6, E6, R6, r6, _, h6⟩ => ?_⟩
          cases x6 with
          | tmp m =>
            cases m with
            | l ys =>
              have w : Own Z H6 F6 v c6 (.l ys) := r6.1
              obtain ⟨a6, vs6, rfl, rfl, e6, rr6⟩ := id w.rp
              have fin6 := h6 [.ref a6] [a6] F6 O6 H6 E6 R6 ⟨[a6], rfl, rfl, ⟨⟨vs6, e6, rr6⟩, True.intro⟩, by simp, w.nf, r6.2⟩
              obtain ⟨F8, O8, c8, E8, R8, as', ea, ec', r8⟩ := fin6
              have ea' : as' = [a6] := by
                cases as' with
                | nil => simp at ea
                | cons z zs =>
                  cases zs with
                  | nil => simp at ea; rw [ea]
                  | cons _ _ => simp at ea
              obtain ⟨g0, g1, g2⟩ := fin [a6] H6 ⟨F8, O8, c8, E8, R8, ⟨as', ea, ec', r8⟩, ec'.trans ea'⟩
              refine ⟨as.map V.ref, g1, by rw [List.length_map]; exact g0, ?_⟩
              rw [List.map_append] at g2
              exact g2
            | _ => exact h6.elim
          | _ => exact h6.elim
  · have e : i = ds.length := by omega
    subst e
    refine .inl ⟨gv.stop _ _ E2.st, ?_⟩
    rw [List.drop_length] at h2
    refine h2 (.ref p) (p :: as) F2 O2 H2 ⟨E2.st, fun b o k1 k2 k3 k4 => let ⟨m1, m2, m3, m4⟩ := E2.rest b o k1 k2 k3; ⟨m1, m2, m3, fun z => (List.mem_cons.mp z).elim (ne_of_none k1 hp) m4⟩⟩
      (R2.sig wl.symm fun j hj => by
        rw [wipeT_at] at hj
        split at hj
        · exact absurd rfl hj
        · rename_i hi; exact (wa j hi).symm)
      ⟨⟨⟨p, as, rfl, rfl, hp2, ra⟩, List.nodup_cons.mpr ⟨npa, nd⟩, fun b hb => (List.mem_cons.mp hb).elim (fun z => by rw [z]; exact nf2) (nfa b)⟩, fun b hb i => (List.mem_cons.mp hb).elim (fun z => by rw [z]; exact no2 i) (fun z => noa b z i)⟩
section
variable {elt' it' : Expr} {ifs' : List Expr} {scope : Scope} {ow : List (Str × Nat)} {el : E} {tgx : T} {it : I} {cs : List E} {own : List Nat}
theorem e_lcl (A : At Z X) (hi : PI X tg it' (rdI Z G cf W it)) (ok : blkC X.N X.env.scope scope ow = true) (ho : ow.map (·.2) = own) (hns : tgx.ns.all own.contains = true)
    (hg : ∀ (s : Shared) (H : Hp) (C : Addr) (cl : List (Str × Addr)) (fp : List Addr), PG (X.blk s H scope (compEnvC scope cl C X.env) fp) tg (rdG Z 0 tgx))
    (ht : ∀ (s : Shared) (H : Hp) (C : Addr) (cl : List (Str × Addr)) (fp : List Addr), PTs (X.blk s H scope (compEnvC scope cl C X.env) fp) ifs' (rdC Z G cf W0 cs))
    (he : ∀ (s : Shared) (H : Hp) (C : Addr) (cl : List (Str × Addr)) (fp : List Addr), PE (X.blk s H scope (compEnvC scope cl C X.env) fp) elt' (rdE Z G cf W0 el)) (hs : ∀ x, foldedSetIterable it' X.env x = pure x) :
    PE X (.ListComp elt' [⟨tg, it', ifs', 0⟩] scope pos) (rdE Z G cf W (.lcl el tgx it cs own)) :=
  (pe_lc A.cm A.nd hi (blkOk_by ok) hg ht he hs).imp fun σ H Q h => by
    rw [ho]
    exact lcl_rd (fun j hj => by have := List.all_eq_true.mp hns j hj; simpa using this) h
end
/-! ### xs[j].append(e) -/
theorem Rll.set {F : AP} {H : Hp} {p : Addr} {vs : List V} {ys : List D} : ∀ {as : List Addr} {xss : List (List D)} {n : Nat}, Rll Z H F as xss → as[n]? = some p → as.Nodup → H p = some (.lst vs) → ∀ {H' : Hp}, (∀ b, b ≠ p → H' b = H b) → Stay F H F H' → H' p = some (.lst vs) ∨ True → (∃ ws, H' p = some (.lst ws) ∧ Rps Z H' F ws ys) → Rll Z H' F as (xss.set n ys)
  | [], [], n, _, e, _, _, _, _, _, _, _ => by simp at e
  | _ :: _, [], _, h, _, _, _, _, _, _, _, _ => h.elim
  | [], _ :: _, _, h, _, _, _, _, _, _, _, _ => h.elim
  | a :: as, xs :: xss, 0, h, e, nd, hp, H', k, st, _, w => by
    simp only [List.getElem?_cons_zero, Option.some.injEq] at e
    subst e
    rw [List.nodup_cons] at nd
    refine ⟨w, Rll.stay st as xss (fun b hb => k b fun z => nd.1 (by rw [← z]; exact hb)) h.2⟩
  | a :: as, xs :: xss, n + 1, h, e, nd, hp, H', k, st, u, w => by
    simp only [List.getElem?_cons_succ] at e
    rw [List.nodup_cons] at nd
    have ne : a ≠ p := fun z => nd.1 (by rw [z]; exact List.mem_of_getElem? e)
    obtain ⟨vs0, e1, e2⟩ := h.1
    exact ⟨⟨vs0, (k a ne).trans e1, Rps.stay st _ _ e2⟩, Rll.set h.2 e nd.2 hp k st u w⟩
theorem atI_n {vs : List V} {n : Nat} {j : Int} {v : V} (e : ixN vs.length j = some n) (h : vs[n]? = some v) : atI vs j = some v := by
  unfold atI
  rw [ixN_eq, e]
  exact h
/-- xs[j].append(e), j and e names -/
theorem st_app2 {i c k : Nat} {x y z : Str} {p ap cp sp p2 p3 : Pos} (hN : X.N[i]? = some x) (hv : Vis X.env.scope x) (hd : (x == ("__debug__" : Str)) = false) (hcd : (x == ("__classdict__" : Str)) = false)
    (hN2 : X.N[c]? = some y) (hv2 : Vis X.env.scope y) (hd2 : (y == ("__debug__" : Str)) = false) (hcd2 : (y == ("__classdict__" : Str)) = false)
    (hN3 : X.N[k]? = some z) (hv3 : Vis X.env.scope z) (hd3 : (z == ("__debug__" : Str)) = false) (hcd3 : (z == ("__classdict__" : Str)) = false)
    (hl : (ap.endLine == cp.line) = true) (hs : swapsWith (.Call (.Attribute (.Subscript (.Name x p) (.Name y p2) sp) "append" ap) [.Name z p3] [] cp) none pos.line X.env = pure false) :
    PS X (.Expr (.Call (.Attribute (.Subscript (.Name x p) (.Name y p2) sp) "append" ap) [.Name z p3] [] cp) pos) (rdS Z io s0 W (exs G cf wf io (.app2 i (.loc c) (.loc k)))) := by
  have hfew : ((backTo cp (starEach [.Name z p3] X.env)).all (fun x => !x.1) && (backToKw cp (keywordEach [] X.env)).all (fun x => x.1.isSome)
      && decide (([.Name z p3] : List Expr).length + ([] : List Keyword).length + (if ([] : List Keyword).isEmpty then 0 else 1) < 30)) = true := by rfl
  refine (ps_expr (pe_bm F.plainAttrs_list F.slot_list_append F.type_list_append (fun pins s σ H x xs v us Q => mt_append pins s σ H x xs v us Q) (pe_ix ix_list (pe_var hN hv hd hcd) (pe_var hN2 hv2 hd2 hcd2) (plainIx_ok rfl)) (pa_cons (pe_var hN3 hv3 hd3 hcd3) pa_nil rfl) (base_of rfl) hfew hl rfl rfl) hs).imp fun E σ H ⟨h0, F, O, τ, R, h⟩ => ?_
  simp only [exs, ev] at h
  cases gc : getS τ c with
  | none => rw [gc] at h; exact h.elim
  | some sc =>
    cases sc with
    | o m => rw [gc] at h; exact h.elim
    | v dc =>
      rw [gc] at h
      cases dc with
      | int j =>
        obtain ⟨vc, hc, rc⟩ := R.val c _ gc
        obtain rfl : vc = V.int j := rc
        simp only [Out.bind, asI] at h
        obtain ⟨n, en, h⟩ := PostS.lift h
        split at en
        case h_2 => cases en
        rename_i xss gm
        obtain ⟨gs, v0, hv0, w0⟩ := getM_own R gm
        obtain ⟨a, as, e1, e2, e3, e4⟩ := id w0.rp
        subst e1
        have hn : n < xss.length := by
          unfold ixN at en
          split at en
          · split at en
            · cases en; omega
            · cases en
          · split at en
            · cases en; omega
            · cases en
        obtain ⟨pa, vs, q1, q2, q3⟩ := Rll.get e4 (List.getElem?_eq_getElem hn)
        have hat : atI (as.map V.ref) j = some (.ref pa) := atI_n (n := n) (by rw [List.length_map, e4.len]; exact en) (by rw [List.getElem?_map, q1]; rfl)
        have arg : ∃ y x0, σ[k]? = some (some y) ∧ rO Z σ F O τ H y [] x0 ∧ ev G cf (.loc k) τ = .ok x0 τ := by
          simp only [ev] at h ⊢
          cases gk : getS τ k with
          | none => rw [gk] at h; exact h.elim
          | some sk =>
            cases sk with
            | v d =>
              obtain ⟨y, g1, g2⟩ := R.val k _ gk
              exact ⟨y, .val d, g1, ⟨⟨rfl, g2⟩, fun _ hb => absurd hb (by simp)⟩, rfl⟩
            | o m =>
              obtain ⟨y, g1, _⟩ := R.own k _ gk
              exact ⟨y, .slot k, g1, ⟨⟨rfl, g1⟩, fun _ hb => absurd hb (by simp)⟩, rfl⟩
        obtain ⟨y, x0, hk, r0, ee⟩ := arg
        have h : PostS Z io s0 W F O H ((ev G cf (.loc k) τ).bind fun x t => (frz x t).bind fun d t => (app2M i n d t).bind fun _ t => .ok .nx t) E := by
          simp only [ev]
          exact h
        rw [ee] at h
        have h : PostS Z io s0 W F O H ((frz x0 τ).bind fun d t => (app2M i n d t).bind fun _ t => .ok .nx t) E := h
        obtain ⟨F2, O2, τ2, d, E2, R2, p2, _, h2⟩ := PostS.frz .refl R r0 h
        unfold app2M at h2
        split at h2
        case h_2 => exact h2.elim
        rename_i xss2 gm2
        split at h2
        case h_2 => exact h2.elim
        rename_i xs2 gx2
        split at h2
        case isFalse => exact h2.elim
        rename_i hz
        obtain ⟨gs2, v2, hv2, w2⟩ := getM_own R2 gm2
        rw [hv0] at hv2; cases hv2
        obtain ⟨a', as2, f1, f2, f3, f4⟩ := id w2.rp
        cases f1
        have eas : as2 = as := by
          rw [e3] at f3
          have := HO.lst.inj (Option.some.inj f3)
          exact (List.map_inj_right (fun x y h => V.ref.inj h)).mp this.symm
        subst eas
        obtain ⟨pa', vs', g1, g2, g3⟩ := Rll.get f4 gx2
        rw [q1] at g1; cases g1
        rw [q2] at g2; cases g2
        have pO : pa ∈ O2 i := by rw [f2]; exact List.mem_cons_of_mem _ (List.mem_of_getElem? q1)
        have nd := w2.nd
        rw [f2, List.nodup_cons] at nd
        have nea : a ≠ pa := fun e => nd.1 (by rw [e]; exact List.mem_of_getElem? q1)
        have st : Stay F2 H F2 (upd H pa (.lst (vs ++ [y]))) := ⟨fun _ z => z, fun b fb => upd_ne fun e => w2.nf pa pO (by rw [← e]; exact fb)⟩
        obtain ⟨R5, E5⟩ := Rl.wr (m' := .ll (xss2.set n (xs2 ++ [d]))) (o := .lst (vs ++ [y])) R2 gs2 pO hv0
          ⟨a, as2, rfl, f2, by rw [upd_ne nea]; exact f3, Rll.set f4 q1 nd.2 q2 (fun b hb => upd_ne hb) st (.inr trivial) ⟨_, upd_same, Rps.append (Rps.stay st _ _ g3) ⟨p2.stay st, True.intro⟩⟩⟩
        refine ⟨.ref a, hv0, .int j, hc, a, as2.map V.ref, j, .ref pa, rfl, rfl, SqL.of e3, hat, .inl ⟨rfl, vs, SqL.of q2⟩, y, hk, pa, vs, y, rfl, rfl, q2, by rw [g3.len, line_eq]; exact hz, ?_⟩
        exact h2 σ F2 O2 _ E5 R5 h0
      | _ => exact h.elim
end
end TY
/-! TyEn: enumerate over a list, a tuple or a text. -/
namespace TY
open PySem PySem.Spec PyProof.Rows L2
/-- what is walked -/
inductive Kd where
  | l (a : Addr) | t (a : Addr) | s (x : Str) (k : Tok)
/-- what stands there -/
def SeqK (K : PySem.W.Frag) (H : Hp) : Kd → List V → Prop
  | .l a, xs => SqL K H a xs
  | .t a, xs => SqT K H a xs
  | .s x _, xs => xs = x.cps.toList.map fun c => V.str ⟨#[c]⟩
/-- its iterator at turn i -/
def ItK (h : Heap) (it : Addr) (i : Nat) : Kd → Prop
  | .l a => h.IsListIter it a i
  | .t a => h.IsTupleIter it a i
  | .s x k => h.IsStrIter it (strIterType x) x k i
theorem ItK.at {h h' : Heap} {it : Addr} {i : Nat} {k : Kd} (x : ItK h it i k) (q : ∀ o, h.get? it = some o → h'.get? it = some o) : ItK h' it i k := by
  cases k <;> (obtain ⟨o, e, r⟩ := x; exact ⟨o, q o e, r⟩)
theorem ItK.obj {h : Heap} {it : Addr} {i : Nat} {k : Kd} (x : ItK h it i k) : ∃ o, h.get? it = some o ∧ ∀ v, o.data ≠ .cell v := by
  cases k <;> (obtain ⟨o, e, _, d⟩ := x; exact ⟨o, e, fun v z => by rw [d] at z; cases z⟩)
section
variable {X : Cx} {pins : List (Addr × Obj)} {σ : L2.St} {H : Hp} {s : Shared}
/-- what it draws, from the heap as it stands -/
theorem draws_k {A : Around} {k : Kd} {xs : List V} {it : Addr} {i0 : Nat} (hh : A.handled = none) (I : Inv X pins σ H s) (hq : SeqK X.K H k xs) (hi : ItK s.heap it i0 k) (e : Addr) (he : ∃ o, s.heap.get? e = some o ∧ o.cls = .type "enumerate") :
    ∃ (fp : List Addr) (n : Nat) (P : Nat → Value → Prop) (St : Nat → Heap → Prop), Draws X.prog X.w A it fp n P St ∧ St i0 s.heap ∧ n = xs.length ∧ (∀ i v, P i v → ∃ y, xs[i]? = some y ∧ RelV y v) ∧ (∀ i h, St i h → ItK h it i k) ∧ e ≠ it ∧ e ∉ fp := by
  obtain ⟨oe, hoe, hce⟩ := he
  have ne : ∀ {b : Addr} {o : Obj}, s.heap.get? b = some o → o.cls ≠ .type "enumerate" → e ≠ b := fun hb hc z => by
    rw [z, hb] at hoe; cases hoe; exact hc hce
  cases k with
  | l a =>
    obtain ⟨its, rv, p, hz⟩ := I.list hq
    obtain ⟨oi, e1, e2, e3⟩ := id hi
    obtain ⟨ol, nn, f1, f2, _, f4⟩ := id p
    have hne : a ≠ it := fun z => by rw [z, e1] at f1; cases f1; rw [e2] at f2; injection f2 with q; exact absurd q (by decide)
    refine ⟨_, _, _, _, Draws.list hh it a hne its.toArray, ⟨hi, p.isList⟩, by rw [List.size_toArray]; exact rv.length.symm, fun i v hv => ?_, fun i h st => st.1, ne e1 (by rw [e2]; decide), ?_⟩
    · have hv : its[i]? = some v := by simpa using hv
      have hl : i < xs.length := by rw [rv.length]; exact (List.getElem?_eq_some_iff.mp hv).1
      obtain ⟨u, hu, ru⟩ := rv.get (List.getElem?_eq_getElem hl)
      rw [hv] at hu; cases hu
      exact ⟨_, List.getElem?_eq_getElem hl, ru⟩
    · simp only [List.mem_cons, List.not_mem_nil, or_false, not_or]
      exact ⟨ne e1 (by rw [e2]; decide), ne f1 (by rw [f2]; decide)⟩
  | t a =>
    obtain ⟨its, rv, p, hz⟩ := I.tuple hq
    obtain ⟨oi, e1, e2, e3⟩ := id hi
    obtain ⟨ol, f1, f2, _⟩ := id p
    have hne : a ≠ it := fun z => by rw [z, e1] at f1; cases f1; rw [e2] at f2; injection f2 with q; exact absurd q (by decide)
    refine ⟨_, _, _, _, Draws.tuple hh it a hne its.toArray, ⟨hi, p⟩, by rw [List.size_toArray]; exact rv.length.symm, fun i v hv => ?_, fun i h st => st.1, ne e1 (by rw [e2]; decide), ?_⟩
    · have hv : its[i]? = some v := by simpa using hv
      have hl : i < xs.length := by rw [rv.length]; exact (List.getElem?_eq_some_iff.mp hv).1
      obtain ⟨u, hu, ru⟩ := rv.get (List.getElem?_eq_getElem hl)
      rw [hv] at hu; cases hu
      exact ⟨_, List.getElem?_eq_getElem hl, ru⟩
    · simp only [List.mem_cons, List.not_mem_nil, or_false, not_or]
      exact ⟨ne e1 (by rw [e2]; decide), ne f1 (by rw [f2]; decide)⟩
  | s x t =>
    obtain ⟨oi, e1, e2, e3⟩ := id hi
    have hc : oi.cls ≠ .type "enumerate" := by
      rw [e2]; unfold strIterType; split <;> decide
    have hq : xs = x.cps.toList.map fun c => V.str ⟨#[c]⟩ := hq
    refine ⟨_, _, _, _, Draws.text hh it x t, hi, by rw [hq]; simp, fun i v ⟨c, u, hc, ev⟩ => ?_, fun i h st => st, ne e1 hc, by simpa using ne e1 hc⟩
    refine ⟨.str ⟨#[c]⟩, ?_, by rw [ev]; exact ⟨u, rfl⟩⟩
    rw [hq, List.getElem?_map, Array.getElem?_toList, hc]; rfl
end
theorem seq_inj {X : Cx} {pins : List (Addr × Obj)} {σ : L2.St} {H : Hp} {s : Shared} {k : Kd} {xs ys : List V} (I : Inv X pins σ H s) (h1 : SeqK X.K H k xs) (h2 : SeqK X.K H k ys) : xs = ys := by
  cases k with
  | l a => exact I.list_inj h1 h2
  | t a => exact I.tuple_inj h1 h2
  | s x t => exact (show xs = _ from h1).trans (show ys = _ from h2).symm
/-- enumerate of it, each item in a new pair -/
def Iek (K : PySem.W.Frag) (k : Kd) : It :=
  ⟨fun i H => ∃ xs, SeqK K H k xs ∧ i < xs.length, fun i H v H' => ∃ T x, v = .ref T ∧ H T = none ∧ H' = upd H T (.tup [.int (i : Nat), x]) ∧ ∀ xs, SeqK K H k xs → xs[i]? = some x, fun i H => ∃ xs, SeqK K H k xs ∧ xs.length = i⟩
theorem turn_ek {P : Program} {w : World} {K : PySem.W.Frag} {elts : List Expr} {kk : Nat} {tpos : Pos} (k : Kd) (e it : Addr) :
    Turn P w K (.Tuple elts kk tpos) (Iek K k) [e, it] e (fun i h => (∃ old, IsEnum h e it ((i : Nat) : Int) old) ∧ ItK h it i k ∧ e ≠ it) where
  mem := by simp
  obj := fun i h st b hb => by
    obtain ⟨⟨old, he⟩, hi, _⟩ := st
    rcases (by simpa using hb : b = e ∨ b = it) with rfl | rfl
    · exact ⟨_, he, fun v q => nomatch q⟩
    · exact hi.obj
  keep := fun i h h' ⟨⟨old, he⟩, hi, hne⟩ q => ⟨⟨old, q e (by simp) _ he⟩, hi.at fun o z => q it (by simp) o z, hne⟩
  item := by
    intro X hP hw hK hc i pins s σ H E I hf st hg
    subst hP hw hK
    obtain ⟨⟨old, he⟩, hit, hne⟩ := st
    obtain ⟨xs, hq, hlt⟩ := hg
    obtain ⟨fp, n, P, St, D, hst, hn, hP, hSt, hei, hef⟩ := draws_k (A := X.A.in1) (I.ok.hd hc) I hq hit e ⟨_, he, rfl⟩
    have hel := Heap.lt_size he
    obtain ⟨oi, hoi, _⟩ := hit.obj
    have hil := Heap.lt_size hoi
    refine wpAny_pyNext_enum_itemD D he hst (by rw [hn]; exact hlt) hei hef fun x h' tk hPx ho hst' hT hsz hk => ?_
    obtain ⟨y, hy, ry⟩ := hP i x hPx
    refine ⟨_, rfl, wpAny_letOwnedTupleGo_enum (s := { s with heap := h', toks := tk + 1 }) ho fun h'' he' sb => ?_⟩
    have hT2 : h''.get? s.heap.objs.size = some { cls := .type "tuple", data := .seq #[.int i tk, x] } := (sb.2 _ (Nat.ne_of_gt hel)).trans hT
    have new : ObjOk X.prog X.w (upd H s.heap.objs.size (.tup [.int (i : Nat), y])) h'' s.heap.objs.size (.tup [.int (i : Nat), y]) :=
      ⟨by show 2 ≤ sizeLine; decide, [.int i tk, x], .cons ⟨_, rfl⟩ (.cons ry .nil), ⟨_, hT2, rfl, _, rfl⟩⟩
    have I1 : Inv X pins σ (upd H s.heap.objs.size (.tup [.int (i : Nat), y])) { s with heap := h'', toks := tk + 1 } :=
      I.turnedNew (ch := [e, it]) (fun b ob hb q => (sb.2 b (fun z => hb (by simp [z]))).trans (hk b ob (fun z => hb (by simp [z])) (fun z => hb (by simp [z])) q)) hf (Nat.le_refl _) new
    refine ⟨.ref s.heap.objs.size, _, I1, rfl, ⟨_, y, rfl, I.hok.fresh (Nat.le_refl _), rfl, fun ys hys => by rw [seq_inj I hys hq]; exact hy⟩, ⟨⟨x, ?_⟩, (hSt _ _ hst').at fun o q => (sb.2 it (Ne.symm hne)).trans q, hne⟩, fun b hb => ?_⟩
    · rw [show ((i + 1 : Nat) : Int) = (i : Int) + 1 by omega]; exact he'
    · rw [upd_ne (Nat.ne_of_lt (by rcases (by simpa using hb : b = e ∨ b = it) with rfl | rfl <;> assumption))]
      exact (hf b hb).1
  done := by
    intro X hP hw hK hc i pins s σ H E I hf st hg
    subst hP hw hK
    obtain ⟨⟨old, he⟩, hit, hne⟩ := st
    obtain ⟨xs, hq, rfl⟩ := hg
    obtain ⟨fp, n, P, St, D, hst, rfl, hP, hSt, hei, hef⟩ := draws_k (A := X.A.in1) (I.ok.hd hc) I hq hit e ⟨_, he, rfl⟩
    obtain ⟨f0, f1, f2, f3, f4, f5⟩ := hf it (by simp)
    exact wpAny_pyNext_enum_endD D he hst fun h' eb => ⟨rfl, I.turned (t' := s.toks) (fun b o hb q => eb b o hb q) f0 f1 f3 f4 f5⟩
  self := fun A i s Q E ⟨⟨_, he⟩, _⟩ h => wpAny_pyIter_enum he h
/-- the maker: enumerate(v) for any v whose walk begins with the one object o -/
theorem meets_enum1 {v : Value} {o : Obj} {H : Heap → Prop} (B : Begins v o H) :
    Meets (Builtin.«enumerate.__new__» ⟨[.type "enumerate", v], []⟩) (fun _ R s => H s.heap ∧
      R (.ok (.ret (.ref (s.heap.push o).objs.size))) { s with heap := (s.heap.push o).push { cls := .type "enumerate", data := .fields #[.none, .bool false, .ref s.heap.objs.size, rawInt 0, .none, .none] } }) :=
  .of_wp fun prog w A R s h => by
    obtain ⟨hp, gg, dd, tk, os⟩ := s; obtain ⟨hH, h⟩ := h
    have hsub := sub_enumerate
    have qq : ∀ {A' : Around} {E : Value → Shared → Prop} {Q : Value → Shared → Prop}, Q (.ref hp.objs.size) ⟨hp.push o, gg, dd, tk, os⟩ → wpAny (model prog w) A' (pyIter v) Q E ⟨hp, gg, dd, tk, os⟩ :=
      fun z => B.iter prog w _ _ ⟨hp, gg, dd, tk, os⟩ _ hH z
    wp_walk
    refine wpAny_stack_any fun st => wpAny_pure ?_
    split
    · rename_i c _ _ _ _ _
      cases (c == Value.type "enumerate") <;> (wp_walk using qq; exact ⟨_, rfl, h⟩)
    · wp_walk using qq
      exact ⟨_, rfl, h⟩
section
variable {X : Cx} {pins : List (Addr × Obj)} {σ : L2.St} {H : Hp} {s : Shared}
def isK (u : Value) : Kd → Prop
  | .l a => u = .ref a
  | .t a => u = .ref a
  | .s x t => u = .str x t
/-- its walk begins -/
theorem begins_k {k : Kd} {u : Value} {xs : List V} (I : Inv X pins σ H s) (hq : SeqK X.K H k xs) (hu : isK u k) : ∃ o HH, Begins u o HH ∧ HH s.heap ∧ ∀ h it, h.get? it = some o → ItK h it 0 k := by
  cases k with
  | l a =>
    cases hu
    obtain ⟨its, rv, p, hz⟩ := I.list hq
    exact ⟨_, _, begins_list a its.toArray, p.isList, fun h it e => ⟨_, e, rfl, rfl⟩⟩
  | t a =>
    cases hu
    obtain ⟨its, rv, p, hz⟩ := I.tuple hq
    exact ⟨_, _, begins_tuple a its.toArray, p, fun h it e => ⟨_, e, rfl, rfl⟩⟩
  | s x t =>
    cases hu
    exact ⟨_, _, begins_text x t, trivial, fun h it e => ⟨_, e, rfl, rfl⟩⟩
/-- enumerate of a value: its two cells, walked -/
theorem call_enum {k : Kd} {u : Value} {xs : List V} {R : It → Hp → Prop} {elts : List Expr} {kk : Nat} {tpos : Pos} (I : Inv X pins σ H s) (hq : SeqK X.K H k xs)
    (hu : isK u k) (q : R (Iek X.K k) H) : wpAny (model X.prog X.w) X.A (call (.type "enumerate") [u]) (fun xv s₁ => wpAny (model X.prog X.w) X.A (pyIter xv) (PIE X pins σ (.Tuple elts kk tpos) R) X.xe s₁) X.xe s := by
  obtain ⟨o, HH, B, hH, hI⟩ := begins_k I hq hu
  refine callType_new F.called_enumerate (by decide) (F.typeCall_enumerate_1 _) (F.newCall_enumerate_1 _) (fun obj => F.args_object_init_2 obj _) F.entry_enumerate_new (meets_enum1 B) ⟨hH, ?_⟩
  have hz : (s.heap.push o).objs.size = s.heap.objs.size + 1 := Heap.size_push ..
  show _ ∧ _
  rw [hz]
  generalize hh : (s.heap.push o).push { cls := .type "enumerate", data := .fields #[.none, .bool false, .ref s.heap.objs.size, rawInt 0, .none, .none] } = h'
  have he : IsEnum h' (s.heap.objs.size + 1) s.heap.objs.size ((0 : Nat) : Int) .none := by
    have := Heap.get?_push_size (s.heap.push o) (o := { cls := .type "enumerate", data := .fields #[.none, .bool false, .ref s.heap.objs.size, rawInt 0, .none, .none] }) rfl
    rw [hz, hh] at this
    exact this
  have hi : h'.get? s.heap.objs.size = some o := by rw [← hh]; exact Heap.get?_push_of_some _ (Heap.get?_push_size _ B.free)
  have hk : ∀ b o', s.heap.get? b = some o' → h'.get? b = some o' := fun b o' e => by rw [← hh]; exact Heap.get?_push_of_some _ (Heap.get?_push_of_some _ e)
  refine ⟨⟨_, he, rfl⟩, wpAny_pyIter_enum he ?_⟩
  have I2 : Inv X pins σ H { s with heap := h' } := I.kept (t' := s.toks) hk
  refine ⟨s.heap.objs.size + 1, [s.heap.objs.size + 1, s.heap.objs.size], _, _, H, rfl, I2, turn_ek k (s.heap.objs.size + 1) s.heap.objs.size, ⟨⟨.none, he⟩, hI _ _ hi, Nat.succ_ne_self _⟩, fun b hb => ?_, q⟩
  have hle : s.heap.objs.size ≤ b := by
    rcases (by simpa using hb : b = s.heap.objs.size + 1 ∨ b = s.heap.objs.size) with z | z <;> rw [z]
    · exact Nat.le_add_right _ _
    · exact Nat.le_refl _
  exact I.fpOk hle (I.hok.fresh hle)
end
/-- a value that can be walked -/
def EkV (v : V) (P : Kd → Prop) : Prop := ∃ kf : Value → Kd, (∀ u, RelV v u → isK u (kf u)) ∧ ∀ u, RelV v u → P (kf u)
def iEk (K : PySem.W.Frag) (te : TE) : TI := fun σ H R => te σ H fun v H1 => ∃ v', [v] = [v'] ∧ EkV v' fun k => (∃ xs, SeqK K H1 k xs) ∧ R (Iek K k) H1
theorem pi_ek {X : Cx} {a' : Expr} {te : TE} {p pos tpos : Pos} {elts : List Expr} {kk : Nat} (hg : Gl X "enumerate") (hm : X.mg "enumerate" = none) (he : PE X a' te) (hn : noStar a' = true) :
    PI X (.Tuple elts kk tpos) (.Call (.Name "enumerate" p) [a'] [] pos) (iEk X.K te) := by
  refine ⟨fun pins s σ H R I h => ?_⟩
  have ha : PA X [a'] (tCons te tNil) := pa_cons he pa_nil (star_of (noStar_ne hn) _ _)
  refine Call_ (ld_blt I hg hm boot_enumerate (PyProof.Rows.callWith_type1 (thn (ha.run pos pins s σ H (fun vs H1 => ∃ v, vs = [v] ∧ EkV v fun k => (∃ xs, SeqK X.K H1 k xs) ∧ R (Iek X.K k) H1) I h) fun us s1 ⟨vs, H1, I1, r1, q1⟩ => ?_) (star_of (noStar_ne hn) _ _) rfl))
  obtain ⟨v, rfl, kf, h1, h2⟩ := q1
  cases r1 with
  | cons r rr =>
    cases rr
    obtain ⟨⟨xs, hq⟩, q⟩ := h2 _ r
    exact call_enum I1 hq (h1 _ r) q
theorem enumFrom_get : ∀ {xs : List D} {n i : Nat}, (enumFrom n xs)[i]? = (xs[i]?).map fun y => .tup [.int ((n + i : Nat) : Int), y]
  | [], n, i => by simp [enumFrom]
  | x :: r, n, 0 => by simp [enumFrom]
  | x :: r, n, i + 1 => by
    rw [enumFrom, List.getElem?_cons_succ, enumFrom_get, List.getElem?_cons_succ]
    rw [show n + 1 + i = n + (i + 1) by omega]
theorem enumFrom_len : ∀ {xs : List D} {n : Nat}, (enumFrom n xs).length = xs.length
  | [], _ => rfl
  | x :: r, n => by rw [enumFrom, List.length_cons, enumFrom_len, List.length_cons]
section
variable {Z : Wh} {G : Glob} {fN : Nat → Str} {fs : Nat → Option Fn} {cf : CallF} {k wf : Nat} {X : Cx} {N : List Str} {sc : Scope} {nf : Str → Bool} {W : WX} {a b c : E} {a' b' c' tg : Expr} {pos p : Pos} {es : List E} {es' : List Expr} {x y : Str}
theorem gives_ek {F : AP} {H : Hp} {kd : Kd} {vs : List V} {xs : List D} (hS : ∀ F' H', Stay F H F' H' → SeqK Z.K H' kd vs) (r : Rps Z H F vs xs) : Gives Z (Iek Z.K kd) F H (enumFrom 0 xs) := by
  refine ⟨fun F' H' i st hi => ⟨vs, hS F' H' st, by rw [enumFrom_len] at hi; rw [r.len]; exact hi⟩, fun F' H' st => ⟨vs, hS F' H' st, by rw [enumFrom_len, r.len]⟩, fun F' H' i x H'' d st tk hd y => ?_⟩
  obtain ⟨T, x0, rfl, hT, rfl, hx⟩ := y
  rw [enumFrom_get] at hd
  obtain ⟨y0, hy0, rfl⟩ := Option.map_eq_some_iff.mp hd
  obtain ⟨v, h1, h2⟩ := r.get hy0
  have := hx vs (hS F' H' st)
  rw [h1] at this; cases this
  have n1 : New F' H' (fun a => F' a ∨ a = T) (upd H' T (.tup [.int (i : Nat), x0])) [] := New.one hT
  refine ⟨_, n1, T, _, rfl, .inl ⟨.inr rfl, .inl upd_same⟩, ?_, ?_, True.intro⟩
  · show V.int (i : Nat) = V.int ((0 + i : Nat) : Int)
    rw [Nat.zero_add]
  · exact (h2.stay st).stay (n1.stay tk)
/-- a value's kind, by what it is -/
theorem ekv_of {v : V} {d : D} {F : AP} {H : Hp} {xs : List D} {P : Kd → Prop} (p : Rp Z H F v d) (e : seqN d = some xs) (hP : ∀ kd vs, (∀ F' H', Stay F H F' H' → SeqK Z.K H' kd vs) → Rps Z H F vs xs → P kd) : EkV v P := by
  unfold seqN at e
  split at e
  · cases e
    obtain ⟨l, vs, rfl, fl, el, r⟩ := p
    exact ⟨fun _ => .l l, fun u h => h, fun u h => hP _ vs (fun F' H' st => SqL.of ((st.h l fl).trans el)) r⟩
  · cases e
    obtain ⟨l, vs, rfl, hl, r⟩ := p
    exact ⟨fun _ => .t l, fun u h => h, fun u h => hP _ vs (fun F' H' st => hl.elim (fun z => .inl (Rd.stay (st.h l z.1) z.2)) .inr) r⟩
  · rename_i s
    cases e
    cases p
    refine ⟨fun u => match u with | .str x t => .s x t | _ => .l 0, fun u h => ?_, fun u h => ?_⟩
    · obtain ⟨t, rfl⟩ := h; rfl
    · obtain ⟨t, rfl⟩ := h
      refine hP _ (s.map fun c => .str (sS [c])) (fun F' H' st => ?_) ?_
      · show _ = (sS s).cps.toList.map _
        show s.map _ = s.toArray.toList.map _
        rfl
      · clear hP
        induction s with
        | nil => exact True.intro
        | cons c r ih => exact ⟨rfl, ih⟩
  · cases e
theorem Bd.en (B : Bd Z G fN fs cf k X N sc nf W) {ts : List Expr} {kk : Nat} {tp : Pos} (ha : PE X a' (rdE Z G cf W a)) (h1 : glB sc "enumerate" = true := by decide +kernel) (hn : noStar a' = true := by rfl) : PI X (.Tuple ts kk tp) (.Call (.Name "enumerate" p) [a'] [] pos) (rdI Z G cf W (.enum a)) :=
  (pi_ek (gl_of (by rw [B.s]; exact h1)).1 (B.bl _ (by decide +kernel)) ha hn).imp fun σ H R ⟨F, O, τ, R0, h⟩ => by
    simp only [evi] at h
    refine ⟨F, O, τ, R0, (Post.bind h).mono fun v H1 ⟨F1, O1, τ1, x1, c1, E1, R1, r1, _, h1⟩ => ?_⟩
    obtain ⟨F2, O2, τ2, d, E2, R2, p2, _, h2⟩ := Post.frz E1 R1 r1 h1
    obtain ⟨ds, e, h3⟩ := Post.lift0 h2
    obtain ⟨xs, e1, rfl⟩ := Option.map_eq_some_iff.mp e
    refine ⟨v, rfl, ekv_of p2 e1 fun kd vs hS r => ⟨⟨vs, ?_⟩, ?_⟩⟩
    · rw [B.A.k]; exact hS _ _ .refl
    · rw [B.A.k]
      exact h3.done0 R2 ⟨rfl, gives_ek hS r⟩
end
end TY
/-! TyRv: a text read backwards. -/
namespace TY
open PySem PySem.Spec PyProof.Rows L2
theorem rev_made (z : List Nat) : ((Builtin.Str.strSliceIndices none none (-1) (sS z).length).filterMap ((sS z).cps[·]?)).toArray = z.reverse.toArray := by
  rw [picked_rev]
  congr 1
  show ((List.range z.toArray.size).map fun k => z.toArray.size - 1 - k).filterMap (z.toArray[·]?) = z.reverse
  rw [List.size_toArray, PySem.W.krv_range, List.filterMap_reverse]
  congr 1
  have := PySem.W.krv_all z.toArray
  rw [List.size_toArray] at this
  exact this
def tRvS (te : TE) : TE := fun σ H Q => te σ H fun x H1 => ∃ z : List Nat, x = .str (sS z) ∧ z.length ≤ 1000 ∧ Q (.str (sS z.reverse)) H1
theorem pe_rvS {X : Cx} {e : Expr} {te : TE} {k : Nat} {p1 p2 p3 pos : Pos} (he : PE X e te) : PE X (.Subscript e (.Slice none none (some (.UnaryOp .USub (.Constant (.int 1) k p1) p2)) p3) pos) (tRvS te) := by
  refine ⟨fun pins s σ H Q I h => Subscript_ (thn (he.run pins s σ H _ I h) fun v s1 ⟨x, H1, I1, r1, z, ex, hz, q⟩ => ?_)⟩
  subst ex
  obtain ⟨t, rfl⟩ := r1
  have neg1 : PO X (some (.UnaryOp .USub (.Constant (.int 1) k p1) p2)) (tPart (tUn (rU fun i => .int (-i)) (tC (.int 1)))) := po_some (pe_un un_neg pe_int)
  refine wpAny_Slice (thn (po_none.run pins s1 σ H1 (fun o H' => o = none ∧ H' = H1) I1 ⟨rfl, rfl⟩) fun va s2 ⟨oa, Ha, Ia, pa, ea, ha⟩ => ?_)
  subst ea ha
  refine thn (po_none.run pins s2 σ Ha (fun o H' => o = none ∧ H' = Ha) Ia ⟨rfl, rfl⟩) fun vb s3 ⟨ob, Hb, Ib, pb, eb, hb⟩ => ?_
  subst eb hb
  refine thn (neg1.run pins s3 σ Hb (fun o H' => o = some (-1) ∧ H' = Hb) Ib ⟨1, rfl, -1, rfl, rfl, rfl⟩) fun vc s4 ⟨oc, Hc, Ic, pc, ec, hc⟩ => ?_
  subst ec hc
  have I5 : Inv X pins σ Hc { s4 with heap := s4.heap.push { cls := .type "slice", data := .fields #[va, vb, vc] } } := Ic.kept (t' := s4.toks) fun b ob q => Heap.get?_push_of_some _ q
  show wpAny (model X.prog X.w) X.A (subscriptTail e _ (.str (sS z) t) (.ref s4.heap.objs.size)) (EP X pins σ Q) X.xe _
  refine tail_any (ops := [.str (sS z) t, .ref s4.heap.objs.size]) (typeIs_str _ _ _) F.slot_str_getitem.lookup ?_ (by with_unfolding_all rfl)
  obtain ⟨la, rfl, ea⟩ := IsPart.raw pa
  obtain ⟨lb, rfl, eb⟩ := IsPart.raw pb
  obtain ⟨lc, rfl, ec⟩ := IsPart.raw pc
  cases la with
  | some _ => cases ea
  | none =>
    cases lb with
    | some _ => cases eb
    | none =>
      cases lc with
      | none => cases ec
      | some l =>
        obtain ⟨i, u⟩ := l
        have ei : i = -1 := by simpa using ec
        subst ei
        refine wpAny_getItem_str_slice (l := none) (u := none) (st := some (-1, u)) ⟨_, Heap.get?_push_size _ rfl, rfl, rfl⟩ rfl ?_
        unfold sliceMade slicePicked
        rw [if_neg (by show ¬ (((-1 : Int) == 1 && _) = true); simp)]
        show Made.post (Made.str ⟨((Builtin.Str.strSliceIndices none none (-1) (sS z).length).filterMap ((sS z).cps[·]?)).toArray⟩) _ _
        rw [rev_made]
        refine ⟨?_, .str _, Hc, I5.tok _, ⟨_, rfl⟩, q⟩
        show z.reverse.toArray.size ≤ sizeLine
        rw [List.size_toArray, List.length_reverse]
        exact Nat.le_trans hz (by decide)
section
variable {Z : Wh} {G : Glob} {fN : Nat → Str} {fs : Nat → Option Fn} {cf : CallF} {k wf : Nat} {X : Cx} {N : List Str} {sc : Scope} {nf : Str → Bool} {W : WX} {a : E} {a' : Expr} {pos : Pos}
theorem Bd.rv (B : Bd Z G fN fs cf k X N sc nf W) {j : Nat} {p1 p2 p3 : Pos} (ha : PE X a' (rdE Z G cf W a)) : PE X (.Subscript a' (.Slice none none (some (.UnaryOp .USub (.Constant (.int 1) j p1) p2)) p3) pos) (rdE Z G cf W (.rev a)) :=
  (pe_rvS ha).imp fun σ H Q ⟨F, O, τ, R, h⟩ => by
    simp only [ev] at h
    refine ⟨F, O, τ, R, (Post.bind h).mono fun x H1 ⟨F1, O1, τ1, x1, c1, E1, R1, r1, _, h1⟩ => ?_⟩
    obtain ⟨r, e, h2⟩ := Post.lift0 h1
    obtain ⟨d, e1, e2⟩ := Option.bind_eq_some_iff.mp e
    have q := r1.1.der R1 e1
    unfold TY.rev at e2
    split at e2
    · rename_i z
      split at e2
      · rename_i hz
        cases e2
        cases q
        exact ⟨z, rfl, hz, h2 _ [] F1 O1 H1 E1.drop R1 ⟨⟨rfl, rfl⟩, fun _ hb => absurd hb (by simp)⟩⟩
      · cases e2
    · cases e2
end
end TY
/-! TyEz: for i, (x, y) in enumerate(zip(a, b)): zip's tuple is still out at its next turn; a token says which. -/
namespace TY
open PySem PySem.Spec PyProof.Rows L2
section
variable {prog : Program} {w : World} {A : Around} {E : Value → Shared → Prop} {s : Shared}
/-- enumerate's turn over an iterator that may lay new things -/
theorem enum_next_x {e it : Addr} {i : Nat} {old : Value} {Q : Value → Shared → Prop} (he : IsEnum s.heap e it i old)
    (hn : wpAny (model prog w) A (Builtin.SmallTypes.nextOf (.ref it)) (fun x s1 => IsEnum s1.heap e it i old ∧
      ∀ h', IsEnumOut h' e it ((i : Int) + 1) x s1.heap.objs.size → h'.get? s1.heap.objs.size = some { cls := .type "tuple", data := .seq #[.int i s1.toks, x] } → h'.objs.size = s1.heap.objs.size + 1 →
        (∀ b o, b ≠ e → s1.heap.get? b = some o → h'.get? b = some o) → Q (.ref s1.heap.objs.size) { s1 with heap := h', toks := s1.toks + 1 }) E s) :
    wpAny (model prog w) A (Builtin.«enumerate.__next__» ⟨[.ref e], []⟩) (fun fin s' => ∃ v, fin = .done (.ret v) ∧ Q v s') E s := by
  show wpAny _ _ (field (.ref e) 2 >>= _) _ _ _
  refine wpAny_bind (wpAny_field he rfl (x := .ref it) rfl ?_)
  refine wpAny_bind (wpAny_mono hn (fun x s1 ⟨he1, hQ⟩ => ?_) fun _ _ z => z)
  obtain ⟨hp, gg, dd, tk, os⟩ := s1
  have he1 : IsEnum hp e it i old := he1
  have hel : e < hp.objs.size := Heap.lt_size he1
  show wpAny _ _ (field (.ref e) 3 >>= _) _ _ ⟨hp, gg, dd, tk, os⟩
  refine wpAny_bind (wpAny_field he1 rfl (x := rawInt i) rfl ?_)
  show wpAny _ _ (field (.ref e) 4 >>= _) _ _ ⟨hp, gg, dd, tk, os⟩
  refine wpAny_bind (wpAny_field he1 rfl (x := .none) rfl ?_)
  show wpAny _ _ (mkInt i >>= _) _ _ ⟨hp, gg, dd, tk, os⟩
  refine wpAny_bind (wpAny_mkInt ?_)
  show wpAny _ _ (setField (.ref e) 3 (rawInt ((i : Int) + 1)) >>= _) _ _ ⟨hp, gg, dd, tk + 1, os⟩
  refine wpAny_bind (wpAny_setField_rec he1 (by simp) fun g2 ge2 gs2 => ?_)
  replace gs2 : Heap.SameBut e hp g2 := gs2
  replace ge2 : IsEnum g2 e it ((i : Int) + 1) old := ge2
  show wpAny _ _ (setField (.ref e) 4 .none >>= _) _ _ ⟨g2, gg, dd, tk + 1, os⟩
  refine wpAny_bind (wpAny_setField_rec ge2 (by simp) fun g3 ge3 gs3 => ?_)
  replace gs3 : Heap.SameBut e g2 g3 := gs3
  replace ge3 : IsEnum g3 e it ((i : Int) + 1) old := ge3
  show wpAny _ _ (newTuple [.int i tk, x] >>= _) _ _ ⟨g3, gg, dd, tk + 1, os⟩
  refine wpAny_bind (wpAny_newTuple ?_)
  have ge4 : IsEnum (g3.push { cls := .type "tuple", data := .seq #[.int i tk, x] }) e it ((i : Int) + 1) old := Heap.get?_push_of_some _ ge3
  have hsz : g3.objs.size = hp.objs.size := by rw [gs3.1, gs2.1]
  have gt4 : (g3.push { cls := .type "tuple", data := .seq #[.int i tk, x] }).get? hp.objs.size = some { cls := .type "tuple", data := .seq #[.int i tk, x] } := by rw [← hsz]; exact Heap.get?_push_size _ rfl
  have gz4 : (g3.push { cls := .type "tuple", data := .seq #[.int i tk, x] }).objs.size = hp.objs.size + 1 := by rw [Heap.size_push, hsz]
  have gk4 : ∀ b o, b ≠ e → hp.get? b = some o → (g3.push { cls := .type "tuple", data := .seq #[.int i tk, x] }).get? b = some o := fun b o hb q => Heap.get?_push_of_some _ (gs3.extBut b o hb (gs2.extBut b o hb q))
  generalize g3.push { cls := .type "tuple", data := .seq #[.int i tk, x] } = g4 at ge4 gt4 gz4 gk4
  show wpAny _ _ (Builtin.SmallTypes.ownedTupleIsFree (.ref e) >>= _) _ _ ⟨g4, gg, dd, tk + 1, os⟩
  rw [hsz]
  refine wpAny_bind ?_
  unfold Builtin.SmallTypes.ownedTupleIsFree
  refine wpAny_bind (wpAny_field ge4 rfl (x := .none) rfl (wpAny_pure ?_))
  simp only [if_true]
  refine wpAny_bind (wpAny_rule ?_)
  refine wpAny_bind (wpAny_field ge4 rfl (x := old) rfl ?_)
  refine wpAny_bind (wpAny_setField_rec ge4 (by simp) fun g5 ge5 gs5 => ?_)
  replace gs5 : Heap.SameBut e g4 g5 := gs5
  replace ge5 : IsEnum g5 e it ((i : Int) + 1) x := ge5
  show wpAny _ _ (Builtin.SmallTypes.ownedTupleHandOut (.ref e) (.ref hp.objs.size) >>= _) _ _ ⟨g5, gg, dd, tk + 1, os⟩
  refine wpAny_bind ?_
  unfold Builtin.SmallTypes.ownedTupleHandOut
  refine wpAny_bind (wpAny_setField_rec ge5 (by simp) fun g6 ge6 gs6 => ?_)
  replace gs6 : Heap.SameBut e g5 g6 := gs6
  replace ge6 : IsEnumOut g6 e it ((i : Int) + 1) x hp.objs.size := ge6
  refine wpAny_setField_rec ge6 (by simp) fun g7 ge7 gs7 => ?_
  replace gs7 : Heap.SameBut e g6 g7 := gs7
  replace ge7 : IsEnumOut g7 e it ((i : Int) + 1) x hp.objs.size := ge7
  have up : ∀ b o, b ≠ e → g4.get? b = some o → g7.get? b = some o := fun b o hb q => gs7.extBut b o hb (gs6.extBut b o hb (gs5.extBut b o hb q))
  refine wpAny_bind (wpAny_letGo (wpAny_pure ⟨_, rfl, hQ g7 ge7 (up _ _ (Nat.ne_of_gt hel) gt4) ?_ fun b o hb q => up b o hb (gk4 b o hb q)⟩))
  show g7.objs.size = hp.objs.size + 1
  rw [gs7.1, gs6.1, gs5.1, gz4]
theorem pyNext_enum_x {e it : Addr} {i : Nat} {old : Value} {Q : Option Value → Shared → Prop} (he : IsEnum s.heap e it i old)
    (hn : wpAny (model prog w) A.in1 (Builtin.SmallTypes.nextOf (.ref it)) (fun x s1 => IsEnum s1.heap e it i old ∧
      ∀ h', IsEnumOut h' e it ((i : Int) + 1) x s1.heap.objs.size → h'.get? s1.heap.objs.size = some { cls := .type "tuple", data := .seq #[.int i s1.toks, x] } → h'.objs.size = s1.heap.objs.size + 1 →
        (∀ b o, b ≠ e → s1.heap.get? b = some o → h'.get? b = some o) → Q (some (.ref s1.heap.objs.size)) { s1 with heap := h', toks := s1.toks + 1 }) (fun ex s1 => ∃ (o : Obj) (a : Addr), ex = .ref a ∧ s1.heap.get? a = some o ∧ o.cls = .type "StopIteration" ∧ Q none s1) s) :
    wpAny (model prog w) A (pyNext (.ref e)) Q E s := by
  have hT : s.TypeIs (.ref e) "enumerate" := ⟨_, he, rfl⟩
  unfold pyNext
  refine wpAny_bind (wpAny_attempt (wpAny_callSpecial?_slot (name := Str.ofString "__next__") hT F.slot_enumerate_next (wpAny_call_entry F.slot_enumerate_next hT F.entry_enumerate_next
    (wpAny_mono (enum_next_x he (wpAny_mono hn (fun x s1 ⟨h1, h2⟩ => ⟨h1, fun h' a b c d => wpAny_pure (h2 h' a b c d)⟩) fun _ _ z => z)) (fun _ _ z => z) (fun ex s1 ⟨o, a, ea, ho, hc, q⟩ => ?_)) (F.args_enumerate_next_1 _))))
  subst ea
  exact wpAny_bind (wpAny_isInstance (T := "StopIteration") (b := true) ⟨o, ho, hc⟩ isSubtype_stop (wpAny_pure q))
/-- the cells of the zip at turn i; which tuple is out -/
structure ZSt (h : Heap) (z TI TO i1 i2 a b : Addr) (i : Nat) (tok : Option Addr) : Prop where
  zs : match tok with
    | none => IsZip h z TI TO .none
    | some T => ∃ f, IsZipHeld h z TI TO T f
  ti : IsPair h TI (.ref i1) (.ref i2)
  to : ∃ x y, IsPair h TO x y
  i1 : h.IsListIter i1 a i
  i2 : h.IsListIter i2 b i
theorem ZSt.at {h h' : Heap} {z TI TO i1 i2 a b : Addr} {i : Nat} {tok : Option Addr} (x : ZSt h z TI TO i1 i2 a b i tok) (k : ∀ c ∈ [z, TI, TO, i1, i2], ∀ o, h.get? c = some o → h'.get? c = some o) : ZSt h' z TI TO i1 i2 a b i tok := by
  refine ⟨?_, k TI (by simp) _ x.ti, x.to.imp fun u ⟨v, q⟩ => ⟨v, k TO (by simp) _ q⟩, x.i1.at fun o q => k i1 (by simp) o q, x.i2.at fun o q => k i2 (by simp) o q⟩
  have := x.zs
  cases tok with
  | none => exact k z (by simp) _ this
  | some T => obtain ⟨f, q⟩ := this; exact ⟨f, k z (by simp) _ q⟩
theorem ZSt.zobj {h : Heap} {z TI TO i1 i2 a b : Addr} {i : Nat} {tok : Option Addr} (x : ZSt h z TI TO i1 i2 a b i tok) : ∃ fs, h.get? z = some { cls := .type "zip", dict := none, data := .fields fs, slots := #[] } := by
  have := x.zs
  cases tok with
  | none => exact ⟨_, this⟩
  | some T => obtain ⟨f, q⟩ := this; exact ⟨_, q⟩
/-- zip's turn within another's -/
theorem nextOf_zip {z TI TO i1 i2 a b : Addr} {i : Nat} {tok : Option Addr} {xs ys : Array Value} {x y : Value} {Q : Value → Shared → Prop} (D : ZipApart z TI TO i1 i2 a b) (st : ZSt s.heap z TI TO i1 i2 a b i tok) (ht : ∀ T, tok = some T → ∃ o, s.heap.get? T = some o)
    (hl1 : s.heap.IsList a xs) (hl2 : s.heap.IsList b ys) (hx : xs[i]? = some x) (hy : ys[i]? = some y)
    (hQ : ∀ h' t, ZSt h' z TI TO i1 i2 a b (i + 1) (some t) → (t = s.heap.objs.size ∨ tok = some t) → IsPair h' s.heap.objs.size x y → h'.objs.size = s.heap.objs.size + 1 → (∀ c o, c ∉ [z, TI, TO, i1, i2] → s.heap.get? c = some o → h'.get? c = some o) → Q (.ref s.heap.objs.size) { s with heap := h' }) :
    wpAny (model prog w) A (Builtin.SmallTypes.nextOf (.ref z)) Q E s := by
  obtain ⟨fs, hz⟩ := st.zobj
  have hT : s.TypeIs (.ref z) "zip" := ⟨_, hz, rfl⟩
  unfold Builtin.SmallTypes.nextOf
  refine wpAny_bind (wpAny_callSpecial?_slot (name := Str.ofString "__next__") hT F.slot_zip_next (wpAny_call_entry F.slot_zip_next hT F.entry_zip_next ?_ (F.args_zip_next_1 _)))
  cases tok with
  | none =>
    have q1 := st.zs
    obtain ⟨u, v, q2⟩ := st.to
    refine zip_next_item D q1 st.ti q2 st.i1 st.i2 hl1 hl2 hx hy fun h' a1 a2 a3 a4 a5 a6 a7 => wpAny_pure (hQ h' _ ⟨⟨false, a1⟩, a7 _ _ D.TIz D.TITO D.TIi1 D.TIi2 st.ti, ⟨_, _, a2⟩, a3, a4⟩ (.inl rfl) a5 a6 fun c o hc e => ?_)
    simp only [List.mem_cons, List.not_mem_nil, or_false, not_or] at hc
    exact a7 c o hc.1 hc.2.2.1 hc.2.2.2.1 hc.2.2.2.2 e
  | some T =>
    obtain ⟨f, q⟩ := st.zs
    obtain ⟨oT, hoT⟩ := ht T rfl
    refine zip_next_item_held D q hoT st.ti st.i1 st.i2 hl1 hl2 hx hy fun h' a1 a3 a4 a5 a6 a7 => wpAny_pure (hQ h' T ⟨⟨true, a1⟩, a7 _ _ D.TIz D.TIi1 D.TIi2 st.ti, st.to.imp fun u ⟨v, q⟩ => ⟨v, a7 _ _ D.TOz D.TOi1 D.TOi2 q⟩, a3, a4⟩ (.inr rfl) a5 a6 fun c o hc e => ?_)
    simp only [List.mem_cons, List.not_mem_nil, or_false, not_or] at hc
    exact a7 c o hc.1 hc.2.2.2.1 hc.2.2.2.2 e
theorem nextOf_zip_end {z TI TO i1 i2 a b : Addr} {i : Nat} {tok : Option Addr} {xs ys : Array Value} {Q : Value → Shared → Prop} (hh : A.handled = none) (D : ZipApart z TI TO i1 i2 a b) (st : ZSt s.heap z TI TO i1 i2 a b i tok) (ht : ∀ T, tok = some T → ∃ o, s.heap.get? T = some o)
    (hl1 : s.heap.IsList a xs) (hl2 : s.heap.IsList b ys) (hend : xs[i]? = none ∨ ys[i]? = none)
    (hE : ∀ h' e, (∀ c o, c ∉ [z, TI, TO, i1, i2] → s.heap.get? c = some o → h'.get? c = some o) → (∃ o, h'.get? e = some o ∧ o.cls = .type "StopIteration") → E (.ref e) { s with heap := h' }) :
    wpAny (model prog w) A (Builtin.SmallTypes.nextOf (.ref z)) Q E s := by
  obtain ⟨fs, hz⟩ := st.zobj
  have hT : s.TypeIs (.ref z) "zip" := ⟨_, hz, rfl⟩
  unfold Builtin.SmallTypes.nextOf
  refine wpAny_bind (wpAny_callSpecial?_slot (name := Str.ofString "__next__") hT F.slot_zip_next (wpAny_call_entry F.slot_zip_next hT F.entry_zip_next ?_ (F.args_zip_next_1 _)))
  cases tok with
  | none =>
    have q1 := st.zs
    obtain ⟨u, v, q2⟩ := st.to
    refine zip_next_end hh D q1 st.ti q2 st.i1 st.i2 hl1 hl2 hend fun h' e hk he => hE h' e (fun c o hc e => ?_) he
    simp only [List.mem_cons, List.not_mem_nil, or_false, not_or] at hc
    exact hk c o hc.1 hc.2.2.1 hc.2.2.2.1 hc.2.2.2.2 e
  | some T =>
    obtain ⟨f, q⟩ := st.zs
    obtain ⟨oT, hoT⟩ := ht T rfl
    refine zip_next_end_held hh D q hoT st.ti st.i1 st.i2 hl1 hl2 hend fun h' e hk he => hE h' e (fun c o hc e => ?_) he
    simp only [List.mem_cons, List.not_mem_nil, or_false, not_or] at hc
    exact hk c o hc.1 hc.2.2.2.1 hc.2.2.2.2 e
end
/-! ### the walk, its tuple by a token -/
/-- the state of enumerate's and zip's cells -/
structure EZ (h : Heap) (e z TI TO i1 i2 a b : Addr) (i : Nat) (tok : Option Addr) : Prop where
  en : ∃ old, IsEnum h e z ((i : Nat) : Int) old
  zs : ZSt h z TI TO i1 i2 a b i tok
theorem EZ.at {h h' : Heap} {e z TI TO i1 i2 a b : Addr} {i : Nat} {tok : Option Addr} (x : EZ h e z TI TO i1 i2 a b i tok) (k : ∀ c ∈ [e, z, TI, TO, i1, i2], ∀ o, h.get? c = some o → h'.get? c = some o) : EZ h' e z TI TO i1 i2 a b i tok :=
  ⟨x.en.imp fun old q => k e (by simp) _ q, x.zs.at fun c hc o q => k c (by simp only [List.mem_cons] at hc ⊢; exact .inr hc) o q⟩
section
variable {X : Cx} {pins : List (Addr × Obj)} {σ : L2.St} {H : Hp} {s : Shared} {E : Value → Shared → Prop} {e z TI TO i1 i2 a b : Addr} {i : Nat} {tok : Option Addr} {vs ws : List V}
theorem EZ.objs {h : Heap} (x : EZ h e z TI TO i1 i2 a b i tok) : ∀ c ∈ [e, z, TI, TO, i1, i2], ∃ o, h.get? c = some o ∧ ∀ v, o.data ≠ .cell v := by
  intro c hc
  obtain ⟨old, q⟩ := x.en
  obtain ⟨fs, q2⟩ := x.zs.zobj
  obtain ⟨o1, e1, _, d1⟩ := x.zs.i1
  obtain ⟨o2, e2, _, d2⟩ := x.zs.i2
  simp only [List.mem_cons, List.not_mem_nil, or_false] at hc
  rcases hc with rfl | rfl | rfl | rfl | rfl | rfl
  · exact ⟨_, q, fun v z => nomatch z⟩
  · exact ⟨_, q2, fun v z => nomatch z⟩
  · exact ⟨_, x.zs.ti, fun v z => nomatch z⟩
  · obtain ⟨u, v, q⟩ := x.zs.to; exact ⟨_, q, fun v z => nomatch z⟩
  · exact ⟨_, e1, fun v z => by rw [d1] at z; cases z⟩
  · exact ⟨_, e2, fun v z => by rw [d2] at z; cases z⟩
/-- one turn -/
theorem ez_item {elts : List Expr} {kk : Nat} {tpos : Pos} (hc : X.calm = true) (D : ZipApart z TI TO i1 i2 a b) (ne : e ∉ [z, TI, TO, i1, i2]) (I : Inv X pins σ H s) (hf : ∀ c ∈ [e, z, TI, TO, i1, i2], FpOk X pins H c) (st : EZ s.heap e z TI TO i1 i2 a b i tok)
    (ht : ∀ T, tok = some T → Trk H T) (q1 : SqL X.K H a vs) (q2 : SqL X.K H b ws) {v w' : V} (hv : vs[i]? = some v) (hw : ws[i]? = some w') :
    wpAny (model X.prog X.w) X.A (pyNext (.ref e)) (fun r s1 => ∃ u, r = some u ∧
      wpAny (model X.prog X.w) X.A (letOwnedTupleGo (.Tuple elts kk tpos) (.ref e) u) (fun _ s2 => ∃ T1 T2 t, T1 ≠ T2 ∧ H T1 = none ∧ H T2 = none ∧ u = .ref T2 ∧ Inv X pins σ (upd (upd H T1 (.tup [v, w'])) T2 (.tup [.int (i : Nat), .ref T1])) s2 ∧
        EZ s2.heap e z TI TO i1 i2 a b (i + 1) (some t) ∧ (t = T1 ∨ tok = some t) ∧ T1 ∉ [e, z, TI, TO, i1, i2] ∧ T2 ∉ [e, z, TI, TO, i1, i2]) E s1) E s := by
  obtain ⟨old, he⟩ := st.en
  obtain ⟨its1, r1, p1, _⟩ := I.list q1
  obtain ⟨its2, r2, p2, _⟩ := I.list q2
  obtain ⟨u1, hu1, ru1⟩ := r1.get hv
  obtain ⟨u2, hu2, ru2⟩ := r2.get hw
  have alive : ∀ T, tok = some T → ∃ o, s.heap.get? T = some o := fun T hT => by
    obtain ⟨o, ho, _⟩ := ht T hT
    exact objOk_get (I.hok T o ho)
  have low : ∀ c ∈ [e, z, TI, TO, i1, i2], c < s.heap.objs.size := fun c hcm => by
    obtain ⟨o, ho, _⟩ := st.objs c hcm
    exact Heap.lt_size ho
  have nin : ∀ T, s.heap.objs.size ≤ T → T ∉ [e, z, TI, TO, i1, i2] := fun T hT hm => absurd (Nat.lt_of_lt_of_le (low T hm) hT) (Nat.lt_irrefl _)
  refine pyNext_enum_x he (nextOf_zip D st.zs alive p1.isList p2.isList (x := u1) (y := u2) (by simpa using hu1) (by simpa using hu2) fun h1 t zs1 tk1 pr1 sz1 k1 => ⟨?_, fun h2 eo tp sz2 k2 => ?_⟩)
  · exact k1 e _ ne he
  have zst2 : ZSt h2 z TI TO i1 i2 a b (i + 1) (some t) := zs1.at fun c hcm o q => k2 c o (fun z => ne (by rw [← z]; exact hcm)) q
  have hh1 : h1.objs.size = s.heap.objs.size + 1 := sz1
  refine ⟨_, rfl, wpAny_letOwnedTupleGo_enum (s := { s with heap := h2, toks := s.toks + 1 }) eo fun h3 he3 sb => ?_⟩
  -- the pair first
  have new1 : ObjOk X.prog X.w (upd H s.heap.objs.size (.tup [v, w'])) h1 s.heap.objs.size (.tup [v, w']) :=
    ⟨by show 2 ≤ sizeLine; decide, [u1, u2], .cons ru1 (.cons ru2 .nil), ⟨_, pr1, rfl, _, rfl⟩⟩
  have I1 : Inv X pins σ (upd H s.heap.objs.size (.tup [v, w'])) { s with heap := h1 } :=
    I.turnedNew (t' := s.toks) (ch := [e, z, TI, TO, i1, i2]) (fun c o hb q => k1 c o (fun hm => hb (List.mem_cons_of_mem _ hm)) q) hf (Nat.le_refl _) new1
  have hf1 : ∀ c ∈ [e], FpOk X pins (upd H s.heap.objs.size (.tup [v, w'])) c := fun c hcm => by
    have hc' : c ∈ [e, z, TI, TO, i1, i2] := by rw [List.mem_singleton.mp hcm]; exact List.mem_cons_self
    obtain ⟨f0, fr⟩ := hf c hc'
    exact ⟨by rw [upd_ne (Nat.ne_of_lt (low c hc'))]; exact f0, fr⟩
  have tp3 : h3.get? h1.objs.size = some { cls := .type "tuple", data := .seq #[.int i s.toks, .ref s.heap.objs.size] } := (sb.2 _ (Nat.ne_of_gt (by rw [hh1]; exact Nat.lt_succ_of_lt (low e List.mem_cons_self)))).trans tp
  have new2 : ObjOk X.prog X.w (upd (upd H s.heap.objs.size (.tup [v, w'])) h1.objs.size (.tup [.int (i : Nat), .ref s.heap.objs.size])) h3 h1.objs.size (.tup [.int (i : Nat), .ref s.heap.objs.size]) :=
    ⟨by show 2 ≤ sizeLine; decide, [.int i s.toks, .ref s.heap.objs.size], .cons ⟨_, rfl⟩ (.cons rfl .nil), ⟨_, tp3, rfl, _, rfl⟩⟩
  have I2 : Inv X pins σ (upd (upd H s.heap.objs.size (.tup [v, w'])) h1.objs.size (.tup [.int (i : Nat), .ref s.heap.objs.size])) { s with heap := h3, toks := s.toks + 1 } :=
    I1.turnedNew (t' := s.toks + 1) (ch := [e]) (fun c o hb q => (sb.2 c (fun z => hb (by simp [z]))).trans (k2 c o (fun z => hb (by simp [z])) q)) hf1 (Nat.le_refl _) new2
  have hT2 : s.heap.objs.size ≤ h1.objs.size := by rw [hh1]; exact Nat.le_succ _
  refine ⟨s.heap.objs.size, h1.objs.size, t, Nat.ne_of_lt (by rw [hh1]; exact Nat.lt_succ_self _), I.hok.fresh (Nat.le_refl _), I.hok.fresh hT2, rfl, I2, ⟨⟨.ref s.heap.objs.size, ?_⟩, zst2.at fun c hcm o q => (sb.2 c fun z => ne (by rw [← z]; exact hcm)).trans q⟩, tk1, nin _ (Nat.le_refl _), nin _ hT2⟩
  rw [show ((i + 1 : Nat) : Int) = (i : Int) + 1 by omega]
  exact he3
/-- the end -/
theorem ez_done (hc : X.calm = true) (D : ZipApart z TI TO i1 i2 a b) (I : Inv X pins σ H s) (hf : ∀ c ∈ [e, z, TI, TO, i1, i2], FpOk X pins H c) (st : EZ s.heap e z TI TO i1 i2 a b i tok)
    (ht : ∀ T, tok = some T → Trk H T) (q1 : SqL X.K H a vs) (q2 : SqL X.K H b ws) (hend : vs.length ≤ i ∨ ws.length ≤ i) :
    wpAny (model X.prog X.w) X.A (pyNext (.ref e)) (fun r s1 => r = none ∧ Inv X pins σ H s1) E s := by
  obtain ⟨old, he⟩ := st.en
  obtain ⟨its1, r1, p1, _⟩ := I.list q1
  obtain ⟨its2, r2, p2, _⟩ := I.list q2
  have alive : ∀ T, tok = some T → ∃ o, s.heap.get? T = some o := fun T hT => by
    obtain ⟨o, ho, _⟩ := ht T hT
    exact objOk_get (I.hok T o ho)
  have l1 := r1.length
  have l2 := r2.length
  have hx : its1.toArray[i]? = none ∨ its2.toArray[i]? = none := by
    rcases hend with h | h
    · exact .inl (by simp; omega)
    · exact .inr (by simp; omega)
  refine pyNext_enum_x he (nextOf_zip_end (I.ok.hd hc) D st.zs alive p1.isList p2.isList hx fun h' x hk ⟨o, ho, hco⟩ => ⟨o, x, rfl, ho, hco, rfl, ?_⟩)
  exact I.turnedL (t' := s.toks) (ch := [e, z, TI, TO, i1, i2]) (fun c o hb q => hk c o (fun hm => hb (List.mem_cons_of_mem _ hm)) q) hf
end
/-- enumerate over a zip: it walks itself -/
theorem meets_enum_self {z TI TO : Addr} :
    Meets (Builtin.«enumerate.__new__» ⟨[.type "enumerate", .ref z], []⟩) (fun _ R s => IsZip s.heap z TI TO .none ∧
      R (.ok (.ret (.ref s.heap.objs.size))) { s with heap := s.heap.push { cls := .type "enumerate", data := .fields #[.none, .bool false, .ref z, rawInt 0, .none, .none] } }) :=
  .of_wp fun prog w A R s h => by
    obtain ⟨hp, gg, dd, tk, os⟩ := s; obtain ⟨hH, h⟩ := h
    have hsub := sub_enumerate
    have qq : ∀ {A' : Around} {E : Value → Shared → Prop} {Q : Value → Shared → Prop}, Q (.ref z) ⟨hp, gg, dd, tk, os⟩ → wpAny (model prog w) A' (pyIter (.ref z)) Q E ⟨hp, gg, dd, tk, os⟩ :=
      fun q => wpAny_pyIter_zip hH q
    wp_walk
    refine wpAny_stack_any fun st => wpAny_pure ?_
    split
    · rename_i c _ _ _ _ _
      cases (c == Value.type "enumerate") <;> (wp_walk using qq; exact ⟨_, rfl, h⟩)
    · wp_walk using qq
      exact ⟨_, rfl, h⟩
/-- what has come -/
def EzI (X : Cx) (pins : List (Addr × Obj)) (σ : L2.St) (R : Addr → Addr → Hp → Prop) (itv : Value) (s2 : Shared) : Prop :=
  ∃ (e z TI TO i1 i2 a b : Addr) (H' : Hp), itv = .ref e ∧ Inv X pins σ H' s2 ∧ ZipApart z TI TO i1 i2 a b ∧ e ∉ [z, TI, TO, i1, i2] ∧ EZ s2.heap e z TI TO i1 i2 a b 0 none ∧ (∀ c ∈ [e, z, TI, TO, i1, i2], FpOk X pins H' c) ∧ R a b H'
set_option maxHeartbeats 1600000 in
theorem ez_begin {X : Cx} {a' b' : Expr} {t : TA} {p p2 p3 pos : Pos} {pins : List (Addr × Obj)} {s : Shared} {σ : L2.St} {H : Hp} {R : Addr → Addr → Hp → Prop} (I : Inv X pins σ H s) (hg : Gl X "enumerate") (hm : X.mg "enumerate" = none) (hg2 : Gl X "zip") (hm2 : X.mg "zip" = none) (ha : PA X [a', b'] t) (hn : noStar a' = true) (hn2 : noStar b' = true)
    (h : t σ H fun vs H1 => ∃ la lb xs ys, vs = [.ref la, .ref lb] ∧ SqL X.K H1 la xs ∧ SqL X.K H1 lb ys ∧ R la lb H1) :
    wpAny (model X.prog X.w) X.A (eval (.Call (.Name "enumerate" p) [.Call (.Name "zip" p2) [a', b'] [] p3] [] pos) X.env) (fun v s1 => wpAny (model X.prog X.w) X.A (pyIter v) (EzI X pins σ R) X.xe s1) X.xe s := by
  refine Call_ (ld_blt I hg hm boot_enumerate (PyProof.Rows.callWith_type1 ?_ rfl rfl))
  show wpAny _ _ (spliced ((false, eval (.Call (.Name "zip" p2) [a', b'] [] p3) X.env) :: backTo pos (starEach [] X.env))) _ _ s
  refine Calls.spliced_cons ?_
  refine Call_ (ld_blt I hg2 hm2 PyProof.Rows.boot_zip (PyProof.Rows.callWith_type1 (thn (ha.run p3 pins s σ H _ I h) fun us s1 ⟨vs, H1, I1, r1, q1⟩ => ?_) (star_of (noStar_ne hn) _ _) (stars_of (by simp [hn2]))))
  obtain ⟨la, lb, xs, ys, rfl, h1, h2, q⟩ := q1
  obtain ⟨ua, ub, rfl, e1, e2⟩ := Vals.two r1
  · cases e1
    cases e2
    obtain ⟨its1, r1, p1, _⟩ := I1.list h1
    obtain ⟨its2, r2, p2', _⟩ := I1.list h2
    have la' : la < s1.heap.objs.size := p1.lt
    have lb' : lb < s1.heap.objs.size := p2'.lt
    refine call_zip_2 p1.isList p2'.isList fun h' hz hTI hTO k1 k2 hsz hk => Calls.spliced_nil ?_
    refine callType_new F.called_enumerate (by decide) (F.typeCall_enumerate_1 _) (F.newCall_enumerate_1 _) (fun obj => F.args_object_init_2 obj _) F.entry_enumerate_new meets_enum_self ⟨hz, ?_⟩
    have hz5 : (h' : Heap).objs.size = s1.heap.objs.size + 5 := hsz
    have he : IsEnum (h'.push { cls := .type "enumerate", data := .fields #[.none, .bool false, .ref (s1.heap.objs.size + 4), rawInt 0, .none, .none] }) h'.objs.size (s1.heap.objs.size + 4) ((0 : Nat) : Int) .none := Heap.get?_push_size _ rfl
    have hk2 : ∀ c o, h'.get? c = some o → (h'.push { cls := .type "enumerate", data := .fields #[.none, .bool false, .ref (s1.heap.objs.size + 4), rawInt 0, .none, .none] }).get? c = some o := fun c o e => Heap.get?_push_of_some _ e
    refine ⟨⟨_, he, rfl⟩, wpAny_pyIter_enum he ?_⟩
    have I2 : Inv X pins σ H1 { s1 with heap := h'.push { cls := .type "enumerate", data := .fields #[.none, .bool false, .ref (s1.heap.objs.size + 4), rawInt 0, .none, .none] } } := I1.kept (t' := s1.toks) fun c o e => hk2 c o (hk c o e)
    refine ⟨h'.objs.size, s1.heap.objs.size + 4, s1.heap.objs.size + 2, s1.heap.objs.size + 3, s1.heap.objs.size, s1.heap.objs.size + 1, la, lb, H1, rfl, I2, PySem.W.ktu_apart _ _ _ la' lb', ?_, ⟨⟨_, he⟩, ⟨hk2 _ _ hz, hk2 _ _ hTI, ⟨_, _, hk2 _ _ hTO⟩, k1.at fun o e => hk2 _ o e, k2.at fun o e => hk2 _ o e⟩⟩, fun c hc => ?_, q⟩
    · rw [hz5]
      simp only [List.mem_cons, List.not_mem_nil, or_false, not_or]
      generalize s1.heap.objs.size = n
      exact ⟨fun e => by have e : (n + 5 : Nat) = n + 4 := e; omega, fun e => by have e : (n + 5 : Nat) = n + 2 := e; omega, fun e => by have e : (n + 5 : Nat) = n + 3 := e; omega, fun e => by have e : (n + 5 : Nat) = n := e; omega, fun e => by have e : (n + 5 : Nat) = n + 1 := e; omega⟩
    · have hle : s1.heap.objs.size ≤ c := by
        rw [hz5] at hc
        simp only [List.mem_cons, List.not_mem_nil, or_false] at hc
        rcases hc with rfl | rfl | rfl | rfl | rfl | rfl <;> first | exact Nat.le_refl _ | exact Nat.le_add_right _ _
      exact I1.fpOk hle (I1.hok.fresh hle)
theorem zipD_get : ∀ {xs ys : List D} {i : Nat} {d : D}, (zipD xs ys)[i]? = some d → ∃ x y, xs[i]? = some x ∧ ys[i]? = some y ∧ d = .tup [x, y]
  | [], _, _, _, h => by simp [zipD] at h
  | _ :: _, [], _, _, h => by simp [zipD] at h
  | x :: r, y :: s, 0, d, h => by
    simp [zipD] at h
    exact ⟨x, y, rfl, rfl, h.symm⟩
  | x :: r, y :: s, i + 1, d, h => by
    rw [zipD, List.getElem?_cons_succ] at h
    obtain ⟨u, v, h1, h2, h3⟩ := zipD_get h
    exact ⟨u, v, by simpa using h1, by simpa using h2, h3⟩
theorem zipD_len : ∀ {xs ys : List D}, (zipD xs ys).length = min xs.length ys.length
  | [], _ => by simp [zipD]
  | _ :: _, [] => by simp [zipD]
  | x :: r, y :: s => by rw [zipD, List.length_cons, zipD_len]; simp only [List.length_cons]; omega
section
variable {Z : Wh} {G : Glob} {cf : CallF} {wf : Nat} {io : Bool} {s0 : Option (Option V)} {W : WX} {X : Cx} {a b : E} {a' b' : Expr}
theorem ez_evi {τ : Tau} : evi G cf (.enumzip a b) τ = (evs G cf [a, b] τ).bind fun ds t => lift (match ds with
    | [d, e] => (lstN d).bind fun d => (lstN e).map fun e => enumFrom 0 (zipD d e)
    | _ => none) t := by
  simp only [evi, evs]
  cases ev G cf a τ with
  | no => rfl
  | ex _ _ => rfl
  | ok x t =>
    simp only [Out.bind]
    cases TY.frz x t with
    | no => rfl
    | ex _ _ => rfl
    | ok d t =>
      simp only
      cases ev G cf b t with
      | no => rfl
      | ex _ _ => rfl
      | ok y t =>
        simp only
        cases TY.frz y t <;> rfl
theorem st_ez {ss : List S} {ss' : List Stmt} {tgx : T} {elts : List Expr} {kk : Nat} {tpos p p2 p3 pos pos0 : Pos} (A : At Z X) (hp : PassesOwn (model X.prog X.w) X.A X.env X.xe) (hg : Gl X "enumerate") (hm : X.mg "enumerate" = none) (hg2 : Gl X "zip") (hm2 : X.mg "zip" = none)
    (ha : PA X [a', b'] (rdDs Z G cf W [a, b])) (hn : noStar a' = true) (hn2 : noStar b' = true) (htg : PG X (.Tuple elts kk tpos) (rdG Z io.toNat tgx)) (hb : PSs X ss' (rdS Z io s0 W (exss G cf wf io ss))) :
    PS X (.For (.Tuple elts kk tpos) (.Call (.Name "enumerate" p) [.Call (.Name "zip" p2) [a', b'] [] p3] [] pos0) ss' [] pos) (rdS Z io s0 W (exs G cf wf io (.for_ tgx (.enumzip a b) ss))) := by
  refine ⟨fun pins s σ H E I ⟨h0, F, O, τ, R, h⟩ => ?_⟩
  simp only [exs] at h
  rw [ez_evi] at h
  let f : D → Tau → Out Fl := fun d t => (lift (store io.toNat tgx d t) t).bind fun t' _ => exss G cf wf io ss t'
  -- what stands once the two lists have come
  let RR : Addr → Addr → Hp → Prop := fun la lb H1 => ∃ F1 O1 τ1 vs ws xs ys, Rl Z F1 O1 τ1 σ H1 ∧ F1 la ∧ F1 lb ∧ H1 la = some (.lst vs) ∧ H1 lb = some (.lst ws) ∧ Rps Z H1 F1 vs xs ∧ Rps Z H1 F1 ws ys ∧
    PostS Z io s0 W F1 O1 H1 ((forL f (enumFrom 0 (zipD xs ys)) τ1).bind fun o t => .ok (fl1 o) t) E
  have hstart : rdDs Z G cf W [a, b] σ H fun vs H1 => ∃ la lb xs ys, vs = [.ref la, .ref lb] ∧ SqL X.K H1 la xs ∧ SqL X.K H1 lb ys ∧ RR la lb H1 := by
    have e : (((evs G cf [a, b] τ).bind fun ds t => lift (match ds with
        | [d, e] => (lstN d).bind fun d => (lstN e).map fun e => enumFrom 0 (zipD d e)
        | _ => none) t).bind fun ds t => (forL f ds t).bind fun o t => (.ok (fl1 o) t : Out Fl)) = (evs G cf [a, b] τ).bind fun ds t => (lift (match ds with
        | [d, e] => (lstN d).bind fun d => (lstN e).map fun e => enumFrom 0 (zipD d e)
        | _ => none) t).bind fun ds t => (forL f ds t).bind fun o t => (.ok (fl1 o) t : Out Fl) := by
      cases evs G cf [a, b] τ <;> rfl
    have h : PostS Z io s0 W F O H (((evs G cf [a, b] τ).bind fun ds t => lift (match ds with
        | [d, e] => (lstN d).bind fun d => (lstN e).map fun e => enumFrom 0 (zipD d e)
        | _ => none) t).bind fun ds t => (forL f ds t).bind fun o t => .ok (fl1 o) t) E := h
    rw [e] at h
    refine ⟨F, O, τ, R, (PostS.bind h).mono fun us H1 ⟨F1, O1, τ1, ds, c1, E1, R1, r1, _, h1⟩ => ?_⟩
    obtain ⟨_, r1⟩ := r1
    obtain ⟨l, e2, h2⟩ := PostS.lift h1
    split at e2
    · rename_i d d2
      obtain ⟨xs, k1, k2⟩ := Option.bind_eq_some_iff.mp e2
      obtain ⟨ys, k3, rfl⟩ := Option.map_eq_some_iff.mp k2
      unfold lstN at k1 k3
      split at k1
      · cases k1
        split at k3
        · cases k3
          match us, r1 with
          | [u, v], r1 =>
            obtain ⟨la, vs, e1, f1, g1, q1⟩ := r1.1
            obtain ⟨lb, ws, e3, f2, g2, q2⟩ := r1.2.1
            exact ⟨la, lb, vs, ws, by rw [e1, e3], SqL.of g1, SqL.of g2, F1, O1, τ1, vs, ws, _, _, R1, f1, f2, g1, g2, q1, q2, PostS.weak E1 h2⟩
        · cases k3
      · cases k1
    · cases e2
  refine wpAny_For (thn (ez_begin I hg hm hg2 hm2 ha hn hn2 hstart) fun v s1 h1 => thn h1 fun itv s2 h2 => ?_) (fun x => rfl)
  obtain ⟨e, z, TI, TO, i1, i2, la, lb, H2, rfl, I2, D, ne, st2, f2, F1, O1, τ1, vs, ws, xs, ys, R1, fa, fb, ga, gb, qa, qb, h3⟩ := h2
  have stat : ∀ {H' : Hp}, (∀ c ∈ [e, z, TI, TO, i1, i2], H' c = none) → ∀ c ∈ [e, z, TI, TO, i1, i2], FpOk X pins H' c := fun hn c hc => ⟨hn c hc, (f2 c hc).2⟩
  let ds := enumFrom 0 (zipD xs ys)
  have hlen : ds.length = min xs.length ys.length := by show (enumFrom 0 (zipD xs ys)).length = _; rw [enumFrom_len, zipD_len]
  let Wi : Nat → Option Addr → L2.St → Hp → Prop := fun i tok σ H => i ≤ ds.length ∧ (io = true → σ[0]? = s0) ∧ ∃ F2 O2 τ2, Rl Z F2 O2 τ2 σ H ∧ Stay F1 H2 F2 H ∧ (∀ T, tok = some T → F2 T) ∧ PostS Z io s0 W F2 O2 H ((forL f (ds.drop i) τ2).bind fun o t => .ok (fl1 o) t) E
  refine codeAny_forLoop_any (fun n s' => ∃ i tok σ' H', n = ds.length - i ∧ Inv X pins σ' H' s' ∧ EZ s'.heap e z TI TO i1 i2 la lb i tok ∧ (∀ c ∈ [e, z, TI, TO, i1, i2], H' c = none) ∧ Wi i tok σ' H') ?_ ds.length
    ⟨0, none, σ, H2, rfl, I2, st2, fun c hc => (f2 c hc).1, Nat.zero_le _, h0, F1, O1, τ1, R1, .refl, (fun T z => (nomatch z)), h3⟩
  rintro n s3 ⟨i, tok, σ3, H3, rfl, I3, st3, fr3, hile, z3, F3, O3, τ3, R3, sy, ftk, h4⟩
  have sa : SqL X.K H3 la vs := SqL.of ((sy.h la fa).trans ga)
  have sb : SqL X.K H3 lb ws := SqL.of ((sy.h lb fb).trans gb)
  have htk : ∀ T, tok = some T → Trk H3 T := fun T hT => R3.trk.t T (ftk T hT)
  by_cases hlt : i < ds.length
  · have hd := List.getElem?_eq_getElem hlt
    obtain ⟨y0, hy0, ey⟩ := Option.map_eq_some_iff.mp ((enumFrom_get (xs := zipD xs ys) (n := 0) (i := i)).symm.trans hd)
    obtain ⟨x, y, hx, hy, rfl⟩ := zipD_get hy0
    obtain ⟨v, hv, pv⟩ := qa.get hx
    obtain ⟨u, hu, pu⟩ := qb.get hy
    refine wpAny_passesOwn hp (thn (ez_item (elts := elts) (kk := kk) (tpos := tpos) A.cm D ne I3 (stat fr3) st3 htk sa sb hv hu) fun r s4 ⟨u4, hr, h5⟩ => ?_)
    subst hr
    refine wpAny_passesOwn hp (thn h5 fun _ s5 ⟨T1, T2, t, n12, hT1, hT2, eu, I5, st5, ht, nT1, nT2⟩ => ?_)
    subst eu
    -- the heap with the two tuples
    have N1 : New F3 H3 (fun c => F3 c ∨ c = T1) (upd H3 T1 (.tup [v, u])) [] := New.one hT1
    have R4 := N1.rl R3
    have hT2' : upd H3 T1 (.tup [v, u]) T2 = none := by rw [upd_ne (Ne.symm n12)]; exact hT2
    have N2 : New (fun c => F3 c ∨ c = T1) (upd H3 T1 (.tup [v, u])) (fun c => (F3 c ∨ c = T1) ∨ c = T2) (upd (upd H3 T1 (.tup [v, u])) T2 (.tup [.int (i : Nat), .ref T1])) [] := New.one hT2'
    have R5 := N2.rl R4
    have E5 := (N1.ext R3).trans (N2.ext R4)
    have pT : Rp Z (upd (upd H3 T1 (.tup [v, u])) T2 (.tup [.int (i : Nat), .ref T1])) (fun c => (F3 c ∨ c = T1) ∨ c = T2) (.ref T2) ds[i] := by
      rw [← ey]
      refine ⟨T2, [.int (i : Nat), .ref T1], rfl, .inl ⟨.inr rfl, .inl upd_same⟩, ?_, ⟨T1, [v, u], rfl, .inl ⟨.inl (.inr rfl), .inl (by rw [upd_ne n12, upd_same])⟩, ?_, ?_, True.intro⟩, True.intro⟩
      · show V.int (i : Nat) = V.int ((0 + i : Nat) : Int)
        rw [Nat.zero_add]
      · exact (pv.stay sy).stay E5.st
      · exact (pu.stay sy).stay E5.st
    have fr5 : ∀ c ∈ [e, z, TI, TO, i1, i2], (upd (upd H3 T1 (.tup [v, u])) T2 (.tup [.int (i : Nat), .ref T1])) c = none := fun c hc => by
      rw [upd_ne fun z => nT2 (by rw [← z]; exact hc), upd_ne fun z => nT1 (by rw [← z]; exact hc)]
      exact fr3 c hc
    have I5' := I5.pinned (stat fr5) st5.objs
    rw [forL_drop hd] at h4
    have e6 : ((f ds[i] τ3).bind fun fl t => match fl with
        | .nx => forL f (ds.drop (i + 1)) t
        | .brk => .ok none t
        | .ret r => .ok (some r) t).bind (fun o t => (.ok (fl1 o) t : Out Fl)) = (lift (store io.toNat tgx ds[i] τ3) τ3).bind fun t' _ => (exss G cf wf io ss t').bind fun fl t => match fl with
        | .nx => (forL f (ds.drop (i + 1)) t).bind fun o t => .ok (fl1 o) t
        | .brk => .ok .nx t
        | .ret r => .ok (.ret r) t := by
      show (((lift (store io.toNat tgx ds[i] τ3) τ3).bind fun t' _ => exss G cf wf io ss t').bind _).bind _ = _
      cases store io.toNat tgx ds[i] τ3 with
      | none => rfl
      | some t' =>
        show ((exss G cf wf io ss t').bind _).bind _ = (exss G cf wf io ss t').bind _
        cases exss G cf wf io ss t' with
        | no => rfl
        | ex x t => rfl
        | ok fl t => cases fl <;> rfl
    have h4 : PostS Z io s0 W F3 O3 H3 (((f ds[i] τ3).bind fun fl t => match fl with
        | .nx => forL f (ds.drop (i + 1)) t
        | .brk => .ok none t
        | .ret r => .ok (some r) t).bind (fun o t => (.ok (fl1 o) t : Out Fl))) E := h4
    rw [e6] at h4
    obtain ⟨t', et, h7⟩ := PostS.lift (PostS.weak E5 h4)
    refine wpAny_passesOwn hp (thn (htg.run _ s5 σ3 _ (.ref T2) _ (fun σ6 H6 => (io = true → σ6[0]? = s0) ∧ ∃ O6, Rl Z (fun c => (F3 c ∨ c = T1) ∨ c = T2) O6 t' σ6 H6 ∧ H6 = (upd (upd H3 T1 (.tup [v, u])) T2 (.tup [.int (i : Nat), .ref T1])) ∧
      PostS Z io s0 W (fun c => (F3 c ∨ c = T1) ∨ c = T2) O6 H6 ((exss G cf wf io ss t').bind fun fl t => match fl with
        | .nx => (forL f (ds.drop (i + 1)) t).bind fun o t => .ok (fl1 o) t
        | .brk => .ok .nx t
        | .ret r => .ok (.ret r) t) E) I5' rfl ?_) fun _ s6 ⟨σ6, H6, I6, z6, O6, R6, eH6, h8⟩ => ?_)
    · exact ⟨_, O3, τ3, ds[i], t', R5, pT, et, fun σ' O' R' E' sm => ⟨fun l => (sm.io (by rw [l]; rfl)).trans (z3 l), O', R', rfl, PostS.weak E' h7⟩⟩
    · let Nn : L2.St → Hp → Prop := fun σ' H' => (io = true → σ'[0]? = s0) ∧ ∃ F7 O7 τ7, Rl Z F7 O7 τ7 σ' H' ∧ Stay F1 H2 F7 H' ∧ (∀ c, ((F3 c ∨ c = T1) ∨ c = T2) → F7 c) ∧ PostS Z io s0 W F7 O7 H' ((forL f (ds.drop (i + 1)) τ7).bind fun o t => .ok (fl1 o) t) E
      have st6 : Stay F1 H2 (fun c => (F3 c ∨ c = T1) ∨ c = T2) H6 := by rw [eH6]; exact sy.trans E5.st
      refine wpAny_passesOwn hp (thn (hb.run _ s6 σ6 H6 { E with nx := Nn, ct := Nn, bk := E.nx } I6 ⟨z6, _, O6, t', R6, ?_⟩) fun g s7 q7 => ?_)
      · cases q : exss G cf wf io ss t' with
        | no => rw [q] at h8; exact h8.elim
        | ex x t => rw [q] at h8; exact h8
        | ok fl t =>
          rw [q] at h8
          cases fl with
          | nx => exact fun σ' F' O' H' e r z => ⟨z, F', O', t, r, st6.trans e.st, e.st.f, PostS.weak e h8⟩
          | brk => exact fun σ' F' O' H' e r z => h8 σ' F' O' H' e r z
          | ret r => exact h8
      · have again : ∀ {σ7 : L2.St} {H7 : Hp}, Inv X (pins ++ pinsAt [e, z, TI, TO, i1, i2] s5.heap) σ7 H7 s7 → Nn σ7 H7 → ∃ m, m < ds.length - i ∧ ∃ i' tok' σ' H', m = ds.length - i' ∧ Inv X pins σ' H' s7 ∧ EZ s7.heap e z TI TO i1 i2 la lb i' tok' ∧ (∀ c ∈ [e, z, TI, TO, i1, i2], H' c = none) ∧ Wi i' tok' σ' H' := fun {σ7 H7} I7 ⟨z7, F7, O7, τ7, R7, sy7, sub7, h9⟩ => by
          refine ⟨ds.length - (i + 1), by omega, i + 1, some t, σ7, H7, rfl, I7.unpinned, st5.at fun c hcm o q => (I7.pin (c, o) (List.mem_append_right _ (List.mem_append_right _ (mem_pinsAt hcm q)))).1, fun c hcm => ?_, hlt, z7, F7, O7, τ7, R7, sy7, fun T hT => ?_, h9⟩
          · obtain ⟨o, q, _⟩ := st5.objs c hcm
            exact (I7.pin (c, o) (List.mem_append_right _ (List.mem_append_right _ (mem_pinsAt hcm q)))).2.1
          · cases hT
            rcases ht with rfl | ht
            · exact sub7 _ (.inl (.inr rfl))
            · exact sub7 _ (.inl (.inl (ftk _ ht)))
        cases g with
        | next => obtain ⟨σ7, H7, I7, n7⟩ := q7; exact again I7 n7
        | cont => obtain ⟨σ7, H7, I7, n7⟩ := q7; exact again I7 n7
        | brk => obtain ⟨σ7, H7, I7, q7⟩ := q7; exact ⟨σ7, H7, I7.unpinned, q7⟩
        | ret v => obtain ⟨x7, σ7, H7, I7, r7, q7⟩ := q7; exact ⟨x7, σ7, H7, I7.unpinned, r7, q7⟩
  · have ei : i = ds.length := by omega
    have hend : vs.length ≤ i ∨ ws.length ≤ i := by rw [qa.len, qb.len]; omega
    refine wpAny_passesOwn hp (thn (ez_done A.cm D I3 (stat fr3) st3 htk sa sb hend) fun r s4 ⟨hr, I4⟩ => ?_)
    subst hr
    subst ei
    rw [List.drop_length] at h4
    exact wpAny_execs_nil ⟨σ3, H3, I4, h4 σ3 F3 O3 H3 .refl R3 z3⟩
end
section
variable {Z : Wh} {G : Glob} {fN : Nat → Str} {fs : Nat → Option Fn} {cf : CallF} {k wf : Nat} {io : Bool} {s0 : Option (Option V)} {X : Cx} {N : List Str} {sc : Scope} {nf : Str → Bool} {W : WX} {a b : E} {a' b' : Expr} {pos p : Pos}
theorem Bd.fez (B : Bd Z G fN fs cf k X N sc nf W) {ss : List S} {ss' : List Stmt} {tgx : T} {elts : List Expr} {kk : Nat} {tpos p p2 p3 pos pos0 : Pos} (ha : PA X [a', b'] (rdDs Z G cf W [a, b])) (htg : PG X (.Tuple elts kk tpos) (rdG Z io.toNat tgx)) (hb : PSs X ss' (rdS Z io s0 W (exss G cf wf io ss)))
    (h1 : glB sc "enumerate" = true := by decide +kernel) (h2 : glB sc "zip" = true := by decide +kernel) (hn : noStar a' = true := by rfl) (hn2 : noStar b' = true := by rfl) :
    PS X (.For (.Tuple elts kk tpos) (.Call (.Name "enumerate" p) [.Call (.Name "zip" p2) [a', b'] [] p3] [] pos0) ss' [] pos) (rdS Z io s0 W (exs G cf wf io (.for_ tgx (.enumzip a b) ss))) :=
  st_ez B.A B.hp (gl_of (by rw [B.s]; exact h1)).1 (B.bl _ (by decide +kernel)) (gl_of (by rw [B.s]; exact h2)).1 (B.bl _ (by decide +kernel)) ha hn hn2 htg hb
end
end TY
/-! TyTm: several except clauses, each 'as n'. -/
namespace TY
open PySem PySem.Spec PyProof.Rows L2
abbrev Clause : Type := Value × (Addr → Value → Option Addr → TS)
/-- the ends of a suite whose name goes at its end -/
def goneE (i : Nat) (D : Ends) : Ends where
  nx := fun t h => D.nx (t.set i none) h
  rt := D.rt
  bk := fun t h => D.bk (t.set i none) h
  ct := fun t h => D.ct (t.set i none) h
/-- what the clauses wish of an error of the body -/
def wAll (K : PySem.W.Frag) (i : Nat) (Wo : WX) (D : Ends) : List Clause → WX
  | [] => Wo
  | cl :: more => fun cls d t h => ∃ y, PySem.W.exmOne K cls cl.1 = some y ∧ (y = true → ∀ q, h q = none → cl.2 q cls d (goneE i D) (t.set i (some (.ref q))) h) ∧ (y = false → wAll K i Wo D more cls d t h)
inductive ClOk (X : Cx) (n : Str) : List ExceptHandler → List Clause → Prop
  | nil : ClOk X n [] []
  | cons {x : Str} {c : Value} {ts : Addr → Value → Option Addr → TS} {st : Stmt} {sts : List Stmt} {p1 p2 : Pos} {hs : List ExceptHandler} {cs : List Clause} (nm : Names X x c)
      (su : ∀ (q : Addr) (oq : Obj) (cls : Value) (d : Option Addr) (pl : List (Addr × Obj)), L2N.Zn cls d oq → (∃ vs, oq.data = .fields vs) → PSs (X.suite q ((q, oq) :: pl)) (st :: sts) (ts q cls d)) (r : ClOk X n hs cs) :
      ClOk X n (.ExceptHandler (some (.Name x p1)) (some n) (st :: sts) p2 :: hs) ((c, ts) :: cs)
section
variable {X : Cx} {n : Str} {i : Nat} {bd : List Stmt} {h0 : ExceptHandler} {hs : List ExceptHandler} {cs : List Clause} {pos : Pos} {tb : WX → TS} {Wo : WX}
theorem ps_try_all (e1 : X.stack = X.env :: X.outer) (e2 : X.env.frame = some X.env.locals) (e3 : X.N.Nodup) (e4 : X.N[i]? = some n) (e5 : X.env.kindOf n = some .local) (tk : L2N.Takes X Wo)
    (hb : ∀ (W : WX) (pl : List (Addr × Obj)) (xe : Value → Shared → Prop), L2N.Takes (X.tr pl xe) W → PassesOwn (model X.prog X.w) X.A X.env xe → PSs (X.tr pl xe) bd (tb W))
    (hh : ClOk X n (h0 :: hs) cs) : PS X (.Try bd (h0 :: hs) [] [] pos) (fun D t h => tb (wAll X.K i Wo D cs) D t h) := by
  constructor
  intro pins s t H D I told
  have okX := I.ok
  have fr : X.A.frames = some (X.env :: X.outer) := by rw [okX.frames, e1]
  have nloc : Loc X.env.scope n := .inl e5
  apply wpAny_Try_except
  have body := (hb (wAll X.K i Wo D cs) (X.pn ++ pins) (fun e s₁ => wpAny (model X.prog X.w) X.A (noteFrame e X.env) (fun _ s₂ => wpAny (model X.prog X.w) X.A (setFlight e none) (fun _ s₃ =>
    wpAny (model X.prog X.w) X.A (handleBy e X.env (h0 :: hs)) (SP X pins D) X.xe s₃) X.xe s₂) X.xe s₁))
  refine wpAny_mono ((body (fun u s1 xx => ?_) PassesOwn.looking).run [] s t H D (I.toTry _) told) (fun f s1 hsp => ?_) (fun _ _ he => he)
  · obtain ⟨q, B, sI, pins1, t1, H1, cls, d, rfl, J1, nb, up, sky, nq, os, ag, w⟩ := xx
    have J : Inv X pins t1 H1 sI := J1.ofTry okX
    rw [e1] at sky
    show wpAny (model X.prog X.w) X.A (noteFrame (.ref q) X.env) _ _ _
    refine L2N.Sky.land L2N.Zn.steady fr e2 sky fun hp fl upl => ?_
    have JL : Inv X pins t1 H1 { s1 with heap := hp } := J.landed nb fl.1 (up.trans upl) os ag
    obtain ⟨oq, vq, hq, zq, dq⟩ := fl.there
    have away : q ∉ frs (X.env :: X.outer) := fun hm => by
      obtain ⟨_, o2, g2, nf2⟩ := fl.2.2.1.mem hm
      rw [hq] at g2
      cases g2
      exact nf2 _ dq
    have nL : q ≠ X.env.locals := fun z => away (List.mem_filterMap.mpr ⟨X.env, .head _, by rw [e2, z]⟩)
    have nF : q ∉ X.fs := fun hm => by
      obtain ⟨e, he, r⟩ := List.mem_filterMap.mp hm
      exact away (List.mem_filterMap.mpr ⟨e, .tail _ he, r⟩)
    have JS := JL.suite hq dq nq nL nF
    have all : ∀ {hs' : List ExceptHandler} {cs' : List Clause}, ClOk X n hs' cs' → wAll X.K i Wo D cs' cls d t1 H1 →
        wpAny (model X.prog X.w) X.A (handleBy (.ref q) X.env hs') (SP X pins D) X.xe { s1 with heap := hp } := by
      intro hs' cs' ck
      induction ck with
      | nil =>
        intro w
        apply wpAny_handleBy_nil
        obtain ⟨k1, k2, k3, oe, vs, T, oT, ts', he, hz, hd, h1, hr⟩ := id fl
        unfold PySem.passOn
        refine wpAny_bind (wpAny_field he hd h1 ?_)
        have nT : ¬ ((Value.ref T == Value.none) = true) := by simp
        rw [if_neg nT]
        have last : wpAny (model X.prog X.w) X.A (setFlight (.ref q) X.env.frame) (fun _ s4 => wpAny (model X.prog X.w) X.A (throw (.ref q) : Sem Flow) (SP X pins D) X.xe s4) X.xe { s1 with heap := hp } := by
          rw [e2]
          refine HandSPX.setFlight_upZ fl fun h4 hh4 up4 => wpAny_throw (tk _ _ ⟨q, B, sI, pins, t1, H1, cls, d, rfl, J, nb, (up.trans upl).trans up4, ?_, nq, os, ag, w⟩)
          rw [e1]
          exact .inr (.inr hh4)
        first
          | exact wpAny_bind (wpAny_pure (wpAny_bind last))
          | exact wpAny_bind last
      | @cons x c ts st sts p1 p2 hs2 cs2 nm su r ih =>
        rintro ⟨y, hy, yes, no⟩
        refine wpAny_handleBy_cons (codeAny_handlers_test ?_) (fun z => nomatch z)
        have LT : PySem.W.Looks (model X.prog X.w) hp (typeOf (.ref q)) cls := fun _ _ _ _ k z => wpAny_typeOf_ref (k _ _ hq) (by rw [zq.1]; exact z)
        have LM := PySem.W.exm_one (M := model X.prog X.w) JL.kIn LT hy
        have read : ∀ {Q E : Value → Shared → Prop}, Q c { s1 with heap := hp } → wpAny (model X.prog X.w) (X.A.mark (some (.ref q))) (eval (.Name x p1) X.env) Q E { s1 with heap := hp } := by
          intro Q E z
          obtain ⟨g1, g2, g3⟩ := nm
          rcases g3 with g3 | ⟨g3, g4, g5⟩
          · exact ld_glob (X := X.suite q ((q, oq) :: (X.pn ++ pins))) JS g1 g3 z g2
          · exact ld_blt (X := X.suite q ((q, oq) :: (X.pn ++ pins))) JS g1 g3 g4 z g5 g2
        refine read (LM.here ?_)
        cases y with
        | false => exact ih (no rfl)
        | true =>
          refine codeAny_handlers_suite_as ?_
          refine HandSPX.lands_againZ fl fun h4 fl4 up4 => ?_
          have J4 : Inv X pins t1 H1 { s1 with heap := h4 } := J.landed nb fl4.1 ((up.trans upl).trans up4) os ag
          obtain ⟨o4, v4, he4, z4, d4⟩ := fl4.there
          refine store_ok (X := X.suite q ((q, o4) :: (X.pn ++ pins))) (v := .ref q) (J4.suite he4 d4 nq nL nF) e3 e4 nloc rfl (fun s5 S5 => ?_) (.inr e5)
          have run := (su q o4 cls d (X.pn ++ pins) z4 ⟨_, d4⟩).run [] s5 _ H1 _ S5 (yes rfl q nq)
          refine wpAny_mono run (fun f s6 hsp => ?_) (fun _ _ z => False.elim z)
          have fin : ∀ {t6 : L2.St} {H6 : Hp} {Q : Shared → Prop}, Inv (X.suite q ((q, o4) :: (X.pn ++ pins))) [] t6 H6 s6 → (∀ s7, Inv X pins (t6.set i none) H6 s7 → Q s7) →
              wpAny (model X.prog X.w) X.A (do bindName X.env n .none; unbindBehindTheSuite X.env n p2) (fun _ s7 => Q s7) X.xe s6 := fun S6 hq => gone_ok (S6.unsuite okX) e3 e4 e5 hq
          cases f with
          | ret u =>
            obtain ⟨v, t6, H6, S6, r6, q6⟩ := hsp
            exact fin S6 fun s7 J7 => ⟨_, _, _, J7, r6, q6⟩
          | next =>
            obtain ⟨t6, H6, S6, q6⟩ := hsp
            exact fin S6 fun s7 J7 => ⟨_, _, J7, q6⟩
          | brk =>
            obtain ⟨t6, H6, S6, q6⟩ := hsp
            exact fin S6 fun s7 J7 => ⟨_, _, J7, q6⟩
          | cont =>
            obtain ⟨t6, H6, S6, q6⟩ := hsp
            exact fin S6 fun s7 J7 => ⟨_, _, J7, q6⟩
    exact all hh w
  · cases f with
    | ret u =>
      obtain ⟨v, t1, H1, J1, r, z⟩ := hsp
      exact ⟨v, t1, H1, J1.ofTry okX, r, z⟩
    | next =>
      obtain ⟨t1, H1, J1, z⟩ := hsp
      exact wpAny_execs_nil ⟨t1, H1, J1.ofTry okX, z⟩
    | brk =>
      obtain ⟨t1, H1, J1, z⟩ := hsp
      exact ⟨t1, H1, J1.ofTry okX, z⟩
    | cont =>
      obtain ⟨t1, H1, J1, z⟩ := hsp
      exact ⟨t1, H1, J1.ofTry okX, z⟩
end
end TY
/-! TyUx: (a, b) = (x, y) where a name is captured by a lambda. -/
namespace TY
open PySem PySem.Spec PyProof.Rows L2
theorem fm_lt {α β : Type} (f : α → Option β) : ∀ l : List α, (l.any fun x => (f x).isNone) = true → (l.filterMap f).length < l.length
  | [], h => by simp at h
  | x :: r, h => by
    have le : (r.filterMap f).length ≤ r.length := List.length_filterMap_le f r
    rw [List.filterMap_cons]
    cases q : f x with
    | none => simp only [List.length_cons]; omega
    | some y =>
      have h2 : (r.any fun x => (f x).isNone) = true := by simpa [q] using h
      have := fm_lt f r h2
      simp only [List.length_cons]; omega
def upxB (sc : Scope) (ts : List Expr) : Bool := ts.any fun t => match t with
  | .Name id _ => !(sc.names.lookup id == some .local)
  | _ => true
theorem ssx_of {ts vs : List Expr} {k1 k2 : Nat} {p1 p2 : Pos} {env : Env} (h : upxB env.scope ts = true) : swappedStores [.Tuple ts k1 p1] (.Tuple vs k2 p2) env = pure none := by
  simp only [swappedStores]
  split
  · rfl
  · split
    · rfl
    · have key : ∀ l : Nat, (ts.filterMap fun t => match t with
          | .Name id pos => if env.kindOf id == some .local && pos.line == l then some id else none
          | _ => none).length < ts.length := fun l => by
        refine fm_lt _ ts ?_
        unfold upxB at h
        rw [List.any_eq_true] at h ⊢
        obtain ⟨t, ht, e⟩ := h
        refine ⟨t, ht, ?_⟩
        cases t with
        | Name id pos =>
          have e : (!(env.kindOf id == some .local)) = true := e
          have e2 : (env.kindOf id == some .local) = false := by simpa using e
          simp [e2]
        | _ => rfl
      split
      · rfl
      · rename_i hh
        exfalso
        apply hh
        rw [Bool.or_eq_true]
        refine .inl ?_
        have := key ((ts.head?.map (·.pos.line)).getD 0)
        rw [bne_iff_ne]
        exact Nat.ne_of_lt this
section
variable {Z : Wh} {G : Glob} {fN : Nat → Str} {fs : Nat → Option Fn} {cf : CallF} {k wf : Nat} {io : Bool} {s0 : Option (Option V)} {X : Cx} {N : List Str} {sc : Scope} {nf : Str → Bool} {W : WX} {a : E} {pos : Pos}
theorem Bd.upx (B : Bd Z G fN fs cf k X N sc nf W) {ts : T} {ts' vs : List Expr} {k1 k2 : Nat} {p1 p2 : Pos} (hg : PG X (.Tuple ts' k1 p1) (rdG Z io.toNat ts)) (he : PE X (.Tuple vs k2 p2) (rdE Z G cf W a)) (hw : upxB sc ts' = true := by decide +kernel) : PS X (.Assign [.Tuple ts' k1 p1] (.Tuple vs k2 p2) pos) (rdS Z io s0 W (exs G cf wf io (.unp ts a))) :=
  st_unp he hg (swt_of _ _) (ssx_of (by rw [B.s]; exact hw)) rfl
end
end TY
/-! TyDk: a display of a dict whose keys and values are written texts; get of a dict. -/
namespace TY
open PySem PySem.Spec PyProof.Rows L2
abbrev TT2 : Type := List Nat × List Nat
def dkE (l : List TT2) : List (E × E) := l.map fun p => (.c (.str p.1), .c (.str p.2))
def dkD (l : List TT2) : List (D × D) := l.map fun p => (.str p.1, .str p.2)
def dkV (l : List TT2) : List (Key × V) := l.map fun p => (.inr (sS p.1), V.str (sS p.2))
def dkT (l : List TT2) : List (TE × TE) := l.map fun p => (tC (.str (sS p.1)), tC (.str (sS p.2)))
section
variable {Z : Wh} {G : Glob} {cf : CallF} {X : Cx} {W : WX} {pos : Pos}
theorem dk_ev : ∀ (l : List TT2) (τ : Tau), evkv G cf (dkE l) τ = .ok (dkD l) τ
  | [], _ => rfl
  | p :: l, τ => by
    show (evp G cf (.c (.str p.1), .c (.str p.2)) τ).bind (fun kv t => (evkv G cf (dkE l) t).bind fun r t => .ok (kv :: r) t) = _
    have e : evp G cf (.c (.str p.1), .c (.str p.2)) τ = .ok (.str p.1, .str p.2) τ := rfl
    rw [e]
    show (evkv G cf (dkE l) τ).bind (fun r t => .ok ((D.str p.1, D.str p.2) :: r) t) = _
    rw [dk_ev l τ]
    rfl
theorem dk_kv : ∀ l : List TT2, kvD isStr (dkD l) = some (dkD l)
  | [] => rfl
  | p :: l => by
    show (kvD isStr (dkD l)).map ((D.str p.1, D.str p.2) :: ·) = _
    rw [dk_kv l]
    rfl
theorem dk_rpk {F : AP} {H : Hp} : ∀ l : List TT2, Rpk Z H F (dkV l) (dkD l)
  | [] => True.intro
  | p :: l => ⟨⟨rfl, rfl⟩, dk_rpk l⟩
theorem dk_pairs {σ : L2.St} : ∀ (l : List TT2) (H : Hp) (Q : List (V × V) → Hp → Prop), Q ((dkV l).map fun kv => (kV kv.1, kv.2)) H → tPairs (dkT l) σ H Q
  | [], _, _, h => h
  | p :: l, H, Q, h => dk_pairs l H (fun ps H3 => Q ((V.str (sS p.1), V.str (sS p.2)) :: ps) H3) h
theorem e_dkc {l : List TT2} {keys : List (Option Expr)} {values : List Expr} (h : PPs X pos keys values (dkT l)) (hall : keys.all (·.isSome) = true) (hl : keys.length = values.length) (h0 : keys ≠ []) (h15 : keys.length ≤ 15) (hk : l.length ≤ 15)
    (hm : mergeK [] (dkV l) = dkV l) (hd : (dkD l).foldl (fun r p => putD p.1 p.2 r) [] = dkD l) : PE X (.Dict keys values pos) (rdE Z G cf W (.dk (dkE l))) := by
  refine (pe_disp h hall hl h0 h15).imp fun σ H Q ⟨F, O, τ, R, q⟩ => ?_
  simp only [ev] at q
  rw [dk_ev] at q
  simp only [Out.bind] at q
  rw [if_pos (by unfold dkD; rw [List.length_map]; exact hk), dk_kv] at q
  intro p hp
  refine dk_pairs l _ _ ⟨upd_same, dkV l, rfl, by unfold dkV; rw [List.length_map]; exact hk, ?_⟩
  rw [hm]
  have e : upd (upd H p (.dK [])) p (.dK (dkV l)) = upd H p (.dK (dkV l)) := by
    funext b
    by_cases eb : b = p
    · rw [eb, upd_same, upd_same]
    · rw [upd_ne eb, upd_ne eb, upd_ne eb]
  rw [e]
  have nw : New F H F (upd H p (.dK (dkV l))) [p] := New.tmp hp
  have q : Post Z (rO Z σ) W σ F O H (.ok (.tmp (.k ((dkD l).foldl (fun r p => putD p.1 p.2 r) []))) τ) Q := q
  rw [hd] at q
  refine q (.ref p) [p] F O _ (nw.ext R) (nw.rl R) ⟨⟨⟨p, dkV l, rfl, rfl, upd_same, dk_rpk l⟩, by simp, fun b hb => by rw [List.mem_singleton.mp hb]; exact R.trk.no hp⟩, fun b hb i hi => ?_⟩
  rw [List.mem_singleton.mp hb] at hi
  exact (R.ownTrk hi).1.no hp
end
section
variable {Z : Wh} {G : Glob} {fN : Nat → Str} {fs : Nat → Option Fn} {cf : CallF} {k wf : Nat} {io : Bool} {s0 : Option (Option V)} {X : Cx} {N : List Str} {sc : Scope} {nf : Str → Bool} {W : WX} {a b c : E} {a' b' c' : Expr} {pos : Pos}
theorem dp_nil : PPs X pos [] [] (dkT []) := pps_nil
theorem dp_c {s t : List Nat} {m n : Str} {j1 j2 : Nat} {p1 p2 : Pos} {l : List TT2} {ks : List (Option Expr)} {vs : List Expr} (r : PPs X pos ks vs (dkT l)) (h1 : m = sS s := by decide +kernel) (h2 : n = sS t := by decide +kernel) :
    PPs X pos (some (.Constant (.str m) j1 p1) :: ks) (.Constant (.str n) j2 p2 :: vs) (dkT ((s, t) :: l)) := by
  subst h1 h2
  exact pps_cons pe_str pe_str r
theorem Bd.dk (B : Bd Z G fN fs cf k X N sc nf W) (l : List TT2) {keys : List (Option Expr)} {values : List Expr} (h : PPs X pos keys values (dkT l)) (hall : keys.all (·.isSome) = true := by rfl) (hl : keys.length = values.length := by rfl) (h0 : keys.isEmpty = false := by rfl) (h15 : decide (keys.length ≤ 15) = true := by rfl) (hk : decide (l.length ≤ 15) = true := by rfl)
    (hm : mergeK [] (dkV l) = dkV l := by rfl) (hd : (dkD l).foldl (fun r p => putD p.1 p.2 r) [] = dkD l := by rfl) : PE X (.Dict keys values pos) (rdE Z G cf W (.dk (dkE l))) :=
  e_dkc h hall hl (fun z => by rw [z] at h0; cases h0) (of_decide_eq_true h15) (of_decide_eq_true hk) hm hd
theorem Bd.ge (B : Bd Z G fN fs cf k X N sc nf W) {ap : Pos} (ha : PE X a' (rdE Z G cf W a)) (hk : PE X b' (rdE Z G cf W b)) (hb : baseOk a' = true := by rfl) (hn : noStar b' = true := by rfl) (hl : (ap.endLine == pos.line) = true := by rfl) : PE X (.Call (.Attribute a' "get" ap) [b'] [] pos) (rdE Z G cf W (.get a b)) := e_get B.A ha hk hb hn hl
theorem Bd.ge2 (B : Bd Z G fN fs cf k X N sc nf W) {ap : Pos} (ha : PE X a' (rdE Z G cf W a)) (hk : PE X b' (rdE Z G cf W b)) (hc : PE X c' (rdE Z G cf W c)) (hb : baseOk a' = true := by rfl) (hn : noStar b' = true := by rfl) (hn2 : noStar c' = true := by rfl) (hl : (ap.endLine == pos.line) = true := by rfl) : PE X (.Call (.Attribute a' "get" ap) [b', c'] [] pos) (rdE Z G cf W (.get2 a b c)) := e_get2 B.A ha hk hc hb hn hn2 hl
end
end TY
/-! TyLw: lists of new lists, append to one of them, as a printed proof has them. -/
namespace TY
open PySem PySem.Spec PyProof.Rows L2
section
variable {Z : Wh} {G : Glob} {fN : Nat → Str} {fs : Nat → Option Fn} {cf : CallF} {k wf : Nat} {io : Bool} {s0 : Option (Option V)} {X : Cx} {N : List Str} {sc : Scope} {nf : Str → Bool} {W : WX} {a b : E} {a' b' tg : Expr} {pos p : Pos} {x y z : Str}
theorem Bd.lcl (B : Bd Z G fN fs cf k X N sc nf W) {elt' it' : Expr} {ifs' : List Expr} {scope : Scope} {el : E} {tgx : T} {it : I} {cs : List E} {own : List Nat} (ow : List (Str × Nat)) (hi : PI X tg it' (rdI Z G cf W it))
    (hin : ∀ {Y : Cx}, Bd Z G fN fs cf k Y N (relS scope sc) (cellB scope) W0 → PG Y tg (rdG Z 0 tgx) ∧ PTs Y ifs' (rdC Z G cf W0 cs) ∧ PE Y elt' (rdE Z G cf W0 el))
    (ok : blkC N sc scope ow = true := by decide +kernel) (hc : capB scope = true := by rfl) (ho : ow.map (·.2) = own := by rfl) (hns : tgx.ns.all own.contains = true := by rfl) (hs : fsB it' = true := by rfl) :
    PE X (.ListComp elt' [⟨tg, it', ifs', 0⟩] scope pos) (rdE Z G cf W (.lcl el tgx it cs own)) :=
  e_lcl B.A hi (by rw [B.n, B.s]; exact ok) ho hns (fun s H C cl fp => (hin (B.blk scope (cap_of hc) s H C cl fp)).1) (fun s H C cl fp => (hin (B.blk scope (cap_of hc) s H C cl fp)).2.1) (fun s H C cl fp => (hin (B.blk scope (cap_of hc) s H C cl fp)).2.2) (fs_of hs)
theorem Bd.a2 (B : Bd Z G fN fs cf k X N sc nf W) (i c j : Nat) {ap cp sp p2 p3 : Pos} (h1 : N[i]? = some x := by rfl) (h2 : visB sc x = true := by decide +kernel) (h3 : N[c]? = some y := by rfl) (h4 : visB sc y = true := by decide +kernel) (h5 : N[j]? = some z := by rfl) (h6 : visB sc z = true := by decide +kernel) (hl : (ap.endLine == cp.line) = true := by rfl) :
    PS X (.Expr (.Call (.Attribute (.Subscript (.Name x p) (.Name y p2) sp) "append" ap) [.Name z p3] [] cp) pos) (rdS Z io s0 W (exs G cf wf io (.app2 i (.loc c) (.loc j)))) := by
  obtain ⟨q1, q2, q3⟩ := vis_of h2
  obtain ⟨r1, r2, r3⟩ := vis_of h4
  obtain ⟨t1, t2, t3⟩ := vis_of h6
  exact st_app2 (by rw [B.n]; exact h1) (by rw [B.s]; exact q1) q2 q3 (by rw [B.n]; exact h3) (by rw [B.s]; exact r1) r2 r3 (by rw [B.n]; exact h5) (by rw [B.s]; exact t1) t2 t3 hl (sw_of rfl _ _ _)
end
end TY
set_option maxHeartbeats 2000000
/-! TyHt: while an error is handled: a list's end, zip's end, a list comprehension over zip. -/
namespace TY
open PySem PySem.Spec PyProof.Rows L2 HotX
section
variable {prog : Program} {w : World} {A : Around} {E : Value → Shared → Prop} {s : Shared}
theorem hot_keep {x1 : Addr} {h h' : Heap} (t : HotAt A x1 h) (k : ∀ o, h.get? x1 = some o → h'.get? x1 = some o) : HotAt A x1 h' := by
  obtain ⟨a, o, vs, e, d, c⟩ := t
  exact ⟨a, o, vs, k o e, d, c⟩
/-- the end of a list, an error being handled -/
theorem list_end_hot {it l x1 : Addr} {i : Nat} {items : Array Value} {Q : Value → Shared → Prop} (hot : HotAt A x1 s.heap) (nx : x1 ≠ it) (hit : s.heap.IsListIter it l i) (hl : s.heap.IsList l items) (hx : items[i]? = none)
    (hE : ∀ h' e, Heap.ExtBut it s.heap h' → (∃ o, h'.get? e = some o ∧ o.cls = .type "StopIteration") → E (.ref e) { s with heap := h' }) :
    wpAny (model prog w) A (Builtin.SmallTypes.nextOf (.ref it)) Q E s := by
  obtain ⟨o, ho, hc, hd⟩ := id hit
  obtain ⟨ol, hol, _, nl, hdl⟩ := hl
  unfold Builtin.SmallTypes.nextOf
  apply wpAny_bind
  apply wpAny_callSpecial?_slot (name := Str.ofString "__next__") hit.typeIs slot_listiter_next
  refine wpAny_call_entry slot_listiter_next hit.typeIs entry_listiter_next ?_ (args_listiter_next _)
  show wpAny _ _ (field (.ref it) 0 >>= _) _ _ s
  apply wpAny_bind
  refine wpAny_field ho hd (x := .ref l) rfl ?_
  have nn : ¬ ((Value.ref l == Value.none) = true) := Bool.false_ne_true
  show wpAny _ _ (if (Value.ref l == Value.none) = true then _ else _) _ _ s
  rw [if_neg nn]
  show wpAny _ _ (field (.ref it) 1 >>= _) _ _ s
  apply wpAny_bind
  refine wpAny_field ho hd (x := .int i 0) rfl ?_
  show wpAny _ _ (seqItems? (.ref l) >>= _) _ _ s
  apply wpAny_bind
  refine wpAny_seqItems hol hdl ?_
  simp only [Int.toNat_natCast, hx]
  apply wpAny_bind
  apply wpAny_rule
  apply wpAny_bind
  refine wpAny_setField ho hd (by simp) ?_
  show wpAny _ _ (newExc (.type "StopIteration") [] >>= _) _ _ _
  apply wpAny_bind
  simp only [newExc, newTuple]
  apply wpAny_bind
  refine wpAny_newObj_type ?_ (by size_fits)
  refine wpAny_bind (m := firstArgMember _ _) (wpAny_of_eq (a := Value.none) (by first | rfl | (simp only [firstArgMember]; rfl)) ?_)
  refine wpAny_newObj_type ?_ (by size_fits)
  have k0 : ∀ b u, b ≠ it → s.heap.get? b = some u → (s.heap.update it (Obj.mapFields fun x => x.setIfInBounds 0 Value.none)).get? b = some u := fun b u nb e => by
    rw [Heap.get?_update_other _ _ (Ne.symm nb)]
    exact e
  obtain ⟨hh, o1, v1, h1, d1, c1⟩ := hot
  have h2 := Heap.get?_push_of_some { cls := .type "tuple", data := .seq ([] : List Value).toArray } (k0 _ _ nx h1)
  refine raiseNew_hot ⟨hh, o1, v1, Heap.get?_push_of_some _ h2, d1, c1⟩ (Nat.ne_of_lt (Heap.lt_size h2)) (Heap.get?_push_size _ rfl) rfl (by first | (simp; done) | (simp; omega) | (simp only [Array.size_append]; simp; omega)) ?_
  refine hE _ _ (fun b u nb e => ?_) ⟨_, Heap.get?_update_self _ (Heap.get?_push_size _ rfl) rfl, rfl⟩
  have e2 := Heap.get?_push_of_some { cls := .type "tuple", data := .seq ([] : List Value).toArray } (k0 b u nb e)
  rw [Heap.get?_update_other _ _ (Nat.ne_of_gt (Heap.lt_size e2))]
  exact Heap.get?_push_of_some _ e2
/-- the end of a tuple, an error being handled -/
theorem tup_end_hot {it t x1 : Addr} {i : Nat} {items : Array Value} {Q : Option Value → Shared → Prop} (hot : HotAt A x1 s.heap) (nx : x1 ≠ it) (hit : IsTupIter s.heap it t i) (ht : IsTup s.heap t items) (hx : items[i]? = none)
    (hQ : ∀ h', Heap.ExtBut it s.heap h' → Q none { s with heap := h' }) : wpAny (model prog w) A (pyNext (.ref it)) Q E s := by
  obtain ⟨o, ho, hc, hd⟩ := id hit
  obtain ⟨ol, hol, _, nl, hdl⟩ := ht
  unfold pyNext
  apply wpAny_bind
  apply wpAny_attempt
  apply wpAny_callSpecial?_slot (name := Str.ofString "__next__") hit.typeIs slot_tupleiter_next
  refine wpAny_call_entry slot_tupleiter_next hit.typeIs entry_tupleiter_next ?_ (args_tupleiter_next _)
  show wpAny _ _ (field (.ref it) 0 >>= _) _ _ s
  apply wpAny_bind
  refine wpAny_field ho hd (x := .ref t) rfl ?_
  have nn : ¬ ((Value.ref t == Value.none) = true) := Bool.false_ne_true
  show wpAny _ _ (if (Value.ref t == Value.none) = true then _ else _) _ _ s
  rw [if_neg nn]
  show wpAny _ _ (field (.ref it) 1 >>= _) _ _ s
  apply wpAny_bind
  refine wpAny_field ho hd (x := .int i 0) rfl ?_
  show wpAny _ _ (seqItems? (.ref t) >>= _) _ _ s
  apply wpAny_bind
  refine wpAny_seqItems hol hdl ?_
  simp only [Int.toNat_natCast, hx]
  apply wpAny_bind
  apply wpAny_rule
  apply wpAny_bind
  refine wpAny_setField ho hd (by simp) ?_
  show wpAny _ _ (newExc (.type "StopIteration") [] >>= _) _ _ _
  apply wpAny_bind
  simp only [newExc, newTuple]
  apply wpAny_bind
  refine wpAny_newObj_type ?_ (by size_fits)
  refine wpAny_bind (m := firstArgMember _ _) (wpAny_of_eq (a := Value.none) (by first | rfl | (simp only [firstArgMember]; rfl)) ?_)
  refine wpAny_newObj_type ?_ (by size_fits)
  have k0 : ∀ b u, b ≠ it → s.heap.get? b = some u → (s.heap.update it (Obj.mapFields fun x => x.setIfInBounds 0 Value.none)).get? b = some u := fun b u nb e => by
    rw [Heap.get?_update_other _ _ (Ne.symm nb)]
    exact e
  obtain ⟨hh, o1, v1, h1, d1, c1⟩ := hot
  have h2 := Heap.get?_push_of_some { cls := .type "tuple", data := .seq ([] : List Value).toArray } (k0 _ _ nx h1)
  refine raiseNew_hot ⟨hh, o1, v1, Heap.get?_push_of_some _ h2, d1, c1⟩ (Nat.ne_of_lt (Heap.lt_size h2)) (Heap.get?_push_size _ rfl) rfl (by first | (simp; done) | (simp; omega) | (simp only [Array.size_append]; simp; omega)) ?_
  refine wpAny_bind (wpAny_isInstance (T := "StopIteration") (b := true) ⟨_, Heap.get?_update_self _ (Heap.get?_push_size _ rfl) rfl, rfl⟩ isSubtype_stop ?_)
  refine wpAny_pure (hQ _ fun b u nb e => ?_)
  have e2 := Heap.get?_push_of_some { cls := .type "tuple", data := .seq ([] : List Value).toArray } (k0 b u nb e)
  rw [Heap.get?_update_other _ _ (Nat.ne_of_gt (Heap.lt_size e2))]
  exact Heap.get?_push_of_some _ e2
/-- a tuple taken apart, an error being handled -/
theorem unpack_hot {t x1 : Addr} {items : Array Value} {targets : List (Bool × (Value → Sem Unit))} {Q : Unit → Shared → Prop} (hot : HotAt A x1 s.heap) (ht : IsTup s.heap t items) (hn : targets.length = items.size) (hstar : targets.findIdx? (·.1) = none)
    (h : ∀ h', Heap.ExtBut s.heap.objs.size s.heap h' → wpAny (model prog w) A (assignInOrder (targets.map (·.2)) items.toList) Q E { s with heap := h' }) : wpAny (model prog w) A (unpack (.ref t) targets) Q E s := by
  have lt : t ≠ s.heap.objs.size := by
    obtain ⟨o, ho, _⟩ := ht
    exact Nat.ne_of_lt (Heap.lt_size ho)
  have lx : x1 ≠ s.heap.objs.size := by
    obtain ⟨_, o, _, ho, _⟩ := hot
    exact Nat.ne_of_lt (Heap.lt_size ho)
  unfold unpack
  rw [hn, hstar]
  refine wpAny_bind (wpAny_holding ?_)
  unfold unpackItems
  apply wpAny_bind
  unfold notIterableAtAll
  refine wpAny_bind (wpAny_specialOf ht.typeIs slot_tuple_iter.lookup (wpAny_pure ?_))
  simp only [Bool.false_eq_true, if_false]
  refine wpAny_bind (wpAny_holding (iter_tuple ht ?_))
  have ht0 := ht.push { cls := .type "tuple_iterator", data := .fields #[.ref t, .int 0 0] }
  refine wpAny_bind (wpAny_holding (draw_tuple lt items.size 0 _ _ ⟨_, Heap.get?_push_size _ rfl, rfl, rfl⟩ ht0 (by omega) fun g1 it1 sb => ?_))
  have all : List.take items.size (List.drop 0 items.toList) = items.toList := by
    rw [List.drop_zero]
    exact List.take_of_length_le (by simp)
  rw [all, if_neg (by simp)]
  have hot1 : HotAt A x1 g1 := hot_keep hot fun o e => sb.extBut _ _ lx (Heap.get?_push_of_some _ e)
  refine wpAny_bind (wpAny_holding (tup_end_hot hot1 lx it1 (ht0.extBut sb.extBut lt) (by simp) fun g2 he2 => ?_))
  simp only [Option.isSome_none, Bool.false_eq_true, if_false]
  exact wpAny_pure (h g2 fun b o hb e => he2 b o hb (sb.extBut b o hb (Heap.get?_push_of_some _ e)))
theorem draws_hot {x1 it l : Addr} (n1 : l ≠ it) (n2 : x1 ≠ it) (items : Array Value) :
    Draws prog w A it [it, l, x1] items.size (fun i v => items[i]? = some v) (fun i h => h.IsListIter it l i ∧ h.IsList l items ∧ HotAt A x1 h) where
  live := fun _ _ st => let ⟨o, ho, _⟩ := st.1; ⟨o, ho⟩
  frame := fun _ _ _ st k => ⟨st.1.at fun o e => k it (by simp) o e, st.2.1.at fun o e => k l (by simp) o e, hot_keep st.2.2 fun o e => k x1 (by simp) o e⟩
  item := fun i s Q E hi st hQ => wpAny_nextOf_list_item st.1 st.2.1 (x := items[i]) (by simp [hi]) fun h' hit' hs' =>
    hQ _ h' s.toks (by simp [hi]) ⟨hit', st.2.1.extBut hs'.extBut n1, hot_keep st.2.2 fun o e => hs'.extBut _ _ n2 e⟩ hs'
  done := fun s Q E st hE => list_end_hot st.2.2 n2 st.1 st.2.1 (by simp) hE
end
/-- wherever the context stands, the error that is handled is seen -/
def Warm (X : Cx) : Prop := ∃ x1, ∀ pins σ H s, Inv X pins σ H s → HotAt X.A x1 s.heap
theorem pg_tupX {X : Cx} {es : List Expr} {k : Nat} {t : TGs} {n : Nat} {pos : Pos} (wm : Warm X) (h : PGs X es t) (hn : (assignEach es X.env).length = n) (hst : (assignEach es X.env).findIdx? (·.1) = none) : PG X (.Tuple es k pos) (gTup X.K n t) := by
  obtain ⟨x1, wm⟩ := wm
  constructor
  rintro pins s σ H v u Q I r ⟨a, xs, rfl, hq, hl, hw⟩
  cases r
  obtain ⟨its, rv, ht, _⟩ := I.tuple hq
  rw [assign_Tuple]
  refine wpAny_bind (wpAny_standAt (unpack_hot (wm _ _ _ _ I) ht (by simp [hn, ← hl, rv.length]) hst fun h' hx => ?_))
  exact h.run pins _ σ H xs _ Q (I.kept (t' := s.toks) fun b o e => hx b o (Nat.ne_of_lt (Heap.lt_size e)) e) (by simpa using rv) hw
/-- as Turn, its end while the error at x1 is handled -/
structure TurnX (P : Program) (w : World) (K : PySem.W.Frag) (tg : Expr) (x1 : Addr) (J : It) (fp : List Addr) (it : Addr) (tn : Nat → Heap → Prop) : Prop where
  obj : ∀ i h, tn i h → ∀ b ∈ fp, ∃ o, h.get? b = some o ∧ ∀ v, o.data ≠ .cell v
  keep : ∀ i h h', tn i h → (∀ b ∈ fp, ∀ o, h.get? b = some o → h'.get? b = some o) → tn i h'
  item : ∀ (X : Cx), X.prog = P → X.w = w → X.K = K → ∀ (i : Nat) (pins : List (Addr × Obj)) (s : Shared) (σ : L2.St) (H : Hp) (E : Value → Shared → Prop), Inv X pins σ H s → (∀ b ∈ fp, FpOk X pins H b) → tn i s.heap → J.go i H →
    wpAny (model P w) X.A (pyNext (.ref it)) (fun r s1 => ∃ u, r = some u ∧
      wpAny (model P w) X.A (letOwnedTupleGo tg (.ref it) u) (fun _ s2 => ∃ x H', Inv X pins σ H' s2 ∧ RelV x u ∧ J.yld i H x H' ∧ tn (i + 1) s2.heap ∧ ∀ b ∈ fp, H' b = none) E s1) E s
  done : ∀ (X : Cx), X.prog = P → X.w = w → X.K = K → ∀ (i : Nat) (pins : List (Addr × Obj)) (s : Shared) (σ : L2.St) (H : Hp) (E : Value → Shared → Prop), Inv X pins σ H s → (∀ b ∈ fp, FpOk X pins H b) → HotAt X.A x1 s.heap → tn i s.heap → J.stop i H →
    wpAny (model P w) X.A (pyNext (.ref it)) (fun r s1 => r = none ∧ Inv X pins σ H s1) E s
  self : ∀ (A : Around) (i : Nat) (s : Shared) (Q : Value → Shared → Prop) (E : Value → Shared → Prop), tn i s.heap → Q (.ref it) s → wpAny (model P w) A (pyIter (.ref it)) Q E s
/-- the lists at a and b; its end told by the very count -/
def Itx (K : PySem.W.Frag) (a b : Addr) : It :=
  ⟨(Itz K a b).go, (Itz K a b).yld, fun i H => ∃ xs ys : List V, SqL K H a xs ∧ SqL K H b ys ∧ i ≤ xs.length ∧ i ≤ ys.length ∧ (i = xs.length ∨ i = ys.length)⟩
theorem mem5 {c z TI TO i1 i2 : Addr} (h : c ∈ [z, TI, TO, i1, i2]) : c = z ∨ c = TI ∨ c = TO ∨ c = i1 ∨ c = i2 := by simpa using h
theorem turn_zipX {P : Program} {w : World} {K : PySem.W.Frag} {elts : List Expr} {kk : Nat} {tpos : Pos} {a b z TI TO i1 i2 x1 : Addr} (D : ZipApart z TI TO i1 i2 a b) (nx : x1 ∉ [z, TI, TO, i1, i2]) :
    TurnX P w K (.Tuple elts kk tpos) x1 (Itx K a b) [z, TI, TO, i1, i2] z (fun i h => IsZip h z TI TO .none ∧ IsPair h TI (.ref i1) (.ref i2) ∧ (∃ x y, IsPair h TO x y) ∧ h.IsListIter i1 a i ∧ h.IsListIter i2 b i) where
  obj := fun i h ⟨hz, hTI, ⟨_, _, hTO⟩, ⟨o1, e1, _, d1⟩, ⟨o2, e2, _, d2⟩⟩ c hc => by
    rcases mem5 hc with rfl | rfl | rfl | rfl | rfl
    · exact ⟨_, hz, fun v q => nomatch q⟩
    · exact ⟨_, hTI, fun v q => nomatch q⟩
    · exact ⟨_, hTO, fun v q => nomatch q⟩
    · exact ⟨o1, e1, fun v q => nomatch d1.symm.trans q⟩
    · exact ⟨o2, e2, fun v q => nomatch d2.symm.trans q⟩
  keep := fun i h h' ⟨hz, hTI, ⟨x, y, hTO⟩, h1, h2⟩ k =>
    ⟨k z (by simp) _ hz, k TI (by simp) _ hTI, ⟨x, y, k TO (by simp) _ hTO⟩, h1.at fun o q => k i1 (by simp) o q, h2.at fun o q => k i2 (by simp) o q⟩
  item := by
    rintro X rfl rfl rfl i pins s σ H E I hf ⟨hz, hTI, ⟨x0, y0, hTO⟩, h1, h2⟩ ⟨xs, ys, x, y, qx, qy, hx, hy⟩
    obtain ⟨its, rv, p, _⟩ := I.list qx
    obtain ⟨its2, rv2, p2, _⟩ := I.list qy
    obtain ⟨u, hu, ru⟩ := rv.get hx
    obtain ⟨u2, hu2, ru2⟩ := rv2.get hy
    have lz : z < s.heap.objs.size := Heap.lt_size hz
    refine wpAny_pyNext_zip_item D hz hTI hTO h1 h2 p.isList p2.isList (x := u) (y := u2) (by simpa using hu) (by simpa using hu2) fun h' z1 TO1 h11 h21 hT hsz hk => ?_
    refine ⟨_, rfl, wpAny_letOwnedTupleGo_zip (s := { s with heap := h' }) z1 fun g z2 sb => ?_⟩
    have hT2 : g.get? s.heap.objs.size = some { cls := .type "tuple", data := .seq #[u, u2] } := (sb.2 _ (Nat.ne_of_gt lz)).trans hT
    have new : ObjOk X.prog X.w (upd H s.heap.objs.size (.tup [x, y])) g s.heap.objs.size (.tup [x, y]) :=
      ⟨by show 2 ≤ sizeLine; decide, [u, u2], .cons ru (.cons ru2 .nil), ⟨_, hT2, rfl, _, rfl⟩⟩
    have kept : ∀ c o, c ∉ [z, TI, TO, i1, i2] → s.heap.get? c = some o → g.get? c = some o := fun c o hb q =>
      (sb.2 c (fun e => hb (by simp [e]))).trans (hk c o (fun e => hb (by simp [e])) (fun e => hb (by simp [e])) (fun e => hb (by simp [e])) (fun e => hb (by simp [e])) q)
    have I1 : Inv X pins σ (upd H s.heap.objs.size (.tup [x, y])) { s with heap := g } := I.turnedNew (t' := s.toks) (ch := [z, TI, TO, i1, i2]) kept hf (Nat.le_refl _) new
    refine ⟨.ref s.heap.objs.size, _, I1, rfl, ⟨_, x, y, rfl, I.hok.fresh (Nat.le_refl _), rfl, fun l hl => by rw [I.list_inj hl qx]; exact hx, fun l hl => by rw [I.list_inj hl qy]; exact hy⟩,
      ⟨z2, (sb.2 _ D.TIz).trans (hk _ _ D.TIz D.TITO D.TIi1 D.TIi2 hTI), ⟨u, u2, (sb.2 _ D.TOz).trans TO1⟩, h11.at fun o q => (sb.2 _ D.i1z).trans q, h21.at fun o q => (sb.2 _ D.i2z).trans q⟩, fun c hc => ?_⟩
    have lt : c < s.heap.objs.size := by
      rcases mem5 hc with rfl | rfl | rfl | rfl | rfl
      · exact lz
      · exact Heap.lt_size hTI
      · exact Heap.lt_size hTO
      · obtain ⟨_, e, _⟩ := h1; exact Heap.lt_size e
      · obtain ⟨_, e, _⟩ := h2; exact Heap.lt_size e
    rw [upd_ne (Nat.ne_of_lt lt)]
    exact (hf c hc).1
  done := by
    rintro X rfl rfl rfl i pins s σ H E I hf hot ⟨hz, hTI, ⟨x0, y0, hTO⟩, h1, h2⟩ ⟨xs, ys, qx, qy, le1, le2, hend⟩
    obtain ⟨its, rv, p, _⟩ := I.list qx
    obtain ⟨its2, rv2, p2, _⟩ := I.list qy
    have l1 := rv.length
    have l2 := rv2.length
    have e1 : x1 ≠ i1 := fun e => nx (by simp [e])
    have e2 : x1 ≠ i2 := fun e => nx (by simp [e])
    have ez : z ≠ x1 := fun e => nx (by simp [e])
    have eT : TO ≠ x1 := fun e => nx (by simp [e])
    have z1 := D.i1z
    have z2 := D.i2z
    have sep : ZipSep2 z TI TO i1 i2 [i1, a, x1] [i2, b, x1] := ⟨D.TIz, D.TOz, D.TITO, D.TIi1, by simp, by simp [Ne.symm D.i1z, Ne.symm D.l1z, ez], by simp [D.TOi1, Ne.symm D.l1TO, eT], D.TIi2, by simp, by simp [Ne.symm D.i2z, Ne.symm D.l2z, ez], by simp [D.TOi2, Ne.symm D.l2TO, eT],
      by simp [D.i12, Ne.symm D.l2i1, Ne.symm e1], by simp [Ne.symm D.i12, Ne.symm D.l1i2, Ne.symm e2]⟩
    have m1 : its.toArray.size = xs.length := by simp [l1]
    have m2 : its2.toArray.size = ys.length := by simp [l2]
    refine wpAny_pyNext_zipD2_end sep (draws_hot D.l1i1 e1 its.toArray) (draws_hot D.l2i2 e2 its2.toArray) hz hTI hTO ⟨h1, p.isList, hot⟩ ⟨h2, p2.isList, hot⟩ (by omega) (by omega) (by omega) fun h' tk hk => ⟨rfl, ?_⟩
    exact I.turnedL (t' := tk) (ch := [z, TI, TO, i1, i2]) (fun c o hb q => hk c o (fun e => hb (by simp [e])) (fun e => hb (by simp [e])) (fun e => hb (by simp [e])) (fun e => hb (by simp [e])) q) hf
  self := fun A i s Q E st h => wpAny_pyIter_zip st.1 h
end TY
set_option maxHeartbeats 2000000
/-! TyHc: a list comprehension over zip, an error being handled. -/
namespace TY
open PySem PySem.Spec PyProof.Rows L2 HotX L2H
def PIEX (X : Cx) (pins : List (Addr × Obj)) (σ : L2.St) (tg : Expr) (x1 : Addr) (R : It → Hp → Prop) (v : Value) (s : Shared) : Prop :=
  ∃ (it : Addr) (fp : List Addr) (tn : Nat → Heap → Prop) (J : It) (H : Hp), v = .ref it ∧ Inv X pins σ H s ∧ TurnX X.prog X.w X.K tg x1 J fp it tn ∧ tn 0 s.heap ∧ (∀ b ∈ fp, FpOk X pins H b) ∧ R J H
structure PIX (X : Cx) (tg iter : Expr) (x1 : Addr) (wi : TI) : Prop where
  run : ∀ (pins : List (Addr × Obj)) (s : Shared) (σ : L2.St) (H : Hp) (R : It → Hp → Prop), Inv X pins σ H s → wi σ H R →
    wpAny (model X.prog X.w) X.A (eval iter X.env) (fun v s1 => wpAny (model X.prog X.w) X.A (pyIter v) (PIEX X pins σ tg x1 R) X.xe s1) X.xe s
section
variable {X : Cx}
/-- zip(a, b), a and b lists -/
def iZx (K : PySem.W.Frag) (ta : TA) : TI := fun σ H R => ta σ H fun vs H1 => ∃ a b xs ys, vs = [.ref a, .ref b] ∧ SqL K H1 a xs ∧ SqL K H1 b ys ∧ R (Itx K a b) H1
theorem pi_zx {p : Addr × Obj} (hp : p ∈ X.pn) {e e2 : Expr} {ta : TA} {p0 pos tpos : Pos} {elts : List Expr} {kk : Nat} (hg : Gl X "zip") (hm : X.mg "zip" = none) (ha : PA X [e, e2] ta)
    (hs : starEach [e, e2] X.env = (false, eval e X.env) :: starEach [e2] X.env := by rfl) (hpl : (backTo pos (starEach [e2] X.env)).any (·.1) = false := by rfl) :
    PIX X (.Tuple elts kk tpos) (.Call (.Name "zip" p0) [e, e2] [] pos) p.1 (iZx X.K ta) := by
  constructor
  intro pins s σ H R I h
  refine Call_ (ld_blt I hg hm PyProof.Rows.boot_zip (PyProof.Rows.callWith_type1 (thn (ha.run pos pins s σ H _ I h) fun us s1 ⟨vs, H1, I1, r1, q1⟩ => ?_) hs hpl))
  obtain ⟨a, b, xs, ys, ex, qx, qy, q⟩ := q1
  subst ex
  cases r1 with
  | cons r rr =>
    cases rr with
    | cons r' rr =>
      cases rr
      cases r
      cases r'
      have le : ∀ c, c ∈ [s1.heap.objs.size + 4, s1.heap.objs.size + 2, s1.heap.objs.size + 3, s1.heap.objs.size, s1.heap.objs.size + 1] → s1.heap.objs.size ≤ c := fun c hc => by
        rcases mem5 hc with e | e | e | e | e <;> rw [e] <;> first | exact Nat.le_refl _ | exact Nat.le_add_right _ _
      obtain ⟨its, rv, p1, _⟩ := I1.list qx
      obtain ⟨its2, rv2, p2, _⟩ := I1.list qy
      have lt := Heap.lt_size (I1.pin p (List.mem_append_left _ hp)).1
      refine call_zip_2 p1.isList p2.isList fun h' hz hTI hTO h1 h2 hsz hk => wpAny_pyIter_zip hz ?_
      refine ⟨s1.heap.objs.size + 4, [s1.heap.objs.size + 4, s1.heap.objs.size + 2, s1.heap.objs.size + 3, s1.heap.objs.size, s1.heap.objs.size + 1], _, _, H1, rfl, I1.kept (t' := s1.toks) hk,
        turn_zipX (PySem.W.ktu_apart s1.heap.objs.size a b p1.lt p2.lt) (fun z => Nat.lt_irrefl _ (Nat.lt_of_lt_of_le lt (le _ z))), ⟨hz, hTI, ⟨_, _, hTO⟩, h1, h2⟩, fun c hc => I1.fpOk (le c hc) (I1.hok.fresh (le c hc)), q⟩
theorem pe_lcX {p : Addr × Obj} (hp : p ∈ X.pn) (hot : Hot1 X.A p) {elt tg iter : Expr} {ifs : List Expr} {scope : Scope} {own : List (Str × Nat)} {pos : Pos} {wi : TI} {g : TG} {tt : TT} {te : TE} (hN : X.N.Nodup) (hi : PIX X tg iter p.1 wi) (ok : BlkOk X.N X.env.scope scope own)
    (hin : ∀ (s : Shared) (H : Hp) (C : Addr) (cl : List (Str × Addr)) (fp : List Addr), Warm (X.blk s H scope (compEnvC scope cl C X.env) fp) → PG (X.blk s H scope (compEnvC scope cl C X.env) fp) tg g ∧ PTs (X.blk s H scope (compEnvC scope cl C X.env) fp) ifs tt ∧ PE (X.blk s H scope (compEnvC scope cl C X.env) fp) elt te) (hs : ∀ x, foldedSetIterable iter X.env x = pure x := by intro _; rfl) :
    PE X (.ListComp elt [⟨tg, iter, ifs, 0⟩] scope pos) (tLc wi g tt te (own.map (·.2))) := by
  constructor
  intro pins s σ H Q I h
  rw [eval_ListComp]
  have fr : ∀ y ∈ scope.names, y.2 = .free → ∃ c, X.env.cells.lookup y.1 = some c := fun y hy e => I.ok.has _ (ok.free y hy e)
  refine wpAny_comprehension_free rfl hs (closure_ok fr) ok.kind (fun y hy e => by rw [ok.uniq y hy, e]) (thn (hi.run pins s σ H _ I h) fun xv u1 hx => thn hx fun iv u2 h2 => ?_)
  obtain ⟨it, fp, tn, J, G2, e, I2, T, t2, f2, q⟩ := h2
  subst e
  refine wpAny_newObj_type (newEnv_comp ?_) (by show 0 ≤ sizeLine; decide)
  obtain ⟨D, hD⟩ : ∃ D, D = u2.heap.objs.size := ⟨_, rfl⟩
  have Dn : G2 D = none := I2.hok.fresh (Nat.le_of_eq hD.symm)
  obtain ⟨W, ⟨m0, w0⟩, turn⟩ := q D Dn
  obtain ⟨u3, hu3⟩ : ∃ u3 : Shared, u3 = { u2 with heap := u2.heap.push { cls := .type "list", data := .seq ([] : List Value).toArray } } := ⟨_, rfl⟩
  have hh3 : u3.heap = u2.heap.push { cls := .type "list", data := .seq ([] : List Value).toArray } := by rw [hu3]
  have I3 : Inv X pins σ (upd G2 D (.lst [])) u3 := by
    rw [hu3]
    refine I2.laid (t' := u2.toks) (fun b o e => Heap.get?_push_of_some _ e) (Nat.le_of_eq hD.symm) ⟨Nat.zero_le _, [], 0, .nil, ?_⟩
    rw [hD]
    exact Heap.get?_push_size _ rfl
  have f3 : ∀ b ∈ fp, FpOk X pins (upd G2 D (.lst [])) b ∧ b < u3.heap.objs.size := fun b hb => by
    obtain ⟨o, e, _⟩ := T.obj _ _ t2 b hb
    have lt := Heap.lt_size e
    refine ⟨⟨?_, (f2 b hb).2⟩, by rw [hh3, Heap.size_push]; exact Nat.lt_succ_of_lt lt⟩
    rw [upd_ne (by rw [hD]; exact Nat.ne_of_lt lt)]
    exact (f2 b hb).1
  have t3 : tn 0 u3.heap := T.keep _ _ _ t2 fun b _ o e => by rw [hh3]; exact Heap.get?_push_of_some _ e
  -- the error that is handled, seen from the block
  obtain ⟨ep, np, nL, nF, nc⟩ := I3.pin p (List.mem_append_left _ hp)
  have nst : p.1 ∉ frs X.stack := fun hm => (List.mem_cons.mp (I3.stkSub p.1 hm)).elim nL nF
  have nfp : p.1 ∉ fp := fun hm => (f3 _ hm).1.2.2.2.2.2 p (List.mem_append_left _ hp) rfl
  have I4 := block_start I3 ok hN f3
  have all := hin u3 (upd G2 D (.lst [])) u3.heap.objs.size (cellsFrom (u3.heap.objs.size + 1) scope.names (cloFrom X.env.cells scope.names [])) fp
  have nul : ∀ b ∈ fp, (upd G2 D (.lst [])) b = none := fun b hb => (f3 b hb).1.1
  rw [← hu3, ← hD]
  show codeAny _ _ (.compStart (.ListComp elt [⟨tg, iter, ifs, 0⟩] scope pos) 0 (.ref it) (.ref D) (compEnvC scope (cellsFrom (u3.heap.objs.size + 1) scope.names (cloFrom X.env.cells scope.names [])) u3.heap.objs.size X.env)) _ { u3 with heap := pushCells (u3.heap.push { cls := .type "dict", data := .dict #[] }) scope.names }
  generalize hce : compEnvC scope (cellsFrom (u3.heap.objs.size + 1) scope.names (cloFrom X.env.cells scope.names [])) u3.heap.objs.size X.env = ce at I4 all ⊢
  have cL : ce.locals = u3.heap.objs.size := by subst hce; rfl
  generalize hG3 : upd G2 D (.lst []) = G3 at I3 I4 all w0 nul f3 np
  obtain ⟨u4, hu4⟩ : ∃ u4 : Shared, u4 = { u3 with heap := pushCells (u3.heap.push { cls := .type "dict", data := .dict #[] }) scope.names } := ⟨_, rfl⟩
  rw [← hu4] at I4 ⊢
  have t4 : tn 0 u4.heap := T.keep _ _ _ t3 fun b _ o e => by rw [hu4]; exact pushCells_keeps _ _ _ _ (Heap.get?_push_of_some _ e)
  have stat : ∀ {σ' : L2.St} {H' : Hp} {s' : Shared}, Inv (X.blk u3 G3 scope ce fp) [] σ' H' s' → (∀ b ∈ fp, H' b = none) → ∀ b ∈ fp, FpOk (X.blk u3 G3 scope ce fp) [] H' b := fun {σ' H' s'} I' hn b hb =>
    ⟨hn b hb, (I'.ok.exf b hb).1, I'.ok.exfs b hb, .inl hb, fun x c e => (I'.ok.exf b hb).2 x c e, fun q hq => absurd (show q ∈ ([] : List (Addr × Obj)) ++ [] from hq) (by simp)⟩
  have seen : ∀ {pp : List (Addr × Obj)} {σ' : L2.St} {H' : Hp} {s' : Shared}, Inv (X.blk u3 G3 scope ce fp) pp σ' H' s' → HotAt X.A p.1 s'.heap := fun {pp σ' H' s'} I' => by
    obtain ⟨hA, v1, d1, c1⟩ := hot
    exact ⟨hA, p.2, v1, I'.base.keep p.1 p.2 ep np nst nfp, d1, c1⟩
  obtain ⟨pg, pt, pe⟩ := all ⟨p.1, fun _ _ _ _ I' => seen I'⟩
  have loop : codeAny (model X.prog X.w) X.A (.compLoop (.ListComp elt [⟨tg, iter, ifs, 0⟩] scope pos) 0 (.ref it) (.ref D) ce) (compPost (model X.prog X.w) X.A X.xe none (EP X pins σ Q) (.ref D) u3.heap.objs.size) u4 := by
    refine compLoop_any (fun n s' => ∃ i H', Inv (X.blk u3 G3 scope ce fp) [] (L2.wipe σ (own.map (·.2))) H' s' ∧ tn i s'.heap ∧ (∀ b ∈ fp, H' b = none) ∧ W i n H') ?_ m0 ⟨0, G3, I4, t4, nul, w0⟩
    rintro n s5 ⟨i, H5, I5, t5, n5, w5⟩
    rcases turn i n H5 w5 with ⟨stop, qq⟩ | ⟨go, Nx, hNx, step⟩
    · refine thnF (T.done (X.blk u3 G3 scope ce fp) rfl rfl rfl i [] s5 _ H5 (fun _ _ => False) I5 (stat I5 n5) (seen I5) t5 stop) fun r s6 ⟨hr, I6⟩ => ?_
      subst hr
      have I7 : Inv X pins σ H5 s6 := I3.call' (ch := fp) I6.os I6.base I6.hok I6.bare fun b hb => ⟨(f3 b hb).1.2.2.2.1, (f3 b hb).1.2.1, (f3 b hb).1.2.2.2.2.1, (f3 b hb).1.2.2.2.2.2⟩
      have fC : H5 ce.locals = none := I6.free
      obtain ⟨m, hn, _⟩ := I6.loc
      have hn : s6.heap.Ns ce.locals m := hn
      rw [cL] at fC hn
      obtain ⟨g0, g1, g2, g3, g4, g5⟩ := I3.fpOk (Nat.le_refl _) fC
      exact ⟨m, hn, fun k sb => ⟨.ref D, H5, I7.turned (t' := s6.toks) (fun b o hb e => (sb.2 b hb).trans e) g0 g1 g3 g4 g5, rfl, qq⟩⟩
    · refine thnF (T.item (X.blk u3 G3 scope ce fp) rfl rfl rfl i [] s5 _ H5 (fun _ _ => False) I5 (stat I5 n5) t5 go) fun r s6 ⟨u, hr, h6⟩ => ?_
      subst hr
      refine thnF h6 fun _ s7 ⟨x, H7, I7, r7, y7, t7, n7⟩ => ?_
      refine thnF (pg.run _ s7 _ H7 x u _ (I7.pinned (stat I7 n7) (T.obj _ _ t7)) r7 (step x H7 y7)) fun _ s8 ⟨σ8, H8, I8, hw8, q8⟩ => ?_
      refine thnF (pt.run _ s8 σ8 H8 _ I8 q8) fun b s9 ⟨H9, I9, q9⟩ => ?_
      have fin : ∀ {s' : Shared} {H' : Hp}, Inv (X.blk u3 G3 scope ce fp) ([] ++ pinsAt fp s7.heap) σ8 H' s' → Nx H' → ∃ m, m < n ∧ ∃ i H', Inv (X.blk u3 G3 scope ce fp) [] (L2.wipe σ (own.map (·.2))) H' s' ∧ tn i s'.heap ∧ (∀ b ∈ fp, H' b = none) ∧ W i m H' := by
        intro s' H' I' nx
        obtain ⟨m', hm, w'⟩ := hNx H' nx
        have pin' : ∀ b ∈ fp, ∀ o, s7.heap.get? b = some o → s'.heap.get? b = some o ∧ H' b = none := fun b hb o e =>
          let z := I'.pin (b, o) (List.mem_append_right _ (List.mem_append_right _ (mem_pinsAt hb e)))
          ⟨z.1, z.2.1⟩
        refine ⟨m', hm, i + 1, H', (I'.unpinned (pins := [])).weak (by rw [← hw8, L2.wipe_length]) (fun j v e => ?_), T.keep _ _ _ t7 fun b hb o e => (pin' b hb o e).1, fun b hb => ?_, w'⟩
        · rw [← hw8] at e
          exact (L2.wipe_some e).1
        · obtain ⟨o, e, _⟩ := T.obj _ _ t7 b hb
          exact (pin' b hb o e).2
      cases b with
      | false =>
        simp only [Bool.false_eq_true, if_false] at q9 ⊢
        exact fin I9 q9
      | true =>
        simp only [if_true] at q9 ⊢
        refine thnF (pe.run _ s9 σ8 H9 _ I9 q9) fun z s10 ⟨yv, H10, I10, r10, acc, hD10, hz10, nx⟩ => ?_
        exact app_ok (X := X.blk u3 G3 scope ce fp) I10 hD10 hz10 r10 fun s11 I11 => fin I11 nx
  exact codeAny_compStart_list loop (T.self X.A 0 _ _ _ t4 loop)
end
end TY
set_option maxHeartbeats 2000000
/-! TyHk: a def called in the suite of an except clause: its body's rules; the call. -/
namespace TY
open PySem PySem.Spec PyProof.Rows L2 HotX L2H
/-- what such a body stands on -/
structure BdH (Z : Wh) (G : Glob) (X : Cx) (N : List Str) (sc : Scope) (nf : Str → Bool) : Prop where
  A : At0 Z X
  n : X.N = N
  s : X.env.scope = sc
  fn : X.fn = nf
  wm : Warm X
  bl : ∀ x, bNs.elem x = true → X.mg x = none
  ve : X.mg "ValueError" = none
/-- .. and the error that is handled: m its class -/
structure BdK (Z : Wh) (G : Glob) (X : Cx) (N : List Str) (sc : Scope) (nf : Str → Bool) (q : Addr) (oe : Obj) (m : Nat) (C : Addr) : Prop extends BdH Z G X N sc nf where
  hx : Hx Z X G q oe m C
  ht : Hot1 X.A (q, oe)
  xi : ∀ n, 1 ≤ n → n < 14 → Xi X C m n (xNs.getD n "")
  xv : PySem.W.kitOne X.K (.ref C) (.type "ValueError") = some true
section
variable {Z : Wh} {G : Glob} {cf : CallF} {wf : Nat} {io : Bool} {s0 : Option (Option V)} {X : Cx} {N : List Str} {sc : Scope} {nf : Str → Bool} {W : WX} {a b : E} {a' b' tg : Expr} {pos p : Pos} {es : List E} {es' : List Expr} {x y : Str} {q : Addr} {oe : Obj} {m : Nat} {C : Addr}
theorem BdH.l (B : BdH Z G X N sc nf) (i : Nat) (h1 : N[i]? = some x := by rfl) (h2 : visB sc x = true := by decide +kernel) : PE X (.Name x pos) (rdE Z G cf W (.loc i)) := by
  obtain ⟨q1, q2, q3⟩ := vis_of h2
  exact e_loc (by rw [B.n]; exact h1) (by rw [B.s]; exact q1) q2 q3
theorem BdH.stx (B : BdH Z G X N sc nf) (h : stB sc nf x = true) : Loc sc x ∧ (X.fn x = true ∨ sc.names.lookup x = some .local) := by
  unfold stB at h
  split at h
  · exact ⟨.inl (by assumption), .inr (by assumption)⟩
  · exact ⟨.inr (by assumption), .inl (by rw [B.fn]; exact h)⟩
  · cases h
theorem BdH.st (B : BdH Z G X N sc nf) (i : Nat) (he : PE X a' (rdE Z G cf W a)) (h1 : N[i]? = some x := by rfl) (h2 : stB sc nf x = true := by decide +kernel) (hs : swB a' = true := by rfl) : PS X (.Assign [.Name x p] a' pos) (rdS Z io s0 W (exs G cf wf io (.set i a))) :=
  st_set (by exact B.A.nd) (by rw [B.n]; exact h1) (by rw [B.s]; exact (B.stx h2).1) he (sw_of hs _ _ _) (by rw [B.s]; exact (B.stx h2).2)
theorem BdH.gn (B : BdH Z G X N sc nf) (i : Nat) {lo : Nat} (h1 : N[i]? = some x := by rfl) (h2 : stB sc nf x = true := by decide +kernel) : PG X (.Name x pos) (rdG Z lo (.n i)) := g_name B.A.nd (by rw [B.n]; exact h1) (by rw [B.s]; exact (B.stx h2).1) (by rw [B.s]; exact (B.stx h2).2)
theorem BdH.op (B : BdH Z G X N sc nf) (o : BO) (ha : PE X a' (rdE Z G cf W a)) (hb : PE X b' (rdE Z G cf W b)) : PE X (.BinOp a' (boA o) b' pos) (rdE Z G cf W (.bop o a b)) := e_bop B.A ha hb
theorem BdH.gt (B : BdH Z G X N sc nf) {kk : Nat} {ts : List T} {lo : Nat} (h : PGs X es' (rdGs Z lo ts)) (hn : es'.all noStar = true := by rfl) (hl : es'.length = ts.length := by rfl) : PG X (.Tuple es' kk pos) (rdG Z lo (.t ts)) :=
  (pg_tupX B.wm h ((ae_of hn).1.trans hl) (ae_of hn).2).imp fun v σ H Q ⟨F, O, τ, d, τ', R, r, e, k⟩ => by
    cases d with
    | tup ds =>
      simp only [store] at e
      obtain ⟨a, vs, ea, ha, rs⟩ := r
      exact ⟨a, vs, ea, by rw [B.A.k]; exact sqT ha, by rw [rs.len]; exact stores_len e, F, O, τ, ds, τ', R, rs, e, k⟩
    | _ => cases e
theorem BdK.ic (B : BdK Z G X N sc nf q oe m C) (n : Nat) {p2 : Pos} (ha : PE X a' (rdE Z G cf W a)) (hx : xNs.getD n "" = x := by rfl) (hle : 1 ≤ n := by decide) (hlt : n < 14 := by decide) (h1 : glB sc "isinstance" = true := by decide +kernel) (h2 : glB sc x = true := by decide +kernel) (hn : noStar a' = true := by rfl) :
    PE X (.Call (.Name "isinstance" p) [a', .Name x p2] [] pos) (rdE Z G cf W (.isc a n)) := by
  subst hx
  exact e_isc B.hx (gl_of (by rw [B.s]; exact h1)).1 (B.bl _ (by decide +kernel)) (gl_of (by rw [B.s]; exact h2)).1 (B.xi n hle hlt) ha hn
theorem BdK.iv (B : BdK Z G X N sc nf q oe m C) {p2 : Pos} (ha : PE X a' (rdE Z G cf W a)) (h1 : glB sc "isinstance" = true := by decide +kernel) (h2 : glB sc "ValueError" = true := by decide +kernel) (hn : noStar a' = true := by rfl) :
    PE X (.Call (.Name "isinstance" p) [a', .Name "ValueError" p2] [] pos) (rdE Z G cf W (.isv a)) :=
  e_isv B.hx (gl_of (by rw [B.s]; exact h1)).1 (B.bl _ (by decide +kernel)) (gl_of (by rw [B.s]; exact h2)).1 B.ve B.xv ha hn
/-! ### zip of two lists -/
theorem zl_evi {τ : Tau} : evi G cf (.zipl a b) τ = (evs G cf [a, b] τ).bind fun ds t => lift (match ds with
    | [d, e] => (lstN d).bind fun d => (lstN e).map (zipD d)
    | _ => none) t := by
  simp only [evi, evs]
  cases ev G cf a τ with
  | no => rfl
  | ex _ _ => rfl
  | ok x t =>
    simp only [Out.bind]
    cases TY.frz x t with
    | no => rfl
    | ex _ _ => rfl
    | ok d t =>
      simp only
      cases ev G cf b t with
      | no => rfl
      | ex _ _ => rfl
      | ok y t =>
        simp only
        cases TY.frz y t <;> rfl
theorem gives_zl {F : AP} {H : Hp} {la lb : Addr} {vs ws : List V} {xs ys : List D} (f1 : F la) (f2 : F lb) (h1 : H la = some (.lst vs)) (h2 : H lb = some (.lst ws)) (r1 : Rps Z H F vs xs) (r2 : Rps Z H F ws ys) : Gives Z (Itx Z.K la lb) F H (zipD xs ys) := by
  have g1 : ∀ {F' : AP} {H' : Hp}, Stay F H F' H' → SqL Z.K H' la vs := fun s => .inl (.inl ((s.h la f1).trans h1))
  have g2 : ∀ {F' : AP} {H' : Hp}, Stay F H F' H' → SqL Z.K H' lb ws := fun s => .inl (.inl ((s.h lb f2).trans h2))
  have l1 := r1.len
  have l2 := r2.len
  have lz : (zipD xs ys).length = min xs.length ys.length := zipD_len
  refine ⟨fun F' H' i s hi => ?_, fun F' H' s => ⟨vs, ws, g1 s, g2 s, by omega, by omega, by omega⟩, fun F' H' i x H'' d s tk hd hy => ?_⟩
  · have i1 : i < vs.length := by omega
    have i2 : i < ws.length := by omega
    exact ⟨vs, ws, _, _, g1 s, g2 s, List.getElem?_eq_getElem i1, List.getElem?_eq_getElem i2⟩
  · obtain ⟨T, u, v, rfl, hT, rfl, k1, k2⟩ := hy
    obtain ⟨x, y, e1, e2, rfl⟩ := zipD_get hd
    obtain ⟨u', e3, p1⟩ := Rps.get r1 e1
    obtain ⟨v', e4, p2⟩ := Rps.get r2 e2
    have e5 := k1 vs (g1 s)
    have e6 := k2 ws (g2 s)
    rw [e3] at e5; cases e5
    rw [e4] at e6; cases e6
    have nw : New F' H' (fun a => F' a ∨ a = T) (upd H' T (.tup [u, v])) [] := New.one hT
    have st := s.trans (nw.stay tk)
    exact ⟨_, nw, T, [u, v], rfl, .inl ⟨.inr rfl, .inl upd_same⟩, p1.stay st, p2.stay st, True.intro⟩
theorem zl_rd {σ : L2.St} {H : Hp} {R : It → Hp → Prop} (A : At0 Z X) (h : rdI Z G cf W (.zipl a b) σ H R) : iZx X.K (rdDs Z G cf W [a, b]) σ H R := by
  obtain ⟨F, O, τ, R0, h⟩ := h
  rw [zl_evi] at h
  refine ⟨F, O, τ, R0, (Post.bind h).mono fun us H1 ⟨F1, O1, τ1, ds, c1, E1, R1, r1, _, h1⟩ => ?_⟩
  obtain ⟨_, r1⟩ := r1
  obtain ⟨l, e, h1⟩ := Post.lift0 h1
  split at e
  · obtain ⟨xs, k1, k2⟩ := Option.bind_eq_some_iff.mp e
    obtain ⟨ys, k3, rfl⟩ := Option.map_eq_some_iff.mp k2
    unfold lstN at k1 k3
    split at k1
    case h_2 => cases k1
    split at k3
    case h_2 => cases k3
    cases k1
    cases k3
    cases us with
    | nil => exact r1.elim
    | cons u us =>
      cases us with
      | nil => exact r1.2.elim
      | cons u2 us =>
        cases us with
        | cons _ _ => exact r1.2.2.elim
        | nil =>
          obtain ⟨⟨la, vs, rfl, f1, g1, p1⟩, ⟨lb, ws, rfl, f2, g2, p2⟩, _⟩ := r1
          refine ⟨la, lb, vs, ws, rfl, .inl (.inl g1), .inl (.inl g2), ?_⟩
          rw [A.k]
          exact h1 _ [] F1 O1 H1 E1.drop R1 ⟨rfl, gives_zl f1 f2 g1 g2 p1 p2⟩
  · cases e
theorem BdK.lz (B : BdK Z G X N sc nf q oe m C) {e1 e2 : Expr} {p0 pz tpos : Pos} {kk : Nat} {elts : List Expr} {elt' : Expr} {ifs' : List Expr} {scope : Scope} {el : E} {tgx : T} {cs : List E} {own : List Nat} (ow : List (Str × Nat)) (ha : PA X [e1, e2] (rdDs Z G cf W [a, b]))
    (hin : ∀ {Y : Cx}, BdH Z G Y N (relS scope sc) (cellB scope) → PG Y (.Tuple elts kk tpos) (rdG Z 0 tgx) ∧ PTs Y ifs' (rdC Z G cf W0 cs) ∧ PE Y elt' (rdE Z G cf W0 el))
    (h1 : glB sc "zip" = true := by decide +kernel) (ok : blkC N sc scope ow = true := by decide +kernel) (ho : ow.map (·.2) = own := by rfl) (hns : tgx.ns.all own.contains = true := by rfl) (hn : noStar e1 = true := by rfl) (hn2 : noStar e2 = true := by rfl) :
    PE X (.ListComp elt' [⟨.Tuple elts kk tpos, .Call (.Name "zip" p0) [e1, e2] [] pz, ifs', 0⟩] scope pos) (rdE Z G cf W (.lc el tgx (.zipl a b) cs own)) := by
  have hi := pi_zx (X := X) (p0 := p0) (pos := pz) (tpos := tpos) (elts := elts) (kk := kk) B.hx.pn (gl_of (by rw [B.s]; exact h1)).1 (B.bl _ (by decide +kernel)) ha (star_of (noStar_ne hn) _ _) (stars_of (by simp [hn2]))
  refine (pe_lcX B.hx.pn B.ht B.A.nd hi (blkOk_by (by rw [B.n, B.s]; exact ok)) (fun s H C cl fp wm => hin ⟨⟨B.A.p, B.A.w, B.A.k, B.A.nd, B.A.hu, B.A.fn⟩, B.n, by rw [← B.s]; rfl, rfl, wm, B.bl, B.ve⟩) (fs_of rfl)).imp fun σ H Q h => ?_
  rw [ho]
  exact zl_rd B.A (lc_rd (fun j hj => by have := List.all_eq_true.mp hns j hj; simpa using this) h)
end
end TY
set_option maxHeartbeats 2000000
/-! TyHl: a def called while an error is handled; the def that catches. -/
namespace TY
open PySem PySem.Spec PyProof.Rows L2 HotX L2H
/-- a call of a def where the error of p is handled -/
theorem call_hot {P : Program} {w : World} {K : PySem.W.Frag} {mg : Str → Option Value} {base : Heap} {k : Nat} {f : Addr} {x : Str} {st : Stmt} {fd : FuncData} {N ps : List Str} (F : Fun K x x st f fd) (S : FnScope N ps (defScope st))
    {A : Around} {outer : List Env} {s : Shared} {H : Hp} {args : Args} {us : List Value} {vs : List V} {Q : VK} {E : XK} {p : Addr × Obj} (hr : RoomH (k + 1) A) (hot : Hot1 A p) (pin : PinOk outer H s p) (e0 : Env0 P w K mg base A outer s H)
    (hb : BindsTo s fd args (ps.zip us)) (r : Vals vs us) (hl : vs.length = ps.length)
    (body : ∀ cdv, RoomH k (A.deeper (envOfC x (defScope st) s.heap.objs.size f cdv)) → ∃ t, PSs (cxH (L2N.CX P w) P w K mg base N x (defScope st) f cdv A outer s H E p) (defBody st) t ∧ t { nx := fun _ H' => Q .non H', rt := Q } (L2.start N vs) H) :
    codeAny (model P w) A (.call (.ref f) args) (CR (L2N.CX P w) outer P w H s Q E) s := by
  obtain ⟨_, _, _, _, _, _, cdv, _, _, rfl, lk, hc⟩ := F.ex
  have kx : K.In s.heap := e0.mod.kin.keeps fun b o e => (e0.bs b o e).1
  have lim : s.heap.NoLimit := e0.mod.nolimit.keeps fun b o e => (e0.bs b o e).1
  have kinds : ∀ y ∈ ps.zip us, (defScope st).names.lookup y.1 = some .local ∨ ((defScope st).names.lookup y.1 = some .cell ∧ ((cellsFrom (s.heap.objs.size + 1) (defScope st).names []).lookup y.1).isSome = true) := by
    rintro ⟨n, v⟩ hy
    rcases S.par n (List.of_mem_zip hy).1 with z | z
    · exact .inl z
    · exact .inr ⟨z, PySem.W.cellsFrom_some _ _ _ (.inl z)⟩
  apply codeAny_call_function hr.depth (kx _ _ lk) rfl S.co S.gen rfl (PySem.W.codeRec_of kx hc)
  refine hb _ _ _ _ (wpAny_newFunctionEnv_cells S.kind kinds fun env he s1 ic => ?_)
  subst he
  refine ⟨lim.keeps ic.toInCall.keep, codeAny_func ?_⟩
  obtain ⟨t, ht, told⟩ := body cdv (hr.deeper _)
  have I := inv_startH (CX := L2N.CX P w) (E := E) S pin e0 hl r ic
  refine wpAny_mono (ht.run [] s1 (L2.start N vs) H _ I told) (fun fl s2 hs => ?_) fun _ _ z => z
  cases fl with
  | ret u =>
    obtain ⟨v, t2, H2, J, rv, z⟩ := hs
    exact ⟨v, H2, J.os, J.bare, J.base, J.hok, rv, z⟩
  | next =>
    obtain ⟨t2, H2, J, z⟩ := hs
    exact ⟨V.non, H2, J.os, J.bare, J.base, J.hok, rfl, z⟩
  | brk =>
    obtain ⟨_, _, _, z⟩ := hs
    exact z.elim
  | cont =>
    obtain ⟨_, _, _, z⟩ := hs
    exact z.elim
end TY
set_option maxHeartbeats 2000000
/-! TyLm: a lambda without parameters, its errors told with their context. -/
namespace TY
open PySem PySem.Spec PyProof.Rows L2 LamX
/-- the lambda's context -/
abbrev lamX (X : Cx) (A : Around) (outer : List Env) (s : Shared) (H : Hp) (E : XK) (scope : Scope) (f c : Addr) : Cx :=
  (lamCx X A outer s H E scope f c).tr [] (fun e s' => wpAny (model X.prog X.w) (A.deeper (lamEnv X scope s.heap.objs.size f c)) (leaving (lamEnv X scope s.heap.objs.size f c) e) (fun _ s'' => L2N.CX X.prog X.w outer H s E e s'') (fun e' s'' => L2N.CX X.prog X.w outer H s E e' s'') s')
section
variable {X : Cx} {pins : List (Addr × Obj)} {σ : L2.St} {H : Hp} {s : Shared}
theorem pe_actN {CXg : CXT} {Eg : XK} {Ng : List Str} {qg : Str} {sg : Scope} {g f c : Addr} {cdg pm ctv : Value} {params : Arguments} {body : Expr} {scope : Scope} {k i : Nat} {a : Str} {pl : List (Addr × Obj)} {xe : Value → Shared → Prop} {W : WX} {E : XK} {tb : TE} {p1 p2 : Pos}
    (I : Inv X pins σ H s) (L : LamS X.env.scope scope) (hf : s.heap.get? f = some (PySem.W.kla_obj "<lambda>" (X.env.qual ++ "<lambda>") params body scope (cloFrom X.env.cells scope.names []) pm c ctv)) (hfn : H f = none) (hfr : f ∉ frs X.stack)
    (hbind : bindArgs (PySem.W.kla_fn "<lambda>" (X.env.qual ++ "<lambda>") params body scope (cloFrom X.env.cells scope.names []) pm (.ref c) ctv) ⟨[], []⟩ = pure [])
    (tk : L2N.Takes ((cxOf CXg X.prog X.w X.K X.mg X.base Ng qg sg g cdg X.A X.stack s H Eg).tr pl xe) W) (hW : ∀ cls d σ' H', E cls d H' → W cls d σ' H') (hr : Room (k + 1) (X.A.deeper (envOfC qg sg s.heap.objs.size g cdg)))
    (hbody : ∀ (A : Around) (outer : List Env) (s : Shared) (H : Hp), Room k (A.deeper (lamEnv X scope s.heap.objs.size f c)) → PE (lamX X A outer s H E scope f c) body tb)
    (hN : Ng[i]? = some a) (hv : Vis sg a) (hd : (a == ("__debug__" : Str)) = false) (hcd : (a == ("__classdict__" : Str)) = false) :
    PE ((cxOf CXg X.prog X.w X.K X.mg X.base Ng qg sg g cdg X.A X.stack s H Eg).tr pl xe) (.Call (.Name a p1) [] [] p2)
      (fun σZ HZ Q => σZ[i]? = some (some (.ref f)) ∧ HZ c = some (CodeO c (X.env.qual ++ "<lambda>")) ∧ tb σ HZ Q) := by
  constructor
  rintro pinsZ sZ σZ HZ Q IZ ⟨hs, hc, ht⟩
  have read := (pe_var (pos := p1) (i := i) hN hv hd hcd).run pinsZ sZ σZ HZ (fun v H1 => v = .ref f ∧ H1 = HZ) IZ ⟨.ref f, hs, rfl, rfl⟩
  refine wpAny_Call_Name_kw (thn read fun u s1 ⟨v, H1, I1, r1, ev, eH⟩ => ?_)
  subst ev
  rw [eH] at I1
  obtain rfl : u = Value.ref f := r1
  have there := I1.base.keep f _ hf hfn hfr (fun z => nomatch (show f ∈ ([] : List Addr) from z))
  refine PySem.W.callWith_F0 ⟨_, _, _, _, there⟩ ?_
  have un : Un (frs X.stack) [] H HZ s.heap s1.heap := I1.base
  obtain ⟨⟨oc, vs, t, g1, g2, g3⟩, _, _⟩ := I1.hok c _ hc
  have run : codeAny (model X.prog X.w) (X.A.deeper (envOfC qg sg s.heap.objs.size g cdg)) (.call (.ref f) ⟨[], []⟩) (CR (L2N.CX X.prog X.w) (envOfC qg sg s.heap.objs.size g cdg :: X.stack) X.prog X.w HZ s1 Q E) s1 := by
    refine PySem.W.kla_callFunE hr.depth there rfl L.co L.gen rfl ⟨c, oc, vs, t, rfl, g1, g2, g3⟩ ?_
    rw [hbind]
    refine wpAny_pure (wpAny_newFunctionEnv (fun y hy => (L.own y hy).2) (fun y hy => absurd hy (by simp)) (fun h₁ hns sb => ⟨I1.nolimit.fresh _ sb, ?_⟩) L.kind)
    show codeAny _ _ (.expr body (lamEnv X scope s1.heap.objs.size f c)) _ _
    have kp : ∀ b o, s1.heap.get? b = some o → h₁.get? b = some o := fun b o e => sb.extBut b o (Nat.ne_of_lt (Heap.lt_size e)) (Heap.get?_push_of_some _ e)
    have J := lam_start2 (E := E) (scope := scope) (f := f) (c' := c) (tk := s1.toks + ([] : List (Str × Value)).length) I L I1.env0 hr.hd un hns kp
    refine PySem.W.kla_codeExpr (wpAny_mono ((hbody _ _ s1 HZ (hr.deeper _)).run [] _ _ HZ Q (J.toTry _) ht) (fun v s2 hq => ?_) fun _ _ hq => hq)
    obtain ⟨w2, H2, J2, rv, z⟩ := hq
    exact ⟨w2, H2, J2.os, J2.bare, J2.base, J2.hok, rv, z⟩
  refine wpAny_call (codeAny_mono run fun r s2 hq => ?_)
  cases r with
  | error e => exact L2N.passes_call tk hW pinsZ σZ HZ s1 e s2 I1 hq
  | ok fl =>
    cases fl with
    | ret u => exact I1.after hq
    | next => exact False.elim hq
    | brk => exact False.elim hq
    | cont => exact False.elim hq
end
/-- the def that calls what it got; TT: what it makes of the lambda's reading -/
def GivesN (k : Nat) (X : Cx) (Ng : List Str) (x : Str) (sg : Scope) (g : Addr) (cdg : Value) (bg : List Stmt) (a : Str) (q : Str) (TT : (XK → Hp → VK → Prop) → Hp → VK → Prop) : Prop :=
  ∀ (f c : Addr) (s : Shared) (H : Hp) (Q : VK) (tl : XK → Hp → VK → Prop), Room (k + 1) (X.A.deeper (envOfC x sg s.heap.objs.size g cdg)) →
    (∀ (W : WX) (pl : List (Addr × Obj)) (xe : Value → Shared → Prop) (E : XK) (p1 p2 : Pos), L2N.Takes ((cxOf C8.CX0 X.prog X.w X.K X.mg X.base Ng x sg g cdg X.A X.stack s H C8.E0).tr pl xe) W → (∀ cls d σ' H', E cls d H' → W cls d σ' H') →
      PE ((cxOf C8.CX0 X.prog X.w X.K X.mg X.base Ng x sg g cdg X.A X.stack s H C8.E0).tr pl xe) (.Call (.Name a p1) [] [] p2) (fun σZ HZ Q => σZ[0]? = some (some (.ref f)) ∧ HZ c = some (CodeO c q) ∧ tl E HZ Q)) →
    H c = some (CodeO c q) → TT tl H Q →
    ∃ t, PSs (cxOf C8.CX0 X.prog X.w X.K X.mg X.base Ng x sg g cdg X.A X.stack s H C8.E0).nox bg t ∧ t { nx := fun _ H' => Q .non H', rt := Q } (L2.start Ng [.ref f]) H
section
variable {X : Cx}
/-- x(lambda: body) -/
theorem pe_lamN {T : List (Addr × Str)} {TT : (XK → Hp → VK → Prop) → Hp → VK → Prop} {x a : Str} {g c P : Addr} {k : Nat} {st : Stmt} {fd : FuncData} {Ng : List Str} {params : Arguments} {body : Expr} {scope : Scope} {t : XK → TE} {p lpos pos : Pos}
    (hg : Gl X x) (hm : X.mg x = some (.ref g)) (hdb : (x == ("__debug__" : Str)) = false) (F : Fun X.K x x st g fd) (hb : Binds X.K fd [a] []) (Sg : FnScope Ng [a] (defScope st)) (hNg : Ng[0]? = some a) (hva : Vis (defScope st) a) (hd : (a == ("__debug__" : Str)) = false) (hcd : (a == ("__classdict__" : Str)) = false)
    (hG : ∀ cdv, GivesN k X Ng x (defScope st) g cdv (defBody st) a (X.env.qual ++ "<lambda>") TT)
    (TB : TabB X.base X.mg c P) (hcode : X.env.code = .ref c) (hmT : (P, X.env.qual ++ "<lambda>") ∈ T) (hu : ∀ p ∈ T, p.1 = P → p.2 = X.env.qual ++ "<lambda>") (hr : Room (k + 2) X.A) (L : LamS X.env.scope scope) (hdef : defaultsOf params X.env = ([], []))
    (hbind : ∀ (q : Str) (cl : List (Str × Addr)) (pm cv ctv : Value), bindArgs (PySem.W.kla_fn "<lambda>" q params body scope cl pm cv ctv) ⟨[], []⟩ = pure [])
    (hbody : ∀ (A : Around) (outer : List Env) (s : Shared) (H : Hp) (E : XK) (f c' : Addr), Room k (A.deeper (lamEnv X scope s.heap.objs.size f c')) → PE (lamX X A outer s H E scope f c') body (t E)) :
    PE X (.Call (.Name x p) [.Lambda params body scope lpos] [] pos) (tLam T TT t) := by
  constructor
  rintro pins s σ H Q I ⟨hT, h⟩
  obtain ⟨_, _, _, _, _, _, cdv, _, _, rfl, lk, hc⟩ := F.ex
  refine wpAny_Call_Name_kw (ld_glob I hg hm ?_ hdb)
  refine PySem.W.callWith_K (h₀ := X.base) I.ok.mod.kin F.kp ?_ (by rfl) (by rfl)
  show wpAny _ _ (spliced ((false, eval (.Lambda params body scope lpos) X.env) :: backTo pos (starEach [] X.env))) _ _ s
  refine Calls.spliced_cons (lam_make2 I TB hcode hmT hu hT hdef (L.has I.ok) fun f c' pm' ctv H1 s1 I1 eN T1 hf hfn hfr hco => ?_)
  refine Calls.spliced_nil ⟨I1.kIn, ?_⟩
  have run : codeAny (model X.prog X.w) X.A (.call (.ref g) ⟨[.ref f], []⟩) (CR C8.CX0 X.stack X.prog X.w H1 s1 Q C8.E0) s1 := by
    refine run_ofS (N := Ng) (ps := [a]) (us := [.ref f]) (vs := [.ref f]) lk hc Sg hr I1.env0 (hb s1 [.ref f] I1.kIn rfl) (.cons rfl .nil) rfl fun hr2 => ?_
    obtain ⟨t', ht', q'⟩ := hG cdv f c' s1 H1 Q (fun E H' Q' => t E σ H' Q') hr2
      (fun W pl xe E p1 p2 tk hW => pe_actN (i := 0) I1 L hf hfn hfr (hbind _ _ _ _ _) tk hW hr2 (fun A outer s H hr3 => hbody A outer s H E f c' hr3) hNg hva hd hcd) hco (h H1 eN T1)
    exact ⟨t', ht'.nox, q'⟩
  refine wpAny_call (codeAny_mono run fun r s2 hq => ?_)
  cases r with
  | error e => exact (show False from hq).elim
  | ok fl =>
    cases fl with
    | ret u => exact I1.after hq
    | next => exact False.elim hq
    | brk => exact False.elim hq
    | cont => exact False.elim hq
end
end TY
set_option maxHeartbeats 2000000
/-! TyLz: the def that catches: what it makes of a call. -/
namespace TY
open PySem PySem.Spec PyProof.Rows L2 HotX L2H LamX
/-- Z, the error at q handled -/
def Wh.hot (Z : Wh) (q : Addr) (oq : Obj) (m : Nat) : Wh := { Z with hx := some (q, oq, m) }
/-- the def that names an error's kinds, called where that error is handled -/
structure Kh (Z : Wh) (mg : Str → Option Value) (base : Heap) (G : Glob) (fs : Nat → Option Fn) (wf k f : Nat) (x : Str) : Prop where
  ex : ∃ (st : Stmt) (p : Addr) (fd : FuncData) (N : List Str) (a : Str) (fn : Fn), mg x = some (.ref p) ∧ Fun Z.K x x st p fd ∧ Binds Z.K fd [a] [] ∧ FnScope N [a] (defScope st) ∧ fs f = some fn ∧ fn.par = 1 ∧ fn.io = false ∧ N.length = fn.slots ∧
    ∀ (q : Addr) (oq : Obj) (m : Nat) (C : Addr) (cdv : Value) (A : Around) (outer : List Env) (s : Shared) (H : Hp) (E : XK) (s0 : Option (Option V)), Z.xa m = some C → G.ex m = true → Zc (.ref C) none oq → (∃ vs, oq.data = .fields vs) → Hot1 A (q, oq) → RoomH k (A.deeper (envOfC x (defScope st) s.heap.objs.size p cdv)) →
      PSs (cxH (L2N.CX Z.P Z.w) Z.P Z.w Z.K mg base N x (defScope st) p cdv A outer s H E (q, oq)) (defBody st) (rdS (Z.hot q oq m) fn.io s0 (fun cls d _ H => E cls d H) (exss G (callF G fs wf k) wf fn.io fn.body))
  db : (x == ("__debug__" : Str)) = false
/-- after it: r the kinds -/
def aftK (Z : Wh) (H : Hp) (Q : Hp → Prop) : Prop := ∃ F, Tk Z F H ∧ ∀ F' H', ExtC Z F [] H F' [] H' [] → Q H'
section
variable {Z : Wh} {mg : Str → Option Value} {base : Heap} {G : Glob} {fs : Nat → Option Fn} {wf k f : Nat} {x : Str}
theorem pe_kinds {Y : Cx} {q : Addr} {oq : Obj} {m i : Nat} {C : Addr} {y : Str} {p p2 pos : Pos} (K : Kh Z Y.mg Y.base G fs wf k f x) (e1 : Y.prog = Z.P) (e2 : Y.w = Z.w) (e3 : Y.K = Z.K) (hp : (q, oq) ∈ Y.pn) (hot : Hot1 Y.A (q, oq)) (hr : RoomH (k + 1) Y.A)
    (hm : Z.xa m = some C) (hx : G.ex m = true) (hz : Zc (.ref C) none oq) (hf : ∃ vs, oq.data = .fields vs) (hg : Gl Y x) (hN : Y.N[i]? = some y) (hv : Vis Y.env.scope y) (hd : (y == ("__debug__" : Str)) = false) (hcd : (y == ("__classdict__" : Str)) = false) :
    PE Y (.Call (.Name x p) [.Name y p2] [] pos) (fun σ H Q => σ[i]? = some (some (.ref q)) ∧ ∃ r, callF G fs wf (k + 1) f none [.exc m] = .ok (.val (.str r)) none ∧ aftK Z H (Q (.str (sS r)))) := by
  obtain ⟨st, g, fd, N, a, fn, hmg, F, hb, S, hfn, hpar, hio, hsl, body⟩ := K.ex
  obtain ⟨P, w, KK, fa, xa, T, hxx⟩ := Z
  dsimp only at e1 e2 e3 F hb
  subst e1 e2 e3
  constructor
  rintro pins s σ H Q I ⟨hs, r, hc, F0, tk, hq⟩
  refine wpAny_Call_Name_kw (ld_glob I hg hmg ?_ K.db)
  have args := (pa_cons (pe_var (pos := p2) hN hv hd hcd) pa_nil).run pos pins s σ H (fun vs H1 => vs = [.ref q] ∧ H1 = H) I ⟨.ref q, hs, rfl, rfl⟩
  refine PySem.W.callWith_K (h₀ := Y.base) I.ok.mod.kin F.kp (thn args fun us s1 ⟨vs, H1, I1, r1, ev, eH⟩ => ⟨I1.kIn, ?_⟩) (by rfl) (by rfl)
  subst ev
  rw [eH] at I1
  have hl : us.length = 1 := r1.length.symm
  have bind := hb s1 us I1.kIn (by rw [List.append_nil]; exact hl)
  rw [List.append_nil] at bind
  have pin := I1.pin (q, oq) (List.mem_append_left _ hp)
  have pok : PinOk Y.stack H s1 (q, oq) := ⟨pin.1, pin.2.1, fun hm => (List.mem_cons.mp (I1.stkSub q hm)).elim pin.2.2.1 pin.2.2.2.1, pin.2.2.2.2⟩
  have spc : spC (Wh.hot ⟨Y.prog, Y.w, Y.K, fa, xa, T, hxx⟩ q oq m) fn.par (callF G fs wf (k + 1) f) [.ref q] H Q (fun _ _ _ => False) := by
    refine ⟨by rw [hpar]; rfl, F0, none, [.exc m], [], ⟨tk.t, tk.tab⟩, rfl, ⟨⟨q, oq, rfl, rfl⟩, True.intro⟩, ?_⟩
    rw [hc]
    rintro v cs F' bs' H' e ⟨rfl, rfl⟩ rb
    have rb : bs' = [] := rb
    subst rb
    exact hq F' H' ⟨e.st, fun b o h1 h2 h3 h4 => e.rest b o h1 h2 h3 h4, ⟨e.tk.t, e.tk.tab⟩, e.dj⟩
  have run := call_hot (E := fun _ _ _ => False) F S hr hot pok I1.env0 bind r1 rfl (fun cdv hr2 => ⟨_, body q oq m C cdv Y.A Y.stack s1 H (fun _ _ _ => False) _ hm hx hz hf hot hr2, spC_rd S hfn (by rw [hpar]; rfl) hsl spc⟩)
  refine wpAny_call (codeAny_mono run fun r2 s2 h2 => ?_)
  cases r2 with
  | error e =>
    obtain ⟨_, _, _, _, _, _, _, _, _, _, _, _, z⟩ := h2
    exact False.elim z
  | ok fl =>
    cases fl with
    | ret u => exact I1.after h2
    | next => exact False.elim h2
    | brk => exact False.elim h2
    | cont => exact False.elim h2
/-- what is made of a call: ('told', its value), or the kinds of its error -/
def TTc (Z : Wh) (G : Glob) (fs : Nat → Option Fn) (wf k f : Nat) : (XK → Hp → VK → Prop) → Hp → VK → Prop := fun tl H Q =>
  tl (fun cls d H1 => d = none ∧ ∃ C m r, cls = .ref C ∧ Z.xa m = some C ∧ G.ex m = true ∧ callF G fs wf (k + 1) f none [.exc m] = .ok (.val (.str r)) none ∧ aftK Z H1 fun H2 => ([V.str (sS r)] : List V).length ≤ sizeLine ∧ ∀ p, H2 p = none → Q (.ref p) (upd H2 p (.tup [.str (sS r)])))
    H (fun v H1 => ([V.str "told", v] : List V).length ≤ sizeLine ∧ ∀ p, H1 p = none → Q (.ref p) (upd H1 p (.tup [.str "told", v])))
/-- the error classes, in its clauses -/
structure Kc (Z : Wh) (K : PySem.W.Frag) (mg : Str → Option Value) (G : Glob) : Prop where
  a : ∃ A, mg "TooMany" = some (.ref A) ∧ ∀ m C, G.ex m = true → Z.xa m = some C → PySem.W.exmOne K (.ref C) (.ref A) = some false
  b : ∃ B, mg "TypeOverError" = some (.ref B) ∧ ∀ m C, G.ex m = true → Z.xa m = some C → PySem.W.exmOne K (.ref C) (.ref B) = some true
theorem takesF {X : Cx} : L2N.Takes X (fun _ _ _ _ => False) := takesN0
theorem gives_call {X : Cx} {sg : Scope} {g : Addr} {cdg : Value} {a q : Str} {Ng : List Str} {j1 j2 k1 k2 k3 : Nat} {p1 p2 p3 p4 p5 p6 p7 p8 p9 p10 p11 p12 p13 p14 p15 p16 p17 p18 p19 p20 p21 p22 p23 p24 p25 p26 p27 p28 p29 p30 : Pos} {xx : Str} {ks : Str}
    {kr : Nat} (hle : k ≤ kr) (K : Kh Z X.mg X.base G fs wf k f ks) (C : Kc Z X.K X.mg G) (e1 : X.prog = Z.P) (e2 : X.w = Z.w) (e3 : X.K = Z.K)
    (hN : Ng = [a, "found", "e"]) (hnd : Ng.Nodup) (hl : ∀ y ∈ Ng, sg.names.lookup y = some .local) (hg : ∀ y ∈ [ks, "TooMany", "TypeOverError"], sg.names.lookup y = some .globalImplicit) (hsk : sg.kind = .function) :
    GivesN kr X Ng xx sg g cdg [.Assign [.Name "found" p1] (.Constant .none j1 p2) p3,
      .Try [.Assign [.Name "found" p4] (.Tuple [.Constant (.str "told") j2 p5, .Call (.Name a p6) [] [] p7] k1 p8) p9]
        [.ExceptHandler (some (.Name "TooMany" p10)) (some "e") [.Assign [.Name "found" p11] (.Tuple [.Call (.Name ks p12) [.Name "e" p13] [] p14, .Attribute (.Name "e" p15) "limit" p16] k2 p17) p18] p19,
         .ExceptHandler (some (.Name "TypeOverError" p20)) (some "e") [.Assign [.Name "found" p21] (.Tuple [.Call (.Name ks p22) [.Name "e" p23] [] p24] k3 p25) p26] p27] [] [] p28,
      .Return (some (.Name "found" p29)) p30] a q (TTc Z G fs wf k f) := by
  intro fl c s H Q tl hr act hc h
  subst hN
  obtain ⟨A1, mA, hA⟩ := C.a
  obtain ⟨B1, mB, hB⟩ := C.b
  have l1 : sg.names.lookup ("found" : Str) = some .local := hl _ (by simp)
  have l2 : sg.names.lookup ("e" : Str) = some .local := hl _ (by simp)
  have hks : sg.names.lookup ks = some .globalImplicit := hg _ (by simp)
  let Y := (cxOf C8.CX0 X.prog X.w X.K X.mg X.base [a, "found", "e"] xx sg g cdg X.A X.stack s H C8.E0).nox
  have s1 : PS Y (.Assign [.Name "found" p1] (.Constant .none j1 p2) p3) (tAsg (tC .non) (gName 1)) := ps_set (X := Y) (i := 1) hnd rfl (.inl l1) pe_non (by rfl) (.inr l1)
  have s3 : PS Y (.Return (some (.Name "found" p29)) p30) (tRet (tVar 1)) := ps_ret (pe_var (X := Y) (i := 1) rfl (.inl l1))
  have s2 := ps_try_all (X := Y) (n := "e") (i := 2) (Wo := fun _ _ _ _ => False) (pos := p28)
      (bd := [.Assign [.Name "found" p4] (.Tuple [.Constant (.str "told") j2 p5, .Call (.Name a p6) [] [] p7] k1 p8) p9])
      (tb := fun W D σ H => ∃ Ech : XK, (∀ cls d σ' H', Ech cls d H' → W cls d σ' H') ∧ σ[0]? = some (some (.ref fl)) ∧ H c = some (CodeO c q) ∧ tl Ech H fun v H1 => ([V.str "told", v] : List V).length ≤ sizeLine ∧ ∀ p, H1 p = none → D.nx (σ.set 1 (some (.ref p))) (upd H1 p (.tup [.str "told", v])))
      rfl rfl hnd rfl l2 takesF (fun W pl xe tk _ => ⟨fun pins s' σ H' D I ⟨Ech, hW, h1, h2, h3⟩ =>
        (pss_one (ps_set (X := Y.tr pl xe) (i := 1) (x := "found") (pos' := p4) (pos := p9) hnd rfl (.inl l1) (pe_tup (x1 := k1) (pos := p8) (pa_cons pe_str (pa_cons (act W pl xe Ech p6 p7 tk hW) pa_nil))) (by rfl) (.inr l1))).run pins s' σ H' D I ⟨h1, h2, h3⟩⟩)
      (.cons (p1 := p10) (p2 := p19) (st := .Assign [.Name "found" p11] (.Tuple [.Call (.Name ks p12) [.Name "e" p13] [] p14, .Attribute (.Name "e" p15) "limit" p16] k2 p17) p18) (sts := []) ⟨hg _ (by simp), by decide, .inl mA⟩ (ts := fun _ _ _ _ _ _ => False) (fun _ _ _ _ _ _ _ => ⟨fun _ _ _ _ _ _ z => z.elim⟩)
        (.cons (p1 := p20) (p2 := p27) ⟨hg _ (by simp), by decide, .inl mB⟩
          (ts := fun e cls d D σ H => σ.length = 3 → d = none ∧ ∃ C m r, cls = .ref C ∧ Z.xa m = some C ∧ G.ex m = true ∧ σ[2]? = some (some (.ref e)) ∧ callF G fs wf (k + 1) f none [.exc m] = .ok (.val (.str r)) none ∧ aftK Z H fun H2 => ([V.str (sS r)] : List V).length ≤ sizeLine ∧ ∀ p, H2 p = none → D.nx (σ.set 1 (some (.ref p))) (upd H2 p (.tup [.str (sS r)])))
          (fun e oe cls d pl hz hf => ⟨fun pins s' σ H' D I h' => by
            obtain ⟨rfl, C, m, r, rfl, hm, hx, h2, hc, ha⟩ := h' I.len
            have hot : Hot1 (Y.suite e ((e, oe) :: pl)).A (e, oe) := ⟨rfl, let ⟨vs, hv⟩ := hf; ⟨vs, hv, hz.2.2 vs hv⟩⟩
            have pk := pe_kinds (Y := Y.suite e ((e, oe) :: pl)) (i := 2) (y := "e") (p := p22) (p2 := p23) (pos := p24) K e1 e2 e3 (.head _) hot (RoomH.mono (j := k + 1) (k := kr + 1) ⟨(roomH_of hr).dp, (roomH_of hr).un⟩ (by omega)) hm hx hz.zc hf hks rfl (.inl l2) (by decide) (by decide)
            exact (pss_one (ps_set (X := Y.suite e ((e, oe) :: pl)) (i := 1) (x := "found") (pos' := p21) (pos := p26) hnd rfl (.inl l1) (pe_tup (x1 := k3) (pos := p25) (pa_cons pk pa_nil)) (by rfl) (.inr l1))).run pins s' σ H' D I ⟨h2, r, hc, ha⟩⟩) .nil))
  refine ⟨_, pss_cons s1 (pss_cons s2 (pss_one s3)), ?_⟩
  have same : (fun v H1 => ([V.str "told", v] : List V).length ≤ sizeLine ∧ ∀ p, H1 p = none → tRet (tVar 1) { nx := fun _ H' => Q .non H', rt := Q } (List.set (List.set (L2.start ([a, "found", "e"] : List Str) [V.ref fl]) 1 (some V.non)) 1 (some (.ref p))) (upd H1 p (.tup [.str "told", v]))) =
      (fun v H1 => ([V.str "told", v] : List V).length ≤ sizeLine ∧ ∀ p, H1 p = none → Q (.ref p) (upd H1 p (.tup [.str "told", v]))) := by
    funext v H1
    refine propext ⟨fun ⟨z1, z2⟩ => ⟨z1, fun p hp => ?_⟩, fun ⟨z1, z2⟩ => ⟨z1, fun p hp => ⟨.ref p, rfl, z2 p hp⟩⟩⟩
    obtain ⟨u, e, z⟩ := z2 p hp
    have e : some (some (V.ref p)) = some (some u) := e
    cases e
    exact z
  show ∃ Ech : XK, (∀ (cls : Value) (d : Option Addr) (σ' : L2.St) (H' : Hp), Ech cls d H' → wAll _ 2 _ _ _ cls d σ' H') ∧ _ ∧ _ ∧ tl Ech H (fun v H1 => ([V.str "told", v] : List V).length ≤ sizeLine ∧ ∀ p, H1 p = none → tRet (tVar 1) { nx := fun _ H' => Q .non H', rt := Q } (List.set (List.set (L2.start ([a, "found", "e"] : List Str) [V.ref fl]) 1 (some V.non)) 1 (some (.ref p))) (upd H1 p (.tup [.str "told", v])))
  rw [same]
  refine ⟨_, fun cls d σ' H' hw => ?_, rfl, hc, h⟩
  · obtain ⟨rfl, C', m, r, rfl, hm, hx, hcf, F1, tk, ha⟩ := hw
    refine ⟨false, hA m C' hx hm, fun z => (nomatch z), fun _ => ⟨true, hB m C' hx hm, fun _ e he hlen => ?_, fun z => (nomatch z)⟩⟩
    have l3 : σ'.length = 3 := by simpa using hlen
    refine ⟨rfl, C', m, r, rfl, hm, hx, by rw [List.getElem?_set_self (by omega)], hcf, F1, tk, fun F2 H2 e2 => ?_⟩
    obtain ⟨z1, z2⟩ := ha F2 H2 e2
    refine ⟨z1, fun p hp => ⟨.ref p, ?_, z2 p hp⟩⟩
    rw [List.getElem?_set_ne (by decide), List.getElem?_set_self (by simp [l3])]
end
end TY
set_option maxHeartbeats 2000000
/-! TyCt: _law_call(lambda: e), as the evaluator has it. -/
namespace TY
open PySem PySem.Spec PyProof.Rows L2 LamX
section
variable {Z : Wh} {F F' : AP} {O : Ow} {τ : Tau} {σ : L2.St} {H H' : Hp}
/-- more tables and code objects, all else as it was -/
theorem ExtN.ext (e : ExtN H H') (t : Tabs Z.T H') (R : Rl Z F O τ σ H) : Rl Z F O τ σ H' ∧ Ext F O H F O H' [] := by
  have st : Stay F H F H' := ⟨fun _ h => h, fun a fa => by
    obtain ⟨o, h, n⟩ := R.trk.t a fa
    rw [e a o h n, h]⟩
  have own : ∀ i b, b ∈ O i → H' b = H b := fun i b hb => by
    obtain ⟨⟨o, h, n⟩, _⟩ := R.ownTrk hb
    rw [e b o h n, h]
  refine ⟨⟨R.len, fun i d q => ?_, fun i m q => ?_, R.non, R.dis, ⟨fun b fb => (R.trk.t b fb).of (st.h b fb), t⟩⟩, ⟨st, fun b o h1 h2 h3 h4 => ⟨e b o h1 h4, h2, h3, by simp⟩⟩⟩
  · obtain ⟨v, h1, h2⟩ := R.val i d q
    exact ⟨v, h1, h2.stay st⟩
  · obtain ⟨v, h1, w⟩ := R.own i m q
    exact ⟨v, h1, w.rp.stay st fun b hb => own i b hb, w.nd, w.nf⟩
end
section
variable {Z : Wh} {G : Glob} {fs : Nat → Option Fn} {cf : CallF} {k wf kk f : Nat} {W : WX} {e : E}
theorem catch_rd (kd : ∀ x l, G.kinds x = some l → x.pay = none ∧ G.ex x.cls = true ∧ ∃ r, l = [.str r] ∧ callF G fs wf (kk + 1) f none [.exc x.cls] = .ok (.val (.str r)) none) {σ : L2.St} {H : Hp} {Q : VK} (h : rdE Z G cf W (.catch_ e) σ H Q) :
    tLam Z.T (TTc Z G fs wf kk f) (fun E => rdE Z G cf (fun cls d _ H => E cls d H) e) σ H Q := by
  obtain ⟨F, O, τ, R, h⟩ := h
  refine ⟨R.trk.tab, fun H1 eN T1 => ?_⟩
  obtain ⟨R1, E1⟩ := ExtN.ext eN T1 R
  refine ⟨F, O, τ, R1, ?_⟩
  simp only [ev] at h
  cases q : ev G cf e τ with
  | no => rw [q] at h; exact h.elim
  | ok x t =>
    rw [q] at h
    intro y cs F2 O2 H2 E2 R2 r2
    refine ⟨by show 2 ≤ sizeLine; decide, fun p hp => ?_⟩
    cases q2 : frz x t with
    | no => simp only [Out.bind, q2] at h; exact h.elim
    | ex a b =>
      exfalso
      unfold TY.frz at q2
      split at q2 <;> first | cases q2 | (split at q2 <;> first | cases q2 | (split at q2 <;> cases q2))
    | ok d t2 =>
      simp only [Out.bind, q2] at h
      obtain ⟨F3, O3, E3, R3, p3⟩ := frz_ok E2 R2 r2 q2
      have nw : New F3 H2 (fun a => F3 a ∨ a = p) (upd H2 p (.tup [.str "told", y])) [] := New.one hp
      have st := nw.stay R3.trk
      refine h (.ref p) [] _ O3 _ ((E1.trans E3).trans (nw.ext R3)) (nw.rl R3) ⟨⟨rfl, p, [.str "told", y], rfl, .inl ⟨.inr rfl, .inl upd_same⟩, ?_, p3.stay st, True.intro⟩, fun _ hb => absurd hb (by simp)⟩
      show V.str "told" = V.str (sS [116, 111, 108, 100])
      exact congrArg V.str (by decide +kernel)
  | ex x t =>
    rw [q] at h
    simp only [Out.bind] at h
    obtain ⟨o, e2, h⟩ := Post.lift0 h
    obtain ⟨l, e3, rfl⟩ := Option.map_eq_some_iff.mp e2
    obtain ⟨hp, hx, r, rfl, hc⟩ := kd x l e3
    intro cls d F2 O2 H2 E2 R2 rx
    obtain ⟨C, x1, rfl, x3⟩ := rx
    rw [hp] at x3
    refine ⟨x3, C, x.cls, r, rfl, x1, hx, hc, F2, R2.trk, fun F3 H3 e3 => ⟨by show 1 ≤ sizeLine; decide, fun p hp => ?_⟩⟩
    obtain ⟨R3, _⟩ := e3.rl R2
    have nw : New F3 H3 (fun a => F3 a ∨ a = p) (upd H3 p (.tup [.str (sS r)])) [] := New.one hp
    exact h (.ref p) [] _ O2 _ ((E1.trans (E2.trans (ExtC.ext (O := O2) e3))).trans (nw.ext R3)) (nw.rl R3) ⟨⟨rfl, p, [.str (sS r)], rfl, .inl ⟨.inr rfl, .inl upd_same⟩, rfl, True.intro⟩, fun _ hb => absurd hb (by simp)⟩
end
/-- what a body that makes lambdas stands on beside -/
structure BdC (Z : Wh) (G : Glob) (fs : Nat → Option Fn) (k wf kk f : Nat) (X : Cx) : Prop where
  hr : Room (k + 2) X.A
  kd : ∀ x l, G.kinds x = some l → x.pay = none ∧ G.ex x.cls = true ∧ ∃ r, l = [.str r] ∧ callF G fs wf (kk + 1) f none [.exc x.cls] = .ok (.val (.str r)) none
  tb : ∃ c P, TabB X.base X.mg c P ∧ X.env.code = .ref c ∧ (P, X.env.qual ++ "<lambda>") ∈ Z.T ∧ ∀ p ∈ Z.T, p.1 = P → p.2 = X.env.qual ++ "<lambda>"
  lc : ∃ (g : Addr) (st : Stmt) (fd : FuncData), X.mg "_law_call" = some (.ref g) ∧ Fun X.K "_law_call" "_law_call" st g fd ∧ Binds X.K fd ["call_so"] [] ∧ FnScope ["call_so", "found", "e"] ["call_so"] (defScope st) ∧ Vis (defScope st) "call_so" ∧
    ∀ cdv, GivesN k X ["call_so", "found", "e"] "_law_call" (defScope st) g cdv (defBody st) "call_so" (X.env.qual ++ "<lambda>") (TTc Z G fs wf kk f)
section
variable {Z : Wh} {G : Glob} {fN : Nat → Str} {fs fs0 : Nat → Option Fn} {cf : CallF} {k wf kk f : Nat} {X : Cx} {N : List Str} {sc : Scope} {nf : Str → Bool} {W : WX} {e : E} {e' : Expr} {pos p lpos : Pos}
theorem Bd.lam (B : Bd Z G fN fs cf k X N sc nf W) {scope : Scope} (hs : scope.kind = .function) {A : Around} {outer : List Env} {s : Shared} {H : Hp} {E : XK} {f c : Addr} (hr : Room k (A.deeper (lamEnv X scope s.heap.objs.size f c))) :
    Bd Z G fN fs cf k (lamX X A outer s H E scope f c) N scope (fun _ => false) (fun cls d _ H => E cls d H) where
  A := ⟨⟨B.A.p, B.A.w, B.A.k, B.A.nd, by have := hr.un; show (A.deeper _).units + 70 < cLine; omega, fun _ _ _ => trivial⟩, rfl⟩
  n := B.n
  s := rfl
  sk := hs
  fn := rfl
  hr := hr
  hp := passes_of rfl
  tk := L2N.takes_of rfl rfl rfl rfl
  kn := fun f n h => ⟨(B.kn f n h).ex, (B.kn f n h).db⟩
  bl := B.bl
  gl := B.gl
  xn := fun n h => ⟨(B.xn n h).ex, (B.xn n h).db⟩
theorem Bd.ct (B : Bd Z G fN fs cf k X N sc nf W) (D : BdC Z G fs0 k wf kk f X) {scope : Scope} (hb : ∀ {Y : Cx} {W' : WX}, Bd Z G fN fs cf k Y N scope (fun _ => false) W' → PE Y e' (rdE Z G cf W' e))
    (h1 : glB sc "_law_call" = true := by decide +kernel) (h2 : lamSB sc scope = true := by decide +kernel) :
    PE X (.Call (.Name "_law_call" p) [.Lambda { posonlyargs := [], args := [], vararg := none, kwonlyargs := [], kw_defaults := [], kwarg := none, defaults := [] } e' scope lpos] [] pos) (rdE Z G cf W (.catch_ e)) := by
  obtain ⟨c, P, T1, T2, T3, T4⟩ := D.tb
  obtain ⟨g, st, fd, l1, l2, l3, l4, l5, l6⟩ := D.lc
  have L : LamS X.env.scope scope := lamS_by (by rw [B.s]; exact h2)
  exact (pe_lamN (gl_of (by rw [B.s]; exact h1)).1 l1 (by decide +kernel) l2 l3 l4 rfl l5 (by decide +kernel) (by decide +kernel) l6 T1 T2 T3 T4 D.hr L rfl (fun _ _ _ _ _ => rfl) (fun A outer s H E f c' hr => hb (B.lam L.kind hr))).imp fun σ H Q h => catch_rd D.kd h
end
end TY
/-! TyZ: all defs of a text. -/
namespace TY
open PySem PySem.Spec PyProof.Rows L2
def refOf : Option Value → Option Addr
  | some (.ref a) => some a
  | _ => none
/-- where the names of a text stand -/
def whOf (P : Program) (w : World) (K : PySem.W.Frag) (mg : Str → Option Value) (fN : Nat → Str) (T : List (Addr × Str)) : Wh := ⟨P, w, K, fun f => refOf (mg (fN f)), fun n => refOf (mg (xNs.getD n "")), T, none⟩
/-- a def of the text -/
structure DF (K : PySem.W.Frag) (mg : Str → Option Value) (x : Str) (st : Stmt) : Prop where
  ex : ∃ p fd, mg x = some (.ref p) ∧ Fun K x x st p fd
theorem df_mk {K : PySem.W.Frag} {h : Heap} {mg : Str → Option Value} {x : Str} {st : Stmt} {f : Addr} {oc : Value} {od an : Option Addr} {osl : Array (Option Value)} {kV doc pm cdv ct : Value} (X : K.In h) (G : h.Ns mainGlobals mg)
    (a : PySem.W.nsIn K mainGlobals x = some (some (.ref f))) (l : K.lookup f = some ⟨oc, od, .func (PySem.W.fnOf x x (defArgs st) (defBody st) (defScope st) .none kV doc pm an cdv ct), osl⟩) (c : PySem.W.codeIn K cdv x = true) (k : PySem.W.keepIn K (.ref f) = true) : DF K mg x st :=
  ⟨f, _, PySem.W.mg_of X G a, fun_mk l c k⟩
/-- an own error class of the text -/
structure XF (K : PySem.W.Frag) (mg : Str → Option Value) (x : Str) : Prop where
  ex : ∃ (B newId initId : String) (bmB : List Value) (C : Addr), ExcBaseFacts B newId initId bmB ∧ PySem.W.excIn K C bmB newId = true ∧ mg x = some (.ref C) ∧ PySem.W.keepIn K (.ref C) = true ∧ PySem.W.subIn K (.ref C) (.type "BaseException") = some true ∧ PySem.W.typeIn K (.ref C) = some (.type "type")
theorem xf_mk {K : PySem.W.Frag} {h : Heap} {mg : Str → Option Value} {x : Str} {C : Addr} {bmB : List Value} (X : K.In h) (G : h.Ns mainGlobals mg) (a : PySem.W.nsIn K mainGlobals x = some (some (.ref C))) (q : PySem.W.excIn K C bmB "ValueError.__new__" = true)
    (F : ExcBaseFacts "ValueError" "ValueError.__new__" "ValueError.__init__" bmB) (k : PySem.W.keepIn K (.ref C) = true) (s : PySem.W.subIn K (.ref C) (.type "BaseException") = some true) (t : PySem.W.typeIn K (.ref C) = some (.type "type")) : XF K mg x :=
  ⟨_, _, _, bmB, C, F, q, PySem.W.mg_of X G a, k, s, t⟩
/-- a value of the top -/
structure GF (K : PySem.W.Frag) (mg : Str → Option Value) (x : Str) (d : D) : Prop where
  ex : ∃ u v, mg x = some u ∧ RelV v u ∧ ∀ Z : Wh, Z.K = K → ∀ F H, Rp Z H F v d
theorem gf_int {K : PySem.W.Frag} {h : Heap} {mg : Str → Option Value} {x : Str} {i : Int} {t : Tok} (X : K.In h) (G : h.Ns mainGlobals mg) (a : PySem.W.nsIn K mainGlobals x = some (some (.int i t))) : GF K mg x (.int i) := ⟨_, .int i, PySem.W.mg_of X G a, ⟨t, rfl⟩, fun _ _ _ _ => rfl⟩
theorem gf_str {K : PySem.W.Frag} {h : Heap} {mg : Str → Option Value} {x : Str} {m : Str} {s : List Nat} {t : Tok} (X : K.In h) (G : h.Ns mainGlobals mg) (a : PySem.W.nsIn K mainGlobals x = some (some (.str m t))) (e : m = sS s) : GF K mg x (.str s) := ⟨_, .str m, PySem.W.mg_of X G a, ⟨t, rfl⟩, fun _ _ _ _ => by rw [e]; rfl⟩
/-- the text -/
structure Txt (K : PySem.W.Frag) (mg : Str → Option Value) (G : Glob) : Prop where
  bl : ∀ x, bNs.elem x = true → mg x = none
  gl : ∀ g d, G.gl g = some d → GF K mg (gNs.getD g "") d
  xn : ∀ n, G.ex n = true → XF K mg (xNs.getD n "")
/-- a def, with its body's proof -/
structure DefT (K : PySem.W.Frag) (mg : Str → Option Value) (G : Glob) (fN : Nat → Str) (fs : Nat → Option Fn) (wf f : Nat) (fn : Fn) : Prop where
  ex : ∃ (st : Stmt) (N ps : List Str), DF K mg (fN f) st ∧ (fN f == ("__debug__" : Str)) = false ∧ (∀ {p fd}, Fun K (fN f) (fN f) st p fd → Binds K fd ps []) ∧ FnScope N ps (defScope st) ∧ ps.length = fn.par ∧ N.length = fn.slots ∧
    ∀ {Z : Wh} {cf : CallF} {k : Nat} {X : Cx} {W : WX} {s0 : Option (Option V)}, Bd Z G fN fs cf k X N (defScope st) (fun _ => true) W → PSs X (defBody st) (rdS Z fn.io s0 W (exss G cf wf fn.io fn.body))
def KnE (P : Program) (w : World) (K : PySem.W.Frag) (mg : Str → Option Value) (base : Heap) (Z : Wh) (cf : CallF) (k f : Nat) (x : Str) (n : Nat) : Prop :=
  (∃ (p : Addr) (fd : FuncData) (ps : List Str), Z.fa f = some p ∧ mg x = some (.ref p) ∧ PySem.W.keepIn K (.ref p) = true ∧ Binds K fd ps [] ∧ FnOk P w K mg base (L2N.CX P w) k p fd ps (spC Z n (cf f))) ∧ (x == ("__debug__" : Str)) = false
theorem names_db (n : Nat) (h : n < 14) : (xNs.getD n "" == ("__debug__" : Str)) = false := by
  have : ∀ n : Fin 14, (xNs.getD n.1 "" == ("__debug__" : Str)) = false := by decide +kernel
  exact this ⟨n, h⟩
theorem all_lv {P : Program} {w : World} {K : PySem.W.Frag} {mg : Str → Option Value} {base : Heap} {G : Glob} {fN : Nat → Str} {fs fb : Nat → Option Fn} {wf : Nat} {T : List (Addr × Str)} (TX : Txt K mg G) (hx : ∀ n, G.ex n = true → n < 14)
    (hfb : ∀ f fn, fb f = some fn → fs f = some fn) (D : ∀ f fn, fb f = some fn → DefT K mg G fN fb wf f fn) : ∀ k f n, (fb f).map Fn.par = some n → KnE P w K mg base (whOf P w K mg fN T) (callF G fs wf k) k f (fN f) n := by
  intro k
  induction k with
  | zero =>
    intro f n hf
    obtain ⟨fn, hff, rfl⟩ := Option.map_eq_some_iff.mp hf
    obtain ⟨st, N, ps, ⟨p, fd, hm, F⟩, hd, hb, S, hp, hN, body⟩ := (D f fn hff).ex
    refine ⟨⟨p, fd, ps, by show refOf (mg (fN f)) = _; rw [hm]; rfl, hm, F.kp, hb F, ⟨fun vs H Q E h => by rw [hp]; exact h.1, fun A outer s H args us vs Q E hr e0 b r hsp => ?_⟩⟩, hd⟩
    obtain ⟨_, _, _, _, _, _, _, _, h⟩ := hsp
    exact h.elim
  | succ k ih =>
    intro f n hf
    obtain ⟨fn, hff, rfl⟩ := Option.map_eq_some_iff.mp hf
    obtain ⟨st, N, ps, ⟨p, fd, hm, F⟩, hd, hb, S, hp, hN, body⟩ := (D f fn hff).ex
    refine ⟨⟨p, fd, ps, by show refOf (mg (fN f)) = _; rw [hm]; rfl, hm, F.kp, hb F, ?_⟩, hd⟩
    refine def_ok F S (hfb f fn hff) hp hN fun cdv A outer s H E s0 hr => body (cf := callF G fs wf k) (k := k) ?_
    exact {
      A := ⟨⟨rfl, rfl, rfl, S.nd, by have := hr.un; show (A.deeper _).units + 70 < cLine; omega, fun _ _ _ => trivial⟩, rfl⟩
      n := rfl
      s := rfl
      sk := S.kind
      fn := rfl
      hr := hr
      hp := passes_of rfl
      tk := L2N.takes_of rfl rfl rfl rfl
      kn := fun g m hg => ⟨(ih g m hg).1, (ih g m hg).2⟩
      bl := TX.bl
      gl := fun g d hg => by
        obtain ⟨u, v, h1, h2, h3⟩ := (TX.gl g d hg).ex
        exact ⟨u, v, h1, h2, h3 _ rfl⟩
      xn := fun n hn => by
        obtain ⟨B, newId, initId, bmB, C, h1, h2, h3, h4, h5, h6⟩ := (TX.xn n hn).ex
        refine ⟨⟨B, newId, initId, bmB, C, h1, h2, h3, h4, raises_own h5 h6, ?_⟩, names_db n (hx n hn)⟩
        show refOf (mg (xNs.getD n "")) = _
        rw [h3]; rfl }
theorem law_ok0 {P : Program} {w : World} {K : PySem.W.Frag} {mg : Str → Option Value} {base : Heap} {G : Glob} {fN : Nat → Str} {fs : Nat → Option Fn} {wf : Nat} {T : List (Addr × Str)} (TX : Txt K mg G) (hx : ∀ n, G.ex n = true → n < 14)
    (D : ∀ f fn, fs f = some fn → DefT K mg G fN fs wf f fn) {k f : Nat} {st : Stmt} {N ps : List Str} {p : Addr} {fd : FuncData} {fn : Fn} (hf : fs f = some fn) (F : Fun K (fN f) (fN f) st p fd) (S : FnScope N ps (defScope st)) (hp : ps.length = fn.par) (hN : N.length = fn.slots)
    (body : ∀ {Z : Wh} {cf : CallF} {k : Nat} {X : Cx} {W : WX} {s0 : Option (Option V)}, Bd Z G fN fs cf k X N (defScope st) (fun _ => true) W → PSs X (defBody st) (rdS Z fn.io s0 W (exss G cf wf fn.io fn.body))) :
    FnOk P w K mg base (L2N.CX P w) (k + 1) p fd ps (spC (whOf P w K mg fN T) fn.par (callF G fs wf (k + 1) f)) := by
  have ih := all_lv (P := P) (w := w) (base := base) (T := T) TX hx (fun _ _ h => h) D k
  refine def_ok F S hf hp hN fun cdv A outer s H E s0 hr => body (cf := callF G fs wf k) (k := k) ?_
  exact {
    A := ⟨⟨rfl, rfl, rfl, S.nd, by have := hr.un; show (A.deeper _).units + 70 < cLine; omega, fun _ _ _ => trivial⟩, rfl⟩
    n := rfl
    s := rfl
    sk := S.kind
    fn := rfl
    hr := hr
    hp := passes_of rfl
    tk := L2N.takes_of rfl rfl rfl rfl
    kn := fun g m hg => ⟨(ih g m hg).1, (ih g m hg).2⟩
    bl := TX.bl
    gl := fun g d hg => by
      obtain ⟨u, v, h1, h2, h3⟩ := (TX.gl g d hg).ex
      exact ⟨u, v, h1, h2, h3 _ rfl⟩
    xn := fun n hn => by
      obtain ⟨B, newId, initId, bmB, C, h1, h2, h3, h4, h5, h6⟩ := (TX.xn n hn).ex
      refine ⟨⟨B, newId, initId, bmB, C, h1, h2, h3, h4, raises_own h5 h6, ?_⟩, names_db n (hx n hn)⟩
      show refOf (mg (xNs.getD n "")) = _
      rw [h3]; rfl }
/-- what the law's def is asked -/
def spL (T : List (Addr × Str)) : PySem.W.Frag → Sp := fun K vs H Q E => ∃ (a : Addr) (ns : List Int), vs = [.ref a] ∧ ns.length ≤ 63 ∧ SqL K H a (ns.map V.int) ∧ LamX.Tabs T H ∧ ∀ H', Q (.bl true) H'
theorem law_ok {P : Program} {w : World} {K : PySem.W.Frag} {mg : Str → Option Value} {base : Heap} {fN : Nat → Str} {T : List (Addr × Str)} {cf : CallF} {k f : Nat} {p : Addr} {fd : FuncData} {ps : List Str} (F : FnOk P w K mg base (L2N.CX P w) k p fd ps (spC (whOf P w K mg fN T) 1 (cf f)))
    (hl : ∀ ns : List Int, ns.length ≤ 63 → cf f none [.scr ns] = .ok (.val (.bl true)) none) : FnOk P w K mg base (L2N.CX P w) k p fd ps (spL T K) := by
  have key : ∀ vs H Q E, spL T K vs H Q E → spC (whOf P w K mg fN T) 1 (cf f) vs H Q E := by
    rintro vs H Q E ⟨a, ns, rfl, hn, hs, tb, q⟩
    rcases hs with hs | hs
    · refine ⟨rfl, fun b => b = a, none, [.scr ns], [], ⟨?_, tb⟩, rfl, ⟨⟨a, rfl, .inl ⟨rfl, hs⟩⟩, True.intro⟩, ?_⟩
      · rintro b rfl
        rcases hs with h | ⟨o, h⟩ <;> exact ⟨_, h, fun ps z => nomatch z⟩
      · rw [hl ns hn]
        rintro v cs F' bs' H' e ⟨rfl, rfl⟩ _
        exact q H'
    · refine ⟨rfl, fun _ => False, none, [.scr ns], [], ⟨fun _ h => h.elim, tb⟩, rfl, ⟨⟨a, rfl, .inr hs⟩, True.intro⟩, ?_⟩
      rw [hl ns hn]
      rintro v cs F' bs' H' e ⟨rfl, rfl⟩ _
      exact q H'
  exact ⟨fun vs H Q E h => F.len _ _ _ _ (key _ _ _ _ h), fun A outer s H args us vs Q E hr e0 b r hsp => F.run A outer s H args us vs Q E hr e0 b r (key _ _ _ _ hsp)⟩
/-- the end: from the law's def to the statement's walk -/
theorem walk_x {l : PySem.W.OpenLaw} {n k : Nat} {q : Program} {loose : List Str} {XP : (Str → Option Value) → Heap → Prop} {YP : World → Heap → Prop} {d : DefRec} {K : Params → PySem.W.Frag} {x : Str}
    (hn : l.most = some n) (hn2 : n ≤ 63) (hdf : d.params.defaults = []) (hr : Room k callerA)
    (hY : ∀ (w : World) (h : Heap), YP w h → (K w.params).In h)
    (F : ∀ (w : World) (mg : Str → Option Value) (fa : Addr) (h : Heap), (K w.params).In h → h.Ns mainGlobals mg → mg d.name = some (.ref fa) →
      ∃ fd : FuncData, (∀ (s : Shared) (u : Value), BindsTo s fd ⟨[u], []⟩ [(x, u)]) ∧
        ∀ base : Heap, FnOk l.prog w (K w.params) mg base (L2N.CX l.prog w) k fa fd [x] (spL [] (K w.params))) :
    PySem.W.WalkO q loose XP YP l.row.toRowW d [] (fun f vs => PySem.call f vs) :=
  walk_of (CX := fun w => L2N.CX l.prog w) (sp := fun w => spL [] (K w.params)) hn (Nat.le_trans hn2 (by decide)) hdf hr hY (fun w mg fa h a b c => let ⟨fd, h1, h2⟩ := F w mg fa h a b c; ⟨fd, h1, fun base _ _ => h2 base⟩) (fun w H a ns h1 h2 h3 => ⟨a, ns, rfl, Nat.le_trans h1 hn2, h3, fun p hp => absurd hp (by simp), fun _ => rfl⟩)
    fun w H s e s' h => by
      obtain ⟨_, _, _, _, _, _, _, _, _, _, _, _, z⟩ := h
      exact z
end TY
set_option maxHeartbeats 2000000
/-! TyZc: the end of a law that hands lambdas to _law_call. -/
namespace TY
open PySem PySem.Spec PyProof.Rows L2 LamX HotX L2H
/-- the error classes of the text, in the clauses and tests -/
structure XcF (K : PySem.W.Frag) (mg : Str → Option Value) (m : Nat) : Prop where
  ex : ∃ C A B, mg (xNs.getD m "") = some (.ref C) ∧ mg "TooMany" = some (.ref A) ∧ mg "TypeOverError" = some (.ref B) ∧ ExcC K C ∧ PySem.W.exmOne K (.ref C) (.ref A) = some false ∧ PySem.W.exmOne K (.ref C) (.ref B) = some true ∧
    PySem.W.kitOne K (.ref C) (.type "ValueError") = some true ∧ ∀ n, 1 ≤ n → n < 14 → ∃ Cn, mg (xNs.getD n "") = some (.ref Cn) ∧ PySem.W.kitOne K (.ref C) (.ref Cn) = some (m == n)
/-- the def that names kinds -/
structure KdT (K : PySem.W.Frag) (mg : Str → Option Value) (G : Glob) (fs : Nat → Option Fn) (wf f : Nat) (x : Str) : Prop where
  ex : ∃ (st : Stmt) (N : List Str) (a : Str) (fn : Fn), DF K mg x st ∧ (∀ {p fd}, Fun K x x st p fd → Binds K fd [a] []) ∧ FnScope N [a] (defScope st) ∧ fs f = some fn ∧ fn.par = 1 ∧ fn.io = false ∧ N.length = fn.slots ∧
    ∀ {Z : Wh} {cf : CallF} {X : Cx} {W : WX} {s0 : Option (Option V)} {q : Addr} {oe : Obj} {m : Nat} {C : Addr}, BdK Z G X N (defScope st) (fun _ => true) q oe m C → PSs X (defBody st) (rdS Z fn.io s0 W (exss G cf wf fn.io fn.body))
  db : (x == ("__debug__" : Str)) = false
theorem kh_of {P : Program} {w : World} {K : PySem.W.Frag} {mg : Str → Option Value} {base : Heap} {G : Glob} {fN : Nat → Str} {fs : Nat → Option Fn} {wf f kk : Nat} {T : List (Addr × Str)} {x : Str} (TX : Txt K mg G) (hve : mg "ValueError" = none) (xc : ∀ m, G.ex m = true → XcF K mg m) (D : KdT K mg G fs wf f x) :
    Kh (whOf P w K mg fN T) mg base G fs wf kk f x := by
  obtain ⟨st, N, a, fn, ⟨p, fd, hm, F⟩, hb, S, hf, h1, h2, h3, body⟩ := D.ex
  refine ⟨⟨st, p, fd, N, a, fn, hm, F, hb F, S, hf, h1, h2, h3, fun q oq m C cdv A outer s H E s0 hxa hex hz hfl hot hr => ?_⟩, D.db⟩
  obtain ⟨C', A1, B1, c1, _, _, c4, _, _, c7, c8⟩ := (xc m hex).ex
  have e : C' = C := by
    have z : refOf (mg (xNs.getD m "")) = some C := hxa
    rw [c1] at z
    exact Option.some.inj z
  subst e
  refine body (Z := (whOf P w K mg fN T).hot q oq m) (q := q) (oe := oq) (m := m) (C := C') ?_
  have hot2 : Hot1 (A.deeper (envOfC x (defScope st) s.heap.objs.size p cdv)) (q, oq) := hot
  exact {
    A := ⟨rfl, rfl, rfl, S.nd, by have := hr.un; show (A.deeper _).units + 70 < cLine; omega, fun _ _ _ => trivial⟩
    n := rfl
    s := rfl
    fn := rfl
    wm := by
      have hc : HotC (cxH (L2N.CX P w) P w K mg base N x (defScope st) p cdv A outer s H E (q, oq)) := ⟨(q, oq), hot2, .head _⟩
      obtain ⟨hh, v1, d1, k1⟩ := hot2
      exact ⟨q, fun pins σ H' s' I => ⟨hh, oq, v1, (I.pin (q, oq) (List.mem_append_left _ (.head _))).1, d1, k1⟩⟩
    bl := TX.bl
    ve := hve
    hx := ⟨rfl, .head _, hz, hfl, c4⟩
    ht := hot2
    xi := fun n h1 hn => by
      obtain ⟨Cn, d1, d2⟩ := c8 n h1 hn
      exact ⟨⟨Cn, d1, d2⟩, names_db n hn⟩
    xv := c7 }
theorem kc_of {P : Program} {w : World} {K : PySem.W.Frag} {mg : Str → Option Value} {G : Glob} {fN : Nat → Str} {T : List (Addr × Str)} {A B : Addr} (hA : mg "TooMany" = some (.ref A)) (hB : mg "TypeOverError" = some (.ref B)) (xc : ∀ m, G.ex m = true → XcF K mg m) : Kc (whOf P w K mg fN T) K mg G := by
  have key : ∀ m C, G.ex m = true → (whOf P w K mg fN T).xa m = some C → PySem.W.exmOne K (.ref C) (.ref A) = some false ∧ PySem.W.exmOne K (.ref C) (.ref B) = some true := fun m C hx hxa => by
    obtain ⟨C', A1, B1, c1, c2, c3, _, c5, c6, _, _⟩ := (xc m hx).ex
    have z : refOf (mg (xNs.getD m "")) = some C := hxa
    rw [c1] at z
    cases Option.some.inj z
    rw [hA] at c2
    rw [hB] at c3
    cases c2
    cases c3
    exact ⟨c5, c6⟩
  exact ⟨⟨A, hA, fun m C h1 h2 => (key m C h1 h2).1⟩, ⟨B, hB, fun m C h1 h2 => (key m C h1 h2).2⟩⟩
/-- the law's def, its body making lambdas -/
theorem law_okC {P : Program} {w : World} {K : PySem.W.Frag} {mg : Str → Option Value} {base : Heap} {G : Glob} {fN : Nat → Str} {fs fb fsk : Nat → Option Fn} {wf : Nat} {T : List (Addr × Str)} (TX : Txt K mg G) (hx : ∀ n, G.ex n = true → n < 14)
    (hfb : ∀ f fn, fb f = some fn → fs f = some fn) (D : ∀ f fn, fb f = some fn → DefT K mg G fN fb wf f fn) {k kk fk f : Nat} {x : Str} {st : Stmt} {N ps : List Str} {p c Pt : Addr} {fd : FuncData} {fn : Fn} (hf : fs f = some fn) (F : Fun K x x st p fd) (S : FnScope N ps (defScope st)) (hp : ps.length = fn.par) (hN : N.length = fn.slots)
    (hcode : fd.code = .ref c) (tb : TabB base mg c Pt) (hT : T = [(Pt, x ++ ".<locals>." ++ "<lambda>")])
    (kd : ∀ x l, G.kinds x = some l → x.pay = none ∧ G.ex x.cls = true ∧ ∃ r, l = [.str r] ∧ callF G fsk wf (kk + 1) fk none [.exc x.cls] = .ok (.val (.str r)) none)
    (lc : ∀ X : Cx, X.prog = P → X.w = w → X.K = K → X.mg = mg → X.base = base → ∃ (g : Addr) (st : Stmt) (fd : FuncData), X.mg "_law_call" = some (.ref g) ∧ Fun X.K "_law_call" "_law_call" st g fd ∧ Binds X.K fd ["call_so"] [] ∧ FnScope ["call_so", "found", "e"] ["call_so"] (defScope st) ∧ Vis (defScope st) "call_so" ∧
      ∀ cdv, GivesN k X ["call_so", "found", "e"] "_law_call" (defScope st) g cdv (defBody st) "call_so" (X.env.qual ++ "<lambda>") (TTc (whOf P w K mg fN T) G fsk wf kk fk))
    (body : ∀ {Z : Wh} {cf : CallF} {k : Nat} {X : Cx} {W : WX} {s0 : Option (Option V)} {fs0 : Nat → Option Fn} {wf0 kk f : Nat}, Bd Z G fN fb cf k X N (defScope st) (fun _ => true) W → BdC Z G fs0 k wf0 kk f X → PSs X (defBody st) (rdS Z fn.io s0 W (exss G cf wf fn.io fn.body))) :
    FnOk P w K mg base (L2N.CX P w) (k + 3) p fd ps (spC (whOf P w K mg fN T) fn.par (callF G fs wf (k + 1) f)) := by
  have ih := all_lv (P := P) (w := w) (base := base) (T := T) TX hx hfb D k
  obtain ⟨_, _, _, _, _, _, cd0, _, _, rfl, lk, hc⟩ := F.ex
  have hcode : cd0 = .ref c := hcode
  subst hcode
  refine fn_of lk hc S (fun vs H Q E h => by rw [hp]; exact h.1) fun A outer s H vs Q E hr hsp => ⟨_, body (cf := callF G fs wf k) (k := k) (fs0 := fsk) (wf0 := wf) (kk := kk) (f := fk) ?_ ?_, spC_rd S hf hp hN hsp⟩
  · exact {
      A := ⟨⟨rfl, rfl, rfl, S.nd, by have := hr.un; show (A.deeper _).units + 70 < cLine; omega, fun _ _ _ => trivial⟩, rfl⟩
      n := rfl
      s := rfl
      sk := S.kind
      fn := rfl
      hr := hr.mono (by omega)
      hp := passes_of rfl
      tk := L2N.takes_of rfl rfl rfl rfl
      kn := fun g m hg => ⟨(ih g m hg).1, (ih g m hg).2⟩
      bl := TX.bl
      gl := fun g d hg => by
        obtain ⟨u, v, h1, h2, h3⟩ := (TX.gl g d hg).ex
        exact ⟨u, v, h1, h2, h3 _ rfl⟩
      xn := fun n hn => by
        obtain ⟨B, newId, initId, bmB, C, h1, h2, h3, h4, h5, h6⟩ := (TX.xn n hn).ex
        refine ⟨⟨B, newId, initId, bmB, C, h1, h2, h3, h4, raises_own h5 h6, ?_⟩, names_db n (hx n hn)⟩
        show refOf (mg (xNs.getD n "")) = _
        rw [h3]; rfl }
  · exact {
      hr := hr
      kd := kd
      tb := ⟨c, Pt, tb, rfl, by show (Pt, _) ∈ T; rw [hT]; exact .head _, fun q hq e => by
        have hq : q ∈ T := hq
        rw [hT] at hq
        rw [List.mem_singleton.mp hq]
        rfl⟩
      lc := lc _ rfl rfl rfl rfl rfl }
end TY
set_option maxHeartbeats 2000000
/-! TyZd: the end, with the table of the law's own code objects. -/
namespace TY
open PySem PySem.Spec PyProof.Rows L2 LamX
def lamQ : Str := "law" ++ ".<locals>." ++ "<lambda>"
/-- the law's def: its code object, its table -/
structure LawC (K : PySem.W.Frag) (fa : Addr) (st : Stmt) (fd : FuncData) (c Pt : Addr) : Prop where
  F : Fun K "law" "law" st fa fd
  hc : fd.code = .ref c
  np : K.lookup Pt = none
  hd : PySem.W.codeHdIn K c Pt = true
  own : ∃ (o : Obj) (e : Value) (dd : Option Addr) (vs : Array Value) (sl : Array (Option Value)), K.lookup fa = some o ∧ o.data = .func fd ∧ K.lookup c = some ⟨e, dd, .fields vs, sl⟩ ∧ vs[11]? = some (.ref Pt)
theorem lawc_mk {K : PySem.W.Frag} {h : Heap} {mg : Str → Option Value} {st : Stmt} {f fa c Pt : Addr} {oc : Value} {od an : Option Addr} {osl sl : Array (Option Value)} {kV doc pm ct e : Value} {dd : Option Addr} {vs : Array Value} (X : K.In h) (G : h.Ns mainGlobals mg) (hfa : mg "law" = some (.ref fa))
    (a : PySem.W.nsIn K mainGlobals "law" = some (some (.ref f))) (l : K.lookup f = some ⟨oc, od, .func (PySem.W.fnOf "law" "law" (defArgs st) (defBody st) (defScope st) .none kV doc pm an (.ref c) ct), osl⟩) (ci : PySem.W.codeIn K (.ref c) "law" = true) (k : PySem.W.keepIn K (.ref f) = true)
    (lc : K.lookup c = some ⟨e, dd, .fields vs, sl⟩) (h11 : vs[11]? = some (.ref Pt)) (np : K.lookup Pt = none) (hd : PySem.W.codeHdIn K c Pt = true) : ∃ fd, LawC K fa st fd c Pt := by
  have e1 := PySem.W.mg_of X G a
  rw [hfa] at e1
  cases e1
  exact ⟨_, fun_mk l ci k, rfl, np, hd, _, _, _, _, _, l, rfl, lc, h11⟩
theorem walk_xC {l : PySem.W.OpenLaw} {n k : Nat} {q : Program} {loose : List Str} {XP : (Str → Option Value) → Heap → Prop} {YP : World → Heap → Prop} {d : DefRec} {K : Params → PySem.W.Frag} {x : Str} {st : Stmt}
    (hn : l.most = some n) (hn2 : n ≤ 63) (hdf : d.params.defaults = []) (hr : Room k callerA) (hrec : ((recsOf q).any fun e => e.name == d.name) = true)
    (hY : ∀ (w : World) (h : Heap), YP w h → (K w.params).In h)
    (F : ∀ (w : World) (mg : Str → Option Value) (fa : Addr) (h : Heap), (K w.params).In h → h.Ns mainGlobals mg → mg d.name = some (.ref fa) →
      ∃ (fd : FuncData) (c Pt : Addr), LawC (K w.params) fa st fd c Pt ∧ (∀ (s : Shared) (u : Value), BindsTo s fd ⟨[u], []⟩ [(x, u)]) ∧
        ∀ base : Heap, TabB base mg c Pt → FnOk l.prog w (K w.params) mg base (L2N.CX l.prog w) k fa fd [x] (spL [(Pt, lamQ)] (K w.params))) :
    PySem.W.WalkO q loose XP YP l.row.toRowW d [] (fun f vs => PySem.call f vs) := by
  refine walk_ofOwn (x := x) (k := k) (CX := fun w => L2N.CX l.prog w) hn (Nat.le_trans hn2 (by decide)) hdf hr hrec hY (fun w mg fa h Y KX G hm own => ?_) fun w H s e s' h => ?_
  · obtain ⟨fd, c, Pt, L, hb, hF⟩ := F w mg fa h KX G hm
    obtain ⟨o, e, dd, vs, sl, o1, o2, o3, o4⟩ := L.own
    have empty := own c Pt o fd e dd vs sl o1 o2 L.hc o3 o4
    have one : ∀ p ∈ [(c, Pt)], p = (c, Pt) := fun p hp => List.mem_singleton.mp hp
    refine ⟨fd, [(c, Pt)], spL [(Pt, lamQ)] (K w.params), fun p hp => by rw [one p hp]; exact empty, fun p hp => by rw [one p hp]; exact L.np, fun p hp => by rw [one p hp]; exact PySem.W.codeHd_of_K KX L.hd, hb, fun H a ns h1 h2 h3 h4 => ?_, fun base _ _ tb => hF base (tb (c, Pt) (.head _))⟩
    refine ⟨a, ns, rfl, Nat.le_trans h1 hn2, h4, fun p hp => ?_, fun _ => rfl⟩
    rw [List.mem_singleton.mp hp]
    exact TabS.nil (h3 (c, Pt) (.head _))
  · obtain ⟨_, _, _, _, _, _, _, _, _, _, _, _, z⟩ := h
    exact z
/-- the addresses of the error classes -/
def nAt (l : List Addr) (n : Nat) : Addr := l.getD n 0
/-- the facts of one error class -/
theorem xcf_mk {K : PySem.W.Frag} {mg : Str → Option Value} {m : Nat} (cs : List Addr) (hcs : ∀ n, n < 14 → mg (xNs.getD n "") = some (.ref (nAt cs n))) (hm : m < 14) (hC : ExcC K (nAt cs m))
    (x1 : PySem.W.exmOne K (.ref (nAt cs m)) (.ref (nAt cs 13)) = some false) (x2 : PySem.W.exmOne K (.ref (nAt cs m)) (.ref (nAt cs 0)) = some true) (x3 : PySem.W.kitOne K (.ref (nAt cs m)) (.type "ValueError") = some true) (x4 : ∀ n, 1 ≤ n → n < 14 → PySem.W.kitOne K (.ref (nAt cs m)) (.ref (nAt cs n)) = some (m == n)) : XcF K mg m :=
  ⟨_, _, _, hcs m hm, hcs 13 (by decide), hcs 0 (by decide), hC, x1, x2, x3, fun n h1 h2 => ⟨_, hcs n h2, x4 n h1 h2⟩⟩
theorem cs14 {K : PySem.W.Frag} {h : Heap} {mg : Str → Option Value} {c0 c1 c2 c3 c4 c5 c6 c7 c8 c9 c10 c11 c12 c13 : Addr} (X : K.In h) (G : h.Ns mainGlobals mg) (h0 : PySem.W.nsIn K mainGlobals "TypeOverError" = some (some (.ref c0))) (h1 : PySem.W.nsIn K mainGlobals "InvalidMachine" = some (some (.ref c1))) (h2 : PySem.W.nsIn K mainGlobals "InvalidRow" = some (some (.ref c2))) (h3 : PySem.W.nsIn K mainGlobals "InvalidSheet" = some (some (.ref c3))) (h4 : PySem.W.nsIn K mainGlobals "InvalidSight" = some (some (.ref c4))) (h5 : PySem.W.nsIn K mainGlobals "InvalidColumn" = some (some (.ref c5))) (h6 : PySem.W.nsIn K mainGlobals "InvalidNumber" = some (some (.ref c6))) (h7 : PySem.W.nsIn K mainGlobals "InvalidPress" = some (some (.ref c7))) (h8 : PySem.W.nsIn K mainGlobals "InvalidIndex" = some (some (.ref c8))) (h9 : PySem.W.nsIn K mainGlobals "InvalidTruth" = some (some (.ref c9))) (h10 : PySem.W.nsIn K mainGlobals "InvalidMark" = some (some (.ref c10))) (h11 : PySem.W.nsIn K mainGlobals "InvalidSlip" = some (some (.ref c11))) (h12 : PySem.W.nsIn K mainGlobals "NothingToUndo" = some (some (.ref c12))) (h13 : PySem.W.nsIn K mainGlobals "TooMany" = some (some (.ref c13))) : ∀ n, n < 14 → mg (xNs.getD n "") = some (.ref (nAt [c0, c1, c2, c3, c4, c5, c6, c7, c8, c9, c10, c11, c12, c13] n)) := by
  intro n hn
  match n, hn with
  | 0, _ => exact PySem.W.mg_of X G h0
  | 1, _ => exact PySem.W.mg_of X G h1
  | 2, _ => exact PySem.W.mg_of X G h2
  | 3, _ => exact PySem.W.mg_of X G h3
  | 4, _ => exact PySem.W.mg_of X G h4
  | 5, _ => exact PySem.W.mg_of X G h5
  | 6, _ => exact PySem.W.mg_of X G h6
  | 7, _ => exact PySem.W.mg_of X G h7
  | 8, _ => exact PySem.W.mg_of X G h8
  | 9, _ => exact PySem.W.mg_of X G h9
  | 10, _ => exact PySem.W.mg_of X G h10
  | 11, _ => exact PySem.W.mg_of X G h11
  | 12, _ => exact PySem.W.mg_of X G h12
  | 13, _ => exact PySem.W.mg_of X G h13
  | n + 14, h => exact absurd h (by omega)
theorem xcf_mk2 {K : PySem.W.Frag} {mg : Str → Option Value} {m : Nat} (cs : List Addr) (hcs : ∀ n, n < 14 → mg (xNs.getD n "") = some (.ref (nAt cs n))) (hm : m < 14) {C A B : Addr} (hC : nAt cs m = C) (hA : nAt cs 13 = A) (hB : nAt cs 0 = B)
    (g1 : PySem.W.findIn K (.ref C) "__getattribute__" = some (some (.builtin "BaseException.__getattribute__"))) (g2 : PySem.W.findIn K (.ref C) "__getattr__" = some none) (g3 : PySem.W.subIn K (.ref C) (.type "BaseException") = some true) (g4 : PySem.W.hasDictIn K C = true)
    (g5 : PySem.W.findIn K (.ref C) "__class__" = some (some (.builtin "object.__class__"))) (g6 : PySem.W.specialIn K (.builtin "object.__class__") "__get__" = some (some (.builtin "getset_descriptor.__get__"))) (g7 : PySem.W.takesIn K (.builtin "object.__class__") = some true) (g8 : PySem.W.mroIn K C (.type "object") = some true)
    (x1 : PySem.W.exmOne K (.ref C) (.ref A) = some false) (x2 : PySem.W.exmOne K (.ref C) (.ref B) = some true) (x3 : PySem.W.kitOne K (.ref C) (.type "ValueError") = some true) (x4 : (List.range 14).all (fun n => n == 0 || PySem.W.kitOne K (.ref C) (.ref (nAt cs n)) == some (m == n)) = true) : XcF K mg m := by
  subst hC hA hB
  refine xcf_mk cs hcs hm ⟨g1, g2, g3, g4, g5, g6, g7, g8⟩ x1 x2 x3 fun n h1 h2 => ?_
  have z := List.all_eq_true.mp x4 n (List.mem_range.mpr h2)
  rw [Bool.or_eq_true] at z
  rcases z with z | z
  · have : n = 0 := by simpa using z
    omega
  · simpa using z
end TY
namespace TY
open PySem PySem.Spec PyProof.Rows L2
def sAt (n : Nat) : Stmt := PySem.Challenge.pw_typedover_k02_what_rows_leave.main.body.getD n (.Pass ⟨0, 0, 0, 0⟩)
def N_is_int : List Str := ["value", "low", "high"]
abbrev s_is_int : Stmt := sAt 20
def P_is_int : List Str := ["value", "low", "high"]
def N_is_machine : List Str := ["value"]
abbrev s_is_machine : Stmt := sAt 21
def P_is_machine : List Str := ["value"]
def N_are_presses : List Str := ["value", "one"]
abbrev s_are_presses : Stmt := sAt 22
def P_are_presses : List Str := ["value"]
def N_is_row : List Str := ["value"]
abbrev s_is_row : Stmt := sAt 23
def P_is_row : List Str := ["value"]
def N_is_cell : List Str := ["value", "sign"]
abbrev s_is_cell : Stmt := sAt 24
def P_is_cell : List Str := ["value"]
def N_total : List Str := ["sheet", "cell"]
abbrev s_total : Stmt := sAt 25
def P_total : List Str := ["sheet"]
def N_are_cells : List Str := ["value", "cell"]
abbrev s_are_cells : Stmt := sAt 26
def P_are_cells : List Str := ["value"]
def N_is_sheet_of : List Str := ["machine", "value"]
abbrev s_is_sheet_of : Stmt := sAt 27
def P_is_sheet_of : List Str := ["machine", "value"]
def N_need_machine : List Str := ["machine"]
abbrev s_need_machine : Stmt := sAt 28
def P_need_machine : List Str := ["machine"]
def N_need_row : List Str := ["row"]
abbrev s_need_row : Stmt := sAt 29
def P_need_row : List Str := ["row"]
def N_need_sheet : List Str := ["machine", "sheet"]
abbrev s_need_sheet : Stmt := sAt 30
def P_need_sheet : List Str := ["machine", "sheet"]
def N_need_column : List Str := ["machine", "column"]
abbrev s_need_column : Stmt := sAt 31
def P_need_column : List Str := ["machine", "column"]
def N_blank : List Str := ["machine"]
abbrev s_blank : Stmt := sAt 33
def P_blank : List Str := ["machine"]
def N_printed : List Str := ["press"]
abbrev s_printed : Stmt := sAt 34
def P_printed : List Str := ["press"]
def N_goes_on : List Str := ["press"]
abbrev s_goes_on : Stmt := sAt 35
def P_goes_on : List Str := ["press"]
def N_moved : List Str := ["machine", "column", "press"]
abbrev s_moved : Stmt := sAt 36
def P_moved : List Str := ["machine", "column", "press"]
def N_with_mark : List Str := ["sheet", "column", "sign", "cell", "one"]
abbrev s_with_mark : Stmt := sAt 37
def P_with_mark : List Str := ["sheet", "column", "sign"]
def N_led : List Str := ["machine", "row", "sheet", "column", "bells", "press", "rings"]
abbrev s_led : Stmt := sAt 38
def P_led : List Str := ["machine", "row", "sheet", "column"]
def N_at_first : List Str := ["machine", "row"]
abbrev s_at_first : Stmt := sAt 39
def P_at_first : List Str := ["machine", "row"]
def N_typed : List Str := ["machine", "row"]
abbrev s_typed : Stmt := sAt 40
def P_typed : List Str := ["machine", "row"]
def N_typed_on : List Str := ["machine", "row", "sheet", "column"]
abbrev s_typed_on : Stmt := sAt 41
def P_typed_on : List Str := ["machine", "row", "sheet", "column"]
def N_law_crate : List Str := ["script", "k", "cell"]
abbrev s_law_crate : Stmt := sAt 43
def P_law_crate : List Str := ["script", "k"]
def N_law_dig : List Str := ["crate", "many", "found", "wide"]
abbrev s_law_dig : Stmt := sAt 44
def P_law_dig : List Str := ["crate", "many"]
def N_law_one_of : List Str := ["crate", "things"]
abbrev s_law_one_of : Stmt := sAt 45
def P_law_one_of : List Str := ["crate", "things"]
def N_law_machine : List Str := ["crate", "most", "last"]
abbrev s_law_machine : Stmt := sAt 46
def P_law_machine : List Str := ["crate", "most"]
def N_law_row : List Str := ["crate", "most", "some", "turn"]
abbrev s_law_row : Stmt := sAt 47
def P_law_row : List Str := ["crate", "most"]
def N_law_goes : List Str := ["machine", "column", "done"]
abbrev s_law_goes : Stmt := sAt 48
def P_law_goes : List Str := ["machine", "column", "done"]
def N_law_sign : List Str := ["done"]
abbrev s_law_sign : Stmt := sAt 49
def P_law_sign : List Str := ["done"]
def N_law_typed : List Str := ["machine", "row", "sheet", "column", "cells", "bells", "cell", "done", "sign", "rings"]
abbrev s_law_typed : Stmt := sAt 50
def P_law_typed : List Str := ["machine", "row", "sheet", "column"]
def N_law_blank : List Str := ["machine"]
abbrev s_law_blank : Stmt := sAt 51
def P_law_blank : List Str := ["machine"]
def N_law_at_first : List Str := ["machine", "row"]
abbrev s_law_at_first : Stmt := sAt 52
def P_law_at_first : List Str := ["machine", "row"]
def N_law_sheet : List Str := ["crate", "machine", "most", "cells", "turn", "column", "sign"]
abbrev s_law_sheet : Stmt := sAt 53
def P_law_sheet : List Str := ["crate", "machine", "most"]
def N_law_k02 : List Str := ["script", "k", "crate", "machine", "turn", "row", "sheet", "column", "bad"]
abbrev s_law_k02 : Stmt := sAt 56
def P_law_k02 : List Str := ["script"]
def fN : Nat → Str
  | 0 => "is_int"
  | 1 => "is_machine"
  | 3 => "are_presses"
  | 4 => "is_row"
  | 5 => "is_cell"
  | 6 => "total"
  | 7 => "are_cells"
  | 8 => "is_sheet_of"
  | 10 => "need_machine"
  | 11 => "need_row"
  | 12 => "need_sheet"
  | 14 => "need_column"
  | 22 => "blank"
  | 23 => "printed"
  | 24 => "goes_on"
  | 25 => "moved"
  | 26 => "with_mark"
  | 27 => "led"
  | 28 => "at_first"
  | 29 => "typed"
  | 30 => "typed_on"
  | 76 => "_law_crate"
  | 77 => "_law_dig"
  | 78 => "_law_one_of"
  | 79 => "_law_machine"
  | 80 => "_law_row"
  | 81 => "_law_goes"
  | 82 => "_law_sign"
  | 83 => "_law_typed"
  | 84 => "_law_blank"
  | 85 => "_law_at_first"
  | 87 => "_law_sheet"
  | 90 => "law"
  | _ => ""
section
variable {Z : Wh} {cf : CallF} {k wf : Nat} {io : Bool} {s0 : Option (Option V)} {X : Cx} {W : WX}
theorem B_is_int (B : Bd Z G0 fN fb cf k X N_is_int (defScope s_is_int) (fun _ => true) W) : PSs X (defBody s_is_int) (rdS Z F_is_int.io s0 W (exss G0 cf wf F_is_int.io F_is_int.body)) :=
  (s_cons (st_ret (e_and (B.is1 .int (B.l 0)) (e_and (e_not (B.is1 .bool (B.l 0))) (one (B.ch .le .le (B.l 1) (B.l 0) (B.l 2))))))
   s_nil)
theorem S_is_int : FnScope N_is_int P_is_int (defScope s_is_int) := ⟨rfl, rfl, rfl, by decide +kernel, rfl, by decide +kernel, by decide +kernel⟩
theorem B_is_machine (B : Bd Z G0 fN fb cf k X N_is_machine (defScope s_is_machine) (fun _ => true) W) : PSs X (defBody s_is_machine) (rdS Z F_is_machine.io s0 W (exss G0 cf wf F_is_machine.io F_is_machine.body)) :=
  (s_cons (st_if (PW.pt (t_or (t_not (tv (B.is1 .tuple (B.l 0)))) (t_or1 (B.tc .ne (B.bt .len (oc (B.l 0) o_nil)) ci))))
    (s_cons (st_ret cb)
     s_nil)
    s_nil)
   (s_cons (st_ret (e_and (B.ca 0 (ac (B.ix (B.l 0) ci) (ac ci (ac ci a_nil)))) (one (B.ca 0 (ac (B.ix (B.l 0) ci) (ac ci (ac (B.ix (B.l 0) ci) a_nil)))))))
   s_nil))
theorem S_is_machine : FnScope N_is_machine P_is_machine (defScope s_is_machine) := ⟨rfl, rfl, rfl, by decide +kernel, rfl, by decide +kernel, by decide +kernel⟩
theorem B_are_presses (B : Bd Z G0 fN fb cf k X N_are_presses (defScope s_are_presses) (fun _ => true) W) : PSs X (defBody s_are_presses) (rdS Z F_are_presses.io s0 W (exss G0 cf wf F_are_presses.io F_are_presses.body)) :=
  (s_cons (st_ret (e_and (B.is1 .str (B.l 0)) (one (B.bt .all (oc (B.lc [("one", 1)] (B.sq (B.l 0)) (fun B1 => ⟨(B1.gn 1), c_nil, (B1.cp .isin (B1.l 1) (B1.g 0))⟩)) o_nil)))))
   s_nil)
theorem S_are_presses : FnScope N_are_presses P_are_presses (defScope s_are_presses) := ⟨rfl, rfl, rfl, by decide +kernel, rfl, by decide +kernel, by decide +kernel⟩
theorem B_is_row (B : Bd Z G0 fN fb cf k X N_is_row (defScope s_is_row) (fun _ => true) W) : PSs X (defBody s_is_row) (rdS Z F_is_row.io s0 W (exss G0 cf wf F_is_row.io F_is_row.body)) :=
  (s_cons (st_ret (e_and (B.ca 3 (ac (B.l 0) a_nil)) (one (B.cp .le (B.bt .len (oc (B.l 0) o_nil)) (B.g 2)))))
   s_nil)
theorem S_is_row : FnScope N_is_row P_is_row (defScope s_is_row) := ⟨rfl, rfl, rfl, by decide +kernel, rfl, by decide +kernel, by decide +kernel⟩
theorem B_is_cell (B : Bd Z G0 fN fb cf k X N_is_cell (defScope s_is_cell) (fun _ => true) W) : PSs X (defBody s_is_cell) (rdS Z F_is_cell.io s0 W (exss G0 cf wf F_is_cell.io F_is_cell.body)) :=
  (s_cons (st_if (t_not (tv (B.is1 .str (B.l 0))))
    (s_cons (st_ret cb)
     s_nil)
    s_nil)
   (s_cons (st_ret (B.cp .eq (B.l 0) (mjo cs (B.lc [("sign", 1)] (B.sq (B.g 1)) (fun B1 => ⟨(B1.gn 1), (c_one (B1.tc .isin (B1.l 1) (B1.l 0))), (B1.l 1)⟩)))))
   s_nil))
theorem S_is_cell : FnScope N_is_cell P_is_cell (defScope s_is_cell) := ⟨rfl, rfl, rfl, by decide +kernel, rfl, by decide +kernel, by decide +kernel⟩
theorem B_total (B : Bd Z G0 fN fb cf k X N_total (defScope s_total) (fun _ => true) W) : PSs X (defBody s_total) (rdS Z F_total.io s0 W (exss G0 cf wf F_total.io F_total.body)) :=
  (s_cons (st_ret (B.bt .sum (oc (B.lc [("cell", 1)] (B.sq (B.l 0)) (fun B1 => ⟨(B1.gn 1), c_nil, (B1.bt .len (oc (B1.l 1) o_nil))⟩)) o_nil)))
   s_nil)
theorem S_total : FnScope N_total P_total (defScope s_total) := ⟨rfl, rfl, rfl, by decide +kernel, rfl, by decide +kernel, by decide +kernel⟩
theorem B_are_cells (B : Bd Z G0 fN fb cf k X N_are_cells (defScope s_are_cells) (fun _ => true) W) : PSs X (defBody s_are_cells) (rdS Z F_are_cells.io s0 W (exss G0 cf wf F_are_cells.io F_are_cells.body)) :=
  (s_cons (st_ret (e_and (B.is1 .tuple (B.l 0)) (e_and (B.bt .all (oc (B.lc [("cell", 1)] (B.sq (B.l 0)) (fun B1 => ⟨(B1.gn 1), c_nil, (B1.ca 5 (ac (B1.l 1) a_nil))⟩)) o_nil)) (one (B.cp .le (B.ca 6 (ac (B.l 0) a_nil)) (B.g 3))))))
   s_nil)
theorem S_are_cells : FnScope N_are_cells P_are_cells (defScope s_are_cells) := ⟨rfl, rfl, rfl, by decide +kernel, rfl, by decide +kernel, by decide +kernel⟩
theorem B_is_sheet_of (B : Bd Z G0 fN fb cf k X N_is_sheet_of (defScope s_is_sheet_of) (fun _ => true) W) : PSs X (defBody s_is_sheet_of) (rdS Z F_is_sheet_of.io s0 W (exss G0 cf wf F_is_sheet_of.io F_is_sheet_of.body)) :=
  (s_cons (st_ret (e_and (B.ca 7 (ac (B.l 1) a_nil)) (one (B.cp .eq (B.bt .len (oc (B.l 1) o_nil)) (B.op .add (B.ix (B.l 0) ci) ci)))))
   s_nil)
theorem S_is_sheet_of : FnScope N_is_sheet_of P_is_sheet_of (defScope s_is_sheet_of) := ⟨rfl, rfl, rfl, by decide +kernel, rfl, by decide +kernel, by decide +kernel⟩
theorem B_need_machine (B : Bd Z G0 fN fb cf k X N_need_machine (defScope s_need_machine) (fun _ => true) W) : PSs X (defBody s_need_machine) (rdS Z F_need_machine.io s0 W (exss G0 cf wf F_need_machine.io F_need_machine.body)) :=
  (s_cons (st_if (t_not (tv (B.ca 1 (ac (B.l 0) a_nil))))
    (s_cons (B.ra 1)
     s_nil)
    s_nil)
   s_nil)
theorem S_need_machine : FnScope N_need_machine P_need_machine (defScope s_need_machine) := ⟨rfl, rfl, rfl, by decide +kernel, rfl, by decide +kernel, by decide +kernel⟩
theorem B_need_row (B : Bd Z G0 fN fb cf k X N_need_row (defScope s_need_row) (fun _ => true) W) : PSs X (defBody s_need_row) (rdS Z F_need_row.io s0 W (exss G0 cf wf F_need_row.io F_need_row.body)) :=
  (s_cons (st_if (t_not (tv (B.ca 4 (ac (B.l 0) a_nil))))
    (s_cons (B.ra 2)
     s_nil)
    s_nil)
   s_nil)
theorem S_need_row : FnScope N_need_row P_need_row (defScope s_need_row) := ⟨rfl, rfl, rfl, by decide +kernel, rfl, by decide +kernel, by decide +kernel⟩
theorem B_need_sheet (B : Bd Z G0 fN fb cf k X N_need_sheet (defScope s_need_sheet) (fun _ => true) W) : PSs X (defBody s_need_sheet) (rdS Z F_need_sheet.io s0 W (exss G0 cf wf F_need_sheet.io F_need_sheet.body)) :=
  (s_cons (st_if (t_not (tv (B.ca 8 (ac (B.l 0) (ac (B.l 1) a_nil)))))
    (s_cons (B.ra 3)
     s_nil)
    s_nil)
   s_nil)
theorem S_need_sheet : FnScope N_need_sheet P_need_sheet (defScope s_need_sheet) := ⟨rfl, rfl, rfl, by decide +kernel, rfl, by decide +kernel, by decide +kernel⟩
theorem B_need_column (B : Bd Z G0 fN fb cf k X N_need_column (defScope s_need_column) (fun _ => true) W) : PSs X (defBody s_need_column) (rdS Z F_need_column.io s0 W (exss G0 cf wf F_need_column.io F_need_column.body)) :=
  (s_cons (st_if (t_not (tv (B.ca 0 (ac (B.l 1) (ac ci (ac (B.ix (B.l 0) ci) a_nil))))))
    (s_cons (B.ra 5)
     s_nil)
    s_nil)
   s_nil)
theorem S_need_column : FnScope N_need_column P_need_column (defScope s_need_column) := ⟨rfl, rfl, rfl, by decide +kernel, rfl, by decide +kernel, by decide +kernel⟩
theorem B_blank (B : Bd Z G0 fN fb cf k X N_blank (defScope s_blank) (fun _ => true) W) : PSs X (defBody s_blank) (rdS Z F_blank.io s0 W (exss G0 cf wf F_blank.io F_blank.body)) :=
  (s_cons (st_ret (B.op .mul (e_tup (ac cs a_nil)) (B.op .add (B.ix (B.l 0) ci) ci)))
   s_nil)
theorem S_blank : FnScope N_blank P_blank (defScope s_blank) := ⟨rfl, rfl, rfl, by decide +kernel, rfl, by decide +kernel, by decide +kernel⟩
theorem B_printed (B : Bd Z G0 fN fb cf k X N_printed (defScope s_printed) (fun _ => true) W) : PSs X (defBody s_printed) (rdS Z F_printed.io s0 W (exss G0 cf wf F_printed.io F_printed.body)) :=
  (s_cons (st_ret (e_ite (B.tc .isin (mlo (B.l 0)) (B.g 1)) (mlo (B.l 0)) cs))
   s_nil)
theorem S_printed : FnScope N_printed P_printed (defScope s_printed) := ⟨rfl, rfl, rfl, by decide +kernel, rfl, by decide +kernel, by decide +kernel⟩
theorem B_goes_on (B : Bd Z G0 fN fb cf k X N_goes_on (defScope s_goes_on) (fun _ => true) W) : PSs X (defBody s_goes_on) (rdS Z F_goes_on.io s0 W (exss G0 cf wf F_goes_on.io F_goes_on.body)) :=
  (s_cons (st_ret (e_or (B.cp .eq (B.l 0) cs) (one (B.cp .isin (B.l 0) (B.g 1)))))
   s_nil)
theorem S_goes_on : FnScope N_goes_on P_goes_on (defScope s_goes_on) := ⟨rfl, rfl, rfl, by decide +kernel, rfl, by decide +kernel, by decide +kernel⟩
theorem B_moved (B : Bd Z G0 fN fb cf k X N_moved (defScope s_moved) (fun _ => true) W) : PSs X (defBody s_moved) (rdS Z F_moved.io s0 W (exss G0 cf wf F_moved.io F_moved.body)) :=
  (s_cons (st_if (B.tc .eq (B.l 2) cs)
    (s_cons (st_ret (e_tup (ac (B.bt .max2 (oc ci (oc (B.op .sub (B.l 1) ci) o_nil))) (ac cb a_nil))))
     s_nil)
    s_nil)
   (s_cons (st_if (PW.pt (t_or (t_not (tv (B.ca 24 (ac (B.l 2) a_nil)))) (t_or1 (B.tc .eq (B.l 1) (B.ix (B.l 0) ci)))))
    (s_cons (st_ret (e_tup (ac (B.l 1) (ac cb a_nil))))
     s_nil)
    s_nil)
   (s_cons (st_ret (e_tup (ac (B.op .add (B.l 1) ci) (ac (B.cp .eq (B.op .add (B.l 1) ci) (B.ix (B.l 0) ci)) a_nil))))
   s_nil)))
theorem S_moved : FnScope N_moved P_moved (defScope s_moved) := ⟨rfl, rfl, rfl, by decide +kernel, rfl, by decide +kernel, by decide +kernel⟩
theorem B_with_mark (B : Bd Z G0 fN fb cf k X N_with_mark (defScope s_with_mark) (fun _ => true) W) : PSs X (defBody s_with_mark) (rdS Z F_with_mark.io s0 W (exss G0 cf wf F_with_mark.io F_with_mark.body)) :=
  (s_cons (B.st 3 (mjo cs (B.lc [("one", 4)] (B.sq (B.g 1)) (fun B1 => ⟨(B1.gn 4), (c_one (B1.tc .isin (B1.l 4) (B1.op .add (B1.ix (B1.l 0) (B1.l 1)) (B1.l 2)))), (B1.l 4)⟩))))
   (s_cons (st_ret (B.op .add (B.op .add (B.sl (B.l 0) p_none (p_some (B.l 1))) (e_tup (ac (B.l 3) a_nil))) (B.sl (B.l 0) (p_some (B.op .add (B.l 1) ci)) p_none)))
   s_nil))
theorem S_with_mark : FnScope N_with_mark P_with_mark (defScope s_with_mark) := ⟨rfl, rfl, rfl, by decide +kernel, rfl, by decide +kernel, by decide +kernel⟩
theorem B_led (B : Bd Z G0 fN fb cf k X N_led (defScope s_led) (fun _ => true) W) : PSs X (defBody s_led) (rdS Z F_led.io s0 W (exss G0 cf wf F_led.io F_led.body)) :=
  (s_cons (B.st 4 ci)
   (s_cons (B.fo (B.sq (B.l 1)) (B.gn 5)
    (s_cons (B.st 2 (B.ca 26 (ac (B.l 2) (ac (B.l 3) (ac (B.ca 23 (ac (B.l 5) a_nil)) a_nil)))))
     (s_cons (B.up (B.gt (gc (B.gn 3) (gc (B.gn 6) g_nil))) (B.ca 25 (ac (B.l 0) (ac (B.l 3) (ac (B.l 5) a_nil)))))
     (s_cons (B.st 4 (B.op .add (B.l 4) (B.bt .int (oc (B.l 6) o_nil))))
     s_nil))))
   (s_cons (st_ret (e_tup (ac (B.l 2) (ac (B.l 3) (ac (B.l 4) a_nil)))))
   s_nil)))
theorem S_led : FnScope N_led P_led (defScope s_led) := ⟨rfl, rfl, rfl, by decide +kernel, rfl, by decide +kernel, by decide +kernel⟩
theorem B_at_first (B : Bd Z G0 fN fb cf k X N_at_first (defScope s_at_first) (fun _ => true) W) : PSs X (defBody s_at_first) (rdS Z F_at_first.io s0 W (exss G0 cf wf F_at_first.io F_at_first.body)) :=
  (s_cons (st_ret (B.ca 27 (ac (B.l 0) (ac (B.l 1) (ac (B.ca 22 (ac (B.l 0) a_nil)) (ac ci a_nil))))))
   s_nil)
theorem S_at_first : FnScope N_at_first P_at_first (defScope s_at_first) := ⟨rfl, rfl, rfl, by decide +kernel, rfl, by decide +kernel, by decide +kernel⟩
theorem B_typed (B : Bd Z G0 fN fb cf k X N_typed (defScope s_typed) (fun _ => true) W) : PSs X (defBody s_typed) (rdS Z F_typed.io s0 W (exss G0 cf wf F_typed.io F_typed.body)) :=
  (s_cons (B.xs (B.ca 10 (ac (B.l 0) a_nil)))
   (s_cons (B.xs (B.ca 11 (ac (B.l 1) a_nil)))
   (s_cons (st_ret (B.ca 28 (ac (B.l 0) (ac (B.l 1) a_nil))))
   s_nil)))
theorem S_typed : FnScope N_typed P_typed (defScope s_typed) := ⟨rfl, rfl, rfl, by decide +kernel, rfl, by decide +kernel, by decide +kernel⟩
theorem B_typed_on (B : Bd Z G0 fN fb cf k X N_typed_on (defScope s_typed_on) (fun _ => true) W) : PSs X (defBody s_typed_on) (rdS Z F_typed_on.io s0 W (exss G0 cf wf F_typed_on.io F_typed_on.body)) :=
  (s_cons (B.xs (B.ca 10 (ac (B.l 0) a_nil)))
   (s_cons (B.xs (B.ca 11 (ac (B.l 1) a_nil)))
   (s_cons (B.xs (B.ca 12 (ac (B.l 0) (ac (B.l 2) a_nil))))
   (s_cons (B.xs (B.ca 14 (ac (B.l 0) (ac (B.l 3) a_nil))))
   (s_cons (st_ret (B.ca 27 (ac (B.l 0) (ac (B.l 1) (ac (B.l 2) (ac (B.l 3) a_nil))))))
   s_nil)))))
theorem S_typed_on : FnScope N_typed_on P_typed_on (defScope s_typed_on) := ⟨rfl, rfl, rfl, by decide +kernel, rfl, by decide +kernel, by decide +kernel⟩
theorem B_law_crate (B : Bd Z G0 fN fb cf k X N_law_crate (defScope s_law_crate) (fun _ => true) W) : PSs X (defBody s_law_crate) (rdS Z F_law_crate.io s0 W (exss G0 cf wf F_law_crate.io F_law_crate.body)) :=
  (s_cons (B.st 2 (B.op .add (B.op .mul ci (B.l 1)) ci))
   (s_cons (st_if (B.tc .lt (B.l 1) (B.bt .len (oc (B.l 0) o_nil)))
    (s_cons (B.st 2 (B.op .mod (B.bt .abs (oc (B.bt .int (oc (B.ix (B.l 0) (B.l 1)) o_nil)) o_nil)) (B.op .mul (B.op .mul (B.op .mul (B.op .pow ci ci) (B.op .pow ci ci)) (B.op .pow ci ci)) (B.op .pow ci ci))))
     s_nil)
    (s_cons (st_if (B.tc .gt (B.bt .len (oc (B.l 0) o_nil)) ci)
      (s_cons (B.st 2 (B.op .add (B.l 2) (B.op .mod (B.bt .abs (oc (B.bt .int (oc (B.ix (B.l 0) ci) o_nil)) o_nil)) ci)))
       s_nil)
      s_nil)
     s_nil))
   (s_cons (st_ret (e_lst (ac (e_ite (B.tc .ge (B.l 2) (B.op .pow ci ci)) (B.l 2) ci) (ac (B.op .add (B.op .mod (B.bt .int (oc (B.op .add (B.op .add (B.op .mul (B.op .mod (B.l 2) ci) ci) (B.op .mul ci (B.l 1))) ci) o_nil)) ci) ci) a_nil))))
   s_nil)))
theorem S_law_crate : FnScope N_law_crate P_law_crate (defScope s_law_crate) := ⟨rfl, rfl, rfl, by decide +kernel, rfl, by decide +kernel, by decide +kernel⟩
theorem B_law_dig (B : Bd Z G0 fN fb cf k X N_law_dig (defScope s_law_dig) (fun _ => true) W) : PSs X (defBody s_law_dig) (rdS Z F_law_dig.io s0 W (exss G0 cf wf F_law_dig.io F_law_dig.body)) :=
  (s_cons (st_if (B.tc .gt (B.ix (B.l 0) ci) ci)
    (s_cons (B.st 2 (B.op .mod (B.bt .int (oc (B.ix (B.l 0) ci) o_nil)) (B.l 1)))
     (s_cons (B.si 0 (B.op .fdiv (B.ix (B.l 0) ci) (B.l 1)) ci)
     (s_cons (st_ret (B.l 2))
     s_nil)))
    s_nil)
   (s_cons (B.upc (B.gt (gc (B.gn 2) (gc (B.gn 3) g_nil))) (e_tup (ac ci (ac ci a_nil))))
   (s_cons (B.wh (PW.pt (t_or (B.tc .lt (B.l 3) (B.l 1)) (t_or1 (B.tc .eq (B.l 3) ci))))
    (s_cons (B.si 0 (B.op .mod (B.bt .int (oc (B.op .add (B.op .mul (B.ix (B.l 0) ci) ci) ci) o_nil)) ci) ci)
     (s_cons (B.st 2 (B.op .add (B.op .mul (B.l 2) ci) (B.op .mod (B.bt .int (oc (B.op .fdiv (B.ix (B.l 0) ci) ci) o_nil)) ci)))
     (s_cons (B.st 3 (B.op .mul (B.l 3) ci))
     s_nil))))
   (s_cons (st_ret (B.op .mod (B.bt .int (oc (B.l 2) o_nil)) (B.l 1)))
   s_nil))))
theorem S_law_dig : FnScope N_law_dig P_law_dig (defScope s_law_dig) := ⟨rfl, rfl, rfl, by decide +kernel, rfl, by decide +kernel, by decide +kernel⟩
theorem B_law_one_of (B : Bd Z G0 fN fb cf k X N_law_one_of (defScope s_law_one_of) (fun _ => true) W) : PSs X (defBody s_law_one_of) (rdS Z F_law_one_of.io s0 W (exss G0 cf wf F_law_one_of.io F_law_one_of.body)) :=
  (s_cons (st_ret (B.ix (B.l 1) (B.cl 77 0 (ac (B.bt .len (oc (B.l 1) o_nil)) a_nil))))
   s_nil)
theorem S_law_one_of : FnScope N_law_one_of P_law_one_of (defScope s_law_one_of) := ⟨rfl, rfl, rfl, by decide +kernel, rfl, by decide +kernel, by decide +kernel⟩
theorem B_law_machine (B : Bd Z G0 fN fb cf k X N_law_machine (defScope s_law_machine) (fun _ => true) W) : PSs X (defBody s_law_machine) (rdS Z F_law_machine.io s0 W (exss G0 cf wf F_law_machine.io F_law_machine.body)) :=
  (s_cons (B.st 2 (B.op .add ci (B.cl 77 0 (ac (B.l 1) a_nil))))
   (s_cons (st_ret (e_tup (ac (B.l 2) (ac (B.op .add ci (B.cl 77 0 (ac (B.l 2) a_nil))) a_nil))))
   s_nil))
theorem S_law_machine : FnScope N_law_machine P_law_machine (defScope s_law_machine) := ⟨rfl, rfl, rfl, by decide +kernel, rfl, by decide +kernel, by decide +kernel⟩
theorem B_law_row (B : Bd Z G0 fN fb cf k X N_law_row (defScope s_law_row) (fun _ => true) W) : PSs X (defBody s_law_row) (rdS Z F_law_row.io s0 W (exss G0 cf wf F_law_row.io F_law_row.body)) :=
  (s_cons (B.st 2 (B.cl 78 0 (ac (e_lst (ac cs (ac cs (ac cs (ac cs (ac cs a_nil)))))) a_nil)))
   (s_cons (st_ret (mjo cs (B.lc [("turn", 3)] (B.r1 (ac (B.cl 77 0 (ac (B.op .add (B.l 1) ci) a_nil)) a_nil)) (fun B1 => ⟨(B1.gn 3), c_nil, (B1.cl 78 0 (ac (B1.l 2) a_nil))⟩))))
   s_nil))
theorem S_law_row : FnScope N_law_row P_law_row (defScope s_law_row) := ⟨rfl, rfl, rfl, by decide +kernel, rfl, by decide +kernel, by decide +kernel⟩
theorem B_law_goes (B : Bd Z G0 fN fb cf k X N_law_goes (defScope s_law_goes) (fun _ => true) W) : PSs X (defBody s_law_goes) (rdS Z F_law_goes.io s0 W (exss G0 cf wf F_law_goes.io F_law_goes.body)) :=
  (s_cons (st_if (B.tc .eq (B.l 2) cs)
    (s_cons (st_ret (e_tup (ac (e_ite (B.tc .gt (B.l 1) ci) (B.op .sub (B.l 1) ci) ci) (ac cb a_nil))))
     s_nil)
    s_nil)
   (s_cons (st_if (PW.pt (t_or (B.tc .isin (B.l 2) (e_lst (ac cs (ac cs (ac cs a_nil))))) (t_or1 (B.tc .eq (B.l 1) (B.ix (B.l 0) ci)))))
    (s_cons (st_ret (e_tup (ac (B.l 1) (ac cb a_nil))))
     s_nil)
    s_nil)
   (s_cons (st_ret (e_tup (ac (B.op .add (B.l 1) ci) (ac (B.cp .eq (B.op .add (B.l 1) ci) (B.ix (B.l 0) ci)) a_nil))))
   s_nil)))
theorem S_law_goes : FnScope N_law_goes P_law_goes (defScope s_law_goes) := ⟨rfl, rfl, rfl, by decide +kernel, rfl, by decide +kernel, by decide +kernel⟩
theorem B_law_sign (B : Bd Z G0 fN fb cf k X N_law_sign (defScope s_law_sign) (fun _ => true) W) : PSs X (defBody s_law_sign) (rdS Z F_law_sign.io s0 W (exss G0 cf wf F_law_sign.io F_law_sign.body)) :=
  (s_cons (st_ret (B.ge2 (B.dk [([97], [97]), ([65], [97]), ([98], [98]), ([66], [98]), ([99], [99]), ([67], [99])] (dp_c (dp_c (dp_c (dp_c (dp_c (dp_c dp_nil))))))) (B.l 0) cs))
   s_nil)
theorem S_law_sign : FnScope N_law_sign P_law_sign (defScope s_law_sign) := ⟨rfl, rfl, rfl, by decide +kernel, rfl, by decide +kernel, by decide +kernel⟩
theorem B_law_typed (B : Bd Z G0 fN fb cf k X N_law_typed (defScope s_law_typed) (fun _ => true) W) : PSs X (defBody s_law_typed) (rdS Z F_law_typed.io s0 W (exss G0 cf wf F_law_typed.io F_law_typed.body)) :=
  (s_cons (B.pr2 4 5 (pc (B.lcl [("cell", 6)] (B.sq (B.l 2)) (fun B1 => ⟨(B1.gn 6), c_nil, (B1.bt .list (oc (B1.l 6) o_nil))⟩)) (pc ci pp_nil)))
   (s_cons (B.fo (B.sq (B.l 1)) (B.gn 7)
    (s_cons (B.st 8 (B.ca 82 (ac (B.l 7) a_nil)))
     (s_cons (st_if (PW.pt (t_and (B.tc .ne (B.l 8) cs) (t_and1 (B.tc .notin (B.l 8) (B.ix (B.l 4) (B.l 3))))))
      (s_cons (B.a2 4 3 8)
       s_nil)
      s_nil)
     (s_cons (B.up (B.gt (gc (B.gn 3) (gc (B.gn 9) g_nil))) (B.ca 81 (ac (B.l 0) (ac (B.l 3) (ac (B.l 7) a_nil)))))
     (s_cons (B.st 5 (B.op .add (B.l 5) (B.bt .int (oc (B.l 9) o_nil))))
     s_nil)))))
   (s_cons (st_ret (e_tup (ac (B.bt .tuple (oc (B.lc [("cell", 6)] (B.sq (B.l 4)) (fun B1 => ⟨(B1.gn 6), c_nil, (mjo cs (B1.bt .sorted (oc (B1.l 6) o_nil)))⟩)) o_nil)) (ac (B.l 3) (ac (B.l 5) a_nil)))))
   s_nil)))
theorem S_law_typed : FnScope N_law_typed P_law_typed (defScope s_law_typed) := ⟨rfl, rfl, rfl, by decide +kernel, rfl, by decide +kernel, by decide +kernel⟩
theorem B_law_blank (B : Bd Z G0 fN fb cf k X N_law_blank (defScope s_law_blank) (fun _ => true) W) : PSs X (defBody s_law_blank) (rdS Z F_law_blank.io s0 W (exss G0 cf wf F_law_blank.io F_law_blank.body)) :=
  (s_cons (st_ret (B.op .mul (e_tup (ac cs a_nil)) (B.op .add (B.ix (B.l 0) ci) ci)))
   s_nil)
theorem S_law_blank : FnScope N_law_blank P_law_blank (defScope s_law_blank) := ⟨rfl, rfl, rfl, by decide +kernel, rfl, by decide +kernel, by decide +kernel⟩
theorem B_law_at_first (B : Bd Z G0 fN fb cf k X N_law_at_first (defScope s_law_at_first) (fun _ => true) W) : PSs X (defBody s_law_at_first) (rdS Z F_law_at_first.io s0 W (exss G0 cf wf F_law_at_first.io F_law_at_first.body)) :=
  (s_cons (st_ret (B.ca 83 (ac (B.l 0) (ac (B.l 1) (ac (B.ca 84 (ac (B.l 0) a_nil)) (ac ci a_nil))))))
   s_nil)
theorem S_law_at_first : FnScope N_law_at_first P_law_at_first (defScope s_law_at_first) := ⟨rfl, rfl, rfl, by decide +kernel, rfl, by decide +kernel, by decide +kernel⟩
theorem B_law_sheet (B : Bd Z G0 fN fb cf k X N_law_sheet (defScope s_law_sheet) (fun _ => true) W) : PSs X (defBody s_law_sheet) (rdS Z F_law_sheet.io s0 W (exss G0 cf wf F_law_sheet.io F_law_sheet.body)) :=
  (s_cons (B.st 3 (B.op .mul (e_lst (ac cs a_nil)) (B.op .add (B.ix (B.l 1) ci) ci)))
   (s_cons (B.fo (B.r1 (ac (B.cl 77 0 (ac (B.op .add (B.l 2) ci) a_nil)) a_nil)) (B.gn 4)
    (s_cons (B.pr2 5 6 (pc (B.cl 77 0 (ac (B.bt .len (oc (B.l 3) o_nil)) a_nil)) (pc (B.cl 78 0 (ac cs a_nil)) pp_nil)))
     (s_cons (st_if (B.tc .notin (B.l 6) (B.ix (B.l 3) (B.l 5)))
      (s_cons (B.si 3 (mjo cs (B.bt .sorted (oc (B.op .add (B.ix (B.l 3) (B.l 5)) (B.l 6)) o_nil))) (B.l 5))
       s_nil)
      s_nil)
     s_nil)))
   (s_cons (st_ret (B.bt .tuple (oc (B.l 3) o_nil)))
   s_nil)))
theorem S_law_sheet : FnScope N_law_sheet P_law_sheet (defScope s_law_sheet) := ⟨rfl, rfl, rfl, by decide +kernel, rfl, by decide +kernel, by decide +kernel⟩
theorem B_law_k02 (B : Bd Z G0 fN fb cf k X N_law_k02 (defScope s_law_k02) (fun _ => true) W) {fs0 : Nat → Option Fn} {wf0 kk f0 : Nat} (Dc : BdC Z G0 fs0 k wf0 kk f0 X) : PSs X (defBody s_law_k02) (rdS Z F_law_k02.io s0 W (exss G0 cf wf F_law_k02.io F_law_k02.body)) :=
  (s_cons (B.fo (B.r1 (ac (B.bt .max2 (oc ci (oc (B.bt .min2 (oc ci (oc (B.bt .len (oc (B.l 0) o_nil)) o_nil))) o_nil))) a_nil)) (B.gn 1)
    (s_cons (B.st 2 (B.ca 76 (ac (B.l 0) (ac (B.l 1) a_nil))))
     (s_cons (B.st 3 (B.cl 79 2 (ac ci a_nil)))
     (s_cons (B.fo (B.r1 (ac ci a_nil)) (B.gn 4)
      (s_cons (B.upx (B.gt (gc (B.gn 5) (gc (B.gn 6) g_nil))) (e_tup (ac (B.cl 80 2 (ac ci a_nil)) (ac (B.cl 87 2 (ac (B.l 3) (ac ci a_nil))) a_nil))))
       (s_cons (st_if (B.tc .ne (B.ca 29 (ac (B.l 3) (ac (B.l 5) a_nil))) (B.ca 85 (ac (B.l 3) (ac (B.l 5) a_nil))))
        (s_cons (st_ret cb)
         s_nil)
        s_nil)
       (s_cons (B.fo (B.r1 (ac (B.op .add (B.ix (B.l 3) ci) ci) a_nil)) (B.gn 7)
        (s_cons (st_if (B.tc .ne (B.ca 30 (ac (B.l 3) (ac (B.l 5) (ac (B.l 6) (ac (B.l 7) a_nil))))) (B.ca 83 (ac (B.l 3) (ac (B.l 5) (ac (B.l 6) (ac (B.l 7) a_nil))))))
          (s_cons (st_ret cb)
           s_nil)
          s_nil)
         s_nil))
       s_nil))))
     (s_cons (B.fo (B.sq (e_lst (ac cn (ac cs (ac (e_lst (ac cs a_nil)) (ac (B.op .mul cs ci) (ac (e_tup (ac cs a_nil)) (ac ci a_nil)))))))) (B.gn 8)
      (s_cons (st_if (B.tc .ne (B.ct Dc (fun B1 => (B1.ca 29 (ac (B1.l 3) (ac (B1.l 8) a_nil))))) (e_tup (ac cs a_nil)))
        (s_cons (st_ret cb)
         s_nil)
        s_nil)
       (s_cons (st_if (B.tc .ne (B.ct Dc (fun B1 => (B1.ca 30 (ac (B1.l 3) (ac (B1.l 8) (ac cn (ac cn a_nil))))))) (e_tup (ac cs a_nil)))
        (s_cons (st_ret cb)
         s_nil)
        s_nil)
       s_nil)))
     (s_cons (B.fo (B.sq (e_lst (ac cn (ac (B.sl (B.l 6) (p_some ci) p_none) (ac (B.bt .list (oc (B.l 6) o_nil)) (ac (B.op .mul (e_tup (ac cs a_nil)) (B.bt .len (oc (B.l 6) o_nil))) a_nil)))))) (B.gn 8)
      (s_cons (st_if (B.tc .ne (B.ct Dc (fun B1 => (B1.ca 30 (ac (B1.l 3) (ac (B1.l 5) (ac (B1.l 8) (ac cn a_nil))))))) (e_tup (ac cs a_nil)))
        (s_cons (st_ret cb)
         s_nil)
        s_nil)
       s_nil))
     (s_cons (B.fo (B.sq (e_lst (ac cn (ac (e_neg ci) (ac (B.op .add (B.ix (B.l 3) ci) ci) (ac cb (ac cs a_nil))))))) (B.gn 8)
      (s_cons (st_if (B.tc .ne (B.ct Dc (fun B1 => (B1.ca 30 (ac (B1.l 3) (ac (B1.l 5) (ac (B1.l 6) (ac (B1.l 8) a_nil))))))) (e_tup (ac cs a_nil)))
        (s_cons (st_ret cb)
         s_nil)
        s_nil)
       s_nil))
     s_nil)))))))
   (s_cons (st_ret (B.cp .eq (B.ca 29 (ac (e_tup (ac ci (ac ci a_nil))) (ac cs a_nil))) (e_tup (ac (e_tup (ac cs (ac cs (ac cs a_nil)))) (ac ci (ac ci a_nil))))))
   s_nil))
theorem S_law_k02 : FnScope N_law_k02 P_law_k02 (defScope s_law_k02) := ⟨rfl, rfl, rfl, by decide +kernel, rfl, by decide +kernel, by decide +kernel⟩
def N_law_kinds : List Str := ["e", "some", "words", "word", "good"]
abbrev s_law_kinds : Stmt := sAt 54
def P_law_kinds : List Str := ["e"]
theorem S_law_kinds : FnScope N_law_kinds P_law_kinds (defScope s_law_kinds) := ⟨rfl, rfl, rfl, by decide +kernel, rfl, by decide +kernel, by decide +kernel⟩
def N_law_call : List Str := ["call_so", "found", "e"]
abbrev s_law_call : Stmt := sAt 55
def P_law_call : List Str := ["call_so"]
theorem S_law_call : FnScope N_law_call P_law_call (defScope s_law_call) := ⟨rfl, rfl, rfl, by decide +kernel, rfl, by decide +kernel, by decide +kernel⟩
theorem B_law_kinds {q : Addr} {oe : Obj} {m : Nat} {C : Addr} (B : BdK Z G0 X N_law_kinds (defScope s_law_kinds) (fun _ => true) q oe m C) : PSs X (defBody s_law_kinds) (rdS Z F_law_kinds.io s0 W (exss G0 cf wf F_law_kinds.io F_law_kinds.body)) :=
  (s_cons (B.st 1 (e_lst (ac (B.ic 5 (B.l 0)) (ac (B.ic 8 (B.l 0)) (ac (B.ic 1 (B.l 0)) a_nil)))))
   (s_cons (B.st 1 (B.op .add (B.l 1) (e_lst (ac (B.ic 10 (B.l 0)) (ac (B.ic 6 (B.l 0)) (ac (B.ic 7 (B.l 0)) a_nil))))))
   (s_cons (B.st 1 (B.op .add (B.l 1) (e_lst (ac (B.ic 2 (B.l 0)) (ac (B.ic 3 (B.l 0)) (ac (B.ic 4 (B.l 0)) a_nil))))))
   (s_cons (B.st 1 (B.op .add (B.l 1) (e_lst (ac (B.ic 11 (B.l 0)) (ac (B.ic 9 (B.l 0)) (ac (B.ic 12 (B.l 0)) a_nil))))))
   (s_cons (B.st 1 (B.op .add (B.l 1) (e_lst (ac (B.ic 13 (B.l 0)) (ac (B.iv (B.l 0)) a_nil)))))
   (s_cons (B.st 2 (e_lst (ac cs (ac cs (ac cs (ac cs (ac cs (ac cs a_nil))))))))
   (s_cons (B.st 2 (B.op .add (B.l 2) (e_lst (ac cs (ac cs (ac cs (ac cs (ac cs (ac cs a_nil)))))))))
   (s_cons (st_ret (mjo cs (B.lz [("word", 3), ("good", 4)] (ac (B.op .add (B.l 2) (e_lst (ac cs (ac cs a_nil)))) (ac (B.l 1) a_nil)) (fun B1 => ⟨(B1.gt (gc (B1.gn 3) (gc (B1.gn 4) g_nil))), (c_one (tv (B1.l 4))), (B1.l 3)⟩))))
   s_nil))))))))
def fsk : Nat → Option Fn := fun n => if n = 0 then some F_law_kinds else none
theorem kd_ok : ∀ x l, G0.kinds x = some l → x.pay = none ∧ G0.ex x.cls = true ∧ ∃ r, l = [.str r] ∧ callF G0 fsk 64 (0 + 1) 0 none [.exc x.cls] = .ok (.val (.str r)) none := by
  rintro ⟨c, pay⟩ l h
  have h : kindG exB ⟨c, pay⟩ = some l := h
  unfold kindG at h
  cases pay with
  | some _ => cases h
  | none =>
    simp only at h
    split at h
    case isFalse => cases h
    rename_i hx
    cases h
    refine ⟨rfl, hx, _, rfl, ?_⟩
    have lt : c < 14 := by
      simp only [exB, Bool.or_eq_true, beq_iff_eq] at hx
      omega
    have one : ∀ c : Nat, c < 14 → callF G0 fsk 64 (0 + 1) 0 none [.exc c] = .ok (.val (.str (kindS c))) none ∨ exB c = false := by
      intro c hc
      match c, hc with
      | 0, _ => exact .inr rfl
      | 1, _ => exact .inl (by kernel_rfl)
      | 2, _ => exact .inl (by kernel_rfl)
      | 3, _ => exact .inl (by kernel_rfl)
      | 4, _ => exact .inr rfl
      | 5, _ => exact .inl (by kernel_rfl)
      | 6, _ => exact .inr rfl
      | 7, _ => exact .inr rfl
      | 8, _ => exact .inr rfl
      | 9, _ => exact .inr rfl
      | 10, _ => exact .inr rfl
      | 11, _ => exact .inr rfl
      | 12, _ => exact .inr rfl
      | 13, _ => exact .inr rfl
      | n + 14, h => exact absurd h (by omega)
    exact (one c lt).resolve_right (by rw [show exB c = true from hx]; decide)
theorem lc_ok {P : Program} {w : World} {K : PySem.W.Frag} {mg : Str → Option Value} {base : Heap} {T : List (Addr × Str)} {A B : Addr} {kr : Nat} (TX : Txt K mg G0) (hve : mg "ValueError" = none) (xc : ∀ m, G0.ex m = true → XcF K mg m) (dk : DF K mg "_law_kinds" s_law_kinds) (dl : DF K mg "_law_call" s_law_call) (hA : mg "TooMany" = some (.ref A)) (hB : mg "TypeOverError" = some (.ref B)) :
    ∀ X : Cx, X.prog = P → X.w = w → X.K = K → X.mg = mg → X.base = base → ∃ (g : Addr) (st : Stmt) (fd : FuncData), X.mg "_law_call" = some (.ref g) ∧ Fun X.K "_law_call" "_law_call" st g fd ∧ Binds X.K fd ["call_so"] [] ∧ FnScope ["call_so", "found", "e"] ["call_so"] (defScope st) ∧ Vis (defScope st) "call_so" ∧
      ∀ cdv, GivesN kr X ["call_so", "found", "e"] "_law_call" (defScope st) g cdv (defBody st) "call_so" (X.env.qual ++ "<lambda>") (TTc (whOf P w K mg fN T) G0 fsk 64 0 0) := by
  rintro X rfl rfl rfl rfl rfl
  obtain ⟨g, fd, hm, F⟩ := dl.ex
  have kt : KdT X.K X.mg G0 fsk 64 0 "_law_kinds" := ⟨⟨s_law_kinds, N_law_kinds, "e", F_law_kinds, dk, fun F => F.binds fun _ _ _ _ _ _ us hl => match us, hl with | [_], _ => rfl, S_law_kinds, rfl, rfl, rfl, rfl, fun B => B_law_kinds B⟩, by decide +kernel⟩
  have kh : Kh (whOf X.prog X.w X.K X.mg fN T) X.mg X.base G0 fsk 64 0 0 "_law_kinds" := kh_of TX hve xc kt
  refine ⟨g, s_law_call, fd, hm, F, F.binds fun _ _ _ _ _ _ us hl => match us, hl with | [_], _ => rfl, S_law_call, .inl (by decide +kernel), fun cdv => ?_⟩
  exact gives_call (Nat.zero_le _) kh (kc_of hA hB xc) rfl rfl rfl rfl (by decide +kernel) (by decide +kernel) (by decide +kernel) rfl
end
end TY
set_option maxHeartbeats 4000000
namespace TY
open PySem PySem.Spec PyProof.Rows L2
theorem exB_lt {n : Nat} (h : exB n = true) : n < 14 := by
  simp only [exB, Bool.or_eq_true, beq_iff_eq] at h
  omega
theorem b_is_int {K : PySem.W.Frag} {p : Addr} {fd : FuncData} (F : Fun K "is_int" "is_int" s_is_int p fd) : Binds K fd P_is_int [] := F.binds fun _ _ _ _ _ _ us hl => match us, hl with | [_, _, _], _ => rfl
theorem b_is_machine {K : PySem.W.Frag} {p : Addr} {fd : FuncData} (F : Fun K "is_machine" "is_machine" s_is_machine p fd) : Binds K fd P_is_machine [] := F.binds fun _ _ _ _ _ _ us hl => match us, hl with | [_], _ => rfl
theorem b_are_presses {K : PySem.W.Frag} {p : Addr} {fd : FuncData} (F : Fun K "are_presses" "are_presses" s_are_presses p fd) : Binds K fd P_are_presses [] := F.binds fun _ _ _ _ _ _ us hl => match us, hl with | [_], _ => rfl
theorem b_is_row {K : PySem.W.Frag} {p : Addr} {fd : FuncData} (F : Fun K "is_row" "is_row" s_is_row p fd) : Binds K fd P_is_row [] := F.binds fun _ _ _ _ _ _ us hl => match us, hl with | [_], _ => rfl
theorem b_is_cell {K : PySem.W.Frag} {p : Addr} {fd : FuncData} (F : Fun K "is_cell" "is_cell" s_is_cell p fd) : Binds K fd P_is_cell [] := F.binds fun _ _ _ _ _ _ us hl => match us, hl with | [_], _ => rfl
theorem b_total {K : PySem.W.Frag} {p : Addr} {fd : FuncData} (F : Fun K "total" "total" s_total p fd) : Binds K fd P_total [] := F.binds fun _ _ _ _ _ _ us hl => match us, hl with | [_], _ => rfl
theorem b_are_cells {K : PySem.W.Frag} {p : Addr} {fd : FuncData} (F : Fun K "are_cells" "are_cells" s_are_cells p fd) : Binds K fd P_are_cells [] := F.binds fun _ _ _ _ _ _ us hl => match us, hl with | [_], _ => rfl
theorem b_is_sheet_of {K : PySem.W.Frag} {p : Addr} {fd : FuncData} (F : Fun K "is_sheet_of" "is_sheet_of" s_is_sheet_of p fd) : Binds K fd P_is_sheet_of [] := F.binds fun _ _ _ _ _ _ us hl => match us, hl with | [_, _], _ => rfl
theorem b_need_machine {K : PySem.W.Frag} {p : Addr} {fd : FuncData} (F : Fun K "need_machine" "need_machine" s_need_machine p fd) : Binds K fd P_need_machine [] := F.binds fun _ _ _ _ _ _ us hl => match us, hl with | [_], _ => rfl
theorem b_need_row {K : PySem.W.Frag} {p : Addr} {fd : FuncData} (F : Fun K "need_row" "need_row" s_need_row p fd) : Binds K fd P_need_row [] := F.binds fun _ _ _ _ _ _ us hl => match us, hl with | [_], _ => rfl
theorem b_need_sheet {K : PySem.W.Frag} {p : Addr} {fd : FuncData} (F : Fun K "need_sheet" "need_sheet" s_need_sheet p fd) : Binds K fd P_need_sheet [] := F.binds fun _ _ _ _ _ _ us hl => match us, hl with | [_, _], _ => rfl
theorem b_need_column {K : PySem.W.Frag} {p : Addr} {fd : FuncData} (F : Fun K "need_column" "need_column" s_need_column p fd) : Binds K fd P_need_column [] := F.binds fun _ _ _ _ _ _ us hl => match us, hl with | [_, _], _ => rfl
theorem b_blank {K : PySem.W.Frag} {p : Addr} {fd : FuncData} (F : Fun K "blank" "blank" s_blank p fd) : Binds K fd P_blank [] := F.binds fun _ _ _ _ _ _ us hl => match us, hl with | [_], _ => rfl
theorem b_printed {K : PySem.W.Frag} {p : Addr} {fd : FuncData} (F : Fun K "printed" "printed" s_printed p fd) : Binds K fd P_printed [] := F.binds fun _ _ _ _ _ _ us hl => match us, hl with | [_], _ => rfl
theorem b_goes_on {K : PySem.W.Frag} {p : Addr} {fd : FuncData} (F : Fun K "goes_on" "goes_on" s_goes_on p fd) : Binds K fd P_goes_on [] := F.binds fun _ _ _ _ _ _ us hl => match us, hl with | [_], _ => rfl
theorem b_moved {K : PySem.W.Frag} {p : Addr} {fd : FuncData} (F : Fun K "moved" "moved" s_moved p fd) : Binds K fd P_moved [] := F.binds fun _ _ _ _ _ _ us hl => match us, hl with | [_, _, _], _ => rfl
theorem b_with_mark {K : PySem.W.Frag} {p : Addr} {fd : FuncData} (F : Fun K "with_mark" "with_mark" s_with_mark p fd) : Binds K fd P_with_mark [] := F.binds fun _ _ _ _ _ _ us hl => match us, hl with | [_, _, _], _ => rfl
theorem b_led {K : PySem.W.Frag} {p : Addr} {fd : FuncData} (F : Fun K "led" "led" s_led p fd) : Binds K fd P_led [] := F.binds fun _ _ _ _ _ _ us hl => match us, hl with | [_, _, _, _], _ => rfl
theorem b_at_first {K : PySem.W.Frag} {p : Addr} {fd : FuncData} (F : Fun K "at_first" "at_first" s_at_first p fd) : Binds K fd P_at_first [] := F.binds fun _ _ _ _ _ _ us hl => match us, hl with | [_, _], _ => rfl
theorem b_typed {K : PySem.W.Frag} {p : Addr} {fd : FuncData} (F : Fun K "typed" "typed" s_typed p fd) : Binds K fd P_typed [] := F.binds fun _ _ _ _ _ _ us hl => match us, hl with | [_, _], _ => rfl
theorem b_typed_on {K : PySem.W.Frag} {p : Addr} {fd : FuncData} (F : Fun K "typed_on" "typed_on" s_typed_on p fd) : Binds K fd P_typed_on [] := F.binds fun _ _ _ _ _ _ us hl => match us, hl with | [_, _, _, _], _ => rfl
theorem b_law_crate {K : PySem.W.Frag} {p : Addr} {fd : FuncData} (F : Fun K "_law_crate" "_law_crate" s_law_crate p fd) : Binds K fd P_law_crate [] := F.binds fun _ _ _ _ _ _ us hl => match us, hl with | [_, _], _ => rfl
theorem b_law_dig {K : PySem.W.Frag} {p : Addr} {fd : FuncData} (F : Fun K "_law_dig" "_law_dig" s_law_dig p fd) : Binds K fd P_law_dig [] := F.binds fun _ _ _ _ _ _ us hl => match us, hl with | [_, _], _ => rfl
theorem b_law_one_of {K : PySem.W.Frag} {p : Addr} {fd : FuncData} (F : Fun K "_law_one_of" "_law_one_of" s_law_one_of p fd) : Binds K fd P_law_one_of [] := F.binds fun _ _ _ _ _ _ us hl => match us, hl with | [_, _], _ => rfl
theorem b_law_machine {K : PySem.W.Frag} {p : Addr} {fd : FuncData} (F : Fun K "_law_machine" "_law_machine" s_law_machine p fd) : Binds K fd P_law_machine [] := F.binds fun _ _ _ _ _ _ us hl => match us, hl with | [_, _], _ => rfl
theorem b_law_row {K : PySem.W.Frag} {p : Addr} {fd : FuncData} (F : Fun K "_law_row" "_law_row" s_law_row p fd) : Binds K fd P_law_row [] := F.binds fun _ _ _ _ _ _ us hl => match us, hl with | [_, _], _ => rfl
theorem b_law_goes {K : PySem.W.Frag} {p : Addr} {fd : FuncData} (F : Fun K "_law_goes" "_law_goes" s_law_goes p fd) : Binds K fd P_law_goes [] := F.binds fun _ _ _ _ _ _ us hl => match us, hl with | [_, _, _], _ => rfl
theorem b_law_sign {K : PySem.W.Frag} {p : Addr} {fd : FuncData} (F : Fun K "_law_sign" "_law_sign" s_law_sign p fd) : Binds K fd P_law_sign [] := F.binds fun _ _ _ _ _ _ us hl => match us, hl with | [_], _ => rfl
theorem b_law_typed {K : PySem.W.Frag} {p : Addr} {fd : FuncData} (F : Fun K "_law_typed" "_law_typed" s_law_typed p fd) : Binds K fd P_law_typed [] := F.binds fun _ _ _ _ _ _ us hl => match us, hl with | [_, _, _, _], _ => rfl
theorem b_law_blank {K : PySem.W.Frag} {p : Addr} {fd : FuncData} (F : Fun K "_law_blank" "_law_blank" s_law_blank p fd) : Binds K fd P_law_blank [] := F.binds fun _ _ _ _ _ _ us hl => match us, hl with | [_], _ => rfl
theorem b_law_at_first {K : PySem.W.Frag} {p : Addr} {fd : FuncData} (F : Fun K "_law_at_first" "_law_at_first" s_law_at_first p fd) : Binds K fd P_law_at_first [] := F.binds fun _ _ _ _ _ _ us hl => match us, hl with | [_, _], _ => rfl
theorem b_law_sheet {K : PySem.W.Frag} {p : Addr} {fd : FuncData} (F : Fun K "_law_sheet" "_law_sheet" s_law_sheet p fd) : Binds K fd P_law_sheet [] := F.binds fun _ _ _ _ _ _ us hl => match us, hl with | [_, _, _], _ => rfl
theorem tab {K : PySem.W.Frag} {mg : Str → Option Value} (d0 : DF K mg "is_int" s_is_int) (d1 : DF K mg "is_machine" s_is_machine) (d2 : DF K mg "are_presses" s_are_presses) (d3 : DF K mg "is_row" s_is_row) (d4 : DF K mg "is_cell" s_is_cell) (d5 : DF K mg "total" s_total) (d6 : DF K mg "are_cells" s_are_cells) (d7 : DF K mg "is_sheet_of" s_is_sheet_of) (d8 : DF K mg "need_machine" s_need_machine) (d9 : DF K mg "need_row" s_need_row) (d10 : DF K mg "need_sheet" s_need_sheet) (d11 : DF K mg "need_column" s_need_column) (d12 : DF K mg "blank" s_blank) (d13 : DF K mg "printed" s_printed) (d14 : DF K mg "goes_on" s_goes_on) (d15 : DF K mg "moved" s_moved) (d16 : DF K mg "with_mark" s_with_mark) (d17 : DF K mg "led" s_led) (d18 : DF K mg "at_first" s_at_first) (d19 : DF K mg "typed" s_typed) (d20 : DF K mg "typed_on" s_typed_on) (d21 : DF K mg "_law_crate" s_law_crate) (d22 : DF K mg "_law_dig" s_law_dig) (d23 : DF K mg "_law_one_of" s_law_one_of) (d24 : DF K mg "_law_machine" s_law_machine) (d25 : DF K mg "_law_row" s_law_row) (d26 : DF K mg "_law_goes" s_law_goes) (d27 : DF K mg "_law_sign" s_law_sign) (d28 : DF K mg "_law_typed" s_law_typed) (d29 : DF K mg "_law_blank" s_law_blank) (d30 : DF K mg "_law_at_first" s_law_at_first) (d31 : DF K mg "_law_sheet" s_law_sheet) (wf : Nat) : ∀ f fn, fb f = some fn → DefT K mg G0 fN fb wf f fn := by
  intro f fn h
  unfold fb at h
  split at h
  · cases h; exact ⟨s_is_int, N_is_int, P_is_int, d0, by decide +kernel, b_is_int, S_is_int, rfl, rfl, fun B => B_is_int B⟩
  · cases h; exact ⟨s_is_machine, N_is_machine, P_is_machine, d1, by decide +kernel, b_is_machine, S_is_machine, rfl, rfl, fun B => B_is_machine B⟩
  · cases h; exact ⟨s_are_presses, N_are_presses, P_are_presses, d2, by decide +kernel, b_are_presses, S_are_presses, rfl, rfl, fun B => B_are_presses B⟩
  · cases h; exact ⟨s_is_row, N_is_row, P_is_row, d3, by decide +kernel, b_is_row, S_is_row, rfl, rfl, fun B => B_is_row B⟩
  · cases h; exact ⟨s_is_cell, N_is_cell, P_is_cell, d4, by decide +kernel, b_is_cell, S_is_cell, rfl, rfl, fun B => B_is_cell B⟩
  · cases h; exact ⟨s_total, N_total, P_total, d5, by decide +kernel, b_total, S_total, rfl, rfl, fun B => B_total B⟩
  · cases h; exact ⟨s_are_cells, N_are_cells, P_are_cells, d6, by decide +kernel, b_are_cells, S_are_cells, rfl, rfl, fun B => B_are_cells B⟩
  · cases h; exact ⟨s_is_sheet_of, N_is_sheet_of, P_is_sheet_of, d7, by decide +kernel, b_is_sheet_of, S_is_sheet_of, rfl, rfl, fun B => B_is_sheet_of B⟩
  · cases h; exact ⟨s_need_machine, N_need_machine, P_need_machine, d8, by decide +kernel, b_need_machine, S_need_machine, rfl, rfl, fun B => B_need_machine B⟩
  · cases h; exact ⟨s_need_row, N_need_row, P_need_row, d9, by decide +kernel, b_need_row, S_need_row, rfl, rfl, fun B => B_need_row B⟩
  · cases h; exact ⟨s_need_sheet, N_need_sheet, P_need_sheet, d10, by decide +kernel, b_need_sheet, S_need_sheet, rfl, rfl, fun B => B_need_sheet B⟩
  · cases h; exact ⟨s_need_column, N_need_column, P_need_column, d11, by decide +kernel, b_need_column, S_need_column, rfl, rfl, fun B => B_need_column B⟩
  · cases h; exact ⟨s_blank, N_blank, P_blank, d12, by decide +kernel, b_blank, S_blank, rfl, rfl, fun B => B_blank B⟩
  · cases h; exact ⟨s_printed, N_printed, P_printed, d13, by decide +kernel, b_printed, S_printed, rfl, rfl, fun B => B_printed B⟩
  · cases h; exact ⟨s_goes_on, N_goes_on, P_goes_on, d14, by decide +kernel, b_goes_on, S_goes_on, rfl, rfl, fun B => B_goes_on B⟩
  · cases h; exact ⟨s_moved, N_moved, P_moved, d15, by decide +kernel, b_moved, S_moved, rfl, rfl, fun B => B_moved B⟩
  · cases h; exact ⟨s_with_mark, N_with_mark, P_with_mark, d16, by decide +kernel, b_with_mark, S_with_mark, rfl, rfl, fun B => B_with_mark B⟩
  · cases h; exact ⟨s_led, N_led, P_led, d17, by decide +kernel, b_led, S_led, rfl, rfl, fun B => B_led B⟩
  · cases h; exact ⟨s_at_first, N_at_first, P_at_first, d18, by decide +kernel, b_at_first, S_at_first, rfl, rfl, fun B => B_at_first B⟩
  · cases h; exact ⟨s_typed, N_typed, P_typed, d19, by decide +kernel, b_typed, S_typed, rfl, rfl, fun B => B_typed B⟩
  · cases h; exact ⟨s_typed_on, N_typed_on, P_typed_on, d20, by decide +kernel, b_typed_on, S_typed_on, rfl, rfl, fun B => B_typed_on B⟩
  · cases h; exact ⟨s_law_crate, N_law_crate, P_law_crate, d21, by decide +kernel, b_law_crate, S_law_crate, rfl, rfl, fun B => B_law_crate B⟩
  · cases h; exact ⟨s_law_dig, N_law_dig, P_law_dig, d22, by decide +kernel, b_law_dig, S_law_dig, rfl, rfl, fun B => B_law_dig B⟩
  · cases h; exact ⟨s_law_one_of, N_law_one_of, P_law_one_of, d23, by decide +kernel, b_law_one_of, S_law_one_of, rfl, rfl, fun B => B_law_one_of B⟩
  · cases h; exact ⟨s_law_machine, N_law_machine, P_law_machine, d24, by decide +kernel, b_law_machine, S_law_machine, rfl, rfl, fun B => B_law_machine B⟩
  · cases h; exact ⟨s_law_row, N_law_row, P_law_row, d25, by decide +kernel, b_law_row, S_law_row, rfl, rfl, fun B => B_law_row B⟩
  · cases h; exact ⟨s_law_goes, N_law_goes, P_law_goes, d26, by decide +kernel, b_law_goes, S_law_goes, rfl, rfl, fun B => B_law_goes B⟩
  · cases h; exact ⟨s_law_sign, N_law_sign, P_law_sign, d27, by decide +kernel, b_law_sign, S_law_sign, rfl, rfl, fun B => B_law_sign B⟩
  · cases h; exact ⟨s_law_typed, N_law_typed, P_law_typed, d28, by decide +kernel, b_law_typed, S_law_typed, rfl, rfl, fun B => B_law_typed B⟩
  · cases h; exact ⟨s_law_blank, N_law_blank, P_law_blank, d29, by decide +kernel, b_law_blank, S_law_blank, rfl, rfl, fun B => B_law_blank B⟩
  · cases h; exact ⟨s_law_at_first, N_law_at_first, P_law_at_first, d30, by decide +kernel, b_law_at_first, S_law_at_first, rfl, rfl, fun B => B_law_at_first B⟩
  · cases h; exact ⟨s_law_sheet, N_law_sheet, P_law_sheet, d31, by decide +kernel, b_law_sheet, S_law_sheet, rfl, rfl, fun B => B_law_sheet B⟩
  · cases h
theorem fb_sub : ∀ f fn, fb f = some fn → fs f = some fn := by
  intro f fn h
  unfold fb at h
  split at h
  · exact h
  · exact h
  · exact h
  · exact h
  · exact h
  · exact h
  · exact h
  · exact h
  · exact h
  · exact h
  · exact h
  · exact h
  · exact h
  · exact h
  · exact h
  · exact h
  · exact h
  · exact h
  · exact h
  · exact h
  · exact h
  · exact h
  · exact h
  · exact h
  · exact h
  · exact h
  · exact h
  · exact h
  · exact h
  · exact h
  · exact h
  · exact h
  · cases h
theorem txt {K : PySem.W.Frag} {mg : Str → Option Value} (n0 : mg "abs" = none) (n1 : mg "int" = none) (n2 : mg "min" = none) (n3 : mg "max" = none) (n4 : mg "len" = none) (n5 : mg "sum" = none) (n6 : mg "all" = none) (n7 : mg "any" = none) (n8 : mg "sorted" = none) (n9 : mg "set" = none) (n10 : mg "tuple" = none) (n11 : mg "list" = none) (n12 : mg "dict" = none) (n13 : mg "str" = none) (n14 : mg "bool" = none) (n15 : mg "range" = none) (n16 : mg "enumerate" = none) (n17 : mg "zip" = none) (n18 : mg "isinstance" = none) (g0 : GF K mg "PRESSES" (.str [32, 60, 65, 66, 67, 97, 98, 99])) (g1 : GF K mg "SIGNS" (.str [97, 98, 99])) (g2 : GF K mg "MOST_PRESSES" (.int 30)) (g3 : GF K mg "MOST_MARKS" (.int 8)) (e0 : XF K mg "InvalidMachine") (e1 : XF K mg "InvalidRow") (e2 : XF K mg "InvalidSheet") (e3 : XF K mg "InvalidColumn") : Txt K mg G0 := by
  refine ⟨fun x hx => ?_, fun g d hd => ?_, fun n hn => ?_⟩
  · have hx : x ∈ bNs := List.elem_iff.mp hx
    simp only [bNs, List.mem_cons, List.not_mem_nil, or_false] at hx
    rcases hx with rfl | rfl | rfl | rfl | rfl | rfl | rfl | rfl | rfl | rfl | rfl | rfl | rfl | rfl | rfl | rfl | rfl | rfl | rfl
    · exact n0
    · exact n1
    · exact n2
    · exact n3
    · exact n4
    · exact n5
    · exact n6
    · exact n7
    · exact n8
    · exact n9
    · exact n10
    · exact n11
    · exact n12
    · exact n13
    · exact n14
    · exact n15
    · exact n16
    · exact n17
    · exact n18
  · unfold G0 gls at hd
    simp only at hd
    split at hd
    · cases hd; exact g0
    · cases hd; exact g1
    · cases hd; exact g2
    · cases hd; exact g3
    · cases hd
  · have hn : exB n = true := hn
    simp only [exB, Bool.or_eq_true, beq_iff_eq] at hn
    rcases hn with ((rfl | rfl) | rfl) | rfl
    · exact e0
    · exact e1
    · exact e2
    · exact e3
theorem xc_of {K : PySem.W.Frag} {mg : Str → Option Value} (x0 : XcF K mg 1) (x1 : XcF K mg 2) (x2 : XcF K mg 3) (x3 : XcF K mg 5) : ∀ m, G0.ex m = true → XcF K mg m := by
  intro n hn
  have hn : exB n = true := hn
  simp only [exB, Bool.or_eq_true, beq_iff_eq] at hn
  rcases hn with ((rfl | rfl) | rfl) | rfl
  · exact x0
  · exact x1
  · exact x2
  · exact x3
theorem all_mk {P : Program} {w : World} {K : PySem.W.Frag} {mg : Str → Option Value} {fa A B : Addr} (TX : Txt K mg G0) (hve : mg "ValueError" = none) (xc : ∀ m, G0.ex m = true → XcF K mg m) (hA : mg "TooMany" = some (.ref A)) (hB : mg "TypeOverError" = some (.ref B)) (dk : DF K mg "_law_kinds" s_law_kinds) (dl : DF K mg "_law_call" s_law_call) (d0 : DF K mg "is_int" s_is_int) (d1 : DF K mg "is_machine" s_is_machine) (d2 : DF K mg "are_presses" s_are_presses) (d3 : DF K mg "is_row" s_is_row) (d4 : DF K mg "is_cell" s_is_cell) (d5 : DF K mg "total" s_total) (d6 : DF K mg "are_cells" s_are_cells) (d7 : DF K mg "is_sheet_of" s_is_sheet_of) (d8 : DF K mg "need_machine" s_need_machine) (d9 : DF K mg "need_row" s_need_row) (d10 : DF K mg "need_sheet" s_need_sheet) (d11 : DF K mg "need_column" s_need_column) (d12 : DF K mg "blank" s_blank) (d13 : DF K mg "printed" s_printed) (d14 : DF K mg "goes_on" s_goes_on) (d15 : DF K mg "moved" s_moved) (d16 : DF K mg "with_mark" s_with_mark) (d17 : DF K mg "led" s_led) (d18 : DF K mg "at_first" s_at_first) (d19 : DF K mg "typed" s_typed) (d20 : DF K mg "typed_on" s_typed_on) (d21 : DF K mg "_law_crate" s_law_crate) (d22 : DF K mg "_law_dig" s_law_dig) (d23 : DF K mg "_law_one_of" s_law_one_of) (d24 : DF K mg "_law_machine" s_law_machine) (d25 : DF K mg "_law_row" s_law_row) (d26 : DF K mg "_law_goes" s_law_goes) (d27 : DF K mg "_law_sign" s_law_sign) (d28 : DF K mg "_law_typed" s_law_typed) (d29 : DF K mg "_law_blank" s_law_blank) (d30 : DF K mg "_law_at_first" s_law_at_first) (d31 : DF K mg "_law_sheet" s_law_sheet)
    {c Pt : Addr} (L : ∃ fd, LawC K fa s_law_k02 fd c Pt) : ∃ (fd : FuncData) (c Pt : Addr), LawC K fa s_law_k02 fd c Pt ∧ (∀ (s : Shared) (u : Value), BindsTo s fd ⟨[u], []⟩ [("script", u)]) ∧ ∀ base : Heap, LamX.TabB base mg c Pt → FnOk P w K mg base (L2N.CX P w) 33 fa fd ["script"] (spL [(Pt, lamQ)] K) := by
  obtain ⟨fd, L⟩ := L
  have F := L.F
  have hb : ∀ (s : Shared) (u : Value), BindsTo s fd ⟨[u], []⟩ [("script", u)] := by
    obtain ⟨oc, od, kV, doc, pm, an, cdv, ct, osl, rfl, _, _⟩ := F.ex
    exact fun s u => .of_eq rfl
  refine ⟨fd, c, Pt, L, hb, fun base tb => ?_⟩
  have hF := law_okC (P := P) (w := w) (base := base) (k := 30) (kk := 0) (fk := 0) (fsk := fsk) (fs := fs) (fb := fb) (wf := 64) (f := 90) (T := [(Pt, lamQ)]) TX (fun n h => exB_lt h) fb_sub (tab d0 d1 d2 d3 d4 d5 d6 d7 d8 d9 d10 d11 d12 d13 d14 d15 d16 d17 d18 d19 d20 d21 d22 d23 d24 d25 d26 d27 d28 d29 d30 d31 64) rfl F S_law_k02 rfl rfl L.hc tb rfl kd_ok (lc_ok TX hve xc dk dl hA hB) (fun B Dc => B_law_k02 B Dc)
  exact law_ok hF fun ns hn => law_holds ns hn
end TY
open PySem PySem.W PyProof.Rows
set_option maxHeartbeats 16000000 in
theorem PySem.Challenge.cw_typedover_k02_what_rows_leave_holds : PySem.Challenge.rw_typedover_k02_what_rows_leave.Holds := by
  w_on; o_law; k_head; (case hw => w_witness2)
  k_fill
  refine TY.walk_xC (l := PySem.Challenge.rw_typedover_k02_what_rows_leave) (n := 63) (k := 33) (x := "script") (st := TY.s_law_k02) rfl (by decide) rfl ⟨rfl, by decide, by decide⟩ (by rfl) (fun w h Y => by first | exact PySem.W.km_in_of Y | exact PySem.W.kIn_of Y) ?F
  case F =>
    intro w mg fa h KX G hmg
    refine' (fun hcs => ?zzmain) (TY.cs14 KX G ?zzh0 ?zzh1 ?zzh2 ?zzh3 ?zzh4 ?zzh5 ?zzh6 ?zzh7 ?zzh8 ?zzh9 ?zzh10 ?zzh11 ?zzh12 ?zzh13)
    (case zzh0 => k_is)
    (case zzh1 => k_is)
    (case zzh2 => k_is)
    (case zzh3 => k_is)
    (case zzh4 => k_is)
    (case zzh5 => k_is)
    (case zzh6 => k_is)
    (case zzh7 => k_is)
    (case zzh8 => k_is)
    (case zzh9 => k_is)
    (case zzh10 => k_is)
    (case zzh11 => k_is)
    (case zzh12 => k_is)
    (case zzh13 => k_is)
    refine' TY.all_mk (TY.txt (PySem.W.mg_none_of KX G ?zzn0) (PySem.W.mg_none_of KX G ?zzn1) (PySem.W.mg_none_of KX G ?zzn2) (PySem.W.mg_none_of KX G ?zzn3) (PySem.W.mg_none_of KX G ?zzn4) (PySem.W.mg_none_of KX G ?zzn5) (PySem.W.mg_none_of KX G ?zzn6) (PySem.W.mg_none_of KX G ?zzn7) (PySem.W.mg_none_of KX G ?zzn8) (PySem.W.mg_none_of KX G ?zzn9) (PySem.W.mg_none_of KX G ?zzn10) (PySem.W.mg_none_of KX G ?zzn11) (PySem.W.mg_none_of KX G ?zzn12) (PySem.W.mg_none_of KX G ?zzn13) (PySem.W.mg_none_of KX G ?zzn14) (PySem.W.mg_none_of KX G ?zzn15) (PySem.W.mg_none_of KX G ?zzn16) (PySem.W.mg_none_of KX G ?zzn17) (PySem.W.mg_none_of KX G ?zzn18) (TY.gf_str KX G ?zzg0 ?zzw0) (TY.gf_str KX G ?zzg1 ?zzw1) (TY.gf_int KX G ?zzg2) (TY.gf_int KX G ?zzg3) (TY.xf_mk KX G ?zzxa0 ?zzxq0 PySem.F.excBase_ValueError ?zzxk0 ?zzxs0 ?zzxt0) (TY.xf_mk KX G ?zzxa1 ?zzxq1 PySem.F.excBase_ValueError ?zzxk1 ?zzxs1 ?zzxt1) (TY.xf_mk KX G ?zzxa2 ?zzxq2 PySem.F.excBase_ValueError ?zzxk2 ?zzxs2 ?zzxt2) (TY.xf_mk KX G ?zzxa3 ?zzxq3 PySem.F.excBase_ValueError ?zzxk3 ?zzxs3 ?zzxt3)) (PySem.W.mg_none_of KX G ?zzve) (TY.xc_of (TY.xcf_mk2 _ hcs (m := 1) (by decide) rfl rfl rfl ?zzya0 ?zzyb0 ?zzyc0 ?zzyd0 ?zzye0 ?zzyf0 ?zzyg0 ?zzyh0 ?zzyi0 ?zzyj0 ?zzyk0 ?zzyl0) (TY.xcf_mk2 _ hcs (m := 2) (by decide) rfl rfl rfl ?zzya1 ?zzyb1 ?zzyc1 ?zzyd1 ?zzye1 ?zzyf1 ?zzyg1 ?zzyh1 ?zzyi1 ?zzyj1 ?zzyk1 ?zzyl1) (TY.xcf_mk2 _ hcs (m := 3) (by decide) rfl rfl rfl ?zzya2 ?zzyb2 ?zzyc2 ?zzyd2 ?zzye2 ?zzyf2 ?zzyg2 ?zzyh2 ?zzyi2 ?zzyj2 ?zzyk2 ?zzyl2) (TY.xcf_mk2 _ hcs (m := 5) (by decide) rfl rfl rfl ?zzya3 ?zzyb3 ?zzyc3 ?zzyd3 ?zzye3 ?zzyf3 ?zzyg3 ?zzyh3 ?zzyi3 ?zzyj3 ?zzyk3 ?zzyl3)) (hcs 13 (by decide)) (hcs 0 (by decide)) (TY.df_mk KX G ?zzka ?zzkl ?zzkc ?zzkk) (TY.df_mk KX G ?zzca ?zzcl ?zzcc ?zzck) (TY.df_mk KX G ?zza0 ?zzl0 ?zzc0 ?zzk0) (TY.df_mk KX G ?zza1 ?zzl1 ?zzc1 ?zzk1) (TY.df_mk KX G ?zza2 ?zzl2 ?zzc2 ?zzk2) (TY.df_mk KX G ?zza3 ?zzl3 ?zzc3 ?zzk3) (TY.df_mk KX G ?zza4 ?zzl4 ?zzc4 ?zzk4) (TY.df_mk KX G ?zza5 ?zzl5 ?zzc5 ?zzk5) (TY.df_mk KX G ?zza6 ?zzl6 ?zzc6 ?zzk6) (TY.df_mk KX G ?zza7 ?zzl7 ?zzc7 ?zzk7) (TY.df_mk KX G ?zza8 ?zzl8 ?zzc8 ?zzk8) (TY.df_mk KX G ?zza9 ?zzl9 ?zzc9 ?zzk9) (TY.df_mk KX G ?zza10 ?zzl10 ?zzc10 ?zzk10) (TY.df_mk KX G ?zza11 ?zzl11 ?zzc11 ?zzk11) (TY.df_mk KX G ?zza12 ?zzl12 ?zzc12 ?zzk12) (TY.df_mk KX G ?zza13 ?zzl13 ?zzc13 ?zzk13) (TY.df_mk KX G ?zza14 ?zzl14 ?zzc14 ?zzk14) (TY.df_mk KX G ?zza15 ?zzl15 ?zzc15 ?zzk15) (TY.df_mk KX G ?zza16 ?zzl16 ?zzc16 ?zzk16) (TY.df_mk KX G ?zza17 ?zzl17 ?zzc17 ?zzk17) (TY.df_mk KX G ?zza18 ?zzl18 ?zzc18 ?zzk18) (TY.df_mk KX G ?zza19 ?zzl19 ?zzc19 ?zzk19) (TY.df_mk KX G ?zza20 ?zzl20 ?zzc20 ?zzk20) (TY.df_mk KX G ?zza21 ?zzl21 ?zzc21 ?zzk21) (TY.df_mk KX G ?zza22 ?zzl22 ?zzc22 ?zzk22) (TY.df_mk KX G ?zza23 ?zzl23 ?zzc23 ?zzk23) (TY.df_mk KX G ?zza24 ?zzl24 ?zzc24 ?zzk24) (TY.df_mk KX G ?zza25 ?zzl25 ?zzc25 ?zzk25) (TY.df_mk KX G ?zza26 ?zzl26 ?zzc26 ?zzk26) (TY.df_mk KX G ?zza27 ?zzl27 ?zzc27 ?zzk27) (TY.df_mk KX G ?zza28 ?zzl28 ?zzc28 ?zzk28) (TY.df_mk KX G ?zza29 ?zzl29 ?zzc29 ?zzk29) (TY.df_mk KX G ?zza30 ?zzl30 ?zzc30 ?zzk30) (TY.df_mk KX G ?zza31 ?zzl31 ?zzc31 ?zzk31) (TY.lawc_mk KX G hmg ?zzLa ?zzLl ?zzLc ?zzLk ?zzLo ?zzLe ?zzLn ?zzLh)
    (case zzn0 => k_is)
    (case zzn1 => k_is)
    (case zzn2 => k_is)
    (case zzn3 => k_is)
    (case zzn4 => k_is)
    (case zzn5 => k_is)
    (case zzn6 => k_is)
    (case zzn7 => k_is)
    (case zzn8 => k_is)
    (case zzn9 => k_is)
    (case zzn10 => k_is)
    (case zzn11 => k_is)
    (case zzn12 => k_is)
    (case zzn13 => k_is)
    (case zzn14 => k_is)
    (case zzn15 => k_is)
    (case zzn16 => k_is)
    (case zzn17 => k_is)
    (case zzn18 => k_is)
    (case zzve => k_is)
    (case zzg0 => k_is); (case zzw0 => decide +kernel)
    (case zzg1 => k_is); (case zzw1 => decide +kernel)
    (case zzg2 => k_is)
    (case zzg3 => k_is)
    (case zzxa0 => k_is); (case zzxq0 => k_exc); (case zzxk0 => k_is); (case zzxs0 => k_is); (case zzxt0 => k_is)
    (case zzxa1 => k_is); (case zzxq1 => k_exc); (case zzxk1 => k_is); (case zzxs1 => k_is); (case zzxt1 => k_is)
    (case zzxa2 => k_is); (case zzxq2 => k_exc); (case zzxk2 => k_is); (case zzxs2 => k_is); (case zzxt2 => k_is)
    (case zzxa3 => k_is); (case zzxq3 => k_exc); (case zzxk3 => k_is); (case zzxs3 => k_is); (case zzxt3 => k_is)
    (case zzya0 => first | k_is | kernel_rfl); (case zzyb0 => first | k_is | kernel_rfl); (case zzyc0 => first | k_is | kernel_rfl); (case zzyd0 => first | k_is | kernel_rfl); (case zzye0 => first | k_is | kernel_rfl); (case zzyf0 => first | k_is | kernel_rfl); (case zzyg0 => first | k_is | kernel_rfl); (case zzyh0 => first | k_is | kernel_rfl); (case zzyi0 => first | k_is | kernel_rfl); (case zzyj0 => first | k_is | kernel_rfl); (case zzyk0 => first | k_is | kernel_rfl); (case zzyl0 => first | k_is | kernel_rfl)
    (case zzya1 => first | k_is | kernel_rfl); (case zzyb1 => first | k_is | kernel_rfl); (case zzyc1 => first | k_is | kernel_rfl); (case zzyd1 => first | k_is | kernel_rfl); (case zzye1 => first | k_is | kernel_rfl); (case zzyf1 => first | k_is | kernel_rfl); (case zzyg1 => first | k_is | kernel_rfl); (case zzyh1 => first | k_is | kernel_rfl); (case zzyi1 => first | k_is | kernel_rfl); (case zzyj1 => first | k_is | kernel_rfl); (case zzyk1 => first | k_is | kernel_rfl); (case zzyl1 => first | k_is | kernel_rfl)
    (case zzya2 => first | k_is | kernel_rfl); (case zzyb2 => first | k_is | kernel_rfl); (case zzyc2 => first | k_is | kernel_rfl); (case zzyd2 => first | k_is | kernel_rfl); (case zzye2 => first | k_is | kernel_rfl); (case zzyf2 => first | k_is | kernel_rfl); (case zzyg2 => first | k_is | kernel_rfl); (case zzyh2 => first | k_is | kernel_rfl); (case zzyi2 => first | k_is | kernel_rfl); (case zzyj2 => first | k_is | kernel_rfl); (case zzyk2 => first | k_is | kernel_rfl); (case zzyl2 => first | k_is | kernel_rfl)
    (case zzya3 => first | k_is | kernel_rfl); (case zzyb3 => first | k_is | kernel_rfl); (case zzyc3 => first | k_is | kernel_rfl); (case zzyd3 => first | k_is | kernel_rfl); (case zzye3 => first | k_is | kernel_rfl); (case zzyf3 => first | k_is | kernel_rfl); (case zzyg3 => first | k_is | kernel_rfl); (case zzyh3 => first | k_is | kernel_rfl); (case zzyi3 => first | k_is | kernel_rfl); (case zzyj3 => first | k_is | kernel_rfl); (case zzyk3 => first | k_is | kernel_rfl); (case zzyl3 => first | k_is | kernel_rfl)
    (case zzka => k_is); (case zzkl => k_is); (case zzkc => k_is); (case zzkk => k_is)
    (case zzca => k_is); (case zzcl => k_is); (case zzcc => k_is); (case zzck => k_is)
    (case zza0 => k_is); (case zzl0 => k_is); (case zzc0 => k_is); (case zzk0 => k_is)
    (case zza1 => k_is); (case zzl1 => k_is); (case zzc1 => k_is); (case zzk1 => k_is)
    (case zza2 => k_is); (case zzl2 => k_is); (case zzc2 => k_is); (case zzk2 => k_is)
    (case zza3 => k_is); (case zzl3 => k_is); (case zzc3 => k_is); (case zzk3 => k_is)
    (case zza4 => k_is); (case zzl4 => k_is); (case zzc4 => k_is); (case zzk4 => k_is)
    (case zza5 => k_is); (case zzl5 => k_is); (case zzc5 => k_is); (case zzk5 => k_is)
    (case zza6 => k_is); (case zzl6 => k_is); (case zzc6 => k_is); (case zzk6 => k_is)
    (case zza7 => k_is); (case zzl7 => k_is); (case zzc7 => k_is); (case zzk7 => k_is)
    (case zza8 => k_is); (case zzl8 => k_is); (case zzc8 => k_is); (case zzk8 => k_is)
    (case zza9 => k_is); (case zzl9 => k_is); (case zzc9 => k_is); (case zzk9 => k_is)
    (case zza10 => k_is); (case zzl10 => k_is); (case zzc10 => k_is); (case zzk10 => k_is)
    (case zza11 => k_is); (case zzl11 => k_is); (case zzc11 => k_is); (case zzk11 => k_is)
    (case zza12 => k_is); (case zzl12 => k_is); (case zzc12 => k_is); (case zzk12 => k_is)
    (case zza13 => k_is); (case zzl13 => k_is); (case zzc13 => k_is); (case zzk13 => k_is)
    (case zza14 => k_is); (case zzl14 => k_is); (case zzc14 => k_is); (case zzk14 => k_is)
    (case zza15 => k_is); (case zzl15 => k_is); (case zzc15 => k_is); (case zzk15 => k_is)
    (case zza16 => k_is); (case zzl16 => k_is); (case zzc16 => k_is); (case zzk16 => k_is)
    (case zza17 => k_is); (case zzl17 => k_is); (case zzc17 => k_is); (case zzk17 => k_is)
    (case zza18 => k_is); (case zzl18 => k_is); (case zzc18 => k_is); (case zzk18 => k_is)
    (case zza19 => k_is); (case zzl19 => k_is); (case zzc19 => k_is); (case zzk19 => k_is)
    (case zza20 => k_is); (case zzl20 => k_is); (case zzc20 => k_is); (case zzk20 => k_is)
    (case zza21 => k_is); (case zzl21 => k_is); (case zzc21 => k_is); (case zzk21 => k_is)
    (case zza22 => k_is); (case zzl22 => k_is); (case zzc22 => k_is); (case zzk22 => k_is)
    (case zza23 => k_is); (case zzl23 => k_is); (case zzc23 => k_is); (case zzk23 => k_is)
    (case zza24 => k_is); (case zzl24 => k_is); (case zzc24 => k_is); (case zzk24 => k_is)
    (case zza25 => k_is); (case zzl25 => k_is); (case zzc25 => k_is); (case zzk25 => k_is)
    (case zza26 => k_is); (case zzl26 => k_is); (case zzc26 => k_is); (case zzk26 => k_is)
    (case zza27 => k_is); (case zzl27 => k_is); (case zzc27 => k_is); (case zzk27 => k_is)
    (case zza28 => k_is); (case zzl28 => k_is); (case zzc28 => k_is); (case zzk28 => k_is)
    (case zza29 => k_is); (case zzl29 => k_is); (case zzc29 => k_is); (case zzk29 => k_is)
    (case zza30 => k_is); (case zzl30 => k_is); (case zzc30 => k_is); (case zzk30 => k_is)
    (case zza31 => k_is); (case zzl31 => k_is); (case zzc31 => k_is); (case zzk31 => k_is)
    (case zzLa => k_is); (case zzLl => k_is); (case zzLc => k_is); (case zzLk => k_is); (case zzLo => k_is); (case zzLe => first | rfl | kernel_rfl); (case zzLn => kernel_rfl); (case zzLh => kernel_rfl)
